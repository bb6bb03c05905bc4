import PyProof.Rows.All
import Wide.All
import OpenK.AllK
import Wide.FinOn
import HandS.ForMost
import HandS.Exc
import HandS.TryOnly
import HandS.ExcSuper
import HandS.IsInst
import HandS.Defaults
import HandS.Wide
import HandS.SetKeys
import HandS.Small
import HandS.Deep
import HandS.TupAny
import HandS.SortKw
import HandS.Conv
import KE.KDictKeyed
import KE.SortKeyHeap
import KE.SortData
import KE.LtData
import KE.GoesNewDict
import HandS.Lambda
import HandS.TupMul
import HandS.RaiseMore
import HandS.More
import KE.GoesZip
import KE.GoesMore
import KE.KExcLine
import KE.KExcSuper
import HandS.ExcInit
import KE.KIsAll
import HandS.ExcIs
import HandS.ExcField
import HandS.DictComp
import HandS.Replace
import PyProof.StrCalls6
import KE.KStateDown
import HandS.Base
import HandS.Call
import HandS.Ends
import HandS.Words
import HandS.WordsExc
import HandS.Head0
import HandS.Head1
import HandS.Head2
import HandS.HeadEnd
import HandS.HeadHook1
import HandS.HeadHook2
import HandS.HeadHook3
import HandS.HeadHook4
import HandS.HeadWalk
import HandS.Text
import HandS.Codes
import PySem.Challenge.RW_ledgertrace_k41_why_papers
section
set_option Elab.async false
set_option linter.all false
set_option maxRecDepth 100000
set_option maxHeartbeats 1000000
/-! Core, part A: plain data D, the abstract store, how they lie in the layer's abstract heap. -/
namespace Cr
open PySem PySem.Spec PyProof.Rows L2

/-- plain data; ref n: the changing object n of the abstract store -/
inductive D where
  | non | bl (b : Bool) | int (i : Int) | str (x : Str)
  | tup (l : List D) | lst (l : List D)
  /-- the script -/
  | scr (l : List D)
  | dk (l : List (Key × D)) | dn (l : List (NestedKey × D))
  | ref (n : Nat)

/-- a changing object -/
inductive AO where
  | gone
  | lst (l : List D)
  | dk (l : List (Key × D))
  | dn (l : List (NestedKey × D))
  | ins (c : Nat) (fs : List (Str × D))
  /-- the table of a code object, for the functions that it makes: they bear the name q -/
  | tab (P : Addr) (q : Str)

abbrev Sto := List AO

/-- what is fixed: the program, the world, the written part; classes by number -/
structure Bx where
  prog : Program
  w : World
  K : PySem.W.Frag
  cls : Nat → Addr
/-- an abstract store and where it lies -/
structure Sx where
  rho : Nat → Addr
  A : Sto
  H : Hp
  /-- objects in the making -/
  T : List Addr

/-- at a stands a changing object -/
def Live (S : Sx) (a : Addr) : Prop := (∃ n o, S.A[n]? = some o ∧ o ≠ .gone ∧ S.rho n = a) ∨ a ∈ S.T

/-- a dict with nested keys, as it lies: keys, where they stand, values -/
abbrev Raw := List (NestedKey × Addr × Value)
def rawD (P : Program) (w : World) (a : Addr) (xs : Raw) : HO := .ext fun h => (a == sysModules) = false ∧ xs.length ≤ sizeLine ∧ ∃ o es ep, h.get? a = some o ∧ o.ExactDict ∧ o.data = .dict es ep ∧ es.toList = xs.map (entryOfKey (nestedKind P w))

/-- a nested key as data -/
def ofKey : NestedKey → D
  | .none => .non
  | .num i => .int i
  | .text x => .str x
  | .tup ks => .tup (ofKeys ks)
where ofKeys : List NestedKey → List D
  | [] => []
  | k :: ks => ofKey k :: ofKeys ks

mutual
/-- the value is the key -/
inductive KeyAt (K : PySem.W.Frag) (H : Hp) : NestedKey → V → Prop
  | non : KeyAt K H .none .non
  | int (i : Int) : KeyAt K H (.num i) (.int i)
  | str (x : Str) : KeyAt K H (.text x) (.str x)
  | tup {a : Addr} {vs : List V} {ks : List NestedKey} : SqT K H a vs → KeyAtL K H ks vs → KeyAt K H (.tup ks) (.ref a)
inductive KeyAtL (K : PySem.W.Frag) (H : Hp) : List NestedKey → List V → Prop
  | nil : KeyAtL K H [] []
  | cons {k : NestedKey} {v : V} {ks : List NestedKey} {vs : List V} : KeyAt K H k v → KeyAtL K H ks vs → KeyAtL K H (k :: ks) (v :: vs)
end
mutual
/-- the value v stands for the datum -/
inductive Rep (B : Bx) (S : Sx) : D → V → Prop
  | non : Rep B S .non .non
  | bl (b : Bool) : Rep B S (.bl b) (.bl b)
  | int (i : Int) : Rep B S (.int i) (.int i)
  | str (x : Str) : Rep B S (.str x) (.str x)
  | tup {a : Addr} {vs : List V} {l : List D} : SqT B.K S.H a vs → RepL B S l vs → Rep B S (.tup l) (.ref a)
  | lst {a : Addr} {vs : List V} {l : List D} : S.H a = some (.lst vs) → ¬ Live S a → RepL B S l vs → Rep B S (.lst l) (.ref a)
  | scr {a : Addr} {vs : List V} {l : List D} : Rd S.H a (.lst vs) → ¬ Live S a → RepL B S l vs → Rep B S (.scr l) (.ref a)
  | dk {a : Addr} {kvs : List (Key × V)} {l : List (Key × D)} : Rd S.H a (.dK kvs) → ¬ Live S a → RepK B S l kvs → Rep B S (.dk l) (.ref a)
  | dn {a : Addr} {xs : Raw} {l : List (NestedKey × D)} : Rd S.H a (rawD B.prog B.w a xs) → ¬ Live S a → (l.map (·.1)).Nodup → RepN B S l xs → Rep B S (.dn l) (.ref a)
  | ref {n : Nat} : n < S.A.length → Rep B S (.ref n) (.ref (S.rho n))
inductive RepL (B : Bx) (S : Sx) : List D → List V → Prop
  | nil : RepL B S [] []
  | cons {d : D} {v : V} {l : List D} {vs : List V} : Rep B S d v → RepL B S l vs → RepL B S (d :: l) (v :: vs)
inductive RepK (B : Bx) (S : Sx) : List (Key × D) → List (Key × V) → Prop
  | nil : RepK B S [] []
  | cons {k : Key} {d : D} {v : V} {l : List (Key × D)} {vs : List (Key × V)} : Rep B S d v → RepK B S l vs → RepK B S ((k, d) :: l) ((k, v) :: vs)
inductive RepN (B : Bx) (S : Sx) : List (NestedKey × D) → Raw → Prop
  | nil : RepN B S [] []
  | cons {k : NestedKey} {d : D} {v : V} {ka : Addr} {u : Value} {l : List (NestedKey × D)} {xs : Raw} : KeyAt B.K S.H k (.ref ka) → k.depth ≤ 8 → Rep B S d v → RelV v u → RepN B S l xs → RepN B S ((k, d) :: l) ((k, ka, u) :: xs)
end

/-- what a walk may lock: a dict -/
def isTb : HO → Prop
  | .dK _ => True
  | .ext _ => True
  | _ => False
/-- a later state: what stood and was no changing object stands -/
structure Ext0 (S S' : Sx) : Prop where
  len : S.A.length ≤ S'.A.length
  rho : ∀ n, n < S.A.length → S'.rho n = S.rho n
  per : ∀ a o, S.H a = some o → ¬ Live S a → (S'.H a = some o ∨ (isTb o ∧ ∃ ob, S'.H a = some (.frz ob o))) ∧ ¬ Live S' a
  tup : ∀ a xs, Rd S.H a (.tup xs) → Rd S'.H a (.tup xs)
structure Ext (S S' : Sx) : Prop extends Ext0 S S' where
  scr : ∀ a, a ∈ S.T → a ∈ S'.T ∧ ∀ u, S.H a = some u → S'.H a = some u
theorem Ext.refl (S : Sx) : Ext S S := ⟨⟨Nat.le_refl _, fun _ _ => rfl, fun _ _ h n => ⟨.inl h, n⟩, fun _ _ h => h⟩, fun _ h => ⟨h, fun _ h => h⟩⟩
theorem Ext0.stays {S S' : Sx} (e : Ext0 S S') {a : Addr} {o : HO} (h : S.H a = some o) (n : ¬ Live S a) (ho : ¬ isTb o) : S'.H a = some o ∧ ¬ Live S' a := by
  obtain ⟨h1, h2⟩ := e.per a o h n
  rcases h1 with h1 | ⟨h1, _⟩
  · exact ⟨h1, h2⟩
  · exact absurd h1 ho
theorem Ext0.trans {S S1 S2 : Sx} (a : Ext0 S S1) (b : Ext0 S1 S2) : Ext0 S S2 where
  len := Nat.le_trans a.len b.len
  rho := fun n h => (b.rho n (Nat.lt_of_lt_of_le h a.len)).trans (a.rho n h)
  per := fun c o h n => by
    obtain ⟨h1, n1⟩ := a.per c o h n
    rcases h1 with h1 | ⟨t, ob, h1⟩
    · exact b.per c o h1 n1
    · obtain ⟨h2, n2⟩ := b.stays h1 n1 (fun z => z)
      exact ⟨.inr ⟨t, ob, h2⟩, n2⟩
  tup := fun c xs h => b.tup c xs (a.tup c xs h)
theorem Ext.trans {S S1 S2 : Sx} (a : Ext S S1) (b : Ext S1 S2) : Ext S S2 where
  toExt0 := a.toExt0.trans b.toExt0
  scr := fun c h => ⟨(b.scr c (a.scr c h).1).1, fun u hu => (b.scr c (a.scr c h).1).2 u ((a.scr c h).2 u hu)⟩
theorem Ext0.rd {S S' : Sx} (e : Ext0 S S') {a : Addr} {u : HO} (h : Rd S.H a u) (n : ¬ Live S a) : Rd S'.H a u ∧ ¬ Live S' a := by
  rcases h with h | ⟨o, h⟩
  · obtain ⟨h1, h2⟩ := e.per a _ h n
    rcases h1 with h1 | ⟨_, ob, h1⟩
    · exact ⟨.inl h1, h2⟩
    · exact ⟨.inr ⟨ob, h1⟩, h2⟩
  · exact ⟨.inr ⟨o, (e.stays h n (fun z => z)).1⟩, (e.stays h n (fun z => z)).2⟩
theorem Ext0.sqT {S S' : Sx} (e : Ext0 S S') {K : PySem.W.Frag} {a : Addr} {xs : List V} (h : SqT K S.H a xs) : SqT K S'.H a xs := by
  rcases h with h | h
  · exact .inl (e.tup a xs h)
  · exact .inr h

mutual
theorem KeyAt.ext0 {K : PySem.W.Frag} {S S' : Sx} (e : Ext0 S S') : ∀ {k : NestedKey} {v : V}, KeyAt K S.H k v → KeyAt K S'.H k v
  | _, _, .non => .non
  | _, _, .int i => .int i
  | _, _, .str x => .str x
  | _, _, .tup h l => .tup (e.sqT h) (KeyAtL.ext0 e l)
theorem KeyAtL.ext0 {K : PySem.W.Frag} {S S' : Sx} (e : Ext0 S S') : ∀ {ks : List NestedKey} {vs : List V}, KeyAtL K S.H ks vs → KeyAtL K S'.H ks vs
  | _, _, .nil => .nil
  | _, _, .cons h l => .cons (KeyAt.ext0 e h) (KeyAtL.ext0 e l)
end
mutual
theorem Rep.ext0 {B : Bx} {S S' : Sx} (e : Ext0 S S') : ∀ {d : D} {v : V}, Rep B S d v → Rep B S' d v
  | _, _, .non => .non
  | _, _, .bl b => .bl b
  | _, _, .int i => .int i
  | _, _, .str x => .str x
  | _, _, .tup h l => .tup (e.sqT h) (RepL.ext0 e l)
  | _, _, .lst h n l => .lst (e.stays h n (fun z => z)).1 (e.stays h n (fun z => z)).2 (RepL.ext0 e l)
  | _, _, .scr h n l => .scr (e.rd h n).1 (e.rd h n).2 (RepL.ext0 e l)
  | _, _, .dk h n l => .dk (e.rd h n).1 (e.rd h n).2 (RepK.ext0 e l)
  | _, _, .dn h n nd l => .dn (e.rd h n).1 (e.rd h n).2 nd (RepN.ext0 e l)
  | .ref n, _, .ref h => by
    rw [← e.rho n h]
    exact .ref (Nat.lt_of_lt_of_le h e.len)
theorem RepL.ext0 {B : Bx} {S S' : Sx} (e : Ext0 S S') : ∀ {l : List D} {vs : List V}, RepL B S l vs → RepL B S' l vs
  | _, _, .nil => .nil
  | _, _, .cons h l => .cons (Rep.ext0 e h) (RepL.ext0 e l)
theorem RepK.ext0 {B : Bx} {S S' : Sx} (e : Ext0 S S') : ∀ {l : List (Key × D)} {vs : List (Key × V)}, RepK B S l vs → RepK B S' l vs
  | _, _, .nil => .nil
  | _, _, .cons h l => .cons (Rep.ext0 e h) (RepK.ext0 e l)
theorem RepN.ext0 {B : Bx} {S S' : Sx} (e : Ext0 S S') : ∀ {l : List (NestedKey × D)} {xs : Raw}, RepN B S l xs → RepN B S' l xs
  | _, _, .nil => .nil
  | _, _, .cons k d h r l => .cons (KeyAt.ext0 e k) d (Rep.ext0 e h) r (RepN.ext0 e l)
end

theorem Rep.ext {B : Bx} {S S' : Sx} (e : Ext S S') {d : D} {v : V} (h : Rep B S d v) : Rep B S' d v := h.ext0 e.toExt0
theorem RepL.ext {B : Bx} {S S' : Sx} (e : Ext S S') {l : List D} {vs : List V} (h : RepL B S l vs) : RepL B S' l vs := h.ext0 e.toExt0
theorem RepK.ext {B : Bx} {S S' : Sx} (e : Ext S S') {l : List (Key × D)} {vs : List (Key × V)} (h : RepK B S l vs) : RepK B S' l vs := h.ext0 e.toExt0
theorem RepN.ext {B : Bx} {S S' : Sx} (e : Ext S S') {l : List (NestedKey × D)} {xs : Raw} (h : RepN B S l xs) : RepN B S' l xs := h.ext0 e.toExt0

theorem RepL.length {B : Bx} {S : Sx} : ∀ {l : List D} {vs : List V}, RepL B S l vs → l.length = vs.length
  | _, _, .nil => rfl
  | _, _, .cons _ t => congrArg (· + 1) (RepL.length t)
theorem RepL.get {B : Bx} {S : Sx} : ∀ {l : List D} {vs : List V}, RepL B S l vs → ∀ {i : Nat} {d : D}, l[i]? = some d → ∃ v, vs[i]? = some v ∧ Rep B S d v
  | _, _, .nil, _, _, e => by simp at e
  | _, _, .cons h _, 0, _, e => by simp at e; subst e; exact ⟨_, rfl, h⟩
  | _, _, .cons _ t, i + 1, d, e => by
    obtain ⟨v, h1, h2⟩ := RepL.get t (i := i) (d := d) (by simpa using e)
    exact ⟨v, by simpa using h1, h2⟩
theorem RepL.getV {B : Bx} {S : Sx} : ∀ {l : List D} {vs : List V}, RepL B S l vs → ∀ {i : Nat} {v : V}, vs[i]? = some v → ∃ d, l[i]? = some d ∧ Rep B S d v
  | _, _, .nil, _, _, e => by simp at e
  | _, _, .cons h _, 0, _, e => by simp at e; subst e; exact ⟨_, rfl, h⟩
  | _, _, .cons _ t, i + 1, d, e => by
    obtain ⟨v, h1, h2⟩ := RepL.getV t (i := i) (v := d) (by simpa using e)
    exact ⟨v, by simpa using h1, h2⟩
theorem RepL.append {B : Bx} {S : Sx} : ∀ {l m : List D} {vs ws : List V}, RepL B S l vs → RepL B S m ws → RepL B S (l ++ m) (vs ++ ws)
  | _, _, _, _, .nil, s => s
  | _, _, _, _, .cons h t, s => .cons h (RepL.append t s)
theorem RepL.take {B : Bx} {S : Sx} : ∀ {l : List D} {vs : List V} (n : Nat), RepL B S l vs → RepL B S (l.take n) (vs.take n)
  | _, _, 0, _ => .nil
  | _, _, _ + 1, .nil => .nil
  | _, _, n + 1, .cons h t => .cons h (RepL.take n t)
theorem RepL.drop {B : Bx} {S : Sx} : ∀ {l : List D} {vs : List V} (n : Nat), RepL B S l vs → RepL B S (l.drop n) (vs.drop n)
  | _, _, 0, r => r
  | _, _, _ + 1, .nil => .nil
  | _, _, n + 1, .cons _ t => RepL.drop n t
theorem RepL.set {B : Bx} {S : Sx} {d : D} {v : V} (r : Rep B S d v) : ∀ {l : List D} {vs : List V} (i : Nat), RepL B S l vs → RepL B S (l.set i d) (vs.set i v)
  | _, _, _, .nil => .nil
  | _, _, 0, .cons _ t => .cons r t
  | _, _, i + 1, .cons h t => .cons h (RepL.set r i t)
theorem RepL.reverse {B : Bx} {S : Sx} {l : List D} {vs : List V} (h : RepL B S l vs) : RepL B S l.reverse vs.reverse := by
  have key : ∀ {l : List D} {vs : List V}, RepL B S l vs → ∀ {m : List D} {ws : List V}, RepL B S m ws → RepL B S (l.reverse ++ m) (vs.reverse ++ ws) := by
    intro l
    induction l with
    | nil => intro vs h m ws s; cases h; exact s
    | cons d l ih =>
      intro vs h m ws s
      cases h with
      | cons h t =>
        rw [List.reverse_cons, List.reverse_cons, List.append_assoc, List.append_assoc]
        exact ih t (.cons h s)
  have := key h (m := []) (ws := []) .nil
  rwa [List.append_nil, List.append_nil] at this
theorem RepL.eraseIdx {B : Bx} {S : Sx} : ∀ {l : List D} {vs : List V} (i : Nat), RepL B S l vs → RepL B S (l.eraseIdx i) (vs.eraseIdx i)
  | _, _, _, .nil => .nil
  | _, _, 0, .cons _ t => t
  | _, _, i + 1, .cons h t => .cons h (RepL.eraseIdx i t)

/-- fields -/
inductive RepF (B : Bx) (S : Sx) : List (Str × D) → List (Str × V) → Prop
  | nil : RepF B S [] []
  | cons {k : Str} {d : D} {v : V} {l : List (Str × D)} {vs : List (Str × V)} : Rep B S d v → RepF B S l vs → RepF B S ((k, d) :: l) ((k, v) :: vs)
theorem RepF.ext0 {B : Bx} {S S' : Sx} (e : Ext0 S S') : ∀ {l : List (Str × D)} {vs : List (Str × V)}, RepF B S l vs → RepF B S' l vs
  | _, _, .nil => .nil
  | _, _, .cons h l => .cons (Rep.ext0 e h) (RepF.ext0 e l)

/-- a changing object as it lies -/
def ObjR (B : Bx) (S : Sx) (a : Addr) : AO → Prop
  | .gone => True
  | .lst l => ∃ vs, S.H a = some (.lst vs) ∧ RepL B S l vs
  | .dk l => ∃ kvs, S.H a = some (.dK kvs) ∧ RepK B S l kvs
  | .dn l => ∃ xs, S.H a = some (rawD B.prog B.w a xs) ∧ (l.map (·.1)).Nodup ∧ RepN B S l xs
  | .ins c fs => ∃ dx fs', S.H a = some (.ins (B.cls c) dx fs') ∧ RepF B S fs fs'
  | .tab P q => a = P ∧ ∃ ps : Array Value, S.H a = some (.tbl ps) ∧ TriplesOk ps.toList ∧ ∀ (pos : Pos) (cv : Value), codeAmong pos ps.toList = some cv → ∃ c, cv = .ref c ∧ Rd S.H c (LamX.CodeO c q) ∧ ¬ Live S c
/-- the store lies so -/
structure Rel (B : Bx) (S : Sx) : Prop where
  obj : ∀ n o, S.A[n]? = some o → ObjR B S (S.rho n) o
  inj : ∀ n m o o', S.A[n]? = some o → S.A[m]? = some o' → o ≠ .gone → o' ≠ .gone → S.rho n = S.rho m → n = m
  scr : ∀ a, a ∈ S.T → (∃ u, S.H a = some u ∧ Mut (some u) ∧ ∀ xs, u ≠ .tup xs) ∧ ∀ n o, S.A[n]? = some o → o ≠ .gone → S.rho n ≠ a
theorem ObjR.mut {B : Bx} {S : Sx} {a : Addr} {o : AO} (h : ObjR B S a o) (g : o ≠ .gone) : ∃ u, S.H a = some u ∧ (∀ ob v, u ≠ .frz ob v) ∧ ∀ xs, u ≠ .tup xs := by
  cases o with
  | gone => exact absurd rfl g
  | lst l => obtain ⟨vs, h, _⟩ := h; exact ⟨_, h, (fun _ _ z => nomatch z), (fun _ z => nomatch z)⟩
  | dk l => obtain ⟨vs, h, _⟩ := h; exact ⟨_, h, (fun _ _ z => nomatch z), (fun _ z => nomatch z)⟩
  | dn l => obtain ⟨vs, h, _⟩ := h; exact ⟨_, h, (fun _ _ z => nomatch z), (fun _ z => nomatch z)⟩
  | ins c fs => obtain ⟨_, vs, h, _⟩ := h; exact ⟨_, h, (fun _ _ z => nomatch z), (fun _ z => nomatch z)⟩
  | tab P q => obtain ⟨_, ps, h, _⟩ := h; exact ⟨_, h, (fun _ _ z => nomatch z), (fun _ z => nomatch z)⟩
theorem ObjR.ext0 {B : Bx} {S S' : Sx} (e : Ext0 S S') {a a' : Addr} {o : AO} (h : ObjR B S a o) (ha : a' = a) (k : ∀ u, S.H a = some u → S'.H a = some u) : ObjR B S' a' o := by
  subst ha
  cases o with
  | gone => trivial
  | lst l => obtain ⟨vs, h, r⟩ := h; exact ⟨vs, k _ h, r.ext0 e⟩
  | dk l => obtain ⟨vs, h, r⟩ := h; exact ⟨vs, k _ h, r.ext0 e⟩
  | dn l => obtain ⟨vs, h, nd, r⟩ := h; exact ⟨vs, k _ h, nd, r.ext0 e⟩
  | ins c fs => obtain ⟨dx, vs, h, r⟩ := h; exact ⟨dx, vs, k _ h, r.ext0 e⟩
  | tab P q =>
    obtain ⟨e0, ps, h, t, cs⟩ := h
    exact ⟨e0, ps, k _ h, t, fun pos cv hc => let ⟨c, e1, e2, e3⟩ := cs pos cv hc; ⟨c, e1, (e.rd e2 e3).1, (e.rd e2 e3).2⟩⟩
theorem ObjR.ext {B : Bx} {S S' : Sx} (e : Ext S S') {a a' : Addr} {o : AO} (h : ObjR B S a o) (ha : a' = a) (k : ∀ u, S.H a = some u → S'.H a = some u) : ObjR B S' a' o := h.ext0 e.toExt0 ha k
theorem mut_nf {u : HO} (h : Mut (some u)) (ob : Obj) (v : HO) : u ≠ .frz ob v := fun z => by
  rw [z] at h
  exact h
theorem Rel.live {B : Bx} {S : Sx} (r : Rel B S) {a : Addr} (h : Live S a) : ∃ u, S.H a = some u ∧ (∀ ob v, u ≠ .frz ob v) ∧ ∀ xs, u ≠ .tup xs := by
  rcases h with ⟨n, o, e, g, rfl⟩ | h
  · exact (r.obj n o e).mut g
  · obtain ⟨u, h1, h2, h3⟩ := (r.scr a h).1
    exact ⟨u, h1, mut_nf h2, h3⟩
/-- a state that grew, in order -/
structure Nxt (B : Bx) (S S' : Sx) : Prop where
  ext : Ext S S'
  rel : Rel B S'
theorem Nxt.trans {B : Bx} {S S1 S2 : Sx} (a : Nxt B S S1) (b : Nxt B S1 S2) : Nxt B S S2 := ⟨a.ext.trans b.ext, b.rel⟩
theorem Nxt.refl {B : Bx} {S : Sx} (r : Rel B S) : Nxt B S S := ⟨.refl S, r⟩

/-- 1. a new object that nobody changes -/
def Sx.put (S : Sx) (p : Addr) (o : HO) : Sx := { S with H := upd S.H p o }
theorem nlive_new {B : Bx} {S : Sx} (r : Rel B S) {p : Addr} (hp : S.H p = none) : ¬ Live S p := fun h => by
  obtain ⟨u, e, _⟩ := r.live h
  rw [hp] at e
  cases e
theorem Ext.put {S : Sx} {p : Addr} {o : HO} (hp : S.H p = none) : Ext S (S.put p o) where
  len := Nat.le_refl _
  rho := fun _ _ => rfl
  per := fun a u h n => ⟨.inl (by show upd S.H p o a = _; rw [upd_ne (ne_of_none h hp)]; exact h), n⟩
  tup := fun a xs h => by
    rcases h with h | ⟨ob, h⟩
    · exact .inl (by show upd S.H p o a = _; rw [upd_ne (ne_of_none h hp)]; exact h)
    · exact .inr ⟨ob, by show upd S.H p o a = _; rw [upd_ne (ne_of_none h hp)]; exact h⟩
  scr := fun a h => ⟨h, fun u hu => by show upd S.H p o a = _; rw [upd_ne (ne_of_none hu hp)]; exact hu⟩
theorem Nxt.put {B : Bx} {S : Sx} (r : Rel B S) {p : Addr} {o : HO} (hp : S.H p = none) : Nxt B S (S.put p o) :=
  ⟨.put hp, ⟨fun n ob e => (r.obj n ob e).ext (.put hp) rfl fun u h => by show upd S.H p o _ = _; rw [upd_ne (ne_of_none h hp)]; exact h, r.inj, fun a h => ⟨let ⟨u, hu, m⟩ := (r.scr a h).1; ⟨u, by show upd S.H p o a = _; rw [upd_ne (ne_of_none hu hp)]; exact hu, m⟩, (r.scr a h).2⟩⟩⟩
theorem nlive_put {B : Bx} {S : Sx} (r : Rel B S) {p : Addr} {o : HO} (hp : S.H p = none) : ¬ Live (S.put p o) p := nlive_new (S := S) r hp

/-- 2. a new changing object -/
def Sx.add (S : Sx) (p : Addr) (o : HO) (x : AO) : Sx := { rho := fun n => if n = S.A.length then p else S.rho n, A := S.A ++ [x], H := upd S.H p o, T := S.T }
theorem live_add {S : Sx} {p : Addr} {o : HO} {x : AO} {a : Addr} (h : Live (S.add p o x) a) : Live S a ∨ a = p := by
  rcases h with ⟨n, u, e, g, rfl⟩ | h
  case inr => exact .inl (.inr h)
  have e' : (S.A ++ [x])[n]? = some u := e
  by_cases hn : n < S.A.length
  · rw [List.getElem?_append_left hn] at e'
    refine .inl (.inl ⟨n, u, e', g, ?_⟩)
    show S.rho n = if n = S.A.length then p else S.rho n
    rw [if_neg (Nat.ne_of_lt hn)]
  · rw [List.getElem?_append_right (Nat.le_of_not_lt hn)] at e'
    have h0 : n - S.A.length < [x].length := (List.getElem?_eq_some_iff.mp e').1
    have hn2 : n = S.A.length := by
      simp only [List.length_singleton] at h0
      omega
    refine .inr ?_
    show (if n = S.A.length then p else S.rho n) = p
    rw [if_pos hn2]
theorem Ext.add {S : Sx} {p : Addr} {o : HO} {x : AO} (hp : S.H p = none) : Ext S (S.add p o x) where
  len := by
    show S.A.length ≤ (S.A ++ [x]).length
    rw [List.length_append]
    omega
  rho := fun n h => by
    show (if n = S.A.length then p else S.rho n) = S.rho n
    rw [if_neg (Nat.ne_of_lt h)]
  per := fun a u h n => ⟨.inl (by
      show upd S.H p o a = some u
      rw [upd_ne (ne_of_none h hp)]; exact h), fun z => (live_add z).elim n fun e => by rw [e, hp] at h; cases h⟩
  tup := fun a xs h => by
    rcases h with h | ⟨ob, h⟩
    · exact .inl (by show upd S.H p o a = _; rw [upd_ne (ne_of_none h hp)]; exact h)
    · exact .inr ⟨ob, by show upd S.H p o a = _; rw [upd_ne (ne_of_none h hp)]; exact h⟩
  scr := fun a h => ⟨h, fun u hu => by show upd S.H p o a = _; rw [upd_ne (ne_of_none hu hp)]; exact hu⟩
theorem Nxt.add {B : Bx} {S : Sx} (r : Rel B S) {p : Addr} {o : HO} {x : AO} (hp : S.H p = none) (hx : ObjR B (S.add p o x) p x) : Nxt B S (S.add p o x) := by
  have get : ∀ n u, (S.A ++ [x])[n]? = some u → (n < S.A.length ∧ S.A[n]? = some u) ∨ (n = S.A.length ∧ u = x) := fun n u e => by
    by_cases hn : n < S.A.length
    · rw [List.getElem?_append_left hn] at e
      exact .inl ⟨hn, e⟩
    · rw [List.getElem?_append_right (Nat.le_of_not_lt hn)] at e
      have h0 : n - S.A.length < [x].length := (List.getElem?_eq_some_iff.mp e).1
      simp only [List.length_singleton] at h0
      have h1 : n - S.A.length = 0 := by omega
      rw [h1] at e
      exact .inr ⟨by omega, (Option.some.inj e).symm⟩
  have rn : ∀ n, n < S.A.length → (S.add p o x).rho n = S.rho n := (Ext.add hp).rho
  have rl : (S.add p o x).rho S.A.length = p := if_pos rfl
  refine ⟨.add hp, ⟨fun n u e => ?_, fun n m u u' e e' g g' q => ?_, fun a h => ⟨?_, fun n u e g => ?_⟩⟩⟩
  · rcases get n u e with ⟨hn, e1⟩ | ⟨rfl, rfl⟩
    · exact (r.obj n u e1).ext (.add hp) (rn n hn) fun v h => by
        show upd S.H p o _ = _
        rw [upd_ne (ne_of_none h hp)]; exact h
    · rw [rl]; exact hx
  · rcases get n u e with ⟨hn, e1⟩ | ⟨rfl, rfl⟩ <;> rcases get m u' e' with ⟨hm, e2⟩ | ⟨rfl, rfl⟩
    · rw [rn n hn, rn m hm] at q
      exact r.inj n m u u' e1 e2 g g' q
    · rw [rn n hn, rl] at q
      exact absurd (.inl ⟨n, u, e1, g, q⟩) (nlive_new r hp)
    · rw [rl, rn m hm] at q
      exact absurd (.inl ⟨m, u', e2, g', q.symm⟩) (nlive_new r hp)
    · rfl
  · obtain ⟨u, hu, m⟩ := (r.scr a h).1
    exact ⟨u, by show upd S.H p o a = _; rw [upd_ne (ne_of_none hu hp)]; exact hu, m⟩
  · obtain ⟨v, hv, m⟩ := (r.scr a h).1
    rcases get n u e with ⟨hn, e1⟩ | ⟨rfl, rfl⟩
    · rw [rn n hn]
      exact (r.scr a h).2 n u e1 g
    · rw [rl]
      exact fun z => by rw [z, hv] at hp; cases hp

/-- 3. a changing object changes -/
def Sx.upd (S : Sx) (n : Nat) (o : HO) (x : AO) : Sx := { S with A := S.A.set n x, H := L2.upd S.H (S.rho n) o }
theorem live_upd {S : Sx} {n : Nat} {o : HO} {x : AO} {y : AO} (hn : S.A[n]? = some y) (hy : y ≠ .gone) {a : Addr} (h : Live (S.upd n o x) a) : Live S a := by
  rcases h with ⟨m, u, e, g, rfl⟩ | h
  case inr => exact .inr h
  have e' : (S.A.set n x)[m]? = some u := e
  by_cases hm : n = m
  · subst hm
    exact .inl ⟨n, y, hn, hy, rfl⟩
  · rw [List.getElem?_set_ne hm] at e'
    exact .inl ⟨m, u, e', g, rfl⟩
theorem Ext.upd {B : Bx} {S : Sx} (r : Rel B S) {n : Nat} {o : HO} {x y : AO} (hn : S.A[n]? = some y) (hy : y ≠ .gone) : Ext S (S.upd n o x) where
  len := by
    show S.A.length ≤ (S.A.set n x).length
    rw [List.length_set]
    exact Nat.le_refl _
  rho := fun _ _ => rfl
  per := fun a u h na => by
    have ne : a ≠ S.rho n := fun e => na (.inl ⟨n, y, hn, hy, e.symm⟩)
    exact ⟨.inl (by show L2.upd S.H (S.rho n) o a = _; rw [upd_ne ne]; exact h), fun z => na (live_upd hn hy z)⟩
  tup := fun a xs h => by
    have ne : a ≠ S.rho n := fun e => by
      obtain ⟨u, hu, hm, ht⟩ := (r.obj n y hn).mut hy
      rw [e] at h
      rcases h with h | ⟨ob, h⟩
      · rw [hu] at h
        exact ht xs (Option.some.inj h)
      · rw [hu] at h
        exact hm _ _ (Option.some.inj h)
    rcases h with h | ⟨ob, h⟩
    · exact .inl (by show L2.upd S.H (S.rho n) o a = _; rw [upd_ne ne]; exact h)
    · exact .inr ⟨ob, by show L2.upd S.H (S.rho n) o a = _; rw [upd_ne ne]; exact h⟩
  scr := fun a h => ⟨h, fun u hu => by
    have ne : a ≠ S.rho n := fun e => (r.scr a h).2 n y hn hy e.symm
    show L2.upd S.H (S.rho n) o a = _; rw [upd_ne ne]; exact hu⟩
theorem Nxt.upd {B : Bx} {S : Sx} (r : Rel B S) {n : Nat} {o : HO} {x y : AO} (hn : S.A[n]? = some y) (hy : y ≠ .gone) (hx : ObjR B (S.upd n o x) (S.rho n) x) : Nxt B S (S.upd n o x) := by
  have get : ∀ m u, (S.A.set n x)[m]? = some u → (m ≠ n ∧ S.A[m]? = some u) ∨ (m = n ∧ u = x) := fun m u e => by
    by_cases hm : n = m
    · subst hm
      rw [List.getElem?_set_self (List.getElem?_eq_some_iff.mp hn).1] at e
      exact .inr ⟨rfl, (Option.some.inj e).symm⟩
    · rw [List.getElem?_set_ne hm] at e
      exact .inl ⟨Ne.symm hm, e⟩
  refine ⟨.upd r hn hy, ⟨fun m u e => ?_, fun m k u u' e e' g g' q => ?_, fun a h => ⟨?_, fun m u e g => ?_⟩⟩⟩
  · rcases get m u e with ⟨hm, e1⟩ | ⟨rfl, rfl⟩
    · by_cases g : u = .gone
      · subst g; trivial
      · have ne : S.rho m ≠ S.rho n := fun q => hm (r.inj m n u y e1 hn g hy q)
        exact (r.obj m u e1).ext (.upd r hn hy) rfl fun v h => by
          show L2.upd S.H (S.rho n) o _ = _
          rw [upd_ne ne]; exact h
    · exact hx
  · rcases get m u e with ⟨hm, e1⟩ | ⟨rfl, rfl⟩ <;> rcases get k u' e' with ⟨hk, e2⟩ | ⟨rfl, rfl⟩
    · exact r.inj m k u u' e1 e2 g g' q
    · exact r.inj m k u y e1 hn g hy q
    · exact r.inj m k y u' hn e2 hy g' q
    · rfl
  · obtain ⟨u, hu, m⟩ := (r.scr a h).1
    exact ⟨u, ((Ext.upd (o := o) (x := x) r hn hy).scr a h).2 u hu, m⟩
  · rcases get m u e with ⟨hm, e1⟩ | ⟨rfl, rfl⟩
    · exact (r.scr a h).2 m u e1 g
    · exact (r.scr a h).2 m y hn hy

/-- 4. a changing object is never changed again -/
def Sx.frz (S : Sx) (n : Nat) : Sx := { S with A := S.A.set n .gone }
theorem live_frz {S : Sx} {n : Nat} {a : Addr} (h : Live (S.frz n) a) : (∃ m o, m ≠ n ∧ S.A[m]? = some o ∧ o ≠ .gone ∧ S.rho m = a) ∨ a ∈ S.T := by
  rcases h with ⟨m, u, e, g, rfl⟩ | h
  case inr => exact .inr h
  have e' : (S.A.set n .gone)[m]? = some u := e
  by_cases hm : n = m
  · subst hm
    rw [List.getElem?_set] at e'
    split at e'
    · split at e'
      · exact absurd (Option.some.inj e').symm g
      · cases e'
    · exact absurd rfl ‹_›
  · rw [List.getElem?_set_ne hm] at e'
    exact .inl ⟨m, u, Ne.symm hm, e', g, rfl⟩
theorem Ext.frz {S : Sx} {n : Nat} : Ext S (S.frz n) where
  len := by
    show S.A.length ≤ (S.A.set n .gone).length
    rw [List.length_set]
    exact Nat.le_refl _
  rho := fun _ _ => rfl
  per := fun a u h na => ⟨.inl h, fun z => by
    rcases live_frz z with ⟨m, o, _, e, g, q⟩ | z
    · exact na (.inl ⟨m, o, e, g, q⟩)
    · exact na (.inr z)⟩
  tup := fun a xs h => h
  scr := fun a h => ⟨h, fun u hu => hu⟩
theorem Nxt.frz {B : Bx} {S : Sx} (r : Rel B S) {n : Nat} : Nxt B S (S.frz n) := by
  have get : ∀ m u, (S.A.set n .gone)[m]? = some u → u = .gone ∨ (m ≠ n ∧ S.A[m]? = some u) := fun m u e => by
    by_cases hm : n = m
    · subst hm
      rw [List.getElem?_set] at e
      split at e
      · split at e
        · exact .inl (Option.some.inj e).symm
        · cases e
      · exact absurd rfl ‹_›
    · rw [List.getElem?_set_ne hm] at e
      exact .inr ⟨Ne.symm hm, e⟩
  refine ⟨.frz, ⟨fun m u e => ?_, fun m k u u' e e' g g' q => ?_, fun a h => ⟨(r.scr a h).1, fun m u e g => ?_⟩⟩⟩
  · rcases get m u e with rfl | ⟨_, e1⟩
    · trivial
    · exact (r.obj m u e1).ext .frz rfl fun v h => h
  · rcases get m u e with z | ⟨_, e1⟩
    · exact absurd z g
    · rcases get k u' e' with z | ⟨_, e2⟩
      · exact absurd z g'
      · exact r.inj m k u u' e1 e2 g g' q
  · rcases get m u e with z | ⟨_, e1⟩
    · exact absurd z g
    · exact (r.scr a h).2 m u e1 g
theorem nlive_frz {B : Bx} {S : Sx} (r : Rel B S) {n : Nat} {o : AO} (h : S.A[n]? = some o) (g : o ≠ .gone) : ¬ Live (S.frz n) (S.rho n) := fun z => by
  rcases live_frz z with ⟨m, u, hm, e, g', q⟩ | z
  · exact hm (r.inj m n u o e h g' g q)
  · exact (r.scr _ z).2 n o h g rfl

/-- 5. an object in the making -/
def Sx.scr (S : Sx) (p : Addr) (o : HO) : Sx := { S with H := L2.upd S.H p o, T := p :: S.T }
theorem Nxt.scr {B : Bx} {S : Sx} (r : Rel B S) {p : Addr} {o : HO} (hp : S.H p = none) (hm : Mut (some o)) (ht : ∀ xs, o ≠ .tup xs) : Nxt B S (S.scr p o) := by
  have kp : ∀ a u, S.H a = some u → L2.upd S.H p o a = some u := fun a u h => by rw [upd_ne (ne_of_none h hp)]; exact h
  have e : Ext S (S.scr p o) := ⟨⟨Nat.le_refl _, fun _ _ => rfl, fun a u h n => ⟨.inl (kp a u h), fun z => by
      rcases z with z | z
      · exact n (.inl z)
      · rcases List.mem_cons.mp z with rfl | z
        · rw [hp] at h; cases h
        · exact n (.inr z)⟩, fun a xs h => by
      rcases h with h | ⟨ob, h⟩
      · exact .inl (kp _ _ h)
      · exact .inr ⟨ob, kp _ _ h⟩⟩, fun a h => ⟨List.mem_cons_of_mem _ h, fun u hu => kp a u hu⟩⟩
  refine ⟨e, ⟨fun n ob q => (r.obj n ob q).ext e rfl fun u h => kp _ u h, r.inj, fun a h => ?_⟩⟩
  rcases List.mem_cons.mp h with rfl | h
  · exact ⟨⟨o, upd_same, hm, ht⟩, fun n ob q g z => by
      obtain ⟨u, hu, _⟩ := (r.obj n ob q).mut g
      have z' : S.rho n = a := z
      rw [z', hp] at hu
      cases hu⟩
  · obtain ⟨u, hu, m⟩ := (r.scr a h).1
    exact ⟨⟨u, kp _ _ hu, m⟩, (r.scr a h).2⟩
/-- .. grows -/
def Sx.grow (S : Sx) (p : Addr) (o : HO) : Sx := { S with H := L2.upd S.H p o }
theorem Ext0.grow {B : Bx} {S : Sx} (r : Rel B S) {p : Addr} {o : HO} (hp : p ∈ S.T) : Ext0 S (S.grow p o) := by
  obtain ⟨⟨u0, hu0, hm0, ht0⟩, hd⟩ := r.scr p hp
  have kp : ∀ a, a ≠ p → (S.grow p o).H a = S.H a := fun a h => upd_ne h
  refine ⟨Nat.le_refl _, fun _ _ => rfl, fun a u h nl => ⟨.inl (by
      rw [kp a fun z => nl (.inr (z ▸ hp))]
      exact h), nl⟩, fun a xs h => ?_⟩
  have hne : a ≠ p := fun z => by
    rw [z] at h
    rcases h with h | ⟨ob, h⟩
    · rw [hu0] at h
      exact ht0 xs (Option.some.inj h)
    · rw [hu0] at h
      rw [Option.some.inj h] at hm0
      exact hm0
  rcases h with h | ⟨ob, h⟩
  · exact .inl (by rw [kp a hne]; exact h)
  · exact .inr ⟨ob, by rw [kp a hne]; exact h⟩
theorem Nxt.grow {B : Bx} {S0 S : Sx} (n : Nxt B S0 S) {p : Addr} {o : HO} (h0 : S0.H p = none) (hp : p ∈ S.T) (hm : Mut (some o)) (ht : ∀ xs, o ≠ .tup xs) : Nxt B S0 (S.grow p o) := by
  obtain ⟨_, hd⟩ := n.rel.scr p hp
  have kp : ∀ a, a ≠ p → (S.grow p o).H a = S.H a := fun a h => upd_ne h
  have e1 : Ext0 S (S.grow p o) := .grow n.rel hp
  refine ⟨⟨n.ext.toExt0.trans e1, fun a h => ⟨(n.ext.scr a h).1, fun u hu => ?_⟩⟩, ⟨fun m ob q => ?_, n.rel.inj, fun a h => ⟨?_, (n.rel.scr a h).2⟩⟩⟩
  · rw [kp a (ne_of_none hu h0)]
    exact (n.ext.scr a h).2 u hu
  · by_cases g : ob = .gone
    · subst g; trivial
    · exact (n.rel.obj m ob q).ext0 e1 rfl fun u h => by rw [kp _ (hd m ob q g)]; exact h
  · by_cases z : a = p
    · subst z
      exact ⟨o, upd_same, hm, ht⟩
    · obtain ⟨u, hu, m⟩ := (n.rel.scr a h).1
      exact ⟨u, by rw [kp a z]; exact hu, m⟩
/-- .. is made -/
def Sx.done (S0 S : Sx) : Sx := { S with T := S0.T }
theorem Nxt.done {B : Bx} {S0 S : Sx} (n : Nxt B S0 S) : Nxt B S0 (Sx.done S0 S) := by
  have lv : ∀ a, Live (Sx.done S0 S) a → Live S a := fun a h => by
    rcases h with h | h
    · exact .inl h
    · exact .inr (n.ext.scr a h).1
  have e1 : Ext0 S (Sx.done S0 S) := ⟨Nat.le_refl _, fun _ _ => rfl, fun a u h nl => ⟨.inl h, fun z => nl (lv a z)⟩, fun a xs h => h⟩
  exact ⟨⟨n.ext.toExt0.trans e1, fun a h => ⟨h, (n.ext.scr a h).2⟩⟩, ⟨fun m ob q => (n.rel.obj m ob q).ext0 e1 rfl fun u h => h, n.rel.inj, fun a h => n.rel.scr a (n.ext.scr a h).1⟩⟩
theorem nlive_done {B : Bx} {S0 S : Sx} (r0 : Rel B S0) (n : Nxt B S0 S) {p : Addr} (h0 : S0.H p = none) (hp : p ∈ S.T) : ¬ Live (Sx.done S0 S) p := fun z => by
  rcases z with ⟨m, o, e, g, q⟩ | z
  · exact (n.rel.scr p hp).2 m o e g q
  · obtain ⟨u, hu, _⟩ := (r0.scr p z).1
    rw [h0] at hu
    cases hu
theorem Ext0.done {B : Bx} {S0 S : Sx} (n : Nxt B S0 S) : Ext0 S (Sx.done S0 S) :=
  ⟨Nat.le_refl _, fun _ _ => rfl, fun a u h nl => ⟨.inl h, fun z => nl (by
    rcases z with z | z
    · exact .inl z
    · exact .inr (n.ext.scr a z).1)⟩, fun a xs h => h⟩

/-! 6. forgetting the changing objects from place n on -/
mutual
/-- all references are below n -/
def rok (n : Nat) : D → Bool
  | .non | .bl _ | .int _ | .str _ => true
  | .tup l | .lst l | .scr l => rokL n l
  | .dk l => rokK n l
  | .dn l => rokN n l
  | .ref k => decide (k < n)
def rokL (n : Nat) : List D → Bool
  | [] => true
  | d :: l => rok n d && rokL n l
def rokK (n : Nat) : List (Key × D) → Bool
  | [] => true
  | (_, d) :: l => rok n d && rokK n l
def rokN (n : Nat) : List (NestedKey × D) → Bool
  | [] => true
  | (_, d) :: l => rok n d && rokN n l
end
def rokF (n : Nat) : List (Str × D) → Bool
  | [] => true
  | (_, d) :: l => rok n d && rokF n l
def rokO (n : Nat) : AO → Bool
  | .gone => true
  | .lst l => rokL n l
  | .dk l => rokK n l
  | .dn l => rokN n l
  | .ins _ fs => rokF n fs
  | .tab _ _ => true
def Sx.cut (S : Sx) (n : Nat) : Sx := { S with A := S.A.take n }
theorem live_cut {S : Sx} {n : Nat} {a : Addr} (h : Live (S.cut n) a) : (∃ m o, m < n ∧ S.A[m]? = some o ∧ o ≠ .gone ∧ S.rho m = a) ∨ a ∈ S.T := by
  rcases h with ⟨m, u, e, g, rfl⟩ | h
  case inr => exact .inr h
  have e' : (S.A.take n)[m]? = some u := e
  rw [List.getElem?_take] at e'
  split at e'
  · exact .inl ⟨m, u, by assumption, e', g, rfl⟩
  · cases e'
theorem live_cut1 {S : Sx} {n : Nat} {a : Addr} (h : Live (S.cut n) a) : Live S a := by
  rcases live_cut h with ⟨m, o, _, e, g, q⟩ | z
  · exact .inl ⟨m, o, e, g, q⟩
  · exact .inr z
theorem band {a b : Bool} (h : (a && b) = true) : a = true ∧ b = true := Bool.and_eq_true_iff.mp h
mutual
theorem Rep.cut {B : Bx} {S : Sx} {n : Nat} (hn : n ≤ S.A.length) : ∀ {d : D} {v : V}, Rep B S d v → rok n d = true → Rep B (S.cut n) d v
  | _, _, .non, _ => .non
  | _, _, .bl b, _ => .bl b
  | _, _, .int i, _ => .int i
  | _, _, .str x, _ => .str x
  | _, _, .tup h l, e => .tup h (RepL.cut hn l (by rw [rok] at e; exact e))
  | _, _, .lst h m l, e => .lst h (fun z => m (live_cut1 z)) (RepL.cut hn l (by rw [rok] at e; exact e))
  | _, _, .scr h m l, e => .scr h (fun z => m (live_cut1 z)) (RepL.cut hn l (by rw [rok] at e; exact e))
  | _, _, .dk h m l, e => .dk h (fun z => m (live_cut1 z)) (RepK.cut hn l (by rw [rok] at e; exact e))
  | _, _, .dn h m nd l, e => .dn h (fun z => m (live_cut1 z)) nd (RepN.cut hn l (by rw [rok] at e; exact e))
  | .ref k, _, .ref h, e => by
    have hk : k < n := by rw [rok] at e; exact of_decide_eq_true e
    have : Rep B (S.cut n) (.ref k) (.ref ((S.cut n).rho k)) := .ref (by
      show k < (S.A.take n).length
      rw [List.length_take]
      omega)
    exact this
theorem RepL.cut {B : Bx} {S : Sx} {n : Nat} (hn : n ≤ S.A.length) : ∀ {l : List D} {vs : List V}, RepL B S l vs → rokL n l = true → RepL B (S.cut n) l vs
  | _, _, .nil, _ => .nil
  | _, _, .cons h t, e => by
    rw [rokL] at e
    exact .cons (Rep.cut hn h (band e).1) (RepL.cut hn t (band e).2)
theorem RepK.cut {B : Bx} {S : Sx} {n : Nat} (hn : n ≤ S.A.length) : ∀ {l : List (Key × D)} {vs : List (Key × V)}, RepK B S l vs → rokK n l = true → RepK B (S.cut n) l vs
  | _, _, .nil, _ => .nil
  | _, _, .cons h t, e => by
    rw [rokK] at e
    exact .cons (Rep.cut hn h (band e).1) (RepK.cut hn t (band e).2)
theorem RepN.cut {B : Bx} {S : Sx} {n : Nat} (hn : n ≤ S.A.length) : ∀ {l : List (NestedKey × D)} {xs : Raw}, RepN B S l xs → rokN n l = true → RepN B (S.cut n) l xs
  | _, _, .nil, _ => .nil
  | _, _, .cons k d h r t, e => by
    rw [rokN] at e
    exact .cons k d (Rep.cut hn h (band e).1) r (RepN.cut hn t (band e).2)
end
theorem RepF.cut {B : Bx} {S : Sx} {n : Nat} (hn : n ≤ S.A.length) : ∀ {l : List (Str × D)} {vs : List (Str × V)}, RepF B S l vs → rokF n l = true → RepF B (S.cut n) l vs
  | _, _, .nil, _ => .nil
  | _, _, .cons h t, e => by
    rw [rokF] at e
    exact .cons (Rep.cut hn h (band e).1) (RepF.cut hn t (band e).2)
theorem Nxt.cut {B : Bx} {S0 S : Sx} (n : Nxt B S0 S) (ok : ∀ o, o ∈ S.A.take S0.A.length → rokO S0.A.length o = true) : Nxt B S0 (S.cut S0.A.length) := by
  have hl := n.ext.len
  refine ⟨⟨⟨?_, n.ext.rho, fun a u h nl => ⟨(n.ext.per a u h nl).1, fun z => (n.ext.per a u h nl).2 (live_cut1 z)⟩, n.ext.tup⟩, n.ext.scr⟩, ⟨fun m o e => ?_, fun m k o o' e e' => ?_, fun a h => ⟨(n.rel.scr a h).1, fun m o e => ?_⟩⟩⟩
  · show S0.A.length ≤ (S.A.take S0.A.length).length
    rw [List.length_take]
    omega
  · have e' : (S.A.take S0.A.length)[m]? = some o := e
    have ho := ok o (List.mem_of_getElem? e')
    rw [List.getElem?_take] at e'
    split at e'
    · have q := n.rel.obj m o e'
      cases o with
      | gone => trivial
      | lst l => obtain ⟨vs, h, r⟩ := q; exact ⟨vs, h, r.cut hl ho⟩
      | dk l => obtain ⟨vs, h, r⟩ := q; exact ⟨vs, h, r.cut hl ho⟩
      | dn l => obtain ⟨vs, h, nd, r⟩ := q; exact ⟨vs, h, nd, r.cut hl ho⟩
      | ins c fs => obtain ⟨dx, vs, h, r⟩ := q; exact ⟨dx, vs, h, r.cut hl ho⟩
      | tab P0 q0 => obtain ⟨e0, ps, h, t, cs⟩ := q; exact ⟨e0, ps, h, t, fun pos cv hc => let ⟨c, e1, e2, e3⟩ := cs pos cv hc; ⟨c, e1, e2, fun z => e3 (live_cut1 z)⟩⟩
    · cases e'
  · have e1 : (S.A.take S0.A.length)[m]? = some o := e
    have e2 : (S.A.take S0.A.length)[k]? = some o' := e'
    rw [List.getElem?_take] at e1 e2
    split at e1
    · split at e2
      · exact n.rel.inj m k o o' e1 e2
      · cases e2
    · cases e1
  · have e1 : (S.A.take S0.A.length)[m]? = some o := e
    rw [List.getElem?_take] at e1
    split at e1
    · exact (n.rel.scr a h).2 m o e1
    · cases e1
theorem nlive_cut {B : Bx} {S : Sx} (r : Rel B S) {n k : Nat} {o : AO} (h : S.A[k]? = some o) (g : o ≠ .gone) (hk : n ≤ k) : ¬ Live (S.cut n) (S.rho k) := fun z => by
  rcases live_cut z with ⟨m, u, hm, e, g', q⟩ | z
  · have := r.inj m k u o e h g' g q
    omega
  · exact (r.scr _ z).2 k o h g rfl
/-! 7. a dict is locked for a walk -/
def Sx.lock (S : Sx) (a : Addr) (ob : Obj) (u : HO) : Sx := { S with H := L2.upd S.H a (.frz ob u) }
theorem Nxt.lock {B : Bx} {S : Sx} (r : Rel B S) {a : Addr} {ob : Obj} {u : HO} (h : S.H a = some u) (n : ¬ Live S a) (t : isTb u) : Nxt B S (S.lock a ob u) := by
  have kp : ∀ b, b ≠ a → (S.lock a ob u).H b = S.H b := fun b hb => upd_ne hb
  have e : Ext S (S.lock a ob u) := ⟨⟨Nat.le_refl _, fun _ _ => rfl, fun b o hb nb => ⟨by
      by_cases z : b = a
      · subst z
        rw [h] at hb
        cases hb
        exact .inr ⟨t, ob, upd_same⟩
      · exact .inl (by rw [kp b z]; exact hb), nb⟩, fun b xs hb => by
      have hne : b ≠ a := fun z => by
        rw [z] at hb
        rcases hb with hb | ⟨o, hb⟩
        · rw [h] at hb; cases hb; exact t
        · rw [h] at hb; cases hb; exact t
      rcases hb with hb | ⟨o, hb⟩
      · exact .inl (by rw [kp b hne]; exact hb)
      · exact .inr ⟨o, by rw [kp b hne]; exact hb⟩⟩, fun b hb => ⟨hb, fun v hv => by
      rw [kp b fun z => n (.inr (z ▸ hb))]
      exact hv⟩⟩
  refine ⟨e, ⟨fun m o q => ?_, r.inj, fun b hb => ⟨?_, (r.scr b hb).2⟩⟩⟩
  · by_cases g : o = .gone
    · subst g; trivial
    · exact (r.obj m o q).ext e rfl fun v hv => by rw [kp _ fun z => n (.inl ⟨m, o, q, g, z⟩)]; exact hv
  · obtain ⟨v, hv, m⟩ := (r.scr b hb).1
    exact ⟨v, by rw [kp b fun z => n (.inr (z ▸ hb))]; exact hv, m⟩
end Cr
end

section
set_option Elab.async false
set_option linter.all false
set_option maxRecDepth 100000
set_option maxHeartbeats 1000000
/-! Core, part B: outcomes, what is wanted behind them, readings of expressions and statements by them. -/
namespace Cr
open PySem PySem.Spec PyProof.Rows L2

inductive Out (α : Type) where
  | ok (a : α) (A : Sto)
  | exc (c : Nat) (d : D) (A : Sto)
  | err

def M (α : Type) := Sto → Out α
namespace M
def ret {α : Type} (a : α) : M α := fun A => .ok a A
def err {α : Type} : M α := fun _ => .err
def exc {α : Type} (c : Nat) (d : D) : M α := fun A => .exc c d A
def bind {α β : Type} (m : M α) (f : α → M β) : M β := fun A => match m A with
  | .ok a A1 => f a A1
  | .exc c d A1 => .exc c d A1
  | .err => .err
def opt {α : Type} (f : Sto → Option α) : M α := fun A => match f A with
  | some a => .ok a A
  | none => .err
def optS {α : Type} (f : Sto → Option (α × Sto)) : M α := fun A => match f A with
  | some (a, A1) => .ok a A1
  | none => .err
end M
instance : Monad M where
  pure := M.ret
  bind := M.bind
theorem M.bind_def {α β : Type} (m : M α) (f : α → M β) (A : Sto) : (m >>= f) A = match m A with
  | .ok a A1 => f a A1
  | .exc c d A1 => .exc c d A1
  | .err => .err := rfl
theorem M.pure_def {α : Type} (a : α) (A : Sto) : (pure a : M α) A = .ok a A := rfl

/-- classes of errors: their fields -/
structure By extends Bx where
  fld : Nat → Str

/-- what is wanted behind an outcome -/
def Post (B : By) (E : XK) (S : Sx) {α : Type} (P : α → Sx → Prop) : Out α → Prop
  | .ok a A => ∀ S', S'.A = A → Nxt B.toBx S S' → P a S'
  | .exc c d A => ∀ S' v dx, S'.A = A → Nxt B.toBx S S' → Rep B.toBx S' d v → S'.H dx = some (.xd [(B.fld c, v)]) → E (.ref (B.cls c)) (some dx) S'.H
  | .err => False
theorem Post.imp {B : By} {E : XK} {S : Sx} {α : Type} {P P' : α → Sx → Prop} {r : Out α} (h : Post B E S P r) (k : ∀ a S', Nxt B.toBx S S' → P a S' → P' a S') : Post B E S P' r := by
  cases r with
  | ok a A => exact fun S' e n => k a S' n (h S' e n)
  | exc c d A => exact h
  | err => exact h
/-- a later start -/
theorem Post.later {B : By} {E : XK} {S S1 : Sx} {α : Type} {P : α → Sx → Prop} {r : Out α} (h : Post B E S P r) (n : Nxt B.toBx S S1) : Post B E S1 P r := by
  cases r with
  | ok a A => exact fun S' e m => h S' e (n.trans m)
  | exc c d A => exact fun S' v dx e m => h S' v dx e (n.trans m)
  | err => exact h
theorem Post.bind {B : By} {E : XK} {S : Sx} {α β : Type} {P : β → Sx → Prop} {m : M α} {f : α → M β} {A : Sto} (h : Post B E S P ((m >>= f) A)) :
    Post B E S (fun a S1 => Post B E S1 P (f a S1.A)) (m A) := by
  rw [M.bind_def] at h
  cases q : m A with
  | ok a A1 =>
    rw [q] at h
    intro S1 e n
    subst e
    exact Post.later h n
  | exc c d A1 =>
    rw [q] at h
    exact h
  | err =>
    rw [q] at h
    exact h
theorem Post.opt {B : By} {E : XK} {S : Sx} {α : Type} {P : α → Sx → Prop} {f : Sto → Option α} (h : Post B E S P (M.opt f S.A)) (r : Rel B.toBx S) : ∃ a, f S.A = some a ∧ ∀ S', S'.A = S.A → Nxt B.toBx S S' → P a S' := by
  unfold M.opt at h
  cases q : f S.A with
  | none => rw [q] at h; exact h.elim
  | some a => rw [q] at h; exact ⟨a, rfl, h⟩
theorem Post.optS {B : By} {E : XK} {S : Sx} {α : Type} {P : α → Sx → Prop} {f : Sto → Option (α × Sto)} (h : Post B E S P (M.optS f S.A)) : ∃ a A', f S.A = some (a, A') ∧ ∀ S', S'.A = A' → Nxt B.toBx S S' → P a S' := by
  unfold M.optS at h
  cases q : f S.A with
  | none => rw [q] at h; exact h.elim
  | some a => rw [q] at h; exact ⟨a.1, a.2, rfl, h⟩

/-! ### the names -/
abbrev En := List (Option D)
structure EnR (B : Bx) (S : Sx) (η : En) (σ : L2.St) : Prop where
  len : η.length = σ.length
  get : ∀ (i : Nat) (d : D), η[i]? = some (some d) → ∃ v, σ[i]? = some (some v) ∧ Rep B S d v
theorem EnR.ext {B : Bx} {S S' : Sx} {η : En} {σ : L2.St} (e : Ext S S') (h : EnR B S η σ) : EnR B S' η σ :=
  ⟨h.len, fun i d q => let ⟨v, a, r⟩ := h.get i d q; ⟨v, a, r.ext e⟩⟩
theorem EnR.set {B : Bx} {S : Sx} {η : En} {σ : L2.St} (h : EnR B S η σ) {d : D} {v : V} (r : Rep B S d v) (i : Nat) : EnR B S (η.set i (some d)) (σ.set i (some v)) := by
  refine ⟨by rw [List.length_set, List.length_set, h.len], fun j d' q => ?_⟩
  by_cases hj : i = j
  · subst hj
    rw [List.getElem?_set] at q
    split at q
    · split at q
      · have q' := Option.some.inj (Option.some.inj q)
        subst q'
        have hi : i < σ.length := by rw [← h.len]; assumption
        exact ⟨v, by rw [List.getElem?_set_self hi], r⟩
      · cases q
    · exact absurd rfl ‹_›
  · rw [List.getElem?_set_ne hj] at q
    obtain ⟨w, a, b⟩ := h.get j d' q
    exact ⟨w, by rw [List.getElem?_set_ne hj]; exact a, b⟩
/-- names forgotten -/
def wipeE (η : En) : List Nat → En
  | [] => η
  | i :: r => (wipeE η r).set i none
theorem wipeE_len (η : En) : ∀ l : List Nat, (wipeE η l).length = η.length
  | [] => rfl
  | i :: r => by rw [wipeE, List.length_set, wipeE_len η r]

/-! ### readings -/
/-- what is wanted of a value -/
abbrev Wv (B : Bx) (Q : VK) : D → Sx → Prop := fun d S' => ∀ v, Rep B S' d v → Q v S'.H
/-- the reading of an expression by what it computes -/
def rdE (B : By) (W : WX) (m : En → M D) : TE := fun σ H Q => ∃ S η, S.H = H ∧ Rel B.toBx S ∧ EnR B.toBx S η σ ∧ Post B (fun c d H' => W c d σ H') S (Wv B.toBx Q) (m η S.A)
def rdT (B : By) (W : WX) (m : En → M Bool) : TT := fun σ H Q => ∃ S η, S.H = H ∧ Rel B.toBx S ∧ EnR B.toBx S η σ ∧ Post B (fun c d H' => W c d σ H') S (fun b S' => Q b S'.H) (m η S.A)
def rdA (B : By) (W : WX) (m : En → M (List D)) : TA := fun σ H Q => ∃ S η, S.H = H ∧ Rel B.toBx S ∧ EnR B.toBx S η σ ∧ Post B (fun c d H' => W c d σ H') S (fun l S' => ∀ vs, RepL B.toBx S' l vs → Q vs S'.H) (m η S.A)
abbrev SE (X : Cx) (B : By) (W : WX) (e : Expr) (m : En → M D) : Prop := PE X e (rdE B W m)
abbrev ST (X : Cx) (B : By) (W : WX) (e : Expr) (m : En → M Bool) : Prop := PT X e (rdT B W m)
abbrev SW (X : Cx) (B : By) (W : WX) (e : Expr) (m : En → M Bool) : Prop := PW X e (rdT B W m)
abbrev SA (X : Cx) (B : By) (W : WX) (es : List Expr) (m : En → M (List D)) : Prop := PA X es (rdA B W m)
theorem PE.mono {X : Cx} {e : Expr} {t t' : TE} (h : PE X e t) (k : ∀ σ H Q, t' σ H Q → t σ H Q) : PE X e t' := ⟨fun pins s σ H Q I q => h.run pins s σ H Q I (k σ H Q q)⟩
theorem PT.mono {X : Cx} {e : Expr} {t t' : TT} (h : PT X e t) (k : ∀ σ H Q, t' σ H Q → t σ H Q) : PT X e t' := ⟨fun pins s σ H Q I q => h.run pins s σ H Q I (k σ H Q q)⟩
theorem PW.mono {X : Cx} {e : Expr} {t t' : TT} (h : PW X e t) (k : ∀ σ H Q, t' σ H Q → t σ H Q) : PW X e t' := ⟨fun wh pins s σ H Q I q => h.run wh pins s σ H Q I (k σ H Q q)⟩
theorem PA.mono {X : Cx} {e : List Expr} {t t' : TA} (h : PA X e t) (k : ∀ σ H Q, t' σ H Q → t σ H Q) : PA X e t' := ⟨fun pos pins s σ H Q I q => h.run pos pins s σ H Q I (k σ H Q q)⟩
theorem PS.mono {X : Cx} {e : Stmt} {t t' : TS} (h : PS X e t) (k : ∀ D σ H, t' D σ H → t D σ H) : PS X e t' := ⟨fun pins s σ H D I q => h.run pins s σ H D I (k D σ H q)⟩
theorem PSs.mono {X : Cx} {e : List Stmt} {t t' : TS} (h : PSs X e t) (k : ∀ D σ H, t' D σ H → t D σ H) : PSs X e t' := ⟨fun pins s σ H D I q => h.run pins s σ H D I (k D σ H q)⟩
theorem PG.mono {X : Cx} {e : Expr} {t t' : TG} (h : PG X e t) (k : ∀ v σ H Q, t' v σ H Q → t v σ H Q) : PG X e t' := ⟨fun pins s σ H v u Q I r q => h.run pins s σ H v u Q I r (k v σ H Q q)⟩

/-- the context of a code: what is known of it. k: how many calls deep there is room -/
structure Ok (X : Cx) (B : By) (W : WX) (k : Nat) : Prop where
  prog : X.prog = B.prog
  w : X.w = B.w
  K : X.K = B.K
  calm : X.calm = true
  nd : X.N.Nodup
  tk : Takes X W
  po : PassesOwn (model X.prog X.w) X.A X.env X.xe
  room : Room k X.A

/-! ### names, constants -/
def getv (η : En) (i : Nat) : M D := M.opt fun _ => match η[i]? with
  | some (some d) => some d
  | _ => none
section
variable {X : Cx} {B : By} {W : WX} {k : Nat} {a b c e : Expr} {ma mb mc : En → M D} {pos : Pos}
theorem se_var {i : Nat} {x : Str} (hN : X.N[i]? = some x) (hv : Vis X.env.scope x) (hd : (x == ("__debug__" : Str)) = false) (hcd : (x == ("__classdict__" : Str)) = false) : SE X B W (.Name x pos) (fun η => getv η i) := by
  refine PE.mono (pe_var hN hv hd hcd) fun σ H Q ⟨S, η, eH, r, en, p⟩ => ?_
  obtain ⟨d, q, p⟩ := p.opt r
  have q' : η[i]? = some (some d) := by
    cases z : η[i]? with
    | none => rw [z] at q; cases q
    | some o =>
      rw [z] at q
      cases o with
      | none => cases q
      | some d' => cases q; rfl
  obtain ⟨v, h1, h2⟩ := en.get i d q'
  exact ⟨v, h1, by rw [← eH]; exact p S rfl (.refl r) v h2⟩
/-- a value that is always there -/
theorem se_val {v : V} {d : D} (h : PE X e (tC v)) (hv : ∀ S, Rep B.toBx S d v) : SE X B W e (fun _ => pure d) :=
  PE.mono h fun σ H Q ⟨S, η, eH, r, en, p⟩ => by
    show Q v H
    rw [← eH]
    exact p S rfl (.refl r) v (hv S)
theorem se_int {i : Int} {j : Nat} : SE X B W (.Constant (.int i) j pos) (fun _ => pure (.int i)) := se_val pe_int fun _ => .int i
theorem se_bl {i : Bool} {j : Nat} : SE X B W (.Constant (.bool i) j pos) (fun _ => pure (.bl i)) := se_val pe_bl fun _ => .bl i
theorem se_non {j : Nat} : SE X B W (.Constant .none j pos) (fun _ => pure .non) := se_val pe_non fun _ => .non
theorem se_str {x : Str} {j : Nat} : SE X B W (.Constant (.str x) j pos) (fun _ => pure (.str x)) := se_val pe_str fun _ => .str x

/-! ### two values -/
/-- a two-place operation on data that changes nothing -/
abbrev Op2 := Sto → D → D → Option D
def rdO (B : Bx) (op : Op2) : R2 := fun x y H Q => ∃ S p q d, S.H = H ∧ Rel B S ∧ Rep B S p x ∧ Rep B S q y ∧ op S.A p q = some d ∧ ∀ S' v, S'.A = S.A → Nxt B S S' → Rep B S' d v → Q v S'.H
abbrev OpD (X : Cx) (B : Bx) (f : Value → Value → Sem Value) (op : Op2) : Prop := OpR X f (rdO B op)
def do2 (op : Op2) (x y : D) : M D := M.opt fun A => op A x y
theorem two_val {σ : L2.St} {H : Hp} {Q : VK} {op : Op2} (h : rdE B W (fun η => do let x ← ma η; let y ← mb η; do2 op x y) σ H Q) :
    rdE B W ma σ H fun x H1 => rdE B W mb σ H1 fun y H2 => rdO B.toBx op x y H2 Q := by
  obtain ⟨S, η, rfl, r, en, p⟩ := h
  refine ⟨S, η, rfl, r, en, Post.imp (Post.bind p) fun x S1 n1 p1 v1 r1 => ?_⟩
  refine ⟨S1, η, rfl, n1.rel, en.ext n1.ext, Post.imp (Post.bind p1) fun y S2 n2 p2 v2 r2 => ?_⟩
  obtain ⟨d, hd, p3⟩ := p2.opt n2.rel
  exact ⟨S2, x, y, d, rfl, n2.rel, r1.ext n2.ext, r2, hd, fun S' v e n rv => p3 S' e n v rv⟩
theorem se_bin {o : Operator} {op : Op2} (ho : OpD X B.toBx (binaryOp o) op) (ha : SE X B W a ma) (hb : SE X B W b mb) : SE X B W (.BinOp a o b pos) (fun η => do let x ← ma η; let y ← mb η; do2 op x y) :=
  PE.mono (pe_op ho ha hb) fun σ H Q h => two_val h
theorem se_cmp {o : CmpOp} {op : Op2} (ho : OpD X B.toBx (compareOp o) op) (ha : SE X B W a ma) (hb : SE X B W b mb) (hm : behindInMarks o b = false) : SE X B W (.Compare a [o] [b] pos) (fun η => do let x ← ma η; let y ← mb η; do2 op x y) :=
  PE.mono (pe_cmpR ho ha hb hm) fun σ H Q h => two_val h
/-- a test that is a comparison's value -/
def blOf : D → M Bool
  | .bl b => pure b
  | _ => M.err
theorem two_test {σ : L2.St} {H : Hp} {Q : Bool → Hp → Prop} {op : Op2} (h : rdT B W (fun η => do let x ← ma η; let y ← mb η; let z ← do2 op x y; blOf z) σ H Q) :
    rdE B W (fun η => do let x ← ma η; let y ← mb η; do2 op x y) σ H fun x H' => ∃ k, x = .bl k ∧ Q k H' := by
  obtain ⟨S, η, rfl, r, en, p⟩ := h
  refine ⟨S, η, rfl, r, en, ?_⟩
  have e : ((do let x ← ma η; let y ← mb η; let z ← do2 op x y; blOf z) : M Bool) S.A = ((do let x ← ma η; let y ← mb η; do2 op x y) >>= blOf : M Bool) S.A := by
    simp only [M.bind_def]
    cases ma η S.A with
    | ok x A1 =>
      simp only
      cases mb η A1 <;> rfl
    | exc => rfl
    | err => rfl
  dsimp only at p
  rw [e] at p
  refine Post.imp (Post.bind p) fun x S1 n1 p1 v1 r1 => ?_
  cases x with
  | bl b =>
    cases r1
    exact ⟨b, rfl, p1 S1 rfl (.refl n1.rel)⟩
  | _ => exact p1.elim
theorem st_cmp {o : CmpOp} {op : Op2} (ho : OpD X B.toBx (compareOp o) op) (ha : SE X B W a ma) (hb : SE X B W b mb) (hm : behindInMarks o b = false) : ST X B W (.Compare a [o] [b] pos) (fun η => do let x ← ma η; let y ← mb η; let z ← do2 op x y; blOf z) :=
  PT.mono (pt_cmpR ho ha hb hm) fun σ H Q h => two_val (two_test h)

/-! ### one value -/
abbrev Op1 := Sto → D → Option D
def do1 (op : Op1) (x : D) : M D := M.opt fun A => op A x
def rdU (B : Bx) (op : Op1) : V → Hp → VK → Prop := fun x H Q => ∃ S p d, S.H = H ∧ Rel B S ∧ Rep B S p x ∧ op S.A p = some d ∧ ∀ S' v, S'.A = S.A → Nxt B S S' → Rep B S' d v → Q v S'.H
theorem se_un {o : UnaryOp} {op : Op1} (ho : UnR X (unaryOp o) (rdU B.toBx op)) (ha : SE X B W a ma) : SE X B W (.UnaryOp o a pos) (fun η => do let x ← ma η; do1 op x) := by
  refine PE.mono (pe_un ho ha) fun σ H Q ⟨S, η, eH, r, en, p⟩ => ?_
  subst eH
  refine ⟨S, η, rfl, r, en, Post.imp (Post.bind p) fun x S1 n1 p1 v1 r1 => ?_⟩
  obtain ⟨d, hd, p3⟩ := p1.opt n1.rel
  exact ⟨S1, x, d, rfl, n1.rel, r1, hd, fun S' v e n rv => p3 S' e n v rv⟩

/-! ### argument lists -/
theorem sa_nil : SA X B W [] (fun _ => pure []) := PA.mono pa_nil fun σ H Q ⟨S, η, eH, r, en, p⟩ => by
  subst eH
  exact p S rfl (.refl r) [] .nil
theorem sa_cons {es : List Expr} {ms : En → M (List D)} (ha : SE X B W e ma) (hr : SA X B W es ms) (hs : starEach (e :: es) X.env = (false, eval e X.env) :: starEach es X.env) : SA X B W (e :: es) (fun η => do let x ← ma η; let l ← ms η; pure (x :: l)) := by
  refine PA.mono (pa_cons ha hr hs) fun σ H Q ⟨S, η, eH, r, en, p⟩ => ?_
  subst eH
  refine ⟨S, η, rfl, r, en, Post.imp (Post.bind p) fun x S1 n1 p1 v1 r1 => ?_⟩
  refine ⟨S1, η, rfl, n1.rel, en.ext n1.ext, Post.imp (Post.bind p1) fun l S2 n2 p2 vs r2 => ?_⟩
  exact p2 S2 rfl (.refl n2.rel) _ (.cons (r1.ext n2.ext) r2)

/-! ### built-in calls -/
abbrev OpN := Sto → List D → Option (D × Sto)
def doN (op : OpN) (l : List D) : M D := M.optS fun A => op A l
def rdN (B : Bx) (op : OpN) : List V → Hp → VK → Prop := fun vs H Q => ∃ S l d A, S.H = H ∧ Rel B S ∧ RepL B S l vs ∧ op S.A l = some (d, A) ∧ ∀ S' v, S'.A = A → Nxt B S S' → Rep B S' d v → Q v S'.H
theorem args_then {σ : L2.St} {H : Hp} {Q : VK} {ms : En → M (List D)} {op : OpN} (h : rdE B W (fun η => do let l ← ms η; doN op l) σ H Q) : rdA B W ms σ H fun vs H1 => rdN B.toBx op vs H1 Q := by
  obtain ⟨S, η, rfl, r, en, p⟩ := h
  refine ⟨S, η, rfl, r, en, Post.imp (Post.bind p) fun l S1 n1 p1 vs r1 => ?_⟩
  obtain ⟨d, A', hd, p3⟩ := p1.optS
  exact ⟨S1, l, d, A', rfl, n1.rel, r1, hd, fun S' v e n rv => p3 S' e n v rv⟩
theorem se_callB {x : Str} {p : Pos} {id : String} {es : List Expr} {ms : En → M (List D)} {op : OpN} (hc : CallR X (.builtin id) (rdN B.toBx op)) (hg : Gl X x) (hm : X.mg x = none) (hv : bootBuiltins x = some (.builtin id)) (ha : SA X B W (e :: es) ms)
    (hn : x ≠ "__name__") (hdb : (x == ("__debug__" : Str)) = false) (he : starEach (e :: es) X.env = (false, eval e X.env) :: starEach es X.env) (hpl : (backTo pos (starEach es X.env)).any (·.1) = false) :
    SE X B W (.Call (.Name x p) (e :: es) [] pos) (fun η => do let l ← ms η; doN op l) := PE.mono (pe_callB hc hg hm hv ha hn hdb he hpl) fun σ H Q h => args_then h
theorem se_callTy {x : Str} {p : Pos} {T : String} {es : List Expr} {ms : En → M (List D)} {op : OpN} (hc : CallR X (.type T) (rdN B.toBx op)) (hg : Gl X x) (hm : X.mg x = none) (hv : bootBuiltins x = some (.type T)) (ha : SA X B W (e :: es) ms)
    (hn : x ≠ "__name__") (hdb : (x == ("__debug__" : Str)) = false) (he : starEach (e :: es) X.env = (false, eval e X.env) :: starEach es X.env) (hpl : (backTo pos (starEach es X.env)).any (·.1) = false) :
    SE X B W (.Call (.Name x p) (e :: es) [] pos) (fun η => do let l ← ms η; doN op l) := PE.mono (pe_callTy hc hg hm hv ha hn hdb he hpl) fun σ H Q h => args_then h

/-! ### displays -/
theorem se_tup {es : List Expr} {ms : En → M (List D)} {x1 : Nat} (h : SA X B W es ms) : SE X B W (.Tuple es x1 pos) (fun η => do let l ← ms η; M.opt fun _ => if l.length ≤ sizeLine then some (.tup l) else none) := by
  refine PE.mono (pe_tup h) fun σ H Q ⟨S, η, eH, r, en, p⟩ => ?_
  subst eH
  refine ⟨S, η, rfl, r, en, Post.imp (Post.bind p) fun l S1 n1 p1 vs r1 => ?_⟩
  obtain ⟨d, hd, p3⟩ := p1.opt n1.rel
  have hl := r1.length
  split at hd
  · rename_i hz
    cases hd
    exact ⟨by rw [← hl]; exact hz, fun p hp => p3 (S1.put p (.tup vs)) rfl (.put n1.rel hp) _ (.tup (.inl (.inl upd_same)) (r1.ext (.put hp)))⟩
  · cases hd
/-- a list that nobody changes -/
theorem se_lst {es : List Expr} {ms : En → M (List D)} (h : SA X B W es ms) : SE X B W (.List es pos) (fun η => do let l ← ms η; M.opt fun _ => if l.length ≤ sizeLine then some (.lst l) else none) := by
  refine PE.mono (pe_lst h) fun σ H Q ⟨S, η, eH, r, en, p⟩ => ?_
  subst eH
  refine ⟨S, η, rfl, r, en, Post.imp (Post.bind p) fun l S1 n1 p1 vs r1 => ?_⟩
  obtain ⟨d, hd, p3⟩ := p1.opt n1.rel
  have hl := r1.length
  split at hd
  · rename_i hz
    cases hd
    exact ⟨by rw [← hl]; exact hz, fun p hp => p3 (S1.put p (.lst vs)) rfl (.put n1.rel hp) _ (.lst upd_same (nlive_put n1.rel hp) (r1.ext (.put hp)))⟩
  · cases hd
/-- a new changing object -/
def newO (o : AO) : M D := fun A => .ok (.ref A.length) (A ++ [o])
theorem Sx.add_rho {S : Sx} {p : Addr} {o : HO} {x : AO} : (S.add p o x).rho S.A.length = p := if_pos rfl
theorem Rep.new {B : Bx} {S : Sx} {p : Addr} {o : HO} {x : AO} : Rep B (S.add p o x) (.ref S.A.length) (.ref p) := by
  have h : Rep B (S.add p o x) (.ref S.A.length) (.ref ((S.add p o x).rho S.A.length)) := .ref (by
    show S.A.length < (S.A ++ [x]).length
    rw [List.length_append, List.length_singleton]
    omega)
  rw [Sx.add_rho] at h
  exact h
/-- a list that changes -/
theorem se_lstR {es : List Expr} {ms : En → M (List D)} (h : SA X B W es ms) : SE X B W (.List es pos) (fun η => do let l ← ms η; let l' ← M.opt fun _ => if l.length ≤ sizeLine then some l else none; newO (.lst l')) := by
  refine PE.mono (pe_lst h) fun σ H Q ⟨S, η, eH, r, en, p⟩ => ?_
  subst eH
  refine ⟨S, η, rfl, r, en, Post.imp (Post.bind p) fun l S1 n1 p1 vs r1 => ?_⟩
  obtain ⟨d, hd, p3⟩ := (Post.bind p1).opt n1.rel
  have hl := r1.length
  split at hd
  · rename_i hz
    cases hd
    refine ⟨by rw [← hl]; exact hz, fun p hp => ?_⟩
    have q := p3 S1 rfl (.refl n1.rel)
    have nx : Nxt B.toBx S1 (S1.add p (.lst vs) (.lst l)) := .add n1.rel hp ⟨vs, upd_same, r1.ext (.add hp)⟩
    exact q _ rfl nx _ .new
  · cases hd
end
end Cr
end

section
set_option Elab.async false
set_option linter.all false
set_option maxRecDepth 100000
set_option maxHeartbeats 1000000
/-! Core, part C: == and < of data without dicts, at the model's level. -/
namespace Cr
open PySem PySem.Spec PyProof.Rows L2 PySem.SeqAt

mutual
def nod : PyData → Bool
  | .dict _ => false
  | .list xs => nods xs
  | .tuple xs => nods xs
  | .none | .bool _ | .int _ | .str _ => true
def nods : List PyData → Bool
  | [] => true
  | x :: xs => nod x && nods xs
end
theorem nods_cons {x : PyData} {xs : List PyData} (h : nods (x :: xs) = true) : nod x = true ∧ nods xs = true := Bool.and_eq_true_iff.mp (by rw [nods] at h; exact h)

mutual
theorem uniq {h : Heap} : ∀ (d e : PyData) (v : Value) (as bs : List Addr), nod d = true → Reads h v d as → Reads h v e bs → d = e
  | .none, e, _, _, _, _, ra, rb => by cases ra; cases rb; rfl
  | .bool b, e, _, _, _, _, ra, rb => by cases ra; cases rb; rfl
  | .int i, e, _, _, _, _, ra, rb => by cases ra; cases rb; rfl
  | .str x, e, _, _, _, _, ra, rb => by cases ra; cases rb; rfl
  | .dict _, _, _, _, _, hn, _, _ => by simp [nod] at hn
  | .list xs, e, _, _, _, hn, ra, rb => by
    cases ra with
    | list h1 h2 h3 h4 =>
      cases rb with
      | list k1 k2 k3 k4 =>
        rw [h1] at k1; cases k1
        rw [h3] at k3; cases k3
        rw [uniqs xs _ _ _ _ (by simpa [nod] using hn) h4 k4]
      | tuple k1 k2 k3 k4 => rw [h1] at k1; cases k1; exact absurd (Value.type.inj (h2.symm.trans k2)) (by decide)
      | dict k1 k2 k3 k4 => rw [h1] at k1; cases k1; exact absurd (Value.type.inj (h2.symm.trans k2)) (by decide)
  | .tuple xs, e, _, _, _, hn, ra, rb => by
    cases ra with
    | tuple h1 h2 h3 h4 =>
      cases rb with
      | tuple k1 k2 k3 k4 =>
        rw [h1] at k1; cases k1
        rw [h3] at k3; cases k3
        rw [uniqs xs _ _ _ _ (by simpa [nod] using hn) h4 k4]
      | list k1 k2 k3 k4 => rw [h1] at k1; cases k1; exact absurd (Value.type.inj (h2.symm.trans k2)) (by decide)
      | dict k1 k2 k3 k4 => rw [h1] at k1; cases k1; exact absurd (Value.type.inj (h2.symm.trans k2)) (by decide)
theorem uniqs {h : Heap} : ∀ (ds es : List PyData) (vs : List Value) (as bs : List Addr), nods ds = true → ReadsAll h vs ds as → ReadsAll h vs es bs → ds = es
  | [], _, _, _, _, _, ra, rb => by cases ra; cases rb; rfl
  | d :: ds, _, _, _, _, hn, ra, rb => by
    obtain ⟨n1, n2⟩ := nods_cons hn
    cases ra with
    | cons h1 h2 =>
      cases rb with
      | cons k1 k2 => rw [uniq d _ _ _ _ n1 h1 k1, uniqs ds _ _ _ _ n2 h2 k2]
end
mutual
theorem eqv_self : ∀ d : PyData, nod d = true → PyData.eqv d d = true
  | .none, _ => rfl
  | .bool b, _ => by simp [PyData.eqv]
  | .int i, _ => by simp [PyData.eqv]
  | .str x, _ => by simp [PyData.eqv]
  | .list xs, h => by rw [PyData.eqv]; exact eqvs_self xs (by simpa [nod] using h)
  | .tuple xs, h => by rw [PyData.eqv]; exact eqvs_self xs (by simpa [nod] using h)
  | .dict _, h => by simp [nod] at h
theorem eqvs_self : ∀ xs : List PyData, nods xs = true → PyData.eqvAll xs xs = true
  | [], _ => rfl
  | x :: xs, h => by
    obtain ⟨n1, n2⟩ := nods_cons h
    rw [PyData.eqvAll, eqv_self x n1, eqvs_self xs n2]; rfl
end

/-- room for as many levels as the datum has -/
theorem rin {A : Around} {xs ys : List PyData} (h : A.units + min (PyData.depthAll xs + 1) (PyData.depthAll ys + 1) < cLine) : A.in1.units + min (PyData.depthAll xs) (PyData.depthAll ys) < cLine := by
  show A.units + 1 + _ < _
  omega

mutual
theorem eqAtN : ∀ (da db : PyData) (A : Around) (s : Shared) (a b : Value) (as bs : List Addr), Reads s.heap a da as → Reads s.heap b db bs → nod da = true → nod db = true → A.units + min da.depth db.depth < cLine → EqAt A s a b (PyData.eqv da db)
  | .dict _, _, _, _, _, _, _, _, _, _, hn, _, _ => by simp [nod] at hn
  | .none, db, A, s, _, _, _, _, ra, rb, _, hb, hu => by
    have h0 : A.units < cLine := by omega
    cases ra
    cases rb with
    | none => exact EqAt.same _
    | bool y => exact EqAt.none_bool y
    | int y u => exact EqAt.none_int y u
    | str y u => exact EqAt.none_str y u
    | list k1 k2 k3 k4 => exact EqAt.none_list ⟨_, k1, k2, _, k3⟩ h0
    | tuple k1 k2 k3 k4 => exact EqAt.none_tuple ⟨_, k1, k2, _, k3⟩ h0
    | dict => simp [nod] at hb
  | .bool x, db, A, s, _, _, _, _, ra, rb, _, hb, hu => by
    have h0 : A.units < cLine := by omega
    cases ra
    cases rb with
    | none => exact EqAt.bool_none x
    | bool y => exact EqAt.bool_bool x y
    | int y u => exact EqAt.bool_int x y u
    | str y u => exact EqAt.bool_str x y u
    | list k1 k2 k3 k4 => exact EqAt.bool_list x ⟨_, k1, k2, _, k3⟩ h0
    | tuple k1 k2 k3 k4 => exact EqAt.bool_tuple x ⟨_, k1, k2, _, k3⟩ h0
    | dict => simp [nod] at hb
  | .int x, db, A, s, _, _, _, _, ra, rb, _, hb, hu => by
    have h0 : A.units < cLine := by omega
    cases ra with
    | int _ t =>
      cases rb with
      | none => exact EqAt.int_none x t
      | bool y => exact EqAt.int_bool x t y
      | int y u => exact EqAt.int_int x t y u
      | str y u => exact EqAt.int_str x t y u
      | list k1 k2 k3 k4 => exact EqAt.int_list x t ⟨_, k1, k2, _, k3⟩ h0
      | tuple k1 k2 k3 k4 => exact EqAt.int_tuple x t ⟨_, k1, k2, _, k3⟩ h0
      | dict => simp [nod] at hb
  | .str x, db, A, s, _, _, _, _, ra, rb, _, hb, hu => by
    have h0 : A.units < cLine := by omega
    cases ra with
    | str _ t =>
      cases rb with
      | none => exact EqAt.str_none x t
      | bool y => exact EqAt.str_bool x t y
      | int y u => exact EqAt.str_int x t y u
      | str y u => exact EqAt.str_str x t y u
      | list k1 k2 k3 k4 => exact EqAt.str_list x t ⟨_, k1, k2, _, k3⟩ h0
      | tuple k1 k2 k3 k4 => exact EqAt.str_tuple x t ⟨_, k1, k2, _, k3⟩ h0
      | dict => simp [nod] at hb
  | .list xs, db, A, s, _, _, _, _, ra, rb, ha, hb, hu => by
    have h0 : A.units < cLine := by omega
    have ha' : nods xs = true := by simpa [nod] using ha
    cases ra with
    | @list l o vs n _ as₁ h1 h2 h3 h4 =>
      have hl : s.heap.IsList l vs := ⟨_, h1, h2, _, h3⟩
      cases rb with
      | none => exact EqAt.list_none hl h0
      | bool y => exact EqAt.list_bool y hl h0
      | int y u => exact EqAt.list_int y u hl h0
      | str y u => exact EqAt.list_str y u hl h0
      | tuple k1 k2 k3 k4 => exact EqAt.list_tuple hl ⟨_, k1, k2, _, k3⟩ h0
      | dict => simp [nod] at hb
      | @list l' o' vs' n' ys bs₁ k1 k2 k3 k4 =>
        have hb' : nods ys = true := by simpa [nod] using hb
        have hl' : s.heap.IsList l' vs' := ⟨_, k1, k2, _, k3⟩
        have n1 : vs.size = xs.length := by simpa using ReadsAll.length _ _ _ h4
        have n2 : vs'.size = ys.length := by simpa using ReadsAll.length _ _ _ k4
        show EqAt A s (.ref l) (.ref l') (PyData.eqvAll xs ys)
        by_cases hll : l = l'
        · subst hll
          have e : PyData.list xs = PyData.list ys := uniq (.list xs) (.list ys) _ _ _ ha (.list h1 h2 h3 h4) (.list k1 k2 k3 k4)
          injection e with e
          subst e
          rw [eqvs_self xs ha']
          exact EqAt.same _
        · by_cases hsz : vs.size = vs'.size
          · rw [← eqvAll_same_length (by omega : xs.length = ys.length), ← n1]
            refine EqAt.of_refs hll (RcAt.lists hl hl' hsz h0 fun j j1 j2 => ?_)
            have := eqAtNs xs ys A.in1 s vs.toList vs'.toList _ _ h4 k4 ha' hb' (rin hu) j (by simpa using j1) (by simpa using j2)
            simpa using this
          · rw [eqvAll_other_length (by omega : xs.length ≠ ys.length)]
            exact EqAt.of_refs hll (RcAt.lists_lengths hl hl' (by simpa using hsz) h0)
  | .tuple xs, db, A, s, _, _, _, _, ra, rb, ha, hb, hu => by
    have h0 : A.units < cLine := by omega
    have ha' : nods xs = true := by simpa [nod] using ha
    cases ra with
    | @tuple l o vs n _ as₁ h1 h2 h3 h4 =>
      have hl : s.heap.IsTuple l vs := ⟨_, h1, h2, _, h3⟩
      cases rb with
      | none => exact EqAt.tuple_none hl h0
      | bool y => exact EqAt.tuple_bool y hl h0
      | int y u => exact EqAt.tuple_int y u hl h0
      | str y u => exact EqAt.tuple_str y u hl h0
      | list k1 k2 k3 k4 => exact EqAt.tuple_list hl ⟨_, k1, k2, _, k3⟩ h0
      | dict => simp [nod] at hb
      | @tuple l' o' vs' n' ys bs₁ k1 k2 k3 k4 =>
        have hb' : nods ys = true := by simpa [nod] using hb
        have hl' : s.heap.IsTuple l' vs' := ⟨_, k1, k2, _, k3⟩
        have n1 : vs.size = xs.length := by simpa using ReadsAll.length _ _ _ h4
        have n2 : vs'.size = ys.length := by simpa using ReadsAll.length _ _ _ k4
        show EqAt A s (.ref l) (.ref l') (PyData.eqvAll xs ys)
        by_cases hll : l = l'
        · subst hll
          have e : PyData.tuple xs = PyData.tuple ys := uniq (.tuple xs) (.tuple ys) _ _ _ ha (.tuple h1 h2 h3 h4) (.tuple k1 k2 k3 k4)
          injection e with e
          subst e
          rw [eqvs_self xs ha']
          exact EqAt.same _
        · rw [← eqvAll_eq xs ys, ← n1, ← n2]
          refine EqAt.of_refs hll (RcAt.tuples hl hl' h0 fun j j1 j2 => ?_)
          have := eqAtNs xs ys A.in1 s vs.toList vs'.toList _ _ h4 k4 ha' hb' (rin hu) j (by simpa using j1) (by simpa using j2)
          simpa using this
theorem eqAtNs : ∀ (xs ys : List PyData) (A : Around) (s : Shared) (vs ws : List Value) (as bs : List Addr), ReadsAll s.heap vs xs as → ReadsAll s.heap ws ys bs → nods xs = true → nods ys = true →
    A.units + min (PyData.depthAll xs) (PyData.depthAll ys) < cLine → ∀ j (h1 : j < vs.length) (h2 : j < ws.length), EqAt A s vs[j] ws[j] (pairEq xs ys j)
  | [], _, _, _, _, _, _, _, ra, _, _, _, _, j, h1, _ => by cases ra; exact absurd h1 (Nat.not_lt_zero _)
  | _ :: _, [], _, _, _, _, _, _, _, rb, _, _, _, j, _, h2 => by cases rb; exact absurd h2 (Nat.not_lt_zero _)
  | x :: xs, y :: ys, A, s, _, _, _, _, ra, rb, ha, hb, hu, j, h1, h2 => by
    obtain ⟨a1, a2⟩ := nods_cons ha
    obtain ⟨b1, b2⟩ := nods_cons hb
    have hu' : A.units + min (max x.depth (PyData.depthAll xs)) (max y.depth (PyData.depthAll ys)) < cLine := by
      simpa [PyData.depthAll] using hu
    cases ra with
    | cons r rs =>
      cases rb with
      | cons r' rs' =>
        cases j with
        | zero => exact eqAtN x y A s _ _ _ _ r r' a1 b1 (by omega)
        | succ j => exact eqAtNs xs ys A s _ _ _ _ rs rs' a2 b2 (by omega) j (Nat.lt_of_succ_lt_succ h1) (Nat.lt_of_succ_lt_succ h2)
end
/-- a == b -/
theorem rcAtN {da db : PyData} {A : Around} {s : Shared} {a b : Value} {as bs : List Addr} (ra : Reads s.heap a da as) (rb : Reads s.heap b db bs) (ha : nod da = true) (hb : nod db = true)
    (hu : A.units + min da.depth db.depth < cLine) : RcAt A s a b (PyData.eqv da db) := by
  have h0 : A.units < cLine := by omega
  cases ra with
  | none =>
    cases rb with
    | none => exact RcAt.none_none
    | bool y => exact RcAt.none_bool y
    | int y u => exact RcAt.none_int y u
    | str y u => exact RcAt.none_str y u
    | list k1 k2 k3 k4 => exact RcAt.none_list ⟨_, k1, k2, _, k3⟩ h0
    | tuple k1 k2 k3 k4 => exact RcAt.none_tuple ⟨_, k1, k2, _, k3⟩ h0
    | dict => simp [nod] at hb
  | bool x =>
    cases rb with
    | none => exact RcAt.bool_none x
    | bool y => exact RcAt.bool_bool x y
    | int y u => exact RcAt.bool_int x y u
    | str y u => exact RcAt.bool_str x y u
    | list k1 k2 k3 k4 => exact RcAt.bool_list x ⟨_, k1, k2, _, k3⟩ h0
    | tuple k1 k2 k3 k4 => exact RcAt.bool_tuple x ⟨_, k1, k2, _, k3⟩ h0
    | dict => simp [nod] at hb
  | int x t =>
    cases rb with
    | none => exact RcAt.int_none x t
    | bool y => exact RcAt.int_bool x t y
    | int y u => exact RcAt.int_int x t y u
    | str y u => exact RcAt.int_str x t y u
    | list k1 k2 k3 k4 => exact RcAt.int_list x t ⟨_, k1, k2, _, k3⟩ h0
    | tuple k1 k2 k3 k4 => exact RcAt.int_tuple x t ⟨_, k1, k2, _, k3⟩ h0
    | dict => simp [nod] at hb
  | str x t =>
    cases rb with
    | none => exact RcAt.str_none x t
    | bool y => exact RcAt.str_bool x t y
    | int y u => exact RcAt.str_int x t y u
    | str y u => exact RcAt.str_str x t y u
    | list k1 k2 k3 k4 => exact RcAt.str_list x t ⟨_, k1, k2, _, k3⟩ h0
    | tuple k1 k2 k3 k4 => exact RcAt.str_tuple x t ⟨_, k1, k2, _, k3⟩ h0
    | dict => simp [nod] at hb
  | @list l o vs n xs as₁ h1 h2 h3 h4 =>
    have hl : s.heap.IsList l vs := ⟨_, h1, h2, _, h3⟩
    have ha' : nods xs = true := by simpa [nod] using ha
    cases rb with
    | none => exact RcAt.list_none hl h0
    | bool y => exact RcAt.list_bool y hl h0
    | int y u => exact RcAt.list_int y u hl h0
    | str y u => exact RcAt.list_str y u hl h0
    | tuple k1 k2 k3 k4 => exact RcAt.list_tuple hl ⟨_, k1, k2, _, k3⟩ h0
    | dict => simp [nod] at hb
    | @list l' o' vs' n' ys bs₁ k1 k2 k3 k4 =>
      have hb' : nods ys = true := by simpa [nod] using hb
      have hl' : s.heap.IsList l' vs' := ⟨_, k1, k2, _, k3⟩
      have n1 : vs.size = xs.length := by simpa using ReadsAll.length _ _ _ h4
      have n2 : vs'.size = ys.length := by simpa using ReadsAll.length _ _ _ k4
      have he : ∀ j (j1 : j < vs.size) (j2 : j < vs'.size), EqAt A.in1 s vs[j] vs'[j] (pairEq xs ys j) := fun j j1 j2 => by
        have := eqAtNs xs ys A.in1 s vs.toList vs'.toList _ _ h4 k4 ha' hb' (rin hu) j (by simpa using j1) (by simpa using j2)
        simpa using this
      show RcAt A s (.ref l) (.ref l') (PyData.eqvAll xs ys)
      by_cases hsz : vs.size = vs'.size
      · rw [← eqvAll_same_length (by omega : xs.length = ys.length), ← n1]
        exact RcAt.lists hl hl' hsz h0 he
      · rw [eqvAll_other_length (by omega : xs.length ≠ ys.length)]
        exact RcAt.lists_lengths hl hl' (by simpa using hsz) h0
  | @tuple l o vs n xs as₁ h1 h2 h3 h4 =>
    have hl : s.heap.IsTuple l vs := ⟨_, h1, h2, _, h3⟩
    have ha' : nods xs = true := by simpa [nod] using ha
    cases rb with
    | none => exact RcAt.tuple_none hl h0
    | bool y => exact RcAt.tuple_bool y hl h0
    | int y u => exact RcAt.tuple_int y u hl h0
    | str y u => exact RcAt.tuple_str y u hl h0
    | list k1 k2 k3 k4 => exact RcAt.tuple_list hl ⟨_, k1, k2, _, k3⟩ h0
    | dict => simp [nod] at hb
    | @tuple l' o' vs' n' ys bs₁ k1 k2 k3 k4 =>
      have hb' : nods ys = true := by simpa [nod] using hb
      have hl' : s.heap.IsTuple l' vs' := ⟨_, k1, k2, _, k3⟩
      have n1 : vs.size = xs.length := by simpa using ReadsAll.length _ _ _ h4
      have n2 : vs'.size = ys.length := by simpa using ReadsAll.length _ _ _ k4
      have he : ∀ j (j1 : j < vs.size) (j2 : j < vs'.size), EqAt A.in1 s vs[j] vs'[j] (pairEq xs ys j) := fun j j1 j2 => by
        have := eqAtNs xs ys A.in1 s vs.toList vs'.toList _ _ h4 k4 ha' hb' (rin hu) j (by simpa using j1) (by simpa using j2)
        simpa using this
      show RcAt A s (.ref l) (.ref l') (PyData.eqvAll xs ys)
      rw [← eqvAll_eq xs ys, ← n1, ← n2]
      exact RcAt.tuples hl hl' h0 he
  | dict => simp [nod] at ha

/-- a != b -/
theorem rcNeN {da db : PyData} {A : Around} {s : Shared} {a b : Value} {as bs : List Addr} (ra : Reads s.heap a da as) (rb : Reads s.heap b db bs) (ha : nod da = true) (hb : nod db = true)
    (hu : A.units + min da.depth db.depth < cLine) : RcNeAt A s a b (!PyData.eqv da db) := by
  have h0 : A.units < cLine := by omega
  cases ra with
  | none =>
    cases rb with
    | none => exact RcNeAt.none_none
    | bool y => exact RcNeAt.none_bool y
    | int y u => exact RcNeAt.none_int y u
    | str y u => exact RcNeAt.none_str y u
    | list k1 k2 k3 k4 => exact RcNeAt.none_list ⟨_, k1, k2, _, k3⟩ h0
    | tuple k1 k2 k3 k4 => exact RcNeAt.none_tuple ⟨_, k1, k2, _, k3⟩ h0
    | dict => simp [nod] at hb
  | bool x =>
    cases rb with
    | none => exact RcNeAt.bool_none x
    | bool y => exact RcNeAt.bool_bool x y
    | int y u => exact RcNeAt.bool_int x y u
    | str y u => exact RcNeAt.bool_str x y u
    | list k1 k2 k3 k4 => exact RcNeAt.bool_list x ⟨_, k1, k2, _, k3⟩ h0
    | tuple k1 k2 k3 k4 => exact RcNeAt.bool_tuple x ⟨_, k1, k2, _, k3⟩ h0
    | dict => simp [nod] at hb
  | int x t =>
    cases rb with
    | none => exact RcNeAt.int_none x t
    | bool y => exact RcNeAt.int_bool x t y
    | int y u => exact RcNeAt.int_int x t y u
    | str y u => exact RcNeAt.int_str x t y u
    | list k1 k2 k3 k4 => exact RcNeAt.int_list x t ⟨_, k1, k2, _, k3⟩ h0
    | tuple k1 k2 k3 k4 => exact RcNeAt.int_tuple x t ⟨_, k1, k2, _, k3⟩ h0
    | dict => simp [nod] at hb
  | str x t =>
    cases rb with
    | none => exact RcNeAt.str_none x t
    | bool y => exact RcNeAt.str_bool x t y
    | int y u => exact RcNeAt.str_int x t y u
    | str y u => exact RcNeAt.str_str x t y u
    | list k1 k2 k3 k4 => exact RcNeAt.str_list x t ⟨_, k1, k2, _, k3⟩ h0
    | tuple k1 k2 k3 k4 => exact RcNeAt.str_tuple x t ⟨_, k1, k2, _, k3⟩ h0
    | dict => simp [nod] at hb
  | @list l o vs n xs as₁ h1 h2 h3 h4 =>
    have hl : s.heap.IsList l vs := ⟨_, h1, h2, _, h3⟩
    have ha' : nods xs = true := by simpa [nod] using ha
    cases rb with
    | none => exact RcNeAt.list_none hl h0
    | bool y => exact RcNeAt.list_bool y hl h0
    | int y u => exact RcNeAt.list_int y u hl h0
    | str y u => exact RcNeAt.list_str y u hl h0
    | tuple k1 k2 k3 k4 => exact RcNeAt.list_tuple hl ⟨_, k1, k2, _, k3⟩ h0
    | dict => simp [nod] at hb
    | @list l' o' vs' n' ys bs₁ k1 k2 k3 k4 =>
      have hb' : nods ys = true := by simpa [nod] using hb
      have hl' : s.heap.IsList l' vs' := ⟨_, k1, k2, _, k3⟩
      have n1 : vs.size = xs.length := by simpa using ReadsAll.length _ _ _ h4
      have n2 : vs'.size = ys.length := by simpa using ReadsAll.length _ _ _ k4
      have he : ∀ j (j1 : j < vs.size) (j2 : j < vs'.size), EqAt A.in1 s vs[j] vs'[j] (pairEq xs ys j) := fun j j1 j2 => by
        have := eqAtNs xs ys A.in1 s vs.toList vs'.toList _ _ h4 k4 ha' hb' (rin hu) j (by simpa using j1) (by simpa using j2)
        simpa using this
      show RcNeAt A s (.ref l) (.ref l') (!PyData.eqvAll xs ys)
      by_cases hsz : vs.size = vs'.size
      · rw [← eqvAll_same_length (by omega : xs.length = ys.length), ← n1]
        exact RcNeAt.lists hl hl' hsz h0 he
      · rw [eqvAll_other_length (by omega : xs.length ≠ ys.length)]
        exact RcNeAt.lists_lengths hl hl' (by simpa using hsz) h0
  | @tuple l o vs n xs as₁ h1 h2 h3 h4 =>
    have hl : s.heap.IsTuple l vs := ⟨_, h1, h2, _, h3⟩
    have ha' : nods xs = true := by simpa [nod] using ha
    cases rb with
    | none => exact RcNeAt.tuple_none hl h0
    | bool y => exact RcNeAt.tuple_bool y hl h0
    | int y u => exact RcNeAt.tuple_int y u hl h0
    | str y u => exact RcNeAt.tuple_str y u hl h0
    | list k1 k2 k3 k4 => exact RcNeAt.tuple_list hl ⟨_, k1, k2, _, k3⟩ h0
    | dict => simp [nod] at hb
    | @tuple l' o' vs' n' ys bs₁ k1 k2 k3 k4 =>
      have hb' : nods ys = true := by simpa [nod] using hb
      have hl' : s.heap.IsTuple l' vs' := ⟨_, k1, k2, _, k3⟩
      have n1 : vs.size = xs.length := by simpa using ReadsAll.length _ _ _ h4
      have n2 : vs'.size = ys.length := by simpa using ReadsAll.length _ _ _ k4
      have he : ∀ j (j1 : j < vs.size) (j2 : j < vs'.size), EqAt A.in1 s vs[j] vs'[j] (pairEq xs ys j) := fun j j1 j2 => by
        have := eqAtNs xs ys A.in1 s vs.toList vs'.toList _ _ h4 k4 ha' hb' (rin hu) j (by simpa using j1) (by simpa using j2)
        simpa using this
      show RcNeAt A s (.ref l) (.ref l') (!PyData.eqvAll xs ys)
      rw [← eqvAll_eq xs ys, ← n1, ← n2]
      exact RcNeAt.tuples hl hl' h0 he
  | dict => simp [nod] at ha

/-! ### less -/
mutual
/-- a < b, where the first place that differs can be compared -/
def ltP : PyData → PyData → Option Bool
  | .int i, .int j => some (decide (i < j))
  | .str x, .str y => some (decide (x.cps.toList < y.cps.toList))
  | .list xs, .list ys => ltPs xs ys
  | .tuple xs, .tuple ys => ltPs xs ys
  | _, _ => none
def ltPs : List PyData → List PyData → Option Bool
  | [], [] => some false
  | [], _ :: _ => some true
  | _ :: _, [] => some false
  | x :: xs, y :: ys => if PyData.eqv x y = true then ltPs xs ys else ltP x y
end
theorem firstLt_map {e r : Nat → Bool} {fin : Bool} : ∀ l : List Nat, firstLt e r fin (l.map (· + 1)) = firstLt (fun j => e (j + 1)) (fun j => r (j + 1)) fin l
  | [] => rfl
  | j :: l => by
    show (if e (j + 1) = true then firstLt e r fin (l.map (· + 1)) else r (j + 1)) = _
    rw [firstLt_map l]
    rfl
theorem ltPs_there : ∀ (xs ys : List PyData) (k : Bool), ltPs xs ys = some k → ∀ j, j < xs.length → j < ys.length → (∀ i, i < j → pairEq xs ys i = true) → pairEq xs ys j = false → ∃ q, ltP (xs.getD j .none) (ys.getD j .none) = some q
  | [], _, _, _, j, h1, _, _, _ => absurd h1 (Nat.not_lt_zero _)
  | _ :: _, [], _, _, j, _, h2, _, _ => absurd h2 (Nat.not_lt_zero _)
  | x :: xs, y :: ys, k, h, 0, _, _, _, hj => by
    have hj' : PyData.eqv x y = false := hj
    rw [ltPs, if_neg (by rw [hj']; decide)] at h
    exact ⟨k, h⟩
  | x :: xs, y :: ys, k, h, j + 1, h1, h2, hi, hj => by
    have h0 : PyData.eqv x y = true := hi 0 (Nat.succ_pos _)
    rw [ltPs, if_pos h0] at h
    exact ltPs_there xs ys k h j (Nat.lt_of_succ_lt_succ h1) (Nat.lt_of_succ_lt_succ h2) (fun i q => hi (i + 1) (Nat.succ_lt_succ q)) hj
/-- the place that decides -/
theorem ltPs_first : ∀ (xs ys : List PyData) (k : Bool), ltPs xs ys = some k → ∀ (r : Nat → Bool), (∀ j, j < xs.length → j < ys.length → (∀ i, i < j → pairEq xs ys i = true) → pairEq xs ys j = false → ltP (xs.getD j .none) (ys.getD j .none) = some (r j)) →
    firstLt (pairEq xs ys) r (decide (xs.length < ys.length)) (List.range (min xs.length ys.length)) = k
  | [], [], k, h, r, _ => by
    simp only [ltPs, Option.some.injEq] at h
    subst h
    rfl
  | [], y :: ys, k, h, r, _ => by
    simp only [ltPs, Option.some.injEq] at h
    subst h
    simp [firstLt]
  | x :: xs, [], k, h, r, _ => by
    simp only [ltPs, Option.some.injEq] at h
    subst h
    simp [firstLt]
  | x :: xs, y :: ys, k, h, r, hr => by
    rw [ltPs] at h
    have e1 : min (x :: xs).length (y :: ys).length = min xs.length ys.length + 1 := by simp only [List.length_cons]; omega
    have e2 : decide ((x :: xs).length < (y :: ys).length) = decide (xs.length < ys.length) := by simp
    rw [e1, e2, List.range_succ_eq_map]
    by_cases q : PyData.eqv x y = true
    · rw [if_pos q] at h
      have q' : pairEq (x :: xs) (y :: ys) 0 = true := q
      rw [firstLt_yes q']
      have := firstLt_map (e := pairEq (x :: xs) (y :: ys)) (r := r) (fin := decide (xs.length < ys.length)) (List.range (min xs.length ys.length))
      rw [show (List.map Nat.succ (List.range (min xs.length ys.length))) = (List.range (min xs.length ys.length)).map (· + 1) from rfl, this]
      refine ltPs_first xs ys k h (fun j => r (j + 1)) fun j h1 h2 hi hj => ?_
      have := hr (j + 1) (by simpa using h1) (by simpa using h2) (fun i hi' => by
        cases i with
        | zero => exact q
        | succ i => exact hi i (by omega)) hj
      simpa using this
    · rw [if_neg q] at h
      have q' : pairEq (x :: xs) (y :: ys) 0 = false := by
        show PyData.eqv x y = false
        simpa using q
      rw [firstLt_no q']
      have h0 : ltP ((x :: xs).getD 0 .none) ((y :: ys).getD 0 .none) = some (r 0) := hr 0 (by simp) (by simp) (fun i hi => absurd hi (Nat.not_lt_zero _)) q'
      have h0' : ltP x y = some (r 0) := h0
      rw [h0'] at h
      exact Option.some.inj h

/-- items can be asked for == in all places, for < in the first that differs -/
structure Cmps (A : Around) (s : Shared) (xs ys : Array Value) (e r : Nat → Bool) : Prop where
  eq : ∀ j (h1 : j < xs.size) (h2 : j < ys.size), EqAt A s xs[j] ys[j] (e j)
  lt : ∀ j (h1 : j < xs.size) (h2 : j < ys.size), (∀ i, i < j → e i = true) → e j = false → RcLt A s xs[j] ys[j] (r j)
abbrev fstOf (xs ys : Array Value) (e r : Nat → Bool) (i : Nat) : Bool := firstLt e r (decide (xs.size < ys.size)) ((List.range (min xs.size ys.size)).drop i)
theorem range_from {m i : Nat} (h : i < m) : (List.range m).drop i = i :: (List.range m).drop (i + 1) := by simp [List.drop_eq_getElem_cons, h]
section
open AutoSeq1 (wpAny_loadPart')
open MeetsSeq MeetsSeq2 MeetsSeq3 SeqRoads2
theorem tup_lt (l b : Addr) (xs ys : Array Value) (n n2 : Nat) (dd dd2 : Option Addr) (sl sl2 : Array (Option Value)) (e r : Nat → Bool) :
    Meets (Builtin.«tuple.__lt__» ⟨[.ref l, .ref b], []⟩) (fun A R s => s.heap.get? l = some { cls := .type "tuple", dict := dd, data := .seq xs n, slots := sl } ∧ s.heap.get? b = some { cls := .type "tuple", dict := dd2, data := .seq ys n2, slots := sl2 } ∧
        Cmps A.in1 s xs ys e r ∧ R (.ok (.ret (.bool (fstOf xs ys e r 0)))) s) :=
  .of_wp fun prog w A R s h => by
    obtain ⟨hp, g, d, tk, os⟩ := s
    obtain ⟨hl, hb, cm, h⟩ := h
    have f2 := AutoSeq1.sub_tuple_tuple
    have hZ : (xs.toList.zip ys.toList).length = min xs.size ys.size := by simp
    wp_walk using wpAny_loadPart' hl, wpAny_loadPart' hb, wpAny_forIn_list _ (fun rest b s' => b.1 = none ∧ s' = ⟨hp, g, d, tk, os⟩ ∧ ∃ i, rest = (xs.toList.zip ys.toList).drop i ∧ (∀ j, j < i → e j = true) ∧
      R (.ok (.ret (.bool (fstOf xs ys e r i)))) ⟨hp, g, d, tk, os⟩) _
    case turn =>
      rintro ⟨y, x⟩ rest b s' ⟨hb', rfl, i, hz, hall, hR⟩
      have hlt : i < (xs.toList.zip ys.toList).length := by
        rcases Nat.lt_or_ge i (xs.toList.zip ys.toList).length with h' | h'
        · exact h'
        · rw [List.drop_of_length_le h'] at hz; cases hz
      have hm : i < min xs.size ys.size := hZ ▸ hlt
      have h1 : i < xs.size := Nat.lt_of_lt_of_le hm (Nat.min_le_left _ _)
      have h2 : i < ys.size := Nat.lt_of_lt_of_le hm (Nat.min_le_right _ _)
      rw [List.drop_eq_getElem_cons hlt] at hz
      injection hz with hyx hrest
      have hy : y = xs[i] := by have := congrArg Prod.fst hyx; simpa using this
      have hx : x = ys[i] := by have := congrArg Prod.snd hyx; simpa using this
      subst hy hx
      unfold fstOf at hR
      rw [range_from hm] at hR
      refine wpAny_bind (cm.eq i h1 h2 prog w _ _ ?_)
      cases hy : e i with
      | true =>
        rw [firstLt_yes hy] at hR
        wp_walk
        refine ⟨rfl, rfl, i + 1, hrest, fun j hj => ?_, hR⟩
        by_cases q : j = i
        · rw [q]; exact hy
        · exact hall j (by omega)
      | false =>
        rw [firstLt_no hy] at hR
        have key := fun E Q => cm.lt i h1 h2 hall hy prog w E Q
        generalize PySem.richCompare CmpOp.Lt xs[i] ys[i] = m at key ⊢
        wp_walk
        refine key _ _ ?_
        wp_walk
        exact ⟨_, rfl, hR⟩
    case fin =>
      rintro ⟨b1, b2⟩ s' ⟨hb', rfl, i, hz, hall, hR⟩
      simp only at hb'
      subst hb'
      have hge : min xs.size ys.size ≤ i := by
        rcases Nat.lt_or_ge i (xs.toList.zip ys.toList).length with h' | h'
        · rw [List.drop_eq_getElem_cons h'] at hz; cases hz
        · exact hZ ▸ h'
      unfold fstOf at hR
      rw [List.drop_of_length_le (by simpa using hge)] at hR
      wp_walk
      exact ⟨_, rfl, by simpa [Builtin.Tuple.tupleCompareSizes, firstLt] using hR⟩
    case h =>
      exact ⟨rfl, rfl, 0, rfl, fun j hj => absurd hj (Nat.not_lt_zero _), h⟩

theorem lst_lt_loop (l b : Addr) (xs ys : Array Value) (n n2 : Nat) (dd dd2 : Option Addr) (sl sl2 : Array (Option Value)) (e r : Nat → Bool) (k : Nat) :
    ∀ i : Nat, min xs.size ys.size - i = k → (∀ j, j < i → e j = true) → Meets (Builtin.«list.__eq__.loop» ⟨[.ref l, .ref b, rawInt i, rawInt 0], []⟩)
      (fun A R s => s.heap.get? l = some { cls := .type "list", dict := dd, data := .seq xs n, slots := sl } ∧ s.heap.get? b = some { cls := .type "list", dict := dd2, data := .seq ys n2, slots := sl2 } ∧
        Cmps A.in1 s xs ys e r ∧ R (.ok (.ret (.bool (fstOf xs ys e r i)))) s) := by
  induction k with
  | zero =>
    intro i hk hall prog w A R s h
    obtain ⟨hp, g, d, tk, os⟩ := s
    obtain ⟨hl, hb, cm, h⟩ := h
    unfold fstOf at h
    have hd : (List.range (min xs.size ys.size)).drop i = [] := by simp; omega
    rw [hd] at h
    wp_walk using wpAny_loadPart' hl, wpAny_loadPart' hb
    by_cases h1 : xs.size ≤ i
    · have hi1 : xs[((i : Nat) : Int).toNat]? = none := by simp; omega
      rw [hi1]
      wp_walk using wpAny_loadPart' hl, wpAny_loadPart' hb
      exact h
    · have hlt : i < xs.size := by omega
      have hi1 : xs[((i : Nat) : Int).toNat]? = some xs[i] := by simp [hlt]
      have hi2 : ys[((i : Nat) : Int).toNat]? = none := by simp; omega
      rw [hi1, hi2]
      wp_walk using wpAny_loadPart' hl, wpAny_loadPart' hb
      exact h
  | succ k ih =>
    intro i hk hall prog w A R s h
    obtain ⟨hp, g, d, tk, os⟩ := s
    obtain ⟨hl, hb, cm, h⟩ := h
    wp_walk using wpAny_loadPart' hl, wpAny_loadPart' hb
    have hm : i < min xs.size ys.size := by omega
    have hlt : i < xs.size := Nat.lt_of_lt_of_le hm (Nat.min_le_left _ _)
    have hlt2 : i < ys.size := Nat.lt_of_lt_of_le hm (Nat.min_le_right _ _)
    have hi1 : xs[((i : Nat) : Int).toNat]? = some xs[i] := by simp [hlt]
    have hi2 : ys[((i : Nat) : Int).toNat]? = some ys[i] := by simp [hlt2]
    have hc : ((i : Int) + 1) = ((i + 1 : Nat) : Int) := by push_cast; rfl
    unfold fstOf at h
    rw [range_from hm] at h
    rw [hi1, hi2]
    refine wpAny_bind (cm.eq i hlt hlt2 prog w _ _ ?_)
    cases hb' : e i with
    | true =>
      rw [firstLt_yes hb'] at h
      wp_walk
      rw [hc]
      exact ⟨plainId_quiet plain_eq_loop _, codeAny_builtin entry_eq_loop (by
        rw [Around.under_plainId plain_eq_loop _]
        exact ih (i + 1) (by omega) (fun j hj => by
          by_cases q : j = i
          · rw [q]; exact hb'
          · exact hall j (by omega)) prog w A R _ ⟨hl, hb, cm, h⟩)⟩
    | false =>
      rw [firstLt_no hb'] at h
      have key := fun E Q => cm.lt i hlt hlt2 hall hb' prog w E Q
      wp_walk using wpAny_loadPart' hl, wpAny_loadPart' hb
      rw [hi1, hi2]
      dsimp only
      generalize PySem.richCompare CmpOp.Lt xs[i] ys[i] = m at key ⊢
      wp_walk
      refine key _ _ ?_
      wp_walk
      exact h
theorem lst_lt (l b : Addr) (xs ys : Array Value) (n n2 : Nat) (dd dd2 : Option Addr) (sl sl2 : Array (Option Value)) (e r : Nat → Bool) :
    Meets (Builtin.«list.__lt__» ⟨[.ref l, .ref b], []⟩) (fun A R s => s.heap.get? l = some { cls := .type "list", dict := dd, data := .seq xs n, slots := sl } ∧ s.heap.get? b = some { cls := .type "list", dict := dd2, data := .seq ys n2, slots := sl2 } ∧
        Cmps A.in1 s xs ys e r ∧ R (.ok (.ret (.bool (fstOf xs ys e r 0)))) s) := by
  intro prog w A R s h
  obtain ⟨hp, g, d, tk, os⟩ := s
  obtain ⟨hl, hb, cm, h⟩ := h
  have f3 := AutoSeq1.sub_list_list
  wp_walk using wpAny_loadPart' hl, wpAny_loadPart' hb
  exact ⟨plainId_quiet plain_eq_loop _, codeAny_builtin entry_eq_loop (by
    rw [Around.under_plainId plain_eq_loop _]
    exact lst_lt_loop l b xs ys n n2 dd dd2 sl sl2 e r _ 0 rfl (fun j hj => absurd hj (Nat.not_lt_zero _)) prog w A R _ ⟨hl, hb, cm, h⟩)⟩
variable {A : Around} {s : Shared}
theorem rcLt_tup {l b : Addr} {xs ys : Array Value} {e r : Nat → Bool} (hl : s.heap.IsTuple l xs) (hb : s.heap.IsTuple b ys) (hu : A.units < cLine) (cm : Cmps A.in1 s xs ys e r) : RcLt A s (.ref l) (.ref b) (fstOf xs ys e r 0) := fun prog w E Q h => by
  obtain ⟨⟨cls, dd, data, sl⟩, ho, hc, n, hd⟩ := id hl
  obtain ⟨⟨cls2, dd2, data2, sl2⟩, ho2, hc2, n2, hd2⟩ := id hb
  simp only at hc hd hc2 hd2
  subst hc hd hc2 hd2
  exact richCompare_meets_room (op := .Lt) ⟨_, ho, rfl⟩ ⟨_, ho2, rfl⟩ F.slot_tuple_lt F.entry_tuple_lt (F.args_tuple_lt_2 _ _) (tup_lt l b xs ys n n2 dd dd2 sl sl2 e r)
    ⟨ho, ho2, cm, show Value.bool (fstOf xs ys e r 0) ≠ Value.notImplemented ∧ Q (.bool (fstOf xs ys e r 0)) s from ⟨(fun x => nomatch x), h⟩⟩ hu
theorem rcLt_lst {l b : Addr} {xs ys : Array Value} {e r : Nat → Bool} (hl : s.heap.IsList l xs) (hb : s.heap.IsList b ys) (hu : A.units < cLine) (cm : Cmps A.in1 s xs ys e r) : RcLt A s (.ref l) (.ref b) (fstOf xs ys e r 0) := fun prog w E Q h => by
  obtain ⟨⟨cls, dd, data, sl⟩, ho, hc, n, hd⟩ := id hl
  obtain ⟨⟨cls2, dd2, data2, sl2⟩, ho2, hc2, n2, hd2⟩ := id hb
  simp only at hc hd hc2 hd2
  subst hc hd hc2 hd2
  exact richCompare_meets_room (op := .Lt) ⟨_, ho, rfl⟩ ⟨_, ho2, rfl⟩ F.slot_list_lt F.entry_list_lt (F.args_list_lt_2 _ _) (lst_lt l b xs ys n n2 dd dd2 sl sl2 e r)
    ⟨ho, ho2, cm, show Value.bool (fstOf xs ys e r 0) ≠ Value.notImplemented ∧ Q (.bool (fstOf xs ys e r 0)) s from ⟨(fun x => nomatch x), h⟩⟩ hu
end

mutual
/-- a < b of data -/
theorem rcLtN : ∀ (da db : PyData) (A : Around) (s : Shared) (a b : Value) (as bs : List Addr) (k : Bool), Reads s.heap a da as → Reads s.heap b db bs → nod da = true → nod db = true → ltP da db = some k → A.units + min da.depth db.depth < cLine → RcLt A s a b k
  | .none, db, _, _, _, _, _, _, _, _, _, _, _, h, _ => by cases db <;> simp [ltP] at h
  | .bool _, db, _, _, _, _, _, _, _, _, _, _, _, h, _ => by cases db <;> simp [ltP] at h
  | .dict _, db, _, _, _, _, _, _, _, _, _, hn, _, _, _ => by simp [nod] at hn
  | .int x, db, A, s, a, b, as, bs, k, ra, rb, _, _, h, _ => by
    cases db with
    | int y =>
      cases ra
      cases rb
      intro prog w E Q hq
      simp only [ltP, Option.some.injEq] at h
      subst h
      exact P.lt_int hq
    | _ => simp [ltP] at h
  | .str x, db, A, s, a, b, as, bs, k, ra, rb, _, _, h, _ => by
    cases db with
    | str y =>
      cases ra
      cases rb
      intro prog w E Q hq
      simp only [ltP, Option.some.injEq] at h
      subst h
      exact P.lt_str hq
    | _ => simp [ltP] at h
  | .list xs, db, A, s, a, b, as, bs, k, ra, rb, ha, hb, h, hu => by
    cases db with
    | list ys =>
      have ha' : nods xs = true := by simpa [nod] using ha
      have hb' : nods ys = true := by simpa [nod] using hb
      have hk : ltPs xs ys = some k := by simpa [ltP] using h
      cases ra with
      | @list l o vs n _ as₁ h1 h2 h3 h4 =>
        cases rb with
        | @list l' o' vs' n' _ bs₁ k1 k2 k3 k4 =>
          obtain ⟨r, cm, e⟩ := cmpsN xs ys A.in1 s vs vs' _ _ k h4 k4 ha' hb' hk (rin hu)
          rw [← e]
          exact rcLt_lst ⟨_, h1, h2, _, h3⟩ ⟨_, k1, k2, _, k3⟩ (by omega) cm
    | _ => simp [ltP] at h
  | .tuple xs, db, A, s, a, b, as, bs, k, ra, rb, ha, hb, h, hu => by
    cases db with
    | tuple ys =>
      have ha' : nods xs = true := by simpa [nod] using ha
      have hb' : nods ys = true := by simpa [nod] using hb
      have hk : ltPs xs ys = some k := by simpa [ltP] using h
      cases ra with
      | @tuple l o vs n _ as₁ h1 h2 h3 h4 =>
        cases rb with
        | @tuple l' o' vs' n' _ bs₁ k1 k2 k3 k4 =>
          obtain ⟨r, cm, e⟩ := cmpsN xs ys A.in1 s vs vs' _ _ k h4 k4 ha' hb' hk (rin hu)
          rw [← e]
          exact rcLt_tup ⟨_, h1, h2, _, h3⟩ ⟨_, k1, k2, _, k3⟩ (by omega) cm
    | _ => simp [ltP] at h
theorem cmpsN : ∀ (xs ys : List PyData) (A : Around) (s : Shared) (vs ws : Array Value) (as bs : List Addr) (k : Bool), ReadsAll s.heap vs.toList xs as → ReadsAll s.heap ws.toList ys bs → nods xs = true → nods ys = true → ltPs xs ys = some k →
    A.units + min (PyData.depthAll xs) (PyData.depthAll ys) < cLine → ∃ r, Cmps A s vs ws (pairEq xs ys) r ∧ fstOf vs ws (pairEq xs ys) r 0 = k := fun xs ys A s vs ws as bs k ra rb ha hb hk hu => by
  have n1 : vs.size = xs.length := by simpa using ReadsAll.length _ _ _ ra
  have n2 : ws.size = ys.length := by simpa using ReadsAll.length _ _ _ rb
  obtain ⟨r, hr⟩ : ∃ r : Nat → Bool, ∀ j, j < xs.length → j < ys.length → (∀ i, i < j → pairEq xs ys i = true) → pairEq xs ys j = false → ltP (xs.getD j .none) (ys.getD j .none) = some (r j) ∧ ∀ (v w' : Value), vs.toList[j]? = some v → ws.toList[j]? = some w' → RcLt A s v w' (r j) := by
    refine ⟨fun j => (ltP (xs.getD j .none) (ys.getD j .none)).getD false, fun j h1 h2 hi hj => ?_⟩
    obtain ⟨q, e⟩ : ∃ q, ltP (xs.getD j .none) (ys.getD j .none) = some q := ltPs_there xs ys k hk j h1 h2 hi hj
    rw [e]
    have er : (fun j => (ltP (xs.getD j .none) (ys.getD j .none)).getD false) j = q := by
      show (ltP (xs.getD j .none) (ys.getD j .none)).getD false = q
      rw [e]
      rfl
    rw [er]
    exact ⟨rfl, fun v w' hv hw => itemLtN xs ys A s vs.toList ws.toList _ _ ra rb ha hb hu j q h1 h2 e v w' hv hw⟩
  refine ⟨r, ⟨fun j j1 j2 => ?_, fun j j1 j2 hi hj => ?_⟩, ?_⟩
  · have := eqAtNs xs ys A s vs.toList ws.toList _ _ ra rb ha hb hu j (by simpa using j1) (by simpa using j2)
    simpa using this
  · exact (hr j (by omega) (by omega) hi hj).2 _ _ (by simp [j1]) (by simp [j2])
  · unfold fstOf
    rw [List.drop_zero, n1, n2]
    exact ltPs_first xs ys k hk r fun j h1 h2 hi hj => (hr j h1 h2 hi hj).1
theorem itemLtN : ∀ (xs ys : List PyData) (A : Around) (s : Shared) (vs ws : List Value) (as bs : List Addr), ReadsAll s.heap vs xs as → ReadsAll s.heap ws ys bs → nods xs = true → nods ys = true →
    A.units + min (PyData.depthAll xs) (PyData.depthAll ys) < cLine → ∀ (j : Nat) (q : Bool), j < xs.length → j < ys.length → ltP (xs.getD j .none) (ys.getD j .none) = some q → ∀ v w', vs[j]? = some v → ws[j]? = some w' → RcLt A s v w' q
  | [], _, _, _, _, _, _, _, _, _, _, _, _, j, _, h1, _, _, _, _, _, _ => absurd h1 (Nat.not_lt_zero _)
  | _ :: _, [], _, _, _, _, _, _, _, _, _, _, _, j, _, _, h2, _, _, _, _, _ => absurd h2 (Nat.not_lt_zero _)
  | x :: xs, y :: ys, A, s, _, _, _, _, ra, rb, ha, hb, hu, j, q, h1, h2, e, v, w', hv, hw => by
    obtain ⟨a1, a2⟩ := nods_cons ha
    obtain ⟨b1, b2⟩ := nods_cons hb
    have hu' : A.units + min (max x.depth (PyData.depthAll xs)) (max y.depth (PyData.depthAll ys)) < cLine := by
      simpa [PyData.depthAll] using hu
    cases ra with
    | cons r rs =>
      cases rb with
      | cons r' rs' =>
        cases j with
        | zero =>
          simp only [List.getElem?_cons_zero, Option.some.injEq] at hv hw
          subst hv hw
          exact rcLtN x y A s _ _ _ _ q r r' a1 b1 e (by omega)
        | succ j => exact itemLtN xs ys A s _ _ _ _ rs rs' a2 b2 (by omega) j q (Nat.lt_of_succ_lt_succ h1) (Nat.lt_of_succ_lt_succ h2) e v w' (by simpa using hv) (by simpa using hw)
end
end Cr
end

section
set_option Elab.async false
set_option linter.all false
set_option maxRecDepth 100000
set_option maxHeartbeats 1000000
/-! Core, part D: operators on data. -/
namespace Cr
open PySem PySem.Spec PyProof.Rows L2 PySem.SeqAt

mutual
/-- as the library's data -/
def pd : D → Option PyData
  | .non => some .none
  | .bl b => some (.bool b)
  | .int i => some (.int i)
  | .str x => some (.str x)
  | .tup l => (pdL l).map .tuple
  | .lst l => (pdL l).map .list
  | .scr _ | .dk _ | .dn _ | .ref _ => none
def pdL : List D → Option (List PyData)
  | [] => some []
  | d :: l => match pd d, pdL l with
    | some p, some ps => some (p :: ps)
    | _, _ => none
end
/-- a list's items: a list that nobody changes, or a changing one -/
def lstOf (A : Sto) : D → Option (List D)
  | .lst l => some l
  | .ref n => match A[n]? with
    | some (.lst l) => some l
    | _ => none
  | _ => none
def seqOf (A : Sto) : D → Option (List D)
  | .tup l => some l
  | .scr l => some l
  | d => lstOf A d
/-- .. of a changing list, too -/
def pdA (A : Sto) (d : D) : Option PyData := match d with
  | .ref n => (lstOf A (.ref n)).bind fun l => (pdL l).map .list
  | d => pd d

section
variable {B : Bx} {S : Sx} {d : D} {v : V} {l : List D}
theorem lst_rep (r : Rel B S) (h : Rep B S d v) (e : lstOf S.A d = some l) : ∃ a vs, v = .ref a ∧ S.H a = some (.lst vs) ∧ RepL B S l vs := by
  cases h with
  | lst h n rl =>
    cases e
    exact ⟨_, _, rfl, h, rl⟩
  | @ref n hn =>
    have e' : (match S.A[n]? with
      | some (AO.lst l) => some l
      | _ => none) = some l := e
    cases q : S.A[n]? with
    | none => rw [q] at e'; cases e'
    | some o =>
      rw [q] at e'
      cases o with
      | lst l' =>
        cases e'
        obtain ⟨vs, h1, h2⟩ := r.obj n _ q
        exact ⟨_, vs, rfl, h1, h2⟩
      | _ => cases e'
  | _ => cases e
theorem seq_rep (r : Rel B S) (h : Rep B S d v) (e : seqOf S.A d = some l) : ∃ a vs, v = .ref a ∧ (SqL B.K S.H a vs ∨ SqT B.K S.H a vs) ∧ RepL B S l vs := by
  cases d with
  | tup l' =>
    cases e
    cases h with
    | tup h rl => exact ⟨_, _, rfl, .inr h, rl⟩
  | scr l' =>
    cases e
    cases h with
    | scr h n rl => exact ⟨_, _, rfl, .inl (.inl h), rl⟩
  | lst l' => exact let ⟨a, vs, e1, e2, e3⟩ := lst_rep r h e; ⟨a, vs, e1, .inl (.inl (.inl e2)), e3⟩
  | ref n => exact let ⟨a, vs, e1, e2, e3⟩ := lst_rep r h e; ⟨a, vs, e1, .inl (.inl (.inl e2)), e3⟩
  | _ => cases e
end
theorem pdL_cons {d : D} {l : List D} {ps : List PyData} (h : pdL (d :: l) = some ps) : ∃ p q, ps = p :: q ∧ pd d = some p ∧ pdL l = some q := by
  rw [pdL] at h
  cases e1 : pd d with
  | none => rw [e1] at h; cases h
  | some p =>
    cases e2 : pdL l with
    | none => rw [e1, e2] at h; cases h
    | some q =>
      rw [e1, e2] at h
      exact ⟨p, q, (Option.some.inj h).symm, rfl, rfl⟩
section
variable {X : Cx} {B : Bx} {S : Sx} {pins : List (Addr × Obj)} {σ : L2.St} {s : Shared}
theorem rd_list {H : Hp} {a : Addr} {vs : List V} (I : Inv X pins σ H s) (h : Rd H a (.lst vs)) : vs.length ≤ sizeLine ∧ ∃ (its : List Value) (n : Nat), Vals vs its ∧ s.heap.get? a = some { cls := .type "list", data := .seq its.toArray n } := by
  obtain ⟨z, its, n, r, e⟩ := (show ObjOk X.prog X.w H s.heap a (.lst vs) from h.ok I.hok)
  exact ⟨z, its, n, r, e⟩
mutual
theorem reads (hK : X.K = B.K) (I : Inv X pins σ S.H s) : ∀ {d : D} {v : V} {u : Value} {p : PyData}, Rep B S d v → pd d = some p → RelV v u → nod p = true ∧ ∃ as, Reads s.heap u p as
  | _, _, _, _, .non, e, r => by cases e; cases r; exact ⟨rfl, _, .none⟩
  | _, _, _, _, .bl b, e, r => by cases e; cases r; exact ⟨rfl, _, .bool b⟩
  | _, _, _, _, .int i, e, r => by cases e; obtain ⟨t, rfl⟩ := r; exact ⟨rfl, _, .int i t⟩
  | _, _, _, _, .str x, e, r => by cases e; obtain ⟨t, rfl⟩ := r; exact ⟨rfl, _, .str x t⟩
  | .tup l, _, _, _, .tup h rl, e, r => by
    rw [pd] at e
    obtain ⟨ps, e1, rfl⟩ := Option.map_eq_some_iff.mp e
    cases r
    rw [← hK] at h
    obtain ⟨its, rv, ⟨o, ho, hc, n, hd⟩, hz⟩ := I.tuple h
    obtain ⟨n1, as, r1⟩ := readsL hK I rl e1 rv
    exact ⟨by rw [nod]; exact n1, as, .tuple ho hc hd r1⟩
  | .lst l, _, _, _, .lst h n rl, e, r => by
    rw [pd] at e
    obtain ⟨ps, e1, rfl⟩ := Option.map_eq_some_iff.mp e
    cases r
    obtain ⟨hz, its, n, rv, ho⟩ := rd_list I (.inl h)
    obtain ⟨n1, as, r1⟩ := readsL hK I rl e1 rv
    exact ⟨by rw [nod]; exact n1, _, .list ho rfl rfl r1⟩
  | _, _, _, _, .scr h n l, e, r => by cases e
  | _, _, _, _, .dk h n l, e, r => by cases e
  | _, _, _, _, .dn h n nd l, e, r => by cases e
  | _, _, _, _, .ref h, e, r => by cases e
theorem readsL (hK : X.K = B.K) (I : Inv X pins σ S.H s) : ∀ {l : List D} {vs : List V} {us : List Value} {ps : List PyData}, RepL B S l vs → pdL l = some ps → Vals vs us → nods ps = true ∧ ∃ as, ReadsAll s.heap us ps as
  | _, _, _, _, .nil, e, r => by cases e; cases r; exact ⟨rfl, _, .nil⟩
  | _, _, _, _, .cons h t, e, r => by
    obtain ⟨p, q, rfl, e1, e2⟩ := pdL_cons e
    cases r with
    | cons r1 r2 =>
      obtain ⟨n1, as, h1⟩ := reads hK I h e1 r1
      obtain ⟨n2, bs, h2⟩ := readsL hK I t e2 r2
      exact ⟨by rw [nods, n1, n2]; rfl, _, .cons h1 h2⟩
end
theorem readsA (hK : X.K = B.K) (I : Inv X pins σ S.H s) (r : Rel B S) {d : D} {v : V} {u : Value} {p : PyData} (h : Rep B S d v) (e : pdA S.A d = some p) (rv : RelV v u) : nod p = true ∧ ∃ as, Reads s.heap u p as := by
  cases d with
  | ref n =>
    have e' : ((lstOf S.A (.ref n)).bind fun l => (pdL l).map PyData.list) = some p := e
    obtain ⟨l, e1, e2⟩ := Option.bind_eq_some_iff.mp e'
    obtain ⟨ps, e3, rfl⟩ := Option.map_eq_some_iff.mp e2
    obtain ⟨a, vs, rfl, h1, rl⟩ := lst_rep r h e1
    cases rv
    obtain ⟨hz, its, n, rv, ho⟩ := rd_list I (.inl h1)
    obtain ⟨n1, as, r1⟩ := readsL hK I rl e3 rv
    exact ⟨by rw [nod]; exact n1, _, .list ho rfl rfl r1⟩
  | _ => exact reads hK I h e rv
end

/-! ### operators -/
def opAdd : Op2 := fun A x y => match x, y with
  | .int i, .int j => some (.int (i + j))
  | .str a, .str b => if a.length + b.length ≤ sizeLine then some (.str (a ++ b)) else none
  | .tup a, .tup b => if a.length + b.length ≤ sizeLine then some (.tup (a ++ b)) else none
  | x, y => match lstOf A x, lstOf A y with
    | some a, some b => if a.length + b.length ≤ sizeLine then some (.lst (a ++ b)) else none
    | _, _ => none
section
variable {X : Cx} {B : Bx}
/-- fresh objects for values -/
theorem new_tup {S : Sx} {l : List D} {vs : List V} {Q : VK} {d : D} (r : Rel B S) (rl : RepL B S l vs) (h : ∀ S' v, S'.A = S.A → Nxt B S S' → Rep B S' (.tup l) v → Q v S'.H) {p : Addr} (hp : S.H p = none) : Q (.ref p) (upd S.H p (.tup vs)) :=
  h (S.put p (.tup vs)) _ rfl (.put r hp) (.tup (.inl (.inl upd_same)) (rl.ext (.put hp)))
theorem new_lst {S : Sx} {l : List D} {vs : List V} {Q : VK} (r : Rel B S) (rl : RepL B S l vs) (h : ∀ S' v, S'.A = S.A → Nxt B S S' → Rep B S' (.lst l) v → Q v S'.H) {p : Addr} (hp : S.H p = none) : Q (.ref p) (upd S.H p (.lst vs)) :=
  h (S.put p (.lst vs)) _ rfl (.put r hp) (.lst upd_same (nlive_put r hp) (rl.ext (.put hp)))
theorem nil_iff {S : Sx} {l : List D} {vs : List V} (r : RepL B S l vs) : vs = [] ↔ l = [] := by
  cases r <;> simp
theorem or_add (hK : X.K = B.K) : OpD X B (binaryOp .Add) opAdd := by
  intro pins s σ H x y v u Q I rx ry h
  obtain ⟨S, p, q, d, rfl, r, r1, r2, e, k⟩ := h
  have lists : (∃ a b, lstOf S.A p = some a ∧ lstOf S.A q = some b ∧ a.length + b.length ≤ sizeLine ∧ d = .lst (a ++ b)) → wpAny (model X.prog X.w) X.A (binaryOp .Add v u) (EP X pins σ Q) X.xe s := by
    rintro ⟨a, b, e1, e2, hz, rfl⟩
    obtain ⟨a1, vs, rfl, h1, rl1⟩ := lst_rep r r1 e1
    obtain ⟨a2, ws, rfl, h2, rl2⟩ := lst_rep r r2 e2
    have l1 := rl1.length
    have l2 := rl2.length
    exact op_cat pins s σ S.H _ _ v u Q I rx ry ⟨a1, a2, vs, ws, rfl, rfl, h1, h2, by omega, fun p hp => new_lst r (rl1.append rl2) k hp⟩
  have fin : ∀ {o1 o2 : Option (List D)}, (match o1, o2 with
      | some a, some b => if a.length + b.length ≤ sizeLine then some (D.lst (a ++ b)) else none
      | _, _ => none) = some d → ∃ a b, o1 = some a ∧ o2 = some b ∧ a.length + b.length ≤ sizeLine ∧ d = .lst (a ++ b) := by
    intro o1 o2 h
    cases o1 with
    | none => cases h
    | some a =>
      cases o2 with
      | none => cases h
      | some b =>
        dsimp only at h
        split at h
        · exact ⟨a, b, rfl, rfl, by assumption, (Option.some.inj h).symm⟩
        · cases h
  unfold opAdd at e
  split at e
  · cases e
    cases r1
    cases r2
    exact op_add pins s σ S.H _ _ v u Q I rx ry ⟨_, _, rfl, rfl, k S _ rfl (.refl r) (.int _)⟩
  · split at e
    · cases e
      cases r1
      cases r2
      exact op_add_str pins s σ S.H _ _ v u Q I rx ry ⟨_, _, rfl, rfl, by assumption, k S _ rfl (.refl r) (.str _)⟩
    · cases e
  · split at e
    · cases e
      rename_i hz
      cases r1 with
      | tup h1 l1 =>
        cases r2 with
        | tup h2 l2 =>
          have n1 := l1.length
          have n2 := l2.length
          rw [← hK] at h1 h2
          refine op_catA pins s σ S.H _ _ v u Q I rx ry ⟨_, _, _, _, rfl, rfl, h1, h2, by omega, fun z => ?_, fun _ z => ?_, fun _ _ p hp => ?_⟩
          · have z' := (nil_iff l1).mp z
            subst z'
            rw [hK] at h2
            exact k S _ rfl (.refl r) (.tup h2 (by simpa using l2))
          · have z' := (nil_iff l2).mp z
            subst z'
            rw [hK] at h1
            exact k S _ rfl (.refl r) (.tup h1 (by simpa using l1))
          · exact new_tup (d := .non) r (l1.append l2) k hp
    · cases e
  · exact lists (fin e)
end
end Cr
end

section
set_option Elab.async false
set_option linter.all false
set_option maxRecDepth 100000
set_option maxHeartbeats 1000000
/-! Core, part E: further operators on data. -/
namespace Cr
open PySem PySem.Spec PyProof.Rows L2 PySem.SeqAt

def opSub : Op2 := fun _ x y => match x, y with
  | .int i, .int j => some (.int (i - j))
  | _, _ => none
/-- when the model multiplies at once -/
def MulOk (i j : Int) : Prop := (-(2 ^ 64) < i ∧ i < 2 ^ 64) ∨ (-(2 ^ 64) < j ∧ j < 2 ^ 64) ∨ i.natAbs.log2 + j.natAbs.log2 < 1000000
instance (i j : Int) : Decidable (MulOk i j) := by unfold MulOk; exact inferInstance
def opMul : Op2 := fun A x y => match x, y with
  | .int i, .int j => if MulOk i j then some (.int (i * j)) else none
  | .tup l, .int k => if l ≠ [] ∧ 2 ≤ k ∧ k ≤ 1000 ∧ l.length ≤ 1000 then some (.tup (List.replicate k.toNat l).flatten) else none
  | .lst l, .int k => if -(2 ^ 63) ≤ k ∧ k < 2 ^ 63 ∧ l.length * k.toNat ≤ sizeLine then some (.lst (List.replicate k.toNat l).flatten) else none
  | _, _ => none
def opDiv : Op2 := fun _ x y => match x, y with
  | .int i, .int j => if 0 < j ∧ j.natAbs.log2 < 9000 then some (.int (i / j)) else none
  | _, _ => none
def opMod : Op2 := fun _ x y => match x, y with
  | .int i, .int j => if 0 < j then some (.int (i % j)) else none
  | _, _ => none
def opPow : Op2 := fun _ x y => match x, y with
  | .int i, .int j => if 0 ≤ j ∧ j ≤ 1000000 ∧ i.natAbs < 2 ^ 64 then some (.int (i ^ j.toNat)) else none
  | _, _ => none
def opAnd : Op2 := fun _ x y => match x, y with
  | .int i, .int j => some (.int (Builtin.bitAnd i j))
  | _, _ => none
def opNeg : Op1 := fun _ x => match x with
  | .int i => some (.int (-i))
  | _ => none
def opEq : Op2 := fun A x y => match pdA A x, pdA A y with
  | some p, some q => if min p.depth q.depth ≤ 64 then some (.bl (PyData.eqv p q)) else none
  | _, _ => none
def opNe : Op2 := fun A x y => match pdA A x, pdA A y with
  | some p, some q => if min p.depth q.depth ≤ 64 then some (.bl (!PyData.eqv p q)) else none
  | _, _ => none
def opLt : Op2 := fun A x y => match pdA A x, pdA A y with
  | some p, some q => if min p.depth q.depth ≤ 64 then (ltP p q).map .bl else none
  | _, _ => none
def opLe : Op2 := fun _ x y => match x, y with
  | .int i, .int j => some (.bl (decide (i ≤ j)))
  | .str a, .str b => some (.bl (!decide (b.cps.toList < a.cps.toList)))
  | _, _ => none
def opGt : Op2 := fun _ x y => match x, y with
  | .int i, .int j => some (.bl (decide (j < i)))
  | .str a, .str b => some (.bl (decide (b.cps.toList < a.cps.toList)))
  | _, _ => none
def opGe : Op2 := fun _ x y => match x, y with
  | .int i, .int j => some (.bl (decide (j ≤ i)))
  | .str a, .str b => some (.bl (!decide (a.cps.toList < b.cps.toList)))
  | _, _ => none
def isNon : D → Bool
  | .non => true
  | _ => false
def opIs : Op2 := fun _ x y => if isNon y = true then some (.bl (isNon x)) else none
def opIsNot : Op2 := fun _ x y => if isNon y = true then some (.bl (!isNon x)) else none

section
variable {X : Cx} {B : Bx}
theorem or_sub : OpD X B (binaryOp .Sub) opSub := by
  intro pins s σ H x y v u Q I rx ry h
  obtain ⟨S, p, q, d, rfl, r, r1, r2, e, k⟩ := h
  unfold opSub at e
  split at e
  · cases e
    cases r1
    cases r2
    exact op_sub pins s σ S.H _ _ v u Q I rx ry ⟨_, _, rfl, rfl, k S _ rfl (.refl r) (.int _)⟩
  · cases e
theorem or_div : OpD X B (binaryOp .FloorDiv) opDiv := by
  intro pins s σ H x y v u Q I rx ry h
  obtain ⟨S, p, q, d, rfl, r, r1, r2, e, k⟩ := h
  unfold opDiv at e
  split at e
  · split at e
    · cases e
      cases r1
      cases r2
      exact op_fdivW pins s σ S.H _ _ v u Q I rx ry ⟨_, _, rfl, rfl, by assumption, k S _ rfl (.refl r) (.int _)⟩
    · cases e
  · cases e
theorem or_mod : OpD X B (binaryOp .Mod) opMod := by
  intro pins s σ H x y v u Q I rx ry h
  obtain ⟨S, p, q, d, rfl, r, r1, r2, e, k⟩ := h
  unfold opMod at e
  split at e
  · split at e
    · cases e
      cases r1
      cases r2
      exact op_mod pins s σ S.H _ _ v u Q I rx ry ⟨_, _, rfl, rfl, by assumption, k S _ rfl (.refl r) (.int _)⟩
    · cases e
  · cases e
theorem or_pow : OpD X B (binaryOp .Pow) opPow := by
  intro pins s σ H x y v u Q I rx ry h
  obtain ⟨S, p, q, d, rfl, r, r1, r2, e, k⟩ := h
  unfold opPow at e
  split at e
  · split at e
    · cases e
      cases r1
      cases r2
      exact op_pow pins s σ S.H _ _ v u Q I rx ry ⟨_, _, rfl, rfl, by assumption, k S _ rfl (.refl r) (.int _)⟩
    · cases e
  · cases e
theorem or_and : OpD X B (binaryOp .BitAnd) opAnd := by
  intro pins s σ H x y v u Q I rx ry h
  obtain ⟨S, p, q, d, rfl, r, r1, r2, e, k⟩ := h
  unfold opAnd at e
  split at e
  · cases e
    cases r1
    cases r2
    exact op_and pins s σ S.H _ _ v u Q I rx ry ⟨_, _, rfl, rfl, k S _ rfl (.refl r) (.int _)⟩
  · cases e
theorem ur_neg : UnR X (unaryOp .USub) (rdU B opNeg) := by
  intro pins s σ H x v Q I rx h
  obtain ⟨S, p, d, rfl, r, r1, e, k⟩ := h
  unfold opNeg at e
  split at e
  · cases e
    cases r1
    exact un_neg pins s σ S.H _ v Q I rx ⟨_, rfl, k S _ rfl (.refl r) (.int _)⟩
  · cases e
theorem RepL.rep {S : Sx} {l : List D} {vs : List V} (h : RepL B S l vs) : ∀ n : Nat, RepL B S (List.replicate n l).flatten (List.replicate n vs).flatten
  | 0 => .nil
  | n + 1 => by
    rw [List.replicate_succ, List.replicate_succ, List.flatten_cons, List.flatten_cons]
    exact h.append (RepL.rep h n)
theorem or_mul (hK : X.K = B.K) : OpD X B (binaryOp .Mult) opMul := by
  intro pins s σ H x y v u Q I rx ry h
  obtain ⟨S, p, q, d, rfl, r, r1, r2, e, k⟩ := h
  unfold opMul at e
  split at e
  · split at e
    · cases e
      cases r1
      cases r2
      rename_i hm
      have fin := k S _ rfl (.refl r) (.int _)
      rcases hm with hm | hm | hm
      · exact op_mul pins s σ S.H _ _ v u Q I rx ry ⟨_, _, rfl, rfl, .inl hm, fin⟩
      · exact op_mul pins s σ S.H _ _ v u Q I rx ry ⟨_, _, rfl, rfl, .inr hm, fin⟩
      · exact op_mulW pins s σ S.H _ _ v u Q I rx ry ⟨_, _, rfl, rfl, hm, fin⟩
    · cases e
  · split at e
    · cases e
      rename_i hm
      obtain ⟨h1, h2, h3, h4⟩ := hm
      cases r2
      cases r1 with
      | tup ht rl =>
        have hl := rl.length
        rw [← hK] at ht
        exact op_repT pins s σ S.H _ _ v u Q I rx ry ⟨_, _, _, rfl, rfl, ht, fun z => h1 ((nil_iff rl).mp z), h2, h3, by omega, fun p hp => new_tup (d := .non) r (rl.rep _) k hp⟩
    · cases e
  · split at e
    · cases e
      rename_i hm
      obtain ⟨h1, h2, h3⟩ := hm
      cases r2
      cases r1 with
      | lst ht na rl =>
        have hl := rl.length
        exact op_rep pins s σ S.H _ _ v u Q I rx ry ⟨_, _, _, rfl, rfl, ht, h1, h2, by rw [← hl]; exact h3, fun p hp => new_lst r (rl.rep _) k hp⟩
    · cases e
  · cases e
theorem or_eq (hK : X.K = B.K) (hu : X.A.units + 64 < cLine) : OpD X B (compareOp .Eq) opEq := by
  intro pins s σ H x y v u Q I rx ry h
  obtain ⟨S, p, q, d, rfl, r, r1, r2, e, k⟩ := h
  unfold opEq at e
  split at e
  · split at e
    · cases e
      rename_i p1 q1 e1 e2 hd
      obtain ⟨n1, as, a1⟩ := readsA hK I r r1 e1 rx
      obtain ⟨n2, bs, a2⟩ := readsA hK I r r2 e2 ry
      exact rcAtN a1 a2 n1 n2 (by omega) X.prog X.w _ _ ⟨.bl _, S.H, I, rfl, k S _ rfl (.refl r) (.bl _)⟩
    · cases e
  · cases e
theorem or_ne (hK : X.K = B.K) (hu : X.A.units + 64 < cLine) : OpD X B (compareOp .NotEq) opNe := by
  intro pins s σ H x y v u Q I rx ry h
  obtain ⟨S, p, q, d, rfl, r, r1, r2, e, k⟩ := h
  unfold opNe at e
  split at e
  · split at e
    · cases e
      rename_i p1 q1 e1 e2 hd
      obtain ⟨n1, as, a1⟩ := readsA hK I r r1 e1 rx
      obtain ⟨n2, bs, a2⟩ := readsA hK I r r2 e2 ry
      exact rcNeN a1 a2 n1 n2 (by omega) X.prog X.w _ _ ⟨.bl _, S.H, I, rfl, k S _ rfl (.refl r) (.bl _)⟩
    · cases e
  · cases e
theorem or_lt (hK : X.K = B.K) (hu : X.A.units + 64 < cLine) : OpD X B (compareOp .Lt) opLt := by
  intro pins s σ H x y v u Q I rx ry h
  obtain ⟨S, p, q, d, rfl, r, r1, r2, e, k⟩ := h
  unfold opLt at e
  split at e
  · split at e
    · rename_i p1 q1 e1 e2 hd
      obtain ⟨b, e3, rfl⟩ := Option.map_eq_some_iff.mp e
      obtain ⟨n1, as, a1⟩ := readsA hK I r r1 e1 rx
      obtain ⟨n2, bs, a2⟩ := readsA hK I r r2 e2 ry
      exact rcLtN _ _ _ _ _ _ _ _ b a1 a2 n1 n2 e3 (by omega) X.prog X.w _ _ ⟨.bl _, S.H, I, rfl, k S _ rfl (.refl r) (.bl _)⟩
    · cases e
  · cases e
theorem or_le : OpD X B (compareOp .LtE) opLe := by
  intro pins s σ H x y v u Q I rx ry h
  obtain ⟨S, p, q, d, rfl, r, r1, r2, e, k⟩ := h
  unfold opLe at e
  split at e
  · cases e
    cases r1
    cases r2
    exact op_le pins s σ S.H _ _ v u Q I rx ry ⟨_, _, rfl, rfl, k S _ rfl (.refl r) (.bl _)⟩
  · cases e
    cases r1
    cases r2
    exact op_le_str pins s σ S.H _ _ v u Q I rx ry ⟨_, _, rfl, rfl, k S _ rfl (.refl r) (.bl _)⟩
  · cases e
theorem or_gt : OpD X B (compareOp .Gt) opGt := by
  intro pins s σ H x y v u Q I rx ry h
  obtain ⟨S, p, q, d, rfl, r, r1, r2, e, k⟩ := h
  unfold opGt at e
  split at e
  · cases e
    cases r1
    cases r2
    exact op_gt pins s σ S.H _ _ v u Q I rx ry ⟨_, _, rfl, rfl, k S _ rfl (.refl r) (.bl _)⟩
  · cases e
    cases r1
    cases r2
    exact op_gt_str pins s σ S.H _ _ v u Q I rx ry ⟨_, _, rfl, rfl, k S _ rfl (.refl r) (.bl _)⟩
  · cases e
theorem or_ge : OpD X B (compareOp .GtE) opGe := by
  intro pins s σ H x y v u Q I rx ry h
  obtain ⟨S, p, q, d, rfl, r, r1, r2, e, k⟩ := h
  unfold opGe at e
  split at e
  · cases e
    cases r1
    cases r2
    exact op_ge pins s σ S.H _ _ v u Q I rx ry ⟨_, _, rfl, rfl, k S _ rfl (.refl r) (.bl _)⟩
  · cases e
    cases r1
    cases r2
    exact op_ge_str pins s σ S.H _ _ v u Q I rx ry ⟨_, _, rfl, rfl, k S _ rfl (.refl r) (.bl _)⟩
  · cases e
theorem isNon_rep {S : Sx} {d : D} {v : V} (h : Rep B S d v) : isNon d = decide (v = .non) := by
  cases h <;> simp [isNon]
theorem or_is : OpD X B (compareOp .Is) opIs := by
  intro pins s σ H x y v u Q I rx ry h
  obtain ⟨S, p, q, d, rfl, r, r1, r2, e, k⟩ := h
  unfold opIs at e
  split at e
  · rename_i hq
    cases e
    rw [isNon_rep r2] at hq
    refine op_isN pins s σ S.H _ _ v u Q I rx ry ⟨of_decide_eq_true hq, ?_⟩
    rw [← isNon_rep r1]
    exact k S _ rfl (.refl r) (.bl _)
  · cases e
theorem or_isnot : OpD X B (compareOp .IsNot) opIsNot := by
  intro pins s σ H x y v u Q I rx ry h
  obtain ⟨S, p, q, d, rfl, r, r1, r2, e, k⟩ := h
  unfold opIsNot at e
  split at e
  · rename_i hq
    cases e
    rw [isNon_rep r2] at hq
    refine op_notN pins s σ S.H _ _ v u Q I rx ry ⟨of_decide_eq_true hq, ?_⟩
    rw [← isNon_rep r1]
    exact k S _ rfl (.refl r) (.bl _)
  · cases e
end
end Cr
end

section
set_option Elab.async false
set_option linter.all false
set_option maxRecDepth 100000
set_option maxHeartbeats 1000000
/-! Core, part F: dicts, in, subscripts. -/
namespace Cr
open PySem PySem.Spec PyProof.Rows L2 PySem.SeqAt

/-! ### tables -/
section
variable {κ : Type} [DecidableEq κ]
def look (l : List (κ × D)) (k : κ) : Option D := (l.find? fun p => decide (p.1 = k)).map (·.2)
def put (l : List (κ × D)) (k : κ) (d : D) : List (κ × D) := if (l.any fun p => decide (p.1 = k)) = true then l.map (fun p => if p.1 = k then (p.1, d) else p) else l ++ [(k, d)]
def drop (l : List (κ × D)) (k : κ) : List (κ × D) := l.filter fun p => decide (p.1 ≠ k)
end
def keyOf : D → Option Key
  | .int i => some (.inl i)
  | .str x => some (.inr x)
  | _ => none
mutual
def nk : D → Option NestedKey
  | .non => some .none
  | .int i => some (.num i)
  | .str x => some (.text x)
  | .tup l => (nkL l).map .tup
  | _ => none
def nkL : List D → Option (List NestedKey)
  | [] => some []
  | d :: l => match nk d, nkL l with
    | some k, some ks => some (k :: ks)
    | _, _ => none
end
/-- the key of a dict with nested keys: a tuple -/
def tkOf : D → Option NestedKey
  | .tup l => match nk (.tup l) with
    | some k => if k.depth ≤ 8 then some k else none
    | none => none
  | _ => none
def dkOf (A : Sto) : D → Option (List (Key × D))
  | .dk l => some l
  | .ref n => match A[n]? with
    | some (.dk l) => some l
    | _ => none
  | _ => none
def dnOf (A : Sto) : D → Option (List (NestedKey × D))
  | .dn l => some l
  | .ref n => match A[n]? with
    | some (.dn l) => some l
    | _ => none
  | _ => none
section
variable {B : Bx} {S : Sx} {d : D} {v : V}
theorem key_rep {k : Key} (h : Rep B S d v) (e : keyOf d = some k) : v = kV k := by
  cases h with
  | int i => cases e; rfl
  | str x => cases e; rfl
  | _ => cases e
theorem nkL_cons {l : List D} {ks : List NestedKey} (h : nkL (d :: l) = some ks) : ∃ p q, ks = p :: q ∧ nk d = some p ∧ nkL l = some q := by
  rw [nkL] at h
  cases e1 : nk d with
  | none => rw [e1] at h; cases h
  | some p =>
    cases e2 : nkL l with
    | none => rw [e1, e2] at h; cases h
    | some q =>
      rw [e1, e2] at h
      exact ⟨p, q, (Option.some.inj h).symm, rfl, rfl⟩
mutual
theorem nk_rep : ∀ {d : D} {v : V} {k : NestedKey}, Rep B S d v → nk d = some k → KeyAt B.K S.H k v
  | _, _, _, .non, e => by cases e; exact .non
  | _, _, _, .bl _, e => by cases e
  | _, _, _, .int i, e => by cases e; exact .int i
  | _, _, _, .str x, e => by cases e; exact .str x
  | .tup l, _, _, .tup h rl, e => by
    rw [nk] at e
    obtain ⟨ks, e1, rfl⟩ := Option.map_eq_some_iff.mp e
    exact .tup h (nkL_rep rl e1)
  | _, _, _, .lst _ _ _, e => by cases e
  | _, _, _, .scr _ _ _, e => by cases e
  | _, _, _, .dk _ _ _, e => by cases e
  | _, _, _, .dn _ _ _ _, e => by cases e
  | _, _, _, .ref _, e => by cases e
theorem nkL_rep : ∀ {l : List D} {vs : List V} {ks : List NestedKey}, RepL B S l vs → nkL l = some ks → KeyAtL B.K S.H ks vs
  | _, _, _, .nil, e => by cases e; exact .nil
  | _, _, _, .cons h t, e => by
    obtain ⟨p, q, rfl, e1, e2⟩ := nkL_cons e
    exact .cons (nk_rep h e1) (nkL_rep t e2)
end
/-- a dict's key by its tuple -/
theorem tk_rep {k : NestedKey} (h : Rep B S d v) (e : tkOf d = some k) : ∃ a, v = .ref a ∧ KeyAt B.K S.H k (.ref a) ∧ k.depth ≤ 8 := by
  unfold tkOf at e
  split at e
  · split at e
    · split at e
      · cases e
        cases h with
        | tup h1 rl => exact ⟨_, rfl, nk_rep (Rep.tup h1 rl) (by assumption), by assumption⟩
      · cases e
    · cases e
  · cases e
theorem dk_rep (r : Rel B S) {l : List (Key × D)} (h : Rep B S d v) (e : dkOf S.A d = some l) : ∃ a kvs, v = .ref a ∧ Rd S.H a (.dK kvs) ∧ RepK B S l kvs := by
  cases h with
  | dk h n rl => cases e; exact ⟨_, _, rfl, h, rl⟩
  | @ref n hn =>
    have e' : (match S.A[n]? with
      | some (AO.dk l) => some l
      | _ => none) = some l := e
    cases q : S.A[n]? with
    | none => rw [q] at e'; cases e'
    | some o =>
      rw [q] at e'
      cases o with
      | dk l' =>
        cases e'
        obtain ⟨vs, h1, h2⟩ := r.obj n _ q
        exact ⟨_, vs, rfl, .inl h1, h2⟩
      | _ => cases e'
  | _ => cases e
theorem dn_rep (r : Rel B S) {l : List (NestedKey × D)} (h : Rep B S d v) (e : dnOf S.A d = some l) : ∃ a xs, v = .ref a ∧ Rd S.H a (rawD B.prog B.w a xs) ∧ (l.map (·.1)).Nodup ∧ RepN B S l xs := by
  cases h with
  | dn h n nd rl => cases e; exact ⟨_, _, rfl, h, nd, rl⟩
  | @ref n hn =>
    have e' : (match S.A[n]? with
      | some (AO.dn l) => some l
      | _ => none) = some l := e
    cases q : S.A[n]? with
    | none => rw [q] at e'; cases e'
    | some o =>
      rw [q] at e'
      cases o with
      | dn l' =>
        cases e'
        obtain ⟨vs, h1, nd, h2⟩ := r.obj n _ q
        exact ⟨_, vs, rfl, .inl h1, nd, h2⟩
      | _ => cases e'
  | _ => cases e
theorem RepK.look {k : Key} : ∀ {l : List (Key × D)} {kvs : List (Key × V)}, RepK B S l kvs → (∀ d, Cr.look l k = some d → ∃ v, valV kvs k = some v ∧ Rep B S d v) ∧ (Cr.look l k = none → valV kvs k = none)
  | _, _, .nil => ⟨fun d e => (by cases e), fun _ => rfl⟩
  | _, _, .cons (k := j) (d := d0) (v := v0) (l := l) (vs := vs) h t => by
    obtain ⟨i1, i2⟩ := RepK.look (k := k) t
    by_cases e : j = k
    · have e1 : Cr.look ((j, d0) :: l) k = some d0 := by simp [Cr.look, e]
      have e2 : valV ((j, v0) :: vs) k = some v0 := valV_pos e
      exact ⟨fun d q => by rw [e1] at q; cases q; exact ⟨v0, e2, h⟩, fun q => by rw [e1] at q; cases q⟩
    · have e1 : Cr.look ((j, d0) :: l) k = Cr.look l k := by simp [Cr.look, e]
      have e2 : valV ((j, v0) :: vs) k = valV vs k := valV_neg e
      rw [e1, e2]
      exact ⟨i1, i2⟩
theorem RepK.look_isSome {k : Key} {l : List (Key × D)} {kvs : List (Key × V)} (h : RepK B S l kvs) : (valV kvs k).isSome = (Cr.look l k).isSome := by
  obtain ⟨h1, h2⟩ := h.look (k := k)
  cases q : Cr.look l k with
  | none => rw [h2 q]; rfl
  | some d => obtain ⟨v, e, _⟩ := h1 d q; rw [e]; rfl
/-- entries of a dict with nested keys -/
theorem RepN.keys : ∀ {l : List (NestedKey × D)} {xs : Raw}, RepN B S l xs → xs.map (·.1) = l.map (·.1)
  | _, _, .nil => rfl
  | _, _, .cons _ _ _ _ t => congrArg (List.cons _) (RepN.keys t)
theorem RepN.look {k : NestedKey} : ∀ {l : List (NestedKey × D)} {xs : Raw}, RepN B S l xs → (∀ d, Cr.look l k = some d → ∃ ka u v, atKey xs k = some (ka, u) ∧ RelV v u ∧ Rep B S d v) ∧ (Cr.look l k = none → atKey xs k = none)
  | _, _, .nil => ⟨fun d e => (by cases e), fun _ => rfl⟩
  | _, _, .cons (k := j) (d := d0) (v := v0) (ka := ka) (u := u0) (l := l) (xs := xs) k1 k2 h r t => by
    obtain ⟨i1, i2⟩ := RepN.look (k := k) t
    by_cases e : j = k
    · have e1 : Cr.look ((j, d0) :: l) k = some d0 := by simp [Cr.look, e]
      have e2 : atKey ((j, ka, u0) :: xs) k = some (ka, u0) := by simp [atKey, e]
      exact ⟨fun d q => by rw [e1] at q; cases q; exact ⟨ka, u0, v0, e2, r, h⟩, fun q => by rw [e1] at q; cases q⟩
    · have e1 : Cr.look ((j, d0) :: l) k = Cr.look l k := by simp [Cr.look, e]
      have e2 : atKey ((j, ka, u0) :: xs) k = atKey xs k := by simp [atKey, e]
      rw [e1, e2]
      exact ⟨i1, i2⟩
theorem RepN.look_isSome {k : NestedKey} {l : List (NestedKey × D)} {xs : Raw} (h : RepN B S l xs) : (atKey xs k).isSome = (Cr.look l k).isSome := by
  obtain ⟨h1, h2⟩ := h.look (k := k)
  cases q : Cr.look l k with
  | none => rw [h2 q]; rfl
  | some d => obtain ⟨ka, u, v, e, _⟩ := h1 d q; rw [e]; rfl
end
section
variable {X : Cx} {B : Bx} {S : Sx} {pins : List (Addr × Obj)} {σ : L2.St} {s : Shared}
mutual
theorem keyIs (hK : X.K = B.K) (I : Inv X pins σ S.H s) : ∀ {k : NestedKey} {v : V} {u : Value}, KeyAt B.K S.H k v → RelV v u → NestedIs s.heap k u
  | _, _, _, .non, r => by cases r; exact .none
  | _, _, _, .int i, r => by obtain ⟨t, rfl⟩ := r; exact .int i t
  | _, _, _, .str x, r => by obtain ⟨t, rfl⟩ := r; exact .text x t
  | _, _, _, .tup h l, r => by
    cases r
    rw [← hK] at h
    obtain ⟨its, rv, ⟨o, ho, hc, n, hd⟩, hz⟩ := I.tuple h
    exact .tup ho hc hd (keyIsL hK I l rv)
theorem keyIsL (hK : X.K = B.K) (I : Inv X pins σ S.H s) : ∀ {ks : List NestedKey} {vs : List V} {us : List Value}, KeyAtL B.K S.H ks vs → Vals vs us → NestedAll s.heap ks us
  | _, _, _, .nil, r => by cases r; exact .nil
  | _, _, _, .cons h t, r => by
    cases r with
    | cons r1 r2 => exact .cons (keyIs hK I h r1) (keyIsL hK I t r2)
end
theorem keyIs8 (hK : X.K = B.K) (I : Inv X pins σ S.H s) {k : NestedKey} {a : Addr} (h : KeyAt B.K S.H k (.ref a)) (h8 : k.depth ≤ 8) : (nestedKind X.prog X.w).is s.heap k a := ⟨keyIs hK I h rfl, h8⟩
theorem RepN.all_is (hK : X.K = B.K) (I : Inv X pins σ S.H s) : ∀ {l : List (NestedKey × D)} {xs : Raw}, RepN B S l xs → ∀ x ∈ xs, (nestedKind X.prog X.w).is s.heap x.1 x.2.1
  | _, _, .nil, x, hx => by cases hx
  | _, _, .cons k1 k2 h r t, x, hx => by
    rcases List.mem_cons.mp hx with rfl | hx
    · exact keyIs8 hK I k1 k2
    · exact RepN.all_is hK I t x hx
theorem dn_at (hP : X.prog = B.prog) (hW : X.w = B.w) (hK : X.K = B.K) (I : Inv X pins σ S.H s) {a : Addr} {l : List (NestedKey × D)} {xs : Raw} (h : Rd S.H a (rawD B.prog B.w a xs)) (nd : (l.map (·.1)).Nodup) (rn : RepN B S l xs) :
    (a == sysModules) = false ∧ xs.length ≤ sizeLine ∧ s.heap.DictOfH (nestedKind X.prog X.w) a xs := by
  obtain ⟨⟨h1, h2, o, es, ep, h3, h4, h5, h6⟩, _⟩ := (show ObjOk X.prog X.w S.H s.heap a (rawD B.prog B.w a xs) from h.ok I.hok)
  refine ⟨h1, h2, o, es, ep, h3, h4, h5, ?_, rn.all_is hK I, by rw [rn.keys]; exact nd⟩
  rw [hP, hW]
  exact h6
theorem nroom {A : Around} (h : A.units + 64 < cLine) : (nestedKind X.prog X.w).room A.in1 := by
  show A.units + 1 + 8 < cLine
  omega
theorem nroom0 {A : Around} (h : A.units + 64 < cLine) : (nestedKind X.prog X.w).room A := by
  show A.units + 8 < cLine
  omega
end

/-! ### in -/
def inS (a b : Str) : Bool := !(Builtin.Str.occurrences b a 0 b.length 1).isEmpty
def inSeq (A : Sto) (x y : D) : Option Bool := match seqOf A y with
  | some l => match pdA A x, pdL l with
    | some p, some ps => if p.depth ≤ 60 then some (ps.any fun z => PyData.eqv z p) else none
    | _, _ => none
  | none => none
def inDk (A : Sto) (x y : D) : Option Bool := match dkOf A y, keyOf x with
  | some l, some k => some (look l k).isSome
  | _, _ => none
def inDn (A : Sto) (x y : D) : Option Bool := match dnOf A y, tkOf x with
  | some l, some k => some (look l k).isSome
  | _, _ => none
def isIn (A : Sto) (x y : D) : Option Bool := match x, y with
  | .str a, .str b => some (inS a b)
  | x, y => match inSeq A x y with
    | some b => some b
    | none => match inDk A x y with
      | some b => some b
      | none => inDn A x y
def opIn : Op2 := fun A x y => (isIn A x y).map .bl
def opNotIn : Op2 := fun A x y => (isIn A x y).map fun b => .bl (!b)

section
variable {X : Cx} {B : Bx}
/-- membership, by the model's two comparisons at once -/
theorem in_any (hP : X.prog = B.prog) (hW : X.w = B.w) (hK : X.K = B.K) (hu : X.A.units + 64 < cLine) (neg : Bool) {pins : List (Addr × Obj)} {s : Shared} {σ : L2.St} {S : Sx} {p q : D} {x y : V} {v u : Value} {b : Bool} {Q : Value → Shared → Prop} {E : Value → Shared → Prop}
    (I : Inv X pins σ S.H s) (r : Rel B S) (rx : RelV x v) (ry : RelV y u) (r1 : Rep B S p x) (r2 : Rep B S q y) (e : isIn S.A p q = some b) (h : ∀ s', Inv X pins σ S.H s' → Q (.bool (if neg then !b else b)) s') :
    wpAny (model X.prog X.w) X.A (compareOp (if neg then .NotIn else .In) v u) Q E s := by
  have seqs : inSeq S.A p q = some b → wpAny (model X.prog X.w) X.A (compareOp (if neg then .NotIn else .In) v u) Q E s := by
    intro e
    unfold inSeq at e
    split at e
    · rename_i l e1
      split at e
      · rename_i d ds e2 e3
        split at e
        · rename_i hd
          cases e
          obtain ⟨a, vs, rfl, hq, rl⟩ := seq_rep r r2 e1
          cases ry
          obtain ⟨n1, as, a1⟩ := readsA hK I r r1 e2 rx
          have any : ∀ {its : List Value}, Vals vs its → ∃ f : Value → Bool, (∀ w, w ∈ its.toArray → EqAt X.A.in1 s w v (f w)) ∧ its.toArray.any f = ds.any fun z => PyData.eqv z d := by
            intro its rv
            obtain ⟨n2, bs, a2⟩ := readsL hK I rl e3 rv
            refine ⟨fun w => open Classical in if q : ∃ z as, nod z = true ∧ Reads s.heap w z as then PyData.eqv q.choose d else false, ?_, ?_⟩
            · intro w hw
              have key : ∀ {its : List Value} {ds : List PyData} {bs : List Addr}, ReadsAll s.heap its ds bs → nods ds = true → w ∈ its → ∃ z as, nod z = true ∧ Reads s.heap w z as := by
                intro its
                induction its with
                | nil => intro ds bs _ _ hm; cases hm
                | cons c its ih =>
                  intro ds bs ra n hm
                  cases ra with
                  | cons h1 h2 =>
                    obtain ⟨m1, m2⟩ := nods_cons n
                    rcases List.mem_cons.mp hm with rfl | hm
                    · exact ⟨_, _, m1, h1⟩
                    · exact ih h2 m2 hm
              have hx := key a2 n2 (by simpa using hw)
              simp only [dif_pos hx]
              obtain ⟨as', m1, h1⟩ := hx.choose_spec
              exact eqAtN _ _ _ _ _ _ _ _ h1 a1 m1 n1 (by show X.A.units + 1 + _ < _; omega)
            · rw [show ∀ f : Value → Bool, its.toArray.any f = its.any f from fun f => by simp]
              clear rv
              induction its generalizing ds bs l vs with
              | nil => cases a2; rfl
              | cons c its ih =>
                cases a2 with
                | cons h1 h2 =>
                  rename_i z zs as' bs'
                  obtain ⟨m1, m2⟩ := nods_cons n2
                  rw [List.any_cons, List.any_cons]
                  have hx : ∃ z as, nod z = true ∧ Reads s.heap c z as := ⟨_, _, m1, h1⟩
                  congr 1
                  · simp only [dif_pos hx]
                    obtain ⟨as', m1', h1'⟩ := hx.choose_spec
                    rw [uniq _ _ _ _ _ m1' h1' h1]
                  · clear rl e3 e1 hq
                    have : ∀ {its : List Value} {zs : List PyData} {bs : List Addr}, ReadsAll s.heap its zs bs → nods zs = true → (its.any fun w => open Classical in if q : ∃ z as, nod z = true ∧ Reads s.heap w z as then PyData.eqv q.choose d else false) = zs.any fun z => PyData.eqv z d := by
                      intro its
                      induction its with
                      | nil => intro zs bs a _; cases a; rfl
                      | cons c its ih =>
                        intro zs bs a n
                        cases a with
                        | cons h1 h2 =>
                          obtain ⟨m1, m2⟩ := nods_cons n
                          rw [List.any_cons, List.any_cons, ih h2 m2]
                          have hx : ∃ z as, nod z = true ∧ Reads s.heap c z as := ⟨_, _, m1, h1⟩
                          congr 1
                          simp only [dif_pos hx]
                          obtain ⟨as', m1', h1'⟩ := hx.choose_spec
                          rw [uniq _ _ _ _ _ m1' h1' h1]
                    exact this h2 m2
          rcases hq with hq | hq
          · rw [← hK] at hq
            obtain ⟨its, rv, pl, hz⟩ := I.list hq
            obtain ⟨f, f1, f2⟩ := any rv
            cases neg with
            | false => exact in_listAt f pl.isList f1 (by rw [f2]; exact h s I)
            | true => exact notIn_listAt f pl.isList f1 (by rw [f2]; exact h s I)
          · rw [← hK] at hq
            obtain ⟨its, rv, pl, hz⟩ := I.tuple hq
            obtain ⟨f, f1, f2⟩ := any rv
            cases neg with
            | false => exact in_tupleAt f pl f1 (by rw [f2]; exact h s I)
            | true => exact notIn_tupleAt f pl f1 (by rw [f2]; exact h s I)
        · cases e
      · cases e
    · cases e
  have dks : inDk S.A p q = some b → wpAny (model X.prog X.w) X.A (compareOp (if neg then .NotIn else .In) v u) Q E s := by
    intro e
    unfold inDk at e
    split at e
    · rename_i l k e1 e2
      cases e
      obtain ⟨a, kvs, rfl, ha, rk⟩ := dk_rep r r2 e1
      have hx := key_rep r1 e2
      subst hx
      cases ry
      have g : DGet S.H a (kV k) (valV kvs k) := .inl ⟨kvs, k, ha, rfl, rfl⟩
      cases neg with
      | false => exact d_in (by omega) I g rx fun s' I' => by rw [rk.look_isSome]; exact h s' I'
      | true => exact d_notIn (by omega) I g rx fun s' I' => by rw [rk.look_isSome]; exact h s' I'
    · cases e
  have dns : inDn S.A p q = some b → wpAny (model X.prog X.w) X.A (compareOp (if neg then .NotIn else .In) v u) Q E s := by
    intro e
    unfold inDn at e
    split at e
    · rename_i l k e1 e2
      cases e
      obtain ⟨a, xs, rfl, ha, nd, rn⟩ := dn_rep r r2 e1
      obtain ⟨ka, rfl, hk, h8⟩ := tk_rep r1 e2
      cases ry
      cases rx
      obtain ⟨hs, hz, dd⟩ := dn_at hP hW hK I ha nd rn
      cases neg with
      | false => exact wpAny_in_heap (nroom hu) (keyIs8 hK I hk h8) hs dd (by rw [rn.look_isSome]; exact h _ (I.tok _))
      | true => exact notIn_keyed (kvs := pairsH xs) (nroom hu) (keyIs8 hK I hk h8) hs ⟨xs, dd, rfl⟩ (by rw [valueAt_pairsH, Option.isSome_map, rn.look_isSome]; exact h _ (I.tok _))
    · cases e
  unfold isIn at e
  split at e
  · cases e
    cases r1
    cases r2
    obtain ⟨t, rfl⟩ := rx
    obtain ⟨t', rfl⟩ := ry
    cases neg with
    | false => exact in_str (h s I)
    | true => exact notIn_str (h s I)
  · cases q1 : inSeq S.A p q with
    | some b' => rw [q1] at e; cases e; exact seqs q1
    | none =>
      rw [q1] at e
      dsimp only at e
      cases q2 : inDk S.A p q with
      | some b' => rw [q2] at e; cases e; exact dks q2
      | none => rw [q2] at e; exact dns e
theorem or_in (hP : X.prog = B.prog) (hW : X.w = B.w) (hK : X.K = B.K) (hu : X.A.units + 64 < cLine) : OpD X B (compareOp .In) opIn := by
  intro pins s σ H x y v u Q I rx ry h
  obtain ⟨S, p, q, d, rfl, r, r1, r2, e, k⟩ := h
  obtain ⟨b, e1, rfl⟩ := Option.map_eq_some_iff.mp e
  exact in_any hP hW hK hu false I r rx ry r1 r2 e1 fun s' I' => ⟨.bl b, S.H, I', rfl, k S _ rfl (.refl r) (.bl b)⟩
theorem or_notin (hP : X.prog = B.prog) (hW : X.w = B.w) (hK : X.K = B.K) (hu : X.A.units + 64 < cLine) : OpD X B (compareOp .NotIn) opNotIn := by
  intro pins s σ H x y v u Q I rx ry h
  obtain ⟨S, p, q, d, rfl, r, r1, r2, e, k⟩ := h
  obtain ⟨b, e1, rfl⟩ := Option.map_eq_some_iff.mp e
  exact in_any hP hW hK hu true I r rx ry r1 r2 e1 fun s' I' => ⟨.bl (!b), S.H, I', rfl, k S _ rfl (.refl r) (.bl _)⟩
end
end Cr
end

section
set_option Elab.async false
set_option linter.all false
set_option maxRecDepth 100000
set_option maxHeartbeats 1000000
/-! Core, part G: tests, statements, loops. -/
namespace Cr
open PySem PySem.Spec PyProof.Rows L2

section
variable {X : Cx} {B : By} {W : WX} {a b c e : Expr} {ma mb mc : En → M D} {ta tb : En → M Bool} {pos : Pos} {rest : List Expr}
/-! ### tests -/
theorem st_val (h : SE X B W a ma) (he : ∀ whole, isTrue a X.env whole = (do let v ← whole; standAt a.pos; holding [v] (truthy v))) : ST X B W a (fun η => do let x ← ma η; blOf x) :=
  PT.mono (pt_val h he) fun σ H Q ⟨S, η, eH, r, en, p⟩ => by
    subst eH
    refine ⟨S, η, rfl, r, en, Post.imp (Post.bind p) fun x S1 n1 p1 v1 r1 => ?_⟩
    cases x with
    | bl b => cases r1; exact ⟨b, rfl, p1 S1 rfl (.refl n1.rel)⟩
    | _ => exact p1.elim
theorem st_not (h : ST X B W a ta) : ST X B W (.UnaryOp .Not a pos) (fun η => do let x ← ta η; pure (!x)) :=
  PT.mono (pt_not h) fun σ H Q ⟨S, η, eH, r, en, p⟩ => by
    subst eH
    exact ⟨S, η, rfl, r, en, Post.imp (Post.bind p) fun x S1 n1 p1 => p1 S1 rfl (.refl n1.rel)⟩
theorem sw_and1 (h : ST X B W a ta) : SW X B W (.BoolOp .And [a] pos) ta := pw_and1 h
theorem sw_or1 (h : ST X B W a ta) : SW X B W (.BoolOp .Or [a] pos) ta := pw_or1 h
theorem sw_and (ha : ST X B W a ta) (hb : SW X B W (.BoolOp .And (b :: rest) pos) tb) : SW X B W (.BoolOp .And (a :: b :: rest) pos) (fun η => do let x ← ta η; if x = true then tb η else pure false) :=
  PW.mono (pw_and ha hb) fun σ H Q ⟨S, η, eH, r, en, p⟩ => by
    subst eH
    refine ⟨S, η, rfl, r, en, Post.imp (Post.bind p) fun x S1 n1 p1 => ?_⟩
    cases x with
    | true => exact ⟨S1, η, rfl, n1.rel, en.ext n1.ext, p1⟩
    | false => exact p1 S1 rfl (.refl n1.rel)
theorem sw_or (ha : ST X B W a ta) (hb : SW X B W (.BoolOp .Or (b :: rest) pos) tb) : SW X B W (.BoolOp .Or (a :: b :: rest) pos) (fun η => do let x ← ta η; if x = true then pure true else tb η) :=
  PW.mono (pw_or ha hb) fun σ H Q ⟨S, η, eH, r, en, p⟩ => by
    subst eH
    refine ⟨S, η, rfl, r, en, Post.imp (Post.bind p) fun x S1 n1 p1 => ?_⟩
    cases x with
    | false => exact ⟨S1, η, rfl, n1.rel, en.ext n1.ext, p1⟩
    | true => exact p1 S1 rfl (.refl n1.rel)
theorem SW.st (h : SW X B W a ta) : ST X B W a ta := PW.pt h
end

/-! ### statements -/
inductive Ctl where
  | nx | bk | ct | rt (d : D)
def Endz (B : Bx) (Dn : Ends) : En × Ctl → Sx → Prop
  | (η, .nx), S => ∀ σ, EnR B S η σ → Dn.nx σ S.H
  | (η, .bk), S => ∀ σ, EnR B S η σ → Dn.bk σ S.H
  | (η, .ct), S => ∀ σ, EnR B S η σ → Dn.ct σ S.H
  | (_, .rt d), S => ∀ v, Rep B S d v → Dn.rt v S.H
/-- the wish of exceptions from a statement: whatever the names hold -/
abbrev wAny (n : Nat) (W : WX) : XK := fun c d H => ∀ σ : L2.St, σ.length = n → W c d σ H
def rdS (B : By) (n : Nat) (W : WX) (m : En → M (En × Ctl)) : TS := fun Dn σ H => ∃ S η, S.H = H ∧ Rel B.toBx S ∧ EnR B.toBx S η σ ∧ Post B (wAny n W) S (Endz B.toBx Dn) (m η S.A)
abbrev SS (X : Cx) (B : By) (W : WX) (st : Stmt) (m : En → M (En × Ctl)) : Prop := PS X st (rdS B X.N.length W m)
abbrev SSs (X : Cx) (B : By) (W : WX) (sts : List Stmt) (m : En → M (En × Ctl)) : Prop := PSs X sts (rdS B X.N.length W m)
theorem PS.monoI {X : Cx} {e : Stmt} {t t' : TS} (h : PS X e t) (k : ∀ D σ H, σ.length = X.N.length → t' D σ H → t D σ H) : PS X e t' := ⟨fun pins s σ H D I q => h.run pins s σ H D I (k D σ H I.len q)⟩
theorem PSs.monoI {X : Cx} {e : List Stmt} {t t' : TS} (h : PSs X e t) (k : ∀ D σ H, σ.length = X.N.length → t' D σ H → t D σ H) : PSs X e t' := ⟨fun pins s σ H D I q => h.run pins s σ H D I (k D σ H I.len q)⟩
/-- wishes of exceptions: from any names to these -/
theorem Post.wany {B : By} {n : Nat} {W : WX} {S : Sx} {α : Type} {P : α → Sx → Prop} {r : Out α} (h : Post B (wAny n W) S P r) {σ : L2.St} (e : σ.length = n) : Post B (fun c d H' => W c d σ H') S P r := by
  cases r with
  | ok a A => exact h
  | exc c d A => exact fun S' v dx e1 n1 rv hx => h S' v dx e1 n1 rv hx σ e
  | err => exact h

def mSeq (m1 m2 : En → M (En × Ctl)) (η : En) : M (En × Ctl) := do
  let r ← m1 η
  match r with
  | (η', .nx) => m2 η'
  | r => pure r
def mNext (η : En) : M (En × Ctl) := pure (η, .nx)
section
variable {X : Cx} {B : By} {W : WX} {a b c e : Expr} {ma mb mc : En → M D} {ta tb : En → M Bool} {pos : Pos} {st : Stmt} {sts sts' : List Stmt} {m1 m2 : En → M (En × Ctl)}
theorem ss_nil : SSs X B W [] mNext := PSs.mono pss_nil fun Dn σ H ⟨S, η, eH, r, en, p⟩ => by
  subst eH
  exact p S rfl (.refl r) σ en
theorem ss_cons (h1 : SS X B W st m1) (h2 : SSs X B W sts m2) : SSs X B W (st :: sts) (mSeq m1 m2) := PSs.mono (pss_cons h1 h2) fun Dn σ H ⟨S, η, eH, r, en, p⟩ => by
  subst eH
  refine ⟨S, η, rfl, r, en, Post.imp (Post.bind p) fun x S1 n1 p1 => ?_⟩
  obtain ⟨η', c⟩ := x
  cases c with
  | nx => exact fun σ' en' => ⟨S1, η', rfl, n1.rel, en', p1⟩
  | bk => exact p1 S1 rfl (.refl n1.rel)
  | ct => exact p1 S1 rfl (.refl n1.rel)
  | rt d => exact p1 S1 rfl (.refl n1.rel)
theorem ss_one (h1 : SS X B W st m1) : SSs X B W [st] m1 := pss_one h1
theorem ss_pass : SS X B W (.Pass pos) mNext := PS.mono ps_pass fun Dn σ H ⟨S, η, eH, r, en, p⟩ => by
  subst eH
  exact p S rfl (.refl r) σ en
theorem ss_expr (h : SE X B W a ma) (hs : swapsWith a none pos.line X.env = pure false) : SS X B W (.Expr a pos) (fun η => do let _ ← ma η; pure (η, .nx)) := PS.monoI (ps_expr h hs) fun Dn σ H hl ⟨S, η, eH, r, en, p⟩ => by
  subst eH
  refine ⟨S, η, rfl, r, en, Post.wany (Post.imp (Post.bind p) fun x S1 n1 p1 v1 r1 => ?_) hl⟩
  exact p1 S1 rfl (.refl n1.rel) σ (en.ext n1.ext)
theorem ss_ret (h : SE X B W a ma) : SS X B W (.Return (some a) pos) (fun η => do let d ← ma η; pure (η, .rt d)) := PS.monoI (ps_ret h) fun Dn σ H hl ⟨S, η, eH, r, en, p⟩ => by
  subst eH
  refine ⟨S, η, rfl, r, en, Post.wany (Post.imp (Post.bind p) fun x S1 n1 p1 v1 r1 => ?_) hl⟩
  exact p1 S1 rfl (.refl n1.rel) v1 r1
theorem ss_if (hc : ST X B W c ta) (ha : SSs X B W sts m1) (hb : SSs X B W sts' m2) : SS X B W (.If c sts sts' pos) (fun η => do let x ← ta η; if x = true then m1 η else m2 η) := PS.monoI (ps_if hc ha hb) fun Dn σ H hl ⟨S, η, eH, r, en, p⟩ => by
  subst eH
  refine ⟨S, η, rfl, r, en, Post.wany (Post.imp (Post.bind p) fun x S1 n1 p1 => ?_) hl⟩
  cases x with
  | true => exact ⟨S1, η, rfl, n1.rel, en.ext n1.ext, p1⟩
  | false => exact ⟨S1, η, rfl, n1.rel, en.ext n1.ext, p1⟩
theorem ss_set {i : Nat} {x : Str} {pos' : Pos} (hN : X.N.Nodup) (hi : X.N[i]? = some x) (hx : Loc X.env.scope x) (h : SE X B W a ma) (hs : swapsWith a (some (.Name x pos')) pos.line X.env = pure false)
    (hf : X.fn x = true ∨ X.env.scope.names.lookup x = some .local) : SS X B W (.Assign [.Name x pos'] a pos) (fun η => do let d ← ma η; pure (η.set i (some d), .nx)) := PS.monoI (ps_set hN hi hx h hs hf) fun Dn σ H hl ⟨S, η, eH, r, en, p⟩ => by
  subst eH
  refine ⟨S, η, rfl, r, en, Post.wany (Post.imp (Post.bind p) fun x S1 n1 p1 v1 r1 => ?_) hl⟩
  exact p1 S1 rfl (.refl n1.rel) _ ((en.ext n1.ext).set r1 i)
end

/-! ### targets -/
/-- a target takes a value: new names; only the slots vs change -/
def rdG (B : By) (vs : List Nat) (g : D → En → M En) : TG := fun v σ H Q => ∃ S η d, S.H = H ∧ Rel B.toBx S ∧ EnR B.toBx S η σ ∧ Rep B.toBx S d v ∧
  Post B (fun _ _ _ => False) S (fun η' S' => ∀ σ', EnR B.toBx S' η' σ' → (∀ ws : List Nat, (∀ i, i ∈ vs → i ∈ ws) → wipe σ' ws = wipe σ ws) → Q σ' S'.H) (g d η S.A)
abbrev SG (X : Cx) (B : By) (vs : List Nat) (tg : Expr) (g : D → En → M En) : Prop := PG X tg (rdG B vs g)
theorem wipe_set {σ : L2.St} {i : Nat} {o : Option V} : ∀ {ws : List Nat}, i ∈ ws → wipe (σ.set i o) ws = wipe σ ws
  | [], h => by cases h
  | w :: ws, h => by
    unfold wipe
    by_cases e : i ∈ ws
    · rw [wipe_set e]
    · have hi : i = w := by
        rcases List.mem_cons.mp h with h | h
        · exact h
        · exact absurd h e
      subst hi
      have key : ∀ (ws : List Nat), i ∉ ws → wipe (σ.set i o) ws = (wipe σ ws).set i o := by
        intro ws
        induction ws with
        | nil => intro _; rfl
        | cons w ws ih =>
          intro hn
          have h1 : i ≠ w := fun z => hn (by rw [z]; exact List.mem_cons_self ..)
          have h2 : i ∉ ws := fun z => hn (List.mem_cons_of_mem _ z)
          unfold wipe
          rw [ih h2, List.set_comm _ _ h1]
      rw [key ws e, List.set_set]
section
variable {X : Cx} {B : By} {pos : Pos}
theorem sg_name {i : Nat} {x : Str} (hN : X.N.Nodup) (hi : X.N[i]? = some x) (hx : Loc X.env.scope x) (hf : X.fn x = true ∨ X.env.scope.names.lookup x = some .local) : SG X B [i] (.Name x pos) (fun d η => pure (η.set i (some d))) :=
  PG.mono (pg_name hN hi hx hf) fun v σ H Q ⟨S, η, d, eH, r, en, rv, p⟩ => by
    subst eH
    exact p S rfl (.refl r) _ (en.set rv i) fun ws h => wipe_set (h i (List.mem_singleton.mpr rfl))
/-- two names for a pair -/
def gPair (i j : Nat) (d : D) (η : En) : M En := match d with
  | .tup [x, y] => pure ((η.set i (some x)).set j (some y))
  | _ => M.err
theorem sg_pair {i j : Nat} {x y : Str} {px py : Pos} {k : Nat} (hc : X.calm = true) (hK : X.K = B.K) (hN : X.N.Nodup) (hi : X.N[i]? = some x) (hj : X.N[j]? = some y) (hx : Loc X.env.scope x) (hy : Loc X.env.scope y)
    (hfx : X.fn x = true ∨ X.env.scope.names.lookup x = some .local) (hfy : X.fn y = true ∨ X.env.scope.names.lookup y = some .local) : SG X B [i, j] (.Tuple [.Name x px, .Name y py] k pos) (gPair i j) := by
  refine PG.mono (pg_tup (n := 2) hc (pgs_cons (pg_name hN hi hx hfx) (pgs_cons (pg_name hN hj hy hfy) pgs_nil))) fun v σ H Q ⟨S, η, d, eH, r, en, rv, p⟩ => ?_
  subst eH
  unfold gPair at p
  split at p
  · rename_i dx dy
    cases rv with
    | tup h rl =>
      cases rl with
      | cons r1 rl =>
        cases rl with
        | cons r2 rl =>
          cases rl
          rw [← hK] at h
          refine ⟨_, _, rfl, h, rfl, _, _, rfl, _, _, rfl, rfl, ?_⟩
          refine p S rfl (.refl r) _ ((en.set r1 i).set r2 j) fun ws hw => ?_
          rw [wipe_set (hw j (by simp)), wipe_set (hw i (by simp))]
  · exact p.elim
end

/-! ### what is walked -/
structure ItD where
  its : List D
  ok : Sto → Prop
/-- the walk J goes so, from S on -/
def RI (B : Bx) (S : Sx) (it : ItD) (J : It) : Prop := ∀ S', Nxt B S S' → it.ok S'.A → (∀ d i, it.its[i]? = some d → J.go i S'.H ∧ ∀ x H', J.yld i S'.H x H' → ∃ S2, S2.A = S'.A ∧ S2.H = H' ∧ Nxt B S' S2 ∧ Rep B S2 d x) ∧ J.stop it.its.length S'.H
def rdI (B : By) (W : WX) (m : En → M ItD) : TI := fun σ H R => ∃ S η, S.H = H ∧ Rel B.toBx S ∧ EnR B.toBx S η σ ∧ Post B (fun c d H' => W c d σ H') S (fun it S' => ∀ J, RI B.toBx S' it J → R J S'.H) (m η S.A)
abbrev SI (X : Cx) (B : By) (W : WX) (tg e : Expr) (m : En → M ItD) : Prop := PI X tg e (rdI B W m)
theorem PI.mono {X : Cx} {tg e : Expr} {t t' : TI} (h : PI X tg e t) (k : ∀ σ H R, t' σ H R → t σ H R) : PI X tg e t' := ⟨fun pins s σ H R I q => h.run pins s σ H R I (k σ H R q)⟩
/-- items of a sequence that is not changed meanwhile -/
def seqIt (A : Sto) (d : D) : Option ItD := match d with
  | .tup l => some ⟨l, fun _ => True⟩
  | .lst l => some ⟨l, fun _ => True⟩
  | .scr l => some ⟨l, fun _ => True⟩
  | .ref n => match A[n]? with
    | some (.lst l) => some ⟨l, fun A' => A'[n]? = some (.lst l)⟩
    | _ => none
  | _ => none
def doI (f : Sto → D → Option ItD) (d : D) : M ItD := M.opt fun A => f A d

theorem seqIt_rep {B : Bx} {S : Sx} {d : D} {v : V} {it : ItD} (r : Rel B S) (h : Rep B S d v) (e : seqIt S.A d = some it) :
    ∃ a, v = .ref a ∧ ((∃ vs, SqL B.K S.H a vs) ∧ (∀ S', Nxt B S S' → it.ok S'.A → ∃ vs, SqL B.K S'.H a vs ∧ RepL B S' it.its vs) ∨ (∃ vs, SqT B.K S.H a vs) ∧ (∀ S', Nxt B S S' → it.ok S'.A → ∃ vs, SqT B.K S'.H a vs ∧ RepL B S' it.its vs)) := by
  unfold seqIt at e
  split at e
  · cases e
    cases h with
    | tup h rl => exact ⟨_, rfl, .inr ⟨⟨_, h⟩, fun S' n _ => ⟨_, n.ext.toExt0.sqT h, rl.ext n.ext⟩⟩⟩
  · cases e
    cases h with
    | lst h na rl => exact ⟨_, rfl, .inl ⟨⟨_, .inl (.inl h)⟩, fun S' n _ => ⟨_, .inl (.inl (n.ext.stays h na (fun z => z)).1), rl.ext n.ext⟩⟩⟩
  · cases e
    cases h with
    | scr h na rl => exact ⟨_, rfl, .inl ⟨⟨_, .inl h⟩, fun S' n _ => ⟨_, .inl (n.ext.toExt0.rd h na).1, rl.ext n.ext⟩⟩⟩
  · split at e
    · rename_i n _ l q
      cases e
      cases h with
      | ref hn =>
        obtain ⟨vs, h1, h2⟩ := r.obj _ _ q
        refine ⟨_, rfl, .inl ⟨⟨_, .inl (.inl h1)⟩, fun S' nx hok => ?_⟩⟩
        have hok' : S'.A[n]? = some (.lst l) := hok
        obtain ⟨ws, h3, h4⟩ := nx.rel.obj n _ hok'
        rw [nx.ext.rho n hn] at h3
        exact ⟨_, .inl (.inl h3), h4⟩
    · cases e
  · cases e
theorem ri_list {B : Bx} {S : Sx} {it : ItD} {a : Addr} (h : ∀ S', Nxt B S S' → it.ok S'.A → ∃ vs, SqL B.K S'.H a vs ∧ RepL B S' it.its vs) : RI B S it (Itl B.K a) := fun S' n ok => by
  obtain ⟨vs, h1, h2⟩ := h S' n ok
  refine ⟨fun d i e => ?_, ⟨vs, h1, Nat.le_of_eq h2.length.symm⟩⟩
  obtain ⟨v, e1, e2⟩ := h2.get e
  exact ⟨⟨vs, v, h1, e1⟩, fun x H' ⟨eh, hx⟩ => ⟨S', rfl, eh.symm, .refl n.rel, by
    have := hx vs h1
    rw [e1] at this
    cases this
    exact e2⟩⟩
theorem ri_tup {B : Bx} {S : Sx} {it : ItD} {a : Addr} (h : ∀ S', Nxt B S S' → it.ok S'.A → ∃ vs, SqT B.K S'.H a vs ∧ RepL B S' it.its vs) : RI B S it (Itt B.K a) := fun S' n ok => by
  obtain ⟨vs, h1, h2⟩ := h S' n ok
  refine ⟨fun d i e => ?_, ⟨vs, h1, Nat.le_of_eq h2.length.symm⟩⟩
  obtain ⟨v, e1, e2⟩ := h2.get e
  exact ⟨⟨vs, v, h1, e1⟩, fun x H' ⟨eh, hx⟩ => ⟨S', rfl, eh.symm, .refl n.rel, by
    have := hx vs h1
    rw [e1] at this
    cases this
    exact e2⟩⟩
section
variable {X : Cx} {B : By} {W : WX} {e tg : Expr} {me : En → M D} {pos : Pos}
/-- over a list or a tuple -/
theorem pi_seq {te : TE} (he : PE X e te) : PI X tg e (fun σ H R => te σ H fun x H1 => ∃ a, x = .ref a ∧ (((∃ xs, SqL X.K H1 a xs) ∧ R (Itl X.K a) H1) ∨ ((∃ xs, SqT X.K H1 a xs) ∧ R (Itt X.K a) H1))) := by
  refine ⟨fun pins s σ H R I h => ?_⟩
  refine thn (he.run pins s σ H _ I h) fun u s1 ⟨x, H1, I1, rx, q⟩ => ?_
  obtain ⟨a, rfl, q⟩ := q
  cases rx
  have fp : ∀ b ∈ [s1.heap.objs.size], FpOk X pins H1 b := fun b hb => by
    have e : b = s1.heap.objs.size := by simpa using hb
    subst e
    exact I1.fpOk (Nat.le_refl _) (I1.hok.fresh (Nat.le_refl _))
  rcases q with ⟨⟨xs, hq⟩, q⟩ | ⟨⟨xs, hq⟩, q⟩
  · obtain ⟨its, rv, p, hz⟩ := I1.list hq
    refine wpAny_pyIter_list p.isList ?_
    exact ⟨s1.heap.objs.size, [s1.heap.objs.size], _, _, H1, rfl, I1.kept (t' := s1.toks) fun b o e => Heap.get?_push_of_some _ e, turn_list a _, ⟨_, Heap.get?_push_size _ rfl, rfl, rfl⟩, fp, q⟩
  · obtain ⟨its, rv, p, hz⟩ := I1.tuple hq
    refine wpAny_pyIter_tuple (show s1.heap.IsTuple a its.toArray from p) ?_
    exact ⟨s1.heap.objs.size, [s1.heap.objs.size], _, _, H1, rfl, I1.kept (t' := s1.toks) fun b o e => Heap.get?_push_of_some _ e, turn_tuple a _, ⟨_, Heap.get?_push_size _ rfl, rfl, rfl⟩, fp, q⟩
theorem si_seq (he : SE X B W e me) (hK : X.K = B.K) : SI X B W tg e (fun η => do let d ← me η; doI seqIt d) := by
  refine PI.mono (pi_seq he) fun σ H R ⟨S, η, eH, r, en, p⟩ => ?_
  subst eH
  refine ⟨S, η, rfl, r, en, Post.imp (Post.bind p) fun d S1 n1 p1 v r1 => ?_⟩
  obtain ⟨it, e1, p2⟩ := p1.opt n1.rel
  obtain ⟨a, rfl, h⟩ := seqIt_rep n1.rel r1 e1
  rw [hK]
  refine ⟨a, rfl, ?_⟩
  rcases h with ⟨h1, h2⟩ | ⟨h1, h2⟩
  · exact .inl ⟨h1, p2 S1 rfl (.refl n1.rel) _ (ri_list h2)⟩
  · exact .inr ⟨h1, p2 S1 rfl (.refl n1.rel) _ (ri_tup h2)⟩
end

/-! ### for -/
open Classical in
noncomputable def forL (ok : Sto → Prop) (g : D → En → M En) (body : En → M (En × Ctl)) : List D → En → M (En × Ctl)
  | [], η => fun A => if ok A then .ok (η, .nx) A else .err
  | d :: r, η => fun A => if ok A then (do
      let η1 ← g d η
      let q ← body η1
      match q with
      | (η2, .nx) => forL ok g body r η2
      | (η2, .ct) => forL ok g body r η2
      | (η2, .bk) => pure (η2, .nx)
      | (η2, .rt d) => pure (η2, .rt d) : M (En × Ctl)) A else .err
noncomputable def mFor (mi : En → M ItD) (g : D → En → M En) (body : En → M (En × Ctl)) (η : En) : M (En × Ctl) := do
  let it ← mi η
  forL it.ok g body it.its η
section
variable {ok : Sto → Prop} {g : D → En → M En} {body : En → M (En × Ctl)} {η : En} {A : Sto} {d : D} {r : List D}
theorem forL_nil (h : ok A) : forL ok g body [] η A = .ok (η, .nx) A := by rw [forL]; exact if_pos h
theorem forL_cons (h : ok A) : forL ok g body (d :: r) η A = (do
      let η1 ← g d η
      let q ← body η1
      match q with
      | (η2, .nx) => forL ok g body r η2
      | (η2, .ct) => forL ok g body r η2
      | (η2, .bk) => pure (η2, .nx)
      | (η2, .rt d) => pure (η2, .rt d) : M (En × Ctl)) A := by rw [forL]; exact if_pos h
theorem forL_bad (h : ¬ ok A) (l : List D) : forL ok g body l η A = .err := by
  cases l with
  | nil => rw [forL]; exact if_neg h
  | cons d r => rw [forL]; exact if_neg h
end
theorem Post.noexc {B : By} {E : XK} {S : Sx} {α : Type} {P : α → Sx → Prop} {r : Out α} (h : Post B E S P r) (hn : ∀ c d A, r ≠ .exc c d A) : Post B (fun _ _ _ => False) S P r := by
  cases r with
  | ok a A => exact h
  | exc c d A => exact absurd rfl (hn c d A)
  | err => exact h
/-- targets raise nothing -/
def Quiet (g : D → En → M En) : Prop := ∀ d η A c x A', g d η A ≠ .exc c x A'
theorem quiet_name {i : Nat} : Quiet (fun d η => pure (η.set i (some d))) := fun _ _ _ _ _ _ h => nomatch h
theorem quiet_pair {i j : Nat} : Quiet (gPair i j) := fun d η A c x A' h => by
  unfold gPair at h
  split at h <;> cases h
theorem ss_for {X : Cx} {B : By} {W : WX} {tg e : Expr} {vs : List Nat} {mi : En → M ItD} {g : D → En → M En} {body : List Stmt} {mb : En → M (En × Ctl)} {pos : Pos}
    (hp : PassesOwn (model X.prog X.w) X.A X.env X.xe) (hc : X.calm = true) (hi : SI X B W tg e mi) (hg : SG X B vs tg g) (hq : Quiet g) (hb : SSs X B W body mb) (hs : ∀ x, foldedSetIterable e X.env x = pure x) :
    SS X B W (.For tg e body [] pos) (mFor mi g mb) := by
  refine PS.monoI (ps_for hp hc hi hg hb hs) fun Dn σ H hl ⟨S, η, eH, r, en, p⟩ => ?_
  subst eH
  refine ⟨S, η, rfl, r, en, Post.wany (Post.imp (Post.bind p) fun it S1 n1 p1 J rj => ?_) hl⟩
  refine ⟨fun i m σ H => m = it.its.length - i ∧ i ≤ it.its.length ∧ ∃ S2 η2, S2.H = H ∧ Nxt B.toBx S1 S2 ∧ EnR B.toBx S2 η2 σ ∧ Post B (wAny X.N.length W) S2 (Endz B.toBx Dn) (forL it.ok g mb (it.its.drop i) η2 S2.A), ⟨_, rfl, Nat.zero_le _, S1, η, rfl, .refl n1.rel, en.ext n1.ext, p1⟩, ?_⟩
  rintro i m σ H ⟨rfl, hi, S2, η2, rfl, n2, en2, p2⟩
  by_cases ok : it.ok S2.A
  · obtain ⟨h1, h2⟩ := rj S2 n2 ok
    by_cases hi2 : i = it.its.length
    · subst hi2
      rw [List.drop_length, forL_nil ok] at p2
      exact .inl ⟨h2, p2 S2 rfl (.refl n2.rel) σ en2⟩
    · have hlt : i < it.its.length := by omega
      obtain ⟨g1, g2⟩ := h1 (it.its[i]) i (List.getElem?_eq_getElem hlt)
      rw [List.drop_eq_getElem_cons hlt, forL_cons ok] at p2
      refine .inr ⟨g1, fun σ' H' => ∃ S3 η3, S3.H = H' ∧ Nxt B.toBx S1 S3 ∧ EnR B.toBx S3 η3 σ' ∧ Post B (wAny X.N.length W) S3 (Endz B.toBx Dn) (forL it.ok g mb (it.its.drop (i + 1)) η3 S3.A), ?_, ?_⟩
      · rintro σ' H' ⟨S3, η3, rfl, n3, en3, p3⟩
        exact ⟨_, by show it.its.length - (i + 1) < _; omega, rfl, hlt, S3, η3, rfl, n3, en3, p3⟩
      · intro x H' hy
        obtain ⟨S3, eA, rfl, n3, r3⟩ := g2 x H' hy
        refine ⟨S3, η2, it.its[i], rfl, n3.rel, en2.ext n3.ext, r3, ?_⟩
        have p3 := Post.later p2 n3
        rw [← eA] at p3
        refine Post.noexc (Post.imp (Post.bind p3) fun η4 S4 n4 p4 σ4 en4 _ => ?_) fun c d A => hq _ _ _ c d A
        refine ⟨S4, η4, rfl, n4.rel, en4, Post.imp (Post.bind p4) fun q S5 n5 p5 => ?_⟩
        obtain ⟨η5, c5⟩ := q
        have nn : Nxt B.toBx S1 S5 := (n2.trans n3).trans (n4.trans n5)
        cases c5 with
        | nx => exact fun σ5 en5 => ⟨S5, η5, rfl, nn, en5, p5⟩
        | ct => exact fun σ5 en5 => ⟨S5, η5, rfl, nn, en5, p5⟩
        | bk => exact p5 S5 rfl (.refl n5.rel)
        | rt d => exact p5 S5 rfl (.refl n5.rel)
  · rw [forL_bad ok] at p2
    exact p2.elim
end Cr
end

section
set_option Elab.async false
set_option linter.all false
set_option maxRecDepth 100000
set_option maxHeartbeats 1000000
/-! Core, part H: comprehensions. -/
namespace Cr
open PySem PySem.Spec PyProof.Rows L2

/-- no exception comes out -/
def M.calm {α : Type} (m : M α) : M α := fun A => match m A with
  | .ok a A1 => .ok a A1
  | _ => .err
theorem Post.step {B : By} {E : XK} {S S2 : Sx} {α β : Type} {P : β → Sx → Prop} {m : M α} {f : α → M β} {A : Sto} (h : Post B E S P ((M.calm m >>= f) A)) :
    Post B (fun _ _ _ => False) S2 (fun a S3 => Post B E S P (f a S3.A)) (m A) := by
  rw [M.bind_def] at h
  unfold M.calm at h
  cases q : m A with
  | ok a A1 =>
    rw [q] at h
    intro S3 e n
    subst e
    exact h
  | exc c d A1 => rw [q] at h; exact h.elim
  | err => rw [q] at h; exact h.elim
theorem M.calm_ok {α : Type} {m : M α} {A A1 : Sto} {a : α} (h : m A = .ok a A1) : M.calm m A = .ok a A1 := by
  unfold M.calm
  rw [h]

open Classical in
noncomputable def compL (ok : Sto → Prop) (g : D → En → M En) (t : En → M Bool) (me : En → M D) (η : En) : List D → List D → M (List D)
  | [], acc => fun A => if ok A then .ok acc A else .err
  | d :: r, acc => fun A => if ok A then (M.calm (g d η) >>= fun η1 => M.calm (t η1) >>= fun b => if b = true then M.calm (me η1) >>= fun x => (if acc.length < sizeLine then compL ok g t me η r (acc ++ [x]) else M.err) else compL ok g t me η r acc : M (List D)) A else .err
section
variable {ok : Sto → Prop} {g : D → En → M En} {t : En → M Bool} {me : En → M D} {η : En} {A : Sto} {d : D} {r acc : List D}
theorem compL_nil (h : ok A) : compL ok g t me η [] acc A = .ok acc A := by rw [compL]; exact if_pos h
theorem compL_cons (h : ok A) : compL ok g t me η (d :: r) acc A = (M.calm (g d η) >>= fun η1 => M.calm (t η1) >>= fun b => if b = true then M.calm (me η1) >>= fun x => (if acc.length < sizeLine then compL ok g t me η r (acc ++ [x]) else M.err) else compL ok g t me η r acc : M (List D)) A := by rw [compL]; exact if_pos h
theorem compL_bad (h : ¬ ok A) (l : List D) : compL ok g t me η l acc A = .err := by
  cases l with
  | nil => rw [compL]; exact if_neg h
  | cons d r => rw [compL]; exact if_neg h
/-- the usual case -/
theorem compL_map {u : D → En} {p : D → Bool} {f : D → D} (hok : ok A) : ∀ (l acc : List D), (∀ d ∈ l, g d η A = .ok (u d) A ∧ t (u d) A = .ok (p d) A ∧ (p d = true → me (u d) A = .ok (f d) A)) → acc.length + l.length ≤ sizeLine →
    compL ok g t me η l acc A = .ok (acc ++ (l.filter p).map f) A
  | [], acc, _, _ => by rw [compL_nil hok]; simp
  | d :: r, acc, h, hl => by
    obtain ⟨h1, h2, h3⟩ := h d (List.mem_cons_self ..)
    have hr := fun x hx => h x (List.mem_cons_of_mem _ hx)
    rw [compL_cons hok, M.bind_def, M.calm_ok h1]
    dsimp only
    rw [M.bind_def, M.calm_ok h2]
    dsimp only
    rw [List.length_cons] at hl
    cases q : p d with
    | true =>
      rw [if_pos rfl, M.bind_def, M.calm_ok (h3 q)]
      dsimp only
      rw [if_pos (by omega), compL_map hok r (acc ++ [f d]) hr (by rw [List.length_append, List.length_singleton]; omega)]
      simp [List.filter_cons, q]
    | false =>
      rw [if_neg Bool.false_ne_true, compL_map hok r acc hr (by omega)]
      simp [List.filter_cons, q]
end
noncomputable def mLc (own : List Nat) (mi : En → M ItD) (g : D → En → M En) (t : En → M Bool) (me : En → M D) (η : En) : M D := do
  let it ← mi η
  let l ← compL it.ok g t me (wipeE η own) it.its []
  pure (.lst l)
theorem wipe_none {σ : L2.St} {i : Nat} : ∀ {vs : List Nat}, i ∈ vs → (wipe σ vs).set i none = wipe σ vs
  | [], h => by cases h
  | v :: vs, h => by
    unfold wipe
    by_cases e : i = v
    · rw [e, List.set_set]
    · rcases List.mem_cons.mp h with h | h
      · exact absurd h e
      · rw [List.set_comm _ _ (Ne.symm e), wipe_none h]
theorem wipe_wipe {σ : L2.St} {vs : List Nat} : ∀ {ws : List Nat}, (∀ i ∈ ws, i ∈ vs) → wipe (wipe σ vs) ws = wipe σ vs
  | [], _ => rfl
  | w :: ws, h => by
    show (wipe (wipe σ vs) ws).set w none = wipe σ vs
    rw [wipe_wipe fun i hi => h i (List.mem_cons_of_mem _ hi), wipe_none (h w (List.mem_cons_self ..))]
theorem EnR.wipe {B : Bx} {S : Sx} {η : En} {σ : L2.St} (h : EnR B S η σ) : ∀ vs : List Nat, EnR B S (wipeE η vs) (L2.wipe σ vs)
  | [] => h
  | v :: vs => by
    have ih := EnR.wipe h vs
    refine ⟨by rw [wipeE_len, wipe_length]; exact h.len, fun i d q => ?_⟩
    unfold wipeE at q
    by_cases e : v = i
    · subst e
      rw [List.getElem?_set] at q
      split at q
      · split at q
        · cases q
        · cases q
      · exact absurd rfl ‹_›
    · rw [List.getElem?_set_ne e] at q
      unfold L2.wipe
      rw [List.getElem?_set_ne e]
      exact ih.get i d q
abbrev STs (X : Cx) (B : By) (W : WX) (es : List Expr) (m : En → M Bool) : Prop := PTs X es (rdT B W m)
theorem PTs.mono {X : Cx} {e : List Expr} {t t' : TT} (h : PTs X e t) (k : ∀ σ H Q, t' σ H Q → t σ H Q) : PTs X e t' := ⟨fun pins s σ H Q I q => h.run pins s σ H Q I (k σ H Q q)⟩
abbrev wNo : WX := fun _ _ _ _ => False
section
variable {X : Cx} {B : By} {W : WX}
theorem sts_nil : STs X B W [] (fun _ => pure true) := PTs.mono pts_nil fun σ H Q ⟨S, η, eH, r, en, p⟩ => by
  subst eH
  exact p S rfl (.refl r)
theorem sts_one {e : Expr} {m : En → M Bool} (h : ST X B W e m) : STs X B W [e] m := pts_one h
theorem lc_reads {K : PySem.W.Frag} {own vs : List Nat} {mi : En → M ItD} {g : D → En → M En} {t : En → M Bool} {me : En → M D} (hv : ∀ i ∈ vs, i ∈ own) {σ : L2.St} {H : Hp} {Q : VK} (h : rdE B W (mLc own mi g t me) σ H Q) :
    tLc (rdI B W mi) (rdG B vs g) (rdT B wNo t) (rdE B wNo me) own σ H Q := by
  obtain ⟨S, η, rfl, r, en, p⟩ := h
  refine ⟨S, η, rfl, r, en, Post.imp (Post.bind p) fun it S1 n1 p1 J rj D hD => ?_⟩
  have P1 : Post B (fun c d H' => W c d σ H') S1 (fun l S' => ∀ v, Rep B.toBx S' (.lst l) v → Q v S'.H) (compL it.ok g t me (wipeE η own) it.its [] S1.A) :=
    Post.imp (Post.bind p1) fun l S2 n2 p2 v rv => p2 S2 rfl (.refl n2.rel) v rv
  clear p1
  refine ⟨fun i m H => m = it.its.length - i ∧ i ≤ it.its.length ∧ ∃ S2 acc ws, S2.H = H ∧ Nxt B.toBx S1 S2 ∧ D ∈ S2.T ∧ S2.H D = some (.lst ws) ∧ RepL B.toBx S2 acc ws ∧
    Post B (fun c d H' => W c d σ H') S1 (fun l S' => ∀ v, Rep B.toBx S' (.lst l) v → Q v S'.H) (compL it.ok g t me (wipeE η own) (it.its.drop i) acc S2.A),
    ⟨_, rfl, Nat.zero_le _, S1.scr D (.lst []), [], [], rfl, .scr n1.rel hD trivial (fun _ z => nomatch z), List.mem_cons_self .., upd_same, .nil, P1⟩, ?_⟩
  rintro i m H ⟨rfl, hi, S2, acc, ws, rfl, n2, hT, hH, ra, p2⟩
  by_cases ok : it.ok S2.A
  case neg => rw [compL_bad ok] at p2; exact p2.elim
  obtain ⟨h1, h2⟩ := rj S2 n2 ok
  by_cases hi2 : i = it.its.length
  · subst hi2
    rw [List.drop_length, compL_nil ok] at p2
    exact .inl ⟨h2, p2 (Sx.done S1 S2) rfl (.done n2) _ (.lst hH (nlive_done n1.rel n2 hD hT) (ra.ext0 (.done n2)))⟩
  · have hlt : i < it.its.length := by omega
    obtain ⟨g1, g2⟩ := h1 (it.its[i]) i (List.getElem?_eq_getElem hlt)
    rw [List.drop_eq_getElem_cons hlt, compL_cons ok] at p2
    refine .inr ⟨g1, fun H' => ∃ S3 acc' ws', S3.H = H' ∧ Nxt B.toBx S1 S3 ∧ D ∈ S3.T ∧ S3.H D = some (.lst ws') ∧ RepL B.toBx S3 acc' ws' ∧
      Post B (fun c d H' => W c d σ H') S1 (fun l S' => ∀ v, Rep B.toBx S' (.lst l) v → Q v S'.H) (compL it.ok g t me (wipeE η own) (it.its.drop (i + 1)) acc' S3.A), ?_, ?_⟩
    · rintro H' ⟨S3, acc', ws', rfl, q⟩
      exact ⟨_, by show it.its.length - (i + 1) < _; omega, rfl, hlt, S3, acc', ws', rfl, q⟩
    · intro x H' hy
      obtain ⟨S3, eA, rfl, n3, r3⟩ := g2 x H' hy
      rw [← eA] at p2
      have en3 : EnR B.toBx S3 (wipeE η own) (wipe σ own) := (EnR.ext (n1.ext.trans (n2.ext.trans n3.ext)) en).wipe own
      refine ⟨S3, wipeE η own, it.its[i], rfl, n3.rel, en3, r3, Post.imp (Post.step p2) fun η4 S4 n4 p4 σ4 en4 hw => ⟨?_, ?_⟩⟩
      · rw [hw own fun i hi => hv i hi]
        exact wipe_wipe fun i hi => hi
      · refine ⟨S4, η4, rfl, n4.rel, en4, Post.imp (Post.step p4) fun b S5 n5 p5 => ?_⟩
        have n25 : Nxt B.toBx S2 S5 := n3.trans (n4.trans n5)
        cases b with
        | false =>
          rw [if_neg Bool.false_ne_true] at p5
          exact ⟨S5, acc, ws, rfl, n2.trans n25, (n25.ext.scr D hT).1, (n25.ext.scr D hT).2 _ hH, ra.ext n25.ext, p5⟩
        | true =>
          rw [if_pos rfl] at p5
          refine ⟨S5, η4, rfl, n5.rel, en4.ext n5.ext, Post.imp (Post.step p5) fun y S6 n6 p6 v rv => ?_⟩
          have n26 : Nxt B.toBx S2 S6 := n25.trans n6
          have hT6 := (n26.ext.scr D hT).1
          have hH6 := (n26.ext.scr D hT).2 _ hH
          split at p6
          · rename_i hz
            have ra6 := ra.ext n26.ext
            refine ⟨ws, hH6, by rw [← ra.length]; exact hz, S6.grow D (.lst (ws ++ [v])), acc ++ [y], ws ++ [v], rfl, Nxt.grow (n2.trans n26) hD hT6 trivial (fun _ z => nomatch z), hT6, upd_same, ?_, p6⟩
            exact (RepL.append ra6 (.cons rv .nil)).ext0 (.grow n6.rel hT6)
          · exact p6.elim
variable {tg iter elt : Expr} {ifs : List Expr} {scope : Scope} {own : List (Str × Nat)} {vs : List Nat} {pos : Pos} {mi : En → M ItD} {g : D → En → M En} {t : En → M Bool} {me : En → M D}
/-- [elt for tg in iter if ..] -/
theorem se_lc (hc : X.calm = true) (hN : X.N.Nodup) (hi : SI X B W tg iter mi) (ok : BlkOk X.N X.env.scope scope own) (hv : ∀ i ∈ vs, i ∈ own.map (·.2))
    (hg : ∀ (s : Shared) (H : Hp) (C : Addr) (cl : List (Str × Addr)) (fp : List Addr), SG (X.blk s H scope (compEnvC scope cl C X.env) fp) B vs tg g)
    (ht : ∀ (s : Shared) (H : Hp) (C : Addr) (cl : List (Str × Addr)) (fp : List Addr), STs (X.blk s H scope (compEnvC scope cl C X.env) fp) B wNo ifs t)
    (he : ∀ (s : Shared) (H : Hp) (C : Addr) (cl : List (Str × Addr)) (fp : List Addr), SE (X.blk s H scope (compEnvC scope cl C X.env) fp) B wNo elt me)
    (hs : ∀ x, foldedSetIterable iter X.env x = pure x) : SE X B W (.ListComp elt [⟨tg, iter, ifs, 0⟩] scope pos) (mLc (own.map (·.2)) mi g t me) :=
  PE.mono (pe_lc hc hN hi ok hg ht he hs) fun σ H Q h => lc_reads (K := X.K) hv h
/-- y = [elt for tg in iter if ..] on one line -/
theorem ss_setLc {i : Nat} {y : Str} {py spos : Pos} (hc : X.calm = true) (hN : X.N.Nodup) (hy : X.N[i]? = some y) (hyl : X.env.scope.names.lookup y = some .local)
    (hsw : swapsWith (.ListComp elt [⟨tg, iter, ifs, 0⟩] scope pos) (some (.Name y py)) spos.line X.env = pure true) (hi : SI X B W tg iter mi) (ok : BlkOk X.N X.env.scope scope own) (hv : ∀ i ∈ vs, i ∈ own.map (·.2))
    (hg : ∀ (s : Shared) (H : Hp) (C : Addr) (cl : List (Str × Addr)) (fp : List Addr), SG (X.blk s H scope (compEnvC scope cl C X.env) fp) B vs tg g)
    (ht : ∀ (s : Shared) (H : Hp) (C : Addr) (cl : List (Str × Addr)) (fp : List Addr), STs (X.blk s H scope (compEnvC scope cl C X.env) fp) B wNo ifs t)
    (he : ∀ (s : Shared) (H : Hp) (C : Addr) (cl : List (Str × Addr)) (fp : List Addr), SE (X.blk s H scope (compEnvC scope cl C X.env) fp) B wNo elt me)
    (hs : ∀ x, foldedSetIterable iter X.env x = pure x) :
    SS X B W (.Assign [.Name y py] (.ListComp elt [⟨tg, iter, ifs, 0⟩] scope pos) spos) (fun η => do let d ← mLc (own.map (·.2)) mi g t me η; pure (η.set i (some d), .nx)) :=
  PS.monoI (ps_setLc hc hN hy hyl hsw hi ok hg ht he hs) fun Dn σ H hl ⟨S, η, eH, r, en, p⟩ => by
    subst eH
    refine lc_reads (B := B) (W := W) (K := X.K) hv ⟨S, η, rfl, r, en, Post.wany (Post.imp (Post.bind p) fun d S1 n1 p1 v rv => ?_) hl⟩
    exact p1 S1 rfl (.refl n1.rel) _ ((en.ext n1.ext).set rv i)
end
end Cr
end

section
set_option Elab.async false
set_option linter.all false
set_option maxRecDepth 100000
set_option maxHeartbeats 1000000
/-! Core, part I: subscripts, slices, stores. -/
namespace Cr
open PySem PySem.Spec PyProof.Rows L2 PySem.SeqAt

def ixSeq (A : Sto) (x y : D) : Option D := match y with
  | .int i => (seqOf A x).bind fun l => atI l i
  | _ => none
def ixDk (A : Sto) (x y : D) : Option D := match dkOf A x, keyOf y with
  | some l, some k => look l k
  | _, _ => none
def ixDn (A : Sto) (x y : D) : Option D := match dnOf A x, tkOf y with
  | some l, some k => look l k
  | _, _ => none
def opIx : Op2 := fun A x y => match ixSeq A x y with
  | some d => some d
  | none => match ixDk A x y with
    | some d => some d
    | none => ixDn A x y
theorem RepL.atI {B : Bx} {S : Sx} {l : List D} {vs : List V} (h : RepL B S l vs) {i : Int} {d : D} (e : L2.atI l i = some d) : ∃ v, L2.atI vs i = some v ∧ Rep B S d v := by
  unfold L2.atI at e ⊢
  rw [← h.length]
  cases q : ixN l.length i with
  | none => rw [q] at e; cases e
  | some j => rw [q] at e; exact h.get e

section
variable {X : Cx} {B : By} {W : WX} {a b c e : Expr} {ma mb mc : En → M D} {pos : Pos}
theorem ix_ok (hP : X.prog = B.prog) (hW : X.w = B.w) (hK : X.K = B.K) (hu : X.A.units + 64 < cLine) : IxR X (rdO B.toBx opIx) := by
  intro value slice pins s σ H x y v u Q I rx ry h hs
  obtain ⟨S, p, q, d, rfl, r, r1, r2, e, k⟩ := h
  have seqs : ixSeq S.A p q = some d → wpAny (model X.prog X.w) X.A (subscriptTail value slice v u) (EP X pins σ Q) X.xe s := by
    intro e
    unfold ixSeq at e
    split at e
    · obtain ⟨l, e1, e2⟩ := Option.bind_eq_some_iff.mp e
      cases r2
      obtain ⟨a, vs, rfl, hq, rl⟩ := seq_rep r r1 e1
      obtain ⟨w, e3, rw⟩ := rl.atI e2
      have fin := k S w rfl (.refl r) rw
      rcases hq with hq | hq
      · exact ix_list value slice pins s σ S.H _ _ v u Q I rx ry ⟨a, vs, _, w, rfl, rfl, by rw [hK]; exact hq, e3, fin⟩ hs
      · exact ix_tup value slice pins s σ S.H _ _ v u Q I rx ry ⟨a, vs, _, w, rfl, rfl, by rw [hK]; exact hq, e3, fin⟩ hs
    · cases e
  have dks : ixDk S.A p q = some d → wpAny (model X.prog X.w) X.A (subscriptTail value slice v u) (EP X pins σ Q) X.xe s := by
    intro e
    unfold ixDk at e
    split at e
    · rename_i l ky e1 e2
      obtain ⟨a, kvs, rfl, ha, rk⟩ := dk_rep r r1 e1
      have hx := key_rep r2 e2
      subst hx
      cases rx
      obtain ⟨w, hw, rw⟩ := rk.look.1 d e
      have g : DGet S.H a (kV ky) (some w) := .inl ⟨kvs, ky, ha, rfl, hw.symm⟩
      exact tail_any (ops := [.ref a, u]) (dict_typeIs I g) PySem.F.slot_dict_getitem.lookup (d_getItem (by omega) I g ry fun w' s3 I3 rw' => ⟨w, S.H, I3, rw', k S w rfl (.refl r) rw⟩) hs
    · cases e
  have dns : ixDn S.A p q = some d → wpAny (model X.prog X.w) X.A (subscriptTail value slice v u) (EP X pins σ Q) X.xe s := by
    intro e
    unfold ixDn at e
    split at e
    · rename_i l ky e1 e2
      obtain ⟨a, xs, rfl, ha, nd, rn⟩ := dn_rep r r1 e1
      obtain ⟨ka, rfl, hk, h8⟩ := tk_rep r2 e2
      cases rx
      cases ry
      obtain ⟨hs', hz, dd⟩ := dn_at hP hW hK I ha nd rn
      obtain ⟨kb, w', v', e3, rv, rd⟩ := rn.look.1 d e
      exact tail_any (ops := [.ref a, .ref ka]) dd.typeIs PySem.F.slot_dict_getitem.lookup (wpAny_getItem_heap (nroom hu) (keyIs8 hK I hk h8) dd e3 ⟨v', S.H, I.tok _, rv, k S v' rfl (.refl r) rd⟩) hs
    · cases e
  unfold opIx at e
  cases q1 : ixSeq S.A p q with
  | some d' => rw [q1] at e; cases e; exact seqs q1
  | none =>
    rw [q1] at e
    dsimp only at e
    cases q2 : ixDk S.A p q with
    | some d' => rw [q2] at e; cases e; exact dks q2
    | none => rw [q2] at e; exact dns e
theorem se_ix (hr : IxR X (rdO B.toBx opIx)) (ha : SE X B W a ma) (hb : SE X B W b mb) (hs : PlainIx b) : SE X B W (.Subscript a b pos) (fun η => do let x ← ma η; let y ← mb η; do2 opIx x y) :=
  PE.mono (pe_ix hr ha hb hs) fun σ H Q h => two_val h

/-! ### slices with written parts -/
def tCo (o : Option Int) : TO := fun _ H Q => Q o H
abbrev PCo (X : Cx) (e : Option Expr) (o : Option Int) : Prop := PO X e (tCo o)
theorem PO.mono {e : Option Expr} {t t' : TO} (h : PO X e t) (k : ∀ σ H Q, t' σ H Q → t σ H Q) : PO X e t' := ⟨fun pins s σ H Q I q => h.run pins s σ H Q I (k σ H Q q)⟩
theorem pco_none : PCo X none none := po_none
theorem pco_int {i : Int} {j : Nat} : PCo X (some (.Constant (.int i) j pos)) (some i) := PO.mono (po_some pe_int) fun σ H Q q => ⟨i, rfl, q⟩
theorem pco_neg {i : Int} {j : Nat} {pos' : Pos} : PCo X (some (.UnaryOp .USub (.Constant (.int i) j pos) pos')) (some (-i)) :=
  PO.mono (po_some (pe_un un_neg pe_int)) fun σ H Q q => ⟨i, rfl, -i, rfl, q⟩
/-- the items of a slice -/
def pickL {α : Type} (xs : List α) (lo hi st : Option Int) : List α :=
  (sliceRange (sliceBounds lo hi st xs.length).1 (sliceBounds lo hi st xs.length).2.1 (sliceBounds lo hi st xs.length).2.2).filterMap (xs[·]?)
def opSl (lo hi st : Option Int) : Op1 := fun A x => match x with
  | .str z => if st = none ∧ z.length ≤ sizeLine then some (.str (cutS z lo hi)) else none
  | x => match lstOf A x with
    | some l => if st ≠ some 0 ∧ (pickL l lo hi st).length ≤ sizeLine then some (.lst (pickL l lo hi st)) else none
    | none => none
theorem vals_pick {vs : List V} {us : List Value} (h : Vals vs us) : ∀ ix : List Nat, Vals (ix.filterMap (vs[·]?)) (ix.filterMap (us[·]?))
  | [] => .nil
  | i :: ix => by
    rw [List.filterMap_cons, List.filterMap_cons]
    cases q : vs[i]? with
    | none =>
      have : us[i]? = none := by
        rw [List.getElem?_eq_none_iff] at q ⊢
        rw [← h.length]; exact q
      rw [this]
      exact vals_pick h ix
    | some v =>
      obtain ⟨u, e, r⟩ := h.get q
      rw [e]
      exact .cons r (vals_pick h ix)
theorem RepL.pick {S : Sx} {l : List D} {vs : List V} (h : RepL B.toBx S l vs) : ∀ ix : List Nat, RepL B.toBx S (ix.filterMap (l[·]?)) (ix.filterMap (vs[·]?))
  | [] => .nil
  | i :: ix => by
    rw [List.filterMap_cons, List.filterMap_cons]
    cases q : l[i]? with
    | none =>
      have : vs[i]? = none := by
        rw [List.getElem?_eq_none_iff] at q ⊢
        rw [← h.length]; exact q
      rw [this]
      exact RepL.pick h ix
    | some v =>
      obtain ⟨u, e, r⟩ := h.get q
      rw [e]
      exact .cons r (RepL.pick h ix)
theorem pick_arr (its : List Value) (lo hi st : Option Int) : slicePick its.toArray lo hi st = (pickL its lo hi st).toArray := by
  unfold slicePick pickL
  rw [List.size_toArray]
  congr 1
  apply congrArg (fun f => List.filterMap f _)
  funext i
  simp
theorem se_sl {lo hi st : Option Expr} {l u t : Option Int} {p2 : Pos} (hK : X.K = B.K) (ha : SE X B W a ma) (hl : PCo X lo l) (hu : PCo X hi u) (ht : PCo X st t) (hsub : ∀ o i, ∃ ops, subscripted (.Slice lo hi st p2) false o i = operate ops (getItem o i)) :
    SE X B W (.Subscript a (.Slice lo hi st p2) pos) (fun η => do let x ← ma η; do1 (opSl l u t) x) := by
  refine ⟨fun pins s σ H Q I h => ?_⟩
  obtain ⟨S, η, rfl, r, en, p⟩ := h
  refine Subscript_ (thn (ha.run pins s σ S.H (fun x H1 => rdU B.toBx (opSl l u t) x H1 Q) I ⟨S, η, rfl, r, en, Post.imp (Post.bind p) fun x S1 n1 p1 v1 r1 => ?_⟩) fun v s1 ⟨x, H1, I1, r1, q1⟩ => ?_)
  · obtain ⟨d, hd, p3⟩ := p1.opt n1.rel
    exact ⟨S1, x, d, rfl, n1.rel, r1, hd, fun S' v e n rv => p3 S' e n v rv⟩
  obtain ⟨S1, d, d', rfl, rl1, rd, hop, k⟩ := q1
  refine wpAny_Slice (thn (hl.run pins s1 σ S1.H (fun o H' => o = l ∧ H' = S1.H) I1 ⟨rfl, rfl⟩) fun vl s2 ⟨o', H', I2, pl, e1, e2⟩ => ?_)
  rw [e1] at pl
  rw [e2] at I2
  clear e1 e2
  refine thn (hu.run pins s2 σ S1.H (fun o H' => o = u ∧ H' = S1.H) I2 ⟨rfl, rfl⟩) fun vu s3 ⟨o', H', I3, pu, e1, e2⟩ => ?_
  rw [e1] at pu
  rw [e2] at I3
  clear e1 e2
  refine thn (ht.run pins s3 σ S1.H (fun o H' => o = t ∧ H' = S1.H) I3 ⟨rfl, rfl⟩) fun vs s4 ⟨o', H', I4, ps, e1, e2⟩ => ?_
  rw [e1] at ps
  rw [e2] at I4
  clear e1 e2
  have I5 : Inv X pins σ S1.H { s4 with heap := s4.heap.push { cls := .type "slice", data := .fields #[vl, vu, vs] } } := I4.kept (t' := s4.toks) fun b ob q => Heap.get?_push_of_some _ q
  show wpAny (model X.prog X.w) X.A (subscriptTail a (.Slice lo hi st p2) v (.ref s4.heap.objs.size)) (EP X pins σ Q) X.xe { s4 with heap := s4.heap.push { cls := .type "slice", data := .fields #[vl, vu, vs] } }
  unfold opSl at hop
  split at hop
  · rename_i z
    split at hop
    · rename_i hz
      obtain ⟨ht0, hz⟩ := hz
      subst ht0
      cases hop
      cases rd
      cases ps
      obtain ⟨T, id, hT, hty, hg⟩ := sl_str pins _ σ S1.H (.str z) v vl vu _ _ s4.heap.objs.size Q I5 r1 (Heap.IsSliceOf.new ..) pl pu ⟨z, rfl, hz, k S1 _ rfl (.refl rl1) (.str _)⟩
      obtain ⟨ops, hsub⟩ := hsub v (.ref s4.heap.objs.size)
      exact tail_any (ops := ops) hty hT hg hsub
    · cases hop
  · split at hop
    · rename_i l0 e1
      split at hop
      · rename_i hz
        cases hop
        obtain ⟨a, vs, rfl, ha, rl⟩ := lst_rep rl1 rd e1
        cases r1
        obtain ⟨its, rv, pl', hz'⟩ := I5.list (.inl (.inl ha))
        obtain ⟨ops, hsub⟩ := hsub (.ref a) (.ref s4.heap.objs.size)
        refine tail_any (ops := ops) pl'.isList.typeIs slot_list_getitem.lookup ?_ hsub
        have hlen := rv.length
        refine wpAny_getItem_list_slice pl'.isList (Heap.IsSliceOf.new _ _ _ _) pl pu ps hz.1 ?_ (by rw [List.size_toArray]; omega)
        rw [pick_arr]
        have rp : Vals (pickL vs l u t) (pickL its l u t) := by
          unfold pickL
          rw [hlen]
          exact vals_pick rv _
        have rq : RepL B.toBx S1 (pickL l0 l u t) (pickL vs l u t) := by
          unfold pickL
          rw [rl.length]
          exact rl.pick _
        refine ⟨.ref _, _, I5.laid (t' := s4.toks) (o := .lst (pickL vs l u t)) (fun b ob q => Heap.get?_push_of_some _ q) (Nat.le_refl _) ?_, rfl, new_lst rl1 rq k (I5.hok.fresh (Nat.le_refl _))⟩
        exact ⟨by rw [← rq.length]; exact hz.2, _, 0, rp, Heap.get?_push_size _ rfl⟩
      · cases hop
    · cases hop
end
end Cr
end

section
set_option Elab.async false
set_option linter.all false
set_option maxRecDepth 100000
set_option maxHeartbeats 1000000
/-! Core, part J: stores. -/
namespace Cr
open PySem PySem.Spec PyProof.Rows L2 PySem.SeqAt

section
variable {B : Bx} {S : Sx}
theorem RepK.map_put {k : Key} {d : D} {v : V} (r : Rep B S d v) : ∀ {l : List (Key × D)} {kvs : List (Key × V)}, RepK B S l kvs → RepK B S (l.map fun p => if p.1 = k then (p.1, d) else p) (kvs.map fun p => if p.1 = k then (p.1, v) else p)
  | _, _, .nil => .nil
  | _, _, .cons (k := j) h t => by
    rw [List.map_cons, List.map_cons]
    by_cases e : j = k
    · simp only [e, if_true]; exact .cons r (RepK.map_put r t)
    · simp only [e, if_false]; exact .cons h (RepK.map_put r t)
theorem RepK.snoc {k : Key} {d : D} {v : V} (r : Rep B S d v) : ∀ {l : List (Key × D)} {kvs : List (Key × V)}, RepK B S l kvs → RepK B S (l ++ [(k, d)]) (kvs ++ [(k, v)])
  | _, _, .nil => .cons r .nil
  | _, _, .cons h t => .cons h (RepK.snoc r t)
theorem RepK.any {k : Key} : ∀ {l : List (Key × D)} {kvs : List (Key × V)}, RepK B S l kvs → (kvs.any fun p => decide (p.1 = k)) = (l.any fun p => decide (p.1 = k))
  | _, _, .nil => rfl
  | _, _, .cons h t => by rw [List.any_cons, List.any_cons, RepK.any t]
theorem RepK.length {l : List (Key × D)} {kvs : List (Key × V)} (h : RepK B S l kvs) : l.length = kvs.length := by
  induction l generalizing kvs with
  | nil => cases h; rfl
  | cons p l ih => cases h with
    | cons r t => rw [List.length_cons, List.length_cons, ih t]
theorem RepK.put {l : List (Key × D)} {kvs : List (Key × V)} (h : RepK B S l kvs) (k : Key) {d : D} {v : V} (r : Rep B S d v) : RepK B S (Cr.put l k d) (putK kvs k v) := by
  unfold Cr.put putK
  rw [h.any]
  split
  · exact h.map_put r
  · exact h.snoc r
theorem RepN.map_put {k : NestedKey} {d : D} {v : V} {u : Value} (r : Rep B S d v) (rv : RelV v u) : ∀ {l : List (NestedKey × D)} {xs : Raw}, RepN B S l xs → RepN B S (l.map fun p => if p.1 = k then (p.1, d) else p) (xs.map (putAt k u))
  | _, _, .nil => .nil
  | _, _, .cons (k := j) k1 k2 h q t => by
    rw [List.map_cons, List.map_cons]
    unfold putAt
    by_cases e : j = k
    · simp only [e, if_true]; exact .cons (e ▸ k1) (e ▸ k2) r rv (RepN.map_put r rv t)
    · simp only [e, if_false]; exact .cons k1 k2 h q (RepN.map_put r rv t)
theorem RepN.snoc {k : NestedKey} {d : D} {v : V} {u : Value} {ka : Addr} (k1 : KeyAt B.K S.H k (.ref ka)) (k2 : k.depth ≤ 8) (r : Rep B S d v) (rv : RelV v u) : ∀ {l : List (NestedKey × D)} {xs : Raw}, RepN B S l xs → RepN B S (l ++ [(k, d)]) (xs ++ [(k, ka, u)])
  | _, _, .nil => .cons k1 k2 r rv .nil
  | _, _, .cons a b h q t => .cons a b h q (RepN.snoc k1 k2 r rv t)
theorem look_any {κ : Type} [DecidableEq κ] (l : List (κ × D)) (k : κ) : (l.any fun p => decide (p.1 = k)) = (look l k).isSome := by
  induction l with
  | nil => rfl
  | cons p l ih =>
    rw [List.any_cons, ih]
    unfold look
    rw [List.find?_cons]
    by_cases e : p.1 = k
    · simp [e]
    · simp [e]
theorem RepN.put {l : List (NestedKey × D)} {xs : Raw} (h : RepN B S l xs) {k : NestedKey} {ka : Addr} (k1 : KeyAt B.K S.H k (.ref ka)) (k2 : k.depth ≤ 8) {d : D} {v : V} {u : Value} (r : Rep B S d v) (rv : RelV v u) : RepN B S (Cr.put l k d) (storedH xs k ka u) := by
  unfold Cr.put storedH
  rw [look_any, ← h.look_isSome]
  split
  · exact h.map_put r rv
  · exact h.snoc k1 k2 r rv
theorem RepN.length {l : List (NestedKey × D)} {xs : Raw} (h : RepN B S l xs) : l.length = xs.length := by
  have := congrArg List.length h.keys
  simpa using this.symm
end
theorem put_keys {κ : Type} [DecidableEq κ] (l : List (κ × D)) (k : κ) (d : D) (h : (l.map (·.1)).Nodup) : ((put l k d).map (·.1)).Nodup := by
  unfold put
  split
  · have : (l.map fun p => if p.1 = k then (p.1, d) else p).map (·.1) = l.map (·.1) := by
      rw [List.map_map]
      apply List.map_congr_left
      intro p _
      by_cases e : p.1 = k <;> simp [e]
    rw [this]; exact h
  · rename_i hn
    rw [List.map_append, List.map_cons, List.map_nil]
    rw [List.nodup_append]
    refine ⟨h, by simp, fun a ha b hb z => ?_⟩
    rw [List.mem_singleton] at hb
    subst hb z
    obtain ⟨p, hp, e⟩ := List.mem_map.mp ha
    exact hn (List.any_eq_true.mpr ⟨p, hp, by simpa using e⟩)
theorem put_len {κ : Type} [DecidableEq κ] (l : List (κ × D)) (k : κ) (d : D) : (put l k d).length ≤ l.length + 1 := by
  unfold put
  split
  · rw [List.length_map]; omega
  · rw [List.length_append]; simp

/-! ### o[i] = v -/
abbrev Op3 := Sto → D → D → D → Option Sto
def opSet : Op3 := fun A x y z => match x with
  | .ref n => match A[n]? with
    | some (.lst l) => match y with
      | .int k => (ixN l.length k).map fun j => A.set n (.lst (l.set j z))
      | _ => none
    | some (.dk l) => (keyOf y).bind fun k => if l.length < sizeLine then some (A.set n (.dk (put l k z))) else none
    | some (.dn l) => (tkOf y).bind fun k => if l.length < sizeLine then some (A.set n (.dn (put l k z))) else none
    | _ => none
  | _ => none
def rdSet (B : Bx) (op : Op3) : TSet := fun o i v H Q => ∃ S p q z A', S.H = H ∧ Rel B S ∧ Rep B S p o ∧ Rep B S q i ∧ Rep B S z v ∧ op S.A p q z = some A' ∧ ∀ S', S'.A = A' → Nxt B S S' → Q S'.H
section
variable {X : Cx} {B : By} {W : WX} {a b c e : Expr} {ma mb mc : En → M D} {pos : Pos}
theorem raw_ok {P : Program} {w : World} {H : Hp} {h : Heap} {a : Addr} {xs : Raw} (hs : (a == sysModules) = false) (hz : xs.length ≤ sizeLine) (d : h.DictOfH (nestedKind P w) a xs) : ObjOk P w H h a (rawD P w a xs) := by
  obtain ⟨o, es, ep, h1, h2, h3, h4, _, _⟩ := d
  refine ⟨⟨hs, hz, o, es, ep, h1, h2, h3, h4⟩, ⟨o, h1⟩, ?_⟩
  rintro h1 h2 ⟨a1, a2, o', es', ep', b1, b2⟩ k
  exact ⟨a1, a2, o', es', ep', k _ b1, b2⟩
theorem set_ok (hP : X.prog = B.prog) (hW : X.w = B.w) (hK : X.K = B.K) (hu : X.A.units + 64 < cLine) : PSet X (rdSet B.toBx opSet) := by
  intro pins s σ H o i v ov iv u Q I ro ri rv h
  obtain ⟨S, p, q, z, A', rfl, r, r1, r2, r3, e, k⟩ := h
  unfold opSet at e
  split at e
  · rename_i n
    split at e
    · rename_i l hn
      split at e
      · obtain ⟨j, hj, rfl⟩ := Option.map_eq_some_iff.mp e
        obtain ⟨vs, hH, rl⟩ := r.obj n _ hn
        cases r1
        cases r2
        have nx : Nxt B.toBx S (S.upd n (.lst (vs.set j v)) (.lst (l.set j z))) := .upd r hn (fun z => nomatch z) ⟨_, upd_same, ((rl.set r3 j).ext (.upd r hn (fun z => nomatch z)))⟩
        refine set_list pins s σ S.H _ _ _ ov iv u Q I ro ri rv ⟨_, vs, _, j, rfl, rfl, hH, by rw [← rl.length]; exact hj, k _ rfl nx⟩
      · cases e
    · rename_i l hn
      obtain ⟨ky, hk, e⟩ := Option.bind_eq_some_iff.mp e
      split at e
      · rename_i hz
        cases e
        obtain ⟨kvs, hH, rl⟩ := r.obj n _ hn
        cases r1
        have hx := key_rep r2 hk
        subst hx
        cases ro
        have nx : Nxt B.toBx S (S.upd n (.dK (putK kvs ky v)) (.dk (put l ky z))) := .upd r hn (fun z => nomatch z) ⟨_, upd_same, ((rl.put ky r3).ext (.upd r hn (fun z => nomatch z)))⟩
        exact d_setItem (by omega) I (DPut.k (k := ky) (v := v) hH (by rw [← rl.length]; exact hz)) ri rv fun s' I' => ⟨_, I', k _ rfl nx⟩
      · cases e
    · rename_i l hn
      obtain ⟨ky, hk, e⟩ := Option.bind_eq_some_iff.mp e
      split at e
      · rename_i hz
        cases e
        obtain ⟨xs, hH, nd, rn⟩ := r.obj n _ hn
        cases r1
        obtain ⟨ka, rfl, k1, k2⟩ := tk_rep r2 hk
        cases ro
        cases ri
        obtain ⟨hs, hz', dd⟩ := dn_at hP hW hK I (.inl hH) nd rn
        have hlen := rn.length
        have hl2 : (storedH xs ky ka u).length ≤ sizeLine := by
          rw [← (rn.put k1 k2 r3 rv).length]
          have := put_len l ky z
          omega
        refine wpAny_setItem_heap (hsz := hz') (nroom hu) (keyIs8 hK I k1 k2) dd fun h' dd' hs' => ?_
        obtain ⟨ob, es, ep, hq, _⟩ := id dd'
        have new := raw_ok (H := L2.upd S.H (S.rho n) (rawD X.prog X.w (S.rho n) (storedH xs ky ka u))) hs hl2 dd'
        have I' : Inv X pins σ (L2.upd S.H (S.rho n) (rawD X.prog X.w (S.rho n) (storedH xs ky ka u))) { s with heap := h', toks := s.toks + (nestedKind X.prog X.w).draws ky } :=
          d_write I (by rw [hH]; exact True.intro) hs' ⟨ob, hq⟩ new
        have nx : Nxt B.toBx S (S.upd n (rawD B.prog B.w (S.rho n) (storedH xs ky ka u)) (.dn (put l ky z))) :=
          .upd r hn (fun z => nomatch z) ⟨_, upd_same, put_keys _ _ _ nd, ((rn.put k1 k2 r3 rv).ext (.upd r hn (fun z => nomatch z)))⟩
        rw [hP, hW] at I'
        exact ⟨_, I', k _ rfl nx⟩
      · cases e
    · cases e
  · cases e
def doSet (op : Op3) (x y z : D) : M Unit := M.optS fun A => (op A x y z).map fun A' => ((), A')
/-- a[b] = c -/
theorem ss_store {pos' : Pos} (hr : PSet X (rdSet B.toBx opSet)) (hc : SE X B W c mc) (ha : SE X B W a ma) (hb : SE X B W b mb)
    (hq : ∀ v, assign (.Subscript a b pos') X.env v = (do
      let ov ← holding [v] (eval a X.env)
      let iv ← holding [v, ov] (eval b X.env)
      standAt pos'
      holding [v, ov, iv] (setItem ov iv v)
      release [v, ov, iv] []))
    (hs : swapsWithSole [.Subscript a b pos'] c pos.line X.env = pure false) (hw : swappedStores [.Subscript a b pos'] c X.env = pure none) (h1 : (assignEach [.Subscript a b pos'] X.env).map (·.2) = [assign (.Subscript a b pos') X.env]) :
    SS X B W (.Assign [.Subscript a b pos'] c pos) (fun η => do let z ← mc η; let x ← ma η; let y ← mb η; doSet opSet x y z; pure (η, .nx)) :=
  PS.monoI (ps_asg hc (pg_sub ha hb hr hq) hs hw h1) fun Dn σ H hl ⟨S, η, eH, r, en, p⟩ => by
    subst eH
    refine ⟨S, η, rfl, r, en, Post.wany (Post.imp (Post.bind p) fun z S1 n1 p1 v1 r1 => ?_) hl⟩
    refine ⟨S1, η, rfl, n1.rel, en.ext n1.ext, Post.wany (Post.imp (Post.bind p1) fun x S2 n2 p2 v2 r2 => ?_) hl⟩
    refine ⟨S2, η, rfl, n2.rel, en.ext (n1.ext.trans n2.ext), Post.wany (Post.imp (Post.bind p2) fun y S3 n3 p3 v3 r3 => ?_) hl⟩
    obtain ⟨_, A', e, p4⟩ := (Post.bind p3).optS
    obtain ⟨A2, e2, e3⟩ := Option.map_eq_some_iff.mp e
    cases e3
    refine ⟨S3, x, y, z, A', rfl, n3.rel, r2.ext n3.ext, r3, r1.ext (n2.ext.trans n3.ext), e2, fun S4 eA n4 => ?_⟩
    subst eA
    exact p4 S4 rfl n4 S4 rfl (.refl n4.rel) σ (en.ext (n1.ext.trans (n2.ext.trans (n3.ext.trans n4.ext))))
end
end Cr
end

section
set_option Elab.async false
set_option linter.all false
set_option maxRecDepth 100000
set_option maxHeartbeats 1000000
/-! Core, part K: built-in functions. -/
namespace Cr
open PySem PySem.Spec PyProof.Rows L2 PySem.SeqAt PySem.W

/-- a built-in's promise on one value, the store stays -/
def opN1 (f : Sto → D → Option D) : OpN := fun A l => match l with
  | [d] => (f A d).map fun r => (r, A)
  | _ => none
def bLen (A : Sto) (d : D) : Option D := match d with
  | .str z => if z.length ≤ sizeLine then some (.int z.length) else none
  | d => match seqOf A d with
    | some l => some (.int l.length)
    | none => (dkOf A d).map fun l => .int l.length
def bTuple (A : Sto) (d : D) : Option D := match d with
  | .tup l => some (.tup l)
  | d => (seqOf A d).map .tup
def bStr (A : Sto) (d : D) : Option D := match d with
  | .str z => some (.str z)
  | .int i => if i.natAbs.log2 < 1920 then some (.str (toString i)) else none
  | _ => none
def bInt (A : Sto) (d : D) : Option D := match d with
  | .int i => some (.int i)
  | .bl b => some (.int (if b then 1 else 0))
  | _ => none
def blsOf : List D → Option (List Bool)
  | [] => some []
  | .bl b :: l => (blsOf l).map (b :: ·)
  | _ => none
def bAll (A : Sto) (d : D) : Option D := (lstOf A d).bind fun l => (blsOf l).map fun bs => .bl (bs.all id)
def bAny (A : Sto) (d : D) : Option D := (lstOf A d).bind fun l => (blsOf l).map fun bs => .bl (bs.any id)
def bListK (A : Sto) (d : D) : Option (List D) := match seqOf A d with
  | some l => some l
  | none => (dnOf A d).map fun l => l.map fun p => ofKey p.1
def bList (A : Sto) (d : D) : Option D := (bListK A d).map .lst
section
variable {X : Cx} {B : By}
/-- from one value -/
theorem one_ok {v : Value} {f : Sto → D → Option D} (h : ∀ (pins : List (Addr × Obj)) (s : Shared) (σ : L2.St) (S : Sx) (p d : D) (x : V) (u : Value) (Q : VK), Inv X pins σ S.H s → RelV x u → Rel B.toBx S → Rep B.toBx S p x → f S.A p = some d →
    (∀ S' w, S'.A = S.A → Nxt B.toBx S S' → Rep B.toBx S' d w → Q w S'.H) → wpAny (model X.prog X.w) X.A (call v [u]) (EP X pins σ Q) X.xe s) : CallR X v (rdN B.toBx (opN1 f)) := by
  intro pins s σ H xs us Q I r q
  obtain ⟨S, l, d, A', rfl, rel, rl, e, k⟩ := q
  unfold opN1 at e
  split at e
  · obtain ⟨d', e1, e2⟩ := Option.map_eq_some_iff.mp e
    cases e2
    cases rl with
    | cons r1 rl =>
      cases rl
      cases r with
      | cons r2 r =>
        cases r
        exact h pins s σ S _ _ _ _ Q I r2 rel r1 e1 k
  · cases e
theorem cr_len (hK : X.K = B.K) : CallR X (.builtin "len") (rdN B.toBx (opN1 bLen)) := one_ok fun pins s σ S p d x u Q I rx r r1 e k => by
  have seqs : ∀ l, seqOf S.A p = some l → d = .int l.length → wpAny (model X.prog X.w) X.A (call (.builtin "len") [u]) (EP X pins σ Q) X.xe s := by
    rintro l e1 rfl
    obtain ⟨a, vs, rfl, hq, rl⟩ := seq_rep r r1 e1
    exact call_len_seq pins s σ S.H _ _ Q I (.cons rx .nil) ⟨a, vs, rfl, by rw [hK]; exact hq, by rw [← rl.length]; exact k S _ rfl (.refl r) (.int _)⟩
  unfold bLen at e
  split at e
  · split at e
    · cases e
      cases r1
      exact call_len_str pins s σ S.H _ _ Q I (.cons rx .nil) ⟨_, rfl, by assumption, k S _ rfl (.refl r) (.int _)⟩
    · cases e
  · split at e
    · rename_i l e1
      exact seqs l e1 (Option.some.inj e).symm
    · obtain ⟨l, e1, rfl⟩ := Option.map_eq_some_iff.mp e
      obtain ⟨a, kvs, rfl, ha, rk⟩ := dk_rep r r1 e1
      cases rx
      have hl := rk.length
      exact d_len I ha fun t s' I' => ⟨.int (l.length : Nat), S.H, I', ⟨t, by rw [hl]⟩, k S _ rfl (.refl r) (.int _)⟩
theorem cr_tuple (hK : X.K = B.K) : CallR X (.type "tuple") (rdN B.toBx (opN1 bTuple)) := one_ok fun pins s σ S p d x u Q I rx r r1 e k => by
  unfold bTuple at e
  split at e
  · cases e
    cases r1 with
    | tup h rl => exact call_tuple_of pins s σ S.H _ _ Q I (.cons rx .nil) ⟨_, _, rfl, .inr ⟨by rw [hK]; exact h, k S _ rfl (.refl r) (.tup h rl)⟩⟩
  · rename_i hn
    obtain ⟨l, e1, rfl⟩ := Option.map_eq_some_iff.mp e
    obtain ⟨a, vs, rfl, hq, rl⟩ := seq_rep r r1 e1
    rcases hq with hq | hq
    · exact call_tuple_of pins s σ S.H _ _ Q I (.cons rx .nil) ⟨a, vs, rfl, .inl ⟨by rw [hK]; exact hq, fun q hq' => new_tup (d := .non) r rl k hq'⟩⟩
    · exact call_tuple_of pins s σ S.H _ _ Q I (.cons rx .nil) ⟨a, vs, rfl, .inr ⟨by rw [hK]; exact hq, k S _ rfl (.refl r) (.tup hq rl)⟩⟩
theorem cr_str : CallR X (.type "str") (rdN B.toBx (opN1 bStr)) := one_ok fun pins s σ S p d x u Q I rx r r1 e k => by
  unfold bStr at e
  split at e
  · cases e
    cases r1
    exact SkE.call_str_str pins s σ S.H _ _ Q I (.cons rx .nil) ⟨_, rfl, k S _ rfl (.refl r) (.str _)⟩
  · split at e
    · cases e
      cases r1
      exact call_str_int pins s σ S.H _ _ Q I (.cons rx .nil) ⟨_, rfl, by assumption, k S _ rfl (.refl r) (.str _)⟩
    · cases e
  · cases e
theorem cr_int : CallR X (.type "int") (rdN B.toBx (opN1 bInt)) := one_ok fun pins s σ S p d x u Q I rx r r1 e k => by
  unfold bInt at e
  split at e
  · cases e
    cases r1
    exact call_int1 pins s σ S.H _ _ Q I (.cons rx .nil) (.inl ⟨_, rfl, k S _ rfl (.refl r) (.int _)⟩)
  · cases e
    cases r1
    exact call_int1 pins s σ S.H _ _ Q I (.cons rx .nil) (.inr ⟨_, rfl, k S _ rfl (.refl r) (.int _)⟩)
  · cases e
theorem bls_rep {S : Sx} : ∀ {l : List D} {vs : List V} {bs : List Bool}, RepL B.toBx S l vs → blsOf l = some bs → vs = bs.map V.bl
  | [], _, _, h, e => by cases h; cases e; rfl
  | .bl b :: l, _, _, h, e => by
    rw [blsOf] at e
    obtain ⟨bs, e1, rfl⟩ := Option.map_eq_some_iff.mp e
    cases h with
    | cons h t =>
      cases h
      rw [bls_rep t e1]; rfl
  | .non :: _, _, _, _, e => by cases e
  | .int _ :: _, _, _, _, e => by cases e
  | .str _ :: _, _, _, _, e => by cases e
  | .tup _ :: _, _, _, _, e => by cases e
  | .lst _ :: _, _, _, _, e => by cases e
  | .scr _ :: _, _, _, _, e => by cases e
  | .dk _ :: _, _, _, _, e => by cases e
  | .dn _ :: _, _, _, _, e => by cases e
  | .ref _ :: _, _, _, _, e => by cases e
theorem cr_allD (hc : X.calm = true) (hK : X.K = B.K) : CallR X (.builtin "all") (rdN B.toBx (opN1 bAll)) := one_ok fun pins s σ S p d x u Q I rx r r1 e k => by
  unfold bAll at e
  obtain ⟨l, e1, e⟩ := Option.bind_eq_some_iff.mp e
  obtain ⟨bs, e2, rfl⟩ := Option.map_eq_some_iff.mp e
  obtain ⟨a, vs, rfl, ha, rl⟩ := lst_rep r r1 e1
  have := bls_rep rl e2
  subst this
  exact cr_all hc pins s σ S.H _ _ Q I (.cons rx .nil) ⟨a, bs, rfl, .inl (.inl ha), k S _ rfl (.refl r) (.bl _)⟩
theorem cr_anyD (hc : X.calm = true) (hK : X.K = B.K) : CallR X (.builtin "any") (rdN B.toBx (opN1 bAny)) := one_ok fun pins s σ S p d x u Q I rx r r1 e k => by
  unfold bAny at e
  obtain ⟨l, e1, e⟩ := Option.bind_eq_some_iff.mp e
  obtain ⟨bs, e2, rfl⟩ := Option.map_eq_some_iff.mp e
  obtain ⟨a, vs, rfl, ha, rl⟩ := lst_rep r r1 e1
  have := bls_rep rl e2
  subst this
  exact cr_any hc pins s σ S.H _ _ Q I (.cons rx .nil) ⟨a, bs, rfl, .inl (.inl ha), k S _ rfl (.refl r) (.bl _)⟩
/-! ### list(..) -/
mutual
theorem ofKey_rep {S : Sx} : ∀ {k : NestedKey} {v : V}, KeyAt B.K S.H k v → Rep B.toBx S (ofKey k) v
  | _, _, .non => by rw [ofKey]; exact .non
  | _, _, .int i => by rw [ofKey]; exact .int i
  | _, _, .str x => by rw [ofKey]; exact .str x
  | _, _, .tup h l => by rw [ofKey]; exact .tup h (ofKeys_rep l)
theorem ofKeys_rep {S : Sx} : ∀ {ks : List NestedKey} {vs : List V}, KeyAtL B.K S.H ks vs → RepL B.toBx S (ofKey.ofKeys ks) vs
  | _, _, .nil => by rw [ofKey.ofKeys]; exact .nil
  | _, _, .cons h t => by rw [ofKey.ofKeys]; exact .cons (ofKey_rep h) (ofKeys_rep t)
end
theorem RepN.keysD {S : Sx} : ∀ {l : List (NestedKey × D)} {xs : Raw}, RepN B.toBx S l xs → RepL B.toBx S (l.map fun p => ofKey p.1) (xs.map fun x => V.ref x.2.1)
  | _, _, .nil => .nil
  | _, _, .cons k1 k2 h r t => .cons (ofKey_rep k1) (RepN.keysD t)
theorem cr_list_any (hP : X.prog = B.prog) (hW : X.w = B.w) (hc : X.calm = true) (hK : X.K = B.K) {pins : List (Addr × Obj)} {s : Shared} {σ : L2.St} {S : Sx} {p : D} {x : V} {u : Value} {Q : VK} {l : List D} (I : Inv X pins σ S.H s) (rx : RelV x u) (r : Rel B.toBx S) (r1 : Rep B.toBx S p x) (e : bListK S.A p = some l)
    (k : ∀ vs q, RepL B.toBx S l vs → S.H q = none → Q (.ref q) (upd S.H q (.lst vs))) : wpAny (model X.prog X.w) X.A (call (.type "list") [u]) (EP X pins σ Q) X.xe s := by
  unfold bListK at e
  split at e
  · rename_i l0 e1
    cases e
    obtain ⟨a, vs, rfl, hq, rl⟩ := seq_rep r r1 e1
    exact call_list_of pins s σ S.H _ _ Q I (.cons rx .nil) ⟨a, vs, rfl, by rw [hK]; exact hq, fun q hq' => k vs q rl hq'⟩
  · obtain ⟨l0, e1, rfl⟩ := Option.map_eq_some_iff.mp e
    obtain ⟨a, xs, rfl, ha, nd, rn⟩ := dn_rep r r1 e1
    cases rx
    obtain ⟨hs, hz, dd⟩ := dn_at hP hW hK I ha nd rn
    obtain ⟨o, es, ep, h1, h2, h3, h4, h5, h6⟩ := dd
    have hsz : es.size = xs.length := by
      have := congrArg List.length h4
      simpa using this
    refine PySem.W.kdl_call (L2.kdl_raw (es := es) (ep := ep) hs h2 h3) (I.ok.hd hc) h1 (by rw [hsz]; exact hz) fun h' tk acc' c' hkeep hS hacc => ?_
    have rl := rn.keysD
    have hv : Vals (xs.map fun x => V.ref x.2.1) acc'.toList := by
      refine L2.vals_of_at (by simp [hacc.1, hsz]) fun j y w g1 g2 => ?_
      obtain ⟨en, g3, rfl⟩ := hacc.2 j w (by rw [← Array.getElem?_toList]; exact g2)
      rw [List.getElem?_map] at g1
      obtain ⟨z, g4, rfl⟩ := Option.map_eq_some_iff.mp g1
      rw [← Array.getElem?_toList, h4, List.getElem?_map, g4] at g3
      cases g3
      rfl
    refine ⟨.ref s.heap.objs.size, upd S.H s.heap.objs.size (.lst (xs.map fun x => V.ref x.2.1)), I.laid hkeep (Nat.le_refl _) (show ObjOk X.prog X.w _ _ _ (.lst _) from ⟨?_, acc'.toList, c', hv, ?_⟩), rfl, k _ _ rl (I.hok.fresh (Nat.le_refl _))⟩
    · rw [List.length_map]; exact hz
    · rw [Array.toArray_toList]; exact hS
theorem cr_list (hP : X.prog = B.prog) (hW : X.w = B.w) (hc : X.calm = true) (hK : X.K = B.K) : CallR X (.type "list") (rdN B.toBx (opN1 bList)) := one_ok fun pins s σ S p d x u Q I rx r r1 e k => by
  unfold bList at e
  obtain ⟨l, e1, rfl⟩ := Option.map_eq_some_iff.mp e
  exact cr_list_any hP hW hc hK I rx r r1 e1 fun vs q rl hq => new_lst r rl k hq
/-! ### sorted(texts) -/
def strD : D → Bool
  | .str _ => true
  | _ => false
def enD (d : D) : PyData := (pd d).getD .none
def bSorted (A : Sto) (d : D) : Option D := (lstOf A d).bind fun l => if (l.all strD) = true then some (.lst (l.mergeSort (dataLe false enD))) else none
/-- values and what they stand for -/
abbrev RVD (B : Bx) (S : Sx) : Value → D → Prop := fun u d => ∃ v, RelV v u ∧ Rep B S d v
theorem each_of {S : Sx} : ∀ {l : List D} {vs : List V} {us : List Value}, RepL B.toBx S l vs → Vals vs us → EachIs (RVD B.toBx S) us l
  | _, _, _, .nil, r => by cases r; exact .nil
  | _, _, _, .cons h t, r => by
    cases r with
    | cons r1 r2 => exact .cons ⟨_, r1, h⟩ (each_of t r2)
theorem of_each {S : Sx} : ∀ {l : List D} {us : List Value}, EachIs (RVD B.toBx S) us l → ∃ vs, Vals vs us ∧ RepL B.toBx S l vs
  | _, _, .nil => ⟨[], .nil, .nil⟩
  | _, _, .cons ⟨v, h1, h2⟩ t => by
    obtain ⟨vs, a, b⟩ := of_each t
    exact ⟨v :: vs, .cons h1 a, .cons h2 b⟩
theorem strs_each {S : Sx} {h : Heap} : ∀ {l : List D} {vs : List V} {us : List Value}, RepL B.toBx S l vs → Vals vs us → l.all strD = true → EachIs (fun v b => ∃ as, Reads h v (enD b) as) us l
  | _, _, _, .nil, r, _ => by cases r; exact .nil
  | _, _, _, .cons h t, r, e => by
    rw [List.all_cons] at e
    obtain ⟨e1, e2⟩ := Bool.and_eq_true_iff.mp e
    cases r with
    | cons r1 r2 =>
      refine .cons ?_ (strs_each t r2 e2)
      cases h with
      | str x => obtain ⟨t, rfl⟩ := r1; exact ⟨_, .str x t⟩
      | _ => cases e1
theorem str_of_strD {d : D} (h : strD d = true) : ∃ x, d = .str x := by
  cases d with
  | str x => exact ⟨x, rfl⟩
  | _ => cases h
theorem cr_sortedD (hK : X.K = B.K) (hu : X.A.units + 64 < cLine) : CallR X (.builtin "sorted") (rdN B.toBx (opN1 bSorted)) := one_ok fun pins s σ S p d x u Q I rx r r1 e k => by
  unfold bSorted at e
  obtain ⟨l, e1, e⟩ := Option.bind_eq_some_iff.mp e
  split at e
  · rename_i hs
    cases e
    obtain ⟨a, vs, rfl, ha, rl⟩ := lst_rep r r1 e1
    cases rx
    obtain ⟨hz, its, n, rv, ho⟩ := rd_list I (.inl ha)
    have hall : ∀ b, b ∈ l → ∃ x, b = .str x := fun b hb => str_of_strD (List.all_eq_true.mp hs b hb)
    have hl := rl.length
    refine sorted_data (R := RVD B.toBx S) (enc := enD) ⟨_, ho, rfl, _, rfl⟩ (each_of rl rv) (strs_each rl rv hs) ?_ (.inr ?_) (by omega) ?_ fun out hlen ho' => ?_
    · intro p hp q hq
      obtain ⟨b, hb, rfl⟩ := List.mem_map.mp hp
      obtain ⟨c, hc, rfl⟩ := List.mem_map.mp hq
      obtain ⟨x, rfl⟩ := hall b hb
      obtain ⟨y, rfl⟩ := hall c hc
      rfl
    · intro p hp
      obtain ⟨b, hb, rfl⟩ := List.mem_map.mp hp
      obtain ⟨x, rfl⟩ := hall b hb
      exact ⟨fun z => PyData.noConfusion z, fun xs z => PyData.noConfusion z⟩
    · intro b hb
      obtain ⟨x, rfl⟩ := hall b hb
      show X.A.units + 2 + 0 < cLine
      omega
    · obtain ⟨ws, rw, rlw⟩ := of_each ho'
      obtain ⟨ep, he'⟩ := PyProof.Rows.sortedAll_at s.heap its out.toArray
      have hlw : ws.length ≤ sizeLine := by rw [← rlw.length, List.length_mergeSort]; omega
      exact ⟨.ref _, upd S.H (s.heap.objs.size + 1) (.lst ws), I.laid (t' := s.toks) (fun _ _ => PyProof.Rows.sortedAll_old) (Nat.le_succ _) ⟨hlw, out, ep, rw, he'⟩, rfl, new_lst r rlw k (I.hok.fresh (Nat.le_succ _))⟩
  · cases e
end

/-! ### isinstance -/
def tyD (A : Sto) : D → Option String
  | .non => some "NoneType"
  | .bl _ => some "bool"
  | .int _ => some "int"
  | .str _ => some "str"
  | .tup _ => some "tuple"
  | .lst _ => some "list"
  | .ref n => match A[n]? with
    | some (.lst _) => some "list"
    | _ => none
  | _ => none
section
variable {X : Cx} {B : By} {W : WX} {a : Expr} {ma : En → M D}
theorem tyx_of (hK : X.K = B.K) {S : Sx} {d : D} {v : V} {t : String} (r : Rel B.toBx S) (h : Rep B.toBx S d v) (e : tyD S.A d = some t) : TyX X.K S.H v (.type t) := by
  cases h with
  | non => cases e; exact .base .non
  | bl b => cases e; exact .base (.bl b)
  | int i => cases e; exact .base (.int i)
  | str x => cases e; exact .base (.str x)
  | tup h rl =>
    cases e
    rw [← hK] at h
    rcases h with (h | ⟨o, h⟩) | ⟨o, its, n, h1, h2, _⟩
    · exact .base (.tup h)
    · exact .fTuple h
    · exact .kTuple h1 h2
  | lst h n rl => cases e; exact .base (.lst h)
  | @ref n hn =>
    have e' : (match S.A[n]? with
      | some (AO.lst _) => some "list"
      | _ => none) = some t := e
    cases q : S.A[n]? with
    | none => rw [q] at e'; cases e'
    | some o =>
      rw [q] at e'
      cases o with
      | lst l =>
        cases e'
        obtain ⟨vs, h1, _⟩ := r.obj n _ q
        exact .base (.lst h1)
      | _ => cases e'
  | _ => cases e
def bIsi (T : String) (A : Sto) (d : D) : Option D := (tyD A d).bind fun t => (kitB t T).map .bl
def bIsi2 (T T2 : String) (A : Sto) (d : D) : Option D := (tyD A d).bind fun t => (kitB t T).bind fun b => if b = true then some (.bl true) else (kitB t T2).map .bl
/-- isinstance(a, T) -/
theorem se_isi {T : Str} {Tn : String} {p pT pos : Pos} (hK : X.K = B.K) (hg : Gl X "isinstance") (hm : X.mg "isinstance" = none) (hgT : Gl X T) (hmT : X.mg T = none) (hvT : bootBuiltins T = some (.type Tn)) (hnT : T ≠ "__name__") (hdT : (T == ("__debug__" : Str)) = false) (ha : SE X B W a ma)
    (hs : ∀ es, starEach (a :: es) X.env = (false, eval a X.env) :: starEach es X.env) :
    SE X B W (.Call (.Name "isinstance" p) [a, .Name T pT] [] pos) (fun η => do let x ← ma η; do1 (bIsi Tn) x) := by
  refine PE.mono (pe_callB call_isi hg hm rfl (pa_cons ha (pa_cons (pe_bltn (v := .ty Tn) hgT hmT hvT rfl hnT hdT) pa_nil rfl) (hs _)) (he := hs _) (hpl := rfl)) fun σ H Q ⟨S, η, eH, r, en, p⟩ => ?_
  subst eH
  refine ⟨S, η, rfl, r, en, Post.imp (Post.bind p) fun x S1 n1 p1 v1 r1 => ?_⟩
  obtain ⟨d, hd, p3⟩ := p1.opt n1.rel
  obtain ⟨t, e1, e2⟩ := Option.bind_eq_some_iff.mp hd
  obtain ⟨b, e3, rfl⟩ := Option.map_eq_some_iff.mp e2
  exact ⟨v1, .ty Tn, .type t, .type Tn, b, rfl, .ty Tn, tyx_of hK n1.rel r1 e1, kit_ty e3, p3 S1 rfl (.refl n1.rel) _ (.bl b)⟩
/-- isinstance(a, (T, T2)) -/
theorem se_isi2 {T T2 : Str} {Tn T2n : String} {p pT pT2 pos pt : Pos} {x1 : Nat} (hK : X.K = B.K) (hg : Gl X "isinstance") (hm : X.mg "isinstance" = none) (hgT : Gl X T) (hmT : X.mg T = none) (hvT : bootBuiltins T = some (.type Tn)) (hnT : T ≠ "__name__") (hdT : (T == ("__debug__" : Str)) = false)
    (hgT2 : Gl X T2) (hmT2 : X.mg T2 = none) (hvT2 : bootBuiltins T2 = some (.type T2n)) (hnT2 : T2 ≠ "__name__") (hdT2 : (T2 == ("__debug__" : Str)) = false) (ha : SE X B W a ma)
    (hs : ∀ es, starEach (a :: es) X.env = (false, eval a X.env) :: starEach es X.env) :
    SE X B W (.Call (.Name "isinstance" p) [a, .Tuple [.Name T pT, .Name T2 pT2] x1 pt] [] pos) (fun η => do let x ← ma η; do1 (bIsi2 Tn T2n) x) := by
  refine PE.mono (pe_callB call_isiT hg hm rfl (pa_cons ha (pa_cons (pe_tup (pa_cons (pe_bltn (v := .ty Tn) hgT hmT hvT rfl hnT hdT) (pa_cons (pe_bltn (v := .ty T2n) hgT2 hmT2 hvT2 rfl hnT2 hdT2) pa_nil rfl) rfl)) pa_nil rfl) (hs _)) (he := hs _) (hpl := rfl)) fun σ H Q ⟨S, η, eH, r, en, p⟩ => ?_
  subst eH
  refine ⟨S, η, rfl, r, en, Post.imp (Post.bind p) fun x S1 n1 p1 v1 r1 => ?_⟩
  obtain ⟨d, hd, p3⟩ := p1.opt n1.rel
  obtain ⟨t, e1, e2⟩ := Option.bind_eq_some_iff.mp hd
  obtain ⟨b, e3, e4⟩ := Option.bind_eq_some_iff.mp e2
  refine ⟨by show 2 ≤ sizeLine; decide, fun q hq => ?_⟩
  have n2 : Nxt B.toBx S1 (S1.put q (.tup [.ty Tn, .ty T2n])) := .put n1.rel hq
  have r2 := r1.ext n2.ext
  have res : ∃ b', kitAny X.K (.type t) [.type Tn, .type T2n] = some b' ∧ d = .bl b' := by
    cases b with
    | true => exact ⟨true, kitAny_cons (kit_ty e3) (fun z => nomatch z) (fun _ => rfl), (Option.some.inj e4).symm⟩
    | false =>
      rw [if_neg Bool.false_ne_true] at e4
      obtain ⟨b', e5, rfl⟩ := Option.map_eq_some_iff.mp e4
      refine ⟨b', kitAny_cons (kit_ty e3) (fun _ => kitAny_cons (kit_ty e5) (fun hb => ?_) (fun hb => hb ▸ rfl)) (fun z => nomatch z), rfl⟩
      subst hb
      rfl
  obtain ⟨b', e5, rfl⟩ := res
  exact ⟨v1, q, [.ty Tn, .ty T2n], .type t, [.type Tn, .type T2n], b', rfl, upd_same, .cons (.ty Tn) (.cons (.ty T2n) .nil), tyx_of (S := S1.put q (.tup [.ty Tn, .ty T2n])) hK n2.rel r2 e1, e5, p3 (S1.put q (.tup [.ty Tn, .ty T2n])) rfl n2 _ (.bl b')⟩
end
end Cr
end

section
set_option Elab.async false
set_option linter.all false
set_option maxRecDepth 100000
set_option maxHeartbeats 1000000
/-! Core, part L: methods of built-ins. -/
namespace Cr
open PySem PySem.Spec PyProof.Rows L2

abbrev OpM := Sto → D → List D → Option (D × Sto)
def rdM (B : Bx) (op : OpM) : V → List V → Hp → VK → Prop := fun x vs H Q => ∃ S p l d A, S.H = H ∧ Rel B S ∧ Rep B S p x ∧ RepL B S l vs ∧ op S.A p l = some (d, A) ∧ ∀ S' v, S'.A = A → Nxt B S S' → Rep B S' d v → Q v S'.H
def tyOk (T : String) (A : Sto) (d : D) : Option Unit := match d with
  | .str _ => if T = "str" then some () else none
  | d => if T = "list" then (lstOf A d).map fun _ => () else none
def doM (T : String) (op : OpM) (x : D) (ml : M (List D)) : M D := do
  M.opt fun A => tyOk T A x
  let l ← ml
  M.optS fun A => op A x l
section
variable {X : Cx} {B : By} {W : WX} {o e : Expr} {es : List Expr} {mo : En → M D} {ms : En → M (List D)} {name : Str} {apos cpos : Pos} {T id : String} {op : OpM}
theorem tyV_of (hK : X.K = B.K) {S : Sx} {d : D} {v : V} (r : Rel B.toBx S) (h : Rep B.toBx S d v) (e : tyOk T S.A d = some ()) : tyV X.K T v S.H := by
  unfold tyOk at e
  split at e
  · split at e
    · cases h; assumption
    · cases e
  · split at e
    · obtain ⟨l, e1, _⟩ := Option.map_eq_some_iff.mp e
      obtain ⟨a, vs, rfl, ha, _⟩ := lst_rep r h e1
      exact .inl ⟨by assumption, vs, .inl (.inl ha)⟩
    · cases e
theorem bm_reads (hK : X.K = B.K) {σ : L2.St} {H : Hp} {Q : VK} (h : rdE B W (fun η => do let x ← mo η; doM T op x (ms η)) σ H Q) : tBM X.K T (rdM B.toBx op) (rdE B W mo) (rdA B W ms) σ H Q := by
  obtain ⟨S, η, rfl, r, en, p⟩ := h
  refine ⟨S, η, rfl, r, en, Post.imp (Post.bind p) fun x S1 n1 p1 v1 r1 => ?_⟩
  unfold doM at p1
  obtain ⟨_, e1, p2⟩ := (Post.bind p1).opt n1.rel
  have p3 := p2 S1 rfl (.refl n1.rel)
  refine ⟨tyV_of hK n1.rel r1 e1, S1, η, rfl, n1.rel, en.ext n1.ext, Post.imp (Post.bind p3) fun l S2 n2 p4 vs r2 => ?_⟩
  obtain ⟨d, A', e2, p5⟩ := p4.optS
  exact ⟨S2, x, l, d, A', rfl, n2.rel, r1.ext n2.ext, r2, e2, fun S' v e n rv => p5 S' e n v rv⟩
theorem se_bm (hK : X.K = B.K) (pa : PlainAttrs T) (slot : Slot T name id) (hty : typeOf (.builtin id) = pure (.type "method_descriptor")) (hm : MtR X id (rdM B.toBx op)) (ho : SE X B W o mo) (ha : SA X B W (e :: es) ms)
    (hbase : attributeBase o name X.env (eval o X.env) = eval o X.env)
    (hfew : ((backTo cpos (starEach (e :: es) X.env)).all (fun x => !x.1) && (backToKw cpos (keywordEach [] X.env)).all (fun x => x.1.isSome)
      && decide ((e :: es).length + ([] : List Keyword).length + (if ([] : List Keyword).isEmpty then 0 else 1) < 30)) = true)
    (hline : (apos.endLine == cpos.line) = true) (hs : starEach (e :: es) X.env = (false, eval e X.env) :: starEach es X.env) (hplain : (backTo cpos (starEach es X.env)).any (·.1) = false) :
    SE X B W (.Call (.Attribute o name apos) (e :: es) [] cpos) (fun η => do let x ← mo η; doM T op x (ms η)) :=
  PE.mono (pe_bm pa slot hty hm ho ha hbase hfew hline hs hplain) fun σ H Q h => bm_reads hK h

/-! ### lists -/
def mAppend : OpM := fun A x l => match x, l with
  | .ref n, [d] => match A[n]? with
    | some (.lst xs) => if xs.length < sizeLine then some (.non, A.set n (.lst (xs ++ [d]))) else none
    | _ => none
  | _, _ => none
theorem m_append : MtR X "list.append" (rdM B.toBx mAppend) := by
  intro pins s σ H x xs v us Q I rx rxs h
  obtain ⟨S, p, l, d, A', rfl, r, r1, rl, e, k⟩ := h
  unfold mAppend at e
  split at e
  · rename_i n d0
    split at e
    · rename_i ds hn
      split at e
      · rename_i hz
        cases e
        cases r1
        cases rl with
        | cons r2 rl =>
          cases rl
          obtain ⟨vs, hH, rv⟩ := r.obj _ _ hn
          have nx := Nxt.upd (o := .lst (vs ++ [_])) (x := .lst (ds ++ [d0])) r hn (fun z => nomatch z) ⟨_, upd_same, ((rv.append (.cons r2 .nil)).ext (.upd r hn (fun z => nomatch z)))⟩
          exact mt_append pins s σ S.H _ _ v us Q I rx rxs ⟨_, vs, _, rfl, rfl, hH, by rw [← rv.length]; exact hz, k _ _ rfl nx .non⟩
      · cases e
    · cases e
  · cases e
def mInsert : OpM := fun A x l => match x, l with
  | .ref n, [.int i, d] => match A[n]? with
    | some (.lst xs) => if xs.length < sizeLine ∧ 0 ≤ i ∧ i < 2 ^ 63 then some (.non, A.set n (.lst (xs.take i.toNat ++ [d] ++ xs.drop i.toNat))) else none
    | _ => none
  | _, _ => none
theorem m_insert : MtR X "list.insert" (rdM B.toBx mInsert) := by
  intro pins s σ H x xs v us Q I rx rxs h
  obtain ⟨S, p, l, d, A', rfl, r, r1, rl, e, k⟩ := h
  unfold mInsert at e
  split at e
  · rename_i n i d0
    split at e
    · rename_i ds hn
      split at e
      · rename_i hz
        cases e
        cases r1
        cases rl with
        | cons r0 rl =>
          cases r0
          cases rl with
          | cons r2 rl =>
            cases rl
            obtain ⟨vs, hH, rv⟩ := r.obj _ _ hn
            have nx := Nxt.upd (o := .lst (vs.take i.toNat ++ [_] ++ vs.drop i.toNat)) (x := .lst (ds.take i.toNat ++ [d0] ++ ds.drop i.toNat)) r hn (fun z => nomatch z) ⟨_, upd_same, ((((rv.take i.toNat).append (.cons r2 .nil)).append (rv.drop i.toNat)).ext (.upd r hn (fun z => nomatch z)))⟩
            exact mt_insert pins s σ S.H _ _ v us Q I rx rxs ⟨_, vs, i, _, rfl, rfl, hH, by rw [← rv.length]; exact hz.1, hz.2.1, hz.2.2, k _ _ rfl nx .non⟩
      · cases e
    · cases e
  · cases e
def mPopAt : OpM := fun A x l => match x, l with
  | .ref n, [.int i] => match A[n]? with
    | some (.lst xs) => if -(2 ^ 63) ≤ i ∧ i < 2 ^ 63 then (seqIndex? i xs.length).bind fun j => (xs[j]?).map fun d => (d, A.set n (.lst (xs.eraseIdx j))) else none
    | _ => none
  | _, _ => none
theorem m_popAt : MtR X "list.pop" (rdM B.toBx mPopAt) := by
  intro pins s σ H x xs v us Q I rx rxs h
  obtain ⟨S, p, l, d, A', rfl, r, r1, rl, e, k⟩ := h
  unfold mPopAt at e
  split at e
  · rename_i n i
    split at e
    · rename_i ds hn
      split at e
      · rename_i hz
        obtain ⟨j, hj, e⟩ := Option.bind_eq_some_iff.mp e
        obtain ⟨d0, hd, e⟩ := Option.map_eq_some_iff.mp e
        cases e
        cases r1
        cases rl with
        | cons r0 rl =>
          cases r0
          cases rl
          obtain ⟨vs, hH, rv⟩ := r.obj _ _ hn
          obtain ⟨w, hw, rw⟩ := rv.get hd
          have ex := Ext.upd (o := .lst (vs.eraseIdx j)) (x := .lst (ds.eraseIdx j)) r hn (fun z => nomatch z)
          have nx := Nxt.upd (o := .lst (vs.eraseIdx j)) (x := .lst (ds.eraseIdx j)) r hn (fun z => nomatch z) ⟨_, upd_same, (rv.eraseIdx j).ext ex⟩
          exact mt_popAt pins s σ S.H _ _ v us Q I rx rxs ⟨_, vs, i, j, w, rfl, rfl, hH, hz.1, hz.2, by rw [← rv.length]; exact hj, hw, k _ _ rfl nx (rw.ext ex)⟩
      · cases e
    · cases e
  · cases e

/-! ### texts -/
def mSplit0 (x : D) (l : List D) : Option (List D) := match x, l with
  | .str a, [.str b] => if (b.length == 0) = false ∧ a.length + 2 ≤ sizeLine then some ((Txt.split a b).map .str) else none
  | _, _ => none
def mSplit : OpM := fun A x l => (mSplit0 x l).map fun r => (.lst r, A)
/-- .. as a list that will change -/
def mSplitR : OpM := fun A x l => (mSplit0 x l).map fun r => (.ref A.length, A ++ [.lst r])
theorem repL_strs {S : Sx} : ∀ ys : List Str, RepL B.toBx S (ys.map .str) (ys.map V.str)
  | [] => .nil
  | y :: ys => .cons (.str y) (repL_strs ys)
theorem split_any {pins : List (Addr × Obj)} {s : Shared} {σ : L2.St} {S : Sx} {x : V} {p : D} {xs : List V} {l : List D} {v : Value} {us : List Value} {Q : VK} {out : List D} (I : Inv X pins σ S.H s) (rx : RelV x v) (rxs : Vals xs us) (r1 : Rep B.toBx S p x) (rl : RepL B.toBx S l xs) (e : mSplit0 p l = some out)
    (k : ∀ ys : List Str, out = ys.map .str → ∀ q, S.H q = none → Q (.ref q) (upd S.H q (.lst (ys.map V.str)))) : wpAny (model X.prog X.w) X.A (call (.builtin "str.split") (v :: us)) (EP X pins σ Q) X.xe s := by
  unfold mSplit0 at e
  split at e
  · split at e
    · rename_i hz
      cases e
      cases r1
      cases rl with
      | cons r2 rl =>
        cases r2
        cases rl
        exact mt_split pins s σ S.H _ _ v us Q I rx rxs ⟨_, _, rfl, rfl, hz.1, hz.2, fun q hq => k _ rfl q hq⟩
    · cases e
  · cases e
theorem m_split : MtR X "str.split" (rdM B.toBx mSplit) := by
  intro pins s σ H x xs v us Q I rx rxs h
  obtain ⟨S, p, l, d, A', rfl, r, r1, rl, e, k⟩ := h
  obtain ⟨out, e1, e2⟩ := Option.map_eq_some_iff.mp e
  cases e2
  exact split_any I rx rxs r1 rl e1 fun ys hy q hq => by
    subst hy
    exact new_lst r (repL_strs ys) k hq
theorem m_splitR : MtR X "str.split" (rdM B.toBx mSplitR) := by
  intro pins s σ H x xs v us Q I rx rxs h
  obtain ⟨S, p, l, d, A', rfl, r, r1, rl, e, k⟩ := h
  obtain ⟨out, e1, e2⟩ := Option.map_eq_some_iff.mp e
  cases e2
  exact split_any I rx rxs r1 rl e1 fun ys hy q hq => by
    subst hy
    exact k (S.add q (.lst (ys.map V.str)) (.lst (ys.map .str))) _ rfl (.add r hq ⟨_, upd_same, (repL_strs ys).ext (.add hq)⟩) .new
def strsOf : List D → Option (List Str)
  | [] => some []
  | .str x :: l => (strsOf l).map (x :: ·)
  | _ => none
theorem strs_rep {S : Sx} : ∀ {l : List D} {vs : List V} {ys : List Str}, RepL B.toBx S l vs → strsOf l = some ys → vs = ys.map V.str
  | [], _, _, h, e => by cases h; cases e; rfl
  | .str b :: l, _, _, h, e => by
    rw [strsOf] at e
    obtain ⟨bs, e1, rfl⟩ := Option.map_eq_some_iff.mp e
    cases h with
    | cons h t =>
      cases h
      rw [strs_rep t e1]; rfl
  | .non :: _, _, _, _, e => by cases e
  | .int _ :: _, _, _, _, e => by cases e
  | .bl _ :: _, _, _, _, e => by cases e
  | .tup _ :: _, _, _, _, e => by cases e
  | .lst _ :: _, _, _, _, e => by cases e
  | .scr _ :: _, _, _, _, e => by cases e
  | .dk _ :: _, _, _, _, e => by cases e
  | .dn _ :: _, _, _, _, e => by cases e
  | .ref _ :: _, _, _, _, e => by cases e
def mJoin : OpM := fun A x l => match x, l with
  | .str a, [d] => (seqOf A d).bind fun l => (strsOf l).bind fun ys => if (ys.map (·.length)).sum + ys.length * a.length ≤ 16777216 then some (.str (Txt.join a ys), A) else none
  | _, _ => none
theorem m_join (hK : X.K = B.K) : MtR X "str.join" (rdM B.toBx mJoin) := by
  intro pins s σ H x xs v us Q I rx rxs h
  obtain ⟨S, p, l, d, A', rfl, r, r1, rl, e, k⟩ := h
  unfold mJoin at e
  split at e
  · obtain ⟨ds, e1, e⟩ := Option.bind_eq_some_iff.mp e
    obtain ⟨ys, e2, e⟩ := Option.bind_eq_some_iff.mp e
    split at e
    · cases e
      cases r1
      cases rl with
      | cons r2 rl =>
        cases rl
        obtain ⟨a, vs, rfl, hq, rv⟩ := seq_rep r r2 e1
        have := strs_rep rv e2
        subst this
        exact mt_join pins s σ S.H _ _ v us Q I rx rxs ⟨_, a, ys, rfl, rfl, by rw [hK]; exact hq, by assumption, k S _ rfl (.refl r) (.str _)⟩
    · cases e
  · cases e
def mEnds : OpM := fun A x l => match x, l with
  | .str a, [.str b] => some (.bl (Txt.endswith a b), A)
  | _, _ => none
theorem m_ends : MtR X "str.endswith" (rdM B.toBx mEnds) := by
  intro pins s σ H x xs v us Q I rx rxs h
  obtain ⟨S, p, l, d, A', rfl, r, r1, rl, e, k⟩ := h
  unfold mEnds at e
  split at e
  · cases e
    cases r1
    cases rl with
    | cons r2 rl =>
      cases r2
      cases rl
      exact mt_endswith pins s σ S.H _ _ v us Q I rx rxs ⟨_, _, rfl, rfl, k S _ rfl (.refl r) (.bl _)⟩
  · cases e
end
end Cr
end

section
set_option Elab.async false
set_option linter.all false
set_option maxRecDepth 100000
set_option maxHeartbeats 1000000
/-! Core, part M: own functions. -/
namespace Cr
open PySem PySem.Spec PyProof.Rows L2

/-- behind a call: what the callee made is forgotten; a list or a dict that it hands back is not changed any more -/
def shut (n : Nat) (d : D) (A : Sto) : Option D := match d with
  | .ref k => if n ≤ k then (match A[k]? with
      | some (.lst l) => some (.lst l)
      | some (.dn l) => some (.dn l)
      | some (.dk l) => some (.dk l)
      | _ => none) else some (.ref k)
  | d => some d
def leave (n : Nat) : Out D → Out D
  | .ok d A => match shut n d A with
    | some d' => if (rok n d' && (A.take n).all (rokO n)) = true then .ok d' (A.take n) else .err
    | none => .err
  | .exc c d A => if (rok n d && (A.take n).all (rokO n)) = true then .exc c d (A.take n) else .err
  | .err => .err
theorem shut_rep {B : Bx} {S : Sx} (r : Rel B S) {n : Nat} (hn : n ≤ S.A.length) {d d' : D} {v : V} (h : Rep B S d v) (e : shut n d S.A = some d') (ok : rok n d' = true) : Rep B (S.cut n) d' v := by
  unfold shut at e
  split at e
  · rename_i k
    split at e
    · rename_i hk
      cases h with
      | ref hlt =>
        cases q : S.A[k]? with
        | none => rw [q] at e; cases e
        | some o =>
          rw [q] at e
          cases o with
          | lst l =>
            cases e
            obtain ⟨vs, h1, h2⟩ := r.obj k _ q
            exact .lst h1 (nlive_cut r q (fun z => nomatch z) hk) (h2.cut hn (by rw [rok] at ok; exact ok))
          | dn l =>
            cases e
            obtain ⟨vs, h1, nd, h2⟩ := r.obj k _ q
            exact .dn (.inl h1) (nlive_cut r q (fun z => nomatch z) hk) nd (h2.cut hn (by rw [rok] at ok; exact ok))
          | dk l =>
            cases e
            obtain ⟨vs, h1, h2⟩ := r.obj k _ q
            exact .dk (.inl h1) (nlive_cut r q (fun z => nomatch z) hk) (h2.cut hn (by rw [rok] at ok; exact ok))
          | gone => cases e
          | ins c fs => cases e
          | tab P q => cases e
    · cases e
      exact h.cut hn ok
  · cases e
    exact h.cut hn ok
theorem Post.leave {B : By} {E : XK} {S : Sx} {Q : VK} {r : Out D} (h : Post B E S (Wv B.toBx Q) (Cr.leave S.A.length r)) : Post B E S (Wv B.toBx Q) r := by
  cases r with
  | ok d A =>
    intro S1 eA n1 v rv
    subst eA
    unfold Cr.leave at h
    cases q : shut S.A.length d S1.A with
    | none => simp only [q] at h; exact h.elim
    | some d' =>
      simp only [q] at h
      split at h
      · rename_i hok
        obtain ⟨h1, h2⟩ := band hok
        exact h (S1.cut S.A.length) rfl (.cut n1 fun o ho => List.all_eq_true.mp h2 o ho) v (shut_rep n1.rel n1.ext.len rv q h1)
      · exact h.elim
  | exc c d A =>
    intro S1 v dx eA n1 rv hx
    subst eA
    by_cases hok : (rok S.A.length d && (S1.A.take S.A.length).all (rokO S.A.length)) = true
    · simp only [Cr.leave, if_pos hok] at h
      obtain ⟨h1, h2⟩ := band hok
      exact h (S1.cut S.A.length) v dx rfl (.cut n1 fun o ho => List.all_eq_true.mp h2 o ho) (rv.cut n1.ext.len h1) hx
    · simp only [Cr.leave, if_neg hok] at h
      exact h.elim
  | err => exact h.elim
def ctlD : En × Ctl → M D
  | (_, .nx) => pure .non
  | (_, .rt d) => pure d
  | _ => M.err
/-- a function's body at the arguments -/
def runB (n : Nat) (body : En → M (En × Ctl)) (l : List D) : M D := do
  let r ← body (l.map some ++ List.replicate (n - l.length) none)
  ctlD r
def callB (n : Nat) (body : En → M (En × Ctl)) (l : List D) : M D := fun A => leave A.length (runB n body l A)
/-- a function's promise -/
def spOf (B : By) (np : Nat) (m : List D → M D) : Sp := fun vs H Q E => vs.length = np ∧ ∃ S l, S.H = H ∧ Rel B.toBx S ∧ RepL B.toBx S l vs ∧ Post B E S (Wv B.toBx Q) (m l S.A)
def doCall (np : Nat) (m : List D → M D) (l : List D) : M D := if l.length = np then m l else M.err
section
variable {X : Cx} {B : By} {W : WX} {k j : Nat} {f : Addr} {fd : FuncData} {ps : List Str} {m : List D → M D} {x : Str} {p pos : Pos} {e : Expr} {es : List Expr} {ms : En → M (List D)}
theorem call_reads {σ : L2.St} {H : Hp} {Q : VK} (h : rdE B W (fun η => do let l ← ms η; doCall ps.length m l) σ H Q) : tCallS (spOf B ps.length m) (WE W) (rdA B W ms) σ H Q := by
  obtain ⟨S, η, rfl, r, en, p⟩ := h
  refine ⟨S, η, rfl, r, en, Post.imp (Post.bind p) fun l S1 n1 p1 vs r1 => ?_⟩
  unfold doCall at p1
  split at p1
  · exact ⟨by rw [← r1.length]; assumption, S1, l, rfl, n1.rel, r1, p1⟩
  · exact p1.elim
theorem se_call (F : FnOk X.prog X.w X.K X.mg X.base (L2.CX X.prog X.w) k f fd ps (spOf B ps.length m)) (tk : Takes X W) (hr : Room k X.A) (hg : Gl X x) (hm : X.mg x = some (.ref f)) (hk : PySem.W.keepIn X.K (.ref f) = true) (hb : Binds X.K fd ps [])
    (ha : SA X B W (e :: es) ms) (hdb : (x == ("__debug__" : Str)) = false) (he : starEach (e :: es) X.env = (false, eval e X.env) :: starEach es X.env) (hpl : (backTo pos (starEach es X.env)).any (·.1) = false) :
    SE X B W (.Call (.Name x p) (e :: es) [] pos) (fun η => do let l ← ms η; doCall ps.length m l) :=
  PE.mono (pe_callS F hr hg hm hk hb (fun σ => passAt tk σ) ha hdb he hpl) fun σ H Q h => call_reads h

/-! keywords alone -/
theorem run_fnkS {X : Cx} {CX : CXT} {k : Nat} {f : Addr} {fd : FuncData} {ps ks : List Str} {sp : Sp} {E : L2.St → XK} {g : List Value → List Value → List Value} {gV : List V → List V → List V} {pins : List (Addr × Obj)} {σ : L2.St} {H : Hp} {s : Shared} {Q : VK} {us ws : List Value} {vs zs : List V}
    (F : FnOk X.prog X.w X.K X.mg X.base CX k f fd ps sp) (hr : Room k X.A) (hb : KBinds X.K fd ps ks g gV) (hx : PassesAt CX X σ (E σ))
    (I : Inv X pins σ H s) (r : Vals vs us) (rz : Vals zs ws) (h : sp (gV vs zs) H Q (E σ)) : wpAny (model X.prog X.w) X.A (call (.ref f) us (ks.zip ws)) (EP X pins σ Q) X.xe s := by
  have r2 := hb.rel r rz
  have hl : (g us ws).length = ps.length := by rw [← r2.length]; exact F.len _ _ _ _ h
  refine wpAny_call (codeAny_mono (F.run X.A X.stack s H ⟨us, ks.zip ws⟩ (g us ws) (gV vs zs) Q (E σ) hr I.env0 (hb.to s us ws I.kIn hl) r2 h) fun r s' hq => ?_)
  cases r with
  | error e => exact hx pins H s e s' I hq
  | ok fl =>
    cases fl with
    | ret u => exact I.after hq
    | next => exact False.elim hq
    | brk => exact False.elim hq
    | cont => exact False.elim hq
/-- the keywords' values, from the left -/
abbrev SK (X : Cx) (B : By) (W : WX) (kws : List Keyword) (m : En → M (List D)) : Prop := PK X kws (rdA B W m)
theorem PK.mono {X : Cx} {e : List Keyword} {t t' : TA} (h : PK X e t) (k : ∀ σ H Q, t' σ H Q → t σ H Q) : PK X e t' := ⟨fun pos pins s σ H Q I q => h.run pos pins s σ H Q I (k σ H Q q)⟩
theorem sk_nil : SK X B W [] (fun _ => pure []) := PK.mono pk_nil fun σ H Q ⟨S, η, eH, r, en, p⟩ => by
  subst eH
  exact p S rfl (.refl r) [] .nil
theorem sk_cons {nm : Option Str} {kpos : Pos} {kws : List Keyword} {ma : En → M D} (ha : SE X B W e ma) (hr : SK X B W kws ms) : SK X B W (⟨nm, e, kpos⟩ :: kws) (fun η => do let x ← ma η; let l ← ms η; pure (x :: l)) := by
  refine PK.mono (pk_cons ha hr) fun σ H Q ⟨S, η, eH, r, en, p⟩ => ?_
  subst eH
  refine ⟨S, η, rfl, r, en, Post.imp (Post.bind p) fun x S1 n1 p1 v1 r1 => ?_⟩
  refine ⟨S1, η, rfl, n1.rel, en.ext n1.ext, Post.imp (Post.bind p1) fun l S2 n2 p2 vs r2 => ?_⟩
  exact p2 S2 rfl (.refl n2.rel) _ (.cons (r1.ext n2.ext) r2)
/-- f(k = v, ..): gD puts the keywords' values into the parameters' order -/
theorem se_callK0 {ks : List Str} {kws : List Keyword} {g : List Value → List Value → List Value} {gV : List V → List V → List V} {gD : List D → List D} (F : FnOk X.prog X.w X.K X.mg X.base (L2.CX X.prog X.w) k f fd ps (spOf B ps.length m)) (tk : Takes X W) (hr : Room k X.A) (hg : Gl X x) (hm : X.mg x = some (.ref f)) (hk : PySem.W.keepIn X.K (.ref f) = true)
    (hb : KBinds X.K fd ps ks g gV) (hgD : ∀ (S : Sx) l vs, RepL B.toBx S l vs → RepL B.toBx S (gD l) (gV [] vs))
    (hkw : SK X B W kws ms) (hall : (backToKw pos (keywordEach kws X.env)).all (·.1.isSome) = true) (hks : (backToKw pos (keywordEach kws X.env)).filterMap (·.1) = ks)
    (hdb : (x == ("__debug__" : Str)) = false) (hpl : ((backTo pos (starEach [] X.env)).any (·.1) || (backToKw pos (keywordEach kws X.env)).any (·.1.isNone)) = false) :
    SE X B W (.Call (.Name x p) [] kws pos) (fun η => do let l ← ms η; doCall ps.length m (gD l)) := by
  refine ⟨fun pins s σ H Q I h => ?_⟩
  obtain ⟨S, η, rfl, r, en, p⟩ := h
  refine wpAny_Call_Name_kw (ld_glob I hg hm ?_ hdb)
  refine PySem.W.callWith_KW0 (h₀ := X.base) I.ok.mod.kin hk hall ?_ hpl
  refine thn (hkw.run pos pins s σ S.H (fun zs H2 => spOf B ps.length m (gV [] zs) H2 Q (WE W σ)) I ⟨S, η, rfl, r, en, Post.imp (Post.bind p) fun l S1 n1 p1 vs r1 => ?_⟩) fun ws s2 ⟨zs, H2, I2, rz, q2⟩ => ⟨I2.kIn, ?_⟩
  · unfold doCall at p1
    split at p1
    · have rg := hgD S1 l vs r1
      exact ⟨by rw [← rg.length]; assumption, S1, gD l, rfl, n1.rel, rg, p1⟩
    · exact p1.elim
  · rw [hks]
    exact run_fnkS (E := WE W) F hr hb (passAt tk σ) I2 .nil rz q2
end
/-- a def keeps its promise -/
theorem fn_core {B : By} {P : Program} {w : World} {K : PySem.W.Frag} {mg : Str → Option Value} {base : Heap} {k : Nat} {f : Addr} {name qual : Str} {params : Arguments} {body : List Stmt} {scope : Scope} {dV kV doc pm cdv ct oc : Value} {an od : Option Addr}
    {osl : Array (Option Value)} {N ps : List Str} {mb : En → M (En × Ctl)} {m : List D → M D} (lk : K.lookup f = some ⟨oc, od, .func (PySem.W.fnOf name qual params body scope dV kV doc pm an cdv ct), osl⟩) (hcd : PySem.W.codeIn K cdv qual = true) (S : FnScope N ps scope)
    (hm : ∀ E S Q l, l.length = ps.length → Post B E S (Wv B.toBx Q) (m l S.A) → Post B E S (Wv B.toBx Q) (runB N.length mb l S.A))
    (hbody : ∀ (A : Around) (outer : List Env) (s : Shared) (H : Hp) (E : XK), Room k (A.deeper (envOfC qual scope s.heap.objs.size f cdv)) →
      SSs (cxOf (L2.CX P w) P w K mg base N qual scope f cdv A outer s H E) B (fun c d _ H => E c d H) body mb) :
    FnOk P w K mg base (L2.CX P w) (k + 1) f (PySem.W.fnOf name qual params body scope dV kV doc pm an cdv ct) ps (spOf B ps.length m) := by
  refine fn_of lk hcd S (fun vs H Q E h => h.1) fun A outer s H vs Q E hr hsp => ⟨_, hbody A outer s H E hr, ?_⟩
  obtain ⟨hl, S0, l, rfl, r, rl, p⟩ := hsp
  have hl2 : l.length = ps.length := rl.length.trans hl
  have p1 := hm E S0 Q l hl2 p
  refine ⟨S0, l.map some ++ List.replicate (N.length - l.length) none, rfl, r, ⟨?_, fun i d q => ?_⟩, ?_⟩
  · unfold L2.start
    rw [List.length_append, List.length_append, List.length_map, List.length_map, List.length_replicate, List.length_replicate, rl.length]
  · unfold L2.start
    have hi : i < l.length := by
      by_cases hi : i < l.length
      · exact hi
      · rw [List.getElem?_append_right (by simpa using hi), List.getElem?_replicate] at q
        split at q <;> cases q
    rw [List.getElem?_append_left (by simpa using hi), List.getElem?_map] at q
    obtain ⟨d', h1, h2⟩ := Option.map_eq_some_iff.mp q
    cases h2
    obtain ⟨v, e1, e2⟩ := rl.get h1
    exact ⟨v, by rw [List.getElem?_append_left (by rw [List.length_map, ← rl.length]; exact hi), List.getElem?_map, e1]; rfl, e2⟩
  · have p2 : Post B E S0 (fun q S1 => Post B E S1 (Wv B.toBx Q) (ctlD q S1.A)) (mb (l.map some ++ List.replicate (N.length - l.length) none) S0.A) := Post.bind p1
    have p3 : Post B E S0 (Endz B.toBx { nx := fun _ H' => Q .non H', rt := Q }) (mb (l.map some ++ List.replicate (N.length - l.length) none) S0.A) := Post.imp p2 fun q S1 n1 p => by
      obtain ⟨η, c⟩ := q
      cases c with
      | nx => exact fun σ en => p S1 rfl (.refl n1.rel) _ .non
      | rt d => exact fun v rv => p S1 rfl (.refl n1.rel) v rv
      | bk => exact p.elim
      | ct => exact p.elim
    revert p3
    cases mb (l.map some ++ List.replicate (N.length - l.length) none) S0.A with
    | ok a A => exact fun h => h
    | exc c d A => exact fun h S' v dx e n rv hx σ _ => h S' v dx e n rv hx
    | err => exact fun h => h
/-- .. what it made is forgotten -/
theorem hm_call {B : By} {n : Nat} {mb : En → M (En × Ctl)} {E : XK} {S : Sx} {Q : VK} {l : List D} (h : Post B E S (Wv B.toBx Q) (callB n mb l S.A)) : Post B E S (Wv B.toBx Q) (runB n mb l S.A) := Post.leave h
end Cr
end

section
set_option Elab.async false
set_option linter.all false
set_option maxRecDepth 100000
set_option maxHeartbeats 1000000
/-! Core, part N: range, zip, dicts walked. -/
namespace Cr
open PySem PySem.Spec PyProof.Rows L2

/-! ### range(n) -/
def rgIt (l : List D) : Option ItD := match l with
  | [.int j] => if -(2 ^ 62) ≤ j ∧ j < 2 ^ 62 then some ⟨(List.range j.toNat).map fun (i : Nat) => D.int (i : Int), fun _ => True⟩ else none
  | _ => none
def doIL (f : Sto → List D → Option ItD) (l : List D) : M ItD := M.opt fun A => f A l
section
variable {X : Cx} {B : By} {W : WX} {a tg : Expr} {ms : En → M (List D)} {pos p : Pos}
theorem si_range1 (hg : Gl X "range") (hm : X.mg "range" = none) (ha : SA X B W [a] ms) (hs : starEach [a] X.env = (false, eval a X.env) :: starEach [] X.env) :
    SI X B W tg (.Call (.Name "range" p) [a] [] pos) (fun η => do let l ← ms η; doIL (fun _ => rgIt) l) := by
  refine PI.mono (pi_range1 hg hm ha hs) fun σ H R ⟨S, η, eH, r, en, p⟩ => ?_
  subst eH
  refine ⟨S, η, rfl, r, en, Post.imp (Post.bind p) fun l S1 n1 p1 vs rl => ?_⟩
  obtain ⟨it, e1, p2⟩ := p1.opt n1.rel
  replace e1 : rgIt l = some it := e1
  unfold rgIt at e1
  split at e1
  · split at e1
    · rename_i j hj
      cases e1
      cases rl with
      | cons r0 rl =>
        cases r0
        cases rl
        refine ⟨j, rfl, hj.1, hj.2, p2 S1 rfl (.refl n1.rel) _ fun S' n' _ => ⟨fun d i e => ?_, ?_⟩⟩
        · have hi : i < j.toNat := by
            have := (List.getElem?_eq_some_iff.mp e).1
            simpa using this
          have ed : d = .int i := by
            rw [List.getElem?_map, List.getElem?_range hi] at e
            exact (Option.some.inj e).symm
          subst ed
          refine ⟨hi, fun x H' ⟨e1, e2⟩ => ⟨S', rfl, e1.symm, .refl n'.rel, ?_⟩⟩
          subst e2
          have : (0 : Int) + (i : Int) = i := by omega
          rw [this]
          exact .int _
        · show j.toNat ≤ _
          simp
    · cases e1
  · cases e1
end

/-! ### zip of lists and tuples -/
def SqC (c : Bool) (K : PySem.W.Frag) (H : Hp) (a : Addr) (xs : List V) : Prop := match c with
  | true => SqL K H a xs
  | false => SqT K H a xs
def seqC (c : Bool) (h : Heap) (a : Addr) (its : Array Value) : Prop := match c with
  | true => h.IsList a its
  | false => h.IsTuple a its
def itC (c : Bool) (h : Heap) (it a : Addr) (i : Nat) : Prop := match c with
  | true => h.IsListIter it a i
  | false => h.IsTupleIter it a i
def itO (c : Bool) (a : Addr) : Obj := match c with
  | true => { cls := .type "list_iterator", data := .fields #[.ref a, .int 0 0] }
  | false => { cls := .type "tuple_iterator", data := .fields #[.ref a, .int 0 0] }
theorem begC (c : Bool) (a : Addr) (its : Array Value) : Begins (.ref a) (itO c a) (fun h => seqC c h a its) := by
  cases c with
  | true => exact begins_list a its
  | false => exact begins_tuple a its
theorem drawC (c : Bool) {prog : Program} {w : World} {A : Around} (hh : A.handled = none) (it l : Addr) (hne : l ≠ it) (items : Array Value) :
    Draws prog w A it [it, l] items.size (fun i v => items[i]? = some v) (fun i h => itC c h it l i ∧ seqC c h l items) := by
  cases c with
  | true => exact Draws.list hh it l hne items
  | false => exact Draws.tuple hh it l hne items
theorem itC_at {c : Bool} {h h' : Heap} {it a : Addr} {i : Nat} (x : itC c h it a i) (k : ∀ o, h.get? it = some o → h'.get? it = some o) : itC c h' it a i := by
  cases c with
  | true => exact Heap.IsListIter.at x k
  | false => exact Heap.IsTupleIter.at x k
theorem itC_obj {c : Bool} {h : Heap} {it a : Addr} {i : Nat} (x : itC c h it a i) : ∃ o, h.get? it = some o ∧ ∀ v, o.data ≠ .cell v := by
  cases c with
  | true => obtain ⟨o, e, _, d⟩ := x; exact ⟨o, e, fun v q => by rw [d] at q; cases q⟩
  | false => obtain ⟨o, e, _, d⟩ := x; exact ⟨o, e, fun v q => by rw [d] at q; cases q⟩
theorem itC_of {c : Bool} {h : Heap} {it a : Addr} (e : h.get? it = some (itO c a)) : itC c h it a 0 := by
  cases c with
  | true => exact ⟨_, e, rfl, rfl⟩
  | false => exact ⟨_, e, rfl, rfl⟩
section
variable {X : Cx} {pins : List (Addr × Obj)} {σ : L2.St} {H : Hp} {s : Shared} {a : Addr} {xs : List V}
theorem sqC_get {c : Bool} (I : Inv X pins σ H s) (h : SqC c X.K H a xs) : ∃ its : List Value, Vals xs its ∧ seqC c s.heap a its.toArray ∧ a < s.heap.objs.size := by
  cases c with
  | true => obtain ⟨its, rv, p, _⟩ := I.list h; exact ⟨its, rv, p.isList, p.lt⟩
  | false =>
    obtain ⟨its, rv, p, _⟩ := I.tuple h
    obtain ⟨o, ho, _⟩ := id p
    exact ⟨its, rv, p, Heap.lt_size ho⟩
theorem sqC_inj {c : Bool} {ys : List V} (I : Inv X pins σ H s) (h : SqC c X.K H a xs) (h' : SqC c X.K H a ys) : xs = ys := by
  cases c with
  | true => exact I.list_inj h h'
  | false => exact I.tuple_inj h h'
end
def ItzC (c1 c2 : Bool) (K : PySem.W.Frag) (a b : Addr) : It :=
  ⟨fun i H => ∃ (xs ys : List V) (x y : V), SqC c1 K H a xs ∧ SqC c2 K H b ys ∧ xs[i]? = some x ∧ ys[i]? = some y,
    fun i H v H' => ∃ T x y, v = .ref T ∧ H T = none ∧ H' = upd H T (.tup [x, y]) ∧ (∀ xs, SqC c1 K H a xs → xs[i]? = some x) ∧ ∀ ys, SqC c2 K H b ys → ys[i]? = some y,
    fun i H => ∃ xs ys : List V, SqC c1 K H a xs ∧ SqC c2 K H b ys ∧ i ≤ xs.length ∧ i ≤ ys.length ∧ (i = xs.length ∨ i = ys.length)⟩
theorem sep_of {z TI TO i1 i2 a b : Addr} (D : ZipApart z TI TO i1 i2 a b) : ZipSep2 z TI TO i1 i2 [i1, a] [i2, b] := by
  obtain ⟨⟩ := D
  constructor <;> simp_all [Ne.symm] <;> (try constructor) <;> first | assumption | (intro h; simp_all)
theorem turn_zipC {c1 c2 : Bool} {P : Program} {w : World} {K : PySem.W.Frag} {elts : List Expr} {kk : Nat} {tpos : Pos} {a b z TI TO i1 i2 : Addr} (D : ZipApart z TI TO i1 i2 a b) :
    Turn P w K (.Tuple elts kk tpos) (ItzC c1 c2 K a b) [z, TI, TO, i1, i2] z (fun i h => IsZip h z TI TO .none ∧ IsTupOf2 h TI (.ref i1) (.ref i2) ∧ (∃ x y, IsTupOf2 h TO x y) ∧ itC c1 h i1 a i ∧ itC c2 h i2 b i) where
  mem := by simp
  obj := fun i h st c hc => by
    obtain ⟨hz, hTI, ⟨x, y, hTO⟩, h1, h2⟩ := st
    have e' : c = z ∨ c = TI ∨ c = TO ∨ c = i1 ∨ c = i2 := by simpa using hc
    rcases e' with q | q | q | q | q
    · rw [q]; exact ⟨_, hz, fun v q => nomatch q⟩
    · rw [q]; exact ⟨_, hTI, fun v q => nomatch q⟩
    · rw [q]; exact ⟨_, hTO, fun v q => nomatch q⟩
    · rw [q]; exact itC_obj h1
    · rw [q]; exact itC_obj h2
  keep := fun i h h' st k => by
    obtain ⟨hz, hTI, ⟨x, y, hTO⟩, h1, h2⟩ := st
    exact ⟨k z (by simp) _ hz, k TI (by simp) _ hTI, ⟨x, y, k TO (by simp) _ hTO⟩, itC_at h1 fun o q => k i1 (by simp) o q, itC_at h2 fun o q => k i2 (by simp) o q⟩
  item := by
    intro X hP hw hK hc i pins s σ H E I hf st hg
    subst hP hw hK
    obtain ⟨hz, hTI, ⟨x0, y0, hTO⟩, h1, h2⟩ := st
    obtain ⟨xs, ys, x, y, hqx, hqy, hx, hy⟩ := hg
    obtain ⟨its, rv, p1, la⟩ := sqC_get I hqx
    obtain ⟨its2, rv2, p2, lb⟩ := sqC_get I hqy
    obtain ⟨u, hu, ru⟩ := rv.get hx
    obtain ⟨u2, hu2, ru2⟩ := rv2.get hy
    have hzl : z < s.heap.objs.size := Heap.lt_size hz
    have hh := I.ok.hd hc
    have l1 : i < its.toArray.size := by rw [List.size_toArray]; exact (List.getElem?_eq_some_iff.mp hu).1
    have l2 : i < its2.toArray.size := by rw [List.size_toArray]; exact (List.getElem?_eq_some_iff.mp hu2).1
    refine wpAny_pyNext_zipD2_item (sep_of D) (drawC c1 (show X.A.in1.handled = none from hh) i1 a D.l1i1 its.toArray) (drawC c2 (show X.A.in1.handled = none from hh) i2 b D.l2i2 its2.toArray) hz hTI hTO ⟨h1, p1⟩ ⟨h2, p2⟩ l1 l2 fun v1 v2 h' tk e1 e2 z' TO' s1' s2' hT hsz hk => ?_
    have ev1 : v1 = u := by
      have : its.toArray[i]? = some v1 := e1
      rw [← Array.getElem?_toList] at this
      rw [List.toList_toArray, hu] at this
      exact (Option.some.inj this).symm
    have ev2 : v2 = u2 := by
      have : its2.toArray[i]? = some v2 := e2
      rw [← Array.getElem?_toList] at this
      rw [List.toList_toArray, hu2] at this
      exact (Option.some.inj this).symm
    subst ev1 ev2
    refine ⟨_, rfl, wpAny_letOwnedTupleGo_zip (s := { s with heap := h', toks := tk }) z' fun h'' z'' sb => ?_⟩
    have hT2 : h''.get? s.heap.objs.size = some { cls := .type "tuple", data := .seq #[v1, v2] } := (sb.2 _ (Nat.ne_of_gt hzl)).trans hT
    have new : ObjOk X.prog X.w (upd H s.heap.objs.size (.tup [x, y])) h'' s.heap.objs.size (.tup [x, y]) :=
      ⟨by show 2 ≤ sizeLine; decide, [v1, v2], .cons ru (.cons ru2 .nil), ⟨_, hT2, rfl, _, rfl⟩⟩
    have I1 : Inv X pins σ (upd H s.heap.objs.size (.tup [x, y])) { s with heap := h'', toks := tk } :=
      I.turnedNew (t' := tk) (ch := [z, TI, TO, i1, i2]) (fun c o hb q => (sb.2 c (fun q' => hb (by simp [q']))).trans (hk c o (fun q' => hb (by simp [q'])) (fun q' => hb (by simp [q'])) (fun q' => hb (by simp [q'])) (fun q' => hb (by simp [q'])) q)) hf (Nat.le_refl _) new
    refine ⟨.ref s.heap.objs.size, _, I1, rfl, ⟨_, x, y, rfl, I.hok.fresh (Nat.le_refl _), rfl, fun l hl => by rw [sqC_inj I hl hqx]; exact hx, fun l hl => by rw [sqC_inj I hl hqy]; exact hy⟩, ⟨z'', ?_, ⟨v1, v2, ?_⟩, ?_, ?_⟩, fun c hcm => ?_⟩
    · exact (sb.2 _ D.TIz).trans (hk _ _ D.TIz D.TITO D.TIi1 D.TIi2 hTI)
    · exact (sb.2 _ D.TOz).trans TO'
    · exact itC_at s1'.1 fun o q => (sb.2 _ D.i1z).trans q
    · exact itC_at s2'.1 fun o q => (sb.2 _ D.i2z).trans q
    · have hlt : c < s.heap.objs.size := by
        have e' : c = z ∨ c = TI ∨ c = TO ∨ c = i1 ∨ c = i2 := by simpa using hcm
        rcases e' with q | q | q | q | q
        · rw [q]; exact hzl
        · rw [q]; exact Heap.lt_size hTI
        · rw [q]; exact Heap.lt_size hTO
        · rw [q]; obtain ⟨_, e1, _⟩ := itC_obj h1; exact Heap.lt_size e1
        · rw [q]; obtain ⟨_, e2, _⟩ := itC_obj h2; exact Heap.lt_size e2
      rw [upd_ne (Nat.ne_of_lt hlt)]
      exact (hf c hcm).1
  done := by
    intro X hP hw hK hc i pins s σ H E I hf st hg
    subst hP hw hK
    obtain ⟨hz, hTI, ⟨x0, y0, hTO⟩, h1, h2⟩ := st
    obtain ⟨xs, ys, hqx, hqy, hle1, hle2, hend⟩ := hg
    obtain ⟨its, rv, p1, la⟩ := sqC_get I hqx
    obtain ⟨its2, rv2, p2, lb⟩ := sqC_get I hqy
    have l1 := rv.length
    have l2 := rv2.length
    have hh := I.ok.hd hc
    refine wpAny_pyNext_zipD2_end (sep_of D) (drawC c1 (show X.A.in1.handled = none from hh) i1 a D.l1i1 its.toArray) (drawC c2 (show X.A.in1.handled = none from hh) i2 b D.l2i2 its2.toArray) hz hTI hTO ⟨h1, p1⟩ ⟨h2, p2⟩ (by rw [List.size_toArray]; omega) (by rw [List.size_toArray]; omega) (by rw [List.size_toArray, List.size_toArray]; omega) fun h' tk hk => ⟨rfl, I.turnedL (t' := tk) (ch := [z, TI, TO, i1, i2]) (fun c o hb q =>
      hk c o (fun q' => hb (by simp [q'])) (fun q' => hb (by simp [q'])) (fun q' => hb (by simp [q'])) (fun q' => hb (by simp [q'])) q) hf⟩
  self := fun A i s Q E st h => wpAny_pyIter_zip st.1 h
/-- a value that zip takes: its kind -/
def zpOf (A : Sto) (d : D) : Option (Bool × ItD) := (seqIt A d).map fun it => (match d with
  | .tup _ => false
  | _ => true, it)
def zpIt (A : Sto) (l : List D) : Option ItD := match l with
  | [x, y] => (zpOf A x).bind fun p => (zpOf A y).map fun q => ⟨List.zipWith (fun a b => .tup [a, b]) p.2.its q.2.its, fun A' => p.2.ok A' ∧ q.2.ok A'⟩
  | _ => none
theorem zpOf_rep {B : Bx} {S : Sx} {d : D} {v : V} {it : ItD} {c : Bool} (r : Rel B S) (h : Rep B S d v) (e : zpOf S.A d = some (c, it)) :
    ∃ a, v = .ref a ∧ (∃ vs, SqC c B.K S.H a vs) ∧ (∀ S', Nxt B S S' → it.ok S'.A → ∃ vs, SqC c B.K S'.H a vs ∧ RepL B S' it.its vs) := by
  unfold zpOf at e
  obtain ⟨it', e1, e2⟩ := Option.map_eq_some_iff.mp e
  cases e2
  cases d with
  | tup l =>
    cases e1
    cases h with
    | tup h rl => exact ⟨_, rfl, ⟨_, h⟩, fun S' n _ => ⟨_, n.ext.toExt0.sqT h, rl.ext n.ext⟩⟩
  | lst l =>
    cases e1
    cases h with
    | lst h na rl => exact ⟨_, rfl, ⟨_, .inl (.inl h)⟩, fun S' n _ => ⟨_, .inl (.inl (n.ext.stays h na (fun z => z)).1), rl.ext n.ext⟩⟩
  | scr l =>
    cases e1
    cases h with
    | scr h na rl => exact ⟨_, rfl, ⟨_, .inl h⟩, fun S' n _ => ⟨_, .inl (n.ext.toExt0.rd h na).1, rl.ext n.ext⟩⟩
  | ref n =>
    unfold seqIt at e1
    dsimp only at e1
    split at e1
    · rename_i l q
      cases e1
      cases h with
      | ref hn =>
        obtain ⟨vs, h1, h2⟩ := r.obj _ _ q
        refine ⟨_, rfl, ⟨_, .inl (.inl h1)⟩, fun S' nx hok => ?_⟩
        have hok' : S'.A[n]? = some (.lst l) := hok
        obtain ⟨ws, h3, h4⟩ := nx.rel.obj n _ hok'
        rw [nx.ext.rho n hn] at h3
        exact ⟨_, .inl (.inl h3), h4⟩
    · cases e1
  | _ => cases e1
section
variable {X : Cx} {B : By} {W : WX} {e e2 : Expr} {ms : En → M (List D)} {pos p tpos : Pos} {elts : List Expr} {kk : Nat}
theorem pi_zipC {ta : TA} (hg : Gl X "zip") (hm : X.mg "zip" = none) (ha : PA X [e, e2] ta)
    (hs : starEach [e, e2] X.env = (false, eval e X.env) :: starEach [e2] X.env) (hpl : (backTo pos (starEach [e2] X.env)).any (·.1) = false) :
    PI X (.Tuple elts kk tpos) (.Call (.Name "zip" p) [e, e2] [] pos) (fun σ H R => ta σ H fun vs H1 => ∃ (c1 c2 : Bool) (a b : Addr) (xs ys : List V), vs = [.ref a, .ref b] ∧ SqC c1 X.K H1 a xs ∧ SqC c2 X.K H1 b ys ∧ R (ItzC c1 c2 X.K a b) H1) := by
  refine ⟨fun pins s σ H R I h => ?_⟩
  refine Call_ (ld_blt I hg hm PyProof.Rows.boot_zip (PyProof.Rows.callWith_type1 (thn (ha.run pos pins s σ H _ I h) fun us s1 ⟨vs, H1, I1, r1, q1⟩ => ?_) hs hpl))
  obtain ⟨c1, c2, a, b, xs, ys, ex, hqx, hqy, q⟩ := q1
  subst ex
  cases r1 with
  | cons r rr =>
    cases rr with
    | cons r' rr =>
      cases rr
      cases r
      cases r'
      obtain ⟨its, rv, p1, la⟩ := sqC_get I1 hqx
      obtain ⟨its2, rv2, p2, lb⟩ := sqC_get I1 hqy
      refine zip_begins2 (begC c1 a its.toArray) (begC c2 b its2.toArray) p1 p2 fun h' hz hTI hTO h1 h2 hsz hk => wpAny_pyIter_zip hz ?_
      have I2 : Inv X pins σ H1 { s1 with heap := h' } := I1.kept (t' := s1.toks) hk
      refine ⟨s1.heap.objs.size + 4, [s1.heap.objs.size + 4, s1.heap.objs.size + 2, s1.heap.objs.size + 3, s1.heap.objs.size, s1.heap.objs.size + 1], _, _, H1, rfl, I2, turn_zipC (PySem.W.ktu_apart s1.heap.objs.size a b la lb), ⟨hz, hTI, ⟨_, _, hTO⟩, itC_of h1, itC_of h2⟩, fun c hcm => ?_, q⟩
      have e' : c = s1.heap.objs.size + 4 ∨ c = s1.heap.objs.size + 2 ∨ c = s1.heap.objs.size + 3 ∨ c = s1.heap.objs.size ∨ c = s1.heap.objs.size + 1 := by simpa using hcm
      have hle : s1.heap.objs.size ≤ c := by
        rcases e' with z | z | z | z | z
        · rw [z]; exact Nat.le_add_right _ _
        · rw [z]; exact Nat.le_add_right _ _
        · rw [z]; exact Nat.le_add_right _ _
        · rw [z]; exact Nat.le_refl _
        · rw [z]; exact Nat.le_add_right _ _
      exact I1.fpOk hle (I1.hok.fresh hle)
theorem si_zip (hK : X.K = B.K) (hg : Gl X "zip") (hm : X.mg "zip" = none) (ha : SA X B W [e, e2] ms)
    (hs : starEach [e, e2] X.env = (false, eval e X.env) :: starEach [e2] X.env) (hpl : (backTo pos (starEach [e2] X.env)).any (·.1) = false) :
    SI X B W (.Tuple elts kk tpos) (.Call (.Name "zip" p) [e, e2] [] pos) (fun η => do let l ← ms η; doIL zpIt l) := by
  refine PI.mono (pi_zipC hg hm ha hs hpl) fun σ H R ⟨S, η, eH, r, en, p⟩ => ?_
  subst eH
  refine ⟨S, η, rfl, r, en, Post.imp (Post.bind p) fun l S1 n1 p1 vs rl => ?_⟩
  obtain ⟨it, e1, p2⟩ := p1.opt n1.rel
  unfold zpIt at e1
  split at e1
  · obtain ⟨⟨c1, it1⟩, f1, e1⟩ := Option.bind_eq_some_iff.mp e1
    obtain ⟨⟨c2, it2⟩, f2, e1⟩ := Option.map_eq_some_iff.mp e1
    cases e1
    cases rl with
    | cons r1 rl =>
      cases rl with
      | cons r2 rl =>
        cases rl
        obtain ⟨a, rfl, ⟨xs, hx⟩, g1⟩ := zpOf_rep n1.rel r1 f1
        obtain ⟨b, rfl, ⟨ys, hy⟩, g2⟩ := zpOf_rep n1.rel r2 f2
        rw [← hK] at hx hy
        refine ⟨c1, c2, a, b, xs, ys, rfl, hx, hy, p2 S1 rfl (.refl n1.rel) _ fun S' n' ok => ?_⟩
        obtain ⟨vs, q1, q2⟩ := g1 S' n' ok.1
        obtain ⟨ws, q3, q4⟩ := g2 S' n' ok.2
        rw [← hK] at q1 q3
        refine ⟨fun d i ed => ?_, ?_⟩
        · rw [List.getElem?_zipWith] at ed
          cases z1 : it1.its[i]? with
          | none => rw [z1] at ed; cases ed
          | some d1 =>
            cases z2 : it2.its[i]? with
            | none => rw [z1, z2] at ed; cases ed
            | some d2 =>
              rw [z1, z2] at ed
              cases ed
              obtain ⟨v1, y1, y2⟩ := q2.get z1
              obtain ⟨v2, y3, y4⟩ := q4.get z2
              refine ⟨⟨vs, ws, v1, v2, q1, q3, y1, y3⟩, ?_⟩
              rintro v H' ⟨T, x, y, rfl, hT, rfl, f3, f4⟩
              have ex : x = v1 := by
                have := f3 vs q1
                rw [y1] at this
                exact (Option.some.inj this).symm
              have ey : y = v2 := by
                have := f4 ws q3
                rw [y3] at this
                exact (Option.some.inj this).symm
              subst ex ey
              exact ⟨S'.put T (.tup [x, y]), rfl, rfl, .put n'.rel hT, .tup (.inl (.inl upd_same)) ((RepL.cons y2 (.cons y4 .nil)).ext (.put hT))⟩
        · have h1 := q2.length
          have h2 := q4.length
          refine ⟨vs, ws, q1, q3, ?_⟩
          show (List.zipWith _ it1.its it2.its).length ≤ _ ∧ _
          rw [List.length_zipWith]
          omega
  · cases e1
end
end Cr
end

section
set_option Elab.async false
set_option linter.all false
set_option maxRecDepth 100000
set_option maxHeartbeats 1000000
/-! Core, part O: dicts walked; dicts that are not changed any more. -/
namespace Cr
open PySem PySem.Spec PyProof.Rows L2

def ItR (P : Program) (w : World) (a : Addr) (o : Obj) (xs : Raw) : It :=
  ⟨fun i H => H a = some (.frz o (rawD P w a xs)) ∧ i < xs.length, fun i H x H' => H' = H ∧ ∃ y, xs[i]? = some y ∧ x = .ref y.2.1, fun i H => H a = some (.frz o (rawD P w a xs)) ∧ xs.length ≤ i⟩
theorem frzR {X : Cx} {pins : List (Addr × Obj)} {σ : L2.St} {H : Hp} {s : Shared} {a : Addr} {o : Obj} {P : Program} {w : World} {xs : Raw} (I : Inv X pins σ H s) (h : H a = some (.frz o (rawD P w a xs))) :
    (a == sysModules) = false ∧ s.heap.get? a = some o ∧ o.ExactDict ∧ ∃ (es : Array DictEntry) (ep : Nat), o.data = .dict es ep ∧ es.size = xs.length ∧ ∀ (i : Nat) y, xs[i]? = some y → ∃ en : DictEntry, es[i]? = some en ∧ en.key = .ref y.2.1 := by
  obtain ⟨e, ⟨h1, h2, o', es, ep, h3, h4, h5, h6⟩, _⟩ := (show ObjOk X.prog X.w H s.heap a (.frz o (rawD P w a xs)) from I.hok a _ h)
  rw [e] at h3
  cases h3
  have hsz : es.size = xs.length := by
    have := congrArg List.length h6
    simpa using this
  refine ⟨h1, e, h4, es, ep, h5, hsz, fun i y hy => ?_⟩
  have q : es.toList[i]? = some (entryOfKey (nestedKind P w) y) := by rw [h6, List.getElem?_map, hy]; rfl
  exact ⟨_, by rw [← Array.getElem?_toList]; exact q, rfl⟩
theorem turn_raw {P0 : Program} {w0 : World} {P : Program} {w : World} {K : PySem.W.Frag} {tg : Expr} {a : Addr} {o : Obj} {es : Array DictEntry} {ep : Nat} {xs : Raw} (it : Addr) (hod : o.data = .dict es ep) :
    Turn P w K tg (ItR P0 w0 a o xs) [it] it (fun i h => h.IsKeyIter it a i xs.length ep) where
  mem := by simp
  obj := fun i h st b hb => by
    have e : b = it := by simpa using hb
    subst e
    obtain ⟨oi, e, c, dd⟩ := st
    exact ⟨oi, e, fun v z => by rw [dd] at z; cases z⟩
  keep := fun i h h' st k => st.at fun oi e => k it (by simp) oi e
  item := by
    intro X hP hw hK hc i pins s σ H E I hf st hg
    subst hP hw hK
    obtain ⟨hd, hi⟩ := hg
    obtain ⟨f0, f1, f2, f3, f4, f5⟩ := hf it (by simp)
    obtain ⟨hs, hgd, hx, es', ep', hdt, hsz, ent⟩ := frzR I hd
    obtain ⟨rfl, rfl⟩ := dict_ep hod hdt
    obtain ⟨y, hy⟩ : ∃ p, xs[i]? = some p := ⟨xs[i], List.getElem?_eq_getElem hi⟩
    obtain ⟨en, hen, hkey⟩ := ent i y hy
    refine next_key_item st hgd hdt hsz hen fun h' st' sb => ?_
    have I1 : Inv X pins σ H { s with heap := h' } := I.turned (t' := s.toks) (fun b ob hb e => (sb.2 b hb).trans e) f0 f1 f3 f4 f5
    obtain ⟨oi, e, c, dd⟩ := id st'
    exact ⟨en.key, rfl, go_of (s := { s with heap := h' }) e c dd (by decide) ⟨.ref y.2.1, H, I1, hkey, ⟨rfl, y, hy, rfl⟩, st', fun b hb => (hf b hb).1⟩⟩
  done := by
    intro X hP hw hK hc i pins s σ H E I hf st hg
    subst hP hw hK
    obtain ⟨hd, hi⟩ := hg
    obtain ⟨f0, f1, f2, f3, f4, f5⟩ := hf it (by simp)
    obtain ⟨hs, hgd, hx, es', ep', hdt, hsz, ent⟩ := frzR I hd
    obtain ⟨rfl, rfl⟩ := dict_ep hod hdt
    exact next_key_end (I.ok.hd hc) st hgd hdt hsz hi fun h' eb => ⟨rfl, I.turned (t' := s.toks) (fun b ob hb e => eb b ob hb e) f0 f1 f3 f4 f5⟩
  self := fun A i s Q E st h => by
    refine wpAny_pyIter_slot st.typeIs F.slot_dict_keyiterator_iter (wpAny_call_entry F.slot_dict_keyiterator_iter st.typeIs F.entry_dict_keyiterator_iter ?_ (F.args_dict_keyiterator_iter_1 _))
    show wpAny _ _ (ret (.ref it)) _ _ s
    exact wpAny_pure ⟨_, rfl, "dict_keyiterator", _, st.typeIs, F.slot_dict_keyiterator_next.lookup, h⟩
/-- the walk over a dict's keys -/
def rdKeys (P : Program) (w : World) : V → Hp → (It → Hp → Prop) → Prop := fun x H R => ∃ a, x = .ref a ∧
  ((∃ xs, (∃ o, H a = some (.frz o (rawD P w a xs)) ∧ R (ItR P w a o xs) H) ∨ (H a = some (rawD P w a xs) ∧ ∀ o, R (ItR P w a o xs) (upd H a (.frz o (rawD P w a xs))))) ∨
   (∃ kvs, (∃ o, H a = some (.frz o (.dK kvs)) ∧ R (Itk a o kvs) H) ∨ (H a = some (.dK kvs) ∧ ∀ o, R (Itk a o kvs) (upd H a (.frz o (.dK kvs))))))
theorem pi_keysD {X : Cx} {tg e : Expr} {te : TE} (P : Program) (w : World) (he : PE X e te) : PI X tg e (fun σ H R => te σ H fun x H1 => rdKeys P w x H1 R) := by
  refine ⟨fun pins s σ H R I h => ?_⟩
  refine thn (he.run pins s σ H _ I h) fun u s1 ⟨x, H1, I1, rx, a, ex, q⟩ => ?_
  subst ex
  obtain rfl : u = Value.ref a := rx
  have raw : ∀ {H2 : Hp} {o : Obj} {xs : Raw}, Inv X pins σ H2 s1 → H2 a = some (.frz o (rawD P w a xs)) → R (ItR P w a o xs) H2 → wpAny (model X.prog X.w) X.A (pyIter (.ref a)) (PIE X pins σ tg R) X.xe s1 := fun {H2 o xs} I2 hd q => by
    obtain ⟨hs, hgd, hx, es, ep, hdt, hsz, ent⟩ := frzR I2 hd
    refine iter_keys hs hgd hx hdt (pi_one (tk := s1.toks) I2 _ (turn_raw _ hdt) ⟨_, Heap.get?_push_size _ rfl, rfl, ?_⟩ q)
    rw [hsz] <;> rfl
  have key : ∀ {H2 : Hp} {o : Obj} {kvs : List (Key × V)}, Inv X pins σ H2 s1 → H2 a = some (.frz o (.dK kvs)) → R (Itk a o kvs) H2 → wpAny (model X.prog X.w) X.A (pyIter (.ref a)) (PIE X pins σ tg R) X.xe s1 := fun {H2 o kvs} I2 hd q => by
    obtain ⟨hs, hgd, hx, es, ep, vs, hdt, hsz, kv, hm⟩ := I2.frzK hd
    refine iter_keys hs hgd hx hdt (pi_one (tk := s1.toks) I2 _ (turn_keys _ hdt) ⟨_, Heap.get?_push_size _ rfl, rfl, ?_⟩ q)
    rw [hsz] <;> rfl
  rcases q with ⟨xs, ⟨o, hd, q⟩ | ⟨hd, q⟩⟩ | ⟨kvs, ⟨o, hd, q⟩ | ⟨hd, q⟩⟩
  · exact raw I1 hd q
  · obtain ⟨od, I2⟩ := I1.lock hd trivial
    exact raw I2 upd_same (q od)
  · exact key I1 hd q
  · obtain ⟨od, I2⟩ := I1.lock hd trivial
    exact key I2 upd_same (q od)
def kD : Key → D
  | .inl i => .int i
  | .inr x => .str x
theorem kD_rep {B : Bx} {S : Sx} (k : Key) : Rep B S (kD k) (kV k) := by
  cases k with
  | inl i => exact .int i
  | inr x => exact .str x
def keyIt (_ : Sto) (d : D) : Option ItD := match d with
  | .dn l => some ⟨l.map fun p => ofKey p.1, fun _ => True⟩
  | .dk l => some ⟨l.map fun p => kD p.1, fun _ => True⟩
  | _ => none
theorem RepN.keyAt {B : Bx} {S : Sx} : ∀ {l : List (NestedKey × D)} {xs : Raw}, RepN B S l xs → ∀ {i : Nat} {y}, xs[i]? = some y → ∃ p, l[i]? = some p ∧ KeyAt B.K S.H p.1 (.ref y.2.1)
  | _, _, .nil, _, _, e => by simp at e
  | _, _, .cons k1 k2 h r t, 0, y, e => by
    simp at e
    subst e
    exact ⟨_, rfl, k1⟩
  | _, _, .cons k1 k2 h r t, i + 1, y, e => by
    obtain ⟨p, h1, h2⟩ := RepN.keyAt t (i := i) (y := y) (by simpa using e)
    exact ⟨p, by simpa using h1, h2⟩
theorem RepK.keyAt {B : Bx} {S : Sx} : ∀ {l : List (Key × D)} {xs : List (Key × V)}, RepK B S l xs → ∀ {i : Nat} {k : Key} {v : V}, xs[i]? = some (k, v) → ∃ d, l[i]? = some (k, d)
  | _, _, .nil, _, _, _, e => by simp at e
  | _, _, .cons h t, 0, k, v, e => by
    simp at e
    obtain ⟨rfl, rfl⟩ := e
    exact ⟨_, rfl⟩
  | _, _, .cons h t, i + 1, k, v, e => by
    obtain ⟨p, h1⟩ := RepK.keyAt t (i := i) (k := k) (v := v) (by simpa using e)
    exact ⟨p, by simpa using h1⟩
section
variable {X : Cx} {B : By} {W : WX} {e tg : Expr} {me : En → M D}
theorem ri_raw {S : Sx} {a : Addr} {o : Obj} {xs : Raw} {l : List (NestedKey × D)} (h : S.H a = some (.frz o (rawD B.prog B.w a xs))) (na : ¬ Live S a) (rn : RepN B.toBx S l xs) :
    RI B.toBx S ⟨l.map fun p => ofKey p.1, fun _ => True⟩ (ItR B.prog B.w a o xs) := fun S' n _ => by
  have h' := (n.ext.stays h na (fun z => z)).1
  have hl := rn.length
  refine ⟨fun d i ed => ?_, ⟨h', by show _ ≤ (l.map _).length; rw [List.length_map]; omega⟩⟩
  rw [List.getElem?_map] at ed
  obtain ⟨p, ep, rfl⟩ := Option.map_eq_some_iff.mp ed
  have hi : i < xs.length := by rw [← hl]; exact (List.getElem?_eq_some_iff.mp ep).1
  refine ⟨⟨h', hi⟩, ?_⟩
  rintro x H' ⟨rfl, y, hy, rfl⟩
  refine ⟨S', rfl, rfl, .refl n.rel, ?_⟩
  obtain ⟨p', e1, e2⟩ := rn.keyAt hy
  rw [ep] at e1
  cases e1
  exact ofKey_rep (e2.ext0 n.ext.toExt0)
theorem ri_key {S : Sx} {a : Addr} {o : Obj} {kvs : List (Key × V)} {l : List (Key × D)} (h : S.H a = some (.frz o (.dK kvs))) (na : ¬ Live S a) (rn : RepK B.toBx S l kvs) :
    RI B.toBx S ⟨l.map fun p => kD p.1, fun _ => True⟩ (Itk a o kvs) := fun S' n _ => by
  have h' := (n.ext.stays h na (fun z => z)).1
  have hl := rn.length
  refine ⟨fun d i ed => ?_, ⟨h', by show _ ≤ (l.map _).length; rw [List.length_map]; omega⟩⟩
  rw [List.getElem?_map] at ed
  obtain ⟨p, ep, rfl⟩ := Option.map_eq_some_iff.mp ed
  have hi : i < kvs.length := by rw [← hl]; exact (List.getElem?_eq_some_iff.mp ep).1
  refine ⟨⟨h', hi⟩, ?_⟩
  rintro x H' ⟨rfl, k, v, hy, rfl⟩
  refine ⟨S', rfl, rfl, .refl n.rel, ?_⟩
  obtain ⟨d', e1⟩ := rn.keyAt hy
  rw [ep] at e1
  cases e1
  exact kD_rep _
/-- over the keys of a dict that is not changed any more -/
theorem si_keys (he : SE X B W e me) : SI X B W tg e (fun η => do let d ← me η; doI keyIt d) := by
  refine PI.mono (pi_keysD B.prog B.w he) fun σ H R ⟨S, η, eH, r, en, p⟩ => ?_
  subst eH
  refine ⟨S, η, rfl, r, en, Post.imp (Post.bind p) fun d S1 n1 p1 v r1 => ?_⟩
  obtain ⟨it, e1, p2⟩ := p1.opt n1.rel
  unfold keyIt at e1
  split at e1
  · cases e1
    cases r1 with
    | @dn a xs l h na nd rn =>
      refine ⟨a, rfl, .inl ⟨xs, ?_⟩⟩
      rcases h with h | ⟨o, h⟩
      · refine .inr ⟨h, fun o => ?_⟩
        have nx : Nxt B.toBx S1 (S1.lock a o (rawD B.prog B.w a xs)) := .lock n1.rel h na trivial
        exact p2 (S1.lock a o (rawD B.prog B.w a xs)) rfl nx _ (ri_raw (S := S1.lock a o (rawD B.prog B.w a xs)) upd_same na (rn.ext nx.ext))
      · exact .inl ⟨o, h, p2 S1 rfl (.refl n1.rel) _ (ri_raw h na rn)⟩
  · cases e1
    cases r1 with
    | @dk a kvs l h na rn =>
      refine ⟨a, rfl, .inr ⟨kvs, ?_⟩⟩
      rcases h with h | ⟨o, h⟩
      · refine .inr ⟨h, fun o => ?_⟩
        have nx : Nxt B.toBx S1 (S1.lock a o (.dK kvs)) := .lock n1.rel h na trivial
        exact p2 (S1.lock a o (.dK kvs)) rfl nx _ (ri_key (S := S1.lock a o (.dK kvs)) upd_same na (rn.ext nx.ext))
      · exact .inl ⟨o, h, p2 S1 rfl (.refl n1.rel) _ (ri_key h na rn)⟩
  · cases e1

/-! ### a name's object is not changed any more -/
/-- the list or dict of slot i is frozen -/
def frzV (i : Nat) (η : En) : M En := fun A => match η[i]? with
  | some (some (.ref n)) => match A[n]? with
    | some (.lst l) => .ok (η.set i (some (.lst l))) (A.set n .gone)
    | some (.dk l) => .ok (η.set i (some (.dk l))) (A.set n .gone)
    | some (.dn l) => .ok (η.set i (some (.dn l))) (A.set n .gone)
    | _ => .err
  | _ => .err
theorem EnR.upTo {S : Sx} {η : En} {σ : L2.St} (h : EnR B.toBx S η σ) {i : Nat} {d : D} {v : V} (hv : σ[i]? = some (some v)) (r : Rep B.toBx S d v) : EnR B.toBx S (η.set i (some d)) σ := by
  refine ⟨by rw [List.length_set]; exact h.len, fun j d' q => ?_⟩
  by_cases hj : i = j
  · subst hj
    rw [List.getElem?_set] at q
    split at q
    · split at q
      · cases q
        exact ⟨v, hv, r⟩
      · cases q
    · exact absurd rfl ‹_›
  · rw [List.getElem?_set_ne hj] at q
    exact h.get j d' q
theorem frzV_ok {S : Sx} {η η' : En} {σ : L2.St} {i : Nat} {A' : Sto} (r : Rel B.toBx S) (en : EnR B.toBx S η σ) (e : frzV i η S.A = .ok η' A') : ∃ S', S'.A = A' ∧ S'.H = S.H ∧ Nxt B.toBx S S' ∧ EnR B.toBx S' η' σ := by
  unfold frzV at e
  split at e
  · rename_i n hi
    obtain ⟨v, hv, rv⟩ := en.get i _ hi
    cases rv with
    | ref hn =>
      split at e
      · rename_i l q
        cases e
        obtain ⟨vs, h1, h2⟩ := r.obj n _ q
        exact ⟨S.frz n, rfl, rfl, .frz r, (en.ext .frz).upTo hv (.lst h1 (nlive_frz r q (fun z => nomatch z)) (h2.ext .frz))⟩
      · rename_i l q
        cases e
        obtain ⟨vs, h1, h2⟩ := r.obj n _ q
        exact ⟨S.frz n, rfl, rfl, .frz r, (en.ext .frz).upTo hv (.dk (.inl h1) (nlive_frz r q (fun z => nomatch z)) (h2.ext .frz))⟩
      · rename_i l q
        cases e
        obtain ⟨vs, h1, nd, h2⟩ := r.obj n _ q
        exact ⟨S.frz n, rfl, rfl, .frz r, (en.ext .frz).upTo hv (.dn (.inl h1) (nlive_frz r q (fun z => nomatch z)) nd (h2.ext .frz))⟩
      · cases e
  · cases e
theorem frzV_exc {i : Nat} {η : En} {A A' : Sto} {c : Nat} {d : D} : frzV i η A ≠ .exc c d A' := by
  unfold frzV
  split
  · split <;> intro h <;> cases h
  · intro h; cases h
theorem Post.frzV {E : XK} {S : Sx} {α : Type} {P : α → Sx → Prop} {i : Nat} {η : En} {σ : L2.St} {m : En → M α} (r : Rel B.toBx S) (en : EnR B.toBx S η σ) (h : Post B E S P ((frzV i η >>= m) S.A)) : ∃ S' η', S'.H = S.H ∧ Nxt B.toBx S S' ∧ EnR B.toBx S' η' σ ∧ Post B E S' P (m η' S'.A) := by
  rw [M.bind_def] at h
  cases q : Cr.frzV i η S.A with
  | ok η' A' =>
    rw [q] at h
    obtain ⟨S', e1, e2, n, en'⟩ := frzV_ok r en q
    subst e1
    exact ⟨S', η', e2, n, en', Post.later h n⟩
  | exc c d A' => exact absurd q frzV_exc
  | err => rw [q] at h; exact h.elim
/-- from here on slot i's object is not changed -/
theorem ss_frz {sts : List Stmt} {m : En → M (En × Ctl)} (i : Nat) (h : SSs X B W sts m) : SSs X B W sts (fun η => do let η' ← frzV i η; m η') := PSs.mono h fun Dn σ H ⟨S, η, eH, r, en, p⟩ => by
  subst eH
  obtain ⟨S', η', e, n, en', p'⟩ := Post.frzV r en p
  exact ⟨S', η', e, n.rel, en', p'⟩
end
end Cr
end

section
set_option Elab.async false
set_option linter.all false
set_option maxRecDepth 100000
set_option maxHeartbeats 2000000
set_option pp.maxSteps 300
/-! Core, part P: an own exception two steps under Exception: made with super().__init__(text); self.f = x. -/
namespace Cr
open PySem PySem.Spec PyProof.Rows PySem.W PySem.Calls

abbrev exB : List Value := [.type "Exception", .type "BaseException", .type "object"]
section
open Builtin Builtin.ObjectAttr
variable {prog : Program} {w : World} {A : Around} {E : Value → Shared → Prop} {R : Result → Shared → Prop} {hp : Heap} {g : Array GenState} {d : Drawn} {t : Nat} {os : OsState}
/-- a first field of an exception, by what its mro lets pass -/
theorem osaP {K : W.Frag} {name : Str} {tk : Tok} {v : Value} {x C : Addr} {fv : Array Value} {cd : ClassData}
    (X : K.In hp) (hx : hp.get? x = some { cls := .ref C, data := .fields fv }) (hcd : W.clsIn K C = some cd) (hpass : refuseLoop (.ref x) "__setattr__" cd.mro = pure ()) (hob : W.mroIn K C (.type "object") = some true) (hh : cd.hasDict = true) (ha : W.findIn K (.ref C) name = some none)
    (hq : ∀ h' tk' dx, (∀ b o, b ≠ x → hp.get? b = some o → h'.get? b = some o) → hp.objs.size ≤ dx → dx ≠ x → h'.get? x = some { cls := .ref C, dict := some dx, data := .fields fv } →
      h'.Ns1 dx (fun y => if y = name then some v else none) → R (.ok (.ret .none)) ⟨h', g, d, tk', os⟩) :
    codeAny (model prog w) A (.call (.builtin "object.__setattr__") ⟨[.ref x, .str name tk, v], []⟩) R ⟨hp, g, d, t, os⟩ := by
  have I : W.InstAt hp x { cls := .ref C, data := .fields fv } C none := ⟨hx, rfl, rfl, trivial⟩
  have SF := F.store_object
  have hxs : x ≠ hp.objs.size := Nat.ne_of_lt (Heap.lt_size hx)
  have sub : W.Looks (model prog w) hp (isInstance (.ref x) (.type "object")) true := I.type.andThen (W.looks_mroIn X hob)
  refine codeAny_call_builtin SF.slot.plain SF.entry (@W.check_slot (model prog w) _ _ ⟨hp, g, d, t, os⟩ "object.__setattr__" "object" "__setattr__" (.ref x) [.str name tk, v] [] _ SF.kind SF.split sub (SF.args (.ref x) (.str name tk) v) ?_)
  have hmr : W.Looks (model prog w) hp (mroOf (.ref C)) cd.mro := (W.looks_clsIn X hcd).andThen .now
  have L3 : W.Looks (model prog w) hp (storeTaker? none) none := .now
  have hcls : W.Looks (model prog w) hp (classData C) cd := W.looks_clsIn X hcd
  rw [W.osa_eq, refuse_eq]
  refine wpAny_bind (wpAny_bind (I.type.at (wpAny_bind (hmr.at ?_))))
  rw [hpass]
  refine wpAny_pure (wpAny_bind (I.type.at (wpAny_bind ((W.looks_findIn X ha).at (wpAny_bind (L3.at ?_))))))
  show wpAny _ _ (storeInOwnDict (.ref x) (.ref C) (.str name tk) name v false) _ _ _
  obtain ⟨nm, bs, mro, ns, qn, hd, sn, sb, ab, col, del⟩ := cd
  dsimp only at hh
  subst hh
  unfold storeInOwnDict ownDictForStores
  repeat (first | with_reducible refine PySem.HandSPX.store_in_new ?_ ?_ | with_reducible refine wpAny_loadPart_at hx ?_ | with_reducible refine hcls.at ?_ | wp_step)
  · exact ⟨_, #[], _, (Heap.get?_update_ne _ _ _ _ hxs.symm).trans (Heap.get?_push_at rfl rfl), rfl, fun e he => absurd he (by simp), fun _ => rfl⟩
  · intro h' tk' hn' hs
    have hx₁ : (hp.push { cls := .type "dict", data := .dict #[] }).get? x = some { cls := .ref C, data := .fields fv } := Heap.get?_push_of_some _ hx
    refine hq h' tk' hp.objs.size (fun b o hb ho => ?_) (Nat.le_refl _) hxs.symm ?_ hn'
    · exact (hs.2 b (Nat.ne_of_lt (Heap.lt_size ho))).trans ((Heap.get?_update_ne _ _ _ _ hb).trans (Heap.get?_push_of_some _ ho))
    · exact (hs.2 x hxs).trans (Heap.get?_update_self _ hx₁ rfl)
end
theorem news_lt {a L h l} {p : Addr × Obj} (N : News a L h l) (m : p ∈ l) : p.1 < h.objs.size := Heap.lt_size (N p m).1
/-- what the written part says of such a class, its __init__(self, f) at fI, the cell of the class at cc, the code object at cda -/
structure ExcS (P : Program) (K : PySem.W.Frag) (C fI cc cda : Addr) (qual : Str) (params : Arguments) (body : List Stmt) (scope : Scope) (f : Str) : Prop where
  init : PySem.W.excInitIn K C exB "Exception.__new__" = true
  iC : PySem.W.findIn K (.ref C) "__init__" = some (some (.ref fI))
  tI : PySem.W.typeIn K (.ref fI) = some (.type "function")
  fn : ∃ oc od kV doc pm an ct osl, K.lookup fI = some ⟨oc, od, .func (PySem.W.ksFn "__init__" qual params body scope .none kV doc pm an (.ref cda) ct cc), osl⟩
  code : PySem.W.codeIn K (.ref cda) qual = true
  codeO : ∃ ccl cdd vs ccs file tf, K.lookup cda = some ⟨ccl, cdd, .fields vs, ccs⟩ ∧ vs[2]? = some (.str file tf) ∧ ((P.main.file : Str) == file) = true
  cell : ∃ cl cld csl, K.lookup cc = some ⟨cl, cld, .cell (some (.ref C)), csl⟩
  sup : PySem.W.ks_superIn K C C "__init__" = some (some (.builtin "Exception.__init__"))
  subE : PySem.W.subIn K (.ref C) (.type "Exception") = some true
  sa : PySem.W.findIn K (.ref C) "__setattr__" = some (some (.builtin "object.__setattr__"))
  noF : PySem.W.findIn K (.ref C) f = some none
  exC : PySem.W.subIn K (.ref C) (.type "BaseException") = some true
  tyC : PySem.W.typeIn K (.ref C) = some (.type "type")
  kC : PySem.W.keepIn K (.ref C) = true
  opq : PySem.W.nsIn K cStatics "thirdparty.any" = some none
  ob : PySem.W.mroIn K C (.type "object") = some true
  self : PySem.W.mroIn K C (.ref C) = some true
  cls : ∃ cd, PySem.W.clsIn K C = some cd ∧ cd.hasDict = true ∧ ∃ D0 : Addr, cd.mro = .ref C :: .ref D0 :: exB
section
variable {P : Program} {w : World} {K : PySem.W.Frag} {C fI cc cda : Addr} {qual : Str} {params : Arguments} {scope : Scope} {f : Str} {A : Around} {R : Result → Shared → Prop} {hp : Heap} {g : Array GenState} {d : Drawn} {t : Nat} {os : OsState} {mg mb : Str → Option Value}
  {p0 p1 p2 p3 p4 p5 p6 p7 p8 p9 : Pos} {j : Nat} {txt : Str}
abbrev initBody (f txt : Str) (j : Nat) (p0 p1 p2 p3 p4 p5 p6 p7 p8 p9 : Pos) : List Stmt :=
  [.Expr (.Call (.Attribute (.Call (.Name "super" p0) [] [] p1) "__init__" p2) [.Constant (.str txt) j p3] [] p4) p5, .Assign [.Attribute (.Name "self" p6) f p7] (.Name f p8) p9]
abbrev supE (txt : Str) (j : Nat) (p0 p1 p2 p3 p4 : Pos) : Expr := .Call (.Attribute (.Call (.Name "super" p0) [] [] p1) "__init__" p2) [.Constant (.str txt) j p3] [] p4
theorem init_walk {h₀ : Heap} (T : ExcS P K C fI cc cda qual params (initBody f txt j p0 p1 p2 p3 p4 p5 p6 p7 p8 p9) scope f) (k0 : ∀ b o, h₀.get? b = some o → hp.get? b = some o) (hz : h₀.objs.size ≤ hp.objs.size) (X₀ : K.In h₀) (lim : h₀.NoLimit) (G : h₀.Ns mainGlobals mg) (Bn : h₀.Ns builtinsNs mb) (hbb : ∀ x : Str, x ≠ "__name__" → mb x = bootBuiltins x)
    (hsup : mg "super" = none) (htop : (P.main.scope.names.lookup ("super" : Str)).isSome = false) (hroom : A.depth < recursionLimit)
    {e t0 : Addr} {v : Value} (he : hp.get? e = some (PySem.HandSPX.excO C t0)) (h0e : h₀.get? e = none)
    (hbind : ∀ kV doc pm an ct, bindArgs (PySem.W.ksFn "__init__" qual params (initBody f txt j p0 p1 p2 p3 p4 p5 p6 p7 p8 p9) scope .none kV doc pm an (.ref cda) ct cc) ⟨[.ref e, v], []⟩ = pure [(("self" : Str), .ref e), (f, v)])
    (hs : scope.kind = .function) (hco : scope.isCoroutine = false) (hgen : scope.isGenerator = false) (hcell : ∀ x ∈ scope.names, x.2 ≠ .cell) (l1 : scope.names.lookup ("self" : Str) = some .local) (l2 : scope.names.lookup f = some .local)
    (l3 : scope.names.lookup ("super" : Str) = some .globalImplicit) (l4 : scope.names.lookup ("__class__" : Str) = some .free) (hpar : ∃ ar : Arg, (params.posonlyargs ++ params.args).head? = some ar ∧ ar.arg = "self")
    (hfs : f ≠ "self") (hfd : (f == ("__debug__" : Str)) = false)
    (hmc : ∀ L : Addr, ∃ pl : Sem Bool, eval (supE txt j p0 p1 p2 p3 p4) (PySem.W.ksEnv qual scope L fI (.ref cda) cc) = (do
      let ov ← attributeBase (.Call (.Name "super" p0) [] [] p1) "__init__" (PySem.W.ksEnv qual scope L fI (.ref cda) cc) (eval (.Call (.Name "super" p0) [] [] p1) (PySem.W.ksEnv qual scope L fI (.ref cda) cc))
      standAt p2.atName
      let (f, first) ← holding [ov] (getMethod ov "__init__" pl)
      callWith p4 f first (backTo p4 (starEach [.Constant (.str txt) j p3] (PySem.W.ksEnv qual scope L fI (.ref cda) cc))) []))
    (hsw1 : ∀ L : Addr, swapsWith (supE txt j p0 p1 p2 p3 p4) none p5.line (PySem.W.ksEnv qual scope L fI (.ref cda) cc) = pure false)
    (hsw2 : ∀ L : Addr, swapsWith (.Name f p8) (some (.Attribute (.Name "self" p6) f p7)) p9.line (PySem.W.ksEnv qual scope L fI (.ref cda) cc) = pure false)
    (hq : ∀ h' tk' dx t1, (∀ b o, h₀.get? b = some o → h'.get? b = some o) → hp.objs.size ≤ dx → h'.get? e = some ({ cls := .ref C, dict := some dx, data := .fields #[.ref t1, .none, .none, .none, .bool false, .none] } : Obj) →
      h'.Ns1 dx (fun y => if y = f then some v else none) → R (.ok (.ret .none)) ⟨h', g, d, tk', os⟩) :
    codeAny (model P w) A (.call (.ref fI) ⟨[.ref e, v], []⟩) R ⟨hp, g, d, t, os⟩ := by
  obtain ⟨oc, od, kV, doc, pm, an, ct, osl, lk⟩ := T.fn
  obtain ⟨ccl, cdd, vs, ccs, file, tf, lc, hv2, hfile⟩ := T.codeO
  obtain ⟨cl, cld, csl, lcell⟩ := T.cell
  obtain ⟨cd, hcd, hdct, D0, hmro⟩ := T.cls
  obtain ⟨ar, har, hself⟩ := hpar
  have X : K.In hp := X₀.keeps k0
  have hne : e ≠ hp.objs.size := Nat.ne_of_lt (Heap.lt_size he)
  refine ks_codeAny_call_defAt (s := ⟨hp, g, d, t, os⟩) (fd := PySem.W.ksFn "__init__" qual params (initBody f txt j p0 p1 p2 p3 p4 p5 p6 p7 p8 p9) scope .none kV doc pm an (.ref cda) ct cc) (body := initBody f txt j p0 p1 p2 p3 p4 p5 p6 p7 p8 p9) (binds := [(("self" : Str), .ref e), (f, v)])
    hroom (X _ _ lk) rfl (lim.keeps k0) (PySem.W.codeRec_of X T.code) rfl (BindsTo.of_eq (hbind ..)) hcell ?_ (fun h₁ hns hk => ?_) hco hgen hs
  · intro y hy
    rcases List.mem_cons.mp hy with rfl | hy
    · exact l1
    · rw [List.mem_singleton] at hy
      subst hy
      exact l2
  have FF : Fr h₀ hp.objs.size h₁ (fun x => [(("self" : Str), Value.ref e), (f, v)].reverse.lookup x) := ⟨hns, fun b o eb => hk b o (k0 b o eb), hz⟩
  have NN : News h₀ hp.objs.size h₁ [(e, excObj C t0 none .none)] := fun p hp' => by
    rw [List.mem_singleton] at hp'
    subst hp'
    exact ⟨hk _ _ he, hne, h0e⟩
  have X1 : K.In h₁ := X₀.keeps FF.keep
  have I : InstAt h₁ e (excObj C t0 none .none) C none := ⟨(NN (e, excObj C t0 none .none) (by simp)).1, rfl, rfl, trivial⟩
  have hmself : [(("self" : Str), Value.ref e), (f, v)].reverse.lookup ("self" : Str) = some (.ref e) := by
    have q : (("self" : Str) == f) = false := by simpa using fun z => hfs z.symm
    show List.lookup ("self" : Str) [(f, v), (("self" : Str), Value.ref e)] = some (.ref e)
    rw [List.lookup_cons, q]
    rfl
  have hmf : [(("self" : Str), Value.ref e), (f, v)].reverse.lookup f = some v := by simp [List.lookup]
  obtain ⟨oD, hD1, hD2⟩ : ∃ oD, h₁.get? C = some oD ∧ oD.data = .cls cd := by
    unfold clsIn at hcd
    split at hcd
    · rename_i c d cd' sl ho
      cases hcd
      exact ⟨_, X1 _ _ ho, rfl⟩
    · cases hcd
  obtain ⟨pl, hmc⟩ := hmc hp.objs.size
  show _root_.PySem.wpAt (model P w) (A.deeper (PySem.W.ksEnv qual scope hp.objs.size fI (.ref cda) cc)) (.func (initBody f txt j p0 p1 p2 p3 p4 p5 p6 p7 p8 p9) (PySem.W.ksEnv qual scope hp.objs.size fI (.ref cda) cc)) (execs (initBody f txt j p0 p1 p2 p3 p4 p5 p6 p7 p8 p9) (PySem.W.ksEnv qual scope hp.objs.size fI (.ref cda) cc)) _ _ _
  refine ks_wpAt_execs_cons (ks_wpAt_Expr_any (ks_wpAt_MethodCall (pl := pl) ?_ hmc) (by simp [interactive, hs]) (hsw1 _))
  refine ks_wpAt_super_base (env := PySem.W.ksEnv qual scope hp.objs.size fI (.ref cda) cc) l3 l4 rfl rfl (X1 _ _ lk) rfl har rfl (X1 _ _ lc) rfl hv2 hfile htop ?_
  refine ks_loadName_global hs l3 (loadGlobal_builtin (env := PySem.W.ksEnv qual scope hp.objs.size fI (.ref cda) cc) (G.keeps FF.keep) hsup (Bn.keeps FF.keep) ((hbb _ (by decide +kernel)).trans PyProof.Rows.Boot.«super») ⟨rfl, ?_⟩)
  refine wpAny_loadName_free hs l4 rfl ⟨_, X1 _ _ lcell, rfl⟩ ?_
  rw [hself]
  refine wpAny_loadName_local hs l1 FF.ns hmself ?_
  refine ks_wpAny_isType_cls hD1 hD2 ⟨rfl, ?_⟩
  refine ks_wpAny_call_super hD1 hD2 I.at_ I.cls (fun c z => ?_) (looks_mroIn X1 T.self) (fun h' eso k => ?_)
  · cases z
  obtain ⟨F', N', l'⟩ := ks_newsPush (s := ⟨h₁, g, d, t, os⟩) FF NN rfl eso k
  have I' : InstAt h' e (excObj C t0 none .none) C none := ⟨k _ _ I.at_, rfl, rfl, trivial⟩
  refine kxs_method kxs_Exception F' X₀ N' (by simp) I' T.opq T.sup T.subE rfl fun q h'' F'' N'' l'' => ?_
  have soe : h₁.objs.size ≠ e := Ne.symm (Nat.ne_of_lt (l' (e, excObj C t0 none .none) (by simp)))
  have qe : q ≠ e := Ne.symm (Nat.ne_of_lt (l'' (e, excObj C t0 none .none) (by simp)))
  refine kxs_callWith1 (i := "Exception.__init__") (x := e) (u := q) N'' (by simp) ?_ rfl rfl
  show wpAny _ _ (spliced ((false, eval (.Constant (.str txt) j p3) _) :: backTo p4 (starEach [] _))) _ _ _
  refine Calls.spliced_cons (Calls.Constant_str (Calls.spliced_nil ⟨kxs_at N'' (by simp), ?_⟩))
  refine kxs_call F'' X₀ N'' PySem.F.excBase_Exception T.init (by simp) (.tail qe (.tail soe (.head (fun p hp => by cases hp)))) (by show 1 ≤ sizeLine; decide) fun t' h3 F3 N3 l3 => ?_
  have X3 : K.In h3 := X₀.keeps F3.keep
  have I3 : h3.get? e = some (excObj C t' none .none) := (N3 (e, excObj C t' none .none) (by simp)).1
  refine ks_wpAt_execs_cons (ks_wpAt_Assign_Attr (wpAt_of_wpAny (wpAny_Name (wpAny_loadName_local hs l2 F3.ns hmf (wpAny_Name (wpAny_loadName_local hs l1 F3.ns hmself ?_) rfl)) hfd)) (hsw2 _))
  refine set_plain (od := none) X3 ⟨I3, rfl, rfl, trivial⟩ T.sa (osaP X3 I3 hcd ?_ T.ob hdct T.noF fun h4 tk4 dx k4 dn dne hx4 hn4 => ?_)
  · rw [hmro, refuseLoop_ref, refuseLoop_ref]
    exact PySem.F.store_Exception.passes _
  refine wpAt_of_wpAny (wpAny_execs_nil ?_)
  refine hq h4 tk4 dx t' (fun b o eb => k4 b o (fun z => ?_) (F3.keep b o eb)) ?_ hx4 hn4
  · rw [z, h0e] at eb
    cases eb
  · have h1 : hp.objs.size < h₁.objs.size := FF.ns.lt
    have h4' : h₁.objs.size < q := l'' (h₁.objs.size, ks_superObj C e C) (by simp)
    have h5 : q < t' := l3 (q, kxs_mw "Exception.__init__" e) (by simp)
    have h6 : t' < h3.objs.size := news_lt N3 (List.mem_cons_self ..)
    have dn' : h3.objs.size ≤ dx := dn
    exact Nat.le_trans (Nat.le_of_lt (Nat.lt_trans h1 (Nat.lt_trans h4' (Nat.lt_trans h5 h6)))) dn'
end
end Cr
end

section
set_option Elab.async false
set_option linter.all false
set_option maxRecDepth 100000
set_option maxHeartbeats 2000000
set_option pp.maxSteps 300
/-! Core, part Q: raise C(e). -/
namespace Cr
open PySem PySem.Spec PyProof.Rows L2

/-- what must hold of such an __init__ beside the written part -/
structure InitS (P : Program) (mg : Str → Option Value) (K : PySem.W.Frag) (C fI cc cda : Addr) (qual : Str) (params : Arguments) (scope : Scope) (f txt : Str) (j : Nat) (p0 p1 p2 p3 p4 p5 p6 p7 p8 p9 : Pos) : Prop where
  T : ExcS P K C fI cc cda qual params (initBody f txt j p0 p1 p2 p3 p4 p5 p6 p7 p8 p9) scope f
  hsup : mg "super" = none
  htop : (P.main.scope.names.lookup ("super" : Str)).isSome = false
  hbind : ∀ (e : Addr) (v kV doc pm : Value) an ct, bindArgs (PySem.W.ksFn "__init__" qual params (initBody f txt j p0 p1 p2 p3 p4 p5 p6 p7 p8 p9) scope .none kV doc pm an (.ref cda) ct cc) ⟨[.ref e, v], []⟩ = pure [(("self" : Str), .ref e), (f, v)]
  hs : scope.kind = .function
  hco : scope.isCoroutine = false
  hgen : scope.isGenerator = false
  hcell : ∀ x ∈ scope.names, x.2 ≠ .cell
  l1 : scope.names.lookup ("self" : Str) = some .local
  l2 : scope.names.lookup f = some .local
  l3 : scope.names.lookup ("super" : Str) = some .globalImplicit
  l4 : scope.names.lookup ("__class__" : Str) = some .free
  hpar : ∃ ar : Arg, (params.posonlyargs ++ params.args).head? = some ar ∧ ar.arg = "self"
  hfs : f ≠ "self"
  hfd : (f == ("__debug__" : Str)) = false
  hmc : ∀ L : Addr, ∃ pl : Sem Bool, eval (supE txt j p0 p1 p2 p3 p4) (PySem.W.ksEnv qual scope L fI (.ref cda) cc) = (do
      let ov ← attributeBase (.Call (.Name "super" p0) [] [] p1) "__init__" (PySem.W.ksEnv qual scope L fI (.ref cda) cc) (eval (.Call (.Name "super" p0) [] [] p1) (PySem.W.ksEnv qual scope L fI (.ref cda) cc))
      standAt p2.atName
      let (f, first) ← holding [ov] (getMethod ov "__init__" pl)
      callWith p4 f first (backTo p4 (starEach [.Constant (.str txt) j p3] (PySem.W.ksEnv qual scope L fI (.ref cda) cc))) [])
  hsw1 : ∀ L : Addr, swapsWith (supE txt j p0 p1 p2 p3 p4) none p5.line (PySem.W.ksEnv qual scope L fI (.ref cda) cc) = pure false
  hsw2 : ∀ L : Addr, swapsWith (.Name f p8) (some (.Attribute (.Name "self" p6) f p7)) p9.line (PySem.W.ksEnv qual scope L fI (.ref cda) cc) = pure false
section
variable {X : Cx} {B : By} {W : WX} {x f txt : Str} {a : Expr} {p pos pos' : Pos} {C fI cc cda : Addr} {qual : Str} {params : Arguments} {scope : Scope} {j : Nat} {p0 p1 p2 p3 p4 p5 p6 p7 p8 p9 : Pos} {te : TA} {ma : En → M D} {c : Nat}
theorem pmk_own (T : InitS X.prog X.mg X.K C fI cc cda qual params scope f txt j p0 p1 p2 p3 p4 p5 p6 p7 p8 p9) (hr : Room 1 X.A) (hg : Gl X x) (hm : X.mg x = some (.ref C)) (ha : PA X [a] te)
    (hdb : (x == ("__debug__" : Str)) = false) (he : starEach [a] X.env = (false, eval a X.env) :: starEach [] X.env) (hpl : (backTo pos (starEach [] X.env)).any (·.1) = false) :
    PMk X (.Call (.Name x p) [a] [] pos) (fun σ H Q => te σ H fun vs H1 => ∃ y, vs = [y] ∧ ∀ dx, H1 dx = none → Q (.ref C) (some dx) (upd H1 dx (.xd [(f, y)]))) := by
  intro pins s σ H Q I h
  refine wpAny_Call_Name_kw (ld_glob I hg hm ?_ hdb)
  refine PySem.W.callWith_K (h₀ := X.base) I.ok.mod.kin T.T.kC (thn (ha.run pos pins s σ H _ I h) fun us s1 ⟨vs, H1, I1, r1, y, ev, q1⟩ => ⟨I1.kIn, ?_⟩) he hpl
  subst ev
  cases r1 with
  | @cons _ u _ us ru r2 =>
    cases r2
    show wpAny _ _ (call (.ref C) [u]) _ _ _
    obtain ⟨hp, g, dr, tk, os⟩ := s1
    have kk : ∀ b o, hp.get? b = some o → ((hp.push (PySem.W.kdv_tup [u])).push (PySem.HandSPX.excO C hp.objs.size)).get? b = some o := fun b o e => Heap.get?_push_of_some _ (Heap.get?_push_of_some _ e)
    have hget : ((hp.push (PySem.W.kdv_tup [u])).push (PySem.HandSPX.excO C hp.objs.size)).get? (hp.objs.size + 1) = some (PySem.HandSPX.excO C hp.objs.size) := by heap_get
    have hnone : hp.get? (hp.objs.size + 1) = none := by
      cases q : hp.get? (hp.objs.size + 1) with
      | none => rfl
      | some o => exact absurd (Heap.lt_size q) (Nat.not_lt.mpr (Nat.le_succ _))
    obtain ⟨nm, N', qn, bs, bm, hdct, sn, sub, ab, col, dd, k0, k1, k2, k3, k5, hC, hT⟩ := PySem.W.excInit_of (h := hp) I1.kIn T.T.init
    obtain ⟨mb, Bn, hbb⟩ := I1.ok.mod.blt
    have bk := I1.bk
    refine wpAny_call (PySem.HandSPX.call_own F.excBase_Exception hT hC (PySem.W.looks_findIn I1.kIn T.T.iC) (fun self => PySem.W.bind_fn I1.kIn self T.T.tI) (by show 1 ≤ sizeLine; decide) ?_)
    refine init_walk T.T kk (by rw [Heap.size_push, Heap.size_push]; omega) I1.kIn (I1.ok.mod.nolimit.keeps bk) (I1.ok.mod.glob.keeps bk) (Bn.keeps bk) hbb T.hsup T.htop (hr.make C [u] []).depth hget hnone
      (T.hbind _ u) T.hs T.hco T.hgen T.hcell T.l1 T.l2 T.l3 T.l4 T.hpar T.hfs T.hfd T.hmc T.hsw1 T.hsw2 fun h' tk' dx t1 k hdx hx hn => ?_
    refine ⟨rfl, ?_⟩
    have hlt : hp.objs.size + 1 < dx := Nat.lt_of_lt_of_le (by rw [Heap.size_push, Heap.size_push]; omega) hdx
    obtain ⟨G, g1, g2⟩ := restrict h' fun b => decide (b ≠ hp.objs.size + 1)
    have gk : ∀ b, b ≠ hp.objs.size + 1 → G.get? b = h'.get? b := fun b hb => g1 b (decide_eq_true hb)
    have ge : G.get? (hp.objs.size + 1) = none := g2 _ (by simp)
    have hnd : H1 dx = none := I1.hok.fresh (Nat.le_of_lt (Nat.lt_trans (Nat.lt_succ_self _) hlt))
    have kG : ∀ b o, hp.get? b = some o → G.get? b = some o := fun b o e => by
      rw [gk b (Nat.ne_of_lt (Nat.lt_succ_of_lt (Heap.lt_size e)))]
      exact k b o e
    have J : Inv X pins σ (upd H1 dx (.xd [(f, y)])) ⟨G, g, dr, tk', os⟩ := I1.laid (t' := tk') (a := dx) (o := .xd [(f, y)]) kG (Nat.le_of_lt (Nat.lt_trans (Nat.lt_succ_self _) hlt))
      ⟨_, hn.at fun o e => (gk dx (Nat.ne_of_gt hlt)).trans e, relO_put (fs := []) ru fun g => True.intro⟩
    refine ⟨_, _, _, ⟨G, g, dr, tk', os⟩, _, .ref C, some dx, rfl, J, fun b o e => ?_, ge, hx, ⟨rfl, rfl⟩, rfl, rfl, ?_, rfl, I1.bare, raises_own T.T.exC T.T.tyC, q1 dx hnd⟩
    · by_cases hb : b = hp.objs.size + 1
      · rw [hb, ge] at e
        cases e
      · exact (gk b hb).symm.trans e
    · rw [upd_ne (Nat.ne_of_lt hlt)]
      exact I1.hok.fresh (Nat.le_succ _)
/-- raise C(e) -/
theorem ss_raise (T : InitS X.prog X.mg X.K (B.cls c) fI cc cda qual params scope (B.fld c) txt j p0 p1 p2 p3 p4 p5 p6 p7 p8 p9) (hc : X.calm = true) (tk : Takes X W) (hr : Room 1 X.A) (hg : Gl X x) (hm : X.mg x = some (.ref (B.cls c))) (ha : SE X B W a ma)
    (hdb : (x == ("__debug__" : Str)) = false) (he : starEach [a] X.env = (false, eval a X.env) :: starEach [] X.env) (hpl : (backTo pos (starEach [] X.env)).any (·.1) = false) :
    SS X B W (.Raise (some (.Call (.Name x p) [a] [] pos)) none pos') (fun η => do let d ← ma η; M.exc c d) := by
  refine PS.monoI (ps_raise hc tk (pmk_own T hr hg hm (sa_cons ha sa_nil he) hdb he hpl)) fun Dn σ H hl ⟨S, η, eH, r, en, p⟩ => ?_
  subst eH
  refine ⟨S, η, rfl, r, en, ?_⟩
  have p' : Post B (fun c d H' => W c d σ H') S (fun d S1 => Post B (fun c d H' => W c d σ H') S1 (Endz B.toBx Dn) ((M.exc c d : M (En × Ctl)) S1.A)) (ma η S.A) := Post.bind (Post.wany p hl)
  show Post B _ S _ ((ma η >>= fun x => (pure [] : M (List D)) >>= fun l => pure (x :: l)) S.A)
  rw [M.bind_def]
  revert p'
  cases ma η S.A with
  | ok d A =>
    intro p' S1 e n1 vs rl
    cases rl with
    | @cons _ v1 _ _ r1 rl =>
      cases rl
      refine ⟨_, rfl, fun dx hn => ?_⟩
      have nx : Nxt B.toBx S1 (S1.put dx (.xd [(B.fld c, v1)])) := .put n1.rel hn
      exact p' S1 e n1 (S1.put dx (.xd [(B.fld c, v1)])) v1 dx rfl nx (r1.ext nx.ext) upd_same
  | exc c d A => exact id
  | err => exact id
end
end Cr
end

section
set_option Elab.async false
set_option linter.all false
set_option maxRecDepth 100000
set_option maxHeartbeats 4000000
set_option pp.maxSteps 300
/-! Core, part R: try, except C as e; isinstance of a caught error that has a field. -/
namespace Cr
open PySem PySem.Spec PySem.Calls PyProof.Rows PySem.W
section
variable {prog : Program} {w : World} {A : Around} {E : Value → Shared → Prop} {s : Shared} {K : Frag} {x D : Addr} {ox : Obj} {od : Option Obj}
theorem findObj_dataD {C : Addr} {name : Str} {a g : Value} (hc : (clsIn K C).isSome = true) (ha : findIn K (.ref C) name = some (some a)) (hg : specialIn K a "__get__" = some (some g)) (ht : takesIn K a = some true) : findObj K C od name = some (.bind g a) := by
  obtain ⟨cd, hc⟩ := Option.isSome_iff_exists.mp hc
  unfold findObj
  rw [hc, Option.bind_some, ha, Option.bind_some]
  simp [hg, ht]
theorem kin_classD {Q : Option Value → Shared → Prop} (hga : findIn K (.ref D) "__getattribute__" = some (some (.builtin "BaseException.__getattribute__"))) (hgt : findIn K (.ref D) "__getattr__" = some none) (hsub : subIn K (.ref D) (.type "BaseException") = some true)
    (hdct : hasDictIn K D = true) (ha : findIn K (.ref D) "__class__" = some (some (.builtin "object.__class__")))
    (hn : specialIn K (.builtin "object.__class__") "__get__" = some (some (.builtin "getset_descriptor.__get__"))) (htk : takesIn K (.builtin "object.__class__") = some true) (hm : mroIn K D (.type "object") = some true)
    (X : K.In s.heap) (I : InstAt s.heap x ox D od) (h : Q (some (.ref D)) { s with toks := s.toks + 1 }) : wpAny (model prog w) A (getAttr? (.ref x) "__class__") Q E s := by
  have hf : findObj K D od "__class__" = some (.bind (.builtin "getset_descriptor.__get__") (.builtin "object.__class__")) := findObj_dataD (by obtain ⟨cd, hc, _⟩ := any_some hdct; rw [hc]; rfl) ha hn htk
  obtain ⟨hp, g, d, t, os⟩ := s
  have L0 := I.type (M := model prog w)
  have L1 := looks_findIn (M := model prog w) X hga
  have L2 := looks_findIn (M := model prog w) X hgt
  have L3 := looks_find (M := model prog w) X I hf
  have sub : Looks (model prog w) hp (isInstance (.ref x) (.type "BaseException")) true := L0.andThen (looks_subIn X hsub)
  have hx0 : (false && onTheHeap (Value.builtin "BaseException.__getattribute__")) = false := rfl
  have hx2 : (Value.builtin "BaseException.__getattribute__" == Value.builtin "object.__getattribute__") = false := by decide +kernel
  have hx1 : (onTheHeap (Value.ref D) && Value.builtin "BaseException.__getattribute__" == Value.builtin "object.__getattribute__") = false := by rw [hx2]; rfl
  unfold getAttr? getAttrBy? getAttrBy
  refine wpAny_bind (wpAny_mkText (wpAny_bind (wpAny_attempt (wpAny_holding (wpAny_bind (L0.at (wpAny_bind (L1.at ?_))))))))
  show wpAny _ _ (if (onTheHeap (Value.ref D) && Value.builtin "BaseException.__getattribute__" == Value.builtin "object.__getattribute__") = true then _ else _) _ _ _
  rw [hx1, if_neg Bool.false_ne_true]
  unfold getAttrByItsOwn hookBefore
  refine wpAny_bind ?_
  rw [if_pos (show onTheHeap (Value.ref D) = true from rfl)]
  refine L2.at ?_
  refine wpAny_bind (wpAny_attempt (wpAny_holding ?_))
  unfold callGetattribute
  rw [hx0, if_neg Bool.false_ne_true]
  unfold boundAndCalled
  rw [PySem.F.excAttr_ValueError.ga.bind (.ref x)]
  refine wpAny_bind (wpAny_pure ?_)
  show wpAny _ _ (call (.builtin "BaseException.__getattribute__") [.ref x, .str "__class__" t]) _ _ _
  refine wpAny_call (codeAny_call_builtin PySem.F.excAttr_ValueError.ga.plain PySem.F.entry_bexc_ga ?_)
  refine @check_slot (model prog w) _ _ ⟨hp, g, d, t + 1, os⟩ "BaseException.__getattribute__" "BaseException" "__getattribute__" (.ref x) [.str "__class__" t] [] _ (by decide +kernel) (by decide +kernel) sub (PySem.F.args_bexc_ga (.ref x) (.str "__class__" t)) ?_
  unfold Builtin.«object.__getattribute__»
  refine wpAny_bind (wpAny_of_eq (a := ((Value.ref x : Value), [Value.str "__class__" t])) (by first | rfl | (simp only [slotArgs]; rfl)) ?_)
  refine wpAny_bind (wpAny_pure (wpAny_bind (L0.at (wpAny_bind (L3.at ?_)))))
  show wpAny _ _ (holding [Value.builtin "object.__class__"] (call (.builtin "getset_descriptor.__get__") [.builtin "object.__class__", .ref x, .ref D]) >>= ret) _ _ _
  refine wpAny_bind (wpAny_holding (wpAny_call (class_get (s := ⟨hp, g, d, t + 1, os⟩) (ox := ox) (od := od) X I hm ?_)))
  refine wpAny_pure ?_
  show wpAny _ _ (handedOut (.ref D)) _ _ _
  rw [handedOut_of (v := .ref D) rfl]
  first
    | exact wpAny_pure (wpAny_pure h)
    | exact wpAny_pure h
    | exact wpAny_pure (wpAny_bind (wpAny_pure (wpAny_pure h)))
theorem kitx_excD (hga : findIn K (.ref D) "__getattribute__" = some (some (.builtin "BaseException.__getattribute__"))) (hgt : findIn K (.ref D) "__getattr__" = some none) (hsub : subIn K (.ref D) (.type "BaseException") = some true) (hdct : hasDictIn K D = true) (ha : findIn K (.ref D) "__class__" = some (some (.builtin "object.__class__")))
    (hn : specialIn K (.builtin "object.__class__") "__get__" = some (some (.builtin "getset_descriptor.__get__"))) (htk : takesIn K (.builtin "object.__class__") = some true) (hm : mroIn K D (.type "object") = some true) :
    KitX K (.ref x) (.ref D) (fun h => InstAt h x ox D od) where
  ty := fun _ _ _ I => I.type
  it := fun _ _ X _ => by
    obtain ⟨cdD, hcD, _⟩ := any_some hdct
    unfold clsIn at hcD
    split at hcD
    · rename_i c' d' cd' sl' ho
      intro A' Q' E' s' k q
      unfold isType loadHead
      exact wpAny_bind (wpAny_loadPart (k _ _ (X _ _ ho)) (wpAny_pure q))
    · cases hcD
  ne := fun h tp dd its n sl X htp => by
    obtain ⟨cdD, hcD, _⟩ := any_some hdct
    refine Bool.eq_false_iff.mpr fun q => ?_
    have e : D = tp := Value.ref.inj (beq_iff_eq.mp q)
    subst e
    unfold clsIn at hcD
    split at hcD
    · rename_i c' d' cd' sl' ho
      have z := (X _ _ ho).symm.trans htp
      cases z
    · cases hcD
  ca := fun X I k => kin_classD hga hgt hsub hdct ha hn htk hm X I k
end
end Cr
namespace Cr
open PySem PySem.Spec PyProof.Rows L2
/-- isinstance(e, c), e the exception that the suite holds -/
def rIsD (K : PySem.W.Frag) (D a dd : Addr) : List V → Hp → VK → Prop := fun xs H Q => (∃ fs, H dd = some (.xd fs)) ∧ ∃ (c : V) (cv : Value) (b : Bool), xs = [.ref a, c] ∧ (∀ u, RelV c u → u = cv) ∧ PySem.W.kitOne K (.ref D) cv = some b ∧ Q (.bl b) H
theorem call_isD {X : Cx} {a D dd : Addr} {oe : Obj} {pn : List (Addr × Obj)} (C : ExcC X.K D) (hz : Zc (.ref D) (some dd) oe) (hf : ∃ vs, oe.data = .fields vs) : CallR (X.suite a ((a, oe) :: pn)) (.builtin "isinstance") (rIsD X.K D a dd) := by
  intro pins s σ H xs us Q I r h
  obtain ⟨⟨fs, hdd⟩, c, cv, b, rfl, hcv, e, q⟩ := h
  have hx : ObjOk X.prog X.w H s.heap dd (.xd fs) := I.hok dd _ hdd
  obtain ⟨mA, hns, _⟩ := hx
  obtain ⟨odd, ho, _⟩ := lookIn_ns hns
  cases r with
  | cons rx rr =>
    cases rr with
    | cons rt rr =>
      cases rr
      cases rx
      have ec := hcv _ rt
      subst ec
      obtain ⟨hget, _⟩ := I.pin (a, oe) (List.mem_append.mpr (.inl List.mem_cons_self))
      obtain ⟨vs, hv⟩ := hf
      have J : PySem.W.InstAt s.heap a oe D (some odd) := by
        obtain ⟨oc, od, oda, osl⟩ := oe
        obtain ⟨h1, h2⟩ := hz
        dsimp only at h1 h2 hv
        subst h1 h2 hv
        exact ⟨hget, rfl, rfl, ho⟩
      exact PySem.W.kia_one (kitx_excD C.hg C.hk C.hs C.hd C.ha C.hn C.ht C.hm) I.kIn J e (fun z => nomatch z) fun tk => ⟨.bl b, H, I.kept (t' := tk) fun _ _ z => z, rfl, q⟩
/-- the one suite of this program: return (text, e.f, isinstance(e, C1)) -/
def mTry (c : Nat) (t : Str) (b : Bool) (mb : En → M (En × Ctl)) (η : En) : M (En × Ctl) := fun A => match mb η A with
  | .ok r A1 => .ok r A1
  | .exc c' d A1 => if c' = c then .ok (η, .rt (.tup [.str t, d, .bl b])) A1 else .err
  | .err => .err
section
variable {X : Cx} {B : By} {W : WX} {x n y t : Str} {i c j1 j2 : Nat} {C1 : Addr} {b : Bool} {body : List Stmt} {mb : En → M (En × Ctl)} {np pos pos' q1 q2 q3 q4 q5 q6 q7 q8 q9 : Pos}
abbrev trySuite (t n f y : Str) (j1 j2 : Nat) (q1 q2 q3 q4 q5 q6 q7 q8 : Pos) : List Stmt := [.Return (some (.Tuple [.Constant (.str t) j1 q1, .Attribute (.Name n q2) f q3, .Call (.Name "isinstance" q4) [.Name n q5, .Name y q6] [] q7] j2 q8)) q1]
theorem ss_try {st : Stmt} {f : Str} (hst : st = .Return (some (.Tuple [.Constant (.str t) j1 q1, .Attribute (.Name n q2) f q3, .Call (.Name "isinstance" q4) [.Name n q5, .Name y q6] [] q7] j2 q8)) q9)
    (hs : X.stack = X.env :: X.outer) (hf : X.env.frame = some X.env.locals) (hN : X.N.Nodup) (hi : X.N[i]? = some n) (hln : X.env.kindOf n = some .local) (hlv : Vis X.env.scope n) (hfl : B.fld c = f)
    (hc : Names X x (.ref (B.cls c))) (tk : Takes X W) (hK : ExcC X.K (B.cls c)) (hX : XfC X.K (B.cls c)) (hno : PySem.W.findIn X.K (.ref (B.cls c)) f = some none) (hex : PySem.W.exmOne X.K (.ref (B.cls c)) (.ref (B.cls c)) = some true)
    (hki : PySem.W.kitOne X.K (.ref (B.cls c)) (.ref C1) = some b) (hgi : Gl X "isinstance") (hmi : X.mg "isinstance" = none) (hgy : Gl X y) (hmy : X.mg y = some (.ref C1)) (hdy : (y == ("__debug__" : Str)) = false) (hdn : (n == ("__debug__" : Str)) = false) (hcn : (n == ("__classdict__" : Str)) = false)
    (hb : ∀ (W : WX) (pn : List (Addr × Obj)) (xe : Value → Shared → Prop), Takes (X.tr pn xe) W → PassesOwn (model X.prog X.w) X.A X.env xe → SSs (X.tr pn xe) B W body mb)
    (hbase : attributeBase (.Name n q2) f X.env (eval (.Name n q2) X.env) = eval (.Name n q2) X.env) :
    SS X B W (.Try body [.ExceptHandler (some (.Name x np)) (some n) [st] pos'] [] [] pos) (mTry c t b mb) := by
  subst hst
  subst hfl
  refine PS.monoI (ps_try_as (i := i) (Wout := W) (tb := fun W => rdS B X.N.length W mb) (ts := fun a cls d D σ H => ∃ dd v, cls = .ref (B.cls c) ∧ d = some dd ∧ H dd = some (.xd [(B.fld c, v)]) ∧ σ[i]? = some (some (.ref a)) ∧ ∀ p, H p = none → D.rt (.ref p) (upd H p (.tup [.str t, v, .bl b])))
    hs hf hN hi hln hc tk hb fun a oe cls d pn hz hv => ⟨fun pins s σ H D I ⟨dd, v, e1, e2, e3, e4, q⟩ => ?_⟩) fun Dn σ H hl ⟨S, η, eH, r, en, p⟩ => ?_
  · subst e1 e2
    refine (pss_one (ps_ret (pe_tup (pa_cons pe_str (pa_cons (pe_xf (n := B.fld c) hX hno hz hv (pe_var (X := X.suite a ((a, oe) :: pn)) hi hlv hdn hcn) hbase) (pa_cons (pe_callB (call_isD (dd := dd) hK hz hv) hgi hmi rfl (pa_cons (pe_var (X := X.suite a ((a, oe) :: pn)) hi hlv hdn hcn) (pa_cons (pe_glob (v := .ref C1) hgy hmy rfl hdy) pa_nil rfl) rfl) (he := rfl) (hpl := rfl)) pa_nil rfl) rfl) rfl)))).run pins s σ H D I ?_
    refine ⟨_, e4, rfl, rfl, dd, _, v, rfl, e3, by simp [List.lookup], ?_⟩
    refine ⟨_, e4, ?_⟩
    exact ⟨⟨_, e3⟩, .ref C1, .ref C1, b, rfl, fun u h => h, hki, by show 3 ≤ sizeLine; decide, q⟩
  · subst eH
    refine ⟨S, η, rfl, r, en, ?_⟩
    unfold mTry at p
    revert p
    cases mb η S.A with
    | ok r A1 =>
      exact fun p => p
    | exc c' d A1 =>
      intro p
      simp only at p
      split at p
      · rename_i ec
        subst ec
        intro S1 v dx eA n1 rv hx σ' hl'
        refine ⟨true, hex, fun _ a ha => ⟨dx, v, rfl, rfl, hx, ?_, fun p1 hp1 => ?_⟩, fun z => nomatch z⟩
        · rw [List.getElem?_set_self]
          rw [hl']
          exact (List.getElem?_eq_some_iff.mp hi).1
        · subst eA
          have n2 : Nxt B.toBx S1 (S1.put p1 (.tup [.str t, v, .bl b])) := .put n1.rel hp1
          exact p (S1.put p1 (.tup [.str t, v, .bl b])) rfl (n1.trans n2) (.ref p1) (.tup (.inl (.inl upd_same)) (.cons (.str t) (.cons (rv.ext n2.ext) (.cons (.bl b) .nil))))
      · exact p.elim
    | err => exact fun p => p.elim
end
end Cr
end

section
set_option Elab.async false
set_option linter.all false
set_option maxRecDepth 100000
set_option maxHeartbeats 2000000
set_option pp.maxSteps 300
/-! Core, part S: dict comprehensions, whatever the keys. -/
namespace Cr
open PySem PySem.Spec PyProof.Rows L2
/-- the same program, world, written part, room -/
structure Alike (X X' : Cx) : Prop where
  prog : X'.prog = X.prog
  w : X'.w = X.w
  K : X'.K = X.K
  A : X'.A = X.A
/-- D[y] = z by a comprehension -/
def DSets (X : Cx) (D : Addr) (y z : V) (H : Hp) (Nx : Hp → Prop) : Prop := ∀ (X' : Cx) (pins : List (Addr × Obj)) (σ : L2.St) (s : Shared) (u r : Value) (Q : Unit → Shared → Prop) (E : Value → Shared → Prop), Alike X X' → L2.Inv X' pins σ H s → RelV y u → RelV z r →
  (∀ H' s', Nx H' → L2.Inv X' pins σ H' s' → Q () s') → wpAny (model X'.prog X'.w) X'.A (dictSet D u r) Q E s
def tDcg (X : Cx) (o0 : Addr → HO) (wi : TI) (g : TG) (tt : TT) (tk tv : TE) (vs : List Nat) : TE := fun σ H Q => wi σ H fun J H1 => ∀ D, H1 D = none → ∃ W : Nat → Nat → Hp → Prop, (∃ m, W 0 m (upd H1 D (o0 D))) ∧ ∀ i m H, W i m H →
  (J.stop i H ∧ Q (.ref D) H) ∨ (J.go i H ∧ ∃ Nx : Hp → Prop, (∀ H', Nx H' → ∃ m', m' < m ∧ W (i + 1) m' H') ∧ ∀ x H', J.yld i H x H' → g x (wipe σ vs) H' fun σ2 H2 => wipe σ2 vs = wipe σ vs ∧ tt σ2 H2 fun b H3 =>
    if b = true then tk σ2 H3 fun y H4 => tv σ2 H4 fun z H5 => DSets X D y z H5 Nx else Nx H3)
section
variable {X : Cx}
theorem dcg_core {pins : List (Addr × Obj)} {s : Shared} {σ : L2.St} {H : Hp} {Q : VK} {kx vx tg iter : Expr} {ifs : List Expr} {scope : Scope} {own : List (Str × Nat)} {pos pos' : Pos} {wi : TI} {g : TG} {tt : TT} {tk tv : TE} {use : Option (Value → Sem Unit)} {Qf : Value → Shared → Prop} {o0 : Addr → HO} (ho : ∀ (h : Heap) (H : Hp), sysModules < h.objs.size → ObjOk X.prog X.w H (h.push { cls := .type "dict", data := .dict #[] }) h.objs.size (o0 h.objs.size))
    (hc : X.calm = true) (hN : X.N.Nodup) (I : L2.Inv X pins σ H s) (hi : PI X tg iter wi) (ok : BlkOk X.N X.env.scope scope own)
    (hg : ∀ (s : Shared) (H : Hp) (C : Addr) (cl : List (Str × Addr)) (fp : List Addr), PG (X.blk s H scope (compEnvC scope cl C X.env) fp) tg g) (ht : ∀ (s : Shared) (H : Hp) (C : Addr) (cl : List (Str × Addr)) (fp : List Addr), PTs (X.blk s H scope (compEnvC scope cl C X.env) fp) ifs tt)
    (hk : ∀ (s : Shared) (H : Hp) (C : Addr) (cl : List (Str × Addr)) (fp : List Addr), PE (X.blk s H scope (compEnvC scope cl C X.env) fp) kx tk)
    (he : ∀ (s : Shared) (H : Hp) (C : Addr) (cl : List (Str × Addr)) (fp : List Addr), PE (X.blk s H scope (compEnvC scope cl C X.env) fp) vx tv) (hs : ∀ x, foldedSetIterable iter X.env x = pure x)
    (h : tDcg X o0 wi g tt tk tv (own.map (·.2)) σ H Q)
    (hRR : ∀ D C s' m H', L2.Inv X pins σ H' s' → Q (.ref D) H' → s'.heap.Ns C m → FpOk X pins H' C → compPost (model X.prog X.w) X.A X.xe use Qf (.ref D) C (.ok .next) s') :
    wpAny (model X.prog X.w) X.A (comprehension (.DictComp kx vx [⟨tg, iter, ifs, 0⟩] scope pos) scope X.env pos' newDict false (eval iter X.env) use) Qf X.xe s := by
  have hfree : ∀ y ∈ scope.names, y.2 = .free → ∃ c, X.env.cells.lookup y.1 = some c := fun y hy e => by
    rcases ok.free y hy e with k | k
    · exact I.ok.has _ (.inl k)
    · exact I.ok.has _ (.inr k)
  refine wpAny_comprehension_free (use := use) rfl hs (closure_ok hfree) ok.kind (fun y hy e => by rw [ok.uniq y hy, e])
    (thn (hi.run pins s σ H _ I h) fun xv s1 hx => thn hx fun itv s2 h2 => ?_)
  obtain ⟨it, fp, tn, J, H2, e, I2, T, st2, f2, q⟩ := h2
  subst e
  refine wpAny_newObj_type (newEnv_comp ?_)
  generalize hD : s2.heap.objs.size = D
  have hDn : H2 D = none := I2.hok.fresh (Nat.le_of_eq hD)
  obtain ⟨W, ⟨m0, w0⟩, turn⟩ := q D hDn
  -- the new list
  generalize hs3 : ({ s2 with heap := s2.heap.push { cls := .type "dict", data := .dict #[] } } : Shared) = s3
  have I3 : L2.Inv X pins σ (upd H2 D (o0 D)) s3 := by
    rw [← hs3]
    refine I2.laid (t' := s2.toks) (fun b o e => Heap.get?_push_of_some _ e) (Nat.le_of_eq hD) ?_
    rw [← hD]
    exact ho s2.heap _ I2.big
  have h3 : s3.heap = s2.heap.push { cls := .type "dict", data := .dict #[] } := by rw [← hs3]
  have sz : ∀ b ∈ fp, b < s2.heap.objs.size := fun b hb => by
    obtain ⟨o, e, _⟩ := T.obj _ _ st2 b hb
    exact Heap.lt_size e
  have f3 : ∀ b ∈ fp, FpOk X pins (upd H2 D (o0 D)) b ∧ b < s3.heap.objs.size := fun b hb => by
    have hlt := sz b hb
    refine ⟨⟨?_, (f2 b hb).2⟩, by rw [h3, Heap.size_push]; exact Nat.lt_succ_of_lt hlt⟩
    rw [upd_ne (by rw [← hD]; exact Nat.ne_of_lt hlt)]
    exact (f2 b hb).1
  have st3 : tn 0 s3.heap := T.keep _ _ _ st2 fun b _ o e => by rw [h3]; exact Heap.get?_push_of_some _ e
  have I4 := block_start I3 ok hN f3
  have pg := hg s3 (upd H2 D (o0 D)) s3.heap.objs.size (cellsFrom (s3.heap.objs.size + 1) scope.names (cloFrom X.env.cells scope.names [])) fp
  have pt := ht s3 (upd H2 D (o0 D)) s3.heap.objs.size (cellsFrom (s3.heap.objs.size + 1) scope.names (cloFrom X.env.cells scope.names [])) fp
  have pk := hk s3 (upd H2 D (o0 D)) s3.heap.objs.size (cellsFrom (s3.heap.objs.size + 1) scope.names (cloFrom X.env.cells scope.names [])) fp
  have pe := he s3 (upd H2 D (o0 D)) s3.heap.objs.size (cellsFrom (s3.heap.objs.size + 1) scope.names (cloFrom X.env.cells scope.names [])) fp
  show codeAny _ _ (.compStart (.DictComp kx vx [⟨tg, iter, ifs, 0⟩] scope pos) 0 (.ref it) (.ref D) (compEnvC scope (cellsFrom (s3.heap.objs.size + 1) scope.names (cloFrom X.env.cells scope.names [])) s3.heap.objs.size X.env)) (compPost (model X.prog X.w) X.A X.xe use Qf (.ref D) s3.heap.objs.size) { s3 with heap := pushCells (s3.heap.push { cls := .type "dict", data := .dict #[] }) scope.names }
  have nfp : ∀ b ∈ fp, (upd H2 D (o0 D)) b = none := fun b hb => (f3 b hb).1.1
  generalize hce : compEnvC scope (cellsFrom (s3.heap.objs.size + 1) scope.names (cloFrom X.env.cells scope.names [])) s3.heap.objs.size X.env = ce at I4 pg pt pk pe ⊢
  have cL : ce.locals = s3.heap.objs.size := by subst hce; rfl
  generalize hH3 : upd H2 D (o0 D) = H3 at I3 I4 pg pt pk pe w0 nfp f3
  generalize hs4 : ({ s3 with heap := pushCells (s3.heap.push { cls := .type "dict", data := .dict #[] }) scope.names } : Shared) = s4 at I4 ⊢
  have st4 : tn 0 s4.heap := T.keep _ _ _ st3 fun b _ o e => by rw [← hs4]; exact pushCells_keeps _ _ _ _ (Heap.get?_push_of_some _ e)
  have stat : ∀ {σ' : L2.St} {H' : Hp} {s' : Shared}, L2.Inv (X.blk s3 H3 scope ce fp) [] σ' H' s' → (∀ b ∈ fp, H' b = none) → ∀ b ∈ fp, FpOk (X.blk s3 H3 scope ce fp) [] H' b := fun {σ' H' s'} I' hn b hb =>
    ⟨hn b hb, (I'.ok.exf b hb).1, I'.ok.exfs b hb, .inl hb, fun x c e => (I'.ok.exf b hb).2 x c e, fun p hp => absurd (show p ∈ ([] : List (Addr × Obj)) ++ [] from hp) (by simp)⟩
  have loop : codeAny (model X.prog X.w) X.A (.compLoop (.DictComp kx vx [⟨tg, iter, ifs, 0⟩] scope pos) 0 (.ref it) (.ref D) ce) (compPost (model X.prog X.w) X.A X.xe use Qf (.ref D) s3.heap.objs.size) s4 := by
    refine L2.compLoop_anyD (fun n s' => ∃ i H', L2.Inv (X.blk s3 H3 scope ce fp) [] (wipe σ (own.map (·.2))) H' s' ∧ tn i s'.heap ∧ (∀ b ∈ fp, H' b = none) ∧ W i n H') ?_ m0 ⟨0, H3, I4, st4, nfp, w0⟩
    rintro n s5 ⟨i, H5, I5, st5, n5, w5⟩
    rcases turn i n H5 w5 with ⟨stop, qq⟩ | ⟨go, Nx, hNx, step⟩
    · have td := T.done (X.blk s3 H3 scope ce fp) rfl rfl rfl hc i [] s5 _ H5 (fun _ _ => False) I5 (stat I5 n5) st5 stop
      refine thnF td fun r s6 ⟨hr, I6⟩ => ?_
      subst hr
      -- back in the def's context
      have I7 : L2.Inv X pins σ H5 s6 := I3.call' (ch := fp) I6.os I6.base I6.hok I6.bare fun b hb => ⟨(f3 b hb).1.2.2.2.1, (f3 b hb).1.2.1, (f3 b hb).1.2.2.2.2.1, (f3 b hb).1.2.2.2.2.2⟩
      have nC : H5 s3.heap.objs.size = none := by
        have z : H5 ce.locals = none := I6.free
        rw [cL] at z
        exact z
      obtain ⟨m, hn, _⟩ := I6.loc
      have hn : s6.heap.Ns ce.locals m := hn
      rw [cL] at hn
      exact hRR D s3.heap.objs.size s6 m H5 I7 qq hn (I3.fpOk (Nat.le_refl _) nC)
    · have ti := T.item (X.blk s3 H3 scope ce fp) rfl rfl rfl hc i [] s5 _ H5 (fun _ _ => False) I5 (stat I5 n5) st5 go
      refine thnF ti fun r s6 ⟨u, hr, h6⟩ => ?_
      subst hr
      refine thnF h6 fun _ s7 ⟨x, H7, I7, r7, y7, st7, n7⟩ => ?_
      have I7' := I7.pinned (stat I7 n7) (T.obj _ _ st7)
      refine thnF (pg.run _ s7 _ H7 x u _ I7' r7 (step x H7 y7)) fun _ s8 ⟨σ8, H8, I8, hw8, q8⟩ => ?_
      refine thnF (pt.run _ s8 σ8 H8 _ I8 q8) fun b s9 ⟨H9, I9, q9⟩ => ?_
      -- the turn's end
      have fin : ∀ {s' : Shared} {H' : Hp}, L2.Inv (X.blk s3 H3 scope ce fp) ([] ++ pinsAt fp s7.heap) σ8 H' s' → Nx H' → ∃ m, m < n ∧ ∃ i H', L2.Inv (X.blk s3 H3 scope ce fp) [] (wipe σ (own.map (·.2))) H' s' ∧ tn i s'.heap ∧ (∀ b ∈ fp, H' b = none) ∧ W i m H' := fun {s' H'} I' nx => by
        obtain ⟨m', hm, w'⟩ := hNx H' nx
        have pin' : ∀ b ∈ fp, ∀ o, s7.heap.get? b = some o → s'.heap.get? b = some o ∧ H' b = none := fun b hb o e =>
          let z := I'.pin (b, o) (List.mem_append_right _ (List.mem_append_right _ (mem_pinsAt hb e)))
          ⟨z.1, z.2.1⟩
        have hl : (wipe σ (own.map (·.2))).length = σ8.length := by rw [← hw8, wipe_length]
        refine ⟨m', hm, i + 1, H', (I'.unpinned (pins := [])).weak hl (fun j v e => ?_), T.keep _ _ _ st7 fun b hb o e => (pin' b hb o e).1, fun b hb => ?_, w'⟩
        · rw [← hw8] at e
          exact (wipe_some e).1
        · obtain ⟨o, e, _⟩ := T.obj _ _ st7 b hb
          exact (pin' b hb o e).2
      cases b with
      | false =>
        simp only [Bool.false_eq_true, if_false] at q9 ⊢
        exact fin I9 q9
      | true =>
        simp only [if_true] at q9 ⊢
        refine thnF (pk.run _ s9 σ8 H9 _ I9 q9) fun z s10 ⟨yk, H10, I10, r10, q10⟩ => ?_
        refine thnF (pe.run _ s10 σ8 H10 _ I10 q10) fun z2 s11 ⟨yv, H11, I11, r11, st⟩ => ?_
        exact st (X.blk s3 H3 scope ce fp) _ _ _ _ _ _ _ ⟨rfl, rfl, rfl, rfl⟩ I11 r10 r11 fun H12 s12 nx I12 => fin I12 nx
  exact codeAny_compStart_dict loop (T.self X.A 0 _ _ _ st4 loop)
/-- as a value -/
theorem pe_dcg {kx vx tg iter : Expr} {ifs : List Expr} {scope : Scope} {own : List (Str × Nat)} {pos : Pos} {wi : TI} {g : TG} {tt : TT} {tk tv : TE} {o0 : Addr → HO} (ho : ∀ (h : Heap) (H : Hp), sysModules < h.objs.size → ObjOk X.prog X.w H (h.push { cls := .type "dict", data := .dict #[] }) h.objs.size (o0 h.objs.size)) (hc : X.calm = true) (hN : X.N.Nodup) (hi : PI X tg iter wi) (ok : BlkOk X.N X.env.scope scope own)
    (hg : ∀ (s : Shared) (H : Hp) (C : Addr) (cl : List (Str × Addr)) (fp : List Addr), PG (X.blk s H scope (compEnvC scope cl C X.env) fp) tg g) (ht : ∀ (s : Shared) (H : Hp) (C : Addr) (cl : List (Str × Addr)) (fp : List Addr), PTs (X.blk s H scope (compEnvC scope cl C X.env) fp) ifs tt)
    (hk : ∀ (s : Shared) (H : Hp) (C : Addr) (cl : List (Str × Addr)) (fp : List Addr), PE (X.blk s H scope (compEnvC scope cl C X.env) fp) kx tk)
    (he : ∀ (s : Shared) (H : Hp) (C : Addr) (cl : List (Str × Addr)) (fp : List Addr), PE (X.blk s H scope (compEnvC scope cl C X.env) fp) vx tv) (hs : ∀ x, foldedSetIterable iter X.env x = pure x := by intro _; rfl) :
    PE X (.DictComp kx vx [⟨tg, iter, ifs, 0⟩] scope pos) (tDcg X o0 wi g tt tk tv (own.map (·.2))) := by
  refine ⟨fun pins s σ H Q I h => ?_⟩
  rw [arm_eval_DictComp]
  refine dcg_core ho hc hN I hi ok hg ht hk he hs h fun D C s' m H' I' q hn f => ⟨m, hn, fun h'' sb => ?_⟩
  obtain ⟨f0, f1, f2, f3, f4, f5⟩ := f
  exact ⟨.ref D, H', I'.turned (t' := s'.toks) (fun b o hb e => (sb.2 b hb).trans e) f0 f1 f3 f4 f5, rfl, q⟩
end
end Cr
end

section
set_option Elab.async false
set_option linter.all false
set_option maxRecDepth 100000
set_option maxHeartbeats 2000000
set_option pp.maxSteps 300
/-! Core, part T: dict comprehensions whose keys are tuples. -/
namespace Cr
open PySem PySem.Spec PyProof.Rows L2

open Classical in
noncomputable def compN (ok : Sto → Prop) (g : D → En → M En) (t : En → M Bool) (mk mv : En → M D) (η : En) : List D → List (NestedKey × D) → M (List (NestedKey × D))
  | [], acc => fun A => if ok A then .ok acc A else .err
  | d :: r, acc => fun A => if ok A then (M.calm (g d η) >>= fun η1 => M.calm (t η1) >>= fun b => if b = true then M.calm (mk η1) >>= fun y => M.calm (mv η1) >>= fun z =>
      (match tkOf y with
        | some k => if acc.length < sizeLine then compN ok g t mk mv η r (put acc k z) else M.err
        | none => M.err) else compN ok g t mk mv η r acc : M (List (NestedKey × D))) A else .err
section
variable {ok : Sto → Prop} {g : D → En → M En} {t : En → M Bool} {mk mv : En → M D} {η : En} {A : Sto} {d : D} {r : List D} {acc : List (NestedKey × D)}
theorem compN_nil (h : ok A) : compN ok g t mk mv η [] acc A = .ok acc A := by rw [compN]; exact if_pos h
theorem compN_cons (h : ok A) : compN ok g t mk mv η (d :: r) acc A = (M.calm (g d η) >>= fun η1 => M.calm (t η1) >>= fun b => if b = true then M.calm (mk η1) >>= fun y => M.calm (mv η1) >>= fun z =>
      (match tkOf y with
        | some k => if acc.length < sizeLine then compN ok g t mk mv η r (put acc k z) else M.err
        | none => M.err) else compN ok g t mk mv η r acc : M (List (NestedKey × D))) A := by rw [compN]; exact if_pos h
theorem compN_bad (h : ¬ ok A) (l : List D) : compN ok g t mk mv η l acc A = .err := by
  cases l with
  | nil => rw [compN]; exact if_neg h
  | cons d r => rw [compN]; exact if_neg h
end
noncomputable def mDn (own : List Nat) (mi : En → M ItD) (g : D → En → M En) (t : En → M Bool) (mk mv : En → M D) (η : En) : M D := do
  let it ← mi η
  let l ← compN it.ok g t mk mv (wipeE η own) it.its []
  pure (.dn l)
theorem raw_new {P : Program} {w : World} (h : Heap) (H : Hp) (hb : sysModules < h.objs.size) : ObjOk P w H (h.push { cls := .type "dict", data := .dict #[] }) h.objs.size (rawD P w h.objs.size []) :=
  raw_ok (beq_eq_false_iff_ne.mpr (Ne.symm (Nat.ne_of_lt hb))) (Nat.zero_le _) (Heap.DictOfH.new h)
section
variable {X : Cx} {B : By} {W : WX}
theorem dn_set (hP : X.prog = B.prog) (hW : X.w = B.w) (hK : X.K = B.K) (hu : X.A.units + 64 < cLine) {S : Sx} {a : Addr} {l : List (NestedKey × D)} {xs : Raw} {ky : NestedKey} {ka : Addr} {d : D} {z : V} {Nx : Hp → Prop} (hH : S.H a = some (rawD B.prog B.w a xs)) (nd : (l.map (·.1)).Nodup) (rn : RepN B.toBx S l xs)
    (hz : l.length < sizeLine) (k1 : KeyAt B.K S.H ky (.ref ka)) (k2 : ky.depth ≤ 8) (r3 : Rep B.toBx S d z)
    (h : ∀ u, RelV z u → Nx (L2.upd S.H a (rawD B.prog B.w a (storedH xs ky ka u)))) : DSets X a (.ref ka) z S.H Nx := by
  intro X' pins σ s u r Q E al I ru rr k
  have hP' := al.prog.trans hP
  have hW' := al.w.trans hW
  have hK' := al.K.trans hK
  have hu' : X'.A.units + 64 < cLine := by rw [al.A]; exact hu
  cases ru
  obtain ⟨hs, hz', dd⟩ := dn_at hP' hW' hK' I (.inl hH) nd rn
  have hl2 : (storedH xs ky ka r).length ≤ sizeLine := by
    rw [← (rn.put k1 k2 r3 rr).length]
    have := put_len l ky d
    omega
  refine wpAny_dictSet_heap (hsz := hz') (by show X'.A.units + 8 < cLine; omega) (keyIs8 hK' I k1 k2) dd fun h' dd' hs' => ?_
  obtain ⟨ob, es, ep, hq, _⟩ := id dd'
  have new := raw_ok (H := L2.upd S.H a (rawD X'.prog X'.w a (storedH xs ky ka r))) hs hl2 dd'
  have I' : L2.Inv X' pins σ (L2.upd S.H a (rawD X'.prog X'.w a (storedH xs ky ka r))) { s with heap := h', toks := s.toks + (nestedKind X'.prog X'.w).draws ky } :=
    d_write I (by rw [hH]; exact True.intro) hs' ⟨ob, hq⟩ new
  rw [hP', hW'] at I'
  exact k _ _ (h r rr) I'
theorem dn_reads (hP : X.prog = B.prog) (hW : X.w = B.w) (hK : X.K = B.K) (hu : X.A.units + 64 < cLine) {own vs : List Nat} {mi : En → M ItD} {g : D → En → M En} {t : En → M Bool} {mk mv : En → M D} (hv : ∀ i ∈ vs, i ∈ own) {σ : L2.St} {H : Hp} {Q : VK} (h : rdE B W (mDn own mi g t mk mv) σ H Q) :
    tDcg X (fun a => rawD B.prog B.w a []) (rdI B W mi) (rdG B vs g) (rdT B wNo t) (rdE B wNo mk) (rdE B wNo mv) own σ H Q := by
  obtain ⟨S, η, rfl, r, en, p⟩ := h
  refine ⟨S, η, rfl, r, en, Post.imp (Post.bind p) fun it S1 n1 p1 J rj D hD => ?_⟩
  have P1 : Post B (fun c d H' => W c d σ H') S1 (fun l S' => ∀ v, Rep B.toBx S' (.dn l) v → Q v S'.H) (compN it.ok g t mk mv (wipeE η own) it.its [] S1.A) :=
    Post.imp (Post.bind p1) fun l S2 n2 p2 v rv => p2 S2 rfl (.refl n2.rel) v rv
  clear p1
  refine ⟨fun i m H => m = it.its.length - i ∧ i ≤ it.its.length ∧ ∃ S2 acc ws, S2.H = H ∧ Nxt B.toBx S1 S2 ∧ D ∈ S2.T ∧ S2.H D = some (rawD B.prog B.w D ws) ∧ (acc.map (·.1)).Nodup ∧ RepN B.toBx S2 acc ws ∧
    Post B (fun c d H' => W c d σ H') S1 (fun l S' => ∀ v, Rep B.toBx S' (.dn l) v → Q v S'.H) (compN it.ok g t mk mv (wipeE η own) (it.its.drop i) acc S2.A),
    ⟨_, rfl, Nat.zero_le _, S1.scr D (rawD B.prog B.w D []), [], [], rfl, .scr n1.rel hD trivial (fun _ z => nomatch z), List.mem_cons_self .., upd_same, List.nodup_nil, .nil, P1⟩, ?_⟩
  rintro i m H ⟨rfl, hi, S2, acc, ws, rfl, n2, hT, hH, nd, ra, p2⟩
  by_cases ok : it.ok S2.A
  case neg => rw [compN_bad ok] at p2; exact p2.elim
  obtain ⟨h1, h2⟩ := rj S2 n2 ok
  by_cases hi2 : i = it.its.length
  · subst hi2
    rw [List.drop_length, compN_nil ok] at p2
    exact .inl ⟨h2, p2 (Sx.done S1 S2) rfl (.done n2) _ (.dn (.inl hH) (nlive_done n1.rel n2 hD hT) nd (ra.ext0 (.done n2)))⟩
  · have hlt : i < it.its.length := by omega
    obtain ⟨g1, g2⟩ := h1 (it.its[i]) i (List.getElem?_eq_getElem hlt)
    rw [List.drop_eq_getElem_cons hlt, compN_cons ok] at p2
    refine .inr ⟨g1, fun H' => ∃ S3 acc' ws', S3.H = H' ∧ Nxt B.toBx S1 S3 ∧ D ∈ S3.T ∧ S3.H D = some (rawD B.prog B.w D ws') ∧ (acc'.map (·.1)).Nodup ∧ RepN B.toBx S3 acc' ws' ∧
      Post B (fun c d H' => W c d σ H') S1 (fun l S' => ∀ v, Rep B.toBx S' (.dn l) v → Q v S'.H) (compN it.ok g t mk mv (wipeE η own) (it.its.drop (i + 1)) acc' S3.A), ?_, ?_⟩
    · rintro H' ⟨S3, acc', ws', rfl, q⟩
      exact ⟨_, by show it.its.length - (i + 1) < _; omega, rfl, hlt, S3, acc', ws', rfl, q⟩
    · intro x H' hy
      obtain ⟨S3, eA, rfl, n3, r3⟩ := g2 x H' hy
      rw [← eA] at p2
      have en3 : EnR B.toBx S3 (wipeE η own) (wipe σ own) := (EnR.ext (n1.ext.trans (n2.ext.trans n3.ext)) en).wipe own
      refine ⟨S3, wipeE η own, it.its[i], rfl, n3.rel, en3, r3, Post.imp (Post.step p2) fun η4 S4 n4 p4 σ4 en4 hw => ⟨?_, ?_⟩⟩
      · rw [hw own fun i hi => hv i hi]
        exact wipe_wipe fun i hi => hi
      · refine ⟨S4, η4, rfl, n4.rel, en4, Post.imp (Post.step p4) fun b S5 n5 p5 => ?_⟩
        have n25 : Nxt B.toBx S2 S5 := n3.trans (n4.trans n5)
        cases b with
        | false =>
          rw [if_neg Bool.false_ne_true] at p5
          exact ⟨S5, acc, ws, rfl, n2.trans n25, (n25.ext.scr D hT).1, (n25.ext.scr D hT).2 _ hH, nd, ra.ext n25.ext, p5⟩
        | true =>
          rw [if_pos rfl] at p5
          refine ⟨S5, η4, rfl, n5.rel, en4.ext n5.ext, Post.imp (Post.step p5) fun y S6 n6 p6 v rv => ?_⟩
          refine ⟨S6, η4, rfl, n6.rel, (en4.ext n5.ext).ext n6.ext, Post.imp (Post.step p6) fun z S7 n7 p7 v2 rv2 => ?_⟩
          have n27 : Nxt B.toBx S2 S7 := n25.trans (n6.trans n7)
          have hT7 := (n27.ext.scr D hT).1
          have hH7 := (n27.ext.scr D hT).2 _ hH
          cases hk : tkOf y with
          | some ky =>
            simp only [hk] at p7
            split at p7
            · rename_i hz
              have ra7 := ra.ext n27.ext
              have rv7 := rv.ext n7.ext
              obtain ⟨ka, rfl, k1, k2⟩ := tk_rep rv7 hk
              refine dn_set hP hW hK hu hH7 nd ra7 hz k1 k2 rv2 fun u ru => ?_
              exact ⟨S7.grow D (rawD B.prog B.w D (storedH ws ky ka u)), put acc ky z, _, rfl, Nxt.grow (n2.trans n27) hD hT7 trivial (fun _ z => nomatch z), hT7, upd_same, put_keys _ _ _ nd, (ra7.put k1 k2 rv2 ru).ext0 (.grow n7.rel hT7), p7⟩
            · exact p7.elim
          | none =>
            simp only [hk] at p7
            exact p7.elim
variable {tg iter kx vx : Expr} {ifs : List Expr} {scope : Scope} {own : List (Str × Nat)} {vs : List Nat} {pos : Pos} {mi : En → M ItD} {g : D → En → M En} {t : En → M Bool} {mk mv : En → M D}
/-- {kx: vx for tg in iter if ..}, the keys tuples -/
theorem se_dn (hP : X.prog = B.prog) (hW : X.w = B.w) (hK : X.K = B.K) (hu : X.A.units + 64 < cLine) (hc : X.calm = true) (hN : X.N.Nodup) (hi : SI X B W tg iter mi) (ok : BlkOk X.N X.env.scope scope own) (hv : ∀ i ∈ vs, i ∈ own.map (·.2))
    (hg : ∀ (s : Shared) (H : Hp) (C : Addr) (cl : List (Str × Addr)) (fp : List Addr), SG (X.blk s H scope (compEnvC scope cl C X.env) fp) B vs tg g)
    (ht : ∀ (s : Shared) (H : Hp) (C : Addr) (cl : List (Str × Addr)) (fp : List Addr), STs (X.blk s H scope (compEnvC scope cl C X.env) fp) B wNo ifs t)
    (hk : ∀ (s : Shared) (H : Hp) (C : Addr) (cl : List (Str × Addr)) (fp : List Addr), SE (X.blk s H scope (compEnvC scope cl C X.env) fp) B wNo kx mk)
    (he : ∀ (s : Shared) (H : Hp) (C : Addr) (cl : List (Str × Addr)) (fp : List Addr), SE (X.blk s H scope (compEnvC scope cl C X.env) fp) B wNo vx mv)
    (hs : ∀ x, foldedSetIterable iter X.env x = pure x) : SE X B W (.DictComp kx vx [⟨tg, iter, ifs, 0⟩] scope pos) (mDn (own.map (·.2)) mi g t mk mv) :=
  PE.mono (pe_dcg (o0 := fun a => rawD B.prog B.w a []) (fun h H hb => by rw [← hP, ← hW]; exact raw_new h H hb) hc hN hi ok hg ht hk he hs) fun σ H Q h => dn_reads hP hW hK hu hv h
/-! {} displays -/
/-- {}, to take ints and texts as keys -/
theorem se_dk0 : SE X B W (.Dict [] [] pos) (fun _ => newO (.dk [])) := PE.mono pe_dnewK fun σ H Q ⟨S, η, eH, r, en, p⟩ p1 hp => by
  subst eH
  have nx : Nxt B.toBx S (S.add p1 (.dK []) (.dk [])) := .add r hp ⟨[], upd_same, .nil⟩
  exact p (S.add p1 (.dK []) (.dk [])) rfl nx _ .new
/-- {}, to take tuples as keys -/
theorem pe_dnewN : PE X (.Dict [] [] pos) (fun _ H Q => ∀ p, H p = none → Q (.ref p) (upd H p (rawD X.prog X.w p []))) := ⟨fun pins s σ H Q I h =>
  wpAny_Dict_empty ⟨.ref s.heap.objs.size, _, I.laid (a := s.heap.objs.size) (o := rawD X.prog X.w s.heap.objs.size []) (t' := s.toks) (fun _ _ q => Heap.get?_push_of_some _ q) (Nat.le_refl _) (raw_new s.heap _ I.big), rfl, h _ (I.hok.fresh (Nat.le_refl _))⟩⟩
theorem se_dn0 (hP : X.prog = B.prog) (hW : X.w = B.w) : SE X B W (.Dict [] [] pos) (fun _ => newO (.dn [])) := PE.mono pe_dnewN fun σ H Q ⟨S, η, eH, r, en, p⟩ p1 hp => by
  subst eH
  rw [hP, hW]
  have nx : Nxt B.toBx S (S.add p1 (rawD B.prog B.w p1 []) (.dn [])) := .add r hp ⟨[], upd_same, List.nodup_nil, .nil⟩
  exact p (S.add p1 (rawD B.prog B.w p1 []) (.dn [])) rfl nx _ .new
end
end Cr
end

section
set_option Elab.async false
set_option linter.all false
set_option maxRecDepth 100000
set_option maxHeartbeats 2000000
set_option pp.maxSteps 300
/-! Core, part U: a lambda without captured names; sorted(.., key=lambda r: (len(r), r)). -/
namespace Cr
open PySem PySem.Spec PyProof.Rows L2 LamX

theorem among_app2 {pos p' : Pos} {c cv : Value} (l : List Value) (h : TriplesOk l) (hc : codeAmong p' (l ++ [rawInt pos.line, rawInt pos.col, c]) = some cv) : codeAmong p' l = some cv ∨ cv = c := LamX.among_app l h hc
section
variable {X : Cx} {B : By} {pins : List (Addr × Obj)} {σ : L2.St} {S : Sx} {s : Shared}
/-- the lambda is made; n: the table's place in the store -/
theorem lam_mk {n : Nat} {c P : Addr} {params : Arguments} {body : Expr} {scope : Scope} {pos : Pos} {E : Value → Shared → Prop} {Q : Value → Shared → Prop} (I : L2.Inv X pins σ S.H s) (r : Rel B.toBx S) (TB : TabB X.base X.mg c P) (hcode : X.env.code = .ref c)
    (hn : S.A[n]? = some (.tab P (X.env.qual ++ "<lambda>"))) (hdef : defaultsOf params X.env = ([], [])) (hfree : ∀ y ∈ scope.names, y.2 = .free → ∃ c, X.env.cells.lookup y.1 = some c)
    (h : ∀ (f c' : Addr) (pm ctv : Value) (S1 : Sx) (s' : Shared), L2.Inv X pins σ S1.H s' → S1.A = S.A → Nxt B.toBx S S1 →
      s'.heap.get? f = some (PySem.W.kla_obj "<lambda>" (X.env.qual ++ "<lambda>") params body scope (cloFrom X.env.cells scope.names []) pm c' ctv) → s'.heap.CodeRec (.ref c') (X.env.qual ++ "<lambda>") → Q (.ref f) s') :
    wpAny (model X.prog X.w) X.A (eval (.Lambda params body scope pos) X.env) Q E s := by
  obtain ⟨eP, ps, hP, ht, ha⟩ := r.obj n _ hn
  rw [← eP] at TB
  refine PySem.W.kla_eval hdef ?_
  have bP : s.heap.BuiltinsAt X.mg (S.rho n) := TB.bm.keeps I.bk
  have hP' : s.heap.get? (S.rho n) = some { cls := .none, data := .fields ps } := I.hok (S.rho n) _ hP
  cases hc : codeAmong pos ps.toList with
  | none =>
    refine PySem.W.kla_makeFunction (mg := X.mg) (c := c) (P := S.rho n) (ps := ps) (closure_ok hfree) I.ok.glob (I.mod.glob.keeps I.bk) hcode (TB.code.keeps I.bk) hP' ht hc TB.gP bP fun c' ctv h' tk hx hge hlt hrec htb => ?_
    obtain ⟨c2, oc, vs, t, e2, hoc, hd, hv⟩ := id hrec
    cases e2
    have nC : S.H c' = none := I.hok.fresh hge
    have I1 := LamX.inv_table (t' := tk) (more := #[rawInt pos.line, rawInt pos.col, .ref c']) (h' := h'.push (PySem.W.kla_obj "<lambda>" (X.env.qual ++ "<lambda>") params body scope (cloFrom X.env.cells scope.names []) ((X.mg "__name__").getD .none) c' ctv)) I hP
      (fun b o hb e => Heap.get?_push_of_some _ (hx b o hb e)) (Heap.get?_push_of_some _ htb) hge ⟨oc, vs, t, Heap.get?_push_of_some _ hoc, hd, hv⟩
    have eL : (ps ++ #[rawInt pos.line, rawInt pos.col, .ref c']).toList = ps.toList ++ [rawInt pos.line, rawInt pos.col, .ref c'] := by simp
    have n1 : Nxt B.toBx S (S.put c' (CodeO c' (X.env.qual ++ "<lambda>"))) := .put r nC
    have nPc : S.rho n ≠ c' := ne_of_none hP nC
    have eH : L2.upd (L2.upd S.H (S.rho n) (.tbl (ps ++ #[rawInt pos.line, rawInt pos.col, .ref c']))) c' (CodeO c' (X.env.qual ++ "<lambda>")) = ((S.put c' (CodeO c' (X.env.qual ++ "<lambda>"))).upd n (.tbl (ps ++ #[rawInt pos.line, rawInt pos.col, .ref c'])) (.tab P (X.env.qual ++ "<lambda>"))).H := by
      funext b
      show L2.upd (L2.upd S.H (S.rho n) _) c' _ b = L2.upd (L2.upd S.H c' _) (S.rho n) _ b
      by_cases h1 : b = c'
      · rw [h1, upd_same, upd_ne (Ne.symm nPc), upd_same]
      · by_cases h2 : b = S.rho n
        · rw [h2, upd_ne nPc, upd_same, upd_same]
        · rw [upd_ne h1, upd_ne h2, upd_ne h2, upd_ne h1]
    rw [eH] at I1
    have n2 : Nxt B.toBx (S.put c' (CodeO c' (X.env.qual ++ "<lambda>"))) ((S.put c' (CodeO c' (X.env.qual ++ "<lambda>"))).upd n (.tbl (ps ++ #[rawInt pos.line, rawInt pos.col, .ref c'])) (.tab P (X.env.qual ++ "<lambda>"))) := by
      have ex : Ext (S.put c' (CodeO c' (X.env.qual ++ "<lambda>"))) ((S.put c' (CodeO c' (X.env.qual ++ "<lambda>"))).upd n (.tbl (ps ++ #[rawInt pos.line, rawInt pos.col, .ref c'])) (.tab P (X.env.qual ++ "<lambda>"))) :=
        .upd n1.rel (n := n) (y := .tab P (X.env.qual ++ "<lambda>")) hn (fun z => nomatch z)
      refine .upd n1.rel (n := n) (y := .tab P (X.env.qual ++ "<lambda>")) hn (fun z => nomatch z) ⟨eP, _, upd_same, by rw [eL]; exact PySem.TriplesOk_snoc _ _ _ _ ht, fun p' cv hcv => ?_⟩
      rw [eL] at hcv
      rcases among_app2 _ ht hcv with z | z
      · obtain ⟨c0, e1, e2, e3⟩ := ha p' cv z
        obtain ⟨e4, e5⟩ := (n1.ext.toExt0.trans ex.toExt0).rd e2 e3
        exact ⟨c0, e1, e4, e5⟩
      · have nl := nlive_put (o := CodeO c' (X.env.qual ++ "<lambda>")) r nC
        obtain ⟨e4, e5⟩ := ex.toExt0.rd (.inl upd_same) nl
        exact ⟨c', z, e4, e5⟩
    refine h h'.objs.size c' ((X.mg "__name__").getD .none) ctv _ _ I1 ?_ (n1.trans n2) (Heap.get?_push_size _ rfl) ⟨c', oc, vs, t, rfl, Heap.get?_push_of_some _ hoc, hd, hv⟩
    show S.A.set n _ = S.A
    refine List.ext_getElem? fun i => ?_
    by_cases hi : n = i
    · subst hi
      rw [List.getElem?_set_self (List.getElem?_eq_some_iff.mp hn).1, hn]
    · rw [List.getElem?_set_ne hi]
  | some cv =>
    obtain ⟨c', e, hco, hnl⟩ := ha pos cv hc
    subst e
    refine PySem.W.kla_makeFunctionHit (mg := X.mg) (c := c) (P := S.rho n) (ps := ps) (closure_ok hfree) I.ok.glob (I.mod.glob.keeps I.bk) hcode (TB.code.keeps I.bk) hP' ht hc bP fun ctv h' tk hx hsz => ?_
    have I1 : L2.Inv X pins σ S.H { s with heap := h'.push (PySem.W.kla_obj "<lambda>" (X.env.qual ++ "<lambda>") params body scope (cloFrom X.env.cells scope.names []) ((X.mg "__name__").getD .none) c' ctv), toks := tk } := I.kept fun b o e => Heap.get?_push_of_some _ (hx b o e)
    have hco' : ObjOk X.prog X.w S.H s.heap c' (CodeO c' (X.env.qual ++ "<lambda>")) := hco.ok I.hok
    obtain ⟨⟨oc, vs, t, h1, h2, h3⟩, _⟩ := hco'
    exact h h'.objs.size c' ((X.mg "__name__").getD .none) ctv S _ I1 rfl (.refl r) (Heap.get?_push_size _ rfl) ⟨c', oc, vs, t, rfl, Heap.get?_push_of_some _ (hx _ _ h1), h2, h3⟩
end
section
variable {P : Program} {w : World} {A : Around} {h : Heap} {g : Array GenState} {d : Drawn} {t : Nat} {os : OsState} {mg mb : Str → Option Value}
abbrev keyB (x : Str) (j : Nat) (p1 p2 p3 p4 p5 : Pos) : Expr := .Tuple [.Call (.Name "len" p1) [.Name x p2] [] p3, .Name x p4] j p5
/-- (lambda x: (len(x), x))(a) -/
theorem lam_key {f c' a : Addr} {its : Array Value} {qual x : Str} {params : Arguments} {scope : Scope} {pm ctv : Value} {j : Nat} {p1 p2 p3 p4 p5 : Pos} {pd : PyData}
    (hroom : A.depth < recursionLimit) (hf : h.get? f = some (PySem.W.kla_obj "<lambda>" qual params (keyB x j p1 p2 p3 p4 p5) scope [] pm c' ctv)) (hcr : h.CodeRec (.ref c') qual) (lim : h.NoLimit) (G : h.Ns mainGlobals mg) (hlen : mg "len" = none) (Bn : h.Ns builtinsNs mb) (hbb : ∀ x : Str, x ≠ "__name__" → mb x = bootBuiltins x)
    (hbind : ∀ (q : Str) (pm cv ctv v : Value), bindArgs (PySem.W.kla_fn "<lambda>" q params (keyB x j p1 p2 p3 p4 p5) scope [] pm cv ctv) ⟨[v], []⟩ = pure [(x, v)])
    (hk : scope.kind = .function) (hco : scope.isCoroutine = false) (hgen : scope.isGenerator = false) (hcell : ∀ y ∈ scope.names, y.2 ≠ .cell) (l1 : scope.names.lookup x = some .local) (l2 : scope.names.lookup ("len" : Str) = some .globalImplicit) (hxd : (x == ("__debug__" : Str)) = false)
    (ht : IsTup h a its) (hsz : its.size ≤ sizeLine) (hr : Reads h (.ref a) pd []) :
    wpAny (model P w) A (call (.ref f) [.ref a]) (PySem.W.KeyPure (.tuple [.int its.size, pd]) ⟨h, g, d, t, os⟩) (fun _ _ => False) ⟨h, g, d, t, os⟩ := by
  refine wpAny_call (PySem.W.kla_callFunE hroom hf rfl hco hgen rfl hcr ?_)
  rw [hbind]
  refine wpAny_pure (wpAny_newFunctionEnv hcell (fun y hy => ?_) (fun h₁ hns hsb => ⟨lim.fresh _ hsb, ?_⟩) hk)
  · rw [List.mem_singleton] at hy
    subst hy
    exact l1
  have hk₁ : ∀ b o, h.get? b = some o → h₁.get? b = some o := fun b o e => hsb.extBut b o (Nat.ne_of_lt (Heap.lt_size e)) (Heap.get?_push_of_some _ e)
  have hmx : [(x, Value.ref a)].reverse.lookup x = some (.ref a) := by simp [List.lookup]
  show codeAny _ _ (.expr (keyB x j p1 p2 p3 p4 p5) (PySem.W.envX qual scope h.objs.size f (.ref c') [])) _ _
  refine PySem.W.kla_codeExpr ?_
  refine wpAny_Tuple_spliced ?_
  show wpAny _ _ (spliced ((false, eval (.Call (.Name "len" p1) [.Name x p2] [] p3) (PySem.W.envX qual scope h.objs.size f (.ref c') [])) :: (false, eval (.Name x p4) (PySem.W.envX qual scope h.objs.size f (.ref c') [])) :: backTo p5 (starEach [] _))) _ _ _
  refine Calls.spliced_cons (wpAny_Call_Name_kw (Calls.Name_function_global (env := PySem.W.envX qual scope h.objs.size f (.ref c') []) hk l2 (Calls.loadGlobal_builtin (env := PySem.W.envX qual scope h.objs.size f (.ref c') []) (G.keeps hk₁) hlen (Bn.keeps hk₁) ((hbb _ (by decide +kernel)).trans PyProof.Rows.Boot.«len») ?_) (by decide +kernel)))
  refine Calls.callWith_builtin rfl (Calls.evalArgs_plain (Calls.spliced_cons (wpAny_Name (wpAny_loadName_local (env := PySem.W.envX qual scope h.objs.size f (.ref c') []) hk l1 hns hmx ?_) hxd)))
  refine Calls.spliced_nil (len_tuple (ht.keeps hk₁) (by have := line63; have := sizeLine_eq; omega) ?_)
  refine Calls.spliced_cons (wpAny_Name (wpAny_loadName_local (env := PySem.W.envX qual scope h.objs.size f (.ref c') []) hk l1 hns hmx ?_) hxd)
  refine Calls.spliced_nil ⟨by show 2 ≤ sizeLine; decide, ?_⟩
  refine ⟨_, _, rfl, fun b o e => Heap.get?_push_of_some _ (hk₁ b o e), ?_⟩
  exact .tuple (Heap.get?_push_size _ rfl) rfl rfl (.cons (.int _ _) (.cons (PyProof.Rows.Reads.keeps (fun b o e => Heap.get?_push_of_some _ (hk₁ b o e)) hr) .nil))
end
end Cr
end

section
set_option Elab.async false
set_option linter.all false
set_option maxRecDepth 100000
set_option maxHeartbeats 400000
set_option pp.maxSteps 300
/-! Core, part V: sorted(rows, key=lambda r: (len(r), r)). -/
namespace Cr
open PySem PySem.Spec PyProof.Rows L2 LamX PySem.W

/-- a row of texts -/
def rowD : D → Bool
  | .tup l => l.all strD
  | _ => false
def rowLen : D → Nat
  | .tup l => l.length
  | _ => 0
def keyD (d : D) : PyData := .tuple [.int (rowLen d), enD d]
def bSortK (n : Nat) (P : Addr) (q : Str) (A : Sto) (d : D) : Option D := match A[n]? with
  | some (.tab P' q') => if P' = P ∧ q' = q then (lstOf A d).bind fun l => if (l.all rowD) = true then some (.lst (l.mergeSort (dataLe false keyD))) else none else none
  | _ => none
theorem pdL_strs : ∀ {l : List D}, l.all strD = true → pdL l = some (l.map enD)
  | [], _ => rfl
  | d :: l, h => by
    rw [List.all_cons] at h
    obtain ⟨h1, h2⟩ := Bool.and_eq_true_iff.mp h
    obtain ⟨x, rfl⟩ := str_of_strD h1
    have e := pdL_strs h2
    simp [pdL, pd, e, enD]
theorem enD_row {l : List D} (h : l.all strD = true) : enD (.tup l) = .tuple (l.map enD) := by
  have e := pdL_strs h
  simp [enD, pd, e]
theorem alike_strs : ∀ {l l' : List D}, l.all strD = true → l'.all strD = true → alikeAll (l.map enD) (l'.map enD) = true
  | [], _, _, _ => by simp [alikeAll]
  | _ :: _, [], _, _ => by simp [alikeAll]
  | d :: l, d' :: l', h, h' => by
    rw [List.all_cons] at h h'
    obtain ⟨h1, h2⟩ := Bool.and_eq_true_iff.mp h
    obtain ⟨h3, h4⟩ := Bool.and_eq_true_iff.mp h'
    obtain ⟨x, rfl⟩ := str_of_strD h1
    obtain ⟨y, rfl⟩ := str_of_strD h3
    have e := alike_strs h2 h4
    have e1 : enD (.str x) = .str x := rfl
    have e2 : enD (.str y) = .str y := rfl
    simp [alikeAll, alike, e1, e2, e]
theorem alike_key {d d' : D} (h : rowD d = true) (h' : rowD d' = true) : alike (keyD d) (keyD d') = true := by
  cases d with
  | tup l =>
    cases d' with
    | tup l' =>
      have e := alike_strs (l := l) (l' := l') h h'
      simp [keyD, alike, alikeAll, enD_row (l := l) h, enD_row (l := l') h', e]
    | _ => cases h'
  | _ => cases h
theorem depth_strs : ∀ {l : List D}, l.all strD = true → PyData.depthAll (l.map enD) = 0
  | [], _ => by simp [PyData.depthAll]
  | d :: l, h => by
    rw [List.all_cons] at h
    obtain ⟨h1, h2⟩ := Bool.and_eq_true_iff.mp h
    obtain ⟨x, rfl⟩ := str_of_strD h1
    have e := depth_strs h2
    have e1 : enD (.str x) = .str x := rfl
    simp [PyData.depthAll, PyData.depth, e1, e]
theorem depth_key {d : D} (h : rowD d = true) : (keyD d).depth ≤ 2 := by
  cases d with
  | tup l => simp [keyD, PyData.depth, PyData.depthAll, enD_row (l := l) h, depth_strs (l := l) h]
  | _ => cases h
section
variable {X : Cx} {B : By} {W : WX} {a : Expr} {ma : En → M D} {pins : List (Addr × Obj)} {σ : L2.St} {S : Sx} {s : Shared}
theorem strs_reads {h : Heap} : ∀ {l : List D} {vs : List V} {us : List Value}, RepL B.toBx S l vs → Vals vs us → l.all strD = true → ReadsAll h us (l.map enD) []
  | _, _, _, .nil, r, _ => by cases r; exact .nil
  | _, _, _, .cons h t, r, e => by
    rw [List.all_cons] at e
    obtain ⟨e1, e2⟩ := Bool.and_eq_true_iff.mp e
    cases r with
    | cons r1 r2 =>
      cases h with
      | str x =>
        obtain ⟨tk, rfl⟩ := r1
        exact .cons (.str x tk) (strs_reads t r2 e2)
      | _ => cases e1
/-- a row as it lies -/
def RowAt (h : Heap) (u : Value) (d : D) : Prop := ∃ a its, u = .ref a ∧ IsTup h a its ∧ its.size = rowLen d ∧ its.size ≤ sizeLine ∧ Reads h (.ref a) (enD d) []
theorem row_at (hK : X.K = B.K) (I : L2.Inv X pins σ S.H s) {d : D} {v : V} {u : Value} (h : Rep B.toBx S d v) (rv : RelV v u) (hd : rowD d = true) : RowAt s.heap u d := by
  cases h with
  | @tup a vs l hq rl =>
    cases rv
    rw [← hK] at hq
    obtain ⟨its, r', pl, hz⟩ := I.tuple hq
    have hlen := r'.length
    obtain ⟨o, ho, hc, n, hdt⟩ := id (show IsTup s.heap a its.toArray from pl)
    refine ⟨a, its.toArray, rfl, pl, ?_, ?_, ?_⟩
    · rw [List.size_toArray, ← hlen]
      exact rl.length.symm
    · rw [List.size_toArray, ← hlen]; exact hz
    · rw [enD_row (l := l) hd]
      exact .tuple ho hc hdt (by rw [List.toList_toArray]; exact strs_reads rl r' hd)
  | _ => cases hd
theorem rows_at (hK : X.K = B.K) (I : L2.Inv X pins σ S.H s) : ∀ {l : List D} {vs : List V} {us : List Value}, RepL B.toBx S l vs → Vals vs us → l.all rowD = true → EachIs (fun u d => RVD B.toBx S u d ∧ RowAt s.heap u d) us l
  | _, _, _, .nil, r, _ => by cases r; exact .nil
  | _, _, _, .cons h t, r, e => by
    rw [List.all_cons] at e
    obtain ⟨e1, e2⟩ := Bool.and_eq_true_iff.mp e
    cases r with
    | cons r1 r2 => exact .cons ⟨⟨_, r1, h⟩, row_at hK I h r1 e1⟩ (rows_at hK I t r2 e2)
/-- sorted(a, key=lambda x: (len(x), x)) -/
theorem se_sortK {n : Nat} {c P : Addr} {x : Str} {params : Arguments} {scope : Scope} {j : Nat} {p kp lpos pos p1 p2 p3 p4 p5 : Pos} (hK : X.K = B.K) (hr : Room 1 X.A) (hg : Gl X "sorted") (hm : X.mg "sorted" = none) (hml : X.mg "len" = none)
    (TB : TabB X.base X.mg c P) (hcode : X.env.code = .ref c) (hdef : defaultsOf params X.env = ([], []))
    (hbind : ∀ (q : Str) (pm cv ctv v : Value), bindArgs (PySem.W.kla_fn "<lambda>" q params (keyB x j p1 p2 p3 p4 p5) scope [] pm cv ctv) ⟨[v], []⟩ = pure [(x, v)])
    (hk : scope.kind = .function) (hco : scope.isCoroutine = false) (hgen : scope.isGenerator = false) (hcell : ∀ y ∈ scope.names, y.2 ≠ .cell) (hfree : ∀ y ∈ scope.names, y.2 ≠ .free) (hcl : cloFrom X.env.cells scope.names [] = []) (l1 : scope.names.lookup x = some .local) (l2 : scope.names.lookup ("len" : Str) = some .globalImplicit) (hxd : (x == ("__debug__" : Str)) = false)
    (ha : SE X B W a ma) (he : starEach [a] X.env = (false, eval a X.env) :: starEach [] X.env)
    (he2 : backTo pos (starEach [a] X.env) = (false, eval a X.env) :: backTo pos (starEach [] X.env)) (hpl : (backTo pos (starEach [a] X.env)).any (·.1) = false) :
    SE X B W (.Call (.Name "sorted" p) [a] [⟨some "key", .Lambda params (keyB x j p1 p2 p3 p4 p5) scope lpos, kp⟩] pos) (fun η => do let d ← ma η; do1 (bSortK n P (X.env.qual ++ "<lambda>")) d) := by
  refine ⟨fun pins s σ H Q I ⟨S, η, eH, r, en, pp⟩ => ?_⟩
  subst eH
  refine wpAny_Call_Name_kw (ld_blt I hg hm PyProof.Rows.Boot.«sorted» ?_ (by decide) (by decide +kernel))
  refine PyProof.Rows.callWith_kw (thn ((sa_cons ha sa_nil he).run pos pins s σ S.H (fun vs H1 => ∃ S1 d v, vs = [v] ∧ S1.H = H1 ∧ Rel B.toBx S1 ∧ Rep B.toBx S1 d v ∧ Post B (fun c d H' => W c d σ H') S1 (Wv B.toBx Q) (do1 (bSortK n P (X.env.qual ++ "<lambda>")) d S1.A)) I ⟨S, η, rfl, r, en, ?_⟩) fun us s1 ⟨vs, H1, I1, r1, S1, d, v, ev, e1, rel1, rd, pp1⟩ => ?_) he2 hpl rfl rfl
  · have p' : Post B (fun c d H' => W c d σ H') S (fun d S1 => Post B (fun c d H' => W c d σ H') S1 (Wv B.toBx Q) (do1 (bSortK n P (X.env.qual ++ "<lambda>")) d S1.A)) (ma η S.A) := Post.bind pp
    show Post B _ S _ ((ma η >>= fun x => (pure [] : M (List D)) >>= fun l => pure (x :: l)) S.A)
    rw [M.bind_def]
    revert p'
    cases ma η S.A with
    | ok d A =>
      intro p' S1 e n1 vs rl
      cases rl with
      | @cons _ v1 _ _ r1 rl =>
        cases rl
        exact ⟨S1, d, v1, rfl, rfl, n1.rel, r1, p' S1 e n1⟩
    | exc c d A => exact id
    | err => exact id
  subst ev e1
  cases r1 with
  | @cons _ u _ _ ru r2 =>
  cases r2
  obtain ⟨d', hd, pp2⟩ := pp1.opt rel1
  unfold bSortK at hd
  cases hn : S1.A[n]? with
  | none => rw [hn] at hd; cases hd
  | some o =>
  rw [hn] at hd
  cases o with
  | tab P' q' =>
    simp only at hd
    split at hd
    · rename_i hpq
      obtain ⟨rfl, rfl⟩ := hpq
      obtain ⟨l, e1, e2⟩ := Option.bind_eq_some_iff.mp hd
      split at e2
      · rename_i hall
        cases e2
        show wpAny _ _ (evalAll ((do let v ← eval (.Lambda params (keyB x j p1 p2 p3 p4 p5) scope lpos) X.env; standAt pos; pure v) :: [])) _ _ s1
        refine wpAny_evalAll_cons (wpAny_bind (lam_mk I1 rel1 TB hcode hn hdef (fun y hy e => absurd e (hfree y hy)) fun f c' pm ctv S2 s2 I2 eA n2 hf hcr => wpAny_bind (wpAny_standAt (wpAny_pure ?_))))
        refine wpAny_pure ?_
        rw [hcl] at hf
        show wpAny _ _ (call (.builtin "sorted") [u] [(Str.ofString "key", .ref f)]) _ _ _
        have rd2 := rd.ext n2.ext
        rw [← eA] at e1
        obtain ⟨a, vs, rfl, ha', rl⟩ := lst_rep n2.rel rd2 e1
        cases ru
        obtain ⟨hz, its, m, rv, ho⟩ := rd_list I2 (.inl ha')
        have hl := rl.length
        obtain ⟨mb, Bn, hbb⟩ := I2.ok.mod.blt
        have bk := I2.bk
        have hin : ∀ b, b ∈ l → rowD b = true := fun b hb => List.all_eq_true.mp hall b hb
        refine PySem.W.sorted_key_data (s := s2) (R := fun u d => RVD B.toBx S2 u d ∧ RowAt s2.heap u d) (b := false) keyD ⟨_, ho, rfl, _, rfl⟩ (rows_at hK I2 rl rv hall) ?_ (.inl ?_) (by omega) ?_ (ksk_s1 _ _) (fun _ => ksk_l1 _ _) (fun _ => ksk_t1 _ _) ?_ fun out cc h' tk kp fr hD hlen eo => ?_
        · intro p hp q hq
          obtain ⟨b, hb, rfl⟩ := List.mem_map.mp hp
          obtain ⟨c, hc, rfl⟩ := List.mem_map.mp hq
          exact alike_key (hin b hb) (hin c hc)
        · intro p hp
          obtain ⟨b, hb, rfl⟩ := List.mem_map.mp hp
          exact ⟨_, _, rfl⟩
        · intro b hb
          have h1 := depth_key (hin b hb)
          have h2 := hr.units
          omega
        · rintro v b ⟨_, a, its, rfl, it, hs1, hs2, hr1⟩ hb h tk kp
          have kk : ∀ b o, X.base.get? b = some o → h.get? b = some o := fun b o e => kp b o (bk b o e)
          have z := lam_key (P := X.prog) (w := X.w) (A := X.A.in1.in1) (h := h) (g := s2.gens) (d := s2.drawn) (t := tk) (os := s2.os) (a := a) (its := its) (mg := X.mg) (mb := mb) (x := x) (pd := enD b) hr.depth (kp _ _ hf)
            (by obtain ⟨c2, oc, vs, t, e2, h1, h2, h3⟩ := hcr; exact ⟨c2, oc, vs, t, e2, kp _ _ h1, h2, h3⟩) (I2.ok.mod.nolimit.keeps kk) (I2.ok.mod.glob.keeps kk) hml (Bn.keeps kk) hbb hbind hk hco hgen hcell l1 l2 hxd (it.keeps kp) hs2 (PyProof.Rows.Reads.keeps kp hr1)
          rw [hs1] at z
          exact z
        · obtain ⟨ws, rw', rlw⟩ := of_each (eo.mono fun _ _ z => z.1)
          have hlw : ws.length ≤ sizeLine := by rw [← rlw.length, List.length_mergeSort]; omega
          exact ⟨.ref _, upd S2.H (s2.heap.objs.size + 1) (.lst ws), I2.laid (t' := tk) kp (Nat.le_succ _) ⟨hlw, out, cc, rw', hD⟩, rfl, new_lst n2.rel rlw (fun S' v eS nS rS => pp2 S' (eS.trans eA) (n2.trans nS) v rS) (I2.hok.fresh (Nat.le_succ _))⟩
      · cases e2
    · cases hd
  | _ => cases hd
end
end Cr
end

section
set_option Elab.async false
set_option linter.all false
set_option maxRecDepth 100000
set_option maxHeartbeats 400000
set_option pp.maxSteps 300
/-! Core, part W: a[i] = o.replace(y, z, 1), where a token is out. -/
namespace PySem
open Builtin Builtin.Str
/-- x with the first y by z -/
def rep1 (x y z : Str) : Str :=
  if ((occurrences x y 0 x.length 1).isEmpty || (y.length == 0 && z.length == 0)) = true then x
  else glued z (partsBetween x (occurrences x y 0 x.length 1) y.length)
theorem gives_rep1 (x y z : Str) (t u v k : Tok)
    (hf : ((occurrences x y 0 x.length 1).isEmpty || (y.length == 0 && z.length == 0)) = false →
      (u == 0 || v == 0) = false ∧ (u == v) = false ∧ (y == z) = false ∧ tooLong (x.length + (occurrences x y 0 x.length 1).length * z.length) = false) :
    Gives («str.replace» ⟨[.str x t, .str y u, .str z v, .int 1 k], []⟩) (if ((occurrences x y 0 x.length 1).isEmpty || (y.length == 0 && z.length == 0)) = true then .val (.str x t) else .str (glued z (partsBetween x (occurrences x y 0 x.length 1) y.length))) := by
  show Gives (if ((occurrences x y 0 x.length 1).isEmpty || (y.length == 0 && z.length == 0)) = true then (do rule "str.replace.nothing"; ret (.str x t)) else
          (do let same ← isSame (.str y u) (.str z v)
              if same = true then (do rule "str.replace.old-is-new"; ret (.str x t)) else
              if tooLong (x.length + (occurrences x y 0 x.length 1).length * z.length) = true then unsupported "str.replace:memory" else
              retStr (glued z (partsBetween x (occurrences x y 0 x.length 1) y.length)))) _
  cases hc : ((occurrences x y 0 x.length 1).isEmpty || (y.length == 0 && z.length == 0))
  · obtain ⟨h0, huv, hyz, hl⟩ := hf hc
    rw [isSame_str_other y z u v h0 huv hyz, hl]
    exact .of_eq rfl
  · exact .rule (.of_eq rfl)
section
variable {prog : Program} {w : World} {A : Around} {E : Value → Shared → Prop} {s : Shared} {x y z : Str} {t u v k : Tok} {Q : Value → Shared → Prop}
theorem call_rep1 (hu : u ≠ 0) (hv : v ≠ 0) (huv : u ≠ v) (hyz : (y == z) = false) (hb : x.length + z.length ≤ 16777216)
    (hq : ∀ t' k, Q (.str (rep1 x y z) t') { s with toks := k }) : wpAny (model prog w) A (call (.builtin "str.replace") [.str x t, .str y u, .str z v, .int 1 k]) Q E s := by
  have h1 := StrLaws.occ_length_le x y 0 x.length 1
  have h2 : (occurrences x y 0 x.length 1).length * z.length ≤ 1 * z.length := Nat.mul_le_mul_right _ h1
  have hl : tooLong (x.length + (occurrences x y 0 x.length 1).length * z.length) = false := by
    unfold tooLong sizeLine
    exact decide_eq_false (by omega)
  have hfit : (glued z (partsBetween x (occurrences x y 0 x.length 1) y.length)).length ≤ sizeLine := by
    have hy : (glued y (partsBetween x (occurrences x y 0 x.length 1) y.length)).length = x.length := by rw [StrLaws.glued_between_self]
    rw [size_glued, length_partsBetween, Nat.add_sub_cancel] at hy
    rw [size_glued, length_partsBetween, Nat.add_sub_cancel, sizeLine_eq]
    omega
  refine call_gives F.slot_str_replace (typeIs_str _ _ _) F.entry_str_replace (F.args_str_replace_4 _ _ _ _)
    (gives_rep1 x y z t u v k fun _ => ⟨by simp [hu, hv], by simp [huv], hyz, hl⟩) ?_
  have hq' := hq
  unfold rep1 at hq'
  cases hc : ((occurrences x y 0 x.length 1).isEmpty || (y.length == 0 && z.length == 0))
  · rw [hc] at hq'
    simp only [Bool.false_eq_true, if_false] at hq' ⊢
    exact ⟨hfit, hq' _ _⟩
  · rw [hc] at hq'
    simp only [if_true] at hq' ⊢
    exact hq' t s.toks
end
end PySem
namespace Cr
open PySem PySem.Spec PyProof.Rows L2
def opRep1 (y z : Str) : Op1 := fun _ d => match d with
  | .str x => if x.length + z.length ≤ 16777216 then some (.str (rep1 x y z)) else none
  | _ => none
abbrev SET (X : Cx) (B : By) (W : WX) (e : Expr) (m : En → M D) : Prop := PET X e (rdE B W m)
section
variable {X : Cx} {B : By} {W : WX} {a b c e o : Expr} {ma mb mc mo : En → M D} {pos apos : Pos} {st : Stmt} {sts : List Stmt} {t : TS}
theorem set_rep1 {y z : Str} {j1 j2 j3 : Nat} {c1 c2 c3 : Pos} (hyz : (y == z) = false) (ho : SE X B W o mo)
    (hbase : attributeBase o "replace" X.env (eval o X.env) = eval o X.env) (hline : (apos.endLine == pos.line) = true)
    (hst : starEach [.Constant (.str y) j1 c1, .Constant (.str z) j2 c2, .Constant (.int 1) j3 c3] X.env = [(false, eval (.Constant (.str y) j1 c1) X.env), (false, eval (.Constant (.str z) j2 c2) X.env), (false, eval (.Constant (.int 1) j3 c3) X.env)])
    (hfew : ((backTo pos (starEach [.Constant (.str y) j1 c1, .Constant (.str z) j2 c2, .Constant (.int 1) j3 c3] X.env)).all (fun x => !x.1) && (backToKw pos (keywordEach [] X.env)).all (fun x => x.1.isSome) && decide ([Expr.Constant (.str y) j1 c1, .Constant (.str z) j2 c2, .Constant (.int 1) j3 c3].length + ([] : List Keyword).length + (if ([] : List Keyword).isEmpty then 0 else 1) < 30)) = true) :
    SET X B W (.Call (.Attribute o "replace" apos) [.Constant (.str y) j1 c1, .Constant (.str z) j2 c2, .Constant (.int 1) j3 c3] [] pos) (fun η => do let x ← mo η; do1 (opRep1 y z) x) := by
  intro pins s σ H Q h0 I ⟨S, η, eH, r, en, p⟩
  subst eH
  refine wpAny_Call_method_lateS hbase hfew hline ?_
  refine wpAny_mono (PySem.wpAny_toks_of h0 (ho.run pins s σ S.H (fun v H1 => ∃ S1 d, S1.H = H1 ∧ Rel B.toBx S1 ∧ Rep B.toBx S1 d v ∧ Post B (fun c d H' => W c d σ H') S1 (Wv B.toBx Q) (do1 (opRep1 y z) d S1.A)) I ⟨S, η, rfl, r, en, Post.imp (Post.bind p) fun d S1 n1 p1 v r1 => ⟨S1, d, rfl, n1.rel, r1, p1⟩⟩)) (fun ov s1 q => ?_) fun _ _ x => x.2
  obtain ⟨hk, v, H1, I1, r1, S1, d, e1, rel1, rd, p1⟩ := q
  subst e1
  obtain ⟨d', hd, p2⟩ := p1.opt rel1
  unfold opRep1 at hd
  split at hd
  · rename_i x
    split at hd
    · rename_i hz
      cases hd
      cases rd
      obtain ⟨tx, rfl⟩ := r1
      refine ⟨"str", _, F.plainAttrs_str, F.slot_str_replace, F.type_str_replace, typeIs_str _ _ _, (fun _ e => nomatch e), ?_⟩
      rw [hst]
      refine Calls.callWith_builtin rfl (Calls.evalArgs_plain (Calls.spliced_cons (Calls.Constant_str (k := j1) (pos := c1) ?_)))
      refine Calls.spliced_cons (Calls.Constant_str (k := j2) (pos := c2) ?_)
      refine Calls.spliced_cons (wpAny_Constant_int (k := j3) (pos := c3) ?_)
      refine Calls.spliced_nil ?_
      have h1 : s1.toks ≠ 0 := by have : 1 ≤ s1.toks := hk; omega
      exact call_rep1 (u := s1.toks) (v := s1.toks + 1) h1 (Nat.succ_ne_zero s1.toks) (Nat.ne_of_lt (Nat.lt_succ_self s1.toks)) hyz hz fun t' k => ⟨.str (rep1 x y z), S1.H, I1.tok k, ⟨t', rfl⟩, p2 S1 rfl (.refl rel1) _ (.str _)⟩
    · cases hd
  · cases hd
theorem pst_asg {tg : Expr} {te : TE} {g : TG} (he : PET X e te) (hg : PG X tg g) (hs : swapsWithSole [tg] e pos.line X.env = pure false) (hw : swappedStores [tg] e X.env = pure none)
    (h1 : (assignEach [tg] X.env).map (·.2) = [assign tg X.env]) : PST X (.Assign [tg] e pos) (tAsg te g) := by
  intro pins s σ H D h0 I h
  refine wpAny_Assign_stores (thn (he pins s σ H _ h0 I h) fun v s1 ⟨x, H1, I1, r1, q1⟩ => ?_) hs hw
  rw [h1]
  exact thn (hg.run pins s1 σ H1 x v _ I1 r1 q1) fun _ s2 q => q
theorem psst_one (h : PST X st t) : PSsT X [st] t := by
  intro pins s σ H D h0 I q
  refine wpAny_execs_cons (wpAny_mono (h pins s σ H D h0 I q) (fun f s1 q => ?_) fun _ _ x => x)
  cases f with
  | next => exact wpAny_execs_nil q
  | ret v => exact q
  | brk => exact q
  | cont => exact q
/-- a[b] = c, a token being out -/
theorem sst_store {pos' : Pos} (hr : PSet X (rdSet B.toBx opSet)) (hc : SET X B W c mc) (ha : SE X B W a ma) (hb : SE X B W b mb)
    (hq : ∀ v, assign (.Subscript a b pos') X.env v = (do
      let ov ← holding [v] (eval a X.env)
      let iv ← holding [v, ov] (eval b X.env)
      standAt pos'
      holding [v, ov, iv] (setItem ov iv v)
      release [v, ov, iv] []))
    (hs : swapsWithSole [.Subscript a b pos'] c pos.line X.env = pure false) (hw : swappedStores [.Subscript a b pos'] c X.env = pure none) (h1 : (assignEach [.Subscript a b pos'] X.env).map (·.2) = [assign (.Subscript a b pos') X.env]) :
    PSsT X [.Assign [.Subscript a b pos'] c pos] (rdS B X.N.length W (fun η => do let z ← mc η; let x ← ma η; let y ← mb η; doSet opSet x y z; pure (η, .nx))) := psst_one <| by
  intro pins s σ H Dn h0 I ⟨S, η, eH, r, en, p⟩
  have hl := I.len
  refine pst_asg hc (pg_sub ha hb hr hq) hs hw h1 pins s σ H Dn h0 I ?_
  subst eH
  refine ⟨S, η, rfl, r, en, Post.wany (Post.imp (Post.bind p) fun z S1 n1 p1 v1 r1 => ?_) hl⟩
  refine ⟨S1, η, rfl, n1.rel, en.ext n1.ext, Post.wany (Post.imp (Post.bind p1) fun x S2 n2 p2 v2 r2 => ?_) hl⟩
  refine ⟨S2, η, rfl, n2.rel, en.ext (n1.ext.trans n2.ext), Post.wany (Post.imp (Post.bind p2) fun y S3 n3 p3 v3 r3 => ?_) hl⟩
  obtain ⟨_, A', e, p4⟩ := (Post.bind p3).optS
  obtain ⟨A2, e2, e3⟩ := Option.map_eq_some_iff.mp e
  cases e3
  refine ⟨S3, x, y, z, A', rfl, n3.rel, r2.ext n3.ext, r3, r1.ext (n2.ext.trans n3.ext), e2, fun S4 eA n4 => ?_⟩
  subst eA
  exact p4 S4 rfl n4 S4 rfl (.refl n4.rel) σ (en.ext (n1.ext.trans (n2.ext.trans (n3.ext.trans n4.ext))))
/-- if a == k: .., behind which a token is out -/
theorem ss_ifT {k : Int} {j : Nat} {cp cpos : Pos} {m1 : En → M (En × Ctl)} (ho : OpD X B.toBx (compareOp .Eq) opEq) (ha : SE X B W a ma) (hm : behindInMarks .Eq (.Constant (.int k) j cp) = false) (hst : PSsT X sts (rdS B X.N.length W m1)) :
    SS X B W (.If (.Compare a [.Eq] [.Constant (.int k) j cp] cpos) sts [] pos) (fun η => do let x ← (do let x ← ma η; let y ← (pure (.int k) : M D); let z ← do2 opEq x y; blOf z); if x = true then m1 η else mNext η) := by
  refine ⟨fun pins s σ H Dn I ⟨S, η, eH, r, en, p⟩ => ?_⟩
  subst eH
  have hl := I.len
  have h2 : rdT B W (fun η => do let x ← ma η; let y ← (pure (.int k) : M D); let z ← do2 opEq x y; blOf z) σ S.H (fun b H1 => ∃ S1, S1.H = H1 ∧ Rel B.toBx S1 ∧ EnR B.toBx S1 η σ ∧ Post B (wAny X.N.length W) S1 (Endz B.toBx Dn) ((if b = true then m1 η else mNext η) S1.A)) :=
    ⟨S, η, rfl, r, en, Post.wany (Post.imp (Post.bind p) fun b S1 n1 p1 => ⟨S1, rfl, n1.rel, en.ext n1.ext, p1⟩) hl⟩
  have h3 := two_val (mb := fun _ => pure (.int k)) (two_test (mb := fun _ => pure (.int k)) h2)
  refine wpAny_If (wpAny_isTrue_Compare1 (thn (ha.run pins s σ S.H _ I h3) fun v s1 ⟨x, H1, I1, r1, q1⟩ => ?_) hm)
  obtain ⟨S2, η2, e2, rel2, en2, p2⟩ := q1
  subst e2
  have q2 := p2 S2 rfl (.refl rel2) (.int k) (.int k)
  refine wpAny_Constant_int ?_
  refine wpAny_mono (PySem.wpAny_toks_of (n := 1) (Nat.le_add_left 1 s1.toks) (ho pins { s1 with toks := s1.toks + 1 } σ S2.H x (.int k) v (.int k s1.toks) _ (I1.tok _) r1 ⟨_, rfl⟩ q2)) (fun u s3 q3 => ?_) fun _ _ x => x.2
  obtain ⟨hk, y, H3, I3, r3, d, rfl, S4, e4, rel4, en4, p4⟩ := q3
  subst e4
  cases r3
  refine wpAny_truthy_bool ?_
  cases d with
  | true => exact hst pins s3 σ S4.H Dn hk I3 ⟨S4, η, rfl, rel4, en4, p4⟩
  | false => exact wpAny_execs_nil ⟨σ, S4.H, I3, p4 S4 rfl (.refl rel4) σ en4⟩
end
end Cr
end

section
set_option Elab.async false
set_option linter.all false
set_option maxRecDepth 100000
set_option maxHeartbeats 400000
set_option pp.maxSteps 300
/-! Core, part X: the rules once more, with names for what they compute, their side conditions found by themselves. -/
namespace Cr
open PySem PySem.Spec PyProof.Rows L2

/-- what is known of a context -/
structure Oc (X : Cx) (B : By) (W : WX) (k : Nat) : Prop where
  prog : X.prog = B.prog
  w : X.w = B.w
  K : X.K = B.K
  calm : X.calm = true
  nd : X.N.Nodup
  tk : Takes X W
  room : Room k X.A
theorem Oc.u {X : Cx} {B : By} {W : WX} {k : Nat} (o : Oc X B W k) : X.A.units + 64 < cLine := o.room.units
theorem takes_no {X : Cx} : Takes X wNo := fun _ _ x => by
  obtain ⟨_, _, _, _, _, _, _, _, _, _, _, _, _, _, _, _, z⟩ := x
  exact z.elim
theorem Oc.blk {X : Cx} {B : By} {W : WX} {k : Nat} (o : Oc X B W k) (s : Shared) (H : Hp) (scope : Scope) (cenv : Env) (fp : List Addr) : Oc (X.blk s H scope cenv fp) B wNo k :=
  ⟨o.prog, o.w, o.K, o.calm, o.nd, takes_no, o.room⟩
/-- the built-in names -/
structure Mg (mg : Str → Option Value) : Prop where
  isinstance : mg "isinstance" = none
  tuple : mg "tuple" = none
  list : mg "list" = none
  str : mg "str" = none
  int : mg "int" = none
  bool : mg "bool" = none
  len : mg "len" = none
  all : mg "all" = none
  any : mg "any" = none
  sorted : mg "sorted" = none
  range : mg "range" = none
  zip : mg "zip" = none
  super : mg "super" = none

def blkB (N : List Str) (sc scope : Scope) (own : List (Str × Nat)) : Bool :=
  decide (scope.kind = .function) && scope.names.all (fun y => decide (scope.names.lookup y.1 = some y.2)) && own.all (fun p => decide (N[p.2]? = some p.1)) && scope.names.all (fun y => !decide (y.2 = .free) || decide (sc.names.lookup y.1 = some .cell) || decide (sc.names.lookup y.1 = some .free)) &&
    scope.names.all (fun y => !(decide (y.2 = .local) || decide (y.2 = .cell)) || (own.map (·.1)).contains y.1 || !N.contains y.1)
theorem blk_by {N : List Str} {sc scope : Scope} {own : List (Str × Nat)} (h : blkB N sc scope own = true) : BlkOk N sc scope own := by
  unfold blkB at h
  simp only [Bool.and_eq_true, Bool.or_eq_true, Bool.not_eq_true', decide_eq_true_eq, decide_eq_false_iff_not, List.all_eq_true, List.contains_iff_mem, Bool.or_eq_false_iff] at h
  obtain ⟨⟨⟨⟨h1, h2⟩, h3⟩, h4⟩, h5⟩ := h
  refine ⟨h1, h2, h3, fun y hy e => ?_, fun y hy e => ?_⟩
  · rcases h4 y hy with (z | z) | z
    · exact absurd e z
    · exact .inl z
    · exact .inr z
  · rcases h5 y hy with (z | z) | z
    · rcases e with e | e
      · exact absurd e z.1
      · exact absurd e z.2
    · exact .inl z
    · exact .inr fun q => by
        have := List.contains_iff_mem.mpr q
        rw [z] at this
        cases this

abbrev ExM := En → M D
abbrev TtM := En → M Bool
abbrev AgM := En → M (List D)
abbrev StM := En → M (En × Ctl)
def xVar (i : Nat) : ExM := fun η => getv η i
def xInt (i : Int) : ExM := fun _ => pure (.int i)
def xStr (x : Str) : ExM := fun _ => pure (.str x)
def xBl (b : Bool) : ExM := fun _ => pure (.bl b)
def xNon : ExM := fun _ => pure .non
def x2 (op : Op2) (ma mb : ExM) : ExM := fun η => do let x ← ma η; let y ← mb η; do2 op x y
def x1 (op : Op1) (ma : ExM) : ExM := fun η => do let x ← ma η; do1 op x
def t2 (op : Op2) (ma mb : ExM) : TtM := fun η => do let x ← ma η; let y ← mb η; let z ← do2 op x y; blOf z
def tVal (ma : ExM) : TtM := fun η => do let x ← ma η; blOf x
def tNot (ta : TtM) : TtM := fun η => do let x ← ta η; pure (!x)
def tAnd (ta tb : TtM) : TtM := fun η => do let x ← ta η; if x = true then tb η else pure false
def tOr (ta tb : TtM) : TtM := fun η => do let x ← ta η; if x = true then pure true else tb η
def aNil : AgM := fun _ => pure []
def aCons (ma : ExM) (ms : AgM) : AgM := fun η => do let x ← ma η; let l ← ms η; pure (x :: l)
def xTup (ms : AgM) : ExM := fun η => do let l ← ms η; M.opt fun _ => if l.length ≤ sizeLine then some (.tup l) else none
def xLst (ms : AgM) : ExM := fun η => do let l ← ms η; M.opt fun _ => if l.length ≤ sizeLine then some (.lst l) else none
def xLstR (ms : AgM) : ExM := fun η => do let l ← ms η; let l' ← M.opt fun _ => if l.length ≤ sizeLine then some l else none; newO (.lst l')
def xN (op : OpN) (ms : AgM) : ExM := fun η => do let l ← ms η; doN op l
def xM (T : String) (op : OpM) (mo : ExM) (ms : AgM) : ExM := fun η => do let x ← mo η; doM T op x (ms η)
def xCall (n : Nat) (m : List D → M D) (ms : AgM) : ExM := fun η => do let l ← ms η; doCall n m l
def xCallK (n : Nat) (m : List D → M D) (g : List D → List D) (ms : AgM) : ExM := fun η => do let l ← ms η; doCall n m (g l)
def sSet (i : Nat) (ma : ExM) : StM := fun η => do let d ← ma η; pure (η.set i (some d), .nx)
def sExp (ma : ExM) : StM := fun η => do let _ ← ma η; pure (η, .nx)
def sRet (ma : ExM) : StM := fun η => do let d ← ma η; pure (η, .rt d)
def sIf (ta : TtM) (m1 m2 : StM) : StM := fun η => do let x ← ta η; if x = true then m1 η else m2 η
def sPut (mc ma mb : ExM) : StM := fun η => do let z ← mc η; let x ← ma η; let y ← mb η; doSet opSet x y z; pure (η, .nx)
def sExc (c : Nat) (ma : ExM) : StM := fun η => do let d ← ma η; M.exc c d
def sFrz (i : Nat) (m : StM) : StM := fun η => do let η' ← frzV i η; m η'
abbrev ItM := En → M ItD
def iSeq (me : ExM) : ItM := fun η => do let d ← me η; doI seqIt d
def iKeys (me : ExM) : ItM := fun η => do let d ← me η; doI keyIt d
def iRange (ms : AgM) : ItM := fun η => do let l ← ms η; doIL (fun _ => rgIt) l
def iZip (ms : AgM) : ItM := fun η => do let l ← ms η; doIL zpIt l
def gName (i : Nat) : D → En → M En := fun d η => pure (η.set i (some d))
section
variable {X : Cx} {B : By} {W : WX} {k : Nat} {a b c e : Expr} {es : List Expr} {ma mb mc me : ExM} {ms : AgM} {ta tb : TtM} {pos : Pos} {st : Stmt} {sts sts' : List Stmt} {m1 m2 : StM}
theorem r_var {i : Nat} {x : Str} (hN : X.N[i]? = some x := by rfl) (hv : Vis X.env.scope x := by first | exact .inl rfl | exact .inr (.inl rfl) | exact .inr (.inr rfl)) (hd : (x == ("__debug__" : Str)) = false := by decide +kernel) (hcd : (x == ("__classdict__" : Str)) = false := by decide +kernel) : SE X B W (.Name x pos) (xVar i) := se_var hN hv hd hcd
theorem r_int {i : Int} {j : Nat} : SE X B W (.Constant (.int i) j pos) (xInt i) := se_int
theorem r_str {x : Str} {j : Nat} : SE X B W (.Constant (.str x) j pos) (xStr x) := se_str
theorem r_bl {b : Bool} {j : Nat} : SE X B W (.Constant (.bool b) j pos) (xBl b) := se_bl
theorem r_non {j : Nat} : SE X B W (.Constant .none j pos) xNon := se_non
theorem r_bin {o : Operator} {op : Op2} (ho : OpD X B.toBx (binaryOp o) op) (ha : SE X B W a ma) (hb : SE X B W b mb) : SE X B W (.BinOp a o b pos) (x2 op ma mb) := se_bin ho ha hb
theorem r_un {o : UnaryOp} {op : Op1} (ho : UnR X (unaryOp o) (rdU B.toBx op)) (ha : SE X B W a ma) : SE X B W (.UnaryOp o a pos) (x1 op ma) := se_un ho ha
theorem r_cmp {o : CmpOp} {op : Op2} (ho : OpD X B.toBx (compareOp o) op) (ha : SE X B W a ma) (hb : SE X B W b mb) (hm : behindInMarks o b = false := by rfl) : SE X B W (.Compare a [o] [b] pos) (x2 op ma mb) := se_cmp ho ha hb hm
theorem r_tcmp {o : CmpOp} {op : Op2} (ho : OpD X B.toBx (compareOp o) op) (ha : SE X B W a ma) (hb : SE X B W b mb) (hm : behindInMarks o b = false := by rfl) : ST X B W (.Compare a [o] [b] pos) (t2 op ma mb) := st_cmp ho ha hb hm
theorem r_tval (h : SE X B W a ma) (he : ∀ whole, isTrue a X.env whole = (do let v ← whole; standAt a.pos; holding [v] (truthy v)) := by intro _; rfl) : ST X B W a (tVal ma) := st_val h he
theorem r_tnot (h : ST X B W a ta) : ST X B W (.UnaryOp .Not a pos) (tNot ta) := st_not h
theorem r_and1 (h : ST X B W a ta) : SW X B W (.BoolOp .And [a] pos) ta := sw_and1 h
theorem r_or1 (h : ST X B W a ta) : SW X B W (.BoolOp .Or [a] pos) ta := sw_or1 h
theorem r_and {rest : List Expr} (ha : ST X B W a ta) (hb : SW X B W (.BoolOp .And (b :: rest) pos) tb) : SW X B W (.BoolOp .And (a :: b :: rest) pos) (tAnd ta tb) := sw_and ha hb
theorem r_or {rest : List Expr} (ha : ST X B W a ta) (hb : SW X B W (.BoolOp .Or (b :: rest) pos) tb) : SW X B W (.BoolOp .Or (a :: b :: rest) pos) (tOr ta tb) := sw_or ha hb
theorem r_st (h : SW X B W a ta) : ST X B W a ta := h.st
theorem r_nil : SA X B W [] aNil := sa_nil
theorem r_cons (ha : SE X B W e ma) (hr : SA X B W es ms) (hs : starEach (e :: es) X.env = (false, eval e X.env) :: starEach es X.env := by rfl) : SA X B W (e :: es) (aCons ma ms) := sa_cons ha hr hs
theorem r_tup {j : Nat} (h : SA X B W es ms) : SE X B W (.Tuple es j pos) (xTup ms) := se_tup h
theorem r_lst (h : SA X B W es ms) : SE X B W (.List es pos) (xLst ms) := se_lst h
theorem r_lstR (h : SA X B W es ms) : SE X B W (.List es pos) (xLstR ms) := se_lstR h
theorem r_callB {x : Str} {p : Pos} {id : String} {op : OpN} (hc : CallR X (.builtin id) (rdN B.toBx op)) (hm : X.mg x = none) (ha : SA X B W (e :: es) ms) (hg : Gl X x := by rfl) (hv : bootBuiltins x = some (.builtin id) := by rfl)
    (hn : x ≠ "__name__" := by decide +kernel) (hdb : (x == ("__debug__" : Str)) = false := by decide +kernel) (he : starEach (e :: es) X.env = (false, eval e X.env) :: starEach es X.env := by rfl) (hpl : (backTo pos (starEach es X.env)).any (·.1) = false := by rfl) :
    SE X B W (.Call (.Name x p) (e :: es) [] pos) (xN op ms) := se_callB hc hg hm hv ha hn hdb he hpl
theorem r_callT {x : Str} {p : Pos} {T : String} {op : OpN} (hc : CallR X (.type T) (rdN B.toBx op)) (hm : X.mg x = none) (ha : SA X B W (e :: es) ms) (hg : Gl X x := by rfl) (hv : bootBuiltins x = some (.type T) := by rfl)
    (hn : x ≠ "__name__" := by decide +kernel) (hdb : (x == ("__debug__" : Str)) = false := by decide +kernel) (he : starEach (e :: es) X.env = (false, eval e X.env) :: starEach es X.env := by rfl) (hpl : (backTo pos (starEach es X.env)).any (·.1) = false := by rfl) :
    SE X B W (.Call (.Name x p) (e :: es) [] pos) (xN op ms) := se_callTy hc hg hm hv ha hn hdb he hpl
theorem r_ix (o : Oc X B W k) (ha : SE X B W a ma) (hb : SE X B W b mb) (hs : PlainIx b := by intro _ _; rfl) : SE X B W (.Subscript a b pos) (x2 opIx ma mb) := se_ix (ix_ok o.prog o.w o.K o.u) ha hb hs
theorem r_sl {lo hi sp : Option Expr} {l u t : Option Int} {p2 : Pos} (o : Oc X B W k) (ha : SE X B W a ma) (hl : PCo X lo l) (hu : PCo X hi u) (ht : PCo X sp t) (hsub : ∀ o i, ∃ ops, subscripted (.Slice lo hi sp p2) false o i = operate ops (getItem o i) := by intro _ _; exact ⟨_, rfl⟩) :
    SE X B W (.Subscript a (.Slice lo hi sp p2) pos) (x1 (opSl l u t) ma) := se_sl o.K ha hl hu ht hsub
theorem r_bm {T : String} {name : Str} {id : String} {op : OpM} {oe : Expr} {mo : ExM} {apos : Pos} (o : Oc X B W k) (pa : PlainAttrs T) (slot : Slot T name id) (hty : typeOf (.builtin id) = pure (.type "method_descriptor")) (hm : MtR X id (rdM B.toBx op)) (ho : SE X B W oe mo) (ha : SA X B W (e :: es) ms)
    (hbase : attributeBase oe name X.env (eval oe X.env) = eval oe X.env := by rfl)
    (hfew : ((backTo pos (starEach (e :: es) X.env)).all (fun x => !x.1) && (backToKw pos (keywordEach [] X.env)).all (fun x => x.1.isSome)
      && decide ((e :: es).length + ([] : List Keyword).length + (if ([] : List Keyword).isEmpty then 0 else 1) < 30)) = true := by rfl)
    (hline : (apos.endLine == pos.line) = true := by rfl) (hs : starEach (e :: es) X.env = (false, eval e X.env) :: starEach es X.env := by rfl) (hplain : (backTo pos (starEach es X.env)).any (·.1) = false := by rfl) :
    SE X B W (.Call (.Attribute oe name apos) (e :: es) [] pos) (xM T op mo ms) := se_bm o.K pa slot hty hm ho ha hbase hfew hline hs hplain
/-- a def that can be called: its parameters' names, what it computes -/
structure Cal (B : By) (mg : Str → Option Value) (base : Heap) (k : Nat) (x : Str) (ps : List Str) (m : List D → M D) : Prop where
  ex : ∃ f fd, FnOk B.prog B.w B.K mg base (L2.CX B.prog B.w) k f fd ps (spOf B ps.length m) ∧ mg x = some (.ref f) ∧ PySem.W.keepIn B.K (.ref f) = true ∧ Binds B.K fd ps []
theorem r_call {x : Str} {p : Pos} {ps : List Str} {m : List D → M D} (o : Oc X B W k) (cl : Cal B X.mg X.base k x ps m) (ha : SA X B W (e :: es) ms) (hg : Gl X x := by rfl)
    (hdb : (x == ("__debug__" : Str)) = false := by decide +kernel) (he : starEach (e :: es) X.env = (false, eval e X.env) :: starEach es X.env := by rfl) (hpl : (backTo pos (starEach es X.env)).any (·.1) = false := by rfl) :
    SE X B W (.Call (.Name x p) (e :: es) [] pos) (xCall ps.length m ms) := by
  obtain ⟨f, fd, F, h1, h2, h3⟩ := cl.ex
  rw [← o.prog, ← o.w, ← o.K] at F
  rw [← o.K] at h2 h3
  exact se_call F o.tk o.room hg h1 h2 h3 ha hdb he hpl
/-- .. by keywords alone -/
structure CalK (B : By) (mg : Str → Option Value) (base : Heap) (k : Nat) (x : Str) (ps ks : List Str) (g : List D → List D) (m : List D → M D) : Prop where
  ex : ∃ (f : Addr) (fd : FuncData) (gu : List Value → List Value → List Value) (gV : List V → List V → List V), FnOk B.prog B.w B.K mg base (L2.CX B.prog B.w) k f fd ps (spOf B ps.length m) ∧ mg x = some (.ref f) ∧ PySem.W.keepIn B.K (.ref f) = true ∧ KBinds B.K fd ps ks gu gV ∧
    ∀ (S : Sx) l vs, RepL B.toBx S l vs → RepL B.toBx S (g l) (gV [] vs)
theorem r_callK {x : Str} {p : Pos} {ps ks : List Str} {kws : List Keyword} {g : List D → List D} {m : List D → M D} (o : Oc X B W k) (cl : CalK B X.mg X.base k x ps ks g m) (hkw : SK X B W kws ms) (hg : Gl X x := by rfl)
    (hall : (backToKw pos (keywordEach kws X.env)).all (·.1.isSome) = true := by rfl) (hks : (backToKw pos (keywordEach kws X.env)).filterMap (·.1) = ks := by rfl)
    (hdb : (x == ("__debug__" : Str)) = false := by decide +kernel) (hpl : ((backTo pos (starEach [] X.env)).any (·.1) || (backToKw pos (keywordEach kws X.env)).any (·.1.isNone)) = false := by rfl) :
    SE X B W (.Call (.Name x p) [] kws pos) (xCallK ps.length m g ms) := by
  obtain ⟨f, fd, gu, gV, F, h1, h2, h3, h4⟩ := cl.ex
  rw [← o.prog, ← o.w, ← o.K] at F
  rw [← o.K] at h2 h3
  exact se_callK0 F o.tk o.room hg h1 h2 h3 h4 hkw hall hks hdb hpl
theorem r_knil : SK X B W [] aNil := sk_nil
theorem r_kcons {nm : Option Str} {kpos : Pos} {kws : List Keyword} (ha : SE X B W e ma) (hr : SK X B W kws ms) : SK X B W (⟨nm, e, kpos⟩ :: kws) (aCons ma ms) := sk_cons ha hr
/-! statements -/
theorem r_snil : SSs X B W [] mNext := ss_nil
theorem r_scons (h1 : SS X B W st m1) (h2 : SSs X B W sts m2) : SSs X B W (st :: sts) (mSeq m1 m2) := ss_cons h1 h2
theorem r_one (h1 : SS X B W st m1) : SSs X B W [st] m1 := ss_one h1
theorem r_exp (h : SE X B W a ma) (hs : swapsWith a none pos.line X.env = pure false := by rfl) : SS X B W (.Expr a pos) (sExp ma) := ss_expr h hs
theorem r_ret (h : SE X B W a ma) : SS X B W (.Return (some a) pos) (sRet ma) := ss_ret h
theorem r_if (hc : ST X B W c ta) (ha : SSs X B W sts m1) (hb : SSs X B W sts' m2) : SS X B W (.If c sts sts' pos) (sIf ta m1 m2) := ss_if hc ha hb
theorem r_set {i : Nat} {x : Str} {pos' : Pos} (o : Oc X B W k) (h : SE X B W a ma) (hi : X.N[i]? = some x := by rfl) (hx : Loc X.env.scope x := by first | exact .inl rfl | exact .inr rfl) (hs : swapsWith a (some (.Name x pos')) pos.line X.env = pure false := by rfl)
    (hf : X.fn x = true ∨ X.env.scope.names.lookup x = some .local := by first | exact .inl rfl | exact .inr rfl) : SS X B W (.Assign [.Name x pos'] a pos) (sSet i ma) := ss_set o.nd hi hx h hs hf
theorem r_put {pos' : Pos} (o : Oc X B W k) (hc : SE X B W c mc) (ha : SE X B W a ma) (hb : SE X B W b mb)
    (hq : ∀ v, assign (.Subscript a b pos') X.env v = (do
      let ov ← holding [v] (eval a X.env)
      let iv ← holding [v, ov] (eval b X.env)
      standAt pos'
      holding [v, ov, iv] (setItem ov iv v)
      release [v, ov, iv] []) := by intro _; rfl)
    (hs : swapsWithSole [.Subscript a b pos'] c pos.line X.env = pure false := by rfl) (hw : swappedStores [.Subscript a b pos'] c X.env = pure none := by rfl) (h1 : (assignEach [.Subscript a b pos'] X.env).map (·.2) = [assign (.Subscript a b pos') X.env] := by rfl) :
    SS X B W (.Assign [.Subscript a b pos'] c pos) (sPut mc ma mb) := ss_store (set_ok o.prog o.w o.K o.u) hc ha hb hq hs hw h1
theorem r_frz (i : Nat) (h : SSs X B W sts m1) : SSs X B W sts (sFrz i m1) := ss_frz i h
/-! walks -/
variable {tg : Expr} {vs : List Nat} {mi : ItM} {g : D → En → M En}
theorem r_iseq (o : Oc X B W k) (he : SE X B W e me) : SI X B W tg e (iSeq me) := si_seq he o.K
theorem r_ikeys (he : SE X B W e me) : SI X B W tg e (iKeys me) := si_keys he
theorem r_irange {p : Pos} (hm : X.mg "range" = none) (ha : SA X B W [a] ms) (hg : Gl X "range" := by rfl) (hs : starEach [a] X.env = (false, eval a X.env) :: starEach [] X.env := by rfl) : SI X B W tg (.Call (.Name "range" p) [a] [] pos) (iRange ms) := si_range1 hg hm ha hs
theorem r_izip {elts : List Expr} {kk : Nat} {tpos p : Pos} (o : Oc X B W k) (hm : X.mg "zip" = none) (ha : SA X B W [a, b] ms) (hg : Gl X "zip" := by rfl) (hs : starEach [a, b] X.env = (false, eval a X.env) :: starEach [b] X.env := by rfl) (hpl : (backTo pos (starEach [b] X.env)).any (·.1) = false := by rfl) :
    SI X B W (.Tuple elts kk tpos) (.Call (.Name "zip" p) [a, b] [] pos) (iZip ms) := si_zip o.K hg hm ha hs hpl
theorem r_gname {i : Nat} {x : Str} (o : Oc X B W k) (hi : X.N[i]? = some x := by rfl) (hx : Loc X.env.scope x := by first | exact .inl rfl | exact .inr rfl) (hf : X.fn x = true ∨ X.env.scope.names.lookup x = some .local := by first | exact .inl rfl | exact .inr rfl) : SG X B [i] (.Name x pos) (gName i) := sg_name o.nd hi hx hf
theorem r_gpair {i j : Nat} {x y : Str} {px py : Pos} {kk : Nat} (o : Oc X B W k) (hi : X.N[i]? = some x := by rfl) (hj : X.N[j]? = some y := by rfl) (hx : Loc X.env.scope x := by first | exact .inl rfl | exact .inr rfl) (hy : Loc X.env.scope y := by first | exact .inl rfl | exact .inr rfl)
    (hfx : X.fn x = true ∨ X.env.scope.names.lookup x = some .local := by first | exact .inl rfl | exact .inr rfl) (hfy : X.fn y = true ∨ X.env.scope.names.lookup y = some .local := by first | exact .inl rfl | exact .inr rfl) : SG X B [i, j] (.Tuple [.Name x px, .Name y py] kk pos) (gPair i j) := sg_pair o.calm o.K o.nd hi hj hx hy hfx hfy
theorem q_name {i : Nat} : Quiet (gName i) := quiet_name
theorem r_for (o : Oc X B W k) (hp : PassesOwn (model X.prog X.w) X.A X.env X.xe) (hi : SI X B W tg e mi) (hg : SG X B vs tg g) (hq : Quiet g) (hb : SSs X B W sts m1) (hs : ∀ x, foldedSetIterable e X.env x = pure x := by intro _; rfl) :
    SS X B W (.For tg e sts [] pos) (mFor mi g m1) := ss_for hp o.calm hi hg hq hb hs
variable {scope : Scope} {own : List (Str × Nat)} {ifs : List Expr} {t : TtM}
def tNone : TtM := fun _ => pure true
theorem r_ts0 : STs X B W [] tNone := sts_nil
theorem r_ts1 (h : ST X B W a ta) : STs X B W [a] ta := sts_one h
theorem r_lc (o : Oc X B W k) (own : List (Str × Nat)) (hi : SI X B W tg e mi)
    (hg : ∀ (s : Shared) (H : Hp) (C : Addr) (cl : List (Str × Addr)) (fp : List Addr), SG (X.blk s H scope (compEnvC scope cl C X.env) fp) B vs tg g)
    (ht : ∀ (s : Shared) (H : Hp) (C : Addr) (cl : List (Str × Addr)) (fp : List Addr), STs (X.blk s H scope (compEnvC scope cl C X.env) fp) B wNo ifs t)
    (he : ∀ (s : Shared) (H : Hp) (C : Addr) (cl : List (Str × Addr)) (fp : List Addr), SE (X.blk s H scope (compEnvC scope cl C X.env) fp) B wNo a me)
    (ok : blkB X.N X.env.scope scope own = true := by kernel_rfl) (hv : ∀ i ∈ vs, i ∈ own.map (·.2) := by decide) (hs : ∀ x, foldedSetIterable e X.env x = pure x := by intro _; rfl) : SE X B W (.ListComp a [⟨tg, e, ifs, 0⟩] scope pos) (mLc (own.map (·.2)) mi g t me) :=
  se_lc o.calm o.nd hi (blk_by ok) hv hg ht he hs
/-- y = [a for tg in e if ..] on one line -/
theorem r_setLc {i : Nat} {y : Str} {py spos : Pos} (o : Oc X B W k) (own : List (Str × Nat)) (hi : SI X B W tg e mi)
    (hg : ∀ (s : Shared) (H : Hp) (C : Addr) (cl : List (Str × Addr)) (fp : List Addr), SG (X.blk s H scope (compEnvC scope cl C X.env) fp) B vs tg g)
    (ht : ∀ (s : Shared) (H : Hp) (C : Addr) (cl : List (Str × Addr)) (fp : List Addr), STs (X.blk s H scope (compEnvC scope cl C X.env) fp) B wNo ifs t)
    (he : ∀ (s : Shared) (H : Hp) (C : Addr) (cl : List (Str × Addr)) (fp : List Addr), SE (X.blk s H scope (compEnvC scope cl C X.env) fp) B wNo a me)
    (hy : X.N[i]? = some y := by rfl) (hyl : X.env.scope.names.lookup y = some .local := by rfl) (hsw : swapsWith (.ListComp a [⟨tg, e, ifs, 0⟩] scope pos) (some (.Name y py)) spos.line X.env = pure true := by rfl)
    (ok : blkB X.N X.env.scope scope own = true := by kernel_rfl) (hv : ∀ i ∈ vs, i ∈ own.map (·.2) := by decide) (hs : ∀ x, foldedSetIterable e X.env x = pure x := by intro _; rfl) :
    SS X B W (.Assign [.Name y py] (.ListComp a [⟨tg, e, ifs, 0⟩] scope pos) spos) (sSet i (mLc (own.map (·.2)) mi g t me)) := ss_setLc o.calm o.nd hy hyl hsw hi (blk_by ok) hv hg ht he hs
theorem r_dn (o : Oc X B W k) (own : List (Str × Nat)) {kx vx : Expr} {mk mv : ExM} (hi : SI X B W tg e mi)
    (hg : ∀ (s : Shared) (H : Hp) (C : Addr) (cl : List (Str × Addr)) (fp : List Addr), SG (X.blk s H scope (compEnvC scope cl C X.env) fp) B vs tg g)
    (ht : ∀ (s : Shared) (H : Hp) (C : Addr) (cl : List (Str × Addr)) (fp : List Addr), STs (X.blk s H scope (compEnvC scope cl C X.env) fp) B wNo ifs t)
    (hk : ∀ (s : Shared) (H : Hp) (C : Addr) (cl : List (Str × Addr)) (fp : List Addr), SE (X.blk s H scope (compEnvC scope cl C X.env) fp) B wNo kx mk)
    (he : ∀ (s : Shared) (H : Hp) (C : Addr) (cl : List (Str × Addr)) (fp : List Addr), SE (X.blk s H scope (compEnvC scope cl C X.env) fp) B wNo vx mv)
    (ok : blkB X.N X.env.scope scope own = true := by kernel_rfl) (hv : ∀ i ∈ vs, i ∈ own.map (·.2) := by decide) (hs : ∀ x, foldedSetIterable e X.env x = pure x := by intro _; rfl) :
    SE X B W (.DictComp kx vx [⟨tg, e, ifs, 0⟩] scope pos) (mDn (own.map (·.2)) mi g t mk mv) := se_dn o.prog o.w o.K o.u o.calm o.nd hi (blk_by ok) hv hg ht hk he hs
def xDk0 : ExM := fun _ => newO (.dk [])
def xDn0 : ExM := fun _ => newO (.dn [])
theorem r_dk0 : SE X B W (.Dict [] [] pos) xDk0 := se_dk0
theorem r_dn0 (o : Oc X B W k) : SE X B W (.Dict [] [] pos) xDn0 := se_dn0 o.prog o.w
theorem r_isi {T : Str} {Tn : String} {p pT : Pos} (o : Oc X B W k) (hm : X.mg "isinstance" = none) (hmT : X.mg T = none) (ha : SE X B W a ma) (hg : Gl X "isinstance" := by rfl) (hgT : Gl X T := by rfl) (hvT : bootBuiltins T = some (.type Tn) := by rfl) (hnT : T ≠ "__name__" := by decide +kernel) (hdT : (T == ("__debug__" : Str)) = false := by decide +kernel)
    (hs : ∀ es, starEach (a :: es) X.env = (false, eval a X.env) :: starEach es X.env := by intro _; rfl) :
    SE X B W (.Call (.Name "isinstance" p) [a, .Name T pT] [] pos) (x1 (bIsi Tn) ma) := se_isi o.K hg hm hgT hmT hvT hnT hdT ha hs
theorem r_isi2 {T T2 : Str} {Tn T2n : String} {p pT pT2 pt : Pos} {j : Nat} (o : Oc X B W k) (hm : X.mg "isinstance" = none) (hmT : X.mg T = none) (hmT2 : X.mg T2 = none) (ha : SE X B W a ma) (hg : Gl X "isinstance" := by rfl) (hgT : Gl X T := by rfl) (hvT : bootBuiltins T = some (.type Tn) := by rfl) (hnT : T ≠ "__name__" := by decide +kernel) (hdT : (T == ("__debug__" : Str)) = false := by decide +kernel)
    (hgT2 : Gl X T2 := by rfl) (hvT2 : bootBuiltins T2 = some (.type T2n) := by rfl) (hnT2 : T2 ≠ "__name__" := by decide +kernel) (hdT2 : (T2 == ("__debug__" : Str)) = false := by decide +kernel) (hs : ∀ es, starEach (a :: es) X.env = (false, eval a X.env) :: starEach es X.env := by intro _; rfl) :
    SE X B W (.Call (.Name "isinstance" p) [a, .Tuple [.Name T pT, .Name T2 pT2] j pt] [] pos) (x1 (bIsi2 Tn T2n) ma) := se_isi2 o.K hg hm hgT hmT hvT hnT hdT hgT2 hmT2 hvT2 hnT2 hdT2 ha hs
/-! a[i] = o.replace(y, z, 1) behind a test with a number -/
def sIfT (k : Int) (ma : ExM) (m1 : StM) : StM := fun η => do let x ← (do let x ← ma η; let y ← (pure (.int k) : M D); let z ← do2 opEq x y; blOf z); if x = true then m1 η else mNext η
theorem r_ifT {i : Int} {j : Nat} {cp cpos : Pos} (o : Oc X B W k) (ha : SE X B W a ma) (hst : PSsT X sts (rdS B X.N.length W m1)) (hm : behindInMarks .Eq (.Constant (.int i) j cp) = false := by rfl) :
    SS X B W (.If (.Compare a [.Eq] [.Constant (.int i) j cp] cpos) sts [] pos) (sIfT i ma m1) := ss_ifT (or_eq o.K o.u) ha hm hst
theorem r_rep {y z : Str} {oe : Expr} {mo : ExM} {apos : Pos} {j1 j2 j3 : Nat} {c1 c2 c3 : Pos} (ho : SE X B W oe mo) (hyz : (y == z) = false := by decide +kernel)
    (hbase : attributeBase oe "replace" X.env (eval oe X.env) = eval oe X.env := by rfl) (hline : (apos.endLine == pos.line) = true := by rfl)
    (hst : starEach [.Constant (.str y) j1 c1, .Constant (.str z) j2 c2, .Constant (.int 1) j3 c3] X.env = [(false, eval (.Constant (.str y) j1 c1) X.env), (false, eval (.Constant (.str z) j2 c2) X.env), (false, eval (.Constant (.int 1) j3 c3) X.env)] := by rfl)
    (hfew : ((backTo pos (starEach [.Constant (.str y) j1 c1, .Constant (.str z) j2 c2, .Constant (.int 1) j3 c3] X.env)).all (fun x => !x.1) && (backToKw pos (keywordEach [] X.env)).all (fun x => x.1.isSome) && decide ([Expr.Constant (.str y) j1 c1, .Constant (.str z) j2 c2, .Constant (.int 1) j3 c3].length + ([] : List Keyword).length + (if ([] : List Keyword).isEmpty then 0 else 1) < 30)) = true := by rfl) :
    SET X B W (.Call (.Attribute oe "replace" apos) [.Constant (.str y) j1 c1, .Constant (.str z) j2 c2, .Constant (.int 1) j3 c3] [] pos) (x1 (opRep1 y z) mo) := set_rep1 hyz ho hbase hline hst hfew
theorem r_putT {pos' : Pos} (o : Oc X B W k) (hc : SET X B W c mc) (ha : SE X B W a ma) (hb : SE X B W b mb)
    (hq : ∀ v, assign (.Subscript a b pos') X.env v = (do
      let ov ← holding [v] (eval a X.env)
      let iv ← holding [v, ov] (eval b X.env)
      standAt pos'
      holding [v, ov, iv] (setItem ov iv v)
      release [v, ov, iv] []) := by intro _; rfl)
    (hs : swapsWithSole [.Subscript a b pos'] c pos.line X.env = pure false := by rfl) (hw : swappedStores [.Subscript a b pos'] c X.env = pure none := by rfl) (h1 : (assignEach [.Subscript a b pos'] X.env).map (·.2) = [assign (.Subscript a b pos') X.env] := by rfl) :
    PSsT X [.Assign [.Subscript a b pos'] c pos] (rdS B X.N.length W (sPut mc ma mb)) := sst_store (set_ok o.prog o.w o.K o.u) hc ha hb hq hs hw h1
end
end Cr
end

section
set_option Elab.async false
set_option linter.all false
set_option maxRecDepth 100000
set_option maxHeartbeats 400000
set_option pp.maxSteps 300
/-! Core, part Y: raise, try, sorted by a key: the rules by names. -/
namespace Cr
open PySem PySem.Spec PyProof.Rows L2
/-- BadPaper can be raised -/
structure RaiseT (B : By) (mg : Str → Option Value) : Prop where
  mgB : mg "BadPaper" = some (.ref (B.cls 0))
  init : ∃ (fI cc cda : Addr) (qual : Str) (params : Arguments) (scope : Scope) (txt : Str) (j : Nat) (p0 p1 p2 p3 p4 p5 p6 p7 p8 p9 : Pos), InitS B.prog mg B.K (B.cls 0) fI cc cda qual params scope (B.fld 0) txt j p0 p1 p2 p3 p4 p5 p6 p7 p8 p9
/-- .. and caught, asked whether it is a TraceError -/
structure TryT (B : By) (mg : Str → Option Value) : Prop where
  mgB : mg "BadPaper" = some (.ref (B.cls 0))
  fld : B.fld 0 = "at"
  exc : ExcC B.K (B.cls 0)
  xf : XfC B.K (B.cls 0)
  no : PySem.W.findIn B.K (.ref (B.cls 0)) "at" = some none
  ex : PySem.W.exmOne B.K (.ref (B.cls 0)) (.ref (B.cls 0)) = some true
  up : ∃ C1 : Addr, mg "TraceError" = some (.ref C1) ∧ PySem.W.kitOne B.K (.ref (B.cls 0)) (.ref C1) = some true
section
variable {X : Cx} {B : By} {W : WX} {k : Nat} {a : Expr} {ma : ExM} {pos : Pos}
theorem Oc.tr (o : Oc X B W k) (W' : WX) (pn : List (Addr × Obj)) (xe : Value → Shared → Prop) (tk : Takes (X.tr pn xe) W') : Oc (X.tr pn xe) B W' k := ⟨o.prog, o.w, o.K, o.calm, o.nd, tk, o.room⟩
theorem r_raise {p pos' : Pos} (o : Oc X B W k) (hk : 1 ≤ k) (R : RaiseT B X.mg) (ha : SE X B W a ma) (hg : Gl X "BadPaper" := by rfl) (he : starEach [a] X.env = (false, eval a X.env) :: starEach [] X.env := by rfl) (hpl : (backTo pos (starEach [] X.env)).any (·.1) = false := by rfl) :
    SS X B W (.Raise (some (.Call (.Name "BadPaper" p) [a] [] pos)) none pos') (sExc 0 ma) := by
  obtain ⟨fI, cc, cda, qual, params, scope, txt, j, p0, p1, p2, p3, p4, p5, p6, p7, p8, p9, T⟩ := R.init
  rw [← o.prog, ← o.K] at T
  exact ss_raise T o.calm o.tk (o.room.mono hk) hg R.mgB ha (by decide +kernel) he hpl
theorem r_try {t n : Str} {i j1 j2 : Nat} {st : Stmt} {body : List Stmt} {mb : StM} {np pos' q1 q2 q3 q4 q5 q6 q7 q8 q9 : Pos} (o : Oc X B W k) (T : TryT B X.mg)
    (hb : ∀ (W : WX) (pn : List (Addr × Obj)) (xe : Value → Shared → Prop), Takes (X.tr pn xe) W → PassesOwn (model X.prog X.w) X.A X.env xe → SSs (X.tr pn xe) B W body mb)
    (hst : st = .Return (some (.Tuple [.Constant (.str t) j1 q1, .Attribute (.Name n q2) "at" q3, .Call (.Name "isinstance" q4) [.Name n q5, .Name "TraceError" q6] [] q7] j2 q8)) q9 := by rfl)
    (hm : X.mg "isinstance" = none) (hs : X.stack = X.env :: X.outer := by rfl) (hf : X.env.frame = some X.env.locals := by rfl) (hi : X.N[i]? = some n := by rfl) (hln : X.env.kindOf n = some .local := by rfl)
    (hg : Gl X "BadPaper" := by rfl) (hgi : Gl X "isinstance" := by rfl) (hgt : Gl X "TraceError" := by rfl) (hdn : (n == ("__debug__" : Str)) = false := by decide +kernel) (hcn : (n == ("__classdict__" : Str)) = false := by decide +kernel)
    (hbase : attributeBase (.Name n q2) "at" X.env (eval (.Name n q2) X.env) = eval (.Name n q2) X.env := by rfl) :
    SS X B W (.Try body [.ExceptHandler (some (.Name "BadPaper" np)) (some n) [st] pos'] [] [] pos) (mTry 0 t true mb) := by
  obtain ⟨C1, hT, hk⟩ := T.up
  have e := o.K
  exact ss_try (i := i) (C1 := C1) (b := true) hst hs hf o.nd hi hln (.inl hln) T.fld ⟨hg, by decide +kernel, .inl T.mgB⟩ o.tk (by rw [e]; exact T.exc) (by rw [e]; exact T.xf) (by rw [e]; exact T.no) (by rw [e]; exact T.ex) (by rw [e]; exact hk) hgi hm hgt hT (by decide +kernel) hdn hcn hb hbase
theorem r_sortK {n : Nat} {c P : Addr} {x : Str} {params : Arguments} {scope : Scope} {j : Nat} {p kp lpos p1 p2 p3 p4 p5 : Pos} (o : Oc X B W k) (hk1 : 1 ≤ k) (hm : X.mg "sorted" = none) (hml : X.mg "len" = none) (TB : LamX.TabB X.base X.mg c P) (hcode : X.env.code = .ref c) (ha : SE X B W a ma)
    (hg : Gl X "sorted" := by rfl) (hdef : defaultsOf params X.env = ([], []) := by rfl)
    (hbind : ∀ (q : Str) (pm cv ctv v : Value), bindArgs (PySem.W.kla_fn "<lambda>" q params (keyB x j p1 p2 p3 p4 p5) scope [] pm cv ctv) ⟨[v], []⟩ = pure [(x, v)] := by intros; rfl)
    (hk : scope.kind = .function := by rfl) (hco : scope.isCoroutine = false := by rfl) (hgen : scope.isGenerator = false := by rfl) (hcell : ∀ y ∈ scope.names, y.2 ≠ .cell := by decide +kernel) (hfree : ∀ y ∈ scope.names, y.2 ≠ .free := by decide +kernel) (hcl : cloFrom X.env.cells scope.names [] = [] := by rfl)
    (l1 : scope.names.lookup x = some .local := by rfl) (l2 : scope.names.lookup ("len" : Str) = some .globalImplicit := by rfl) (hxd : (x == ("__debug__" : Str)) = false := by decide +kernel)
    (he : starEach [a] X.env = (false, eval a X.env) :: starEach [] X.env := by rfl) (he2 : backTo pos (starEach [a] X.env) = (false, eval a X.env) :: backTo pos (starEach [] X.env) := by rfl) (hpl : (backTo pos (starEach [a] X.env)).any (·.1) = false := by rfl) :
    SE X B W (.Call (.Name "sorted" p) [a] [⟨some "key", .Lambda params (keyB x j p1 p2 p3 p4 p5) scope lpos, kp⟩] pos) (x1 (bSortK n P (X.env.qual ++ "<lambda>")) ma) :=
  se_sortK o.K (o.room.mono hk1) hg hm hml TB hcode hdef hbind hk hco hgen hcell hfree hcl l1 l2 hxd ha he he2 hpl
end
end Cr
end

section
set_option Elab.async false
set_option linter.all false
set_option maxRecDepth 100000
set_option maxHeartbeats 400000
set_option pp.maxSteps 300
/-! Core, part Z: a def's facts and its walked body give a function that can be called. -/
namespace Cr
open PySem PySem.Spec PyProof.Rows L2
section
variable {B : By} {mg : Str → Option Value} {base : Heap} {k : Nat} {x : Str} {params : Arguments} {body : List Stmt} {scope : Scope} {f : Addr} {fd : FuncData} {N ps : List Str} {m : List D → M D} {mb : StM}
/-- the code object of the function at f -/
def CodeAt (K : PySem.W.Frag) (f : Addr) (cdv : Value) : Prop := ∃ oc od osl fd', K.lookup f = some ⟨oc, od, .func fd', osl⟩ ∧ fd'.code = cdv
theorem fnok_of (F : FunD B.K x x params body scope [] [] f fd) (S : FnScope N ps scope)
    (hm : ∀ E S Q l, l.length = ps.length → Post B E S (Wv B.toBx Q) (m l S.A) → Post B E S (Wv B.toBx Q) (runB N.length mb l S.A))
    (hbody : ∀ (cdv : Value) (A : Around) (outer : List Env) (s : Shared) (H : Hp) (E : XK), CodeAt B.K f cdv → Oc (cxOf (L2.CX B.prog B.w) B.prog B.w B.K mg base N x scope f cdv A outer s H E) B (fun c d _ H => E c d H) k →
      SSs (cxOf (L2.CX B.prog B.w) B.prog B.w B.K mg base N x scope f cdv A outer s H E) B (fun c d _ H => E c d H) body mb) :
    FnOk B.prog B.w B.K mg base (L2.CX B.prog B.w) (k + 1) f fd ps (spOf B ps.length m) := by
  obtain ⟨oc, od, dV, kV, doc, pm, an, cdv, ct, osl, rfl, lk, hcd, _, _⟩ := F.ex
  exact fn_core lk hcd S hm fun A outer s H E hr => hbody cdv A outer s H E ⟨_, _, _, _, lk, rfl⟩ ⟨rfl, rfl, rfl, rfl, S.nd, takes_of rfl rfl rfl rfl, hr⟩
theorem cal_of (F : FunD B.K x x params body scope [] [] f fd) (hmg : mg x = some (.ref f)) (S : FnScope N ps scope)
    (hbind : ∀ (kV doc pm : Value) (an : Option Addr) (cdv ct : Value) (us : List Value), us.length = ps.length → bindArgs (PySem.W.fnOf x x params body scope .none kV doc pm an cdv ct) ⟨us, []⟩ = pure (ps.zip us))
    (hm : ∀ E S Q l, l.length = ps.length → Post B E S (Wv B.toBx Q) (m l S.A) → Post B E S (Wv B.toBx Q) (runB N.length mb l S.A))
    (hbody : ∀ (cdv : Value) (A : Around) (outer : List Env) (s : Shared) (H : Hp) (E : XK), CodeAt B.K f cdv → Oc (cxOf (L2.CX B.prog B.w) B.prog B.w B.K mg base N x scope f cdv A outer s H E) B (fun c d _ H => E c d H) k →
      SSs (cxOf (L2.CX B.prog B.w) B.prog B.w B.K mg base N x scope f cdv A outer s H E) B (fun c d _ H => E c d H) body mb) : Cal B mg base (k + 1) x ps m :=
  ⟨f, fd, fnok_of F S hm hbody, hmg, F.kp, F.bindsN hbind⟩
theorem Cal.mono {j : Nat} (c : Cal B mg base j x ps m) (h : j ≤ k) : Cal B mg base k x ps m := by
  obtain ⟨f, fd, F, r⟩ := c.ex
  exact ⟨f, fd, F.mono h, r⟩
theorem CalK.mono {j : Nat} {ks : List Str} {g : List D → List D} (c : CalK B mg base j x ps ks g m) (h : j ≤ k) : CalK B mg base k x ps ks g m := by
  obtain ⟨f, fd, gu, gV, F, r⟩ := c.ex
  exact ⟨f, fd, gu, gV, F.mono h, r⟩
/-- a call that never comes -/
theorem cal_err (F : FunD B.K x x params body scope [] [] f fd) (hmg : mg x = some (.ref f))
    (hbind : ∀ (kV doc pm : Value) (an : Option Addr) (cdv ct : Value) (us : List Value), us.length = ps.length → bindArgs (PySem.W.fnOf x x params body scope .none kV doc pm an cdv ct) ⟨us, []⟩ = pure (ps.zip us)) : Cal B mg base k x ps (fun _ => M.err) :=
  ⟨f, fd, ⟨fun vs H Q E h => h.1, fun A outer s H args us vs Q E hr e0 hb r hsp => by
    obtain ⟨_, S, l, _, _, _, p⟩ := hsp
    exact p.elim⟩, hmg, F.kp, F.bindsN hbind⟩
end
def kp2 {α : Type} : List α → List α → List α
  | [], [a, b] => [b, a]
  | _, _ => []
def kp3 {α : Type} : List α → List α → List α
  | [], [a, b, c] => [c, b, a]
  | _, _ => []
section
variable {B : By} {mg : Str → Option Value} {base : Heap} {k : Nat} {x : Str} {params : Arguments} {body : List Stmt} {scope : Scope} {f : Addr} {fd : FuncData} {N ps ks : List Str} {m : List D → M D} {mb : StM}
theorem vals_nil {us : List Value} (h : Vals [] us) : us = [] := by cases h; rfl
theorem calk2 (F : FunD B.K x x params body scope [] [] f fd) (hmg : mg x = some (.ref f)) (S : FnScope N ps scope) (h2 : ps.length = 2)
    (hbind : ∀ (kV doc pm : Value) (an : Option Addr) (cdv ct a b : Value), bindArgs (PySem.W.fnOf x x params body scope .none kV doc pm an cdv ct) ⟨[], ks.zip [a, b]⟩ = pure (ps.zip [b, a]))
    (hf : FnOk B.prog B.w B.K mg base (L2.CX B.prog B.w) k f fd ps (spOf B ps.length m)) {g : List D → List D} (hg : ∀ l, g l = kp2 [] l) : CalK B mg base k x ps ks g m := by
  refine ⟨f, fd, kp2, kp2, hf, hmg, F.kp, ⟨fun s us ws X hl => ?_, fun {vs us zs ws} r rz => ?_⟩, fun S l vs r => ?_⟩
  · rw [h2] at hl
    unfold kp2 at hl ⊢
    split at hl
    · obtain ⟨oc, od, dV, kV, doc, pm, an, cdv, ct, osl, rfl, lk, hcd, hD, hK⟩ := F.ex
      rcases hD with ⟨_, rfl⟩ | ⟨e, _⟩
      · exact .of_eq (hbind ..)
      · exact absurd rfl e
    · cases hl
  · cases r with
    | nil =>
      cases rz with
      | nil => exact .nil
      | cons r1 rz =>
        cases rz with
        | nil => exact .nil
        | cons r2 rz =>
          cases rz with
          | nil => exact .cons r2 (.cons r1 .nil)
          | cons r3 rz => exact .nil
    | cons r1 r => exact .nil
  · rw [hg]
    cases r with
    | nil => exact .nil
    | cons r1 r =>
      cases r with
      | nil => exact .nil
      | cons r2 r =>
        cases r with
        | nil => exact .cons r2 (.cons r1 .nil)
        | cons r3 r => exact .nil
theorem calk3 (F : FunD B.K x x params body scope [] [] f fd) (hmg : mg x = some (.ref f)) (S : FnScope N ps scope) (h2 : ps.length = 3)
    (hbind : ∀ (kV doc pm : Value) (an : Option Addr) (cdv ct a b c : Value), bindArgs (PySem.W.fnOf x x params body scope .none kV doc pm an cdv ct) ⟨[], ks.zip [a, b, c]⟩ = pure (ps.zip [c, b, a]))
    (hf : FnOk B.prog B.w B.K mg base (L2.CX B.prog B.w) k f fd ps (spOf B ps.length m)) {g : List D → List D} (hg : ∀ l, g l = kp3 [] l) : CalK B mg base k x ps ks g m := by
  refine ⟨f, fd, kp3, kp3, hf, hmg, F.kp, ⟨fun s us ws X hl => ?_, fun {vs us zs ws} r rz => ?_⟩, fun S l vs r => ?_⟩
  · rw [h2] at hl
    unfold kp3 at hl ⊢
    split at hl
    · obtain ⟨oc, od, dV, kV, doc, pm, an, cdv, ct, osl, rfl, lk, hcd, hD, hK⟩ := F.ex
      rcases hD with ⟨_, rfl⟩ | ⟨e, _⟩
      · exact .of_eq (hbind ..)
      · exact absurd rfl e
    · cases hl
  · cases r with
    | nil =>
      cases rz with
      | nil => exact .nil
      | cons r1 rz =>
        cases rz with
        | nil => exact .nil
        | cons r2 rz =>
          cases rz with
          | nil => exact .nil
          | cons r3 rz =>
            cases rz with
            | nil => exact .cons r3 (.cons r2 (.cons r1 .nil))
            | cons r4 rz => exact .nil
    | cons r1 r => exact .nil
  · rw [hg]
    cases r with
    | nil => exact .nil
    | cons r1 r =>
      cases r with
      | nil => exact .nil
      | cons r2 r =>
        cases r with
        | nil => exact .nil
        | cons r3 r =>
          cases r with
          | nil => exact .cons r3 (.cons r2 (.cons r1 .nil))
          | cons r4 r => exact .nil
end
def fscB (N ps : List Str) (sc : Scope) : Bool :=
  decide (sc.kind = .function) && !sc.isCoroutine && !sc.isGenerator && decide (N.Nodup) && decide (N.take ps.length = ps) && ps.all (fun x => decide (sc.names.lookup x = some .local) || decide (sc.names.lookup x = some .cell)) && sc.names.all (fun y => !decide (y.2 = .free))
theorem fsc_by {N ps : List Str} {sc : Scope} (h : fscB N ps sc = true) : FnScope N ps sc := by
  unfold fscB at h
  simp only [Bool.and_eq_true, Bool.or_eq_true, Bool.not_eq_true', decide_eq_true_eq, decide_eq_false_iff_not, List.all_eq_true] at h
  obtain ⟨⟨⟨⟨⟨⟨h1, h2⟩, h3⟩, h4⟩, h5⟩, h6⟩, h7⟩ := h
  exact ⟨h1, h2, h3, h4, h5, h6, h7⟩
end Cr
end

section
set_option Elab.async false
set_option linter.all false
set_option maxRecDepth 100000
set_option maxHeartbeats 0
/-! The head: what stands when the law begins. -/
namespace K41
open PySem PySem.Spec PyProof.Rows L2
def top (i : Nat) : Stmt := PySem.Challenge.pw_ledgertrace_k41_why_papers.main.body.getD i (.Pass ⟨0, 0, 0, 0⟩)
def d_4 : He.DefD := ⟨("frozen", none), "frozen", "frozen", defArgs (top 4), defBody (top 4), defScope (top 4), [], []⟩
def d_6 : He.DefD := ⟨("why_holds", none), "why_holds", "why_holds", defArgs (top 6), defBody (top 6), defScope (top 6), [], []⟩
def d_7 : He.DefD := ⟨("is_right_why", none), "is_right_why", "is_right_why", defArgs (top 7), defBody (top 7), defScope (top 7), [], []⟩
def d_8 : He.DefD := ⟨("is_right_not", none), "is_right_not", "is_right_not", defArgs (top 8), defBody (top 8), defScope (top 8), [], []⟩
def d_10 : He.DefD := ⟨("is_part", none), "is_part", "is_part", defArgs (top 10), defBody (top 10), defScope (top 10), [], []⟩
def d_11 : He.DefD := ⟨("least_sets", none), "least_sets", "least_sets", defArgs (top 11), defBody (top 11), defScope (top 11), [], []⟩
def d_13 : He.DefD := ⟨("token_sets", none), "token_sets", "token_sets", defArgs (top 13), defBody (top 13), defScope (top 13), [], []⟩
def d_14 : He.DefD := ⟨("witnesses", none), "witnesses", "witnesses", defArgs (top 14), defBody (top 14), defScope (top 14), [], []⟩
def d_16 : He.DefD := ⟨("lacking", none), "lacking", "lacking", defArgs (top 16), defBody (top 16), defScope (top 16), [], []⟩
def d_17 : He.DefD := ⟨("why_paper", none), "why_paper", "why_paper", defArgs (top 17), defBody (top 17), defScope (top 17), [], []⟩
def d_19 : He.DefD := ⟨("_law_mixed", none), "_law_mixed", "_law_mixed", defArgs (top 19), defBody (top 19), defScope (top 19), [], []⟩
def d_20 : He.DefD := ⟨("_law_pool", none), "_law_pool", "_law_pool", defArgs (top 20), defBody (top 20), defScope (top 20), [], []⟩
def d_21 : He.DefD := ⟨("_law_draw", none), "_law_draw", "_law_draw", defArgs (top 21), defBody (top 21), defScope (top 21), [], []⟩
def d_22 : He.DefD := ⟨("_law_picked", none), "_law_picked", "_law_picked", defArgs (top 22), defBody (top 22), defScope (top 22), [], []⟩
def d_23 : He.DefD := ⟨("_law_same", none), "_law_same", "_law_same", defArgs (top 23), defBody (top 23), defScope (top 23), [], []⟩
def d_24 : He.DefD := ⟨("_law_poly", none), "_law_poly", "_law_poly", defArgs (top 24), defBody (top 24), defScope (top 24), [], []⟩
def d_25 : He.DefD := ⟨("_law_polynomial", none), "_law_polynomial", "_law_polynomial", defArgs (top 25), defBody (top 25), defScope (top 25), [], []⟩
def d_26 : He.DefD := ⟨("_law_sets", none), "_law_sets", "_law_sets", defArgs (top 26), defBody (top 26), defScope (top 26), [], []⟩
def d_27 : He.DefD := ⟨("_law_within", none), "_law_within", "_law_within", defArgs (top 27), defBody (top 27), defScope (top 27), [], []⟩
def d_28 : He.DefD := ⟨("_law_least", none), "_law_least", "_law_least", defArgs (top 28), defBody (top 28), defScope (top 28), [], []⟩
def d_29 : He.DefD := ⟨("_law_paper", none), "_law_paper", "_law_paper", defArgs (top 29), defBody (top 29), defScope (top 29), [], []⟩
def d_30 : He.DefD := ⟨("_law_due", none), "_law_due", "_law_due", defArgs (top 30), defBody (top 30), defScope (top 30), [], []⟩
def d_31 : He.DefD := ⟨("_law_asked", none), "_law_asked", "_law_asked", defArgs (top 31), defBody (top 31), defScope (top 31), [], []⟩
def d_32 : He.DefD := ⟨("_law_tokens", none), "_law_tokens", "_law_tokens", defArgs (top 32), defBody (top 32), defScope (top 32), [], []⟩
def d_33 : He.DefD := ⟨("_law_other_right", none), "_law_other_right", "_law_other_right", defArgs (top 33), defBody (top 33), defScope (top 33), [], []⟩
def d_34 : He.DefD := ⟨("_law_spoilt", none), "_law_spoilt", "_law_spoilt", defArgs (top 34), defBody (top 34), defScope (top 34), [], []⟩
def d_35 : He.DefD := ⟨("law", none), "law", "law", defArgs (top 35), defBody (top 35), defScope (top 35), [], []⟩
def fn : List He.DefD := [d_4, d_6, d_7, d_8, d_10, d_11, d_13, d_14, d_16, d_17, d_19, d_20, d_21, d_22, d_23, d_24, d_25, d_26, d_27, d_28, d_29, d_30, d_31, d_32, d_33, d_34, d_35]
def fa : List He.Fa := [.glo "frozen", .glo "why_holds", .glo "is_right_why", .glo "is_right_not", .glo "is_part", .glo "least_sets", .glo "token_sets", .glo "witnesses", .glo "lacking", .glo "why_paper", .glo "_law_mixed", .glo "_law_pool", .glo "_law_draw", .glo "_law_picked", .glo "_law_same", .glo "_law_poly", .glo "_law_polynomial", .glo "_law_sets", .glo "_law_within", .glo "_law_least", .glo "_law_paper", .glo "_law_due", .glo "_law_asked", .glo "_law_tokens", .glo "_law_other_right", .glo "_law_spoilt", .glo "law", .glo "TraceError", .glo "BadPaper", .free "isinstance", .free "tuple", .free "list", .free "str", .free "int", .free "bool", .free "len", .free "all", .free "any", .free "sorted", .free "range", .free "zip", .free "super"]
def tf : List He.Defn := [("least_sets", none)]
def ex (K : PySem.W.Frag) : Bool := true
abbrev R : PySem.W.OpenRow := PySem.W.OpenLaw.row PySem.Challenge.rw_ledgertrace_k41_why_papers
abbrev hk : PySem.W.Hook := He.hookX 4 fa fn [] tf ex
def ob (s : PySem.W.SharedT) : He.AlX := He.obsX 4 fa fn [] tf ex (HandSHeadRun.getT s)
theorem ob_eq (s : PySem.W.SharedT) : ob s = hk.obs s.abs := He.obsX_eq (HandSHeadRun.getT_eq s)
def names : List PySem.Str := ["TraceError", "BadPaper", "frozen", "why_holds", "is_right_why", "is_right_not", "is_part", "least_sets", "token_sets", "witnesses", "lacking", "why_paper", "_law_mixed", "_law_pool", "_law_draw", "_law_picked", "_law_same", "_law_poly", "_law_polynomial", "_law_sets", "_law_within", "_law_least", "_law_paper", "_law_due", "_law_asked", "_law_tokens", "_law_other_right", "_law_spoilt"]
set_option maxRecDepth 1000000 in
theorem run (w : World) : HandSHeadRun.RunEq R (PySem.W.view R.prog [35]) hk ob 3000 names w := by
  intro os
  kernel_rfl
end K41
end

section
set_option Elab.async false
set_option linter.all false
set_option maxRecDepth 100000
set_option maxHeartbeats 1000000
set_option pp.maxSteps 300
/-! What each def computes, and that its code does so (printed by gen.py). -/
namespace K41
open PySem PySem.Spec PyProof.Rows L2 Cr

abbrev WE0 (E : XK) : WX := fun c d _ H => E c d H
section
variable {B : By} {mg : Str → Option Value} {base : Heap} {k : Nat} {f : Addr} {cdv : Value} {A : Around} {outer : List Env} {s : Shared} {H : Hp} {E : XK}

/-! _law_mixed -/
abbrev N19 : List Str := ["_law_a", "_law_b", "_law_one", "_law_two"]
abbrev P19 : List Str := ["_law_a", "_law_b"]
abbrev X19 (B : By) (mg : Str → Option Value) (base : Heap) (f : Addr) (cdv : Value) (A : Around) (outer : List Env) (s : Shared) (H : Hp) (E : XK) : Cx := cxOf (L2.CX B.prog B.w) B.prog B.w B.K mg base N19 "_law_mixed" (defScope (top 19)) f cdv A outer s H E
noncomputable def m_19 : StM := mSeq (sSet 2 (x2 opMod (x2 opAdd (x2 opAdd (x2 opMul (x2 opMod (xN (opN1 bInt) (aCons (xVar 0) aNil)) (xInt 1000003)) (xInt 48271)) (x2 opMul (x2 opMod (xN (opN1 bInt) (aCons (xVar 1) aNil)) (xInt 999983)) (xInt 69621))) (xInt 12345)) (xInt 2147483647))) (mSeq (sSet 3 (x2 opMod (x2 opAdd (x2 opAdd (x2 opAdd (x2 opMul (xVar 2) (xVar 2)) (x2 opMul (xVar 2) (xInt 40692))) (x2 opMul (x2 opMod (xN (opN1 bInt) (aCons (xVar 1) aNil)) (xInt 65537)) (xInt 16807))) (xInt 7)) (xInt 2147483629))) (sRet (x2 opMod (x2 opAdd (x2 opMul (xVar 3) (xInt 48271)) (x2 opDiv (xVar 2) (xInt 127))) (xInt 2147483647))))
noncomputable def M_19 : List D → M D := callB 4 m_19
theorem w_19 (G : Mg mg) (o : Oc (X19 B mg base f cdv A outer s H E) B (WE0 E) k) : SSs (X19 B mg base f cdv A outer s H E) B (WE0 E) (defBody (top 19)) (m_19) := by
  have po : PassesOwn (model (X19 B mg base f cdv A outer s H E).prog (X19 B mg base f cdv A outer s H E).w) (X19 B mg base f cdv A outer s H E).A (X19 B mg base f cdv A outer s H E).env (X19 B mg base f cdv A outer s H E).xe := passes_of rfl
  exact r_scons (r_set o (r_bin or_mod (r_bin (or_add o.K) (r_bin (or_add o.K) (r_bin (or_mul o.K) (r_bin or_mod (r_callT cr_int G.int (r_cons r_var r_nil)) r_int) r_int) (r_bin (or_mul o.K) (r_bin or_mod (r_callT cr_int G.int (r_cons r_var r_nil)) r_int) r_int)) r_int) r_int)) (r_scons (r_set o (r_bin or_mod (r_bin (or_add o.K) (r_bin (or_add o.K) (r_bin (or_add o.K) (r_bin (or_mul o.K) r_var r_var) (r_bin (or_mul o.K) r_var r_int)) (r_bin (or_mul o.K) (r_bin or_mod (r_callT cr_int G.int (r_cons r_var r_nil)) r_int) r_int)) r_int) r_int)) (r_one (r_ret (r_bin or_mod (r_bin (or_add o.K) (r_bin (or_mul o.K) r_var r_int) (r_bin or_div r_var r_int)) r_int))))

/-! _law_within -/
abbrev N27 : List Str := ["_law_row", "_law_tokens_here", "_law_token"]
abbrev P27 : List Str := ["_law_row", "_law_tokens_here"]
abbrev X27 (B : By) (mg : Str → Option Value) (base : Heap) (f : Addr) (cdv : Value) (A : Around) (outer : List Env) (s : Shared) (H : Hp) (E : XK) : Cx := cxOf (L2.CX B.prog B.w) B.prog B.w B.K mg base N27 "_law_within" (defScope (top 27)) f cdv A outer s H E
noncomputable def m_27 : StM := sRet (x2 opEq (xN (opN1 bLen) (aCons (mLc [2] (iSeq (xVar 0)) (gName 2) (t2 opNotIn (xVar 2) (xVar 1)) (xVar 2)) aNil)) (xInt 0))
noncomputable def M_27 : List D → M D := callB 3 m_27
theorem w_27 (G : Mg mg) (o : Oc (X27 B mg base f cdv A outer s H E) B (WE0 E) k) : SSs (X27 B mg base f cdv A outer s H E) B (WE0 E) (defBody (top 27)) (m_27) := by
  have po : PassesOwn (model (X27 B mg base f cdv A outer s H E).prog (X27 B mg base f cdv A outer s H E).w) (X27 B mg base f cdv A outer s H E).A (X27 B mg base f cdv A outer s H E).env (X27 B mg base f cdv A outer s H E).xe := passes_of rfl
  exact r_one (r_ret (r_cmp (or_eq o.K o.u) (r_callB (cr_len o.K) G.len (r_cons (r_lc o [("_law_token", 2)] (r_iseq o r_var) (fun s0 H0 C0 l0 p0 => (r_gname (o.blk ..))) (fun s0 H0 C0 l0 p0 => (r_ts1 (r_tcmp (or_notin o.prog o.w o.K o.u) r_var r_var))) (fun s0 H0 C0 l0 p0 => r_var)) r_nil)) r_int))

/-! _law_draw -/
abbrev N21 : List Str := ["_law_pool_here", "_law_many", "_law_rest", "_law_cells", "_law_cell"]
abbrev P21 : List Str := ["_law_pool_here", "_law_many"]
abbrev X21 (B : By) (mg : Str → Option Value) (base : Heap) (f : Addr) (cdv : Value) (A : Around) (outer : List Env) (s : Shared) (H : Hp) (E : XK) : Cx := cxOf (L2.CX B.prog B.w) B.prog B.w B.K mg base N21 "_law_draw" (defScope (top 21)) f cdv A outer s H E
noncomputable def m_21 : StM := mSeq (sSet 2 (x2 opIx (xVar 0) (xInt 2))) (mSeq (sIf (tAnd (t2 opLt (xVar 2) (xInt 2)) (t2 opLt (x2 opIx (xVar 0) (xInt 1)) (xN (opN1 bLen) (aCons (x2 opIx (xVar 0) (xInt 0)) aNil)))) (mSeq (sSet 3 (x2 opIx (xVar 0) (xInt 0))) (mSeq (sSet 4 (x2 opIx (xVar 3) (x2 opIx (xVar 0) (xInt 1)))) (mSeq (sPut (x2 opAdd (x2 opIx (xVar 0) (xInt 1)) (xInt 1)) (xVar 0) (xInt 1)) (mSeq (sIf (t2 opGe (xVar 4) (x2 opPow (xInt 10) (xInt 18))) (mSeq (sSet 2 (x2 opSub (xVar 4) (x2 opPow (xInt 10) (xInt 18)))) (mSeq (sPut (x2 opDiv (xVar 2) (xVar 1)) (xVar 0) (xInt 2)) (mSeq (sPut (xInt 60) (xVar 0) (xInt 4)) (sRet (x2 opMod (xN (opN1 bInt) (aCons (xVar 2) aNil)) (xVar 1)))))) mNext) (sPut (xCall 2 M_19 (aCons (x2 opAdd (x2 opIx (xVar 0) (xInt 3)) (xVar 4)) (aCons (x2 opIx (xVar 0) (xInt 1)) aNil))) (xVar 0) (xInt 3)))))) (sIf (t2 opLt (xVar 2) (xInt 2)) (mSeq (sPut (x2 opAdd (x2 opIx (xVar 0) (xInt 1)) (xInt 1)) (xVar 0) (xInt 1)) (sPut (xCall 2 M_19 (aCons (x2 opIx (xVar 0) (xInt 3)) (aCons (x2 opAdd (xInt 77) (x2 opIx (xVar 0) (xInt 1))) aNil))) (xVar 0) (xInt 3))) (mSeq (sPut (x2 opSub (x2 opIx (xVar 0) (xInt 4)) (xInt 1)) (xVar 0) (xInt 4)) (mSeq (sPut (x2 opMul (x2 opDiv (xVar 2) (xVar 1)) (xN (opN1 bInt) (aCons (x2 opGt (x2 opIx (xVar 0) (xInt 4)) (xInt 0)) aNil))) (xVar 0) (xInt 2)) (sRet (x2 opMod (xN (opN1 bInt) (aCons (xVar 2) aNil)) (xVar 1))))))) (mSeq (sPut (xInt 0) (xVar 0) (xInt 2)) (sRet (x2 opMod (xN (opN1 bInt) (aCons (x2 opIx (xVar 0) (xInt 3)) aNil)) (xVar 1)))))
noncomputable def M_21 : List D → M D := callB 5 m_21
theorem w_21 (G : Mg mg) (c_19 : Cal B mg base k "_law_mixed" P19 M_19) (o : Oc (X21 B mg base f cdv A outer s H E) B (WE0 E) k) : SSs (X21 B mg base f cdv A outer s H E) B (WE0 E) (defBody (top 21)) (m_21) := by
  have po : PassesOwn (model (X21 B mg base f cdv A outer s H E).prog (X21 B mg base f cdv A outer s H E).w) (X21 B mg base f cdv A outer s H E).A (X21 B mg base f cdv A outer s H E).env (X21 B mg base f cdv A outer s H E).xe := passes_of rfl
  exact r_scons (r_set o (r_ix o r_var r_int)) (r_scons (r_if (r_st (r_and (r_tcmp (or_lt o.K o.u) r_var r_int) (r_and1 (r_tcmp (or_lt o.K o.u) (r_ix o r_var r_int) (r_callB (cr_len o.K) G.len (r_cons (r_ix o r_var r_int) r_nil)))))) (r_scons (r_set o (r_ix o r_var r_int)) (r_scons (r_set o (r_ix o r_var (r_ix o r_var r_int))) (r_scons (r_put o (r_bin (or_add o.K) (r_ix o r_var r_int) r_int) r_var r_int) (r_scons (r_if (r_tcmp or_ge r_var (r_bin or_pow r_int r_int)) (r_scons (r_set o (r_bin or_sub r_var (r_bin or_pow r_int r_int))) (r_scons (r_put o (r_bin or_div r_var r_var) r_var r_int) (r_scons (r_put o r_int r_var r_int) (r_one (r_ret (r_bin or_mod (r_callT cr_int G.int (r_cons r_var r_nil)) r_var)))))) r_snil) (r_one (r_put o (r_call o c_19 (r_cons (r_bin (or_add o.K) (r_ix o r_var r_int) r_var) (r_cons (r_ix o r_var r_int) r_nil))) r_var r_int)))))) (r_one (r_if (r_tcmp (or_lt o.K o.u) r_var r_int) (r_scons (r_put o (r_bin (or_add o.K) (r_ix o r_var r_int) r_int) r_var r_int) (r_one (r_put o (r_call o c_19 (r_cons (r_ix o r_var r_int) (r_cons (r_bin (or_add o.K) r_int (r_ix o r_var r_int)) r_nil))) r_var r_int))) (r_scons (r_put o (r_bin or_sub (r_ix o r_var r_int) r_int) r_var r_int) (r_scons (r_put o (r_bin (or_mul o.K) (r_bin or_div r_var r_var) (r_callT cr_int G.int (r_cons (r_cmp or_gt (r_ix o r_var r_int) r_int) r_nil))) r_var r_int) (r_one (r_ret (r_bin or_mod (r_callT cr_int G.int (r_cons r_var r_nil)) r_var)))))))) (r_scons (r_put o r_int r_var r_int) (r_one (r_ret (r_bin or_mod (r_callT cr_int G.int (r_cons (r_ix o r_var r_int) r_nil)) r_var)))))

/-! _law_picked -/
abbrev N22 : List Str := ["_law_pool_here", "_law_row"]
abbrev P22 : List Str := ["_law_pool_here", "_law_row"]
abbrev X22 (B : By) (mg : Str → Option Value) (base : Heap) (f : Addr) (cdv : Value) (A : Around) (outer : List Env) (s : Shared) (H : Hp) (E : XK) : Cx := cxOf (L2.CX B.prog B.w) B.prog B.w B.K mg base N22 "_law_picked" (defScope (top 22)) f cdv A outer s H E
noncomputable def m_22 : StM := sRet (x2 opIx (xVar 1) (xCall 2 M_21 (aCons (xVar 0) (aCons (xN (opN1 bLen) (aCons (xVar 1) aNil)) aNil))))
noncomputable def M_22 : List D → M D := callB 2 m_22
theorem w_22 (G : Mg mg) (c_21 : Cal B mg base k "_law_draw" P21 M_21) (o : Oc (X22 B mg base f cdv A outer s H E) B (WE0 E) k) : SSs (X22 B mg base f cdv A outer s H E) B (WE0 E) (defBody (top 22)) (m_22) := by
  have po : PassesOwn (model (X22 B mg base f cdv A outer s H E).prog (X22 B mg base f cdv A outer s H E).w) (X22 B mg base f cdv A outer s H E).A (X22 B mg base f cdv A outer s H E).env (X22 B mg base f cdv A outer s H E).xe := passes_of rfl
  exact r_one (r_ret (r_ix o r_var (r_call o c_21 (r_cons r_var (r_cons (r_callB (cr_len o.K) G.len (r_cons r_var r_nil)) r_nil)))))

/-! _law_sets -/
abbrev N26 : List Str := ["_law_p", "_law_term", "_law_pair"]
abbrev P26 : List Str := ["_law_p"]
abbrev X26 (B : By) (mg : Str → Option Value) (base : Heap) (f : Addr) (cdv : Value) (A : Around) (outer : List Env) (s : Shared) (H : Hp) (E : XK) : Cx := cxOf (L2.CX B.prog B.w) B.prog B.w B.K mg base N26 "_law_sets" (defScope (top 26)) f cdv A outer s H E
noncomputable def m_26 : StM := sRet (mLc [1] (iSeq (xVar 0)) (gName 1) tNone (mLc [2] (iSeq (x2 opIx (xVar 1) (xInt 0))) (gName 2) tNone (x2 opIx (xVar 2) (xInt 0))))
noncomputable def M_26 : List D → M D := callB 3 m_26
theorem w_26 (G : Mg mg) (o : Oc (X26 B mg base f cdv A outer s H E) B (WE0 E) k) : SSs (X26 B mg base f cdv A outer s H E) B (WE0 E) (defBody (top 26)) (m_26) := by
  have po : PassesOwn (model (X26 B mg base f cdv A outer s H E).prog (X26 B mg base f cdv A outer s H E).w) (X26 B mg base f cdv A outer s H E).A (X26 B mg base f cdv A outer s H E).env (X26 B mg base f cdv A outer s H E).xe := passes_of rfl
  exact r_one (r_ret (r_lc o [("_law_term", 1)] (r_iseq o r_var) (fun s0 H0 C0 l0 p0 => (r_gname (o.blk ..))) (fun s0 H0 C0 l0 p0 => r_ts0) (fun s0 H0 C0 l0 p0 => (r_lc (o.blk ..) [("_law_pair", 2)] (r_iseq (o.blk ..) (r_ix (o.blk ..) r_var r_int)) (fun s1 H1 C1 l1 p1 => (r_gname ((o.blk ..).blk ..))) (fun s1 H1 C1 l1 p1 => r_ts0) (fun s1 H1 C1 l1 p1 => (r_ix ((o.blk ..).blk ..) r_var r_int))))))

/-! _law_least -/
abbrev N28 : List Str := ["_law_p", "_law_tokens_here", "_law_good", "_law_best", "_law_row"]
abbrev P28 : List Str := ["_law_p", "_law_tokens_here"]
abbrev X28 (B : By) (mg : Str → Option Value) (base : Heap) (f : Addr) (cdv : Value) (A : Around) (outer : List Env) (s : Shared) (H : Hp) (E : XK) : Cx := cxOf (L2.CX B.prog B.w) B.prog B.w B.K mg base N28 "_law_least" (defScope (top 28)) f cdv A outer s H E
noncomputable def m_28 : StM := mSeq (sSet 2 (mLc [4] (iSeq (xCall 1 M_26 (aCons (xVar 0) aNil))) (gName 4) (tVal (xCall 2 M_27 (aCons (xVar 4) (aCons (xVar 1) aNil)))) (xVar 4))) (mSeq (sSet 3 xNon) (mSeq (mFor (iSeq (xVar 2)) (gName 4) (sIf (tOr (t2 opIs (xVar 3) xNon) (tOr (t2 opLt (xN (opN1 bLen) (aCons (xVar 4) aNil)) (xN (opN1 bLen) (aCons (xVar 3) aNil))) (tAnd (t2 opEq (xN (opN1 bLen) (aCons (xVar 4) aNil)) (xN (opN1 bLen) (aCons (xVar 3) aNil))) (t2 opLt (xVar 4) (xVar 3))))) (sSet 3 (xVar 4)) mNext)) (sRet (xVar 3))))
noncomputable def M_28 : List D → M D := callB 5 m_28
theorem w_28 (G : Mg mg) (c_26 : Cal B mg base k "_law_sets" P26 M_26) (c_27 : Cal B mg base k "_law_within" P27 M_27) (o : Oc (X28 B mg base f cdv A outer s H E) B (WE0 E) k) : SSs (X28 B mg base f cdv A outer s H E) B (WE0 E) (defBody (top 28)) (m_28) := by
  have po : PassesOwn (model (X28 B mg base f cdv A outer s H E).prog (X28 B mg base f cdv A outer s H E).w) (X28 B mg base f cdv A outer s H E).A (X28 B mg base f cdv A outer s H E).env (X28 B mg base f cdv A outer s H E).xe := passes_of rfl
  exact r_scons (r_setLc o [("_law_row", 4)] (r_iseq o (r_call o c_26 (r_cons r_var r_nil))) (fun s0 H0 C0 l0 p0 => (r_gname (o.blk ..))) (fun s0 H0 C0 l0 p0 => (r_ts1 (r_tval (r_call (o.blk ..) c_27 (r_cons r_var (r_cons r_var r_nil)))))) (fun s0 H0 C0 l0 p0 => r_var)) (r_scons (r_set o r_non) (r_scons (r_for o po (r_iseq o r_var) (r_gname o) q_name (r_one (r_if (r_st (r_or (r_tcmp or_is r_var r_non) (r_or (r_tcmp (or_lt o.K o.u) (r_callB (cr_len o.K) G.len (r_cons r_var r_nil)) (r_callB (cr_len o.K) G.len (r_cons r_var r_nil))) (r_or1 (r_st (r_and (r_tcmp (or_eq o.K o.u) (r_callB (cr_len o.K) G.len (r_cons r_var r_nil)) (r_callB (cr_len o.K) G.len (r_cons r_var r_nil))) (r_and1 (r_tcmp (or_lt o.K o.u) r_var r_var)))))))) (r_one (r_set o r_var)) r_snil))) (r_one (r_ret r_var))))

/-! is_part -/
abbrev N10 : List Str := ["one", "other", "token"]
abbrev P10 : List Str := ["one", "other"]
abbrev X10 (B : By) (mg : Str → Option Value) (base : Heap) (f : Addr) (cdv : Value) (A : Around) (outer : List Env) (s : Shared) (H : Hp) (E : XK) : Cx := cxOf (L2.CX B.prog B.w) B.prog B.w B.K mg base N10 "is_part" (defScope (top 10)) f cdv A outer s H E
noncomputable def m_10 : StM := sRet (xN (opN1 bAll) (aCons (mLc [2] (iSeq (xVar 0)) (gName 2) tNone (x2 opIn (xVar 2) (xVar 1))) aNil))
noncomputable def M_10 : List D → M D := callB 3 m_10
theorem w_10 (G : Mg mg) (o : Oc (X10 B mg base f cdv A outer s H E) B (WE0 E) k) : SSs (X10 B mg base f cdv A outer s H E) B (WE0 E) (defBody (top 10)) (m_10) := by
  have po : PassesOwn (model (X10 B mg base f cdv A outer s H E).prog (X10 B mg base f cdv A outer s H E).w) (X10 B mg base f cdv A outer s H E).A (X10 B mg base f cdv A outer s H E).env (X10 B mg base f cdv A outer s H E).xe := passes_of rfl
  exact r_one (r_ret (r_callB (cr_allD o.calm o.K) G.all (r_cons (r_lc o [("token", 2)] (r_iseq o r_var) (fun s0 H0 C0 l0 p0 => (r_gname (o.blk ..))) (fun s0 H0 C0 l0 p0 => r_ts0) (fun s0 H0 C0 l0 p0 => (r_cmp (or_in o.prog o.w o.K o.u) r_var r_var))) r_nil)))

end
end K41
end

section
set_option Elab.async false
set_option linter.all false
set_option maxRecDepth 100000
set_option maxHeartbeats 1000000
set_option pp.maxSteps 300
/-! What each def computes, and that its code does so (printed by gen.py). -/
namespace K41
open PySem PySem.Spec PyProof.Rows L2 Cr

section
variable {B : By} {mg : Str → Option Value} {base : Heap} {k : Nat} {f : Addr} {cdv : Value} {A : Around} {outer : List Env} {s : Shared} {H : Hp} {E : XK}

/-! frozen -/
abbrev N4 : List Str := ["value", "part"]
abbrev P4 : List Str := ["value"]
abbrev X4 (B : By) (mg : Str → Option Value) (base : Heap) (f : Addr) (cdv : Value) (A : Around) (outer : List Env) (s : Shared) (H : Hp) (E : XK) : Cx := cxOf (L2.CX B.prog B.w) B.prog B.w B.K mg base N4 "frozen" (defScope (top 4)) f cdv A outer s H E
noncomputable def m_4 (self : List D → M D) : StM := mSeq (sIf (tVal (x1 (bIsi2 "list" "tuple") (xVar 0))) (sRet (xN (opN1 bTuple) (aCons (mLc [1] (iSeq (xVar 0)) (gName 1) tNone (xCall 1 self (aCons (xVar 1) aNil))) aNil))) mNext) (sRet (xVar 0))
noncomputable def R_4 : Nat → List D → M D
  | 0 => fun _ => M.err
  | n + 1 => callB 2 (m_4 (R_4 n))
noncomputable def M_4 : List D → M D := R_4 6
theorem w_4 {self : List D → M D} (G : Mg mg) (c_4 : Cal B mg base k "frozen" P4 self) (o : Oc (X4 B mg base f cdv A outer s H E) B (WE0 E) k) : SSs (X4 B mg base f cdv A outer s H E) B (WE0 E) (defBody (top 4)) (m_4 self) := by
  have po : PassesOwn (model (X4 B mg base f cdv A outer s H E).prog (X4 B mg base f cdv A outer s H E).w) (X4 B mg base f cdv A outer s H E).A (X4 B mg base f cdv A outer s H E).env (X4 B mg base f cdv A outer s H E).xe := passes_of rfl
  exact r_scons (r_if (r_tval (r_isi2 o G.isinstance G.list G.tuple r_var)) (r_one (r_ret (r_callT (cr_tuple o.K) G.tuple (r_cons (r_lc o [("part", 1)] (r_iseq o r_var) (fun s0 H0 C0 l0 p0 => (r_gname (o.blk ..))) (fun s0 H0 C0 l0 p0 => r_ts0) (fun s0 H0 C0 l0 p0 => (r_call (o.blk ..) c_4 (r_cons r_var r_nil)))) r_nil)))) r_snil) (r_one (r_ret r_var))

/-! token_sets -/
abbrev N13 : List Str := ["p", "monomial", "_", "token"]
abbrev P13 : List Str := ["p"]
abbrev X13 (B : By) (mg : Str → Option Value) (base : Heap) (f : Addr) (cdv : Value) (A : Around) (outer : List Env) (s : Shared) (H : Hp) (E : XK) : Cx := cxOf (L2.CX B.prog B.w) B.prog B.w B.K mg base N13 "token_sets" (defScope (top 13)) f cdv A outer s H E
noncomputable def m_13 : StM := sRet (mLc [1, 2] (iSeq (xCall 1 M_4 (aCons (xVar 0) aNil))) (gPair 1 2) tNone (xN (opN1 bTuple) (aCons (mLc [3, 2] (iSeq (xVar 1)) (gPair 3 2) tNone (xVar 3)) aNil)))
noncomputable def M_13 : List D → M D := callB 4 m_13
theorem w_13 (G : Mg mg) (c_4 : Cal B mg base k "frozen" P4 M_4) (o : Oc (X13 B mg base f cdv A outer s H E) B (WE0 E) k) : SSs (X13 B mg base f cdv A outer s H E) B (WE0 E) (defBody (top 13)) (m_13) := by
  have po : PassesOwn (model (X13 B mg base f cdv A outer s H E).prog (X13 B mg base f cdv A outer s H E).w) (X13 B mg base f cdv A outer s H E).A (X13 B mg base f cdv A outer s H E).env (X13 B mg base f cdv A outer s H E).xe := passes_of rfl
  exact r_one (r_ret (r_lc o [("monomial", 1), ("_", 2)] (r_iseq o (r_call o c_4 (r_cons r_var r_nil))) (fun s0 H0 C0 l0 p0 => (r_gpair (o.blk ..))) (fun s0 H0 C0 l0 p0 => r_ts0) (fun s0 H0 C0 l0 p0 => (r_callT (cr_tuple o.K) G.tuple (r_cons (r_lc (o.blk ..) [("token", 3), ("_", 2)] (r_iseq (o.blk ..) r_var) (fun s1 H1 C1 l1 p1 => (r_gpair ((o.blk ..).blk ..))) (fun s1 H1 C1 l1 p1 => r_ts0) (fun s1 H1 C1 l1 p1 => r_var)) r_nil)))))

/-! is_right_why -/
abbrev N7 : List Str := ["p", "tokens", "line", "monomial", "_", "names", "token"]
abbrev P7 : List Str := ["p", "tokens", "line"]
abbrev X7 (B : By) (mg : Str → Option Value) (base : Heap) (f : Addr) (cdv : Value) (A : Around) (outer : List Env) (s : Shared) (H : Hp) (E : XK) : Cx := cxOf (L2.CX B.prog B.w) B.prog B.w B.K mg base N7 "is_right_why" (defScope (top 7)) f cdv A outer s H E
noncomputable def m_7 : StM := mSeq (mFor (iSeq (xVar 0)) (gPair 3 4) (mSeq (sSet 5 (mLc [6, 4] (iSeq (xVar 3)) (gPair 6 4) tNone (xVar 6))) (sIf (tAnd (t2 opEq (xVar 2) (x2 opAdd (xStr "why") (xM "str" mJoin (xStr "") (aCons (mLc [6] (iSeq (xVar 5)) (gName 6) tNone (x2 opAdd (xStr " ") (xVar 6))) aNil)))) (tVal (xN (opN1 bAll) (aCons (mLc [6] (iSeq (xVar 5)) (gName 6) tNone (x2 opIn (xVar 6) (xVar 1))) aNil)))) (sRet (xBl true)) mNext))) (sRet (xBl false))
noncomputable def M_7 : List D → M D := callB 7 m_7
theorem w_7 (G : Mg mg) (o : Oc (X7 B mg base f cdv A outer s H E) B (WE0 E) k) : SSs (X7 B mg base f cdv A outer s H E) B (WE0 E) (defBody (top 7)) (m_7) := by
  have po : PassesOwn (model (X7 B mg base f cdv A outer s H E).prog (X7 B mg base f cdv A outer s H E).w) (X7 B mg base f cdv A outer s H E).A (X7 B mg base f cdv A outer s H E).env (X7 B mg base f cdv A outer s H E).xe := passes_of rfl
  exact r_scons (r_for o po (r_iseq o r_var) (r_gpair o) quiet_pair (r_scons (r_setLc o [("token", 6), ("_", 4)] (r_iseq o r_var) (fun s0 H0 C0 l0 p0 => (r_gpair (o.blk ..))) (fun s0 H0 C0 l0 p0 => r_ts0) (fun s0 H0 C0 l0 p0 => r_var)) (r_one (r_if (r_st (r_and (r_tcmp (or_eq o.K o.u) r_var (r_bin (or_add o.K) r_str (r_bm o F.plainAttrs_str F.slot_str_join F.type_str_join (m_join o.K) r_str (r_cons (r_lc o [("token", 6)] (r_iseq o r_var) (fun s0 H0 C0 l0 p0 => (r_gname (o.blk ..))) (fun s0 H0 C0 l0 p0 => r_ts0) (fun s0 H0 C0 l0 p0 => (r_bin (or_add o.K) r_str r_var))) r_nil)))) (r_and1 (r_tval (r_callB (cr_allD o.calm o.K) G.all (r_cons (r_lc o [("token", 6)] (r_iseq o r_var) (fun s0 H0 C0 l0 p0 => (r_gname (o.blk ..))) (fun s0 H0 C0 l0 p0 => r_ts0) (fun s0 H0 C0 l0 p0 => (r_cmp (or_in o.prog o.w o.K o.u) r_var r_var))) r_nil)))))) (r_one (r_ret r_bl)) r_snil)))) (r_one (r_ret r_bl))

/-! is_right_not -/
abbrev N8 : List Str := ["p", "tokens", "lines", "line", "term", "names", "token", "_"]
abbrev P8 : List Str := ["p", "tokens", "lines"]
abbrev X8 (B : By) (mg : Str → Option Value) (base : Heap) (f : Addr) (cdv : Value) (A : Around) (outer : List Env) (s : Shared) (H : Hp) (E : XK) : Cx := cxOf (L2.CX B.prog B.w) B.prog B.w B.K mg base N8 "is_right_not" (defScope (top 8)) f cdv A outer s H E
noncomputable def m_8 : StM := mSeq (sIf (t2 opNe (xN (opN1 bLen) (aCons (xVar 2) aNil)) (xN (opN1 bLen) (aCons (xVar 0) aNil))) (sRet (xBl false)) mNext) (mSeq (mFor (iZip (aCons (xVar 2) (aCons (xVar 0) aNil))) (gPair 3 4) (mSeq (sSet 5 (mLc [6, 7] (iSeq (x2 opIx (xVar 4) (xInt 0))) (gPair 6 7) tNone (xVar 6))) (sIf (t2 opNotIn (xVar 3) (mLc [6] (iSeq (xVar 5)) (gName 6) (t2 opNotIn (xVar 6) (xVar 1)) (x2 opAdd (xStr "lacks ") (xVar 6)))) (sRet (xBl false)) mNext))) (sRet (xBl true)))
noncomputable def M_8 : List D → M D := callB 8 m_8
theorem w_8 (G : Mg mg) (o : Oc (X8 B mg base f cdv A outer s H E) B (WE0 E) k) : SSs (X8 B mg base f cdv A outer s H E) B (WE0 E) (defBody (top 8)) (m_8) := by
  have po : PassesOwn (model (X8 B mg base f cdv A outer s H E).prog (X8 B mg base f cdv A outer s H E).w) (X8 B mg base f cdv A outer s H E).A (X8 B mg base f cdv A outer s H E).env (X8 B mg base f cdv A outer s H E).xe := passes_of rfl
  exact r_scons (r_if (r_tcmp (or_ne o.K o.u) (r_callB (cr_len o.K) G.len (r_cons r_var r_nil)) (r_callB (cr_len o.K) G.len (r_cons r_var r_nil))) (r_one (r_ret r_bl)) r_snil) (r_scons (r_for o po (r_izip o G.zip (r_cons r_var (r_cons r_var r_nil))) (r_gpair o) quiet_pair (r_scons (r_setLc o [("token", 6), ("_", 7)] (r_iseq o (r_ix o r_var r_int)) (fun s0 H0 C0 l0 p0 => (r_gpair (o.blk ..))) (fun s0 H0 C0 l0 p0 => r_ts0) (fun s0 H0 C0 l0 p0 => r_var)) (r_one (r_if (r_tcmp (or_notin o.prog o.w o.K o.u) r_var (r_lc o [("token", 6)] (r_iseq o r_var) (fun s0 H0 C0 l0 p0 => (r_gname (o.blk ..))) (fun s0 H0 C0 l0 p0 => (r_ts1 (r_tcmp (or_notin o.prog o.w o.K o.u) r_var r_var))) (fun s0 H0 C0 l0 p0 => (r_bin (or_add o.K) r_str r_var)))) (r_one (r_ret r_bl)) r_snil)))) (r_one (r_ret r_bl)))

/-! lacking -/
abbrev N16 : List Str := ["monomial", "tokens", "token", "_"]
abbrev P16 : List Str := ["monomial", "tokens"]
abbrev X16 (B : By) (mg : Str → Option Value) (base : Heap) (f : Addr) (cdv : Value) (A : Around) (outer : List Env) (s : Shared) (H : Hp) (E : XK) : Cx := cxOf (L2.CX B.prog B.w) B.prog B.w B.K mg base N16 "lacking" (defScope (top 16)) f cdv A outer s H E
noncomputable def m_16 : StM := sRet (x2 opIx (mLc [2, 3] (iSeq (xVar 0)) (gPair 2 3) (t2 opNotIn (xVar 2) (xVar 1)) (xVar 2)) (xInt 0))
noncomputable def M_16 : List D → M D := callB 4 m_16
theorem w_16 (G : Mg mg) (o : Oc (X16 B mg base f cdv A outer s H E) B (WE0 E) k) : SSs (X16 B mg base f cdv A outer s H E) B (WE0 E) (defBody (top 16)) (m_16) := by
  have po : PassesOwn (model (X16 B mg base f cdv A outer s H E).prog (X16 B mg base f cdv A outer s H E).w) (X16 B mg base f cdv A outer s H E).A (X16 B mg base f cdv A outer s H E).env (X16 B mg base f cdv A outer s H E).xe := passes_of rfl
  exact r_one (r_ret (r_ix o (r_lc o [("token", 2), ("_", 3)] (r_iseq o r_var) (fun s0 H0 C0 l0 p0 => (r_gpair (o.blk ..))) (fun s0 H0 C0 l0 p0 => (r_ts1 (r_tcmp (or_notin o.prog o.w o.K o.u) r_var r_var))) (fun s0 H0 C0 l0 p0 => r_var)) r_int))

/-! _law_same -/
abbrev N23 : List Str := ["_law_actual", "_law_due_here", "_law_k"]
abbrev P23 : List Str := ["_law_actual", "_law_due_here"]
abbrev X23 (B : By) (mg : Str → Option Value) (base : Heap) (f : Addr) (cdv : Value) (A : Around) (outer : List Env) (s : Shared) (H : Hp) (E : XK) : Cx := cxOf (L2.CX B.prog B.w) B.prog B.w B.K mg base N23 "_law_same" (defScope (top 23)) f cdv A outer s H E
noncomputable def m_23 (self : List D → M D) : StM := mSeq (sIf (tVal (x1 (bIsi "tuple") (xVar 1))) (mSeq (sIf (tOr (tNot (tVal (x1 (bIsi "tuple") (xVar 0)))) (t2 opNe (xN (opN1 bLen) (aCons (xVar 0) aNil)) (xN (opN1 bLen) (aCons (xVar 1) aNil)))) (sRet (xBl false)) mNext) (sRet (x2 opEq (xN (opN1 bLen) (aCons (mLc [2] (iRange (aCons (xN (opN1 bLen) (aCons (xVar 1) aNil)) aNil)) (gName 2) (tNot (tVal (xCall 2 self (aCons (x2 opIx (xVar 0) (xVar 2)) (aCons (x2 opIx (xVar 1) (xVar 2)) aNil))))) (xVar 2)) aNil)) (xInt 0)))) mNext) (mSeq (sIf (t2 opIs (xVar 1) xNon) (sRet (x2 opIs (xVar 0) xNon)) mNext) (mSeq (sIf (tOr (t2 opNe (x1 (bIsi "bool") (xVar 0)) (x1 (bIsi "bool") (xVar 1))) (t2 opNe (x1 (bIsi "int") (xVar 0)) (x1 (bIsi "int") (xVar 1)))) (sRet (xBl false)) mNext) (sRet (x2 opEq (xVar 0) (xVar 1)))))
noncomputable def R_23 : Nat → List D → M D
  | 0 => fun _ => M.err
  | n + 1 => callB 3 (m_23 (R_23 n))
noncomputable def M_23 : List D → M D := R_23 4
theorem w_23 {self : List D → M D} (G : Mg mg) (c_23 : Cal B mg base k "_law_same" P23 self) (o : Oc (X23 B mg base f cdv A outer s H E) B (WE0 E) k) : SSs (X23 B mg base f cdv A outer s H E) B (WE0 E) (defBody (top 23)) (m_23 self) := by
  have po : PassesOwn (model (X23 B mg base f cdv A outer s H E).prog (X23 B mg base f cdv A outer s H E).w) (X23 B mg base f cdv A outer s H E).A (X23 B mg base f cdv A outer s H E).env (X23 B mg base f cdv A outer s H E).xe := passes_of rfl
  exact r_scons (r_if (r_tval (r_isi o G.isinstance G.tuple r_var)) (r_scons (r_if (r_st (r_or (r_tnot (r_tval (r_isi o G.isinstance G.tuple r_var))) (r_or1 (r_tcmp (or_ne o.K o.u) (r_callB (cr_len o.K) G.len (r_cons r_var r_nil)) (r_callB (cr_len o.K) G.len (r_cons r_var r_nil)))))) (r_one (r_ret r_bl)) r_snil) (r_one (r_ret (r_cmp (or_eq o.K o.u) (r_callB (cr_len o.K) G.len (r_cons (r_lc o [("_law_k", 2)] (r_irange G.range (r_cons (r_callB (cr_len o.K) G.len (r_cons r_var r_nil)) r_nil)) (fun s0 H0 C0 l0 p0 => (r_gname (o.blk ..))) (fun s0 H0 C0 l0 p0 => (r_ts1 (r_tnot (r_tval (r_call (o.blk ..) c_23 (r_cons (r_ix (o.blk ..) r_var r_var) (r_cons (r_ix (o.blk ..) r_var r_var) r_nil))))))) (fun s0 H0 C0 l0 p0 => r_var)) r_nil)) r_int)))) r_snil) (r_scons (r_if (r_tcmp or_is r_var r_non) (r_one (r_ret (r_cmp or_is r_var r_non))) r_snil) (r_scons (r_if (r_st (r_or (r_tcmp (or_ne o.K o.u) (r_isi o G.isinstance G.bool r_var) (r_isi o G.isinstance G.bool r_var)) (r_or1 (r_tcmp (or_ne o.K o.u) (r_isi o G.isinstance G.int r_var) (r_isi o G.isinstance G.int r_var))))) (r_one (r_ret r_bl)) r_snil) (r_one (r_ret (r_cmp (or_eq o.K o.u) r_var r_var)))))

end
end K41
end

section
set_option Elab.async false
set_option linter.all false
set_option maxRecDepth 100000
set_option maxHeartbeats 1000000
set_option pp.maxSteps 300
/-! What each def computes, and that its code does so (printed by gen.py). -/
namespace K41
open PySem PySem.Spec PyProof.Rows L2 Cr

section
variable {B : By} {mg : Str → Option Value} {base : Heap} {k : Nat} {f : Addr} {cdv : Value} {A : Around} {outer : List Env} {s : Shared} {H : Hp} {E : XK}

/-! _law_pool -/
abbrev N20 : List Str := ["_law_script"]
abbrev P20 : List Str := ["_law_script"]
abbrev X20 (B : By) (mg : Str → Option Value) (base : Heap) (f : Addr) (cdv : Value) (A : Around) (outer : List Env) (s : Shared) (H : Hp) (E : XK) : Cx := cxOf (L2.CX B.prog B.w) B.prog B.w B.K mg base N20 "_law_pool" (defScope (top 20)) f cdv A outer s H E
noncomputable def m_20 : StM := sRet (xLstR (aCons (xN (opN1 bList) (aCons (xVar 0) aNil)) (aCons (xInt 0) (aCons (xInt 0) (aCons (xInt 0) (aCons (xInt 0) (aCons xNon aNil)))))))
noncomputable def M_20 : List D → M D := runB 1 m_20
theorem w_20 (G : Mg mg) (o : Oc (X20 B mg base f cdv A outer s H E) B (WE0 E) k) : SSs (X20 B mg base f cdv A outer s H E) B (WE0 E) (defBody (top 20)) (m_20) := by
  have po : PassesOwn (model (X20 B mg base f cdv A outer s H E).prog (X20 B mg base f cdv A outer s H E).w) (X20 B mg base f cdv A outer s H E).A (X20 B mg base f cdv A outer s H E).env (X20 B mg base f cdv A outer s H E).xe := passes_of rfl
  exact r_one (r_ret (r_lstR (r_cons (r_callT (cr_list o.prog o.w o.calm o.K) G.list (r_cons r_var r_nil)) (r_cons r_int (r_cons r_int (r_cons r_int (r_cons r_int (r_cons r_non r_nil))))))))

/-! _law_poly -/
abbrev N24 : List Str := ["_law_p", "_law_terms", "_law_monomial", "_law_at", "_law_term"]
abbrev P24 : List Str := ["_law_p"]
abbrev X24 (B : By) (mg : Str → Option Value) (base : Heap) (f : Addr) (cdv : Value) (A : Around) (outer : List Env) (s : Shared) (H : Hp) (E : XK) : Cx := cxOf (L2.CX B.prog B.w) B.prog B.w B.K mg base N24 "_law_poly" (defScope (top 24)) f cdv A outer s H E
noncomputable def m_24 : StM := mSeq (sSet 1 (xLstR aNil)) (mSeq (mFor (iKeys (xVar 0)) (gName 2) (mSeq (sSet 3 (xN (opN1 bLen) (aCons (mLc [4] (iSeq (xVar 1)) (gName 4) (t2 opLt (x2 opIx (xVar 4) (xInt 0)) (xVar 2)) (xVar 4)) aNil))) (sExp (xM "list" mInsert (xVar 1) (aCons (xVar 3) (aCons (xTup (aCons (xVar 2) (aCons (x2 opIx (xVar 0) (xVar 2)) aNil))) aNil)))))) (sRet (xN (opN1 bTuple) (aCons (xVar 1) aNil))))
noncomputable def M_24 : List D → M D := callB 5 m_24
theorem w_24 (G : Mg mg) (o : Oc (X24 B mg base f cdv A outer s H E) B (WE0 E) k) : SSs (X24 B mg base f cdv A outer s H E) B (WE0 E) (defBody (top 24)) (m_24) := by
  have po : PassesOwn (model (X24 B mg base f cdv A outer s H E).prog (X24 B mg base f cdv A outer s H E).w) (X24 B mg base f cdv A outer s H E).A (X24 B mg base f cdv A outer s H E).env (X24 B mg base f cdv A outer s H E).xe := passes_of rfl
  exact r_scons (r_set o (r_lstR r_nil)) (r_scons (r_for o po (r_ikeys r_var) (r_gname o) q_name (r_scons (r_set o (r_callB (cr_len o.K) G.len (r_cons (r_lc o [("_law_term", 4)] (r_iseq o r_var) (fun s0 H0 C0 l0 p0 => (r_gname (o.blk ..))) (fun s0 H0 C0 l0 p0 => (r_ts1 (r_tcmp (or_lt o.K o.u) (r_ix (o.blk ..) r_var r_int) r_var))) (fun s0 H0 C0 l0 p0 => r_var)) r_nil))) (r_one (r_exp (r_bm o F.plainAttrs_list F.slot_list_insert F.type_list_insert m_insert r_var (r_cons r_var (r_cons (r_tup (r_cons r_var (r_cons (r_ix o r_var r_var) r_nil))) r_nil))))))) (r_one (r_ret (r_callT (cr_tuple o.K) G.tuple (r_cons r_var r_nil)))))

/-! _law_polynomial -/
abbrev N25 : List Str := ["_law_pool_here", "_law_names", "_law_p", "_law_k", "_law_powers", "_law_j", "_law_monomial", "_law_token"]
abbrev P25 : List Str := ["_law_pool_here", "_law_names"]
abbrev X25 (B : By) (mg : Str → Option Value) (base : Heap) (f : Addr) (cdv : Value) (A : Around) (outer : List Env) (s : Shared) (H : Hp) (E : XK) : Cx := cxOf (L2.CX B.prog B.w) B.prog B.w B.K mg base N25 "_law_polynomial" (defScope (top 25)) f cdv A outer s H E
noncomputable def m_25 : StM := mSeq (sSet 2 xDn0) (mSeq (mFor (iRange (aCons (x2 opIx (xLst (aCons (xInt 0) (aCons (xInt 1) (aCons (xInt 2) (aCons (xInt 3) (aCons (xInt 4) (aCons (xInt 6) aNil))))))) (xCall 2 M_21 (aCons (xVar 0) (aCons (xInt 6) aNil)))) aNil)) (gName 3) (mSeq (sSet 4 xDk0) (mSeq (mFor (iRange (aCons (x2 opIx (xLst (aCons (xInt 1) (aCons (xInt 2) (aCons (xInt 2) (aCons (xInt 3) (aCons (xInt 0) (aCons (xInt 1) aNil))))))) (xCall 2 M_21 (aCons (xVar 0) (aCons (xInt 6) aNil)))) aNil)) (gName 5) (sPut (x2 opAdd (xInt 1) (x2 opMul (xCall 2 M_21 (aCons (xVar 0) (aCons (xInt 3) aNil))) (xN (opN1 bInt) (aCons (x2 opEq (xCall 2 M_21 (aCons (xVar 0) (aCons (xInt 3) aNil))) (xInt 0)) aNil)))) (xVar 4) (xCall 2 M_22 (aCons (xVar 0) (aCons (xVar 1) aNil))))) (sFrz 4 (mSeq (sSet 6 (xN (opN1 bTuple) (aCons (mLc [7] (iSeq (xN (opN1 bSorted) (aCons (mLc [7] (iKeys (xVar 4)) (gName 7) tNone (xN (opN1 bStr) (aCons (xVar 7) aNil))) aNil))) (gName 7) tNone (xTup (aCons (xVar 7) (aCons (x2 opIx (xVar 4) (xVar 7)) aNil)))) aNil))) (sPut (x2 opAdd (xInt 1) (xCall 2 M_21 (aCons (xVar 0) (aCons (xInt 3) aNil)))) (xVar 2) (xVar 6))))))) (sFrz 2 (sRet (xCall 1 M_24 (aCons (xVar 2) aNil)))))
noncomputable def M_25 : List D → M D := callB 8 m_25
theorem w_25 (G : Mg mg) (c_21 : Cal B mg base k "_law_draw" P21 M_21) (c_22 : Cal B mg base k "_law_picked" P22 M_22) (c_24 : Cal B mg base k "_law_poly" P24 M_24) (o : Oc (X25 B mg base f cdv A outer s H E) B (WE0 E) k) : SSs (X25 B mg base f cdv A outer s H E) B (WE0 E) (defBody (top 25)) (m_25) := by
  have po : PassesOwn (model (X25 B mg base f cdv A outer s H E).prog (X25 B mg base f cdv A outer s H E).w) (X25 B mg base f cdv A outer s H E).A (X25 B mg base f cdv A outer s H E).env (X25 B mg base f cdv A outer s H E).xe := passes_of rfl
  exact r_scons (r_set o (r_dn0 o)) (r_scons (r_for o po (r_irange G.range (r_cons (r_ix o (r_lst (r_cons r_int (r_cons r_int (r_cons r_int (r_cons r_int (r_cons r_int (r_cons r_int r_nil))))))) (r_call o c_21 (r_cons r_var (r_cons r_int r_nil)))) r_nil)) (r_gname o) q_name (r_scons (r_set o r_dk0) (r_scons (r_for o po (r_irange G.range (r_cons (r_ix o (r_lst (r_cons r_int (r_cons r_int (r_cons r_int (r_cons r_int (r_cons r_int (r_cons r_int r_nil))))))) (r_call o c_21 (r_cons r_var (r_cons r_int r_nil)))) r_nil)) (r_gname o) q_name (r_one (r_put o (r_bin (or_add o.K) r_int (r_bin (or_mul o.K) (r_call o c_21 (r_cons r_var (r_cons r_int r_nil))) (r_callT cr_int G.int (r_cons (r_cmp (or_eq o.K o.u) (r_call o c_21 (r_cons r_var (r_cons r_int r_nil))) r_int) r_nil)))) r_var (r_call o c_22 (r_cons r_var (r_cons r_var r_nil)))))) (r_frz 4 (r_scons (r_set o (r_callT (cr_tuple o.K) G.tuple (r_cons (r_lc o [("_law_token", 7)] (r_iseq o (r_callB (cr_sortedD o.K o.u) G.sorted (r_cons (r_lc o [("_law_token", 7)] (r_ikeys r_var) (fun s0 H0 C0 l0 p0 => (r_gname (o.blk ..))) (fun s0 H0 C0 l0 p0 => r_ts0) (fun s0 H0 C0 l0 p0 => (r_callT cr_str G.str (r_cons r_var r_nil)))) r_nil))) (fun s0 H0 C0 l0 p0 => (r_gname (o.blk ..))) (fun s0 H0 C0 l0 p0 => r_ts0) (fun s0 H0 C0 l0 p0 => (r_tup (r_cons r_var (r_cons (r_ix (o.blk ..) r_var r_var) r_nil))))) r_nil))) (r_one (r_put o (r_bin (or_add o.K) r_int (r_call o c_21 (r_cons r_var (r_cons r_int r_nil)))) r_var r_var))))))) (r_frz 2 (r_one (r_ret (r_call o c_24 (r_cons r_var r_nil))))))

end
end K41
end

section
set_option Elab.async false
set_option linter.all false
set_option maxRecDepth 100000
set_option maxHeartbeats 1000000
set_option pp.maxSteps 300
/-! What each def computes, and that its code does so (printed by gen.py). -/
namespace K41
open PySem PySem.Spec PyProof.Rows L2 Cr

section
variable {B : By} {mg : Str → Option Value} {base : Heap} {k : Nat} {f : Addr} {cdv : Value} {A : Around} {outer : List Env} {s : Shared} {H : Hp} {E : XK}

/-! _law_paper -/
abbrev N29 : List Str := ["_law_p", "_law_tokens_here", "_law_best", "_law_lines", "_law_row", "_law_line", "_law_token"]
abbrev P29 : List Str := ["_law_p", "_law_tokens_here"]
abbrev X29 (B : By) (mg : Str → Option Value) (base : Heap) (f : Addr) (cdv : Value) (A : Around) (outer : List Env) (s : Shared) (H : Hp) (E : XK) : Cx := cxOf (L2.CX B.prog B.w) B.prog B.w B.K mg base N29 "_law_paper" (defScope (top 29)) f cdv A outer s H E
noncomputable def m_29 : StM := mSeq (sSet 2 (xCall 2 M_28 (aCons (xVar 0) (aCons (xVar 1) aNil)))) (mSeq (sIf (t2 opIsNot (xVar 2) xNon) (sRet (x2 opAdd (xM "str" mJoin (xStr " ") (aCons (x2 opAdd (xLst (aCons (xStr "why") aNil)) (xVar 2)) aNil)) (xStr "\n"))) mNext) (mSeq (sSet 3 (xLstR (aCons (xStr "not") aNil))) (mSeq (mFor (iSeq (xCall 1 M_26 (aCons (xVar 0) aNil))) (gName 4) (sExp (xM "list" mAppend (xVar 3) (aCons (x2 opAdd (xStr "lacks ") (x2 opIx (mLc [6] (iSeq (xVar 4)) (gName 6) (t2 opNotIn (xVar 6) (xVar 1)) (xVar 6)) (xInt 0))) aNil)))) (sRet (xM "str" mJoin (xStr "") (aCons (mLc [5] (iSeq (xVar 3)) (gName 5) tNone (x2 opAdd (xVar 5) (xStr "\n"))) aNil))))))
noncomputable def M_29 : List D → M D := callB 7 m_29
theorem w_29 (G : Mg mg) (c_28 : Cal B mg base k "_law_least" P28 M_28) (c_26 : Cal B mg base k "_law_sets" P26 M_26) (o : Oc (X29 B mg base f cdv A outer s H E) B (WE0 E) k) : SSs (X29 B mg base f cdv A outer s H E) B (WE0 E) (defBody (top 29)) (m_29) := by
  have po : PassesOwn (model (X29 B mg base f cdv A outer s H E).prog (X29 B mg base f cdv A outer s H E).w) (X29 B mg base f cdv A outer s H E).A (X29 B mg base f cdv A outer s H E).env (X29 B mg base f cdv A outer s H E).xe := passes_of rfl
  exact r_scons (r_set o (r_call o c_28 (r_cons r_var (r_cons r_var r_nil)))) (r_scons (r_if (r_tcmp or_isnot r_var r_non) (r_one (r_ret (r_bin (or_add o.K) (r_bm o F.plainAttrs_str F.slot_str_join F.type_str_join (m_join o.K) r_str (r_cons (r_bin (or_add o.K) (r_lst (r_cons r_str r_nil)) r_var) r_nil)) r_str))) r_snil) (r_scons (r_set o (r_lstR (r_cons r_str r_nil))) (r_scons (r_for o po (r_iseq o (r_call o c_26 (r_cons r_var r_nil))) (r_gname o) q_name (r_one (r_exp (r_bm o F.plainAttrs_list F.slot_list_append F.type_list_append m_append r_var (r_cons (r_bin (or_add o.K) r_str (r_ix o (r_lc o [("_law_token", 6)] (r_iseq o r_var) (fun s0 H0 C0 l0 p0 => (r_gname (o.blk ..))) (fun s0 H0 C0 l0 p0 => (r_ts1 (r_tcmp (or_notin o.prog o.w o.K o.u) r_var r_var))) (fun s0 H0 C0 l0 p0 => r_var)) r_int)) r_nil))))) (r_one (r_ret (r_bm o F.plainAttrs_str F.slot_str_join F.type_str_join (m_join o.K) r_str (r_cons (r_lc o [("_law_line", 5)] (r_iseq o r_var) (fun s0 H0 C0 l0 p0 => (r_gname (o.blk ..))) (fun s0 H0 C0 l0 p0 => r_ts0) (fun s0 H0 C0 l0 p0 => (r_bin (or_add o.K) r_var r_str))) r_nil)))))))

/-! _law_due -/
abbrev N30 : List Str := ["_law_p", "_law_tokens_here", "_law_paper_here", "_law_lines", "_law_words", "_law_right", "_law_k"]
abbrev P30 : List Str := ["_law_p", "_law_tokens_here", "_law_paper_here"]
abbrev X30 (B : By) (mg : Str → Option Value) (base : Heap) (f : Addr) (cdv : Value) (A : Around) (outer : List Env) (s : Shared) (H : Hp) (E : XK) : Cx := cxOf (L2.CX B.prog B.w) B.prog B.w B.K mg base N30 "_law_due" (defScope (top 30)) f cdv A outer s H E
noncomputable def m_30 : StM := mSeq (sSet 3 (xM "str" mSplit (xVar 2) (aCons (xStr "\n") aNil))) (mSeq (sIf (t2 opNe (x2 opIx (xVar 3) (x1 opNeg (xInt 1))) (xStr "")) (sRet (xTup (aCons (xStr "paper") (aCons (xInt 0) (aCons (xBl true) aNil))))) mNext) (mSeq (sSet 4 (xM "str" mSplit (x2 opIx (xVar 3) (xInt 0)) (aCons (xStr " ") aNil))) (mSeq (sIf (tAnd (t2 opEq (x2 opIx (xVar 4) (xInt 0)) (xStr "why")) (t2 opEq (xN (opN1 bLen) (aCons (xVar 3) aNil)) (xInt 2))) (sIf (tAnd (t2 opIn (x1 (opSl (some 1) none none) (xVar 4)) (xCall 1 M_26 (aCons (xVar 0) aNil))) (tVal (xCall 2 M_27 (aCons (x1 (opSl (some 1) none none) (xVar 4)) (aCons (xVar 1) aNil))))) (sRet (xTup (aCons (xStr "told") (aCons (xBl true) aNil)))) mNext) mNext) (mSeq (sIf (tAnd (t2 opEq (x2 opIx (xVar 3) (xInt 0)) (xStr "not")) (t2 opEq (xN (opN1 bLen) (aCons (xVar 3) aNil)) (x2 opAdd (xN (opN1 bLen) (aCons (xVar 0) aNil)) (xInt 2)))) (mSeq (sSet 5 (xBl true)) (mSeq (mFor (iRange (aCons (xN (opN1 bLen) (aCons (xVar 0) aNil)) aNil)) (gName 6) (mSeq (sSet 4 (xM "str" mSplit (x2 opIx (xVar 3) (x2 opAdd (xVar 6) (xInt 1))) (aCons (xStr " ") aNil))) (sIf (tOr (t2 opNe (xN (opN1 bLen) (aCons (xVar 4) aNil)) (xInt 2)) (t2 opNe (x2 opIx (xVar 4) (xInt 0)) (xStr "lacks"))) (sSet 5 (xBl false)) (sIf (tOr (t2 opIn (x2 opIx (xVar 4) (xInt 1)) (xVar 1)) (t2 opNotIn (x2 opIx (xVar 4) (xInt 1)) (x2 opIx (xCall 1 M_26 (aCons (xVar 0) aNil)) (xVar 6)))) (sSet 5 (xBl false)) mNext)))) (sIf (tVal (xVar 5)) (sRet (xTup (aCons (xStr "told") (aCons (xBl false) aNil)))) mNext))) mNext) (sRet (xTup (aCons (xStr "paper") (aCons (xInt 0) (aCons (xBl true) aNil)))))))))
noncomputable def M_30 : List D → M D := callB 7 m_30
theorem w_30 (G : Mg mg) (c_26 : Cal B mg base k "_law_sets" P26 M_26) (c_27 : Cal B mg base k "_law_within" P27 M_27) (o : Oc (X30 B mg base f cdv A outer s H E) B (WE0 E) k) : SSs (X30 B mg base f cdv A outer s H E) B (WE0 E) (defBody (top 30)) (m_30) := by
  have po : PassesOwn (model (X30 B mg base f cdv A outer s H E).prog (X30 B mg base f cdv A outer s H E).w) (X30 B mg base f cdv A outer s H E).A (X30 B mg base f cdv A outer s H E).env (X30 B mg base f cdv A outer s H E).xe := passes_of rfl
  exact r_scons (r_set o (r_bm o F.plainAttrs_str F.slot_str_split F.type_str_split m_split r_var (r_cons r_str r_nil))) (r_scons (r_if (r_tcmp (or_ne o.K o.u) (r_ix o r_var (r_un ur_neg r_int)) r_str) (r_one (r_ret (r_tup (r_cons r_str (r_cons r_int (r_cons r_bl r_nil)))))) r_snil) (r_scons (r_set o (r_bm o F.plainAttrs_str F.slot_str_split F.type_str_split m_split (r_ix o r_var r_int) (r_cons r_str r_nil))) (r_scons (r_if (r_st (r_and (r_tcmp (or_eq o.K o.u) (r_ix o r_var r_int) r_str) (r_and1 (r_tcmp (or_eq o.K o.u) (r_callB (cr_len o.K) G.len (r_cons r_var r_nil)) r_int)))) (r_one (r_if (r_st (r_and (r_tcmp (or_in o.prog o.w o.K o.u) (r_sl o r_var pco_int pco_none pco_none) (r_call o c_26 (r_cons r_var r_nil))) (r_and1 (r_tval (r_call o c_27 (r_cons (r_sl o r_var pco_int pco_none pco_none) (r_cons r_var r_nil))))))) (r_one (r_ret (r_tup (r_cons r_str (r_cons r_bl r_nil))))) r_snil)) r_snil) (r_scons (r_if (r_st (r_and (r_tcmp (or_eq o.K o.u) (r_ix o r_var r_int) r_str) (r_and1 (r_tcmp (or_eq o.K o.u) (r_callB (cr_len o.K) G.len (r_cons r_var r_nil)) (r_bin (or_add o.K) (r_callB (cr_len o.K) G.len (r_cons r_var r_nil)) r_int))))) (r_scons (r_set o r_bl) (r_scons (r_for o po (r_irange G.range (r_cons (r_callB (cr_len o.K) G.len (r_cons r_var r_nil)) r_nil)) (r_gname o) q_name (r_scons (r_set o (r_bm o F.plainAttrs_str F.slot_str_split F.type_str_split m_split (r_ix o r_var (r_bin (or_add o.K) r_var r_int)) (r_cons r_str r_nil))) (r_one (r_if (r_st (r_or (r_tcmp (or_ne o.K o.u) (r_callB (cr_len o.K) G.len (r_cons r_var r_nil)) r_int) (r_or1 (r_tcmp (or_ne o.K o.u) (r_ix o r_var r_int) r_str)))) (r_one (r_set o r_bl)) (r_one (r_if (r_st (r_or (r_tcmp (or_in o.prog o.w o.K o.u) (r_ix o r_var r_int) r_var) (r_or1 (r_tcmp (or_notin o.prog o.w o.K o.u) (r_ix o r_var r_int) (r_ix o (r_call o c_26 (r_cons r_var r_nil)) r_var))))) (r_one (r_set o r_bl)) r_snil)))))) (r_one (r_if (r_tval r_var) (r_one (r_ret (r_tup (r_cons r_str (r_cons r_bl r_nil))))) r_snil)))) r_snil) (r_one (r_ret (r_tup (r_cons r_str (r_cons r_int (r_cons r_bl r_nil))))))))))

/-! _law_tokens -/
abbrev N32 : List Str := ["_law_pool_here", "_law_p", "_law_names", "_law_way", "_law_found", "_law_token"]
abbrev P32 : List Str := ["_law_pool_here", "_law_p", "_law_names"]
abbrev X32 (B : By) (mg : Str → Option Value) (base : Heap) (f : Addr) (cdv : Value) (A : Around) (outer : List Env) (s : Shared) (H : Hp) (E : XK) : Cx := cxOf (L2.CX B.prog B.w) B.prog B.w B.K mg base N32 "_law_tokens" (defScope (top 32)) f cdv A outer s H E
noncomputable def m_32 : StM := mSeq (sSet 3 (xCall 2 M_21 (aCons (xVar 0) (aCons (xInt 6) aNil)))) (mSeq (sSet 4 (mLc [5] (iSeq (xVar 2)) (gName 5) (t2 opEq (xCall 2 M_21 (aCons (xVar 0) (aCons (xInt 2) aNil))) (xInt 0)) (xVar 5))) (mSeq (sIf (t2 opEq (xVar 3) (xInt 0)) (sSet 4 (xN (opN1 bList) (aCons (xVar 2) aNil))) mNext) (mSeq (sIf (t2 opEq (xVar 3) (xInt 1)) (sSet 4 (xLst aNil)) mNext) (mSeq (sIf (tAnd (t2 opGt (xVar 3) (xInt 3)) (t2 opGt (xN (opN1 bLen) (aCons (xVar 1) aNil)) (xInt 0))) (mSeq (sSet 4 (x2 opAdd (xCall 2 M_22 (aCons (xVar 0) (aCons (xCall 1 M_26 (aCons (xVar 1) aNil)) aNil))) (x2 opMul (xLst (aCons (xStr "q77") aNil)) (xN (opN1 bInt) (aCons (x2 opEq (xCall 2 M_21 (aCons (xVar 0) (aCons (xInt 2) aNil))) (xInt 0)) aNil))))) (sIf (tAnd (t2 opEq (xVar 3) (xInt 5)) (t2 opGt (xN (opN1 bLen) (aCons (xVar 4) aNil)) (xInt 1))) (sSet 4 (x1 (opSl (some 1) none none) (xVar 4))) mNext)) mNext) (mSeq (sIf (t2 opEq (xCall 2 M_21 (aCons (xVar 0) (aCons (xInt 2) aNil))) (xInt 0)) (sSet 4 (x1 (opSl none none (some (-1))) (xVar 4))) mNext) (sRet (x2 opIx (xLst (aCons (xVar 4) (aCons (xN (opN1 bTuple) (aCons (xVar 4) aNil)) aNil))) (xCall 2 M_21 (aCons (xVar 0) (aCons (xInt 2) aNil))))))))))
noncomputable def M_32 : List D → M D := callB 6 m_32
theorem w_32 (G : Mg mg) (c_21 : Cal B mg base k "_law_draw" P21 M_21) (c_22 : Cal B mg base k "_law_picked" P22 M_22) (c_26 : Cal B mg base k "_law_sets" P26 M_26) (o : Oc (X32 B mg base f cdv A outer s H E) B (WE0 E) k) : SSs (X32 B mg base f cdv A outer s H E) B (WE0 E) (defBody (top 32)) (m_32) := by
  have po : PassesOwn (model (X32 B mg base f cdv A outer s H E).prog (X32 B mg base f cdv A outer s H E).w) (X32 B mg base f cdv A outer s H E).A (X32 B mg base f cdv A outer s H E).env (X32 B mg base f cdv A outer s H E).xe := passes_of rfl
  exact r_scons (r_set o (r_call o c_21 (r_cons r_var (r_cons r_int r_nil)))) (r_scons (r_setLc o [("_law_token", 5)] (r_iseq o r_var) (fun s0 H0 C0 l0 p0 => (r_gname (o.blk ..))) (fun s0 H0 C0 l0 p0 => (r_ts1 (r_tcmp (or_eq o.K o.u) (r_call (o.blk ..) c_21 (r_cons r_var (r_cons r_int r_nil))) r_int))) (fun s0 H0 C0 l0 p0 => r_var)) (r_scons (r_if (r_tcmp (or_eq o.K o.u) r_var r_int) (r_one (r_set o (r_callT (cr_list o.prog o.w o.calm o.K) G.list (r_cons r_var r_nil)))) r_snil) (r_scons (r_if (r_tcmp (or_eq o.K o.u) r_var r_int) (r_one (r_set o (r_lst r_nil))) r_snil) (r_scons (r_if (r_st (r_and (r_tcmp or_gt r_var r_int) (r_and1 (r_tcmp or_gt (r_callB (cr_len o.K) G.len (r_cons r_var r_nil)) r_int)))) (r_scons (r_set o (r_bin (or_add o.K) (r_call o c_22 (r_cons r_var (r_cons (r_call o c_26 (r_cons r_var r_nil)) r_nil))) (r_bin (or_mul o.K) (r_lst (r_cons r_str r_nil)) (r_callT cr_int G.int (r_cons (r_cmp (or_eq o.K o.u) (r_call o c_21 (r_cons r_var (r_cons r_int r_nil))) r_int) r_nil))))) (r_one (r_if (r_st (r_and (r_tcmp (or_eq o.K o.u) r_var r_int) (r_and1 (r_tcmp or_gt (r_callB (cr_len o.K) G.len (r_cons r_var r_nil)) r_int)))) (r_one (r_set o (r_sl o r_var pco_int pco_none pco_none))) r_snil))) r_snil) (r_scons (r_if (r_tcmp (or_eq o.K o.u) (r_call o c_21 (r_cons r_var (r_cons r_int r_nil))) r_int) (r_one (r_set o (r_sl o r_var pco_none pco_none pco_neg))) r_snil) (r_one (r_ret (r_ix o (r_lst (r_cons r_var (r_cons (r_callT (cr_tuple o.K) G.tuple (r_cons r_var r_nil)) r_nil))) (r_call o c_21 (r_cons r_var (r_cons r_int r_nil)))))))))))

/-! _law_other_right -/
abbrev N33 : List Str := ["_law_pool_here", "_law_p", "_law_tokens_here", "_law_good", "_law_lines", "_law_row", "_law_line", "_law_token"]
abbrev P33 : List Str := ["_law_pool_here", "_law_p", "_law_tokens_here"]
abbrev X33 (B : By) (mg : Str → Option Value) (base : Heap) (f : Addr) (cdv : Value) (A : Around) (outer : List Env) (s : Shared) (H : Hp) (E : XK) : Cx := cxOf (L2.CX B.prog B.w) B.prog B.w B.K mg base N33 "_law_other_right" (defScope (top 33)) f cdv A outer s H E
noncomputable def m_33 : StM := mSeq (sSet 3 (mLc [5] (iSeq (xCall 1 M_26 (aCons (xVar 1) aNil))) (gName 5) (tVal (xCall 2 M_27 (aCons (xVar 5) (aCons (xVar 2) aNil)))) (xVar 5))) (mSeq (sIf (t2 opGt (xN (opN1 bLen) (aCons (xVar 3) aNil)) (xInt 0)) (sRet (x2 opAdd (xM "str" mJoin (xStr " ") (aCons (x2 opAdd (xLst (aCons (xStr "why") aNil)) (xCall 2 M_22 (aCons (xVar 0) (aCons (xVar 3) aNil)))) aNil)) (xStr "\n"))) mNext) (mSeq (sSet 4 (xLstR (aCons (xStr "not") aNil))) (mSeq (mFor (iSeq (xCall 1 M_26 (aCons (xVar 1) aNil))) (gName 5) (sExp (xM "list" mAppend (xVar 4) (aCons (x2 opAdd (xStr "lacks ") (xCall 2 M_22 (aCons (xVar 0) (aCons (mLc [7] (iSeq (xVar 5)) (gName 7) (t2 opNotIn (xVar 7) (xVar 2)) (xVar 7)) aNil)))) aNil)))) (sRet (xM "str" mJoin (xStr "") (aCons (mLc [6] (iSeq (xVar 4)) (gName 6) tNone (x2 opAdd (xVar 6) (xStr "\n"))) aNil))))))
noncomputable def M_33 : List D → M D := callB 8 m_33
theorem w_33 (G : Mg mg) (c_26 : Cal B mg base k "_law_sets" P26 M_26) (c_27 : Cal B mg base k "_law_within" P27 M_27) (c_22 : Cal B mg base k "_law_picked" P22 M_22) (o : Oc (X33 B mg base f cdv A outer s H E) B (WE0 E) k) : SSs (X33 B mg base f cdv A outer s H E) B (WE0 E) (defBody (top 33)) (m_33) := by
  have po : PassesOwn (model (X33 B mg base f cdv A outer s H E).prog (X33 B mg base f cdv A outer s H E).w) (X33 B mg base f cdv A outer s H E).A (X33 B mg base f cdv A outer s H E).env (X33 B mg base f cdv A outer s H E).xe := passes_of rfl
  exact r_scons (r_setLc o [("_law_row", 5)] (r_iseq o (r_call o c_26 (r_cons r_var r_nil))) (fun s0 H0 C0 l0 p0 => (r_gname (o.blk ..))) (fun s0 H0 C0 l0 p0 => (r_ts1 (r_tval (r_call (o.blk ..) c_27 (r_cons r_var (r_cons r_var r_nil)))))) (fun s0 H0 C0 l0 p0 => r_var)) (r_scons (r_if (r_tcmp or_gt (r_callB (cr_len o.K) G.len (r_cons r_var r_nil)) r_int) (r_one (r_ret (r_bin (or_add o.K) (r_bm o F.plainAttrs_str F.slot_str_join F.type_str_join (m_join o.K) r_str (r_cons (r_bin (or_add o.K) (r_lst (r_cons r_str r_nil)) (r_call o c_22 (r_cons r_var (r_cons r_var r_nil)))) r_nil)) r_str))) r_snil) (r_scons (r_set o (r_lstR (r_cons r_str r_nil))) (r_scons (r_for o po (r_iseq o (r_call o c_26 (r_cons r_var r_nil))) (r_gname o) q_name (r_one (r_exp (r_bm o F.plainAttrs_list F.slot_list_append F.type_list_append m_append r_var (r_cons (r_bin (or_add o.K) r_str (r_call o c_22 (r_cons r_var (r_cons (r_lc o [("_law_token", 7)] (r_iseq o r_var) (fun s0 H0 C0 l0 p0 => (r_gname (o.blk ..))) (fun s0 H0 C0 l0 p0 => (r_ts1 (r_tcmp (or_notin o.prog o.w o.K o.u) r_var r_var))) (fun s0 H0 C0 l0 p0 => r_var)) r_nil)))) r_nil))))) (r_one (r_ret (r_bm o F.plainAttrs_str F.slot_str_join F.type_str_join (m_join o.K) r_str (r_cons (r_lc o [("_law_line", 6)] (r_iseq o r_var) (fun s0 H0 C0 l0 p0 => (r_gname (o.blk ..))) (fun s0 H0 C0 l0 p0 => r_ts0) (fun s0 H0 C0 l0 p0 => (r_bin (or_add o.K) r_var r_str))) r_nil)))))))

end
end K41
end

section
set_option Elab.async false
set_option linter.all false
set_option maxRecDepth 100000
set_option maxHeartbeats 1000000
set_option pp.maxSteps 300
/-! What each def computes, and that its code does so (printed by gen.py). -/
namespace K41
open PySem PySem.Spec PyProof.Rows L2 Cr

section
variable {B : By} {mg : Str → Option Value} {base : Heap} {k : Nat} {f : Addr} {cdv : Value} {A : Around} {outer : List Env} {s : Shared} {H : Hp} {E : XK}

/-! _law_spoilt -/
abbrev N34 : List Str := ["_law_pool_here", "_law_p", "_law_tokens_here", "_law_paper_here", "_law_names", "_law_way", "_law_lines", "_law_at", "_law_line"]
abbrev P34 : List Str := ["_law_pool_here", "_law_p", "_law_tokens_here", "_law_paper_here", "_law_names"]
abbrev X34 (B : By) (mg : Str → Option Value) (base : Heap) (f : Addr) (cdv : Value) (A : Around) (outer : List Env) (s : Shared) (H : Hp) (E : XK) : Cx := cxOf (L2.CX B.prog B.w) B.prog B.w B.K mg base N34 "_law_spoilt" (defScope (top 34)) f cdv A outer s H E
noncomputable def m_34 : StM := mSeq (sSet 5 (xCall 2 M_21 (aCons (xVar 0) (aCons (xInt 10) aNil)))) (mSeq (sSet 6 (xM "str" mSplitR (x1 (opSl none (some (-1)) none) (xVar 3)) (aCons (xStr "\n") aNil))) (mSeq (sSet 7 (xCall 2 M_21 (aCons (xVar 0) (aCons (xN (opN1 bLen) (aCons (xVar 6) aNil)) aNil)))) (mSeq (sIf (t2 opEq (xVar 5) (xInt 0)) (sRet (x1 (opSl none (some (-1)) none) (xVar 3))) mNext) (mSeq (sIf (t2 opEq (xVar 5) (xInt 1)) (sRet (x2 opAdd (xVar 3) (xCall 2 M_22 (aCons (xVar 0) (aCons (xLst (aCons (xStr "\n") (aCons (xStr "why\n") (aCons (x2 opAdd (x2 opAdd (xStr "lacks ") (x2 opIx (xVar 4) (xInt 0))) (xStr "\n")) (aCons (xStr " ") aNil))))) aNil))))) mNext) (mSeq (sIf (t2 opEq (xVar 5) (xInt 2)) (sPut (x2 opAdd (x2 opIx (xVar 6) (xVar 7)) (xCall 2 M_22 (aCons (xVar 0) (aCons (xLst (aCons (xStr " ") (aCons (x2 opAdd (xStr " ") (x2 opIx (xVar 4) (xInt 0))) (aCons (xStr " q77") (aCons (xStr "x") aNil))))) aNil)))) (xVar 6) (xVar 7)) mNext) (mSeq (sIf (t2 opEq (xVar 5) (xInt 3)) (sExp (xM "list" mPopAt (xVar 6) (aCons (xVar 7) aNil))) mNext) (mSeq (sIf (t2 opEq (xVar 5) (xInt 4)) (sExp (xM "list" mInsert (xVar 6) (aCons (xVar 7) (aCons (x2 opIx (xVar 6) (xVar 7)) aNil)))) mNext) (mSeq (sIf (t2 opEq (xVar 5) (xInt 5)) (sSet 6 (mLc [8] (iSeq (xVar 6)) (gName 8) tNone (xM "str" mJoin (xStr " ") (aCons (x2 opAdd (x1 (opSl none (some 1) none) (xM "str" mSplit (xVar 8) (aCons (xStr " ") aNil))) (x1 (opSl none (some 0) (some (-1))) (xM "str" mSplit (xVar 8) (aCons (xStr " ") aNil)))) aNil)))) mNext) (mSeq (sIf (t2 opEq (xVar 5) (xInt 6)) (sPut (xCall 2 M_22 (aCons (xVar 0) (aCons (xLst (aCons (xStr "why") (aCons (xStr "not") (aCons (x2 opAdd (xStr "lacks ") (xCall 2 M_22 (aCons (xVar 0) (aCons (xVar 4) aNil)))) (aCons (xStr "lacks") (aCons (xStr "") (aCons (xStr "Why") aNil))))))) aNil))) (xVar 6) (xVar 7)) mNext) (mSeq (sIf (t2 opEq (xVar 5) (xInt 7)) (sSet 6 (xLstR (aCons (xCall 2 M_22 (aCons (xVar 0) (aCons (xLst (aCons (x2 opAdd (xStr "why ") (xM "str" mJoin (xStr " ") (aCons (xVar 4) aNil))) (aCons (xStr "not") (aCons (x2 opAdd (xStr "why ") (x2 opIx (xVar 4) (x1 opNeg (xInt 1)))) (aCons (xStr "why") aNil))))) aNil))) aNil))) mNext) (mSeq (sIf (t2 opEq (xVar 5) (xInt 8)) (sSet 6 (x2 opAdd (x1 (opSl none (some 1) none) (xVar 6)) (x1 (opSl none (some 0) (some (-1))) (xVar 6)))) mNext) (mSeq (sIfT 9 (xVar 5) (sPut (x1 (opRep1 " " "  ") (x2 opIx (xVar 6) (xVar 7))) (xVar 6) (xVar 7))) (sRet (xM "str" mJoin (xStr "") (aCons (mLc [8] (iSeq (xVar 6)) (gName 8) tNone (x2 opAdd (xVar 8) (xStr "\n"))) aNil)))))))))))))))
noncomputable def M_34 : List D → M D := callB 9 m_34
theorem w_34 (G : Mg mg) (c_21 : Cal B mg base k "_law_draw" P21 M_21) (c_22 : Cal B mg base k "_law_picked" P22 M_22) (o : Oc (X34 B mg base f cdv A outer s H E) B (WE0 E) k) : SSs (X34 B mg base f cdv A outer s H E) B (WE0 E) (defBody (top 34)) (m_34) := by
  have po : PassesOwn (model (X34 B mg base f cdv A outer s H E).prog (X34 B mg base f cdv A outer s H E).w) (X34 B mg base f cdv A outer s H E).A (X34 B mg base f cdv A outer s H E).env (X34 B mg base f cdv A outer s H E).xe := passes_of rfl
  exact r_scons (r_set o (r_call o c_21 (r_cons r_var (r_cons r_int r_nil)))) (r_scons (r_set o (r_bm o F.plainAttrs_str F.slot_str_split F.type_str_split m_splitR (r_sl o r_var pco_none pco_neg pco_none) (r_cons r_str r_nil))) (r_scons (r_set o (r_call o c_21 (r_cons r_var (r_cons (r_callB (cr_len o.K) G.len (r_cons r_var r_nil)) r_nil)))) (r_scons (r_if (r_tcmp (or_eq o.K o.u) r_var r_int) (r_one (r_ret (r_sl o r_var pco_none pco_neg pco_none))) r_snil) (r_scons (r_if (r_tcmp (or_eq o.K o.u) r_var r_int) (r_one (r_ret (r_bin (or_add o.K) r_var (r_call o c_22 (r_cons r_var (r_cons (r_lst (r_cons r_str (r_cons r_str (r_cons (r_bin (or_add o.K) (r_bin (or_add o.K) r_str (r_ix o r_var r_int)) r_str) (r_cons r_str r_nil))))) r_nil)))))) r_snil) (r_scons (r_if (r_tcmp (or_eq o.K o.u) r_var r_int) (r_one (r_put o (r_bin (or_add o.K) (r_ix o r_var r_var) (r_call o c_22 (r_cons r_var (r_cons (r_lst (r_cons r_str (r_cons (r_bin (or_add o.K) r_str (r_ix o r_var r_int)) (r_cons r_str (r_cons r_str r_nil))))) r_nil)))) r_var r_var)) r_snil) (r_scons (r_if (r_tcmp (or_eq o.K o.u) r_var r_int) (r_one (r_exp (r_bm o F.plainAttrs_list F.slot_list_pop F.type_list_pop m_popAt r_var (r_cons r_var r_nil)))) r_snil) (r_scons (r_if (r_tcmp (or_eq o.K o.u) r_var r_int) (r_one (r_exp (r_bm o F.plainAttrs_list F.slot_list_insert F.type_list_insert m_insert r_var (r_cons r_var (r_cons (r_ix o r_var r_var) r_nil))))) r_snil) (r_scons (r_if (r_tcmp (or_eq o.K o.u) r_var r_int) (r_one (r_setLc o [("_law_line", 8)] (r_iseq o r_var) (fun s0 H0 C0 l0 p0 => (r_gname (o.blk ..))) (fun s0 H0 C0 l0 p0 => r_ts0) (fun s0 H0 C0 l0 p0 => (r_bm (o.blk ..) F.plainAttrs_str F.slot_str_join F.type_str_join (m_join o.K) r_str (r_cons (r_bin (or_add o.K) (r_sl (o.blk ..) (r_bm (o.blk ..) F.plainAttrs_str F.slot_str_split F.type_str_split m_split r_var (r_cons r_str r_nil)) pco_none pco_int pco_none) (r_sl (o.blk ..) (r_bm (o.blk ..) F.plainAttrs_str F.slot_str_split F.type_str_split m_split r_var (r_cons r_str r_nil)) pco_none pco_int pco_neg)) r_nil))))) r_snil) (r_scons (r_if (r_tcmp (or_eq o.K o.u) r_var r_int) (r_one (r_put o (r_call o c_22 (r_cons r_var (r_cons (r_lst (r_cons r_str (r_cons r_str (r_cons (r_bin (or_add o.K) r_str (r_call o c_22 (r_cons r_var (r_cons r_var r_nil)))) (r_cons r_str (r_cons r_str (r_cons r_str r_nil))))))) r_nil))) r_var r_var)) r_snil) (r_scons (r_if (r_tcmp (or_eq o.K o.u) r_var r_int) (r_one (r_set o (r_lstR (r_cons (r_call o c_22 (r_cons r_var (r_cons (r_lst (r_cons (r_bin (or_add o.K) r_str (r_bm o F.plainAttrs_str F.slot_str_join F.type_str_join (m_join o.K) r_str (r_cons r_var r_nil))) (r_cons r_str (r_cons (r_bin (or_add o.K) r_str (r_ix o r_var (r_un ur_neg r_int))) (r_cons r_str r_nil))))) r_nil))) r_nil)))) r_snil) (r_scons (r_if (r_tcmp (or_eq o.K o.u) r_var r_int) (r_one (r_set o (r_bin (or_add o.K) (r_sl o r_var pco_none pco_int pco_none) (r_sl o r_var pco_none pco_int pco_neg)))) r_snil) (r_scons (r_ifT o r_var (r_putT o (r_rep (r_ix o r_var r_var)) r_var r_var)) (r_one (r_ret (r_bm o F.plainAttrs_str F.slot_str_join F.type_str_join (m_join o.K) r_str (r_cons (r_lc o [("_law_line", 8)] (r_iseq o r_var) (fun s0 H0 C0 l0 p0 => (r_gname (o.blk ..))) (fun s0 H0 C0 l0 p0 => r_ts0) (fun s0 H0 C0 l0 p0 => (r_bin (or_add o.K) r_var r_str))) r_nil))))))))))))))))

end
end K41
end

section
set_option Elab.async false
set_option linter.all false
set_option maxRecDepth 100000
set_option maxHeartbeats 1000000
set_option pp.maxSteps 300
/-! What each def computes, and that its code does so (printed by gen.py). -/
namespace K41
open PySem PySem.Spec PyProof.Rows L2 Cr

section
variable {B : By} {mg : Str → Option Value} {base : Heap} {k : Nat} {f : Addr} {cdv : Value} {A : Around} {outer : List Env} {s : Shared} {H : Hp} {E : XK}

/-! least_sets -/
def tQ : Str := (envOfC "least_sets" (defScope (top 11)) 0 0 .none).qual ++ "<lambda>"
abbrev N11 : List Str := ["rows", "found", "row", "other"]
abbrev P11 : List Str := ["rows"]
abbrev X11 (B : By) (mg : Str → Option Value) (base : Heap) (f : Addr) (cdv : Value) (A : Around) (outer : List Env) (s : Shared) (H : Hp) (E : XK) : Cx := cxOf (L2.CX B.prog B.w) B.prog B.w B.K mg base N11 "least_sets" (defScope (top 11)) f cdv A outer s H E
noncomputable def m_11 (tP : Addr) : StM := mSeq (sSet 1 (xLstR aNil)) (mSeq (mFor (iSeq (x1 (bSortK 0 tP tQ) (xN (opN1 bList) (aCons (mDn [2] (iSeq (xVar 0)) (gName 2) tNone (xVar 2) (xBl true)) aNil)))) (gName 2) (sIf (tNot (tVal (xN (opN1 bAny) (aCons (mLc [3] (iSeq (xVar 1)) (gName 3) tNone (xCall 2 M_10 (aCons (xVar 3) (aCons (xVar 2) aNil)))) aNil)))) (sExp (xM "list" mAppend (xVar 1) (aCons (xVar 2) aNil))) mNext)) (sRet (xN (opN1 bTuple) (aCons (xVar 1) aNil))))
noncomputable def M_11 (tP : Addr) : List D → M D := callB 4 (m_11 tP)
theorem w_11 {tP c : Addr} (hcd : cdv = .ref c) (TB : LamX.TabB base mg c tP) (hk : 1 ≤ k) (G : Mg mg) (c_10 : Cal B mg base k "is_part" P10 M_10) (o : Oc (X11 B mg base f cdv A outer s H E) B (WE0 E) k) : SSs (X11 B mg base f cdv A outer s H E) B (WE0 E) (defBody (top 11)) (m_11 tP) := by
  have po : PassesOwn (model (X11 B mg base f cdv A outer s H E).prog (X11 B mg base f cdv A outer s H E).w) (X11 B mg base f cdv A outer s H E).A (X11 B mg base f cdv A outer s H E).env (X11 B mg base f cdv A outer s H E).xe := passes_of rfl
  exact r_scons (r_set o (r_lstR r_nil)) (r_scons (r_for o po (r_iseq o (r_sortK o hk G.sorted G.len TB hcd (r_callT (cr_list o.prog o.w o.calm o.K) G.list (r_cons (r_dn o [("row", 2)] (r_iseq o r_var) (fun s0 H0 C0 l0 p0 => (r_gname (o.blk ..))) (fun s0 H0 C0 l0 p0 => r_ts0) (fun s0 H0 C0 l0 p0 => r_var) (fun s0 H0 C0 l0 p0 => r_bl)) r_nil)))) (r_gname o) q_name (r_one (r_if (r_tnot (r_tval (r_callB (cr_anyD o.calm o.K) G.any (r_cons (r_lc o [("other", 3)] (r_iseq o r_var) (fun s0 H0 C0 l0 p0 => (r_gname (o.blk ..))) (fun s0 H0 C0 l0 p0 => r_ts0) (fun s0 H0 C0 l0 p0 => (r_call (o.blk ..) c_10 (r_cons r_var (r_cons r_var r_nil))))) r_nil)))) (r_one (r_exp (r_bm o F.plainAttrs_list F.slot_list_append F.type_list_append m_append r_var (r_cons r_var r_nil)))) r_snil))) (r_one (r_ret (r_callT (cr_tuple o.K) G.tuple (r_cons r_var r_nil)))))

/-! witnesses -/
abbrev N14 : List Str := ["p"]
abbrev P14 : List Str := ["p"]
abbrev X14 (B : By) (mg : Str → Option Value) (base : Heap) (f : Addr) (cdv : Value) (A : Around) (outer : List Env) (s : Shared) (H : Hp) (E : XK) : Cx := cxOf (L2.CX B.prog B.w) B.prog B.w B.K mg base N14 "witnesses" (defScope (top 14)) f cdv A outer s H E
noncomputable def m_14 (tP : Addr) : StM := sRet (xCall 1 (M_11 tP) (aCons (xCall 1 M_13 (aCons (xVar 0) aNil)) aNil))
noncomputable def M_14 (tP : Addr) : List D → M D := callB 1 (m_14 tP)
theorem w_14 {tP : Addr} (G : Mg mg) (c_11 : Cal B mg base k "least_sets" P11 (M_11 tP)) (c_13 : Cal B mg base k "token_sets" P13 M_13) (o : Oc (X14 B mg base f cdv A outer s H E) B (WE0 E) k) : SSs (X14 B mg base f cdv A outer s H E) B (WE0 E) (defBody (top 14)) (m_14 tP) := by
  have po : PassesOwn (model (X14 B mg base f cdv A outer s H E).prog (X14 B mg base f cdv A outer s H E).w) (X14 B mg base f cdv A outer s H E).A (X14 B mg base f cdv A outer s H E).env (X14 B mg base f cdv A outer s H E).xe := passes_of rfl
  exact r_one (r_ret (r_call o c_11 (r_cons (r_call o c_13 (r_cons r_var r_nil)) r_nil)))

/-! why_paper -/
abbrev ks_17 : List Str := ["tokens", "p"]
def g_17 (l : List D) : List D := match l with
  | [a, b] => [b, a]
  | _ => []
abbrev N17 : List Str := ["p", "tokens", "witness", "token", "monomial", "_"]
abbrev P17 : List Str := ["p", "tokens"]
abbrev X17 (B : By) (mg : Str → Option Value) (base : Heap) (f : Addr) (cdv : Value) (A : Around) (outer : List Env) (s : Shared) (H : Hp) (E : XK) : Cx := cxOf (L2.CX B.prog B.w) B.prog B.w B.K mg base N17 "why_paper" (defScope (top 17)) f cdv A outer s H E
noncomputable def m_17 (tP : Addr) : StM := mSeq (mFor (iSeq (xCall 1 (M_14 tP) (aCons (xVar 0) aNil))) (gName 2) (sIf (tVal (xN (opN1 bAll) (aCons (mLc [3] (iSeq (xVar 2)) (gName 3) tNone (x2 opIn (xVar 3) (xVar 1))) aNil))) (sRet (x2 opAdd (x2 opAdd (xStr "why") (xM "str" mJoin (xStr "") (aCons (mLc [3] (iSeq (xVar 2)) (gName 3) tNone (x2 opAdd (xStr " ") (xVar 3))) aNil))) (xStr "\n"))) mNext)) (sRet (x2 opAdd (xStr "not\n") (xM "str" mJoin (xStr "") (aCons (mLc [4, 5] (iSeq (xVar 0)) (gPair 4 5) tNone (x2 opAdd (x2 opAdd (xStr "lacks ") (xCall 2 M_16 (aCons (xVar 4) (aCons (xVar 1) aNil)))) (xStr "\n"))) aNil))))
noncomputable def M_17 (tP : Addr) : List D → M D := callB 6 (m_17 tP)
theorem w_17 {tP : Addr} (G : Mg mg) (c_14 : Cal B mg base k "witnesses" P14 (M_14 tP)) (c_16 : Cal B mg base k "lacking" P16 M_16) (o : Oc (X17 B mg base f cdv A outer s H E) B (WE0 E) k) : SSs (X17 B mg base f cdv A outer s H E) B (WE0 E) (defBody (top 17)) (m_17 tP) := by
  have po : PassesOwn (model (X17 B mg base f cdv A outer s H E).prog (X17 B mg base f cdv A outer s H E).w) (X17 B mg base f cdv A outer s H E).A (X17 B mg base f cdv A outer s H E).env (X17 B mg base f cdv A outer s H E).xe := passes_of rfl
  exact r_scons (r_for o po (r_iseq o (r_call o c_14 (r_cons r_var r_nil))) (r_gname o) q_name (r_one (r_if (r_tval (r_callB (cr_allD o.calm o.K) G.all (r_cons (r_lc o [("token", 3)] (r_iseq o r_var) (fun s0 H0 C0 l0 p0 => (r_gname (o.blk ..))) (fun s0 H0 C0 l0 p0 => r_ts0) (fun s0 H0 C0 l0 p0 => (r_cmp (or_in o.prog o.w o.K o.u) r_var r_var))) r_nil))) (r_one (r_ret (r_bin (or_add o.K) (r_bin (or_add o.K) r_str (r_bm o F.plainAttrs_str F.slot_str_join F.type_str_join (m_join o.K) r_str (r_cons (r_lc o [("token", 3)] (r_iseq o r_var) (fun s0 H0 C0 l0 p0 => (r_gname (o.blk ..))) (fun s0 H0 C0 l0 p0 => r_ts0) (fun s0 H0 C0 l0 p0 => (r_bin (or_add o.K) r_str r_var))) r_nil))) r_str))) r_snil))) (r_one (r_ret (r_bin (or_add o.K) r_str (r_bm o F.plainAttrs_str F.slot_str_join F.type_str_join (m_join o.K) r_str (r_cons (r_lc o [("monomial", 4), ("_", 5)] (r_iseq o r_var) (fun s0 H0 C0 l0 p0 => (r_gpair (o.blk ..))) (fun s0 H0 C0 l0 p0 => r_ts0) (fun s0 H0 C0 l0 p0 => (r_bin (or_add o.K) (r_bin (or_add o.K) r_str (r_call (o.blk ..) c_16 (r_cons r_var (r_cons r_var r_nil)))) r_str))) r_nil)))))

end
end K41
end

section
set_option Elab.async false
set_option linter.all false
set_option maxRecDepth 100000
set_option maxHeartbeats 1000000
set_option pp.maxSteps 300
/-! What each def computes, and that its code does so (printed by gen.py). -/
namespace K41
open PySem PySem.Spec PyProof.Rows L2 Cr

section
variable {B : By} {mg : Str → Option Value} {base : Heap} {k : Nat} {f : Addr} {cdv : Value} {A : Around} {outer : List Env} {s : Shared} {H : Hp} {E : XK}

/-! why_holds -/
abbrev ks_6 : List Str := ["paper", "tokens", "p"]
def g_6 (l : List D) : List D := match l with
  | [a, b, c] => [c, b, a]
  | _ => []
abbrev N6 : List Str := ["p", "tokens", "paper", "lines"]
abbrev P6 : List Str := ["p", "tokens", "paper"]
abbrev X6 (B : By) (mg : Str → Option Value) (base : Heap) (f : Addr) (cdv : Value) (A : Around) (outer : List Env) (s : Shared) (H : Hp) (E : XK) : Cx := cxOf (L2.CX B.prog B.w) B.prog B.w B.K mg base N6 "why_holds" (defScope (top 6)) f cdv A outer s H E
noncomputable def m_6 : StM := mSeq (sIf (tOr (tNot (tVal (x1 (bIsi "str") (xVar 2)))) (tNot (tVal (xM "str" mEnds (xVar 2) (aCons (xStr "\n") aNil))))) (sExc 0 (xInt 0)) mNext) (mSeq (sSet 3 (xM "str" mSplit (x1 (opSl none (some (-1)) none) (xVar 2)) (aCons (xStr "\n") aNil))) (mSeq (sIf (tAnd (t2 opEq (xN (opN1 bLen) (aCons (xVar 3) aNil)) (xInt 1)) (tVal (xCall 3 M_7 (aCons (xVar 0) (aCons (xVar 1) (aCons (x2 opIx (xVar 3) (xInt 0)) aNil)))))) (sRet (xBl true)) mNext) (mSeq (sIf (tAnd (t2 opEq (x2 opIx (xVar 3) (xInt 0)) (xStr "not")) (tVal (xCall 3 M_8 (aCons (xVar 0) (aCons (xVar 1) (aCons (x1 (opSl (some 1) none none) (xVar 3)) aNil)))))) (sRet (xBl false)) mNext) (sExc 0 (xInt 0)))))
noncomputable def M_6 : List D → M D := callB 4 m_6
theorem w_6 (hk : 1 ≤ k) (RT : RaiseT B mg) (G : Mg mg) (c_7 : Cal B mg base k "is_right_why" P7 M_7) (c_8 : Cal B mg base k "is_right_not" P8 M_8) (o : Oc (X6 B mg base f cdv A outer s H E) B (WE0 E) k) : SSs (X6 B mg base f cdv A outer s H E) B (WE0 E) (defBody (top 6)) (m_6) := by
  have po : PassesOwn (model (X6 B mg base f cdv A outer s H E).prog (X6 B mg base f cdv A outer s H E).w) (X6 B mg base f cdv A outer s H E).A (X6 B mg base f cdv A outer s H E).env (X6 B mg base f cdv A outer s H E).xe := passes_of rfl
  exact r_scons (r_if (r_st (r_or (r_tnot (r_tval (r_isi o G.isinstance G.str r_var))) (r_or1 (r_tnot (r_tval (r_bm o F.plainAttrs_str F.slot_str_endswith F.type_str_endswith m_ends r_var (r_cons r_str r_nil))))))) (r_one (r_raise o hk RT r_int)) r_snil) (r_scons (r_set o (r_bm o F.plainAttrs_str F.slot_str_split F.type_str_split m_split (r_sl o r_var pco_none pco_neg pco_none) (r_cons r_str r_nil))) (r_scons (r_if (r_st (r_and (r_tcmp (or_eq o.K o.u) (r_callB (cr_len o.K) G.len (r_cons r_var r_nil)) r_int) (r_and1 (r_tval (r_call o c_7 (r_cons r_var (r_cons r_var (r_cons (r_ix o r_var r_int) r_nil)))))))) (r_one (r_ret r_bl)) r_snil) (r_scons (r_if (r_st (r_and (r_tcmp (or_eq o.K o.u) (r_ix o r_var r_int) r_str) (r_and1 (r_tval (r_call o c_8 (r_cons r_var (r_cons r_var (r_cons (r_sl o r_var pco_int pco_none pco_none) r_nil)))))))) (r_one (r_ret r_bl)) r_snil) (r_one (r_raise o hk RT r_int)))))

/-! _law_asked -/
abbrev N31 : List Str := ["_law_p", "_law_tokens_here", "_law_paper_here", "e"]
abbrev P31 : List Str := ["_law_p", "_law_tokens_here", "_law_paper_here"]
abbrev X31 (B : By) (mg : Str → Option Value) (base : Heap) (f : Addr) (cdv : Value) (A : Around) (outer : List Env) (s : Shared) (H : Hp) (E : XK) : Cx := cxOf (L2.CX B.prog B.w) B.prog B.w B.K mg base N31 "_law_asked" (defScope (top 31)) f cdv A outer s H E
noncomputable def m_31 : StM := mTry 0 "paper" true (sRet (xTup (aCons (xStr "told") (aCons (xCallK 3 M_6 g_6 (aCons (xVar 2) (aCons (xVar 1) (aCons (xVar 0) aNil)))) aNil))))
noncomputable def M_31 : List D → M D := callB 4 m_31
theorem w_31 (TT : TryT B mg) (G : Mg mg) (k_6 : CalK B mg base k "why_holds" P6 ks_6 g_6 M_6) (o : Oc (X31 B mg base f cdv A outer s H E) B (WE0 E) k) : SSs (X31 B mg base f cdv A outer s H E) B (WE0 E) (defBody (top 31)) (m_31) := by
  have po : PassesOwn (model (X31 B mg base f cdv A outer s H E).prog (X31 B mg base f cdv A outer s H E).w) (X31 B mg base f cdv A outer s H E).A (X31 B mg base f cdv A outer s H E).env (X31 B mg base f cdv A outer s H E).xe := passes_of rfl
  exact r_one (r_try o TT (fun W pn xe tk _ => (r_one (r_ret (r_tup (r_cons r_str (r_cons (r_callK (o.tr W pn xe tk) k_6 (r_kcons r_var (r_kcons r_var (r_kcons r_var r_knil)))) r_nil)))))) (hm := G.isinstance) (i := 3))

end
end K41
end

section
set_option Elab.async false
set_option linter.all false
set_option maxRecDepth 100000
set_option maxHeartbeats 1000000
set_option pp.maxSteps 300
/-! What each def computes, and that its code does so (printed by gen.py). -/
namespace K41
open PySem PySem.Spec PyProof.Rows L2 Cr

section
variable {B : By} {mg : Str → Option Value} {base : Heap} {k : Nat} {f : Addr} {cdv : Value} {A : Around} {outer : List Env} {s : Shared} {H : Hp} {E : XK}

/-! law -/
abbrev N35 : List Str := ["_law_script", "_law_pool_here", "_law_names", "_law_turn", "_law_p", "_law_tokens_here", "_law_paper_here", "_law_papers", "_law_k", "_law_text"]
abbrev P35 : List Str := ["_law_script"]
abbrev X35 (B : By) (mg : Str → Option Value) (base : Heap) (f : Addr) (cdv : Value) (A : Around) (outer : List Env) (s : Shared) (H : Hp) (E : XK) : Cx := cxOf (L2.CX B.prog B.w) B.prog B.w B.K mg base N35 "law" (defScope (top 35)) f cdv A outer s H E
noncomputable def m_35 (tP : Addr) : StM := mSeq (sSet 1 (xCall 1 M_20 (aCons (xVar 0) aNil))) (mSeq (sSet 2 (x2 opAdd (xLst (aCons (xStr "a1") (aCons (xStr "a10") (aCons (xStr "a2") (aCons (xStr "b3") aNil))))) (xLst (aCons (x2 opAdd (xStr "c") (xN (opN1 bStr) (aCons (x2 opAdd (xInt 1) (xCall 2 M_21 (aCons (xVar 1) (aCons (xInt 9999) aNil)))) aNil))) aNil)))) (mSeq (mFor (iRange (aCons (xInt 4) aNil)) (gName 3) (mSeq (sSet 4 (xCall 2 M_25 (aCons (xVar 1) (aCons (xVar 2) aNil)))) (mSeq (sSet 5 (xCall 3 M_32 (aCons (xVar 1) (aCons (xVar 4) (aCons (xVar 2) aNil))))) (mSeq (sSet 6 (xCall 2 M_29 (aCons (xVar 4) (aCons (xVar 5) aNil)))) (mSeq (sIf (tOr (tNot (tVal (xCall 2 M_23 (aCons (xCallK 2 (M_17 tP) g_17 (aCons (xVar 5) (aCons (xVar 4) aNil))) (aCons (xVar 6) aNil))))) (tNot (tVal (xCall 2 M_23 (aCons (xCall 2 (M_17 tP) (aCons (xVar 4) (aCons (xVar 5) aNil))) (aCons (xVar 6) aNil)))))) (sRet (xBl false)) mNext) (mSeq (sIf (tNot (tVal (xCall 2 M_23 (aCons (xCall 3 M_6 (aCons (xVar 4) (aCons (xVar 5) (aCons (xVar 6) aNil)))) (aCons (x2 opIsNot (xCall 2 M_28 (aCons (xVar 4) (aCons (xVar 5) aNil))) xNon) aNil))))) (sRet (xBl false)) mNext) (mSeq (sSet 7 (xLstR (aCons (xVar 6) (aCons (xCall 3 M_33 (aCons (xVar 1) (aCons (xVar 4) (aCons (xVar 5) aNil)))) (aCons (xCall 2 M_29 (aCons (xCall 2 M_25 (aCons (xVar 1) (aCons (xVar 2) aNil))) (aCons (xVar 5) aNil))) (aCons (xStr "") aNil)))))) (mSeq (sExp (xM "list" mAppend (xVar 7) (aCons (xCall 2 M_29 (aCons (xVar 4) (aCons (xCall 3 M_32 (aCons (xVar 1) (aCons (xVar 4) (aCons (xVar 2) aNil)))) aNil))) aNil))) (mSeq (mFor (iRange (aCons (xInt 4) aNil)) (gName 8) (sExp (xM "list" mAppend (xVar 7) (aCons (xCall 5 M_34 (aCons (xVar 1) (aCons (xVar 4) (aCons (xVar 5) (aCons (xCall 2 M_22 (aCons (xVar 1) (aCons (x1 (opSl none (some 2) none) (xVar 7)) aNil))) (aCons (xVar 2) aNil)))))) aNil)))) (mFor (iSeq (xVar 7)) (gName 9) (sIf (tNot (tVal (xCall 2 M_23 (aCons (xCall 3 M_31 (aCons (xVar 4) (aCons (xVar 5) (aCons (xVar 9) aNil)))) (aCons (xCall 3 M_30 (aCons (xVar 4) (aCons (xVar 5) (aCons (xVar 9) aNil)))) aNil))))) (sRet (xBl false)) mNext))))))))))) (sRet (xBl true))))
noncomputable def M_35 (tP : Addr) : List D → M D := callB 10 (m_35 tP)
theorem w_35 {tP : Addr} (G : Mg mg) (c_20 : Cal B mg base k "_law_pool" P20 M_20) (c_21 : Cal B mg base k "_law_draw" P21 M_21) (c_25 : Cal B mg base k "_law_polynomial" P25 M_25) (c_32 : Cal B mg base k "_law_tokens" P32 M_32) (c_29 : Cal B mg base k "_law_paper" P29 M_29) (c_23 : Cal B mg base k "_law_same" P23 M_23) (c_17 : Cal B mg base k "why_paper" P17 (M_17 tP)) (c_6 : Cal B mg base k "why_holds" P6 M_6) (c_28 : Cal B mg base k "_law_least" P28 M_28) (c_33 : Cal B mg base k "_law_other_right" P33 M_33) (c_34 : Cal B mg base k "_law_spoilt" P34 M_34) (c_22 : Cal B mg base k "_law_picked" P22 M_22) (c_31 : Cal B mg base k "_law_asked" P31 M_31) (c_30 : Cal B mg base k "_law_due" P30 M_30) (k_17 : CalK B mg base k "why_paper" P17 ks_17 g_17 (M_17 tP)) (o : Oc (X35 B mg base f cdv A outer s H E) B (WE0 E) k) : SSs (X35 B mg base f cdv A outer s H E) B (WE0 E) (defBody (top 35)) (m_35 tP) := by
  have po : PassesOwn (model (X35 B mg base f cdv A outer s H E).prog (X35 B mg base f cdv A outer s H E).w) (X35 B mg base f cdv A outer s H E).A (X35 B mg base f cdv A outer s H E).env (X35 B mg base f cdv A outer s H E).xe := passes_of rfl
  exact r_scons (r_set o (r_call o c_20 (r_cons r_var r_nil))) (r_scons (r_set o (r_bin (or_add o.K) (r_lst (r_cons r_str (r_cons r_str (r_cons r_str (r_cons r_str r_nil))))) (r_lst (r_cons (r_bin (or_add o.K) r_str (r_callT cr_str G.str (r_cons (r_bin (or_add o.K) r_int (r_call o c_21 (r_cons r_var (r_cons r_int r_nil)))) r_nil))) r_nil)))) (r_scons (r_for o po (r_irange G.range (r_cons r_int r_nil)) (r_gname o) q_name (r_scons (r_set o (r_call o c_25 (r_cons r_var (r_cons r_var r_nil)))) (r_scons (r_set o (r_call o c_32 (r_cons r_var (r_cons r_var (r_cons r_var r_nil))))) (r_scons (r_set o (r_call o c_29 (r_cons r_var (r_cons r_var r_nil)))) (r_scons (r_if (r_st (r_or (r_tnot (r_tval (r_call o c_23 (r_cons (r_callK o k_17 (r_kcons r_var (r_kcons r_var r_knil))) (r_cons r_var r_nil))))) (r_or1 (r_tnot (r_tval (r_call o c_23 (r_cons (r_call o c_17 (r_cons r_var (r_cons r_var r_nil))) (r_cons r_var r_nil)))))))) (r_one (r_ret r_bl)) r_snil) (r_scons (r_if (r_tnot (r_tval (r_call o c_23 (r_cons (r_call o c_6 (r_cons r_var (r_cons r_var (r_cons r_var r_nil)))) (r_cons (r_cmp or_isnot (r_call o c_28 (r_cons r_var (r_cons r_var r_nil))) r_non) r_nil))))) (r_one (r_ret r_bl)) r_snil) (r_scons (r_set o (r_lstR (r_cons r_var (r_cons (r_call o c_33 (r_cons r_var (r_cons r_var (r_cons r_var r_nil)))) (r_cons (r_call o c_29 (r_cons (r_call o c_25 (r_cons r_var (r_cons r_var r_nil))) (r_cons r_var r_nil))) (r_cons r_str r_nil)))))) (r_scons (r_exp (r_bm o F.plainAttrs_list F.slot_list_append F.type_list_append m_append r_var (r_cons (r_call o c_29 (r_cons r_var (r_cons (r_call o c_32 (r_cons r_var (r_cons r_var (r_cons r_var r_nil)))) r_nil))) r_nil))) (r_scons (r_for o po (r_irange G.range (r_cons r_int r_nil)) (r_gname o) q_name (r_one (r_exp (r_bm o F.plainAttrs_list F.slot_list_append F.type_list_append m_append r_var (r_cons (r_call o c_34 (r_cons r_var (r_cons r_var (r_cons r_var (r_cons (r_call o c_22 (r_cons r_var (r_cons (r_sl o r_var pco_none pco_int pco_none) r_nil))) (r_cons r_var r_nil)))))) r_nil))))) (r_one (r_for o po (r_iseq o r_var) (r_gname o) q_name (r_one (r_if (r_tnot (r_tval (r_call o c_23 (r_cons (r_call o c_31 (r_cons r_var (r_cons r_var (r_cons r_var r_nil)))) (r_cons (r_call o c_30 (r_cons r_var (r_cons r_var (r_cons r_var r_nil)))) r_nil))))) (r_one (r_ret r_bl)) r_snil))))))))))))) (r_one (r_ret r_bl))))

end
end K41
end

section
set_option Elab.async false
set_option linter.all false
set_option maxRecDepth 100000
set_option maxHeartbeats 1000000
set_option pp.maxSteps 300
/-! All defs as functions that can be called (printed by genf.py). -/
namespace K41
open PySem PySem.Spec PyProof.Rows L2 Cr

/-- what is known of the program: the defs, the names, the classes, the table of code objects -/
structure Fs (B : By) (mg : Str → Option Value) (base : Heap) (tP : Addr) : Prop where
  d19 : ∃ f fd, FunD B.K "_law_mixed" "_law_mixed" (defArgs (top 19)) (defBody (top 19)) (defScope (top 19)) [] [] f fd ∧ mg "_law_mixed" = some (.ref f)
  d27 : ∃ f fd, FunD B.K "_law_within" "_law_within" (defArgs (top 27)) (defBody (top 27)) (defScope (top 27)) [] [] f fd ∧ mg "_law_within" = some (.ref f)
  d21 : ∃ f fd, FunD B.K "_law_draw" "_law_draw" (defArgs (top 21)) (defBody (top 21)) (defScope (top 21)) [] [] f fd ∧ mg "_law_draw" = some (.ref f)
  d22 : ∃ f fd, FunD B.K "_law_picked" "_law_picked" (defArgs (top 22)) (defBody (top 22)) (defScope (top 22)) [] [] f fd ∧ mg "_law_picked" = some (.ref f)
  d26 : ∃ f fd, FunD B.K "_law_sets" "_law_sets" (defArgs (top 26)) (defBody (top 26)) (defScope (top 26)) [] [] f fd ∧ mg "_law_sets" = some (.ref f)
  d28 : ∃ f fd, FunD B.K "_law_least" "_law_least" (defArgs (top 28)) (defBody (top 28)) (defScope (top 28)) [] [] f fd ∧ mg "_law_least" = some (.ref f)
  d10 : ∃ f fd, FunD B.K "is_part" "is_part" (defArgs (top 10)) (defBody (top 10)) (defScope (top 10)) [] [] f fd ∧ mg "is_part" = some (.ref f)
  d4 : ∃ f fd, FunD B.K "frozen" "frozen" (defArgs (top 4)) (defBody (top 4)) (defScope (top 4)) [] [] f fd ∧ mg "frozen" = some (.ref f)
  d13 : ∃ f fd, FunD B.K "token_sets" "token_sets" (defArgs (top 13)) (defBody (top 13)) (defScope (top 13)) [] [] f fd ∧ mg "token_sets" = some (.ref f)
  d7 : ∃ f fd, FunD B.K "is_right_why" "is_right_why" (defArgs (top 7)) (defBody (top 7)) (defScope (top 7)) [] [] f fd ∧ mg "is_right_why" = some (.ref f)
  d8 : ∃ f fd, FunD B.K "is_right_not" "is_right_not" (defArgs (top 8)) (defBody (top 8)) (defScope (top 8)) [] [] f fd ∧ mg "is_right_not" = some (.ref f)
  d16 : ∃ f fd, FunD B.K "lacking" "lacking" (defArgs (top 16)) (defBody (top 16)) (defScope (top 16)) [] [] f fd ∧ mg "lacking" = some (.ref f)
  d23 : ∃ f fd, FunD B.K "_law_same" "_law_same" (defArgs (top 23)) (defBody (top 23)) (defScope (top 23)) [] [] f fd ∧ mg "_law_same" = some (.ref f)
  d20 : ∃ f fd, FunD B.K "_law_pool" "_law_pool" (defArgs (top 20)) (defBody (top 20)) (defScope (top 20)) [] [] f fd ∧ mg "_law_pool" = some (.ref f)
  d24 : ∃ f fd, FunD B.K "_law_poly" "_law_poly" (defArgs (top 24)) (defBody (top 24)) (defScope (top 24)) [] [] f fd ∧ mg "_law_poly" = some (.ref f)
  d25 : ∃ f fd, FunD B.K "_law_polynomial" "_law_polynomial" (defArgs (top 25)) (defBody (top 25)) (defScope (top 25)) [] [] f fd ∧ mg "_law_polynomial" = some (.ref f)
  d29 : ∃ f fd, FunD B.K "_law_paper" "_law_paper" (defArgs (top 29)) (defBody (top 29)) (defScope (top 29)) [] [] f fd ∧ mg "_law_paper" = some (.ref f)
  d30 : ∃ f fd, FunD B.K "_law_due" "_law_due" (defArgs (top 30)) (defBody (top 30)) (defScope (top 30)) [] [] f fd ∧ mg "_law_due" = some (.ref f)
  d32 : ∃ f fd, FunD B.K "_law_tokens" "_law_tokens" (defArgs (top 32)) (defBody (top 32)) (defScope (top 32)) [] [] f fd ∧ mg "_law_tokens" = some (.ref f)
  d33 : ∃ f fd, FunD B.K "_law_other_right" "_law_other_right" (defArgs (top 33)) (defBody (top 33)) (defScope (top 33)) [] [] f fd ∧ mg "_law_other_right" = some (.ref f)
  d34 : ∃ f fd, FunD B.K "_law_spoilt" "_law_spoilt" (defArgs (top 34)) (defBody (top 34)) (defScope (top 34)) [] [] f fd ∧ mg "_law_spoilt" = some (.ref f)
  d11 : ∃ f fd, FunD B.K "least_sets" "least_sets" (defArgs (top 11)) (defBody (top 11)) (defScope (top 11)) [] [] f fd ∧ mg "least_sets" = some (.ref f)
  d14 : ∃ f fd, FunD B.K "witnesses" "witnesses" (defArgs (top 14)) (defBody (top 14)) (defScope (top 14)) [] [] f fd ∧ mg "witnesses" = some (.ref f)
  d17 : ∃ f fd, FunD B.K "why_paper" "why_paper" (defArgs (top 17)) (defBody (top 17)) (defScope (top 17)) [] [] f fd ∧ mg "why_paper" = some (.ref f)
  d6 : ∃ f fd, FunD B.K "why_holds" "why_holds" (defArgs (top 6)) (defBody (top 6)) (defScope (top 6)) [] [] f fd ∧ mg "why_holds" = some (.ref f)
  d31 : ∃ f fd, FunD B.K "_law_asked" "_law_asked" (defArgs (top 31)) (defBody (top 31)) (defScope (top 31)) [] [] f fd ∧ mg "_law_asked" = some (.ref f)
  d35 : ∃ f fd, FunD B.K "law" "law" (defArgs (top 35)) (defBody (top 35)) (defScope (top 35)) [] [] f fd ∧ mg "law" = some (.ref f)
  G : Mg mg
  RT : RaiseT B mg
  TT : TryT B mg
  tb : ∀ f cdv, mg "least_sets" = some (.ref f) → CodeAt B.K f cdv → ∃ c, cdv = .ref c ∧ LamX.TabB base mg c tP
section
variable {B : By} {mg : Str → Option Value} {base : Heap} {tP : Addr}
theorem f_19 (Z : Fs B mg base tP) : Cal B mg base 1 "_law_mixed" P19 M_19 := by
    obtain ⟨f, fd, D, hmg⟩ := Z.d19
    exact cal_of (k := 0) (N := N19) D hmg (fsc_by (by kernel_rfl)) (fun kV doc pm an cdv ct us hl => by match us, hl with | [a, b], _ => rfl) (fun E S Q l _ h => hm_call h) (fun cdv A outer s H E hc o => w_19 Z.G   o)
theorem f_27 (Z : Fs B mg base tP) : Cal B mg base 1 "_law_within" P27 M_27 := by
    obtain ⟨f, fd, D, hmg⟩ := Z.d27
    exact cal_of (k := 0) (N := N27) D hmg (fsc_by (by kernel_rfl)) (fun kV doc pm an cdv ct us hl => by match us, hl with | [a, b], _ => rfl) (fun E S Q l _ h => hm_call h) (fun cdv A outer s H E hc o => w_27 Z.G   o)
theorem f_21 (Z : Fs B mg base tP) : Cal B mg base 2 "_law_draw" P21 M_21 := by
    obtain ⟨f, fd, D, hmg⟩ := Z.d21
    exact cal_of (k := 1) (N := N21) D hmg (fsc_by (by kernel_rfl)) (fun kV doc pm an cdv ct us hl => by match us, hl with | [a, b], _ => rfl) (fun E S Q l _ h => hm_call h) (fun cdv A outer s H E hc o => w_21 Z.G (Cal.mono (f_19 Z) (by decide))  o)
theorem f_22 (Z : Fs B mg base tP) : Cal B mg base 3 "_law_picked" P22 M_22 := by
    obtain ⟨f, fd, D, hmg⟩ := Z.d22
    exact cal_of (k := 2) (N := N22) D hmg (fsc_by (by kernel_rfl)) (fun kV doc pm an cdv ct us hl => by match us, hl with | [a, b], _ => rfl) (fun E S Q l _ h => hm_call h) (fun cdv A outer s H E hc o => w_22 Z.G (Cal.mono (f_21 Z) (by decide))  o)
theorem f_26 (Z : Fs B mg base tP) : Cal B mg base 1 "_law_sets" P26 M_26 := by
    obtain ⟨f, fd, D, hmg⟩ := Z.d26
    exact cal_of (k := 0) (N := N26) D hmg (fsc_by (by kernel_rfl)) (fun kV doc pm an cdv ct us hl => by match us, hl with | [a], _ => rfl) (fun E S Q l _ h => hm_call h) (fun cdv A outer s H E hc o => w_26 Z.G   o)
theorem f_28 (Z : Fs B mg base tP) : Cal B mg base 2 "_law_least" P28 M_28 := by
    obtain ⟨f, fd, D, hmg⟩ := Z.d28
    exact cal_of (k := 1) (N := N28) D hmg (fsc_by (by kernel_rfl)) (fun kV doc pm an cdv ct us hl => by match us, hl with | [a, b], _ => rfl) (fun E S Q l _ h => hm_call h) (fun cdv A outer s H E hc o => w_28 Z.G (Cal.mono (f_26 Z) (by decide)) (Cal.mono (f_27 Z) (by decide))  o)
theorem f_10 (Z : Fs B mg base tP) : Cal B mg base 1 "is_part" P10 M_10 := by
    obtain ⟨f, fd, D, hmg⟩ := Z.d10
    exact cal_of (k := 0) (N := N10) D hmg (fsc_by (by kernel_rfl)) (fun kV doc pm an cdv ct us hl => by match us, hl with | [a, b], _ => rfl) (fun E S Q l _ h => hm_call h) (fun cdv A outer s H E hc o => w_10 Z.G   o)
theorem fr_4 (Z : Fs B mg base tP) : ∀ n : Nat, Cal B mg base n "frozen" P4 (R_4 n)
  | 0 => by
    obtain ⟨f, fd, D, hmg⟩ := Z.d4
    exact cal_err D hmg (fun kV doc pm an cdv ct us hl => by match us, hl with | [a], _ => rfl)
  | n + 1 => by
    obtain ⟨f, fd, D, hmg⟩ := Z.d4
    exact cal_of (N := N4) D hmg (fsc_by (by kernel_rfl)) (fun kV doc pm an cdv ct us hl => by match us, hl with | [a], _ => rfl) (fun E S Q l _ h => hm_call h) fun cdv A outer s H E hc o => w_4 Z.G (fr_4 Z n)   o
theorem f_4 (Z : Fs B mg base tP) : Cal B mg base 6 "frozen" P4 M_4 := fr_4 Z 6
theorem f_13 (Z : Fs B mg base tP) : Cal B mg base 7 "token_sets" P13 M_13 := by
    obtain ⟨f, fd, D, hmg⟩ := Z.d13
    exact cal_of (k := 6) (N := N13) D hmg (fsc_by (by kernel_rfl)) (fun kV doc pm an cdv ct us hl => by match us, hl with | [a], _ => rfl) (fun E S Q l _ h => hm_call h) (fun cdv A outer s H E hc o => w_13 Z.G (Cal.mono (f_4 Z) (by decide))  o)
theorem f_7 (Z : Fs B mg base tP) : Cal B mg base 1 "is_right_why" P7 M_7 := by
    obtain ⟨f, fd, D, hmg⟩ := Z.d7
    exact cal_of (k := 0) (N := N7) D hmg (fsc_by (by kernel_rfl)) (fun kV doc pm an cdv ct us hl => by match us, hl with | [a, b, c], _ => rfl) (fun E S Q l _ h => hm_call h) (fun cdv A outer s H E hc o => w_7 Z.G   o)
theorem f_8 (Z : Fs B mg base tP) : Cal B mg base 1 "is_right_not" P8 M_8 := by
    obtain ⟨f, fd, D, hmg⟩ := Z.d8
    exact cal_of (k := 0) (N := N8) D hmg (fsc_by (by kernel_rfl)) (fun kV doc pm an cdv ct us hl => by match us, hl with | [a, b, c], _ => rfl) (fun E S Q l _ h => hm_call h) (fun cdv A outer s H E hc o => w_8 Z.G   o)
theorem f_16 (Z : Fs B mg base tP) : Cal B mg base 1 "lacking" P16 M_16 := by
    obtain ⟨f, fd, D, hmg⟩ := Z.d16
    exact cal_of (k := 0) (N := N16) D hmg (fsc_by (by kernel_rfl)) (fun kV doc pm an cdv ct us hl => by match us, hl with | [a, b], _ => rfl) (fun E S Q l _ h => hm_call h) (fun cdv A outer s H E hc o => w_16 Z.G   o)
theorem fr_23 (Z : Fs B mg base tP) : ∀ n : Nat, Cal B mg base n "_law_same" P23 (R_23 n)
  | 0 => by
    obtain ⟨f, fd, D, hmg⟩ := Z.d23
    exact cal_err D hmg (fun kV doc pm an cdv ct us hl => by match us, hl with | [a, b], _ => rfl)
  | n + 1 => by
    obtain ⟨f, fd, D, hmg⟩ := Z.d23
    exact cal_of (N := N23) D hmg (fsc_by (by kernel_rfl)) (fun kV doc pm an cdv ct us hl => by match us, hl with | [a, b], _ => rfl) (fun E S Q l _ h => hm_call h) fun cdv A outer s H E hc o => w_23 Z.G (fr_23 Z n)   o
theorem f_23 (Z : Fs B mg base tP) : Cal B mg base 4 "_law_same" P23 M_23 := fr_23 Z 4
theorem f_20 (Z : Fs B mg base tP) : Cal B mg base 1 "_law_pool" P20 M_20 := by
    obtain ⟨f, fd, D, hmg⟩ := Z.d20
    exact cal_of (k := 0) (N := N20) D hmg (fsc_by (by kernel_rfl)) (fun kV doc pm an cdv ct us hl => by match us, hl with | [a], _ => rfl) (fun E S Q l _ h => h) (fun cdv A outer s H E hc o => w_20 Z.G   o)
theorem f_24 (Z : Fs B mg base tP) : Cal B mg base 1 "_law_poly" P24 M_24 := by
    obtain ⟨f, fd, D, hmg⟩ := Z.d24
    exact cal_of (k := 0) (N := N24) D hmg (fsc_by (by kernel_rfl)) (fun kV doc pm an cdv ct us hl => by match us, hl with | [a], _ => rfl) (fun E S Q l _ h => hm_call h) (fun cdv A outer s H E hc o => w_24 Z.G   o)
theorem f_25 (Z : Fs B mg base tP) : Cal B mg base 4 "_law_polynomial" P25 M_25 := by
    obtain ⟨f, fd, D, hmg⟩ := Z.d25
    exact cal_of (k := 3) (N := N25) D hmg (fsc_by (by kernel_rfl)) (fun kV doc pm an cdv ct us hl => by match us, hl with | [a, b], _ => rfl) (fun E S Q l _ h => hm_call h) (fun cdv A outer s H E hc o => w_25 Z.G (Cal.mono (f_21 Z) (by decide)) (Cal.mono (f_22 Z) (by decide)) (Cal.mono (f_24 Z) (by decide))  o)
theorem f_29 (Z : Fs B mg base tP) : Cal B mg base 3 "_law_paper" P29 M_29 := by
    obtain ⟨f, fd, D, hmg⟩ := Z.d29
    exact cal_of (k := 2) (N := N29) D hmg (fsc_by (by kernel_rfl)) (fun kV doc pm an cdv ct us hl => by match us, hl with | [a, b], _ => rfl) (fun E S Q l _ h => hm_call h) (fun cdv A outer s H E hc o => w_29 Z.G (Cal.mono (f_28 Z) (by decide)) (Cal.mono (f_26 Z) (by decide))  o)
theorem f_30 (Z : Fs B mg base tP) : Cal B mg base 2 "_law_due" P30 M_30 := by
    obtain ⟨f, fd, D, hmg⟩ := Z.d30
    exact cal_of (k := 1) (N := N30) D hmg (fsc_by (by kernel_rfl)) (fun kV doc pm an cdv ct us hl => by match us, hl with | [a, b, c], _ => rfl) (fun E S Q l _ h => hm_call h) (fun cdv A outer s H E hc o => w_30 Z.G (Cal.mono (f_26 Z) (by decide)) (Cal.mono (f_27 Z) (by decide))  o)
theorem f_32 (Z : Fs B mg base tP) : Cal B mg base 4 "_law_tokens" P32 M_32 := by
    obtain ⟨f, fd, D, hmg⟩ := Z.d32
    exact cal_of (k := 3) (N := N32) D hmg (fsc_by (by kernel_rfl)) (fun kV doc pm an cdv ct us hl => by match us, hl with | [a, b, c], _ => rfl) (fun E S Q l _ h => hm_call h) (fun cdv A outer s H E hc o => w_32 Z.G (Cal.mono (f_21 Z) (by decide)) (Cal.mono (f_22 Z) (by decide)) (Cal.mono (f_26 Z) (by decide))  o)
theorem f_33 (Z : Fs B mg base tP) : Cal B mg base 4 "_law_other_right" P33 M_33 := by
    obtain ⟨f, fd, D, hmg⟩ := Z.d33
    exact cal_of (k := 3) (N := N33) D hmg (fsc_by (by kernel_rfl)) (fun kV doc pm an cdv ct us hl => by match us, hl with | [a, b, c], _ => rfl) (fun E S Q l _ h => hm_call h) (fun cdv A outer s H E hc o => w_33 Z.G (Cal.mono (f_26 Z) (by decide)) (Cal.mono (f_27 Z) (by decide)) (Cal.mono (f_22 Z) (by decide))  o)
theorem f_34 (Z : Fs B mg base tP) : Cal B mg base 4 "_law_spoilt" P34 M_34 := by
    obtain ⟨f, fd, D, hmg⟩ := Z.d34
    exact cal_of (k := 3) (N := N34) D hmg (fsc_by (by kernel_rfl)) (fun kV doc pm an cdv ct us hl => by match us, hl with | [a, b, c, d, e], _ => rfl) (fun E S Q l _ h => hm_call h) (fun cdv A outer s H E hc o => w_34 Z.G (Cal.mono (f_21 Z) (by decide)) (Cal.mono (f_22 Z) (by decide))  o)
theorem f_11 (Z : Fs B mg base tP) : Cal B mg base 2 "least_sets" P11 (M_11 tP) := by
    obtain ⟨f, fd, D, hmg⟩ := Z.d11
    exact cal_of (k := 1) (N := N11) D hmg (fsc_by (by kernel_rfl)) (fun kV doc pm an cdv ct us hl => by match us, hl with | [a], _ => rfl) (fun E S Q l _ h => hm_call h) (fun cdv A outer s H E hc o => by
      obtain ⟨c, hcd, TB⟩ := Z.tb f cdv hmg hc
      exact w_11 hcd TB (by decide) Z.G (Cal.mono (f_10 Z) (by decide))  o)
theorem f_14 (Z : Fs B mg base tP) : Cal B mg base 8 "witnesses" P14 (M_14 tP) := by
    obtain ⟨f, fd, D, hmg⟩ := Z.d14
    exact cal_of (k := 7) (N := N14) D hmg (fsc_by (by kernel_rfl)) (fun kV doc pm an cdv ct us hl => by match us, hl with | [a], _ => rfl) (fun E S Q l _ h => hm_call h) (fun cdv A outer s H E hc o => w_14 Z.G (Cal.mono (f_11 Z) (by decide)) (Cal.mono (f_13 Z) (by decide))  o)
theorem f_17 (Z : Fs B mg base tP) : Cal B mg base 9 "why_paper" P17 (M_17 tP) := by
    obtain ⟨f, fd, D, hmg⟩ := Z.d17
    exact cal_of (k := 8) (N := N17) D hmg (fsc_by (by kernel_rfl)) (fun kV doc pm an cdv ct us hl => by match us, hl with | [a, b], _ => rfl) (fun E S Q l _ h => hm_call h) (fun cdv A outer s H E hc o => w_17 Z.G (Cal.mono (f_14 Z) (by decide)) (Cal.mono (f_16 Z) (by decide))  o)
theorem fk_17 (Z : Fs B mg base tP) : CalK B mg base 9 "why_paper" P17 ks_17 g_17 (M_17 tP) := by
    obtain ⟨f, fd, D, hmg⟩ := Z.d17
    refine calk2 D hmg (fsc_by (N := N17) (by kernel_rfl)) rfl (fun kV doc pm an cdv ct a b => rfl) (fnok_of (k := 8) (N := N17) D (fsc_by (by kernel_rfl)) (fun E S Q l _ h => hm_call h) (fun cdv A outer s H E hc o => w_17 Z.G (Cal.mono (f_14 Z) (by decide)) (Cal.mono (f_16 Z) (by decide))  o)) fun l => ?_
    unfold g_17 kp2
    rcases l with _ | ⟨a, _ | ⟨b, _ | ⟨c, _ | ⟨d, l⟩⟩⟩⟩ <;> rfl
theorem f_6 (Z : Fs B mg base tP) : Cal B mg base 2 "why_holds" P6 M_6 := by
    obtain ⟨f, fd, D, hmg⟩ := Z.d6
    exact cal_of (k := 1) (N := N6) D hmg (fsc_by (by kernel_rfl)) (fun kV doc pm an cdv ct us hl => by match us, hl with | [a, b, c], _ => rfl) (fun E S Q l _ h => hm_call h) (fun cdv A outer s H E hc o => w_6 (by decide) Z.RT Z.G (Cal.mono (f_7 Z) (by decide)) (Cal.mono (f_8 Z) (by decide))  o)
theorem fk_6 (Z : Fs B mg base tP) : CalK B mg base 2 "why_holds" P6 ks_6 g_6 M_6 := by
    obtain ⟨f, fd, D, hmg⟩ := Z.d6
    refine calk3 D hmg (fsc_by (N := N6) (by kernel_rfl)) rfl (fun kV doc pm an cdv ct a b c => rfl) (fnok_of (k := 1) (N := N6) D (fsc_by (by kernel_rfl)) (fun E S Q l _ h => hm_call h) (fun cdv A outer s H E hc o => w_6 (by decide) Z.RT Z.G (Cal.mono (f_7 Z) (by decide)) (Cal.mono (f_8 Z) (by decide))  o)) fun l => ?_
    unfold g_6 kp3
    rcases l with _ | ⟨a, _ | ⟨b, _ | ⟨c, _ | ⟨d, l⟩⟩⟩⟩ <;> rfl
theorem f_31 (Z : Fs B mg base tP) : Cal B mg base 3 "_law_asked" P31 M_31 := by
    obtain ⟨f, fd, D, hmg⟩ := Z.d31
    exact cal_of (k := 2) (N := N31) D hmg (fsc_by (by kernel_rfl)) (fun kV doc pm an cdv ct us hl => by match us, hl with | [a, b, c], _ => rfl) (fun E S Q l _ h => hm_call h) (fun cdv A outer s H E hc o => w_31 Z.TT Z.G  (CalK.mono (fk_6 Z) (by decide)) o)
theorem f_35 (Z : Fs B mg base tP) : Cal B mg base 10 "law" P35 (M_35 tP) := by
    obtain ⟨f, fd, D, hmg⟩ := Z.d35
    exact cal_of (k := 9) (N := N35) D hmg (fsc_by (by kernel_rfl)) (fun kV doc pm an cdv ct us hl => by match us, hl with | [a], _ => rfl) (fun E S Q l _ h => hm_call h) (fun cdv A outer s H E hc o => w_35 Z.G (Cal.mono (f_20 Z) (by decide)) (Cal.mono (f_21 Z) (by decide)) (Cal.mono (f_25 Z) (by decide)) (Cal.mono (f_32 Z) (by decide)) (Cal.mono (f_29 Z) (by decide)) (Cal.mono (f_23 Z) (by decide)) (Cal.mono (f_17 Z) (by decide)) (Cal.mono (f_6 Z) (by decide)) (Cal.mono (f_28 Z) (by decide)) (Cal.mono (f_33 Z) (by decide)) (Cal.mono (f_34 Z) (by decide)) (Cal.mono (f_22 Z) (by decide)) (Cal.mono (f_31 Z) (by decide)) (Cal.mono (f_30 Z) (by decide)) (CalK.mono (fk_17 Z) (by decide)) o)
end
end K41
end

section
set_option Elab.async false
set_option linter.all false
set_option maxRecDepth 100000
set_option maxHeartbeats 0
/-! The head once more: the classes, too. -/
namespace K41
open PySem PySem.Spec PyProof.Rows L2
def cB (K : PySem.W.Frag) : Addr := He.ga K "BadPaper"
def cE (K : PySem.W.Frag) : Addr := He.ga K "TraceError"
def iF (K : PySem.W.Frag) : Addr := He.ma K (cB K) "__init__"
def iCda (K : PySem.W.Frag) : Addr := match K.lookup (iF K) with
  | some ⟨_, _, .func fd, _⟩ => (match fd.code with | .ref c => c | _ => 0)
  | _ => 0
def iCc (K : PySem.W.Frag) : Addr := match K.lookup (iF K) with
  | some ⟨_, _, .func fd, _⟩ => (match fd.closure with | [(_, c)] => c | _ => 0)
  | _ => 0
abbrev IV : Type := Option (Str × Str × Arguments × FuncBody × Scope × Addr × Addr)
def iObs (K : PySem.W.Frag) : IV := match K.lookup (iF K) with
  | some ⟨_, _, .func fd, _⟩ => some (fd.name, fd.qualname, fd.params, fd.body, fd.scope, fd.globals, fd.builtins)
  | _ => none
def initS : Stmt := match top 2 with
  | .ClassDef _ _ _ body _ _ _ _ _ _ _ => body.getD 0 (.Pass ⟨0, 0, 0, 0⟩)
  | _ => .Pass ⟨0, 0, 0, 0⟩
def iVal : IV := some ("__init__", "BadPaper.__init__", defArgs initS, .stmts (defBody initS), defScope initS, mainGlobals, builtinsNs)
def c1 (K : PySem.W.Frag) : Bool := match K.lookup (iF K) with
  | some ⟨_, _, .func fd, _⟩ => decide (fd.code = .ref (iCda K)) && (decide (fd.closure = [(("__class__" : Str), iCc K)]) && decide (fd.defaults = .none))
  | _ => false
def fileIs (vs : Array Value) (P : Str) : Bool := match (vs[2]? : Option Value) with
  | some (.str file _) => P == file
  | _ => false
def c2 (K : PySem.W.Frag) : Bool := match K.lookup (iCda K) with
  | some ⟨_, _, .fields vs, _⟩ => fileIs vs PySem.Challenge.pw_ledgertrace_k41_why_papers.main.file
  | _ => false
def c3 (K : PySem.W.Frag) : Bool := match K.lookup (iCc K) with
  | some ⟨_, _, .cell (some (.ref a)), _⟩ => decide (a = cB K)
  | _ => false
def c4 (K : PySem.W.Frag) : Bool := match PySem.W.clsIn K (cB K) with
  | some cd => cd.hasDict && decide (cd.mro = .ref (cB K) :: .ref (cE K) :: Cr.exB)
  | none => false
def noL (K : PySem.W.Frag) : Bool := K.all fun q => !decide (q.2.cls = .type "list")
def exC (K : PySem.W.Frag) : List Bool := [c1 K, c2 K, c3 K, c4 K, PySem.W.excInitIn K (cB K) Cr.exB "Exception.__new__", He.eqO (PySem.W.findIn K (.ref (cB K)) "__init__") (some (some (.ref (iF K)))), decide (PySem.W.typeIn K (.ref (iF K)) = some (.type "function")),
  PySem.W.codeIn K (.ref (iCda K)) "BadPaper.__init__", decide (PySem.W.ks_superIn K (cB K) (cB K) "__init__" = some (some (.builtin "Exception.__init__"))), decide (PySem.W.subIn K (.ref (cB K)) (.type "Exception") = some true), He.eqO (PySem.W.findIn K (.ref (cB K)) "__setattr__") (some (some (.builtin "object.__setattr__"))),
  He.eqO (PySem.W.findIn K (.ref (cB K)) "at") (some none), decide (PySem.W.subIn K (.ref (cB K)) (.type "BaseException") = some true), decide (PySem.W.typeIn K (.ref (cB K)) = some (.type "type")), PySem.W.keepIn K (.ref (cB K)), He.eqO (PySem.W.nsIn K cStatics "thirdparty.any") (some none),
  decide (PySem.W.mroIn K (cB K) (.type "object") = some true), decide (PySem.W.mroIn K (cB K) (.ref (cB K)) = some true),
  xfB K (cB K), He.eqO (PySem.W.findIn K (.ref (cB K)) "__class__") (some (some (.builtin "object.__class__"))), He.eqO (PySem.W.specialIn K (.builtin "object.__class__") "__get__") (some (some (.builtin "getset_descriptor.__get__"))), decide (PySem.W.takesIn K (.builtin "object.__class__") = some true),
  decide (PySem.W.exmOne K (.ref (cB K)) (.ref (cB K)) = some true), decide (PySem.W.kitOne K (.ref (cB K)) (.ref (cE K)) = some true), noL K]
def ex2 (K : PySem.W.Frag) : Bool := (exC K).all id
def dp : Nat := 6
def asM (g : Addr → Option Obj) : List Addr := cStatics :: He.asD g dp
def obsM (g : Addr → Option Obj) : He.AlX × IV := ((He.obsT fa fn [] (He.frT g (asM g)), ex2 (He.frT g (asM g)) && He.tabsB g tf (He.frT g (asM g))), iObs (He.frT g (asM g)))
theorem says_of {w : World} {h : Heap} {K : PySem.W.Frag} (hK : ∀ a o, h.get? a = some o → He.emptyTab o = true → K.lookup a = none) (e0 : He.obsT fa fn [] K = He.valT fn [] w) (e2 : (ex2 K && He.tabsB h.get? tf K) = true) : He.SaysX fa fn [] tf ex2 w h K := by
  obtain ⟨h1, h2⟩ := He.ba e2
  have key : ∀ p ∈ tf, PySem.W.codeHdIn K (He.cT K p).1 (He.cT K p).2 = true ∧ ∃ o, h.get? (He.cT K p).2 = some o ∧ He.emptyTab o = true := fun p hp => by
    obtain ⟨h3, h4⟩ := He.ba (List.all_eq_true.mp h2 p hp)
    refine ⟨h3, ?_⟩
    cases q : h.get? (He.cT K p).2 with
    | none =>
      rw [q] at h4
      cases h4
    | some o =>
      rw [q] at h4
      exact ⟨o, rfl, h4⟩
  exact ⟨e0, h1, fun p hp => (key p hp).1, fun p hp => by
    obtain ⟨_, o, q, z⟩ := key p hp
    exact hK _ _ q z, fun p hp => by
    obtain ⟨_, o, q, z⟩ := key p hp
    rw [q, He.emptyTab_eq z]⟩
def hkM : PySem.W.Hook where
  α := He.AlX × IV
  obs := fun s => obsM s.heap.get?
  val := fun w => (He.valX fn [] w, iVal)
  says := fun w h => ∃ K : PySem.W.Frag, K.In h ∧ He.SaysX fa fn [] tf ex2 w h K ∧ iObs K = iVal
  of := fun w s e => by
    have e1 := congrArg (fun z => z.1.1) e
    have e2 := congrArg (fun z => z.1.2) e
    have e3 := congrArg (fun z => z.2) e
    exact ⟨He.frT s.heap.get? (asM s.heap.get?), He.frT_in, says_of (fun a o h1 h2 => He.frT_none h1 h2) e1 e2, e3⟩
  keeps := fun _ _ _ ⟨K, hK, c, i⟩ k => ⟨K, PySem.W.Frag.In.keeps hK k, ⟨c.t, c.more, c.hd, c.out, fun p hp => k _ _ (c.empty p hp)⟩, i⟩
def obM (s : PySem.W.SharedT) : He.AlX × IV := obsM (HandSHeadRun.getT s)
theorem obM_eq (s : PySem.W.SharedT) : obM s = hkM.obs s.abs := by
  have e : HandSHeadRun.getT s = s.abs.heap.get? := funext fun a => HandSHeadRun.getT_eq s a
  unfold obM
  rw [e]
  kernel_rfl
end K41
end

section
set_option Elab.async false
set_option linter.all false
set_option maxHeartbeats 0
/-! The run. -/
namespace K41
open PySem PySem.Spec PyProof.Rows L2
set_option maxRecDepth 1000000 in
theorem runM (w : World) : HandSHeadRun.RunEq R (PySem.W.view R.prog [35]) hkM obM 3000 names w := by
  intro os
  kernel_rfl
end K41
end

section
set_option Elab.async false
set_option linter.all false
set_option maxRecDepth 100000
set_option maxHeartbeats 1000000
set_option pp.maxSteps 300
/-! The facts of the program, from the head. -/
namespace K41
open PySem PySem.Spec PyProof.Rows L2 Cr

abbrev Bw (w : World) (K : PySem.W.Frag) : By := { prog := R.prog, w := w, K := K, cls := fun _ => cB K, fld := fun _ => "at" }
section
variable {w : World} {h : Heap} {K : PySem.W.Frag} {mg : Str → Option Value}
theorem h_4 (X : K.In h) (c : He.SaysX fa fn [] tf ex2 w h K) (G : h.Ns mainGlobals mg) : ∃ f fd, FunD K "frozen" "frozen" (defArgs (top 4)) (defBody (top 4)) (defScope (top 4)) [] [] f fd ∧ mg "frozen" = some (.ref f) := by
  obtain ⟨fd, F⟩ := c.t.d.def_ 0 (d := d_4) rfl
  exact ⟨_, fd, F, He.glo_ok X G (c.t.d.fact 0 (f := .glo "frozen") rfl)⟩
theorem h_6 (X : K.In h) (c : He.SaysX fa fn [] tf ex2 w h K) (G : h.Ns mainGlobals mg) : ∃ f fd, FunD K "why_holds" "why_holds" (defArgs (top 6)) (defBody (top 6)) (defScope (top 6)) [] [] f fd ∧ mg "why_holds" = some (.ref f) := by
  obtain ⟨fd, F⟩ := c.t.d.def_ 1 (d := d_6) rfl
  exact ⟨_, fd, F, He.glo_ok X G (c.t.d.fact 1 (f := .glo "why_holds") rfl)⟩
theorem h_7 (X : K.In h) (c : He.SaysX fa fn [] tf ex2 w h K) (G : h.Ns mainGlobals mg) : ∃ f fd, FunD K "is_right_why" "is_right_why" (defArgs (top 7)) (defBody (top 7)) (defScope (top 7)) [] [] f fd ∧ mg "is_right_why" = some (.ref f) := by
  obtain ⟨fd, F⟩ := c.t.d.def_ 2 (d := d_7) rfl
  exact ⟨_, fd, F, He.glo_ok X G (c.t.d.fact 2 (f := .glo "is_right_why") rfl)⟩
theorem h_8 (X : K.In h) (c : He.SaysX fa fn [] tf ex2 w h K) (G : h.Ns mainGlobals mg) : ∃ f fd, FunD K "is_right_not" "is_right_not" (defArgs (top 8)) (defBody (top 8)) (defScope (top 8)) [] [] f fd ∧ mg "is_right_not" = some (.ref f) := by
  obtain ⟨fd, F⟩ := c.t.d.def_ 3 (d := d_8) rfl
  exact ⟨_, fd, F, He.glo_ok X G (c.t.d.fact 3 (f := .glo "is_right_not") rfl)⟩
theorem h_10 (X : K.In h) (c : He.SaysX fa fn [] tf ex2 w h K) (G : h.Ns mainGlobals mg) : ∃ f fd, FunD K "is_part" "is_part" (defArgs (top 10)) (defBody (top 10)) (defScope (top 10)) [] [] f fd ∧ mg "is_part" = some (.ref f) := by
  obtain ⟨fd, F⟩ := c.t.d.def_ 4 (d := d_10) rfl
  exact ⟨_, fd, F, He.glo_ok X G (c.t.d.fact 4 (f := .glo "is_part") rfl)⟩
theorem h_11 (X : K.In h) (c : He.SaysX fa fn [] tf ex2 w h K) (G : h.Ns mainGlobals mg) : ∃ f fd, FunD K "least_sets" "least_sets" (defArgs (top 11)) (defBody (top 11)) (defScope (top 11)) [] [] f fd ∧ mg "least_sets" = some (.ref f) := by
  obtain ⟨fd, F⟩ := c.t.d.def_ 5 (d := d_11) rfl
  exact ⟨_, fd, F, He.glo_ok X G (c.t.d.fact 5 (f := .glo "least_sets") rfl)⟩
theorem h_13 (X : K.In h) (c : He.SaysX fa fn [] tf ex2 w h K) (G : h.Ns mainGlobals mg) : ∃ f fd, FunD K "token_sets" "token_sets" (defArgs (top 13)) (defBody (top 13)) (defScope (top 13)) [] [] f fd ∧ mg "token_sets" = some (.ref f) := by
  obtain ⟨fd, F⟩ := c.t.d.def_ 6 (d := d_13) rfl
  exact ⟨_, fd, F, He.glo_ok X G (c.t.d.fact 6 (f := .glo "token_sets") rfl)⟩
theorem h_14 (X : K.In h) (c : He.SaysX fa fn [] tf ex2 w h K) (G : h.Ns mainGlobals mg) : ∃ f fd, FunD K "witnesses" "witnesses" (defArgs (top 14)) (defBody (top 14)) (defScope (top 14)) [] [] f fd ∧ mg "witnesses" = some (.ref f) := by
  obtain ⟨fd, F⟩ := c.t.d.def_ 7 (d := d_14) rfl
  exact ⟨_, fd, F, He.glo_ok X G (c.t.d.fact 7 (f := .glo "witnesses") rfl)⟩
theorem h_16 (X : K.In h) (c : He.SaysX fa fn [] tf ex2 w h K) (G : h.Ns mainGlobals mg) : ∃ f fd, FunD K "lacking" "lacking" (defArgs (top 16)) (defBody (top 16)) (defScope (top 16)) [] [] f fd ∧ mg "lacking" = some (.ref f) := by
  obtain ⟨fd, F⟩ := c.t.d.def_ 8 (d := d_16) rfl
  exact ⟨_, fd, F, He.glo_ok X G (c.t.d.fact 8 (f := .glo "lacking") rfl)⟩
theorem h_17 (X : K.In h) (c : He.SaysX fa fn [] tf ex2 w h K) (G : h.Ns mainGlobals mg) : ∃ f fd, FunD K "why_paper" "why_paper" (defArgs (top 17)) (defBody (top 17)) (defScope (top 17)) [] [] f fd ∧ mg "why_paper" = some (.ref f) := by
  obtain ⟨fd, F⟩ := c.t.d.def_ 9 (d := d_17) rfl
  exact ⟨_, fd, F, He.glo_ok X G (c.t.d.fact 9 (f := .glo "why_paper") rfl)⟩
theorem h_19 (X : K.In h) (c : He.SaysX fa fn [] tf ex2 w h K) (G : h.Ns mainGlobals mg) : ∃ f fd, FunD K "_law_mixed" "_law_mixed" (defArgs (top 19)) (defBody (top 19)) (defScope (top 19)) [] [] f fd ∧ mg "_law_mixed" = some (.ref f) := by
  obtain ⟨fd, F⟩ := c.t.d.def_ 10 (d := d_19) rfl
  exact ⟨_, fd, F, He.glo_ok X G (c.t.d.fact 10 (f := .glo "_law_mixed") rfl)⟩
theorem h_20 (X : K.In h) (c : He.SaysX fa fn [] tf ex2 w h K) (G : h.Ns mainGlobals mg) : ∃ f fd, FunD K "_law_pool" "_law_pool" (defArgs (top 20)) (defBody (top 20)) (defScope (top 20)) [] [] f fd ∧ mg "_law_pool" = some (.ref f) := by
  obtain ⟨fd, F⟩ := c.t.d.def_ 11 (d := d_20) rfl
  exact ⟨_, fd, F, He.glo_ok X G (c.t.d.fact 11 (f := .glo "_law_pool") rfl)⟩
theorem h_21 (X : K.In h) (c : He.SaysX fa fn [] tf ex2 w h K) (G : h.Ns mainGlobals mg) : ∃ f fd, FunD K "_law_draw" "_law_draw" (defArgs (top 21)) (defBody (top 21)) (defScope (top 21)) [] [] f fd ∧ mg "_law_draw" = some (.ref f) := by
  obtain ⟨fd, F⟩ := c.t.d.def_ 12 (d := d_21) rfl
  exact ⟨_, fd, F, He.glo_ok X G (c.t.d.fact 12 (f := .glo "_law_draw") rfl)⟩
theorem h_22 (X : K.In h) (c : He.SaysX fa fn [] tf ex2 w h K) (G : h.Ns mainGlobals mg) : ∃ f fd, FunD K "_law_picked" "_law_picked" (defArgs (top 22)) (defBody (top 22)) (defScope (top 22)) [] [] f fd ∧ mg "_law_picked" = some (.ref f) := by
  obtain ⟨fd, F⟩ := c.t.d.def_ 13 (d := d_22) rfl
  exact ⟨_, fd, F, He.glo_ok X G (c.t.d.fact 13 (f := .glo "_law_picked") rfl)⟩
theorem h_23 (X : K.In h) (c : He.SaysX fa fn [] tf ex2 w h K) (G : h.Ns mainGlobals mg) : ∃ f fd, FunD K "_law_same" "_law_same" (defArgs (top 23)) (defBody (top 23)) (defScope (top 23)) [] [] f fd ∧ mg "_law_same" = some (.ref f) := by
  obtain ⟨fd, F⟩ := c.t.d.def_ 14 (d := d_23) rfl
  exact ⟨_, fd, F, He.glo_ok X G (c.t.d.fact 14 (f := .glo "_law_same") rfl)⟩
theorem h_24 (X : K.In h) (c : He.SaysX fa fn [] tf ex2 w h K) (G : h.Ns mainGlobals mg) : ∃ f fd, FunD K "_law_poly" "_law_poly" (defArgs (top 24)) (defBody (top 24)) (defScope (top 24)) [] [] f fd ∧ mg "_law_poly" = some (.ref f) := by
  obtain ⟨fd, F⟩ := c.t.d.def_ 15 (d := d_24) rfl
  exact ⟨_, fd, F, He.glo_ok X G (c.t.d.fact 15 (f := .glo "_law_poly") rfl)⟩
theorem h_25 (X : K.In h) (c : He.SaysX fa fn [] tf ex2 w h K) (G : h.Ns mainGlobals mg) : ∃ f fd, FunD K "_law_polynomial" "_law_polynomial" (defArgs (top 25)) (defBody (top 25)) (defScope (top 25)) [] [] f fd ∧ mg "_law_polynomial" = some (.ref f) := by
  obtain ⟨fd, F⟩ := c.t.d.def_ 16 (d := d_25) rfl
  exact ⟨_, fd, F, He.glo_ok X G (c.t.d.fact 16 (f := .glo "_law_polynomial") rfl)⟩
theorem h_26 (X : K.In h) (c : He.SaysX fa fn [] tf ex2 w h K) (G : h.Ns mainGlobals mg) : ∃ f fd, FunD K "_law_sets" "_law_sets" (defArgs (top 26)) (defBody (top 26)) (defScope (top 26)) [] [] f fd ∧ mg "_law_sets" = some (.ref f) := by
  obtain ⟨fd, F⟩ := c.t.d.def_ 17 (d := d_26) rfl
  exact ⟨_, fd, F, He.glo_ok X G (c.t.d.fact 17 (f := .glo "_law_sets") rfl)⟩
theorem h_27 (X : K.In h) (c : He.SaysX fa fn [] tf ex2 w h K) (G : h.Ns mainGlobals mg) : ∃ f fd, FunD K "_law_within" "_law_within" (defArgs (top 27)) (defBody (top 27)) (defScope (top 27)) [] [] f fd ∧ mg "_law_within" = some (.ref f) := by
  obtain ⟨fd, F⟩ := c.t.d.def_ 18 (d := d_27) rfl
  exact ⟨_, fd, F, He.glo_ok X G (c.t.d.fact 18 (f := .glo "_law_within") rfl)⟩
theorem h_28 (X : K.In h) (c : He.SaysX fa fn [] tf ex2 w h K) (G : h.Ns mainGlobals mg) : ∃ f fd, FunD K "_law_least" "_law_least" (defArgs (top 28)) (defBody (top 28)) (defScope (top 28)) [] [] f fd ∧ mg "_law_least" = some (.ref f) := by
  obtain ⟨fd, F⟩ := c.t.d.def_ 19 (d := d_28) rfl
  exact ⟨_, fd, F, He.glo_ok X G (c.t.d.fact 19 (f := .glo "_law_least") rfl)⟩
theorem h_29 (X : K.In h) (c : He.SaysX fa fn [] tf ex2 w h K) (G : h.Ns mainGlobals mg) : ∃ f fd, FunD K "_law_paper" "_law_paper" (defArgs (top 29)) (defBody (top 29)) (defScope (top 29)) [] [] f fd ∧ mg "_law_paper" = some (.ref f) := by
  obtain ⟨fd, F⟩ := c.t.d.def_ 20 (d := d_29) rfl
  exact ⟨_, fd, F, He.glo_ok X G (c.t.d.fact 20 (f := .glo "_law_paper") rfl)⟩
theorem h_30 (X : K.In h) (c : He.SaysX fa fn [] tf ex2 w h K) (G : h.Ns mainGlobals mg) : ∃ f fd, FunD K "_law_due" "_law_due" (defArgs (top 30)) (defBody (top 30)) (defScope (top 30)) [] [] f fd ∧ mg "_law_due" = some (.ref f) := by
  obtain ⟨fd, F⟩ := c.t.d.def_ 21 (d := d_30) rfl
  exact ⟨_, fd, F, He.glo_ok X G (c.t.d.fact 21 (f := .glo "_law_due") rfl)⟩
theorem h_31 (X : K.In h) (c : He.SaysX fa fn [] tf ex2 w h K) (G : h.Ns mainGlobals mg) : ∃ f fd, FunD K "_law_asked" "_law_asked" (defArgs (top 31)) (defBody (top 31)) (defScope (top 31)) [] [] f fd ∧ mg "_law_asked" = some (.ref f) := by
  obtain ⟨fd, F⟩ := c.t.d.def_ 22 (d := d_31) rfl
  exact ⟨_, fd, F, He.glo_ok X G (c.t.d.fact 22 (f := .glo "_law_asked") rfl)⟩
theorem h_32 (X : K.In h) (c : He.SaysX fa fn [] tf ex2 w h K) (G : h.Ns mainGlobals mg) : ∃ f fd, FunD K "_law_tokens" "_law_tokens" (defArgs (top 32)) (defBody (top 32)) (defScope (top 32)) [] [] f fd ∧ mg "_law_tokens" = some (.ref f) := by
  obtain ⟨fd, F⟩ := c.t.d.def_ 23 (d := d_32) rfl
  exact ⟨_, fd, F, He.glo_ok X G (c.t.d.fact 23 (f := .glo "_law_tokens") rfl)⟩
theorem h_33 (X : K.In h) (c : He.SaysX fa fn [] tf ex2 w h K) (G : h.Ns mainGlobals mg) : ∃ f fd, FunD K "_law_other_right" "_law_other_right" (defArgs (top 33)) (defBody (top 33)) (defScope (top 33)) [] [] f fd ∧ mg "_law_other_right" = some (.ref f) := by
  obtain ⟨fd, F⟩ := c.t.d.def_ 24 (d := d_33) rfl
  exact ⟨_, fd, F, He.glo_ok X G (c.t.d.fact 24 (f := .glo "_law_other_right") rfl)⟩
theorem h_34 (X : K.In h) (c : He.SaysX fa fn [] tf ex2 w h K) (G : h.Ns mainGlobals mg) : ∃ f fd, FunD K "_law_spoilt" "_law_spoilt" (defArgs (top 34)) (defBody (top 34)) (defScope (top 34)) [] [] f fd ∧ mg "_law_spoilt" = some (.ref f) := by
  obtain ⟨fd, F⟩ := c.t.d.def_ 25 (d := d_34) rfl
  exact ⟨_, fd, F, He.glo_ok X G (c.t.d.fact 25 (f := .glo "_law_spoilt") rfl)⟩
theorem h_35 (X : K.In h) (c : He.SaysX fa fn [] tf ex2 w h K) (G : h.Ns mainGlobals mg) : ∃ f fd, FunD K "law" "law" (defArgs (top 35)) (defBody (top 35)) (defScope (top 35)) [] [] f fd ∧ mg "law" = some (.ref f) := by
  obtain ⟨fd, F⟩ := c.t.d.def_ 26 (d := d_35) rfl
  exact ⟨_, fd, F, He.glo_ok X G (c.t.d.fact 26 (f := .glo "law") rfl)⟩
theorem h_mg (X : K.In h) (c : He.SaysX fa fn [] tf ex2 w h K) (G : h.Ns mainGlobals mg) : Mg mg where
  isinstance := He.free_ok X G (c.t.d.fact 29 (f := .free "isinstance") rfl)
  tuple := He.free_ok X G (c.t.d.fact 30 (f := .free "tuple") rfl)
  list := He.free_ok X G (c.t.d.fact 31 (f := .free "list") rfl)
  str := He.free_ok X G (c.t.d.fact 32 (f := .free "str") rfl)
  int := He.free_ok X G (c.t.d.fact 33 (f := .free "int") rfl)
  bool := He.free_ok X G (c.t.d.fact 34 (f := .free "bool") rfl)
  len := He.free_ok X G (c.t.d.fact 35 (f := .free "len") rfl)
  all := He.free_ok X G (c.t.d.fact 36 (f := .free "all") rfl)
  any := He.free_ok X G (c.t.d.fact 37 (f := .free "any") rfl)
  sorted := He.free_ok X G (c.t.d.fact 38 (f := .free "sorted") rfl)
  range := He.free_ok X G (c.t.d.fact 39 (f := .free "range") rfl)
  zip := He.free_ok X G (c.t.d.fact 40 (f := .free "zip") rfl)
  super := He.free_ok X G (c.t.d.fact 41 (f := .free "super") rfl)
end
end K41
end

section
set_option Elab.async false
set_option linter.all false
set_option maxRecDepth 100000
set_option maxHeartbeats 400000
set_option pp.maxSteps 300
/-! The facts of the classes. -/
namespace K41
open PySem PySem.Spec PyProof.Rows L2 Cr
section
variable {w : World} {h : Heap} {K : PySem.W.Frag} {mg : Str → Option Value}
theorem ex_at (c : He.SaysX fa fn [] tf ex2 w h K) (i : Nat) {b : Bool} (e : (exC K)[i]? = some b := by rfl) : b = true := by
  have z : (exC K).all id = true := c.more
  exact List.all_eq_true.mp z b (List.mem_of_getElem? e)
theorem h_try (X : K.In h) (c : He.SaysX fa fn [] tf ex2 w h K) (G : h.Ns mainGlobals mg) : TryT (Bw w K) mg where
  mgB := He.glo_ok X G (c.t.d.fact 28 (f := .glo "BadPaper") rfl)
  fld := rfl
  exc := by
    have x := xfB_ok (ex_at c 18)
    exact ⟨x.ga, x.gg, x.exC, x.hdC, He.eqO_ok (ex_at c 19), He.eqO_ok (ex_at c 20), of_decide_eq_true (ex_at c 21), of_decide_eq_true (ex_at c 16)⟩
  xf := xfB_ok (ex_at c 18)
  no := He.eqO_ok (ex_at c 11)
  ex := of_decide_eq_true (ex_at c 22)
  up := ⟨cE K, He.glo_ok X G (c.t.d.fact 27 (f := .glo "TraceError") rfl), of_decide_eq_true (ex_at c 23)⟩
end
end K41
end

section
set_option Elab.async false
set_option linter.all false
set_option maxRecDepth 100000
set_option maxHeartbeats 400000
set_option pp.maxSteps 300
/-! BadPaper can be raised. -/
namespace K41
open PySem PySem.Spec PyProof.Rows L2 Cr
section
variable {w : World} {h : Heap} {K : PySem.W.Frag} {mg : Str → Option Value}
theorem i_fn (c : He.SaysX fa fn [] tf ex2 w h K) (iv : iObs K = iVal) : ∃ oc od kV doc pm an ct osl, K.lookup (iF K) = some ⟨oc, od, .func (PySem.W.ksFn "__init__" "BadPaper.__init__" (defArgs initS) (defBody initS) (defScope initS) .none kV doc pm an (.ref (iCda K)) ct (iCc K)), osl⟩ := by
  have e1 : c1 K = true := ex_at c 0
  unfold c1 at e1
  unfold iObs at iv
  split at e1
  · rename_i oc od fd osl q
    rw [q] at iv
    obtain ⟨a1, a2⟩ := He.ba e1
    have u1 := of_decide_eq_true a1
    obtain ⟨a3, a4⟩ := He.ba a2
    have u2 := of_decide_eq_true a3
    have u3 := of_decide_eq_true a4
    clear a1 a2 a3 a4
    obtain ⟨n1, n2, n3, n4, n5, n6, n7, n8, n9, n10, n11, n12, n13, n14, n15⟩ := fd
    simp only at u1 u2 u3
    subst u1 u2 u3
    have iv' := Option.some.inj iv
    simp only [Prod.mk.injEq] at iv'
    obtain ⟨b1, b2, b3, b4, b5, b6, b7⟩ := iv'
    subst b1 b2 b3 b4 b5 b6 b7
    exact ⟨_, _, _, _, _, _, _, _, q⟩
  · cases e1
theorem h_excS (X : K.In h) (c : He.SaysX fa fn [] tf ex2 w h K) (iv : iObs K = iVal) : ExcS R.prog K (cB K) (iF K) (iCc K) (iCda K) "BadPaper.__init__" (defArgs initS) (defBody initS) (defScope initS) "at" where
  init := ex_at c 4
  iC := He.eqO_ok (ex_at c 5)
  tI := of_decide_eq_true (ex_at c 6)
  fn := i_fn c iv
  code := ex_at c 7
  codeO := by
    have e : c2 K = true := ex_at c 1
    unfold c2 at e
    split at e
    · rename_i oc od vs osl q
      unfold fileIs at e
      split at e
      · rename_i file tk q2
        exact ⟨_, _, vs, _, file, tk, q, q2, e⟩
      · cases e
    · cases e
  cell := by
    have e : c3 K = true := ex_at c 2
    unfold c3 at e
    split at e
    · rename_i oc od a osl q
      have e2 := of_decide_eq_true e
      subst e2
      exact ⟨_, _, _, q⟩
    · cases e
  sup := of_decide_eq_true (ex_at c 8)
  subE := of_decide_eq_true (ex_at c 9)
  sa := He.eqO_ok (ex_at c 10)
  noF := He.eqO_ok (ex_at c 11)
  exC := of_decide_eq_true (ex_at c 12)
  tyC := of_decide_eq_true (ex_at c 13)
  kC := ex_at c 14
  opq := He.eqO_ok (ex_at c 15)
  ob := of_decide_eq_true (ex_at c 16)
  self := of_decide_eq_true (ex_at c 17)
  cls := by
    have e : c4 K = true := ex_at c 3
    unfold c4 at e
    split at e
    · rename_i cd q
      obtain ⟨a1, a2⟩ := He.ba e
      exact ⟨cd, q, a1, cE K, of_decide_eq_true a2⟩
    · cases e
end
end K41
end

section
set_option Elab.async false
set_option linter.all false
set_option maxRecDepth 100000
set_option maxHeartbeats 400000
set_option pp.maxSteps 300
/-! BadPaper can be raised: the rest. -/
namespace K41
open PySem PySem.Spec PyProof.Rows L2 Cr
section
variable {w : World} {h : Heap} {K : PySem.W.Frag} {mg : Str → Option Value}
theorem h_raise (X : K.In h) (c : He.SaysX fa fn [] tf ex2 w h K) (iv : iObs K = iVal) (G : h.Ns mainGlobals mg) : RaiseT (Bw w K) mg where
  mgB := He.glo_ok X G (c.t.d.fact 28 (f := .glo "BadPaper") rfl)
  init := ⟨iF K, iCc K, iCda K, "BadPaper.__init__", defArgs initS, defScope initS, "a line of a paper is not right", 0, ⟨7, 8, 7, 13⟩, ⟨7, 8, 7, 15⟩, ⟨7, 8, 7, 24⟩, ⟨7, 25, 7, 57⟩, ⟨7, 8, 7, 58⟩, ⟨7, 8, 7, 58⟩, ⟨8, 8, 8, 12⟩, ⟨8, 8, 8, 15⟩, ⟨8, 18, 8, 20⟩, ⟨8, 8, 8, 20⟩, {
    T := h_excS X c iv
    hsup := (h_mg X c G).super
    htop := by kernel_rfl
    hbind := fun e v kV doc pm an ct => rfl
    hs := rfl
    hco := rfl
    hgen := rfl
    hcell := by decide +kernel
    l1 := rfl
    l2 := rfl
    l3 := rfl
    l4 := rfl
    hpar := ⟨_, rfl, rfl⟩
    hfs := by show ("at" : Str) ≠ "self"; decide +kernel
    hfd := by show (("at" : Str) == ("__debug__" : Str)) = false; decide +kernel
    hmc := fun L => ⟨_, rfl⟩
    hsw1 := fun L => rfl
    hsw2 := fun L => rfl }⟩
end
end K41
end

section
set_option Elab.async false
set_option linter.all false
set_option maxRecDepth 100000
set_option maxHeartbeats 1000000
set_option pp.maxSteps 400
/-! Mathematics, part t: texts, lines, words. What is due of a paper is what is asked. -/
namespace K41
open PySem TL

theorem nl_eq : ("\n" : Str) = ⟨#[10]⟩ := by decide +kernel
theorem sp_eq : (" " : Str) = ⟨#[32]⟩ := by decide +kernel
theorem app_assoc (x y z : Str) : x ++ y ++ z = x ++ (y ++ z) := ext_tl (by rw [tl_append, tl_append, tl_append, tl_append, List.append_assoc])
theorem tl_empty : tl (Str.empty) = [] := rfl
theorem e_eq : ("" : Str) = Str.empty := by decide +kernel
theorem app_nil (x : Str) : x ++ ("" : Str) = x := ext_tl (by rw [tl_append, e_eq, tl_empty, List.append_nil])
theorem nil_app (x : Str) : ("" : Str) ++ x = x := ext_tl (by rw [tl_append, e_eq, tl_empty, List.nil_append])
theorem app_inj {x y z : Str} (h : x ++ z = y ++ z) : x = y := ext_tl (by
  have e := congrArg tl h
  rw [tl_append, tl_append] at e
  exact List.append_cancel_right e)
theorem app_injL {x y z : Str} (h : z ++ x = z ++ y) : x = y := ext_tl (by
  have e := congrArg tl h
  rw [tl_append, tl_append] at e
  exact List.append_cancel_left e)
theorem len_app (x y : Str) : (x ++ y).length = x.length + y.length := by rw [len_tl, len_tl x, len_tl y, tl_append, List.length_append]

/-! ### joined texts -/
def cat (l : List Str) : Str := Txt.join "" l
theorem cat_nil : cat [] = "" := by
  unfold cat
  rw [join_eq, e_eq] <;> rfl
theorem cat_cons (x : Str) (l : List Str) : cat (x :: l) = x ++ cat l := by
  unfold cat
  rw [join_eq, join_eq]
  cases l with
  | nil =>
    show x = x ++ Str.join "" []
    show x = x ++ Str.empty
    rw [← e_eq, app_nil]
  | cons y r =>
    show x ++ ("" : Str) ++ Str.join "" (y :: r) = _
    rw [app_nil]
theorem cat_append (l m : List Str) : cat (l ++ m) = cat l ++ cat m := by
  induction l with
  | nil => rw [List.nil_append, cat_nil, nil_app]
  | cons x l ih => rw [List.cons_append, cat_cons, ih, cat_cons, app_assoc]
/-- words behind a word -/
theorem join_words (w : Str) (row : List Str) : Txt.join " " (w :: row) = w ++ cat (row.map fun t => (" " : Str) ++ t) := by
  induction row generalizing w with
  | nil => rw [List.map_nil, cat_nil, app_nil, join_eq] <;> rfl
  | cons t r ih =>
    rw [List.map_cons, cat_cons, app_assoc, ← ih t, join_eq, join_eq]
    show w ++ (" " : Str) ++ Str.join " " (t :: r) = _
    rw [app_assoc]

/-! ### cut texts -/
abbrev sg (c : Nat) : Str := ⟨#[c]⟩
abbrev Free (c : Nat) (x : Str) : Prop := c ∉ tl x
theorem split_ne (x : Str) (c : Nat) : Txt.split x (sg c) ≠ [] := by
  unfold Txt.split
  split
  · simp
  · split
    · simp
    · rw [StrLaws.partsBetween_eq]
      obtain ⟨p, r, e⟩ := StrLaws.partsFrom_ne x (sg c).length 0 (Builtin.Str.occurrences x (sg c) 0 x.length (x.length + 1))
      rw [e]
      simp
theorem split_back (x : Str) (c : Nat) : Txt.join (sg c) (Txt.split x (sg c)) = x := by rw [join_eq, StrLaws.join_split]
theorem split_free (x : Str) (c : Nat) : ∀ p ∈ Txt.split x (sg c), Free c p := StrLaws.split_free x c
theorem split_of {c : Nat} (hc : c < 256) {parts : List Str} (hne : parts ≠ []) (hp : ∀ p ∈ parts, Free c p) : Txt.split (Txt.join (sg c) parts) (sg c) = parts :=
  split_join (s := c) (S := []) rfl (by simp [sg, hc]) hne hp
theorem split_iff {c : Nat} (hc : c < 256) {x : Str} {parts : List Str} (hne : parts ≠ []) (hp : ∀ p ∈ parts, Free c p) : Txt.split x (sg c) = parts ↔ x = Txt.join (sg c) parts :=
  ⟨fun e => by rw [← e, split_back], fun e => by rw [e, split_of hc hne hp]⟩
/-- a joined text, one more part -/
theorem join_snoc (y : Str) : ∀ (l : List Str) (z : Str), l ≠ [] → Txt.join y (l ++ [z]) = Txt.join y l ++ y ++ z
  | [], _, h => absurd rfl h
  | [x], z, _ => by
    rw [join_eq, join_eq] <;> rfl
  | x :: x2 :: r, z, _ => by
    have ih := join_snoc y (x2 :: r) z (by simp)
    rw [join_eq, join_eq] at ih ⊢
    show x ++ y ++ Str.join y (x2 :: r ++ [z]) = x ++ y ++ Str.join y (x2 :: r) ++ y ++ z
    rw [ih]
    simp only [app_assoc]
theorem split_line {c : Nat} (hc : c < 256) (x : Str) : Txt.split (x ++ sg c) (sg c) = Txt.split x (sg c) ++ [("" : Str)] := by
  rw [split_iff hc (by simp) fun p hp => ?_]
  · rw [join_snoc _ _ _ (split_ne x c), split_back, app_nil]
  · rcases List.mem_append.mp hp with h | h
    · exact split_free x c p h
    · rw [List.mem_singleton.mp h, e_eq]
      simp [Free, tl_empty]
/-- the empty last part -/
theorem split_last {c : Nat} (x : Str) (h : (Txt.split x (sg c)).getLast (split_ne x c) = "") : x = "" ∨ ∃ y, x = y ++ sg c := by
  have e := split_back x c
  have d := List.dropLast_concat_getLast (split_ne x c)
  rw [h] at d
  rw [← d] at e
  cases q : (Txt.split x (sg c)).dropLast with
  | nil =>
    rw [q] at e
    left
    rw [← e, join_eq] <;> rfl
  | cons a l =>
    rw [q] at e
    right
    rw [join_snoc _ _ _ (by simp), app_nil] at e
    exact ⟨_, e.symm⟩
theorem split_nil {c : Nat} (hc : c < 256) : Txt.split "" (sg c) = [("" : Str)] := by
  rw [split_iff hc (by simp) fun p hp => ?_]
  · rw [join_eq] <;> rfl
  · rw [List.mem_singleton.mp hp, e_eq]
    simp [Free, tl_empty]
/-! ### the last sign -/
theorem tl_sg (c : Nat) : tl (sg c) = [c] := rfl
theorem ends_iff (x : Str) (c : Nat) : Txt.endswith x (sg c) = true ↔ ∃ y, x = y ++ sg c := by
  unfold Txt.endswith Builtin.Str.subAt
  constructor
  · intro h
    rw [Bool.and_eq_true, decide_eq_true_eq, beq_iff_eq] at h
    obtain ⟨h1, h2⟩ := h
    have hl : (sg c).length = 1 := rfl
    rw [hl] at h1 h2
    refine ⟨⟨((tl x).take (x.length - 1)).toArray⟩, ext_tl ?_⟩
    rw [tl_append, tl_mk, tl_sg]
    have e := congrArg Array.toList h2
    rw [Array.toList_extract] at e
    have e' : ((tl x).drop (x.length - 1)).take 1 = [c] := by simpa [tl, List.extract] using e
    rw [List.take_of_length_le (by rw [List.length_drop, ← len_tl]; omega)] at e'
    rw [← e', List.take_append_drop]
  · rintro ⟨y, rfl⟩
    rw [Bool.and_eq_true, decide_eq_true_eq, beq_iff_eq]
    have hl : (sg c).length = 1 := rfl
    rw [len_app, hl]
    refine ⟨by omega, ?_⟩
    apply Array.toList_inj.mp
    rw [Array.toList_extract]
    show List.extract (tl (y ++ sg c)) _ _ = [c]
    rw [tl_append, tl_sg]
    have : (tl y).length = y.length := (len_tl y).symm
    simp [List.extract, this]
theorem cut_last (y : Str) (c : Nat) : L2.cutS (y ++ sg c) none (some (-1)) = y := by
  apply ext_tl
  unfold L2.cutS
  rw [tl_mk]
  show ((tl (y ++ sg c)).drop _).take _ = _
  have hl : (sg c).length = 1 := rfl
  rw [tl_append, tl_sg, len_app, hl]
  have : (tl y).length = y.length := (len_tl y).symm
  have h2 : (-1 + ((y.length : Int) + 1)).toNat = y.length := by omega
  simp [HT.sIx, this, h2]
end K41
end

section
set_option Elab.async false
set_option linter.all false
set_option maxRecDepth 100000
set_option maxHeartbeats 1000000
set_option pp.maxSteps 400
/-! Mathematics, part u: what is due of a paper is what is asked of it. -/
namespace K41
open PySem TL

def within (row ts : List Str) : Bool := row.all fun t => decide (t ∈ ts)
def whyL (row : List Str) : Str := ("why" : Str) ++ cat (row.map fun t => (" " : Str) ++ t)
def lackL (t : Str) : Str := ("lacks " : Str) ++ t
def wordsOf (x : Str) : List Str := Txt.split x " "
def linesOf (x : Str) : List Str := Txt.split x "\n"
abbrev FreeR (R : List (List Str)) : Prop := ∀ row ∈ R, ∀ t ∈ row, Free 32 t
theorem why_free : Free 32 ("why" : Str) := by unfold Free tl; decide +kernel
theorem lacks_free : Free 32 ("lacks" : Str) := by unfold Free tl; decide +kernel
theorem whyL_join (row : List Str) : whyL row = Txt.join " " ("why" :: row) := (join_words _ _).symm
theorem lackL_join (t : Str) : lackL t = Txt.join " " ["lacks", t] := by
  have e : ("lacks " : Str) = ("lacks" : Str) ++ (" " : Str) := by decide +kernel
  rw [join_eq]
  show ("lacks " : Str) ++ t = ("lacks" : Str) ++ (" " : Str) ++ t
  rw [e]
theorem words_join {parts : List Str} (hne : parts ≠ []) (hp : ∀ p ∈ parts, Free 32 p) : wordsOf (Txt.join " " parts) = parts := by
  unfold wordsOf
  rw [sp_eq]
  exact split_of (by decide) hne hp
theorem words_back (x : Str) : Txt.join " " (wordsOf x) = x := by
  unfold wordsOf
  rw [sp_eq]
  exact split_back x 32
theorem words_ne (x : Str) : wordsOf x ≠ [] := by
  unfold wordsOf
  rw [sp_eq]
  exact split_ne x 32
theorem lines_ne (x : Str) : linesOf x ≠ [] := by
  unfold linesOf
  rw [nl_eq]
  exact split_ne x 10
/-- a line that tells tokens -/
theorem why_iff {row : List Str} {line : Str} (hf : ∀ t ∈ row, Free 32 t) : line = whyL row ↔ wordsOf line = (("why" : Str) :: row) := by
  rw [whyL_join]
  constructor
  · intro e
    rw [e, words_join (by simp)]
    intro p hp
    rcases List.mem_cons.mp hp with rfl | h
    · exact why_free
    · exact hf p h
  · intro e
    rw [← e, words_back]
theorem lack_iff {t line : Str} (hf : Free 32 t) : line = lackL t ↔ wordsOf line = [("lacks" : Str), t] := by
  rw [lackL_join]
  constructor
  · intro e
    rw [e, words_join (by simp)]
    intro p hp
    rcases List.mem_cons.mp hp with rfl | h
    · exact lacks_free
    · rw [List.mem_singleton.mp h]
      exact hf
  · intro e
    rw [← e, words_back]
def askWhy (R : List (List Str)) (ts : List Str) (line : Str) : Bool := R.any fun row => decide (line = whyL row) && within row ts
def dueWhy (R : List (List Str)) (ts : List Str) (line : Str) : Bool := decide ((wordsOf line).headD "" = ("why" : Str)) && (decide ((wordsOf line).tail ∈ R) && within (wordsOf line).tail ts)
theorem why_same {R : List (List Str)} (hf : FreeR R) (ts : List Str) (line : Str) : askWhy R ts line = dueWhy R ts line := by
  rw [Bool.eq_iff_iff]
  unfold askWhy dueWhy
  rw [List.any_eq_true, Bool.and_eq_true, Bool.and_eq_true, decide_eq_true_eq, decide_eq_true_eq]
  constructor
  · rintro ⟨row, hr, h⟩
    rw [Bool.and_eq_true, decide_eq_true_eq] at h
    have e := (why_iff (hf row hr)).mp h.1
    rw [e]
    exact ⟨rfl, hr, h.2⟩
  · rintro ⟨h1, h2, h3⟩
    refine ⟨_, h2, ?_⟩
    rw [Bool.and_eq_true, decide_eq_true_eq]
    refine ⟨(why_iff (hf _ h2)).mpr ?_, h3⟩
    cases q : wordsOf line with
    | nil => exact absurd q (words_ne line)
    | cons a l =>
      rw [q] at h1
      have h1' : a = "why" := h1
      rw [h1'] <;> rfl
def askLine (ts row : List Str) (line : Str) : Bool := decide (line ∈ (row.filter fun t => !decide (t ∈ ts)).map lackL)
def dueLine (ts row : List Str) (line : Str) : Bool := decide ((wordsOf line).length = 2) && (decide ((wordsOf line).headD "" = ("lacks" : Str)) && (!decide ((wordsOf line).getD 1 "" ∈ ts) && decide ((wordsOf line).getD 1 "" ∈ row)))
theorem line_same {row : List Str} (hf : ∀ t ∈ row, Free 32 t) (ts : List Str) (line : Str) : askLine ts row line = dueLine ts row line := by
  rw [Bool.eq_iff_iff]
  unfold askLine dueLine
  simp only [Bool.and_eq_true, decide_eq_true_eq, List.mem_map, List.mem_filter, Bool.not_eq_true', decide_eq_false_iff_not]
  constructor
  · rintro ⟨t, ⟨h1, h2⟩, h3⟩
    have e := (lack_iff (hf t h1)).mp h3.symm
    rw [e]
    exact ⟨rfl, rfl, h2, h1⟩
  · rintro ⟨h1, h2, h3, h4⟩
    match q : wordsOf line, h1 with
    | [a, b], _ =>
      rw [q] at h2 h3 h4
      have h2' : a = "lacks" := h2
      refine ⟨b, ⟨h4, h3⟩, ((lack_iff (hf b h4)).mpr ?_).symm⟩
      rw [q, h2']
def askNot (R : List (List Str)) (ts : List Str) (lines : List Str) : Bool := decide (lines.length = R.length) && (lines.zip R).all fun z => askLine ts z.2 z.1
def dueNot (R : List (List Str)) (ts : List Str) (lines : List Str) : Bool := (List.range R.length).all fun k => dueLine ts (R.getD k []) (lines.getD k "")
theorem all_range {α : Type} (f : List Str → Str → Bool) : ∀ (R : List (List Str)) (l : List Str), l.length = R.length → (l.zip R).all (fun z => f z.2 z.1) = (List.range R.length).all fun k => f (R.getD k []) (l.getD k "")
  | [], [], _ => rfl
  | [], _ :: _, h => by simp at h
  | _ :: _, [], h => by simp at h
  | r :: R, x :: l, h => by
    rw [List.zip_cons_cons, List.all_cons, all_range (α := α) f R l (by simpa using h), List.length_cons, List.range_succ_eq_map, List.all_cons, List.all_map]
    rfl
theorem not_same {R : List (List Str)} (hf : FreeR R) (ts lines : List Str) (hl : lines.length = R.length) : askNot R ts lines = dueNot R ts lines := by
  unfold askNot dueNot
  rw [decide_eq_true hl, Bool.true_and]
  rw [← all_range (α := Unit) (dueLine ts) R lines hl]
  rw [Bool.eq_iff_iff, List.all_eq_true, List.all_eq_true]
  have key : ∀ z ∈ lines.zip R, askLine ts z.2 z.1 = dueLine ts z.2 z.1 := fun z hz => line_same (hf _ (List.of_mem_zip hz).2) ts z.1
  exact ⟨fun h z hz => (key z hz) ▸ h z hz, fun h z hz => (key z hz).symm ▸ h z hz⟩
/-- the answers: told so, or no paper -/
inductive Ans where
  | told (b : Bool) | bad
def pick (a b : Bool) : Ans := cond a (.told true) (cond b (.told false) .bad)
def askV (R : List (List Str)) (ts : List Str) (text : Str) : Ans :=
  cond (Txt.endswith text "\n")
    (let L := linesOf (L2.cutS text none (some (-1)))
     pick (decide (L.length = 1) && askWhy R ts (L.headD "")) (decide (L.headD "" = ("not" : Str)) && askNot R ts L.tail)) .bad
def dueV (R : List (List Str)) (ts : List Str) (text : Str) : Ans :=
  let L := linesOf text
  cond (decide (L.getLastD "" = ("" : Str)))
    (pick (decide (L.length = 2) && dueWhy R ts (L.headD "")) (decide (L.headD "" = ("not" : Str)) && decide (L.length = R.length + 2) && dueNot R ts L.tail)) .bad
theorem not_nil : ("" : Str) ≠ ("not" : Str) := by decide +kernel
theorem why_nil (R : List (List Str)) (ts : List Str) : dueWhy R ts "" = false := by
  have e : wordsOf "" = [("" : Str)] := by
    unfold wordsOf
    rw [sp_eq]
    exact split_nil (by decide)
  unfold dueWhy
  rw [e]
  have : decide (([("" : Str)]).headD "" = ("why" : Str)) = false := by decide +kernel
  rw [this] <;> rfl
theorem getLastD_eq {l : List Str} (h : l ≠ []) : l.getLastD "" = l.getLast h := by
  cases l with
  | nil => exact absurd rfl h
  | cons a l => rw [List.getLastD_cons, List.getLast_eq_getLastD]
theorem due_same {R : List (List Str)} (hf : FreeR R) (ts : List Str) (text : Str) : dueV R ts text = askV R ts text := by
  unfold askV
  by_cases he : Txt.endswith text "\n" = true
  · rw [he, cond_true]
    rw [nl_eq] at he
    obtain ⟨y, rfl⟩ := (ends_iff text 10).mp he
    have hL : linesOf (y ++ sg 10) = linesOf y ++ [("" : Str)] := by
      unfold linesOf
      rw [nl_eq]
      exact split_line (by decide) y
    have hc : L2.cutS (y ++ sg 10) none (some (-1)) = y := cut_last y 10
    rw [hc]
    unfold dueV
    rw [hL]
    have hn := lines_ne y
    generalize linesOf y = L at hn ⊢
    cases L with
    | nil => exact absurd rfl hn
    | cons a l =>
      have h1 : ((a :: l) ++ [("" : Str)]).getLastD "" = "" := by
        rw [getLastD_eq (by simp), List.getLast_append_of_ne_nil _ (by simp)] <;> rfl
      have e1 : ((a :: l) ++ [("" : Str)]).headD "" = a := rfl
      have e2 : ((a :: l) ++ [("" : Str)]).tail = l ++ [("" : Str)] := rfl
      have e3 : ((a :: l) ++ [("" : Str)]).length = l.length + 2 := by simp
      have e4 : (a :: l).length = l.length + 1 := rfl
      show cond (decide (((a :: l) ++ [("" : Str)]).getLastD "" = "")) (pick (decide (((a :: l) ++ [("" : Str)]).length = 2) && dueWhy R ts a) (decide (a = ("not" : Str)) && decide (((a :: l) ++ [("" : Str)]).length = R.length + 2) && dueNot R ts (l ++ [("" : Str)]))) Ans.bad =
        pick (decide (l.length + 1 = 1) && askWhy R ts a) (decide (a = ("not" : Str)) && askNot R ts l)
      rw [decide_eq_true h1, cond_true, e3, why_same hf]
      have h2 : decide (l.length + 2 = 2) = decide (l.length + 1 = 1) := by
        by_cases q : l.length = 0 <;> simp [q]
      have h3 : decide (l.length + 2 = R.length + 2) = decide (l.length = R.length) := by
        by_cases q : l.length = R.length
        · simp [q]
        · rw [decide_eq_false (by omega), decide_eq_false q]
      rw [h2, h3]
      have h4 : (decide (a = ("not" : Str)) && decide (l.length = R.length) && dueNot R ts (l ++ [("" : Str)])) = (decide (a = ("not" : Str)) && askNot R ts l) := by
        by_cases q : l.length = R.length
        · rw [decide_eq_true q, Bool.and_true, not_same hf ts l q]
          have : dueNot R ts (l ++ [("" : Str)]) = dueNot R ts l := by
            unfold dueNot
            rw [Bool.eq_iff_iff, List.all_eq_true, List.all_eq_true]
            have key : ∀ k ∈ List.range R.length, (l ++ [("" : Str)]).getD k "" = l.getD k "" := fun k hk => by
              have hk' : k < l.length := by rw [q]; exact List.mem_range.mp hk
              rw [List.getD_eq_getElem?_getD, List.getElem?_append_left hk', ← List.getD_eq_getElem?_getD]
            exact ⟨fun h k hk => by rw [← key k hk]; exact h k hk, fun h k hk => by rw [key k hk]; exact h k hk⟩
          rw [this]
        · unfold askNot
          rw [decide_eq_false q, Bool.and_false, Bool.false_and, Bool.false_and, Bool.and_false]
      rw [h4]
  · rw [Bool.eq_false_iff.mpr he, cond_false]
    unfold dueV
    have hg := getLastD_eq (lines_ne text)
    by_cases hl : (linesOf text).getLastD "" = ("" : Str)
    · rw [hg] at hl
      have hs : text = "" ∨ ∃ y, text = y ++ sg 10 := by
        refine split_last text ?_
        unfold linesOf at hl
        simp only [nl_eq] at hl
        exact hl
      rcases hs with rfl | ⟨y, rfl⟩
      · have e : linesOf "" = [("" : Str)] := by
          unfold linesOf
          rw [nl_eq]
          exact split_nil (by decide)
        show cond _ (pick (_ && dueWhy R ts ((linesOf "").headD "")) (decide ((linesOf "").headD "" = ("not" : Str)) && _ && _)) Ans.bad = Ans.bad
        rw [e]
        show cond _ (pick (_ && dueWhy R ts "") (decide (("" : Str) = ("not" : Str)) && _ && _)) Ans.bad = Ans.bad
        rw [why_nil, Bool.and_false, decide_eq_false not_nil, Bool.false_and, Bool.false_and]
        cases (decide (([("" : Str)] : List Str).getLastD "" = "")) <;> rfl
      · refine absurd ((ends_iff _ 10).mpr ⟨y, rfl⟩) ?_
        have : (sg 10) = ("\n" : Str) := nl_eq.symm
        rw [this] at he ⊢
        exact he
    · show cond (decide _) _ _ = _
      rw [decide_eq_false hl, cond_false]
end K41
end

section
set_option Elab.async false
set_option linter.all false
set_option maxRecDepth 100000
set_option maxHeartbeats 1000000
set_option pp.maxSteps 400
/-! Mathematics, part v: rows in their order; the first least one within. -/
namespace K41
open PySem TL Cr PySem.W

def sD (l : List Str) : List PyData := l.map .str
def eU (l : List Str) : D := .tup (l.map .str)
def eL (l : List Str) : D := .lst (l.map .str)
def rLt (a b : List Str) : Bool := rowLt (sD a) (sD b)
theorem rLt_nn : rLt [] [] = false := PyProof.Rows.lex_irrefl _
theorem rLt_nc (y : Str) (b : List Str) : rLt [] (y :: b) = true := by
  show rowLt [] (PyData.str y :: sD b) = true
  unfold rowLt
  rw [toks_all_cons]
  simp only [keyToksAll]
  rw [PyProof.Rows.lex_diff (O := PyProof.Rows.itemOrd) (by simp)]
  rfl
theorem rLt_cn (x : Str) (a : List Str) : rLt (x :: a) [] = false := by
  show rowLt (PyData.str x :: sD a) [] = false
  unfold rowLt
  rw [toks_all_cons]
  simp only [keyToksAll]
  rw [PyProof.Rows.lex_diff (O := PyProof.Rows.itemOrd) (by simp)]
  rfl
theorem rLt_cons (x y : Str) (a b : List Str) : rLt (x :: a) (y :: b) = if x = y then rLt a b else decide (x.cps.toList < y.cps.toList) := by
  show rowLt (PyData.str x :: sD a) (PyData.str y :: sD b) = _
  unfold rowLt
  rw [dataLt_cons (by simp [alike]), dataLt_str]
  simp only [PyData.eqv, beq_iff_eq]
  rfl
theorem eqvAll_strs : ∀ a b : List Str, PyData.eqvAll (sD a) (sD b) = decide (a = b)
  | [], [] => by simp [sD, PyData.eqvAll]
  | [], _ :: _ => by simp [sD, PyData.eqvAll]
  | _ :: _, [] => by simp [sD, PyData.eqvAll]
  | x :: a, y :: b => by
    have ih := eqvAll_strs a b
    show PyData.eqvAll (PyData.str x :: sD a) (PyData.str y :: sD b) = _
    simp only [PyData.eqvAll, PyData.eqv, ih, List.cons.injEq, Bool.decide_and]
    congr 1
theorem ltPs_strs : ∀ a b : List Str, ltPs (sD a) (sD b) = some (rLt a b)
  | [], [] => by rw [rLt_nn]; simp [sD, ltPs]
  | [], y :: b => by rw [rLt_nc]; simp [sD, ltPs]
  | x :: a, [] => by rw [rLt_cn]; simp [sD, ltPs]
  | x :: a, y :: b => by
    show ltPs (PyData.str x :: sD a) (PyData.str y :: sD b) = _
    rw [rLt_cons, ltPs, ltPs_strs a b]
    simp only [PyData.eqv, beq_iff_eq]
    by_cases h : x = y
    · simp [h]
    · simp [h, ltP]
theorem nat_tri : ∀ {a b : List Nat}, ¬ a < b → ¬ b < a → a = b := fun h1 h2 => List.le_antisymm (List.not_lt.mp h2) (List.not_lt.mp h1)
theorem rLt_tri : ∀ {a b : List Str}, rLt a b = false → rLt b a = false → a = b
  | [], [], _, _ => rfl
  | [], y :: b, h, _ => by rw [rLt_nc] at h; cases h
  | x :: a, [], _, h => by rw [rLt_nc] at h; cases h
  | x :: a, y :: b, h1, h2 => by
    rw [rLt_cons] at h1 h2
    by_cases h : x = y
    · rw [if_pos h] at h1
      rw [if_pos h.symm] at h2
      rw [h, rLt_tri h1 h2]
    · rw [if_neg h] at h1
      rw [if_neg (Ne.symm h)] at h2
      exact absurd (ext_tl (nat_tri (of_decide_eq_false h1) (of_decide_eq_false h2))) h
theorem rLt_irr (a : List Str) : rLt a a = false := PyProof.Rows.lex_irrefl _
/-- by length, then as rows -/
def kLt (a b : List Str) : Bool := decide (a.length < b.length) || (decide (a.length = b.length) && rLt a b)
def kD (a : List Str) : PyData := .tuple [.int (a.length : Int), .tuple (sD a)]
theorem dataLt_kD (a b : List Str) : dataLt (kD a) (kD b) = kLt a b := by
  unfold kD kLt
  have h2 : alike (.tuple (sD a)) (.tuple (sD b)) = true := by
    simp only [alike]
    have : ∀ a b : List Str, alikeAll (sD a) (sD b) = true := fun a => by
      induction a with
      | nil => intro b; simp [sD, alikeAll]
      | cons x a ih =>
        intro b
        cases b with
        | nil => simp [sD, alikeAll]
        | cons y b =>
          show alikeAll (PyData.str x :: sD a) (PyData.str y :: sD b) = true
          simp [alikeAll, alike, ih b]
    exact this a b
  rw [dataLt_pair (by simp [alike]) h2, dataLt_int, dataLt_tuple]
  simp only [PyData.eqv, beq_iff_eq]
  show (if (a.length : Int) = b.length then (if PyData.eqvAll (sD a) (sD b) = true then false else rLt a b) else decide ((a.length : Int) < b.length)) = _
  rw [eqvAll_strs]
  by_cases h : a.length = b.length
  · have h' : (a.length : Int) = b.length := by omega
    have hl : ¬ a.length < b.length := by omega
    rw [if_pos h', decide_eq_true h, decide_eq_false hl, Bool.false_or, Bool.true_and]
    by_cases e : a = b
    · rw [decide_eq_true e, if_pos rfl, e, rLt_irr]
    · rw [decide_eq_false e, if_neg (by decide)]
  · rw [if_neg (by omega : ¬ (a.length : Int) = b.length), decide_eq_false h, Bool.false_and, Bool.or_false]
    by_cases q : a.length < b.length
    · rw [decide_eq_true q, decide_eq_true (by omega)]
    · rw [decide_eq_false q, decide_eq_false (by omega)]
def kLe (a b : List Str) : Bool := !kLt b a
theorem kLe_data : (fun a b => kLe a b) = dataLe false kD := by
  funext a b
  show (!kLt b a) = !dataLt (kD b) (kD a)
  rw [dataLt_kD]
theorem kLe_total : TotalLe kLe := by
  have : kLe = dataLe false kD := kLe_data
  rw [this]
  exact sortLe_total _ _ _
theorem kLt_tri {a b : List Str} (h1 : kLt a b = false) (h2 : kLt b a = false) : a = b := by
  unfold kLt at h1 h2
  rw [Bool.or_eq_false_iff, Bool.and_eq_false_iff] at h1 h2
  have l1 := of_decide_eq_false h1.1
  have l2 := of_decide_eq_false h2.1
  have e : a.length = b.length := by omega
  refine rLt_tri ?_ ?_
  · rcases h1.2 with h | h
    · exact absurd e (of_decide_eq_false h)
    · exact h
  · rcases h2.2 with h | h
    · exact absurd e.symm (of_decide_eq_false h)
    · exact h
theorem enD_tup (a : List Str) : enD (eU a) = .tuple (sD a) := by
  have h : (a.map D.str).all strD = true := by
    rw [List.all_map]
    exact List.all_eq_true.mpr fun _ _ => rfl
  show enD (.tup (a.map .str)) = _
  rw [enD_row h, List.map_map] <;> rfl
theorem keyD_eU (a : List Str) : Cr.keyD (eU a) = kD a := by
  unfold Cr.keyD kD
  rw [enD_tup]
  have : rowLen (eU a) = a.length := by
    show (a.map D.str).length = _
    rw [List.length_map]
  rw [this]
theorem sort_map (U : List (List Str)) : (U.map eU).mergeSort (dataLe false Cr.keyD) = (U.mergeSort kLe).map eU := by
  rw [List.map_mergeSort]
  intro a _ b _
  show (!kLt b a) = !dataLt (Cr.keyD (eU b)) (Cr.keyD (eU a))
  rw [keyD_eU, keyD_eU, dataLt_kD]

/-! ### the least one -/
def stepV (best : Option (List Str)) (row : List Str) : Option (List Str) := match best with
  | none => some row
  | some b => if kLt row b = true then some row else some b
def leastV (R : List (List Str)) (ts : List Str) : Option (List Str) := (R.filter fun r => within r ts).foldl stepV none
theorem kLt_irr (a : List Str) : kLt a a = false := by
  unfold kLt
  rw [rLt_irr, Bool.and_false, Bool.or_false]
  simp
theorem fold_least : ∀ (G : List (List Str)) (b : List Str), ∃ c, G.foldl stepV (some b) = some c ∧ (c = b ∨ c ∈ G) ∧ kLt b c = false ∧ ∀ g ∈ G, kLt g c = false
  | [], b => ⟨b, rfl, .inl rfl, kLt_irr b, fun _ h => nomatch h⟩
  | r :: G, b => by
    have tr := kLe_total.trans
    by_cases h : kLt r b = true
    · obtain ⟨c, e, m, h1, h2⟩ := fold_least G r
      refine ⟨c, ?_, ?_, ?_, ?_⟩
      · rw [List.foldl_cons]
        show G.foldl stepV (if kLt r b = true then some r else some b) = _
        rw [if_pos h, e]
      · rcases m with rfl | m
        · exact .inr (List.mem_cons_self ..)
        · exact .inr (List.mem_cons_of_mem _ m)
      · -- c <= r <= b
        have a1 : kLe c r = true := by unfold kLe; rw [h1] <;> rfl
        have a2 : kLe r b = true := by
          rcases kLe_total.total r b with z | z
          · exact z
          · unfold kLe at z
            rw [h] at z
            cases z
        have a3 := tr _ _ _ a1 a2
        unfold kLe at a3
        simpa using a3
      · intro g hg
        rcases List.mem_cons.mp hg with rfl | hg
        · exact h1
        · exact h2 g hg
    · obtain ⟨c, e, m, h1, h2⟩ := fold_least G b
      refine ⟨c, ?_, ?_, h1, ?_⟩
      · rw [List.foldl_cons]
        show G.foldl stepV (if kLt r b = true then some r else some b) = _
        rw [if_neg h, e]
      · rcases m with rfl | m
        · exact .inl rfl
        · exact .inr (List.mem_cons_of_mem _ m)
      · intro g hg
        rcases List.mem_cons.mp hg with rfl | hg
        · have a1 : kLe c b = true := by unfold kLe; rw [h1] <;> rfl
          have a2 : kLe b g = true := by unfold kLe; rw [Bool.eq_false_iff.mpr h] <;> rfl
          have a3 := tr _ _ _ a1 a2
          unfold kLe at a3
          simpa using a3
        · exact h2 g hg
theorem least_none {R : List (List Str)} {ts : List Str} (h : leastV R ts = none) : ∀ r ∈ R, within r ts = false := by
  intro r hr
  cases q : within r ts with
  | false => rfl
  | true =>
    unfold leastV at h
    cases e : R.filter fun r => within r ts with
    | nil => exact absurd (List.mem_filter.mpr ⟨hr, q⟩) (by rw [e]; simp)
    | cons a G =>
      rw [e, List.foldl_cons] at h
      obtain ⟨c, e2, _⟩ := fold_least G a
      rw [show stepV none a = some a from rfl, e2] at h
      cases h
theorem least_some {R : List (List Str)} {ts b : List Str} (h : leastV R ts = some b) : b ∈ R ∧ within b ts = true ∧ ∀ g ∈ R, within g ts = true → kLt g b = false := by
  unfold leastV at h
  have mem : ∀ g, g ∈ (R.filter fun r => within r ts) ↔ g ∈ R ∧ within g ts = true := fun g => List.mem_filter
  cases e : R.filter fun r => within r ts with
  | nil => rw [e] at h; cases h
  | cons a G =>
    rw [e, List.foldl_cons] at h
    obtain ⟨c, e2, m, h1, h2⟩ := fold_least G a
    rw [show stepV none a = some a from rfl, e2] at h
    cases h
    have hm : b ∈ (R.filter fun r => within r ts) := by
      rw [e]
      rcases m with rfl | m
      · exact List.mem_cons_self ..
      · exact List.mem_cons_of_mem _ m
    refine ⟨((mem b).mp hm).1, ((mem b).mp hm).2, fun g hg hw => ?_⟩
    have hg' : g ∈ (R.filter fun r => within r ts) := (mem g).mpr ⟨hg, hw⟩
    rw [e] at hg'
    rcases List.mem_cons.mp hg' with rfl | z
    · exact h1
    · exact h2 g z
/-! ### the least sets, in the program's way -/
def addV (found : List (List Str)) (row : List Str) : List (List Str) := if (found.any fun o => within o row) = true then found else found ++ [row]
def minsV (S : List (List Str)) : List (List Str) := S.foldl addV []
theorem within_trans {a b c : List Str} (h1 : within a b = true) (h2 : within b c = true) : within a c = true := by
  unfold within at *
  rw [List.all_eq_true] at *
  intro t ht
  exact h2 t (of_decide_eq_true (h1 t ht))
theorem mins_find (ts : List Str) : ∀ (S found : List (List Str)), (S.foldl addV found).find? (fun r => within r ts) = (found.find? fun r => within r ts).or (S.find? fun r => within r ts)
  | [], found => by simp
  | r :: S, found => by
    rw [List.foldl_cons, mins_find ts S]
    unfold addV
    by_cases h : (found.any fun o => within o r) = true
    · rw [if_pos h]
      cases q : within r ts with
      | false => rw [List.find?_cons_of_neg (by rw [q]; decide)]
      | true =>
        obtain ⟨o, ho, hw⟩ := List.any_eq_true.mp h
        have hs : (found.find? fun r => within r ts).isSome = true := List.find?_isSome.mpr ⟨o, ho, within_trans hw q⟩
        cases z : found.find? fun r => within r ts with
        | none => rw [z] at hs; cases hs
        | some v => rfl
    · rw [if_neg h, List.find?_append]
      cases q : within r ts with
      | false =>
        rw [List.find?_cons_of_neg (by rw [q]; decide), List.find?_cons_of_neg (by rw [q]; decide)]
        simp
      | true =>
        rw [List.find?_cons_of_pos (by exact q), List.find?_cons_of_pos (by exact q)]
        cases found.find? fun r => within r ts <;> rfl
theorem first_least {R U : List (List Str)} (ts : List Str) (hm : ∀ r, r ∈ U ↔ r ∈ R) : (minsV (U.mergeSort kLe)).find? (fun r => within r ts) = leastV R ts := by
  have hS : (minsV (U.mergeSort kLe)).find? (fun r => within r ts) = (U.mergeSort kLe).find? fun r => within r ts := by
    unfold minsV
    rw [mins_find]
    rfl
  rw [hS]
  have mem : ∀ r, r ∈ U.mergeSort kLe ↔ r ∈ R := fun r => by rw [List.mem_mergeSort, hm]
  have srt : (U.mergeSort kLe).Pairwise fun a b => kLe a b = true := List.pairwise_mergeSort (fun a b c => kLe_total.trans a b c) (fun a b => by
    rcases kLe_total.total a b with h | h
    · rw [h] <;> rfl
    · rw [h, Bool.or_true]) U
  cases q : leastV R ts with
  | none =>
    rw [List.find?_eq_none]
    intro r hr
    have z := least_none q r ((mem r).mp hr)
    rw [z]
    decide
  | some b =>
    obtain ⟨h1, h2, h3⟩ := least_some q
    cases z : (U.mergeSort kLe).find? fun r => within r ts with
    | none =>
      rw [List.find?_eq_none] at z
      exact absurd h2 (z b ((mem b).mpr h1))
    | some f =>
      have fm := (mem f).mp (List.mem_of_find?_eq_some z)
      have fw : within f ts = true := List.find?_some (p := fun r => within r ts) z
      have e1 : kLt f b = false := h3 f fm fw
      obtain ⟨_, as, bs, e, hn⟩ := List.find?_eq_some_iff_append.mp z
      have e2 : kLt b f = false := by
        have hb : b ∈ U.mergeSort kLe := (mem b).mpr h1
        rw [e] at hb srt
        rcases List.mem_append.mp hb with hb | hb
        · have := hn b hb
          rw [h2] at this
          cases this
        · rcases List.mem_cons.mp hb with rfl | hb
          · exact kLt_irr _
          · have p := (List.pairwise_append.mp srt).2.1
            have p2 := (List.pairwise_cons.mp p).1 b hb
            unfold kLe at p2
            simpa using p2
      rw [kLt_tri e1 e2]
end K41
end

section
set_option Elab.async false
set_option linter.all false
set_option maxRecDepth 100000
set_option maxHeartbeats 1000000
set_option pp.maxSteps 400
/-! Mathematics, part a: how what is computed is evaluated. -/
namespace K41
open PySem PySem.Spec PyProof.Rows L2 Cr

/-! ### one rule for each construct -/
section
variable {η η1 η2 : En} {A A1 A2 A3 : Sto} {d x y z : D} {l l1 : List D} {b c : Bool} {ma mb mc : ExM} {ta tb : TtM} {ms : AgM} {m1 m2 : StM} {r : Out (En × Ctl)} {n : Nat}
theorem bind_ok {α β : Type} {m : M α} {f : α → M β} {A A1 : Sto} {a : α} (h : m A = .ok a A1) : (m >>= f) A = f a A1 := by rw [M.bind_def, h]
theorem bind_exc {α β : Type} {m : M α} {f : α → M β} {A A1 : Sto} {k : Nat} {a : D} (h : m A = .exc k a A1) : (m >>= f) A = .exc k a A1 := by rw [M.bind_def, h]
theorem opt_ok {α : Type} {f : Sto → Option α} {A : Sto} {a : α} (h : f A = some a) : M.opt f A = .ok a A := by
  unfold M.opt
  rw [h]
theorem optS_ok {α : Type} {f : Sto → Option (α × Sto)} {A A1 : Sto} {a : α} (h : f A = some (a, A1)) : M.optS f A = .ok a A1 := by
  unfold M.optS
  rw [h]
theorem ite_t {α : Type} {m m' : M α} {A : Sto} {r : Out α} (h : m A = r) : (if true = true then m else m') A = r := by rw [if_pos rfl, h]
theorem ite_f {α : Type} {m m' : M α} {A : Sto} {r : Out α} (h : m' A = r) : (if false = true then m else m') A = r := by rw [if_neg (by decide), h]
theorem xVar_eq {i : Nat} (h : η[i]? = some (some d)) : xVar i η A = .ok d A := by
  unfold xVar getv M.opt
  simp only [h]
theorem xInt_eq {i : Int} : xInt i η A = .ok (.int i) A := rfl
theorem xStr_eq {i : Str} : xStr i η A = .ok (.str i) A := rfl
theorem xBl_eq {i : Bool} : xBl i η A = .ok (.bl i) A := rfl
theorem xNon_eq : xNon η A = .ok .non A := rfl
theorem x2_eq {op : Op2} (ha : ma η A = .ok x A1) (hb : mb η A1 = .ok y A2) (ho : op A2 x y = some d) : x2 op ma mb η A = .ok d A2 := (bind_ok ha).trans ((bind_ok hb).trans (opt_ok ho))
theorem x1_eq {op : Op1} (ha : ma η A = .ok x A1) (ho : op A1 x = some d) : x1 op ma η A = .ok d A1 := (bind_ok ha).trans (opt_ok ho)
theorem t2_eq {op : Op2} (ha : ma η A = .ok x A1) (hb : mb η A1 = .ok y A2) (ho : op A2 x y = some (.bl b)) : t2 op ma mb η A = .ok b A2 := (bind_ok ha).trans ((bind_ok hb).trans (bind_ok (a := D.bl b) (opt_ok ho)))
theorem tVal_eq (ha : ma η A = .ok (.bl b) A1) : tVal ma η A = .ok b A1 := bind_ok ha
theorem tNot_eq (ha : ta η A = .ok b A1) : Cr.tNot ta η A = .ok (!b) A1 := bind_ok ha
theorem tAnd_t (ha : ta η A = .ok true A1) (hb : tb η A1 = .ok b A2) : Cr.tAnd ta tb η A = .ok b A2 := (bind_ok ha).trans (ite_t hb)
theorem tAnd_f (ha : ta η A = .ok false A1) : Cr.tAnd ta tb η A = .ok false A1 := (bind_ok ha).trans (ite_f rfl)
/-- both, where neither changes anything -/
theorem tAnd_eq (ha : ta η A = .ok b A) (hb : b = true → tb η A = .ok c A) : Cr.tAnd ta tb η A = .ok (b && c) A := by
  cases b with
  | true => exact tAnd_t ha (hb rfl)
  | false => exact tAnd_f ha
theorem tOr_t (ha : ta η A = .ok true A1) : Cr.tOr ta tb η A = .ok true A1 := (bind_ok ha).trans (ite_t rfl)
theorem tOr_f (ha : ta η A = .ok false A1) (hb : tb η A1 = .ok b A2) : Cr.tOr ta tb η A = .ok b A2 := (bind_ok ha).trans (ite_f hb)
theorem tOr_eq (ha : ta η A = .ok b A) (hb : b = false → tb η A = .ok c A) : Cr.tOr ta tb η A = .ok (b || c) A := by
  cases b with
  | true => exact tOr_t ha
  | false => exact tOr_f ha (hb rfl)
theorem tNone_eq : tNone η A = .ok true A := rfl
theorem aNil_eq : aNil η A = .ok [] A := rfl
theorem aCons_eq (ha : ma η A = .ok x A1) (hl : ms η A1 = .ok l A2) : aCons ma ms η A = .ok (x :: l) A2 := (bind_ok ha).trans (bind_ok hl)
theorem a1_eq (ha : ma η A = .ok x A1) : aCons ma aNil η A = .ok [x] A1 := aCons_eq ha aNil_eq
theorem xTup_eq (hl : ms η A = .ok l A1) (h : l.length ≤ sizeLine) : xTup ms η A = .ok (.tup l) A1 := (bind_ok hl).trans (opt_ok (by rw [if_pos h]))
theorem xLst_eq (hl : ms η A = .ok l A1) (h : l.length ≤ sizeLine) : xLst ms η A = .ok (.lst l) A1 := (bind_ok hl).trans (opt_ok (by rw [if_pos h]))
theorem xLstR_eq (hl : ms η A = .ok l A1) (h : l.length ≤ sizeLine) : xLstR ms η A = .ok (.ref A1.length) (A1 ++ [.lst l]) := (bind_ok hl).trans (bind_ok (a := l) (opt_ok (by rw [if_pos h])))
theorem xDk0_eq : xDk0 η A = .ok (.ref A.length) (A ++ [.dk []]) := rfl
theorem xDn0_eq : xDn0 η A = .ok (.ref A.length) (A ++ [.dn []]) := rfl
theorem xN_eq {op : OpN} (hl : ms η A = .ok l A1) (ho : op A1 l = some (d, A2)) : xN op ms η A = .ok d A2 := (bind_ok hl).trans (optS_ok ho)
theorem opN1_eq {f : Sto → D → Option D} (h : f A x = some d) : opN1 f A [x] = some (d, A) := by
  unfold opN1
  simp only [h, Option.map_some]
theorem xN1_eq {f : Sto → D → Option D} (ha : ma η A = .ok x A1) (h : f A1 x = some d) : xN (opN1 f) (aCons ma aNil) η A = .ok d A1 := xN_eq (a1_eq ha) (opN1_eq h)
theorem xM_eq {T : String} {op : OpM} (ho : ma η A = .ok x A1) (ht : tyOk T A1 x = some ()) (hl : ms η A1 = .ok l A2) (h : op A2 x l = some (d, A3)) : xM T op ma ms η A = .ok d A3 :=
  (bind_ok ho).trans ((bind_ok (a := ()) (opt_ok ht)).trans ((bind_ok hl).trans (optS_ok h)))
theorem doCall_eq {m : List D → M D} {r : Out D} (hn : l.length = n) (h : m l A = r) : doCall n m l A = r := by
  unfold doCall
  rw [if_pos hn, h]
theorem xCall_eq {m : List D → M D} {r : Out D} (hl : ms η A = .ok l A1) (hn : l.length = n) (h : m l A1 = r) : xCall n m ms η A = r := (bind_ok hl).trans (doCall_eq hn h)
theorem xCallK_eq {m : List D → M D} {g : List D → List D} {r : Out D} (hl : ms η A = .ok l A1) (hn : (g l).length = n) (h : m (g l) A1 = r) : xCallK n m g ms η A = r := (bind_ok hl).trans (doCall_eq hn h)
theorem sSet_eq {i : Nat} (ha : ma η A = .ok d A1) : sSet i ma η A = .ok (η.set i (some d), .nx) A1 := bind_ok ha
theorem sExp_eq (ha : ma η A = .ok d A1) : sExp ma η A = .ok (η, .nx) A1 := bind_ok ha
theorem sRet_eq (ha : ma η A = .ok d A1) : sRet ma η A = .ok (η, .rt d) A1 := bind_ok ha
theorem sIf_t (ht : ta η A = .ok true A1) (h : m1 η A1 = r) : sIf ta m1 m2 η A = r := (bind_ok ht).trans (ite_t h)
theorem sIf_f (ht : ta η A = .ok false A1) (h : m2 η A1 = r) : sIf ta m1 m2 η A = r := (bind_ok ht).trans (ite_f h)
theorem mNext_eq : mNext η A = .ok (η, .nx) A := rfl
theorem mSeq_nx (h1 : m1 η A = .ok (η1, .nx) A1) (h2 : m2 η1 A1 = r) : mSeq m1 m2 η A = r := (bind_ok h1).trans h2
theorem mSeq_rt (h1 : m1 η A = .ok (η1, .rt d) A1) : mSeq m1 m2 η A = .ok (η1, .rt d) A1 := bind_ok h1
theorem mSeq_exc {k : Nat} (h1 : m1 η A = .exc k d A1) : mSeq m1 m2 η A = .exc k d A1 := bind_exc h1
theorem sExc_eq {k : Nat} (ha : ma η A = .ok d A1) : sExc k ma η A = .exc k d A1 := bind_ok ha
theorem sPut_eq {A4 : Sto} (hc : mc η A = .ok z A1) (ha : ma η A1 = .ok x A2) (hb : mb η A2 = .ok y A3) (h : opSet A3 x y z = some A4) : sPut mc ma mb η A = .ok (η, .nx) A4 :=
  (bind_ok hc).trans ((bind_ok ha).trans ((bind_ok hb).trans (bind_ok (a := ()) (optS_ok (by rw [h] <;> rfl)))))
theorem opEq_int {i j : Int} : opEq A (.int i) (.int j) = some (.bl (decide (i = j))) := by
  show (if min (PyData.depth (.int i)) (PyData.depth (.int j)) ≤ 64 then some (D.bl (PyData.eqv (.int i) (.int j))) else none) = _
  rw [if_pos (by simp [PyData.depth])]
  simp only [PyData.eqv]
  congr 2
theorem sIfT_t {k : Int} {i : Int} (ha : ma η A = .ok (.int i) A1) (e : i = k) (h : m1 η A1 = r) : sIfT k ma m1 η A = r := by
  subst e
  refine (bind_ok (a := true) (A1 := A1) ?_).trans (ite_t h)
  have e : do2 opEq (.int i) (.int i) A1 = .ok (.bl true) A1 := opt_ok (by rw [opEq_int, decide_eq_true rfl])
  refine (bind_ok ha).trans ?_
  show ((do2 opEq (.int i) (.int i)) >>= blOf) A1 = _
  exact bind_ok e
theorem sIfT_f {k : Int} {i : Int} (ha : ma η A = .ok (.int i) A1) (e : i ≠ k) : sIfT k ma m1 η A = .ok (η, .nx) A1 := by
  refine (bind_ok (a := false) (A1 := A1) ?_).trans (ite_f rfl)
  have e : do2 opEq (.int i) (.int k) A1 = .ok (.bl false) A1 := opt_ok (by rw [opEq_int, decide_eq_false e])
  refine (bind_ok ha).trans ?_
  show ((do2 opEq (.int i) (.int k)) >>= blOf) A1 = _
  exact bind_ok e
theorem iSeq_eq {it : ItD} (ha : ma η A = .ok d A1) (h : seqIt A1 d = some it) : iSeq ma η A = .ok it A1 := (bind_ok ha).trans (opt_ok h)
theorem iKeys_eq {it : ItD} (ha : ma η A = .ok d A1) (h : keyIt A1 d = some it) : Cr.iKeys ma η A = .ok it A1 := (bind_ok ha).trans (opt_ok h)
theorem iRange_eq {it : ItD} (ha : ms η A = .ok l A1) (h : rgIt l = some it) : iRange ms η A = .ok it A1 := (bind_ok ha).trans (opt_ok h)
theorem iZip_eq {it : ItD} (ha : ms η A = .ok l A1) (h : zpIt A1 l = some it) : Cr.iZip ms η A = .ok it A1 := (bind_ok ha).trans (opt_ok h)
theorem sFrz_eq {i : Nat} (hf : frzV i η A = .ok η1 A1) (h : m1 η1 A1 = r) : sFrz i m1 η A = r := (bind_ok hf).trans h
end

/-! ### stores without references -/
abbrev Flat (A : Sto) : Prop := A.all (rokO 0) = true
mutual
theorem rok_up {n : Nat} : ∀ {d : D}, rok 0 d = true → rok n d = true
  | .non, _ | .bl _, _ | .int _, _ | .str _, _ => rfl
  | .tup l, h | .lst l, h | .scr l, h => by
    rw [rok] at h ⊢
    exact rokL_up h
  | .dk l, h => by
    rw [rok] at h ⊢
    exact rokK_up h
  | .dn l, h => by
    rw [rok] at h ⊢
    exact rokN_up h
  | .ref k, h => by simp [rok] at h
theorem rokL_up {n : Nat} : ∀ {l : List D}, rokL 0 l = true → rokL n l = true
  | [], _ => by rw [rokL]
  | d :: l, h => by
    rw [rokL, Bool.and_eq_true] at h ⊢
    exact ⟨rok_up h.1, rokL_up h.2⟩
theorem rokK_up {n : Nat} : ∀ {l : List (Key × D)}, rokK 0 l = true → rokK n l = true
  | [], _ => by rw [rokK]
  | (k, d) :: l, h => by
    rw [rokK, Bool.and_eq_true] at h ⊢
    exact ⟨rok_up h.1, rokK_up h.2⟩
theorem rokN_up {n : Nat} : ∀ {l : List (NestedKey × D)}, rokN 0 l = true → rokN n l = true
  | [], _ => by rw [rokN]
  | (k, d) :: l, h => by
    rw [rokN, Bool.and_eq_true] at h ⊢
    exact ⟨rok_up h.1, rokN_up h.2⟩
end
theorem rokF_up {n : Nat} : ∀ {l : List (Str × D)}, rokF 0 l = true → rokF n l = true
  | [], _ => by rw [rokF]
  | (k, d) :: l, h => by
    rw [rokF, Bool.and_eq_true] at h ⊢
    exact ⟨rok_up h.1, rokF_up h.2⟩
theorem rokO_up {n : Nat} : ∀ {o : AO}, rokO 0 o = true → rokO n o = true
  | .gone, _ => rfl
  | .lst l, h => rokL_up (l := l) h
  | .dk l, h => rokK_up (l := l) h
  | .dn l, h => rokN_up (l := l) h
  | .ins _ fs, h => rokF_up (l := fs) h
  | .tab _ _, _ => rfl
theorem Flat.up {A : Sto} {n : Nat} (h : Flat A) : A.all (rokO n) = true := List.all_eq_true.mpr fun o ho => rokO_up (List.all_eq_true.mp h o ho)
theorem Flat.app {A B : Sto} (h : Flat A) (g : Flat B) : Flat (A ++ B) := by
  show (A ++ B).all _ = true
  rw [List.all_append, h, g] <;> rfl
theorem Flat.set {A : Sto} {o : AO} (h : Flat A) (g : rokO 0 o = true) (i : Nat) : Flat (A.set i o) := List.all_eq_true.mpr fun x hx => by
  rcases List.mem_or_eq_of_mem_set hx with h1 | rfl
  · exact List.all_eq_true.mp h x h1
  · exact g
theorem rokL_of {n : Nat} : ∀ {l : List D}, (∀ d ∈ l, rok n d = true) → rokL n l = true
  | [], _ => by rw [rokL]
  | d :: l, h => by
    rw [rokL, h d (List.mem_cons_self ..), rokL_of fun x hx => h x (List.mem_cons_of_mem _ hx)] <;> rfl
theorem rokL_map {α : Type} {n : Nat} {l : List α} {e : α → D} (h : ∀ x ∈ l, rok n (e x) = true) : rokL n (l.map e) = true := rokL_of fun d hd => by
  obtain ⟨x, hx, rfl⟩ := List.mem_map.mp hd
  exact h x hx
theorem rok_tup {n : Nat} {l : List D} (h : rokL n l = true) : rok n (.tup l) = true := by rw [rok]; exact h
theorem rok_lst {n : Nat} {l : List D} (h : rokL n l = true) : rok n (.lst l) = true := by rw [rok]; exact h
theorem shut_flat {n : Nat} {d : D} {A : Sto} (h : rok 0 d = true) : shut n d A = some d := by
  cases d with
  | ref k => simp [rok] at h
  | _ => rfl
/-- a call that hands back what holds no references -/
theorem callB_rt {n : Nat} {mb : StM} {l : List D} {A A1 A2 : Sto} {η0 η' : En} {d : D} (e0 : l.map some ++ List.replicate (n - l.length) none = η0)
    (h : mb η0 A = .ok (η', .rt d) A1) (ht : A1.take A.length = A2) (hd : rok 0 d = true) (hf : Flat A2) : callB n mb l A = .ok d A2 := by
  unfold callB runB
  rw [M.bind_def, e0, h]
  show leave A.length (Out.ok d A1) = _
  unfold leave
  simp only [shut_flat hd, ht]
  rw [if_pos (by rw [rok_up hd, hf.up] <;> rfl)]
theorem callB_nx {n : Nat} {mb : StM} {l : List D} {A A1 A2 : Sto} {η0 η' : En} (e0 : l.map some ++ List.replicate (n - l.length) none = η0)
    (h : mb η0 A = .ok (η', .nx) A1) (ht : A1.take A.length = A2) (hf : Flat A2) : callB n mb l A = .ok .non A2 := by
  unfold callB runB
  rw [M.bind_def, e0, h]
  show leave A.length (Out.ok .non A1) = _
  unfold leave
  simp only [shut_flat (d := .non) rfl, ht]
  rw [if_pos (by rw [hf.up] <;> rfl)]
theorem callB_exc {n k : Nat} {mb : StM} {l : List D} {A A1 A2 : Sto} {η0 : En} {d : D} (e0 : l.map some ++ List.replicate (n - l.length) none = η0)
    (h : mb η0 A = .exc k d A1) (ht : A1.take A.length = A2) (hd : rok 0 d = true) (hf : Flat A2) : callB n mb l A = .exc k d A2 := by
  unfold callB runB
  rw [M.bind_def, e0, h]
  show leave A.length (Out.exc k d A1) = _
  unfold leave
  simp only [ht]
  rw [if_pos (by rw [rok_up hd, hf.up] <;> rfl)]
theorem take_all (A : Sto) : A.take A.length = A := List.take_length

/-! ### loops -/
section
variable {α β : Type} {ok : Sto → Prop} {g : D → En → M En} {t : TtM} {me : ExM} {η : En} {A : Sto}
theorem compL_enc (e : α → D) (p : α → Bool) (r : α → D) : ∀ (xs : List α) (acc : List D), ok A → acc.length + xs.length ≤ sizeLine →
    (∀ x ∈ xs, ∃ η1, g (e x) η A = .ok η1 A ∧ t η1 A = .ok (p x) A ∧ (p x = true → me η1 A = .ok (r x) A)) →
    compL ok g t me η (xs.map e) acc A = .ok (acc ++ (xs.filter p).map r) A
  | [], acc, ho, _, _ => by
    rw [List.map_nil, compL]
    refine (if_pos ho).trans ?_
    rw [List.filter_nil, List.map_nil, List.append_nil]
  | x :: xs, acc, ho, hl, h => by
    obtain ⟨η1, h1, h2, h3⟩ := h x (List.mem_cons_self ..)
    have ht := fun acc' (hl' : acc'.length + xs.length ≤ sizeLine) => compL_enc e p r xs acc' ho hl' fun y hy => h y (List.mem_cons_of_mem _ hy)
    rw [List.length_cons] at hl
    rw [List.map_cons, compL]
    simp only [if_pos ho, M.bind_def, M.calm, h1, h2]
    cases q : p x with
    | false =>
      simp only [Bool.false_eq_true, if_false]
      rw [ht acc (by omega), List.filter_cons_of_neg (by rw [q]; decide)]
    | true =>
      simp only [if_true, M.bind_def, M.calm, h3 q]
      rw [if_pos (by omega), ht (acc ++ [r x]) (by rw [List.length_append]; simp; omega), List.filter_cons_of_pos q, List.map_cons, List.append_assoc]
      rfl
/-- a list comprehension that changes nothing -/
theorem mLc_enc {own : List Nat} {mi : ItM} {it : ItD} (e : α → D) (p : α → Bool) (r : α → D) (xs : List α) (hi : mi η A = .ok it A) (ho : it.ok A) (hx : it.its = xs.map e) (hl : xs.length ≤ sizeLine)
    (h : ∀ x ∈ xs, ∃ η1, g (e x) (wipeE η own) A = .ok η1 A ∧ t η1 A = .ok (p x) A ∧ (p x = true → me η1 A = .ok (r x) A)) :
    mLc own mi g t me η A = .ok (.lst ((xs.filter p).map r)) A := by
  unfold mLc
  simp only [M.bind_def, hi, hx, M.pure_def]
  rw [compL_enc e p r xs [] ho (by simpa using hl) h]
  rfl
/-- .. over a list's items, all of them -/
theorem mLc_all {own : List Nat} {mi : ItM} {it : ItD} (e : α → D) (r : α → D) (xs : List α) (hi : mi η A = .ok it A) (ho : it.ok A) (hx : it.its = xs.map e) (hl : xs.length ≤ sizeLine)
    (h : ∀ x ∈ xs, ∃ η1, g (e x) (wipeE η own) A = .ok η1 A ∧ me η1 A = .ok (r x) A) :
    mLc own mi g tNone me η A = .ok (.lst (xs.map r)) A := by
  rw [mLc_enc e (fun _ => true) r xs hi ho hx hl fun x hx' => by
    obtain ⟨η1, h1, h2⟩ := h x hx'
    exact ⟨η1, h1, rfl, fun _ => h2⟩]
  rw [List.filter_eq_self.mpr fun _ _ => rfl]
theorem iSeq_tup {l : List D} {ma : ExM} {A1 : Sto} (ha : ma η A = .ok (.tup l) A1) : iSeq ma η A = .ok ⟨l, fun _ => True⟩ A1 := iSeq_eq ha rfl
theorem iSeq_lst {l : List D} {ma : ExM} {A1 : Sto} (ha : ma η A = .ok (.lst l) A1) : iSeq ma η A = .ok ⟨l, fun _ => True⟩ A1 := iSeq_eq ha rfl
theorem mLcF {own : List Nat} {mi : ItM} (e : α → D) (p : α → Bool) (r : α → D) (xs : List α) (hi : mi η A = .ok ⟨xs.map e, fun _ => True⟩ A) (hl : xs.length ≤ sizeLine)
    (h : ∀ x ∈ xs, ∃ η1, g (e x) (wipeE η own) A = .ok η1 A ∧ t η1 A = .ok (p x) A ∧ (p x = true → me η1 A = .ok (r x) A)) :
    mLc own mi g t me η A = .ok (.lst ((xs.filter p).map r)) A := mLc_enc e p r xs hi trivial rfl hl h
theorem mLcA {own : List Nat} {mi : ItM} (e : α → D) (r : α → D) (xs : List α) (hi : mi η A = .ok ⟨xs.map e, fun _ => True⟩ A) (hl : xs.length ≤ sizeLine)
    (h : ∀ x ∈ xs, ∃ η1, g (e x) (wipeE η own) A = .ok η1 A ∧ me η1 A = .ok (r x) A) :
    mLc own mi g tNone me η A = .ok (.lst (xs.map r)) A := mLc_all e r xs hi trivial rfl hl h
variable {body : StM}
/-- a loop: an invariant, what a turn hands back -/
theorem forL_inv (e : α → D) (R : D → Sto → Prop) (I : List α → En → Sto → Prop) : ∀ (xs : List α) (η : En) (A : Sto), I xs η A → (∀ ys η A, I ys η A → ok A) →
    (∀ x ys η A, I (x :: ys) η A → ∃ η1 A1 η2 c A2, g (e x) η A = .ok η1 A1 ∧ body η1 A1 = .ok (η2, c) A2 ∧ ((c = .nx ∧ I ys η2 A2) ∨ ∃ d, c = .rt d ∧ R d A2)) →
    ∃ η2 c A2, forL ok g body (xs.map e) η A = .ok (η2, c) A2 ∧ ((c = .nx ∧ I [] η2 A2) ∨ ∃ d, c = .rt d ∧ R d A2)
  | [], η, A, hI, ho, _ => by
    refine ⟨η, .nx, A, ?_, .inl ⟨rfl, hI⟩⟩
    rw [List.map_nil, forL]
    exact if_pos (ho _ _ _ hI)
  | x :: xs, η, A, hI, ho, hs => by
    obtain ⟨η1, A1, η2, c, A2, h1, h2, h3⟩ := hs x xs η A hI
    rw [List.map_cons, forL]
    simp only [if_pos (ho _ _ _ hI), M.bind_def, h1, h2]
    rcases h3 with ⟨rfl, h3⟩ | ⟨d, rfl, h3⟩
    · exact forL_inv e R I xs η2 A2 h3 ho hs
    · exact ⟨η2, .rt d, A2, rfl, .inr ⟨d, rfl, h3⟩⟩
theorem mFor_inv {mi : ItM} {it : ItD} {A0 : Sto} (e : α → D) (R : D → Sto → Prop) (I : List α → En → Sto → Prop) (xs : List α) (hi : mi η A0 = .ok it A) (hx : it.its = xs.map e) (h0 : I xs η A) (ho : ∀ ys η A, I ys η A → it.ok A)
    (hs : ∀ x ys η A, I (x :: ys) η A → ∃ η1 A1 η2 c A2, g (e x) η A = .ok η1 A1 ∧ body η1 A1 = .ok (η2, c) A2 ∧ ((c = .nx ∧ I ys η2 A2) ∨ ∃ d, c = .rt d ∧ R d A2)) :
    ∃ η2 c A2, mFor mi g body η A0 = .ok (η2, c) A2 ∧ ((c = .nx ∧ I [] η2 A2) ∨ ∃ d, c = .rt d ∧ R d A2) := by
  unfold mFor
  simp only [M.bind_def, hi, hx]
  exact forL_inv e R I xs η A h0 ho hs
theorem gName_eq {i : Nat} {d : D} : gName i d η A = .ok (η.set i (some d)) A := rfl
theorem gPair_eq {i j : Nat} {x y : D} : gPair i j (.tup [x, y]) η A = .ok ((η.set i (some x)).set j (some y)) A := rfl
end
end K41
end

section
set_option Elab.async false
set_option linter.all false
set_option maxRecDepth 100000
set_option maxHeartbeats 1000000
set_option pp.maxSteps 600
/-! Mathematics, part b: data, operations on them. -/
namespace K41
open PySem PySem.Spec PyProof.Rows L2 Cr TL

abbrev Mono := List (Str × Int)
abbrev Poly := List (Mono × Int)
def ePr (p : Str × Int) : D := .tup [.str p.1, .int p.2]
def eM (m : Mono) : D := .tup (m.map ePr)
def eT (t : Mono × Int) : D := .tup [eM t.1, .int t.2]
def eP (P : Poly) : D := .tup (P.map eT)
def toks (m : Mono) : List Str := m.map (·.1)
def sets (P : Poly) : List (List Str) := P.map fun t => toks t.1
def tokD (b : Bool) (ts : List Str) : D := bif b then eU ts else eL ts
def optD : Option (List Str) → D
  | none => .non
  | some b => eL b

theorem flat_strs {n : Nat} (l : List Str) : rokL n (l.map D.str) = true := rokL_map fun _ _ => rfl
theorem flat_eL {n : Nat} (l : List Str) : rok n (eL l) = true := rok_lst (flat_strs l)
theorem flat_eU {n : Nat} (l : List Str) : rok n (eU l) = true := rok_tup (flat_strs l)
theorem flat_tokD {n : Nat} (b : Bool) (l : List Str) : rok n (tokD b l) = true := by
  cases b
  · exact flat_eL l
  · exact flat_eU l
theorem flat_ePr {n : Nat} (p : Str × Int) : rok n (ePr p) = true := rfl
theorem flat_eM {n : Nat} (m : Mono) : rok n (eM m) = true := rok_tup (rokL_map fun p _ => flat_ePr p)
theorem flat_eT {n : Nat} (t : Mono × Int) : rok n (eT t) = true := rok_tup (by rw [rokL, flat_eM]; rfl)
theorem flat_eP {n : Nat} (P : Poly) : rok n (eP P) = true := rok_tup (rokL_map fun p _ => flat_eT p)
theorem flat_optD {n : Nat} : ∀ o : Option (List Str), rok n (optD o) = true
  | none => rfl
  | some b => flat_eL b

/-! ### operations -/
section
variable {A : Sto} {l : List D} {d : D}
theorem pdL_map (ts : List Str) : pdL (ts.map D.str) = some (sD ts) := by
  induction ts with
  | nil => rfl
  | cons t ts ih =>
    show pdL (D.str t :: ts.map D.str) = _
    simp only [pdL, pd, ih]
    rfl
theorem pdL_rows (R : List (List Str)) : pdL (R.map eL) = some (R.map fun r => PyData.list (sD r)) := by
  induction R with
  | nil => rfl
  | cons t ts ih =>
    show pdL (eL t :: ts.map eL) = _
    have e : pd (eL t) = some (.list (sD t)) := by
      show pd (.lst (t.map D.str)) = _
      simp only [pd, pdL_map, Option.map_some]
    simp only [pdL, e, ih]
    rfl
theorem depth_strs (ts : List Str) : PyData.depthAll (sD ts) = 0 := by
  induction ts with
  | nil => rfl
  | cons t ts ih =>
    show PyData.depthAll (PyData.str t :: sD ts) = 0
    simp only [PyData.depthAll, PyData.depth, ih, Nat.max_self]
theorem inSeq_strs {y : D} {t : Str} {ts : List Str} (h : seqOf A y = some (ts.map .str)) : inSeq A (.str t) y = some (decide (t ∈ ts)) := by
  unfold inSeq
  rw [h]
  show (match pdA A (.str t), pdL (ts.map .str) with | some p, some ps => if p.depth ≤ 60 then some (ps.any fun z => PyData.eqv z p) else none | _, _ => none) = _
  rw [pdL_map]
  show (if PyData.depth (.str t) ≤ 60 then some ((sD ts).any fun z => PyData.eqv z (.str t)) else none) = _
  rw [if_pos (by simp [PyData.depth])]
  congr 1
  rw [Bool.eq_iff_iff, List.any_eq_true, decide_eq_true_eq]
  constructor
  · rintro ⟨z, hz, e⟩
    obtain ⟨u, hu, rfl⟩ := List.mem_map.mp hz
    simp only [PyData.eqv, beq_iff_eq] at e
    exact e ▸ hu
  · intro h
    exact ⟨.str t, List.mem_map.mpr ⟨t, h, rfl⟩, by simp [PyData.eqv]⟩
theorem isIn_lst {x : D} {l : List D} {b : Bool} (h : inSeq A x (.lst l) = some b) : isIn A x (.lst l) = some b := by
  cases x <;> (unfold isIn; simp only [h])
theorem isIn_tup {x : D} {l : List D} {b : Bool} (h : inSeq A x (.tup l) = some b) : isIn A x (.tup l) = some b := by
  cases x <;> (unfold isIn; simp only [h])
theorem isIn_tok (b : Bool) (t : Str) (ts : List Str) : isIn A (.str t) (tokD b ts) = some (decide (t ∈ ts)) := by
  cases b
  · exact isIn_lst (inSeq_strs rfl)
  · exact isIn_tup (inSeq_strs rfl)
theorem opIn_tok (b : Bool) (t : Str) (ts : List Str) : opIn A (.str t) (tokD b ts) = some (.bl (decide (t ∈ ts))) := by
  unfold opIn
  rw [isIn_tok] <;> rfl
theorem opNotIn_tok (b : Bool) (t : Str) (ts : List Str) : opNotIn A (.str t) (tokD b ts) = some (.bl (!decide (t ∈ ts))) := by
  unfold opNotIn
  rw [isIn_tok] <;> rfl
theorem opIn_row (r : List Str) (R : List (List Str)) : opIn A (eL r) (.lst (R.map eL)) = some (.bl (decide (r ∈ R))) := by
  unfold opIn
  have e : inSeq A (eL r) (.lst (R.map eL)) = some (decide (r ∈ R)) := by
    unfold inSeq
    show (match pdA A (.lst (r.map .str)), pdL (R.map eL) with | some p, some ps => if p.depth ≤ 60 then some (ps.any fun z => PyData.eqv z p) else none | _, _ => none) = _
    have e1 : pdA A (.lst (r.map .str)) = some (.list (sD r)) := by
      show pd (.lst (r.map .str)) = _
      simp only [pd, pdL_map, Option.map_some]
    rw [pdL_rows, e1]
    show (if PyData.depth (.list (sD r)) ≤ 60 then some _ else none) = _
    rw [if_pos (by simp [PyData.depth, depth_strs])]
    congr 1
    rw [Bool.eq_iff_iff, List.any_eq_true, decide_eq_true_eq]
    constructor
    · rintro ⟨z, hz, e⟩
      obtain ⟨u, hu, rfl⟩ := List.mem_map.mp hz
      simp only [PyData.eqv, eqvAll_strs, decide_eq_true_eq] at e
      exact e ▸ hu
    · intro h
      exact ⟨_, List.mem_map.mpr ⟨r, h, rfl⟩, by simp [PyData.eqv, eqvAll_strs]⟩
  show (isIn A (eL r) (.lst (R.map eL))).map _ = _
  rw [isIn_lst e] <;> rfl
theorem opEq_str {a b : Str} : opEq A (.str a) (.str b) = some (.bl (decide (a = b))) := by
  show (if min (PyData.depth (.str a)) (PyData.depth (.str b)) ≤ 64 then some (D.bl (PyData.eqv (.str a) (.str b))) else none) = _
  rw [if_pos (by simp [PyData.depth])]
  simp only [PyData.eqv]
  congr 2
theorem opNe_str {a b : Str} : opNe A (.str a) (.str b) = some (.bl (!decide (a = b))) := by
  show (if min (PyData.depth (.str a)) (PyData.depth (.str b)) ≤ 64 then some (D.bl (!PyData.eqv (.str a) (.str b))) else none) = _
  rw [if_pos (by simp [PyData.depth])]
  simp only [PyData.eqv]
  congr 2
theorem opNe_int {i j : Int} : opNe A (.int i) (.int j) = some (.bl (!decide (i = j))) := by
  show (if min (PyData.depth (.int i)) (PyData.depth (.int j)) ≤ 64 then some (D.bl (!PyData.eqv (.int i) (.int j))) else none) = _
  rw [if_pos (by simp [PyData.depth])]
  simp only [PyData.eqv]
  congr 2
theorem opNe_bl {i j : Bool} : opNe A (.bl i) (.bl j) = some (.bl (!decide (i = j))) := by
  show (if min (PyData.depth (.bool i)) (PyData.depth (.bool j)) ≤ 64 then some (D.bl (!PyData.eqv (.bool i) (.bool j))) else none) = _
  rw [if_pos (by simp [PyData.depth])]
  simp only [PyData.eqv]
  congr 2
theorem opLt_int {i j : Int} : opLt A (.int i) (.int j) = some (.bl (decide (i < j))) := by
  show (if min (PyData.depth (.int i)) (PyData.depth (.int j)) ≤ 64 then (ltP (.int i) (.int j)).map D.bl else none) = _
  rw [if_pos (by simp [PyData.depth])]
  rfl
theorem opLt_row {a b : List Str} : opLt A (eL a) (eL b) = some (.bl (rLt a b)) := by
  have e : ∀ r : List Str, pdA A (eL r) = some (.list (sD r)) := fun r => by
    show pd (.lst (r.map .str)) = _
    simp only [pd, pdL_map, Option.map_some]
  unfold opLt
  simp only [e]
  rw [if_pos (by simp [PyData.depth, depth_strs])]
  show (ltPs (sD a) (sD b)).map D.bl = _
  rw [ltPs_strs] <;> rfl
theorem opIx_nat {x : D} {i : Int} {j : Nat} (hs : seqOf A x = some l) (e : i = (j : Int)) (h : l[j]? = some d) : opIx A x (.int i) = some d := by
  subst e
  have hj : j < l.length := by
    by_cases q : j < l.length
    · exact q
    · rw [List.getElem?_eq_none (by omega)] at h
      cases h
  have e : ixSeq A x (.int (j : Int)) = some d := by
    unfold ixSeq
    simp only [hs, Option.bind_some]
    unfold atI
    have e : ixN l.length (j : Int) = some j := by
      unfold ixN
      rw [if_pos (by omega), if_pos (by omega), Int.toNat_natCast]
    rw [e]
    exact h
  unfold opIx
  simp only [e]
theorem opIx_0 {x : D} (hs : seqOf A x = some (d :: l)) : opIx A x (.int 0) = some d := opIx_nat (j := 0) hs rfl rfl
theorem bLen_seq {x : D} (hs : seqOf A x = some l) (hn : ∀ z, x ≠ .str z) : bLen A x = some (.int l.length) := by
  cases x with
  | str z => exact absurd rfl (hn z)
  | _ =>
    unfold bLen
    simp only [hs]
theorem bLen_lst : bLen A (.lst l) = some (.int l.length) := rfl
theorem bLen_tup : bLen A (.tup l) = some (.int l.length) := rfl
theorem opAdd_str {a b : Str} (h : a.length + b.length ≤ sizeLine) : opAdd A (.str a) (.str b) = some (.str (a ++ b)) := by
  show (if a.length + b.length ≤ sizeLine then some (D.str (a ++ b)) else none) = _
  rw [if_pos h]
theorem opAdd_lst {a b : List D} (h : a.length + b.length ≤ sizeLine) : opAdd A (.lst a) (.lst b) = some (.lst (a ++ b)) := by
  show (if a.length + b.length ≤ sizeLine then some (D.lst (a ++ b)) else none) = _
  rw [if_pos h]
theorem strsOf_map (ts : List Str) : strsOf (ts.map D.str) = some ts := by
  induction ts with
  | nil => rfl
  | cons t ts ih =>
    show (strsOf (ts.map D.str)).map (t :: ·) = _
    rw [ih] <;> rfl
theorem mJoin_eq {s : Str} {y : D} {ts : List Str} (hs : seqOf A y = some (ts.map .str)) (h : (ts.map (·.length)).sum + ts.length * s.length ≤ 16777216) : mJoin A (.str s) [y] = some (.str (Txt.join s ts), A) := by
  show ((seqOf A y).bind fun l => (strsOf l).bind fun ys => if (ys.map (·.length)).sum + ys.length * s.length ≤ 16777216 then some (D.str (Txt.join s ys), A) else none) = _
  rw [hs]
  show ((strsOf (ts.map D.str)).bind fun ys => if (ys.map (·.length)).sum + ys.length * s.length ≤ 16777216 then some (D.str (Txt.join s ys), A) else none) = _
  rw [strsOf_map]
  exact if_pos h
theorem mSplit0_eq {a b : Str} (h : a.length ≤ 10000000) (hb : (b.length == 0) = false) : mSplit0 (.str a) [.str b] = some ((Txt.split a b).map .str) := by
  unfold mSplit0
  have : sizeLine = 16777216 := by decide
  exact if_pos ⟨hb, by omega⟩
theorem mSplit_eq {a b : Str} (h : a.length ≤ 10000000) (hb : (b.length == 0) = false) : mSplit A (.str a) [.str b] = some (eL (Txt.split a b), A) := by
  unfold mSplit
  rw [mSplit0_eq h hb] <;> rfl
theorem sizeLine_eq : sizeLine = 16777216 := by decide
end

theorem opIx_pr {A : Sto} (p : Str × Int) : opIx A (ePr p) (.int 0) = some (.str p.1) := opIx_0 (l := [.int p.2]) rfl
theorem opIx_tm {A : Sto} (t : Mono × Int) : opIx A (eT t) (.int 0) = some (eM t.1) := opIx_0 (l := [.int t.2]) rfl
/-! ### _law_within, _law_sets -/
section
variable {A : Sto}
theorem filter_none (row ts : List Str) : decide (((((row.filter fun t => !decide (t ∈ ts)).map D.str).length : Nat) : Int) = 0) = within row ts := by
  rw [List.length_map, Bool.eq_iff_iff, decide_eq_true_eq]
  unfold within
  rw [List.all_eq_true]
  constructor
  · intro h t ht
    rw [decide_eq_true_eq]
    by_cases q : t ∈ ts
    · exact q
    · have : t ∈ row.filter fun t => !decide (t ∈ ts) := List.mem_filter.mpr ⟨ht, by simp [q]⟩
      have h0 : (row.filter fun t => !decide (t ∈ ts)).length = 0 := by omega
      rw [List.length_eq_zero_iff.mp h0] at this
      cases this
  · intro h
    have : row.filter (fun t => !decide (t ∈ ts)) = [] := List.filter_eq_nil_iff.mpr fun t ht => by
      have := h t ht
      simp only [this]
      decide
    rw [this] <;> rfl
theorem s_27 {b : Bool} {row ts : List Str} (hl : row.length ≤ sizeLine) (hf : Flat A) : M_27 [eL row, tokD b ts] A = .ok (.bl (within row ts)) A := by
  have h : mLc [2] (iSeq (xVar 0)) (gName 2) (t2 opNotIn (xVar 2) (xVar 1)) (xVar 2) [some (eL row), some (tokD b ts), none] A = .ok (.lst ((row.filter fun t => !decide (t ∈ ts)).map D.str)) A := by
    apply mLcF D.str (fun t => !decide (t ∈ ts)) D.str row
    · exact iSeq_lst (xVar_eq rfl)
    · exact hl
    · intro t _
      exact ⟨_, gName_eq, t2_eq (xVar_eq rfl) (xVar_eq rfl) (opNotIn_tok b t ts), fun _ => xVar_eq rfl⟩
  refine callB_rt (η0 := [some (eL row), some (tokD b ts), none]) rfl (sRet_eq (x2_eq (xN1_eq h bLen_lst) xInt_eq ?_)) (take_all _) rfl hf
  rw [opEq_int, filter_none]
theorem s_26 {P : Poly} (h1 : P.length ≤ sizeLine) (h2 : ∀ t ∈ P, t.1.length ≤ sizeLine) (hf : Flat A) : M_26 [eP P] A = .ok (.lst ((sets P).map eL)) A := by
  refine callB_rt (η0 := [some (eP P), none, none]) rfl (sRet_eq (d := D.lst ((sets P).map eL)) (A1 := A) ?_) (take_all _) (rok_lst (rokL_map fun r _ => flat_eL r)) hf
  have e : (sets P).map eL = P.map fun t => D.lst (t.1.map fun p => .str p.1) := by
    unfold sets eL toks
    rw [List.map_map]
    refine List.map_congr_left fun t _ => ?_
    show D.lst ((t.1.map (·.1)).map D.str) = _
    rw [List.map_map] <;> rfl
  rw [e]
  apply mLcA eT (fun t => D.lst (t.1.map fun p => .str p.1)) P
  · exact iSeq_tup (xVar_eq rfl)
  · exact h1
  · intro t ht
    refine ⟨_, gName_eq, ?_⟩
    apply mLcA ePr (fun p => D.str p.1) t.1
    · exact iSeq_tup (x2_eq (xVar_eq rfl) xInt_eq (opIx_tm t))
    · exact h2 t ht
    · intro p _
      exact ⟨_, gName_eq, x2_eq (xVar_eq rfl) xInt_eq (opIx_pr p)⟩
end
end K41
end

section
set_option Elab.async false
set_option linter.all false
set_option maxRecDepth 100000
set_option maxHeartbeats 1000000
set_option pp.maxSteps 600
/-! Mathematics, part c: the functions that change nothing. -/
namespace K41
open PySem PySem.Spec PyProof.Rows L2 Cr TL
/-- sizes: nothing here is large -/
structure Small (P : Poly) (ts : List Str) : Prop where
  n : P.length ≤ 6
  m : ∀ t ∈ P, t.1.length ≤ 5
  tl : ∀ t ∈ P, ∀ p ∈ t.1, p.1.length ≤ 10
  ts : ts.length ≤ 10
section
variable {A : Sto} {P : Poly} {ts : List Str} {b : Bool}
theorem Small.rows (S : Small P ts) : ∀ r ∈ sets P, r.length ≤ 5 ∧ ∀ t ∈ r, t.length ≤ 10 := fun r hr => by
  obtain ⟨t, ht, rfl⟩ := List.mem_map.mp hr
  refine ⟨by rw [toks, List.length_map]; exact S.m t ht, fun x hx => ?_⟩
  obtain ⟨p, hp, rfl⟩ := List.mem_map.mp hx
  exact S.tl t ht p hp
theorem Small.n' (S : Small P ts) : (sets P).length ≤ 6 := by
  unfold sets
  rw [List.length_map]
  exact S.n
theorem Small.p (S : Small P ts) : P.length ≤ sizeLine := by
  have := S.n
  rw [sizeLine_eq]
  omega
theorem Small.q (S : Small P ts) : ∀ t ∈ P, t.1.length ≤ sizeLine := fun t ht => by
  have := S.m t ht
  rw [sizeLine_eq]
  omega
theorem s26 (S : Small P ts) (hf : Flat A) : M_26 [eP P] A = .ok (.lst ((sets P).map eL)) A := s_26 S.p S.q hf
theorem opIs_opt (o : Option (List Str)) : opIs A (optD o) .non = some (.bl o.isNone) := by
  cases o <;> rfl
theorem opIsNot_opt (o : Option (List Str)) : opIsNot A (optD o) .non = some (.bl o.isSome) := by
  cases o <;> rfl
theorem bLen_eL (r : List Str) : bLen A (eL r) = some (.int (r.length : Int)) := by
  show some (D.int ((r.map D.str).length : Int)) = _
  rw [List.length_map]
theorem s_28 (S : Small P ts) (hf : Flat A) : M_28 [eP P, tokD b ts] A = .ok (optD (leastV (sets P) ts)) A := by
  have R := S.rows
  have N := S.n'
  have hL : mLc [4] (iSeq (xCall 1 M_26 (aCons (xVar 0) aNil))) (gName 4) (tVal (xCall 2 M_27 (aCons (xVar 4) (aCons (xVar 1) aNil)))) (xVar 4) [some (eP P), some (tokD b ts), none, none, none] A = .ok (.lst (((sets P).filter fun r => within r ts).map eL)) A :=
    by
      apply mLcF eL (fun r => within r ts) eL (sets P)
      · exact iSeq_lst (xCall_eq (a1_eq (xVar_eq rfl)) rfl (s26 S hf))
      · rw [sizeLine_eq]
        omega
      · intro r hr
        refine ⟨_, gName_eq, ?_, fun _ => xVar_eq rfl⟩
        exact tVal_eq (xCall_eq (aCons_eq (xVar_eq rfl) (a1_eq (xVar_eq rfl))) rfl (s_27 (by have := (R r hr).1; rw [sizeLine_eq]; omega) hf))
  obtain ⟨η2, c, A2, h, h2⟩ := mFor_inv (mi := iSeq (xVar 2)) (g := gName 4) (body := sIf (Cr.tOr (t2 opIs (xVar 3) xNon) (Cr.tOr (t2 opLt (xN (opN1 bLen) (aCons (xVar 4) aNil)) (xN (opN1 bLen) (aCons (xVar 3) aNil))) (Cr.tAnd (t2 opEq (xN (opN1 bLen) (aCons (xVar 4) aNil)) (xN (opN1 bLen) (aCons (xVar 3) aNil))) (t2 opLt (xVar 4) (xVar 3))))) (sSet 3 (xVar 4)) mNext)
    (η := [some (eP P), some (tokD b ts), some (.lst (((sets P).filter fun r => within r ts).map eL)), some .non, none]) (A0 := A) (A := A) eL (fun _ _ => False)
    (fun ys η A' => A' = A ∧ ∃ best x4, η = [some (eP P), some (tokD b ts), some (.lst (((sets P).filter fun r => within r ts).map eL)), some (optD best), x4] ∧ ys.foldl stepV best = leastV (sets P) ts)
    ((sets P).filter fun r => within r ts) (iSeq_eq (xVar_eq rfl) rfl) rfl ⟨rfl, none, none, rfl, rfl⟩ (fun _ _ _ _ => trivial) fun r ys η A' ⟨eA, best, x4, e, hb⟩ => by
      subst eA
      subst e
      refine ⟨_, _, [some (eP P), some (tokD b ts), some (.lst (((sets P).filter fun r => within r ts).map eL)), some (optD (stepV best r)), some (eL r)], .nx, A', gName_eq, ?_, .inl ⟨rfl, rfl, _, _, rfl, hb⟩⟩
      cases best with
      | none => exact sIf_t (tOr_t (t2_eq (xVar_eq rfl) xNon_eq rfl)) (sSet_eq (xVar_eq rfl))
      | some z =>
        have ht : Cr.tOr (t2 opIs (xVar 3) xNon) (Cr.tOr (t2 opLt (xN (opN1 bLen) (aCons (xVar 4) aNil)) (xN (opN1 bLen) (aCons (xVar 3) aNil))) (Cr.tAnd (t2 opEq (xN (opN1 bLen) (aCons (xVar 4) aNil)) (xN (opN1 bLen) (aCons (xVar 3) aNil))) (t2 opLt (xVar 4) (xVar 3)))) [some (eP P), some (tokD b ts), some (.lst (((sets P).filter fun r => within r ts).map eL)), some (eL z), some (eL r)] A' = .ok (kLt r z) A' := by
          have e : kLt r z = (false || (decide (((r.length : Int)) < (z.length : Int)) || (decide ((r.length : Int) = (z.length : Int)) && rLt r z))) := by
            unfold kLt
            rw [Bool.false_or]
            congr 1
            · by_cases q : r.length < z.length
              · rw [decide_eq_true q, decide_eq_true (by omega)]
              · rw [decide_eq_false q, decide_eq_false (by omega)]
            · congr 1
              by_cases q : r.length = z.length
              · rw [decide_eq_true q, decide_eq_true (by omega)]
              · rw [decide_eq_false q, decide_eq_false (by omega)]
          rw [e]
          exact tOr_eq (t2_eq (xVar_eq rfl) xNon_eq rfl) fun _ => tOr_eq (t2_eq (xN1_eq (xVar_eq rfl) (bLen_eL r)) (xN1_eq (xVar_eq rfl) (bLen_eL z)) opLt_int) fun _ => tAnd_eq (t2_eq (xN1_eq (xVar_eq rfl) (bLen_eL r)) (xN1_eq (xVar_eq rfl) (bLen_eL z)) opEq_int) fun _ => t2_eq (xVar_eq rfl) (xVar_eq rfl) opLt_row
        cases q : kLt r z with
        | true =>
          rw [q] at ht
          have e : stepV (some z) r = some r := if_pos q
          rw [e]
          exact sIf_t ht (sSet_eq (xVar_eq rfl))
        | false =>
          rw [q] at ht
          have e : stepV (some z) r = some z := if_neg (by rw [q]; decide)
          rw [e]
          exact sIf_f ht mNext_eq
  rcases h2 with ⟨rfl, rfl, best, x4, rfl, hb⟩ | ⟨d, _, hd⟩
  · have e : best = leastV (sets P) ts := hb
    subst e
    exact callB_rt (η0 := [some (eP P), some (tokD b ts), none, none, none]) rfl (mSeq_nx (sSet_eq hL) (mSeq_nx (sSet_eq xNon_eq) (mSeq_nx h (sRet_eq (xVar_eq rfl))))) (take_all _) (flat_optD _) hf
  · exact hd.elim
end
end K41
end

section
set_option Elab.async false
set_option linter.all false
set_option maxRecDepth 100000
set_option maxHeartbeats 1000000
set_option pp.maxSteps 600
/-! Mathematics, part d: the law's paper. -/
namespace K41
open PySem PySem.Spec PyProof.Rows L2 Cr TL
theorem len_nl : ("\n" : Str).length = 1 := by decide +kernel
theorem len_why : ("why" : Str).length = 3 := by decide +kernel
theorem len_not : ("not" : Str).length = 3 := by decide +kernel
theorem len_lacks : ("lacks " : Str).length = 6 := by decide +kernel
theorem len_sp : (" " : Str).length = 1 := by decide +kernel
theorem len_e : ("" : Str).length = 0 := by decide +kernel
theorem len_cat (l : List Str) : (cat l).length = (l.map (·.length)).sum := by
  induction l with
  | nil => rw [cat_nil, len_e] <;> rfl
  | cons x l ih => rw [cat_cons, len_app, ih, List.map_cons, List.sum_cons]
theorem sum_le {l : List Str} {k : Nat} (h : ∀ t ∈ l, t.length ≤ k) : (l.map (·.length)).sum ≤ l.length * k := StrLaws.sumLen_le l h
theorem len_cat_le {l : List Str} {k : Nat} (h : ∀ t ∈ l, t.length ≤ k) : (cat l).length ≤ l.length * k := by
  rw [len_cat]
  exact sum_le h
theorem len_whyL {row : List Str} (h : ∀ t ∈ row, t.length ≤ 10) : (whyL row).length ≤ 3 + row.length * 11 := by
  unfold whyL
  rw [len_app, len_why]
  have : (cat (row.map fun t => (" " : Str) ++ t)).length ≤ (row.map fun t => (" " : Str) ++ t).length * 11 := len_cat_le fun t ht => by
    obtain ⟨u, hu, rfl⟩ := List.mem_map.mp ht
    rw [len_app, len_sp]
    have := h u hu
    omega
  rw [List.length_map] at this
  omega
theorem len_lackL (t : Str) : (lackL t).length = 6 + t.length := by
  unfold lackL
  rw [len_app, len_lacks]

/-! ### lists that are made -/
section
variable {α : Type} {A : Sto} {η : En} {ma mb : ExM} {g : D → En → M En} {me : ExM}
theorem at_end (o : AO) : (A ++ [o])[A.length]? = some o := by simp
theorem set_end (o o' : AO) : (A ++ [o]).set A.length o' = A ++ [o'] := by simp
theorem take_end (o : AO) : (A ++ [o]).take A.length = A := by simp
theorem app_eq {n : Nat} {xs : List D} {d : D} {A1 : Sto} (ho : ma η A = .ok (.ref n) A) (h0 : A[n]? = some (.lst xs)) (hd : mb η A = .ok d A1) (h : A1[n]? = some (.lst xs)) (hl : xs.length < sizeLine) :
    xM "list" mAppend ma (aCons mb aNil) η A = .ok .non (A1.set n (.lst (xs ++ [d]))) := by
  refine xM_eq ho ?_ (a1_eq hd) ?_
  · unfold tyOk
    simp only [if_true, lstOf, h0, Option.map_some]
  · unfold mAppend
    simp only [h]
    rw [if_pos hl]
/-- a comprehension over a changing list -/
theorem mLcR {own : List Nat} {n : Nat} (e : α → D) (r : α → D) (xs : List α) (hi : ma η A = .ok (.ref n) A) (hA : A[n]? = some (.lst (xs.map e))) (hl : xs.length ≤ sizeLine)
    (h : ∀ x ∈ xs, ∃ η1, g (e x) (wipeE η own) A = .ok η1 A ∧ me η1 A = .ok (r x) A) :
    mLc own (iSeq ma) g tNone me η A = .ok (.lst (xs.map r)) A := by
  refine mLc_all (it := ⟨xs.map e, fun A' => A'[n]? = some (.lst (xs.map e))⟩) e r xs (iSeq_eq hi ?_) hA rfl hl h
  unfold seqIt
  simp only [hA]
theorem flat_snoc {o : AO} (h : Flat A) (g : rokO 0 o = true) : Flat (A ++ [o]) := h.app (by simp [Flat, g])
end

def lk (ts row : List Str) : Str := (row.filter fun t => !decide (t ∈ ts)).headD ""
def notLines (R : List (List Str)) (ts : List Str) : List Str := ("not" : Str) :: R.map fun r => lackL (lk ts r)
def paperV (R : List (List Str)) (ts : List Str) : Str := match leastV R ts with
  | some b => whyL b ++ ("\n" : Str)
  | none => cat ((notLines R ts).map fun x => x ++ ("\n" : Str))
theorem lk_mem {ts row : List Str} (h : within row ts = false) : ∃ l, row.filter (fun t => !decide (t ∈ ts)) = lk ts row :: l := by
  unfold lk
  cases e : row.filter fun t => !decide (t ∈ ts) with
  | nil =>
    rw [List.filter_eq_nil_iff] at e
    have : within row ts = true := by
      unfold within
      rw [List.all_eq_true]
      intro t ht
      have := e t ht
      simpa using this
    rw [this] at h
    cases h
  | cons a l => exact ⟨l, rfl⟩
theorem lk_in {ts row : List Str} (h : within row ts = false) : lk ts row ∈ row ∧ lk ts row ∉ ts := by
  obtain ⟨l, e⟩ := lk_mem h
  have : lk ts row ∈ row.filter fun t => !decide (t ∈ ts) := by rw [e]; exact List.mem_cons_self ..
  obtain ⟨h1, h2⟩ := List.mem_filter.mp this
  exact ⟨h1, by simpa using h2⟩
section
variable {A : Sto} {P : Poly} {ts : List Str} {b : Bool}
theorem len_lk {row : List Str} (h : ∀ t ∈ row, t.length ≤ 10) : (lk ts row).length ≤ 10 := by
  unfold lk
  cases e : row.filter fun t => !decide (t ∈ ts) with
  | nil =>
    show ("" : Str).length ≤ 10
    rw [len_e]
    omega
  | cons a l =>
    have : a ∈ row.filter fun t => !decide (t ∈ ts) := by rw [e]; exact List.mem_cons_self ..
    exact h a (List.mem_filter.mp this).1
theorem notLines_len (S : Small P ts) : (notLines (sets P) ts).length ≤ 7 ∧ ∀ x ∈ notLines (sets P) ts, x.length ≤ 16 := by
  unfold notLines
  refine ⟨by rw [List.length_cons, List.length_map]; have := S.n'; omega, fun x hx => ?_⟩
  rcases List.mem_cons.mp hx with rfl | hx
  · rw [len_not]
    omega
  · obtain ⟨r, hr, rfl⟩ := List.mem_map.mp hx
    rw [len_lackL]
    have := len_lk (ts := ts) (S.rows r hr).2
    omega
theorem paper_len (S : Small P ts) : (paperV (sets P) ts).length ≤ 200 := by
  unfold paperV
  cases q : leastV (sets P) ts with
  | some z =>
    show (whyL z ++ ("\n" : Str)).length ≤ 200
    obtain ⟨h1, _, _⟩ := least_some q
    have := len_whyL (S.rows z h1).2
    have := (S.rows z h1).1
    rw [len_app, len_nl]
    omega
  | none =>
    show (cat ((notLines (sets P) ts).map fun x => x ++ ("\n" : Str))).length ≤ 200
    obtain ⟨h1, h2⟩ := notLines_len S
    have : (cat ((notLines (sets P) ts).map fun x => x ++ ("\n" : Str))).length ≤ ((notLines (sets P) ts).map fun x => x ++ ("\n" : Str)).length * 17 := len_cat_le fun t ht => by
      obtain ⟨u, hu, rfl⟩ := List.mem_map.mp ht
      rw [len_app, len_nl]
      have := h2 u hu
      omega
    rw [List.length_map] at this
    omega
/-- join of a few short texts -/
theorem join_small {y : D} {s : Str} {l : List Str} {k : Nat} (hs : seqOf A y = some (l.map .str)) (h1 : l.length ≤ 1000) (h2 : ∀ t ∈ l, t.length ≤ k) (h3 : k + s.length ≤ 10000) : mJoin A (.str s) [y] = some (.str (Txt.join s l), A) := by
  refine mJoin_eq hs ?_
  have h := sum_le h2
  have e1 : l.length * k ≤ 1000 * k := Nat.mul_le_mul_right _ h1
  have e2 : l.length * s.length ≤ 1000 * s.length := Nat.mul_le_mul_right _ h1
  omega
theorem s_29 (S : Small P ts) (hf : Flat A) : M_29 [eP P, tokD b ts] A = .ok (.str (paperV (sets P) ts)) A := by
  have R := S.rows
  have N := S.n'
  have h28 := s_28 (b := b) S hf
  unfold paperV
  cases q : leastV (sets P) ts with
  | some z =>
    rw [q] at h28
    obtain ⟨hz, _, _⟩ := least_some q
    have r1 := R z hz
    refine callB_rt (η0 := [some (eP P), some (tokD b ts), none, none, none, none, none]) (η' := [some (eP P), some (tokD b ts), some (eL z), none, none, none, none]) (A1 := A) rfl ?_ (take_all _) rfl hf
    refine mSeq_nx (sSet_eq (xCall_eq (aCons_eq (xVar_eq rfl) (a1_eq (xVar_eq rfl))) rfl h28)) (mSeq_rt ?_)
    refine sIf_t (t2_eq (xVar_eq rfl) xNon_eq (opIsNot_opt (some z))) (sRet_eq (x2_eq (xM_eq xStr_eq rfl (a1_eq (x2_eq (xLst_eq (a1_eq xStr_eq) (by decide)) (xVar_eq rfl) (opAdd_lst (a := [.str "why"]) (b := z.map .str) (by
      rw [List.length_map, sizeLine_eq]
      show 1 + z.length ≤ _
      omega)))) (join_small (l := ("why" : Str) :: z) (k := 10) rfl (by rw [List.length_cons]; omega) (fun t ht => by
        rcases List.mem_cons.mp ht with rfl | ht
        · rw [len_why]; omega
        · exact r1.2 t ht) (by rw [len_sp]; omega))) xStr_eq ?_))
    rw [join_words]
    refine opAdd_str ?_
    have := len_whyL r1.2
    unfold whyL at this
    rw [len_nl, sizeLine_eq]
    omega
  | none =>
    rw [q] at h28
    have hno := least_none q
    have hf1 : ∀ l : List Str, Flat (A ++ [AO.lst (l.map D.str)]) := fun l => flat_snoc hf (flat_strs l)
    obtain ⟨η2, c, A2, h, h2⟩ := mFor_inv (mi := iSeq (xCall 1 M_26 (aCons (xVar 0) aNil))) (g := gName 4) (body := sExp (xM "list" mAppend (xVar 3) (aCons (x2 opAdd (xStr "lacks ") (x2 opIx (mLc [6] (iSeq (xVar 4)) (gName 6) (t2 opNotIn (xVar 6) (xVar 1)) (xVar 6)) (xInt 0))) aNil)))
      (η := [some (eP P), some (tokD b ts), some .non, some (.ref A.length), none, none, none]) (A0 := A ++ [AO.lst [D.str "not"]]) (A := A ++ [AO.lst [D.str "not"]]) eL (fun _ _ => False)
      (fun ys η A' => ∃ (acc : List Str) (x4 : Option D), A' = A ++ [AO.lst (acc.map D.str)] ∧ η = [some (eP P), some (tokD b ts), some .non, some (.ref A.length), x4, none, none] ∧ acc ++ ys.map (fun r => lackL (lk ts r)) = notLines (sets P) ts ∧ ∀ r ∈ ys, r ∈ sets P)
      (sets P) (iSeq_lst (xCall_eq (a1_eq (xVar_eq rfl)) rfl (s26 S (hf1 ["not"])))) rfl ⟨["not"], none, rfl, rfl, rfl, fun _ h => h⟩ (fun _ _ _ _ => trivial) fun r ys η A' ⟨acc, x4, eA, e, hb, hm⟩ => by
        subst eA
        subst e
        have hr := hm r (List.mem_cons_self ..)
        obtain ⟨l, el⟩ := lk_mem (hno r hr)
        have hacc : acc.length ≤ 7 := by
          have := (notLines_len S).1
          rw [← hb, List.length_append] at this
          omega
        have hc : mLc [6] (iSeq (xVar 4)) (gName 6) (t2 opNotIn (xVar 6) (xVar 1)) (xVar 6) [some (eP P), some (tokD b ts), some .non, some (.ref A.length), some (eL r), none, none] (A ++ [AO.lst (acc.map D.str)]) = .ok (.lst ((r.filter fun t => !decide (t ∈ ts)).map D.str)) (A ++ [AO.lst (acc.map D.str)]) := by
          apply mLcF D.str (fun t => !decide (t ∈ ts)) D.str r
          · exact iSeq_lst (xVar_eq rfl)
          · have := (R r hr).1
            rw [sizeLine_eq]
            omega
          · intro t _
            exact ⟨_, gName_eq, t2_eq (xVar_eq rfl) (xVar_eq rfl) (opNotIn_tok b t ts), fun _ => xVar_eq rfl⟩
        rw [el] at hc
        refine ⟨_, _, [some (eP P), some (tokD b ts), some .non, some (.ref A.length), some (eL r), none, none], .nx, A ++ [AO.lst ((acc ++ [lackL (lk ts r)]).map D.str)], gName_eq, ?_, .inl ⟨rfl, acc ++ [lackL (lk ts r)], some (eL r), rfl, rfl, ?_, fun x hx => hm x (List.mem_cons_of_mem _ hx)⟩⟩
        · have ea : A ++ [AO.lst ((acc ++ [lackL (lk ts r)]).map D.str)] = (A ++ [AO.lst (acc.map D.str)]).set A.length (.lst (acc.map .str ++ [D.str (lackL (lk ts r))])) := by
            rw [set_end, List.map_append] <;> rfl
          rw [ea]
          refine sExp_eq (app_eq (xVar_eq rfl) (at_end _) (x2_eq xStr_eq (x2_eq hc xInt_eq (opIx_0 (l := l.map .str) rfl)) (opAdd_str ?_)) (at_end _) ?_)
          · rw [len_lacks, sizeLine_eq]
            have := len_lk (ts := ts) (R r hr).2
            omega
          · rw [List.length_map, sizeLine_eq]
            omega
        · rw [← hb, List.append_assoc] <;> rfl
    rcases h2 with ⟨rfl, acc, x4, rfl, rfl, hb, _⟩ | ⟨d, _, hd⟩
    · rw [List.map_nil, List.append_nil] at hb
      subst hb
      obtain ⟨n1, n2⟩ := notLines_len S
      have hc : mLc [5] (iSeq (xVar 3)) (gName 5) tNone (x2 opAdd (xVar 5) (xStr "\n")) [some (eP P), some (tokD b ts), some .non, some (.ref A.length), x4, none, none] (A ++ [AO.lst ((notLines (sets P) ts).map D.str)]) = .ok (.lst (((notLines (sets P) ts).map fun x => x ++ ("\n" : Str)).map D.str)) (A ++ [AO.lst ((notLines (sets P) ts).map D.str)]) := by
        have e : ((notLines (sets P) ts).map fun x => x ++ ("\n" : Str)).map D.str = (notLines (sets P) ts).map fun x => D.str (x ++ ("\n" : Str)) := by rw [List.map_map] <;> rfl
        rw [e]
        apply mLcR D.str (fun x => D.str (x ++ ("\n" : Str))) (notLines (sets P) ts)
        · exact xVar_eq rfl
        · exact at_end _
        · rw [sizeLine_eq]
          omega
        · intro x hx
          refine ⟨_, gName_eq, x2_eq (xVar_eq rfl) xStr_eq (opAdd_str ?_)⟩
          rw [len_nl, sizeLine_eq]
          have := n2 x hx
          omega
      have hj : mJoin (A ++ [AO.lst ((notLines (sets P) ts).map D.str)]) (.str "") [.lst (((notLines (sets P) ts).map fun x => x ++ ("\n" : Str)).map D.str)] = some (.str (Txt.join "" ((notLines (sets P) ts).map fun x => x ++ ("\n" : Str))), A ++ [AO.lst ((notLines (sets P) ts).map D.str)]) := by
        refine join_small (l := (notLines (sets P) ts).map fun x => x ++ ("\n" : Str)) (k := 17) rfl (by rw [List.length_map]; omega) (fun t ht => ?_) (by rw [len_e]; omega)
        obtain ⟨u, hu, rfl⟩ := List.mem_map.mp ht
        rw [len_app, len_nl]
        have := n2 u hu
        omega
      exact callB_rt (η0 := [some (eP P), some (tokD b ts), none, none, none, none, none]) (A1 := A ++ [AO.lst ((notLines (sets P) ts).map D.str)]) rfl (mSeq_nx (sSet_eq (xCall_eq (aCons_eq (xVar_eq rfl) (a1_eq (xVar_eq rfl))) rfl h28)) (mSeq_nx (sIf_f (t2_eq (xVar_eq rfl) xNon_eq (opIsNot_opt none)) mNext_eq) (mSeq_nx (sSet_eq (xLstR_eq (a1_eq xStr_eq) (by decide))) (mSeq_nx h (sRet_eq (xM_eq xStr_eq rfl (a1_eq hc) hj)))))) (take_end _) rfl hf
    · exact hd.elim
end
end K41
end

section
set_option Elab.async false
set_option linter.all false
set_option maxRecDepth 100000
set_option maxHeartbeats 1000000
set_option pp.maxSteps 600
/-! Mathematics, part e: the program's paper is the law's. -/
namespace K41
open PySem PySem.Spec PyProof.Rows L2 Cr TL
section
variable {A : Sto} {P : Poly} {ts : List Str} {b : Bool} {α : Type}
theorem blsOf_map (f : α → Bool) (xs : List α) : blsOf (xs.map fun x => D.bl (f x)) = some (xs.map f) := by
  induction xs with
  | nil => rfl
  | cons x xs ih =>
    show (blsOf (xs.map fun x => D.bl (f x))).map (f x :: ·) = _
    rw [ih] <;> rfl
theorem bAll_map (f : α → Bool) (xs : List α) : bAll A (.lst (xs.map fun x => D.bl (f x))) = some (.bl (xs.all f)) := by
  show ((blsOf (xs.map fun x => D.bl (f x))).map fun bs => D.bl (bs.all id)) = _
  rw [blsOf_map]
  show some (D.bl ((xs.map f).all id)) = _
  rw [List.all_map] <;> rfl
theorem bAny_map (f : α → Bool) (xs : List α) : bAny A (.lst (xs.map fun x => D.bl (f x))) = some (.bl (xs.any f)) := by
  show ((blsOf (xs.map fun x => D.bl (f x))).map fun bs => D.bl (bs.any id)) = _
  rw [blsOf_map]
  show some (D.bl ((xs.map f).any id)) = _
  rw [List.any_map] <;> rfl
/-- all of a row's tokens -/
theorem all_in {own : List Nat} {η : En} {x y : Nat} (r : List Str) (hr : iSeq (xVar x) η A = .ok ⟨r.map D.str, fun _ => True⟩ A) (hl : r.length ≤ sizeLine)
    (hy : ∀ t, xVar y ((wipeE η own).set x (some (.str t))) A = .ok (tokD b ts) A) : True := trivial
theorem s_10 {one other : List Str} (hl : one.length ≤ sizeLine) (hf : Flat A) : M_10 [eU one, eU other] A = .ok (.bl (within one other)) A := by
  have h : mLc [2] (iSeq (xVar 0)) (gName 2) tNone (x2 opIn (xVar 2) (xVar 1)) [some (eU one), some (eU other), none] A = .ok (.lst (one.map fun t => D.bl (decide (t ∈ other)))) A := by
    apply mLcA D.str (fun t => D.bl (decide (t ∈ other))) one
    · exact iSeq_tup (xVar_eq rfl)
    · exact hl
    · intro t _
      exact ⟨_, gName_eq, x2_eq (xVar_eq rfl) (xVar_eq rfl) (opIn_tok true t other)⟩
  exact callB_rt (η0 := [some (eU one), some (eU other), none]) rfl (sRet_eq (xN1_eq h (bAll_map _ one))) (take_all _) rfl hf
/-! ### frozen -/
theorem fz_atom {n : Nat} {d : D} (h : bIsi2 "list" "tuple" A d = some (.bl false)) (hd : rok 0 d = true) (hf : Flat A) : R_4 (n + 1) [d] A = .ok d A :=
  callB_rt (η0 := [some d, none]) rfl (mSeq_nx (sIf_f (tVal_eq (x1_eq (xVar_eq rfl) h)) mNext_eq) (sRet_eq (xVar_eq rfl))) (take_all _) hd hf
theorem fz_tup {n : Nat} (e : α → D) (xs : List α) (h : ∀ x ∈ xs, R_4 n [e x] A = .ok (e x) A) (hl : xs.length ≤ sizeLine) (hd : rok 0 (.tup (xs.map e)) = true) (hf : Flat A) : R_4 (n + 1) [.tup (xs.map e)] A = .ok (.tup (xs.map e)) A := by
  have hc : mLc [1] (iSeq (xVar 0)) (gName 1) tNone (xCall 1 (R_4 n) (aCons (xVar 1) aNil)) [some (.tup (xs.map e)), none] A = .ok (.lst (xs.map e)) A := by
    apply mLcA e e xs
    · exact iSeq_tup (xVar_eq rfl)
    · exact hl
    · intro x hx
      exact ⟨_, gName_eq, xCall_eq (a1_eq (xVar_eq rfl)) rfl (h x hx)⟩
  have hb : bIsi2 "list" "tuple" A (.tup (xs.map e)) = some (.bl true) := rfl
  exact callB_rt (η0 := [some (.tup (xs.map e)), none]) rfl (mSeq_rt (sIf_t (tVal_eq (x1_eq (xVar_eq rfl) hb)) (sRet_eq (xN1_eq hc rfl)))) (take_all _) hd hf
theorem two_le : 2 ≤ sizeLine := by decide
theorem s_4 (S : Small P ts) (hf : Flat A) : M_4 [eP P] A = .ok (eP P) A := by
  refine fz_tup eT P (fun t ht => ?_) S.p (flat_eP P) hf
  have e : eT t = .tup ([eM t.1, .int t.2].map id) := rfl
  rw [e]
  refine fz_tup id [eM t.1, .int t.2] (fun x hx => ?_) two_le (flat_eT t) hf
  rcases List.mem_cons.mp hx with rfl | hx
  · refine fz_tup ePr t.1 (fun p hp => ?_) (S.q t ht) (flat_eM _) hf
    have e : ePr p = .tup ([D.str p.1, .int p.2].map id) := rfl
    rw [e]
    refine fz_tup id [D.str p.1, .int p.2] (fun x hx => ?_) two_le rfl hf
    rcases List.mem_cons.mp hx with rfl | hx
    · exact fz_atom rfl rfl hf
    · rw [List.mem_singleton.mp hx]
      exact fz_atom rfl rfl hf
  · rw [List.mem_singleton.mp hx]
    exact fz_atom rfl rfl hf
theorem sets_eU (P : Poly) : (sets P).map eU = P.map fun t => eU (toks t.1) := by
  unfold sets
  rw [List.map_map] <;> rfl
theorem s_13 (S : Small P ts) (hf : Flat A) : M_13 [eP P] A = .ok (.lst ((sets P).map eU)) A := by
  have hc : mLc [1, 2] (iSeq (xCall 1 M_4 (aCons (xVar 0) aNil))) (gPair 1 2) tNone (xN (opN1 bTuple) (aCons (mLc [3, 2] (iSeq (xVar 1)) (gPair 3 2) tNone (xVar 3)) aNil)) [some (eP P), none, none, none] A = .ok (.lst ((sets P).map eU)) A := by
    rw [sets_eU]
    apply mLcA eT (fun t => eU (toks t.1)) P
    · exact iSeq_tup (xCall_eq (a1_eq (xVar_eq rfl)) rfl (s_4 S hf))
    · exact S.p
    · intro t ht
      refine ⟨_, gPair_eq, ?_⟩
      have hc : mLc [3, 2] (iSeq (xVar 1)) (gPair 3 2) tNone (xVar 3) [some (eP P), some (eM t.1), some (.int t.2), none] A = .ok (.lst ((toks t.1).map .str)) A := by
        have e : (toks t.1).map D.str = t.1.map fun p => D.str p.1 := by
          unfold toks
          rw [List.map_map] <;> rfl
        rw [e]
        apply mLcA ePr (fun p => D.str p.1) t.1
        · exact iSeq_tup (xVar_eq rfl)
        · exact S.q t ht
        · intro p _
          exact ⟨_, gPair_eq, xVar_eq rfl⟩
      exact xN1_eq hc rfl
  exact callB_rt (η0 := [some (eP P), none, none, none]) rfl (sRet_eq hc) (take_all _) (rok_lst (rokL_map fun r _ => flat_eU r)) hf
theorem s_16 {m : Mono} (hl : m.length ≤ sizeLine) (hw : within (toks m) ts = false) (hf : Flat A) : M_16 [eM m, tokD b ts] A = .ok (.str (lk ts (toks m))) A := by
  have hc : mLc [2, 3] (iSeq (xVar 0)) (gPair 2 3) (t2 opNotIn (xVar 2) (xVar 1)) (xVar 2) [some (eM m), some (tokD b ts), none, none] A = .ok (.lst (((toks m).filter fun t => !decide (t ∈ ts)).map .str)) A := by
    have e : ((toks m).filter fun t => !decide (t ∈ ts)).map D.str = (m.filter fun p => !decide (p.1 ∈ ts)).map fun p => D.str p.1 := by
      unfold toks
      rw [List.filter_map, List.map_map] <;> rfl
    rw [e]
    apply mLcF ePr (fun p => !decide (p.1 ∈ ts)) (fun p => D.str p.1) m
    · exact iSeq_tup (xVar_eq rfl)
    · exact hl
    · intro p _
      exact ⟨_, gPair_eq, t2_eq (xVar_eq rfl) (xVar_eq rfl) (opNotIn_tok b p.1 ts), fun _ => xVar_eq rfl⟩
  obtain ⟨l, el⟩ := lk_mem hw
  rw [el] at hc
  exact callB_rt (η0 := [some (eM m), some (tokD b ts), none, none]) rfl (sRet_eq (x2_eq hc xInt_eq (opIx_0 (l := l.map .str) rfl))) (take_all _) rfl hf
/-! ### least_sets -/
def rowKey (r : List Str) : NestedKey := .tup (r.map .text)
theorem nkL_strs (r : List Str) : nkL (r.map D.str) = some (r.map NestedKey.text) := by
  induction r with
  | nil => rfl
  | cons x r ih =>
    show nkL (D.str x :: r.map D.str) = _
    simp only [nkL, nk, ih]
    rfl
theorem depth_texts (r : List Str) : NestedKey.depthAll (r.map NestedKey.text) = 0 := by
  induction r with
  | nil => rfl
  | cons x r ih =>
    show NestedKey.depthAll (NestedKey.text x :: r.map NestedKey.text) = 0
    simp only [NestedKey.depthAll, NestedKey.depth, ih, Nat.max_self]
theorem tkOf_row (r : List Str) : tkOf (eU r) = some (rowKey r) := by
  show (match nk (.tup (r.map D.str)) with | some k => if k.depth ≤ 8 then some k else none | none => none) = _
  have e : nk (.tup (r.map D.str)) = some (rowKey r) := by
    simp only [nk, nkL_strs]
    rfl
  rw [e]
  show (if (rowKey r).depth ≤ 8 then some (rowKey r) else none) = _
  rw [if_pos]
  unfold rowKey
  simp only [NestedKey.depth, depth_texts]
  omega
theorem ofKey_row (r : List Str) : ofKey (rowKey r) = eU r := by
  have e : ∀ r : List Str, ofKey.ofKeys (r.map NestedKey.text) = r.map D.str := fun r => by
    induction r with
    | nil => rfl
    | cons x r ih =>
      show ofKey.ofKeys (NestedKey.text x :: r.map NestedKey.text) = D.str x :: r.map D.str
      simp only [ofKey.ofKeys, ofKey, ih]
  unfold rowKey eU
  simp only [ofKey, e]
theorem rowKey_inj {r s : List Str} (h : rowKey r = rowKey s) : r = s := by
  have e := congrArg ofKey h
  rw [ofKey_row, ofKey_row] at e
  have e2 : r.map D.str = s.map D.str := by injection e
  have : ∀ r s : List Str, r.map D.str = s.map D.str → r = s := fun r => by
    induction r with
    | nil =>
      intro s h
      cases s with
      | nil => rfl
      | cons y s => cases h
    | cons x r ih =>
      intro s h
      cases s with
      | nil => cases h
      | cons y s =>
        simp only [List.map_cons, List.cons.injEq, D.str.injEq] at h
        rw [h.1, ih s h.2]
  exact this r s e2
def ent (r : List Str) : NestedKey × D := (rowKey r, .bl true)
theorem put_ent (U : List (List Str)) (r : List Str) : ∃ U' : List (List Str), put (U.map ent) (rowKey r) (.bl true) = U'.map ent ∧ (∀ s, s ∈ U' ↔ s ∈ U ∨ s = r) ∧ U'.length ≤ U.length + 1 := by
  unfold put
  by_cases h : ((U.map ent).any fun p => decide (p.1 = rowKey r)) = true
  · rw [if_pos h]
    refine ⟨U, ?_, fun s => ⟨.inl, fun hs => ?_⟩, by omega⟩
    · rw [List.map_map]
      refine List.map_congr_left fun s _ => ?_
      show (if (ent s).1 = rowKey r then ((ent s).1, D.bl true) else ent s) = ent s
      split <;> rfl
    · rcases hs with hs | rfl
      · exact hs
      · obtain ⟨p, hp, e⟩ := List.any_eq_true.mp h
        obtain ⟨u, hu, rfl⟩ := List.mem_map.mp hp
        rw [← rowKey_inj (of_decide_eq_true e)]
        exact hu
  · rw [if_neg h]
    refine ⟨U ++ [r], by rw [List.map_append] <;> rfl, fun s => ?_, by rw [List.length_append] <;> exact Nat.le_refl _⟩
    rw [List.mem_append, List.mem_singleton]
theorem compN_rows {ok : Sto → Prop} {g : D → En → M En} {mk mv : ExM} {η : En} (ho : ok A) : ∀ (R U : List (List Str)), (∀ r ∈ R, ∃ η1, g (eU r) η A = .ok η1 A ∧ mk η1 A = .ok (eU r) A ∧ mv η1 A = .ok (.bl true) A) → U.length + R.length ≤ sizeLine →
    ∃ V : List (List Str), compN ok g tNone mk mv η (R.map eU) (U.map ent) A = .ok (V.map ent) A ∧ (∀ s, s ∈ V ↔ s ∈ U ∨ s ∈ R) ∧ V.length ≤ U.length + R.length
  | [], U, _, _ => by
    refine ⟨U, ?_, fun s => by simp, by simp⟩
    rw [List.map_nil, compN]
    exact if_pos ho
  | r :: R, U, h, hl => by
    obtain ⟨η1, h1, h2, h3⟩ := h r (List.mem_cons_self ..)
    obtain ⟨U', e, hm, hu⟩ := put_ent U r
    rw [List.length_cons] at hl
    obtain ⟨V, e2, hm2, hu2⟩ := compN_rows ho R U' (fun s hs => h s (List.mem_cons_of_mem _ hs)) (by omega)
    refine ⟨V, ?_, fun s => ?_, by rw [List.length_cons]; omega⟩
    · rw [List.map_cons, compN]
      refine (if_pos ho).trans ?_
      simp only [M.bind_def, M.calm, h1, tNone_eq, if_true, h2, h3, tkOf_row]
      rw [if_pos (by rw [List.length_map]; omega), e, e2]
    · rw [hm2, hm, List.mem_cons]
      constructor
      · rintro ((h | h) | h)
        · exact .inl h
        · exact .inr (.inl h)
        · exact .inr (.inr h)
      · rintro (h | h | h)
        · exact .inl (.inl h)
        · exact .inl (.inr h)
        · exact .inr h
end
end K41
end

section
set_option Elab.async false
set_option linter.all false
set_option maxRecDepth 100000
set_option maxHeartbeats 1000000
set_option pp.maxSteps 600
/-! Mathematics, part f: least_sets, witnesses, why_paper. -/
namespace K41
open PySem PySem.Spec PyProof.Rows L2 Cr TL
section
variable {A : Sto} {P : Poly} {ts : List Str} {b : Bool} {tP : Addr}
theorem mDn_rows {η : En} {R : List (List Str)} (h0 : η[0]? = some (some (.lst (R.map eU)))) (h2 : 2 < η.length) (hl : R.length ≤ sizeLine) :
    ∃ V : List (List Str), mDn [2] (iSeq (xVar 0)) (gName 2) tNone (xVar 2) (xBl true) η A = .ok (.dn (V.map ent)) A ∧ (∀ s, s ∈ V ↔ s ∈ R) ∧ V.length ≤ R.length := by
  obtain ⟨V, e, hm, hu⟩ := compN_rows (ok := fun _ => True) (g := gName 2) (mk := xVar 2) (mv := xBl true) (η := wipeE η [2]) (A := A) trivial R [] (fun r hr => ⟨_, gName_eq, xVar_eq (by rw [List.getElem?_set_self (by rw [wipeE_len]; exact h2)]), xBl_eq⟩) (by rw [List.length_nil]; omega)
  refine ⟨V, ?_, fun s => by rw [hm]; simp, by rw [List.length_nil] at hu; omega⟩
  unfold mDn
  refine (bind_ok (iSeq_lst (xVar_eq h0))).trans ((bind_ok e).trans rfl)
theorem bList_ent (V : List (List Str)) : bList A (.dn (V.map ent)) = some (.lst (V.map eU)) := by
  show some (D.lst ((V.map ent).map fun p => ofKey p.1)) = _
  rw [List.map_map]
  congr 2
  refine List.map_congr_left fun r _ => ?_
  exact ofKey_row r
theorem rowD_eU (r : List Str) : rowD (eU r) = true := by
  show (r.map D.str).all strD = true
  rw [List.all_map]
  exact List.all_eq_true.mpr fun _ _ => rfl
theorem sort_rows {V : List (List Str)} (hT : A[0]? = some (.tab tP tQ)) : bSortK 0 tP tQ A (.lst (V.map eU)) = some (.lst ((V.mergeSort kLe).map eU)) := by
  unfold bSortK
  simp only [hT]
  rw [if_pos (by simp)]
  show (if ((V.map eU).all rowD) = true then some (D.lst ((V.map eU).mergeSort (PySem.W.dataLe false Cr.keyD))) else none) = _
  rw [if_pos (by rw [List.all_map]; exact List.all_eq_true.mpr fun r _ => rowD_eU r), sort_map]
theorem addV_len : ∀ (S found : List (List Str)), (S.foldl addV found).length ≤ found.length + S.length
  | [], found => by simp
  | r :: S, found => by
    rw [List.foldl_cons, List.length_cons]
    have h := addV_len S (addV found r)
    have : (addV found r).length ≤ found.length + 1 := by
      unfold addV
      split
      · omega
      · rw [List.length_append] <;> exact Nat.le_refl _
    omega
theorem addV_mem : ∀ (S found : List (List Str)) (x : List Str), x ∈ S.foldl addV found → x ∈ found ∨ x ∈ S
  | [], found, x, h => .inl h
  | r :: S, found, x, h => by
    rw [List.foldl_cons] at h
    rcases addV_mem S _ x h with h | h
    · unfold addV at h
      split at h
      · exact .inl h
      · rcases List.mem_append.mp h with h | h
        · exact .inl h
        · rw [List.mem_singleton.mp h]
          exact .inr (List.mem_cons_self ..)
    · exact .inr (List.mem_cons_of_mem _ h)
theorem s_11 {R : List (List Str)} (hR : R.length ≤ 1000) (hr : ∀ r ∈ R, r.length ≤ 1000) (hT : A[0]? = some (.tab tP tQ)) (hf : Flat A) :
    ∃ V : List (List Str), M_11 tP [.lst (R.map eU)] A = .ok (.tup ((minsV (V.mergeSort kLe)).map eU)) A ∧ (∀ s, s ∈ V ↔ s ∈ R) ∧ V.length ≤ R.length := by
  have hsz := sizeLine_eq
  obtain ⟨V, eV, hm, hu⟩ := mDn_rows (A := A ++ [AO.lst []]) (η := [some (.lst (R.map eU)), some (.ref A.length), none, none]) rfl (by show 2 < 4; omega) (R := R) (by omega)
  have hT1 : ∀ o : AO, (A ++ [o])[0]? = some (.tab tP tQ) := fun o => by
    rw [List.getElem?_append_left]
    · exact hT
    · by_cases q : 0 < A.length
      · exact q
      · rw [List.getElem?_eq_none (by omega)] at hT
        cases hT
  have flatF : ∀ l : List (List Str), Flat (A ++ [AO.lst (l.map eU)]) := fun l => flat_snoc hf (rokL_map fun r _ => flat_eU r)
  have hS : ∀ r ∈ V.mergeSort kLe, r.length ≤ 1000 := fun r h => hr r ((hm r).mp (List.mem_mergeSort.mp h))
  have hSl : (V.mergeSort kLe).length ≤ 1000 := by rw [List.length_mergeSort]; omega
  obtain ⟨η2, c, A2, h, h2⟩ := mFor_inv (mi := iSeq (x1 (bSortK 0 tP tQ) (xN (opN1 bList) (aCons (mDn [2] (iSeq (xVar 0)) (gName 2) tNone (xVar 2) (xBl true)) aNil)))) (g := gName 2)
    (body := sIf (Cr.tNot (tVal (xN (opN1 bAny) (aCons (mLc [3] (iSeq (xVar 1)) (gName 3) tNone (xCall 2 M_10 (aCons (xVar 3) (aCons (xVar 2) aNil)))) aNil)))) (sExp (xM "list" mAppend (xVar 1) (aCons (xVar 2) aNil))) mNext)
    (η := [some (.lst (R.map eU)), some (.ref A.length), none, none]) (A0 := A ++ [AO.lst []]) (A := A ++ [AO.lst []]) eU (fun _ _ => False)
    (fun ys η A' => ∃ (found : List (List Str)) (o2 : Option D), A' = A ++ [AO.lst (found.map eU)] ∧ η = [some (.lst (R.map eU)), some (.ref A.length), o2, none] ∧ ys.foldl addV found = minsV (V.mergeSort kLe) ∧ found.length + ys.length ≤ 1000 ∧ (∀ r ∈ ys, r.length ≤ 1000) ∧ ∀ r ∈ found, r.length ≤ 1000)
    (V.mergeSort kLe) (iSeq_lst (x1_eq (xN1_eq eV (bList_ent V)) (sort_rows (hT1 _)))) rfl ⟨[], none, rfl, rfl, rfl, by rw [List.length_nil]; omega, hS, fun _ h => nomatch h⟩ (fun _ _ _ _ => trivial) fun r ys η A' ⟨found, o2, eA, e, hb, hn, hy, hfd⟩ => by
      subst eA
      subst e
      rw [List.length_cons] at hn
      have hc : mLc [3] (iSeq (xVar 1)) (gName 3) tNone (xCall 2 M_10 (aCons (xVar 3) (aCons (xVar 2) aNil))) [some (.lst (R.map eU)), some (.ref A.length), some (eU r), none] (A ++ [AO.lst (found.map eU)]) = .ok (.lst (found.map fun o => D.bl (within o r))) (A ++ [AO.lst (found.map eU)]) := by
        apply mLcR eU (fun o => D.bl (within o r)) found
        · exact xVar_eq rfl
        · exact at_end _
        · omega
        · intro o ho
          refine ⟨_, gName_eq, xCall_eq (aCons_eq (xVar_eq rfl) (a1_eq (xVar_eq rfl))) rfl (s_10 (by have := hfd o ho; omega) (flatF found))⟩
      have ht := tNot_eq (tVal_eq (xN1_eq hc (bAny_map (A := A ++ [AO.lst (found.map eU)]) (fun o => within o r) found)))
      have hb' : ys.foldl addV (addV found r) = minsV (V.mergeSort kLe) := hb
      cases q : found.any fun o => within o r with
      | true =>
        rw [q] at ht
        have e : addV found r = found := if_pos q
        rw [e] at hb'
        exact ⟨_, _, [some (.lst (R.map eU)), some (.ref A.length), some (eU r), none], .nx, _, gName_eq, sIf_f ht mNext_eq, .inl ⟨rfl, found, _, rfl, rfl, hb', by omega, fun x hx => hy x (List.mem_cons_of_mem _ hx), hfd⟩⟩
      | false =>
        rw [q] at ht
        have e : addV found r = found ++ [r] := if_neg (by rw [q]; decide)
        rw [e] at hb'
        refine ⟨_, _, [some (.lst (R.map eU)), some (.ref A.length), some (eU r), none], .nx, A ++ [AO.lst ((found ++ [r]).map eU)], gName_eq, sIf_t ht ?_, .inl ⟨rfl, found ++ [r], _, rfl, rfl, hb', by rw [List.length_append]; simp; omega, fun x hx => hy x (List.mem_cons_of_mem _ hx), fun x hx => ?_⟩⟩
        · have ea : A ++ [AO.lst ((found ++ [r]).map eU)] = (A ++ [AO.lst (found.map eU)]).set A.length (.lst (found.map eU ++ [eU r])) := by
            rw [set_end, List.map_append] <;> rfl
          rw [ea]
          refine sExp_eq (app_eq (xVar_eq rfl) (at_end _) (xVar_eq rfl) (at_end _) ?_)
          rw [List.length_map]
          omega
        · rcases List.mem_append.mp hx with hx | hx
          · exact hfd x hx
          · rw [List.mem_singleton.mp hx]
            exact hy r (List.mem_cons_self ..)
  rcases h2 with ⟨rfl, found, o2, rfl, rfl, hb, _⟩ | ⟨d, _, hd⟩
  · have e : found = minsV (V.mergeSort kLe) := hb
    subst e
    refine ⟨V, ?_, hm, hu⟩
    have hb : bTuple (A ++ [AO.lst ((minsV (V.mergeSort kLe)).map eU)]) (.ref A.length) = some (.tup ((minsV (V.mergeSort kLe)).map eU)) := by
      show (lstOf (A ++ [AO.lst ((minsV (V.mergeSort kLe)).map eU)]) (.ref A.length)).map D.tup = _
      unfold lstOf
      simp only [at_end]
      rfl
    exact callB_rt (η0 := [some (.lst (R.map eU)), none, none, none]) rfl (mSeq_nx (sSet_eq (xLstR_eq aNil_eq (by decide))) (mSeq_nx h (sRet_eq (xN1_eq (xVar_eq rfl) hb)))) (take_end _) (rok_tup (rokL_map fun r _ => flat_eU r)) hf
  · exact hd.elim
theorem s_14 (S : Small P ts) (hT : A[0]? = some (.tab tP tQ)) (hf : Flat A) :
    ∃ W : List (List Str), M_14 tP [eP P] A = .ok (.tup (W.map eU)) A ∧ (W.find? fun r => within r ts) = leastV (sets P) ts ∧ W.length ≤ 6 ∧ ∀ r ∈ W, r ∈ sets P := by
  have N := S.n'
  obtain ⟨V, e, hm, hu⟩ := s_11 (A := A) (tP := tP) (R := sets P) (by omega) (fun r hr => by have := (S.rows r hr).1; omega) hT hf
  refine ⟨minsV (V.mergeSort kLe), ?_, first_least ts hm, ?_, fun r hr => ?_⟩
  · exact callB_rt (η0 := [some (eP P)]) rfl (sRet_eq (xCall_eq (a1_eq (xCall_eq (a1_eq (xVar_eq rfl)) rfl (s_13 S hf))) rfl e)) (take_all _) (rok_tup (rokL_map fun r _ => flat_eU r)) hf
  · have := addV_len (V.mergeSort kLe) []
    rw [List.length_mergeSort, List.length_nil] at this
    unfold minsV
    omega
  · rcases addV_mem _ _ r hr with h | h
    · cases h
    · exact (hm r).mp (List.mem_mergeSort.mp h)
theorem s_17 (S : Small P ts) (hT : A[0]? = some (.tab tP tQ)) (hf : Flat A) : M_17 tP [eP P, tokD b ts] A = .ok (.str (paperV (sets P) ts)) A := by
  have hsz := sizeLine_eq
  have R := S.rows
  have N := S.n'
  obtain ⟨W, eW, hW, hWl, hWm⟩ := s_14 (tP := tP) S hT hf
  obtain ⟨η2, c, A2, h, h2⟩ := mFor_inv (mi := iSeq (xCall 1 (M_14 tP) (aCons (xVar 0) aNil))) (g := gName 2)
    (body := sIf (tVal (xN (opN1 bAll) (aCons (mLc [3] (iSeq (xVar 2)) (gName 3) tNone (x2 opIn (xVar 3) (xVar 1))) aNil))) (sRet (x2 opAdd (x2 opAdd (xStr "why") (xM "str" mJoin (xStr "") (aCons (mLc [3] (iSeq (xVar 2)) (gName 3) tNone (x2 opAdd (xStr " ") (xVar 3))) aNil))) (xStr "\n"))) mNext)
    (η := [some (eP P), some (tokD b ts), none, none, none, none]) (A0 := A) (A := A) eU (fun d A' => A' = A ∧ d = .str (paperV (sets P) ts))
    (fun ys η A' => A' = A ∧ (∃ o2 : Option D, η = [some (eP P), some (tokD b ts), o2, none, none, none]) ∧ (ys.find? fun r => within r ts) = leastV (sets P) ts ∧ ∀ r ∈ ys, r ∈ sets P)
    W (iSeq_tup (xCall_eq (a1_eq (xVar_eq rfl)) rfl eW)) rfl ⟨rfl, ⟨none, rfl⟩, hW, hWm⟩ (fun _ _ _ _ => trivial) fun r ys η A' ⟨eA, ⟨o2, e⟩, hb, hy⟩ => by
      subst eA
      subst e
      have hr := hy r (List.mem_cons_self ..)
      have r1 := R r hr
      have hc : mLc [3] (iSeq (xVar 2)) (gName 3) tNone (x2 opIn (xVar 3) (xVar 1)) [some (eP P), some (tokD b ts), some (eU r), none, none, none] A' = .ok (.lst (r.map fun t => D.bl (decide (t ∈ ts)))) A' := by
        apply mLcA D.str (fun t => D.bl (decide (t ∈ ts))) r
        · exact iSeq_tup (xVar_eq rfl)
        · omega
        · intro t _
          exact ⟨_, gName_eq, x2_eq (xVar_eq rfl) (xVar_eq rfl) (opIn_tok b t ts)⟩
      have ht : tVal (xN (opN1 bAll) (aCons (mLc [3] (iSeq (xVar 2)) (gName 3) tNone (x2 opIn (xVar 3) (xVar 1))) aNil)) [some (eP P), some (tokD b ts), some (eU r), none, none, none] A' = .ok (within r ts) A' := tVal_eq (xN1_eq hc (bAll_map _ r))
      cases q : within r ts with
      | true =>
        rw [q] at ht
        rw [List.find?_cons_of_pos (by exact q)] at hb
        have hc2 : mLc [3] (iSeq (xVar 2)) (gName 3) tNone (x2 opAdd (xStr " ") (xVar 3)) [some (eP P), some (tokD b ts), some (eU r), none, none, none] A' = .ok (.lst ((r.map fun t => (" " : Str) ++ t).map D.str)) A' := by
          have e : (r.map fun t => (" " : Str) ++ t).map D.str = r.map fun t => D.str ((" " : Str) ++ t) := by rw [List.map_map] <;> rfl
          rw [e]
          apply mLcA D.str (fun t => D.str ((" " : Str) ++ t)) r
          · exact iSeq_tup (xVar_eq rfl)
          · omega
          · intro t ht
            refine ⟨_, gName_eq, x2_eq xStr_eq (xVar_eq rfl) (opAdd_str ?_)⟩
            have := r1.2 t ht
            rw [len_sp]
            omega
        have hj : mJoin A' (.str "") [.lst ((r.map fun t => (" " : Str) ++ t).map D.str)] = some (.str (cat (r.map fun t => (" " : Str) ++ t)), A') := by
          refine join_small (l := r.map fun t => (" " : Str) ++ t) (k := 11) rfl (by rw [List.length_map]; omega) (fun t ht => ?_) (by rw [len_e]; omega)
          obtain ⟨u, hu, rfl⟩ := List.mem_map.mp ht
          rw [len_app, len_sp]
          have := r1.2 u hu
          omega
        have hw := len_whyL r1.2
        have hw' := hw
        unfold whyL at hw'
        rw [len_app] at hw'
        refine ⟨_, _, _, .rt (.str (whyL r ++ ("\n" : Str))), A', gName_eq, sIf_t ht (sRet_eq (x2_eq (x2_eq xStr_eq (xM_eq xStr_eq rfl (a1_eq hc2) hj) (opAdd_str (by omega))) xStr_eq (opAdd_str ?_))), .inr ⟨_, rfl, rfl, ?_⟩⟩
        · rw [len_app, len_nl]
          omega
        · unfold paperV
          rw [← hb]
      | false =>
        rw [q] at ht
        rw [List.find?_cons_of_neg (by rw [q]; decide)] at hb
        exact ⟨_, _, [some (eP P), some (tokD b ts), some (eU r), none, none, none], .nx, A', gName_eq, sIf_f ht mNext_eq, .inl ⟨rfl, rfl, ⟨_, rfl⟩, hb, fun x hx => hy x (List.mem_cons_of_mem _ hx)⟩⟩
  rcases h2 with ⟨rfl, rfl, ⟨o2, rfl⟩, hb, _⟩ | ⟨d, rfl, rfl, rfl⟩
  · have hno := least_none (hb.symm.trans rfl)
    have hz : leastV (sets P) ts = none := hb.symm.trans rfl
    have hc : mLc [4, 5] (iSeq (xVar 0)) (gPair 4 5) tNone (x2 opAdd (x2 opAdd (xStr "lacks ") (xCall 2 M_16 (aCons (xVar 4) (aCons (xVar 1) aNil)))) (xStr "\n")) [some (eP P), some (tokD b ts), o2, none, none, none] A2 = .ok (.lst (((sets P).map fun r => lackL (lk ts r) ++ ("\n" : Str)).map D.str)) A2 := by
      have e : ((sets P).map fun r => lackL (lk ts r) ++ ("\n" : Str)).map D.str = P.map fun t => D.str (lackL (lk ts (toks t.1)) ++ ("\n" : Str)) := by
        unfold sets
        rw [List.map_map, List.map_map] <;> rfl
      rw [e]
      apply mLcA eT (fun t => D.str (lackL (lk ts (toks t.1)) ++ ("\n" : Str))) P
      · exact iSeq_tup (xVar_eq rfl)
      · exact S.p
      · intro t ht
        have hr : toks t.1 ∈ sets P := List.mem_map.mpr ⟨t, ht, rfl⟩
        have hl := len_lk (ts := ts) (R _ hr).2
        refine ⟨_, gPair_eq, x2_eq (x2_eq xStr_eq (xCall_eq (aCons_eq (xVar_eq rfl) (a1_eq (xVar_eq rfl))) rfl (s_16 (S.q t ht) (hno _ hr) hf)) (opAdd_str ?_)) xStr_eq (opAdd_str ?_)⟩
        · rw [len_lacks]
          omega
        · have := len_lackL (lk ts (toks t.1))
          unfold lackL at this
          rw [this, len_nl]
          omega
    have hlen : ∀ t ∈ (sets P).map fun r => lackL (lk ts r) ++ ("\n" : Str), t.length ≤ 17 := fun t ht => by
      obtain ⟨r, hr, rfl⟩ := List.mem_map.mp ht
      rw [len_app, len_lackL, len_nl]
      have := len_lk (ts := ts) (R _ hr).2
      omega
    have hj : mJoin A2 (.str "") [.lst (((sets P).map fun r => lackL (lk ts r) ++ ("\n" : Str)).map D.str)] = some (.str (cat ((sets P).map fun r => lackL (lk ts r) ++ ("\n" : Str))), A2) :=
      join_small (l := (sets P).map fun r => lackL (lk ts r) ++ ("\n" : Str)) (k := 17) rfl (by rw [List.length_map]; omega) hlen (by rw [len_e]; omega)
    have hpv : paperV (sets P) ts = ("not\n" : Str) ++ cat ((sets P).map fun r => lackL (lk ts r) ++ ("\n" : Str)) := by
      unfold paperV
      rw [hz]
      show cat ((notLines (sets P) ts).map fun x => x ++ ("\n" : Str)) = _
      unfold notLines
      rw [List.map_cons, cat_cons, List.map_map]
      have e : ("not\n" : Str) = ("not" : Str) ++ ("\n" : Str) := by decide +kernel
      rw [e] <;> rfl
    rw [hpv]
    refine callB_rt (η0 := [some (eP P), some (tokD b ts), none, none, none, none]) rfl (mSeq_nx h (sRet_eq (x2_eq xStr_eq (xM_eq xStr_eq rfl (a1_eq hc) hj) (opAdd_str ?_)))) (take_all _) rfl hf
    have h1 := len_cat_le hlen
    rw [List.length_map] at h1
    have h2 : ("not\n" : Str).length = 4 := by decide +kernel
    rw [h2]
    omega
  · exact callB_rt (η0 := [some (eP P), some (tokD b ts), none, none, none, none]) rfl (mSeq_rt h) (take_all _) rfl hf
end
end K41
end

section
set_option Elab.async false
set_option linter.all false
set_option maxRecDepth 100000
set_option maxHeartbeats 1000000
set_option pp.maxSteps 600
/-! Mathematics, part g: slices; is_right_why, is_right_not, why_holds. -/
namespace K41
open PySem PySem.Spec PyProof.Rows L2 Cr TL
theorem pick_range {α : Type} (l : List α) (a : Nat) : ∀ k : Nat, ((List.range k).map (a + ·)).filterMap (l[·]?) = (l.drop a).take k
  | 0 => by simp
  | k + 1 => by
    rw [List.range_succ, List.map_append, List.filterMap_append, pick_range l a k, List.take_succ, List.getElem?_drop]
    congr 1
theorem pickL_plain {α : Type} (l : List α) (lo hi : Option Int) : pickL l lo hi none = (l.drop (HT.sIx l.length 0 lo)).take (HT.sIx l.length l.length hi - HT.sIx l.length 0 lo) := by
  unfold pickL
  obtain ⟨h1, h2, h3⟩ := slice_bounds lo hi l.length
  rw [h1, h2, h3, sliceRange_one, pick_range]
theorem pickL_tail {α : Type} (l : List α) : pickL l (some 1) none none = l.tail := by
  rw [pickL_plain]
  have e : HT.sIx l.length 0 (some 1) = min 1 l.length := HT.sIx_nat _ _ 1
  rw [e, HT.sIx_none]
  cases l with
  | nil => rfl
  | cons a l =>
    have e : min 1 (a :: l).length = 1 := by rw [List.length_cons]; omega
    rw [e]
    show l.take ((l.length + 1) - 1) = l
    rw [Nat.add_sub_cancel, List.take_length]
theorem pickL_take {α : Type} (l : List α) (k : Nat) : pickL l none (some (k : Int)) none = l.take k := by
  rw [pickL_plain, HT.sIx_none, HT.sIx_nat, List.drop_zero, Nat.sub_zero]
  by_cases h : k ≤ l.length
  · rw [Nat.min_eq_left h]
  · rw [Nat.min_eq_right (by omega), List.take_length, List.take_of_length_le (by omega)]
theorem pickL_mem {α : Type} {l : List α} {lo hi st : Option Int} {x : α} (h : x ∈ pickL l lo hi st) : x ∈ l := by
  unfold pickL at h
  obtain ⟨i, _, e⟩ := List.mem_filterMap.mp h
  exact List.mem_of_getElem? e
theorem opSl_lst {A : Sto} {lo hi st : Option Int} {x : D} {l : List D} (hx : lstOf A x = some l) (hs : ∀ z, x ≠ .str z) (h0 : st ≠ some 0) (hl : (pickL l lo hi st).length ≤ sizeLine) : opSl lo hi st A x = some (.lst (pickL l lo hi st)) := by
  cases x with
  | str z => exact absurd rfl (hs z)
  | _ =>
    unfold opSl
    simp only [hx]
    rw [if_pos ⟨h0, hl⟩]
theorem tail_map (l : List Str) : (l.map D.str).tail = l.tail.map D.str := by cases l <;> rfl
theorem opSl_tail {A : Sto} {l : List Str} (hl : l.length ≤ sizeLine) : opSl (some 1) none none A (eL l) = some (eL l.tail) := by
  have e : pickL (l.map D.str) (some 1) none none = l.tail.map D.str := by rw [pickL_tail, tail_map]
  rw [opSl_lst (x := eL l) rfl (fun _ h => by cases h) (by simp) (by rw [e, List.length_map, List.length_tail]; omega), e] <;> rfl
theorem opSl_last {A : Sto} {x : Str} (hx : x.length ≤ sizeLine) : opSl none (some (-1)) none A (.str x) = some (.str (cutS x none (some (-1)))) := by
  unfold opSl
  exact if_pos ⟨rfl, hx⟩
section
variable {A : Sto} {P : Poly} {ts : List Str} {b : Bool}
theorem len_cut (x : Str) : (cutS x none (some (-1))).length ≤ x.length := cutS_length x _ _
theorem len_lines {x y : Str} (h : y ∈ linesOf x) : y.length ≤ x.length := part_short h
theorem len_words {x y : Str} (h : y ∈ wordsOf x) : y.length ≤ x.length := part_short h
theorem lines_weight (x : Str) : ((linesOf x).map (·.length)).sum + (linesOf x).length ≤ x.length + 1 := split_weight x "\n" (by rw [len_nl]; exact Nat.le_refl _)
theorem words_weight (x : Str) : ((wordsOf x).map (·.length)).sum + (wordsOf x).length ≤ x.length + 1 := split_weight x " " (by rw [len_sp]; exact Nat.le_refl _)
theorem lines_hd (x : Str) : (linesOf x)[0]? = some ((linesOf x).headD "") := by
  cases q : linesOf x with
  | nil => exact absurd q (lines_ne x)
  | cons a l => rfl
theorem opIx_hd {l : List Str} (h : l ≠ []) : opIx A (eL l) (.int 0) = some (.str (l.headD "")) := by
  cases l with
  | nil => exact absurd rfl h
  | cons a l => exact opIx_0 (l := l.map .str) rfl

theorem askWhy_sets (P : Poly) (ts : List Str) (line : Str) : askWhy (sets P) ts line = P.any fun t => decide (line = whyL (toks t.1)) && within (toks t.1) ts := by
  unfold askWhy sets
  rw [List.any_map] <;> rfl
theorem s_7 (S : Small P ts) (hf : Flat A) (line : Str) : M_7 [eP P, tokD b ts, .str line] A = .ok (.bl (askWhy (sets P) ts line)) A := by
  have hsz := sizeLine_eq
  rw [askWhy_sets]
  obtain ⟨η2, c, A2, h, h2⟩ := mFor_inv (mi := iSeq (xVar 0)) (g := gPair 3 4)
    (body := mSeq (sSet 5 (mLc [6, 4] (iSeq (xVar 3)) (gPair 6 4) tNone (xVar 6))) (sIf (Cr.tAnd (t2 opEq (xVar 2) (x2 opAdd (xStr "why") (xM "str" mJoin (xStr "") (aCons (mLc [6] (iSeq (xVar 5)) (gName 6) tNone (x2 opAdd (xStr " ") (xVar 6))) aNil)))) (tVal (xN (opN1 bAll) (aCons (mLc [6] (iSeq (xVar 5)) (gName 6) tNone (x2 opIn (xVar 6) (xVar 1))) aNil)))) (sRet (xBl true)) mNext))
    (η := [some (eP P), some (tokD b ts), some (.str line), none, none, none, none]) (A0 := A) (A := A) eT (fun d A' => A' = A ∧ d = .bl (P.any fun t => decide (line = whyL (toks t.1)) && within (toks t.1) ts))
    (fun ys η A' => A' = A ∧ (∃ o3 o4 o5 : Option D, η = [some (eP P), some (tokD b ts), some (.str line), o3, o4, o5, none]) ∧ (ys.any fun t => decide (line = whyL (toks t.1)) && within (toks t.1) ts) = (P.any fun t => decide (line = whyL (toks t.1)) && within (toks t.1) ts) ∧ ∀ r ∈ ys, r ∈ P)
    P (iSeq_tup (xVar_eq rfl)) rfl ⟨rfl, ⟨none, none, none, rfl⟩, rfl, fun _ h => h⟩ (fun _ _ _ _ => trivial) fun t ys η A' ⟨eA, ⟨o3, o4, o5, e⟩, hb, hy⟩ => by
      subst eA
      subst e
      have ht := hy t (List.mem_cons_self ..)
      have r1 := S.rows (toks t.1) (List.mem_map.mpr ⟨t, ht, rfl⟩)
      have hc : mLc [6, 4] (iSeq (xVar 3)) (gPair 6 4) tNone (xVar 6) [some (eP P), some (tokD b ts), some (.str line), some (eM t.1), some (.int t.2), o5, none] A' = .ok (eL (toks t.1)) A' := by
        have e : eL (toks t.1) = D.lst (t.1.map fun p => D.str p.1) := by
          unfold toks eL
          rw [List.map_map] <;> rfl
        rw [e]
        apply mLcA ePr (fun p => D.str p.1) t.1
        · exact iSeq_tup (xVar_eq rfl)
        · exact S.q t ht
        · intro p _
          exact ⟨_, gPair_eq, xVar_eq rfl⟩
      have hc2 : mLc [6] (iSeq (xVar 5)) (gName 6) tNone (x2 opAdd (xStr " ") (xVar 6)) [some (eP P), some (tokD b ts), some (.str line), some (eM t.1), some (.int t.2), some (eL (toks t.1)), none] A' = .ok (.lst (((toks t.1).map fun t => (" " : Str) ++ t).map D.str)) A' := by
        have e : ((toks t.1).map fun t => (" " : Str) ++ t).map D.str = (toks t.1).map fun t => D.str ((" " : Str) ++ t) := by rw [List.map_map] <;> rfl
        rw [e]
        apply mLcA D.str (fun t => D.str ((" " : Str) ++ t)) (toks t.1)
        · exact iSeq_lst (xVar_eq rfl)
        · omega
        · intro t ht
          refine ⟨_, gName_eq, x2_eq xStr_eq (xVar_eq rfl) (opAdd_str ?_)⟩
          have := r1.2 t ht
          rw [len_sp]
          omega
      have hj : mJoin A' (.str "") [.lst (((toks t.1).map fun t => (" " : Str) ++ t).map D.str)] = some (.str (cat ((toks t.1).map fun t => (" " : Str) ++ t)), A') := by
        refine join_small (l := (toks t.1).map fun t => (" " : Str) ++ t) (k := 11) rfl (by rw [List.length_map]; omega) (fun t ht => ?_) (by rw [len_e]; omega)
        obtain ⟨u, hu, rfl⟩ := List.mem_map.mp ht
        rw [len_app, len_sp]
        have := r1.2 u hu
        omega
      have hw := len_whyL r1.2
      unfold whyL at hw
      rw [len_app] at hw
      have hc3 : mLc [6] (iSeq (xVar 5)) (gName 6) tNone (x2 opIn (xVar 6) (xVar 1)) [some (eP P), some (tokD b ts), some (.str line), some (eM t.1), some (.int t.2), some (eL (toks t.1)), none] A' = .ok (.lst ((toks t.1).map fun u => D.bl (decide (u ∈ ts)))) A' := by
        apply mLcA D.str (fun u => D.bl (decide (u ∈ ts))) (toks t.1)
        · exact iSeq_lst (xVar_eq rfl)
        · omega
        · intro t _
          exact ⟨_, gName_eq, x2_eq (xVar_eq rfl) (xVar_eq rfl) (opIn_tok b t ts)⟩
      have hq : Cr.tAnd (t2 opEq (xVar 2) (x2 opAdd (xStr "why") (xM "str" mJoin (xStr "") (aCons (mLc [6] (iSeq (xVar 5)) (gName 6) tNone (x2 opAdd (xStr " ") (xVar 6))) aNil)))) (tVal (xN (opN1 bAll) (aCons (mLc [6] (iSeq (xVar 5)) (gName 6) tNone (x2 opIn (xVar 6) (xVar 1))) aNil))) [some (eP P), some (tokD b ts), some (.str line), some (eM t.1), some (.int t.2), some (eL (toks t.1)), none] A' = .ok (decide (line = whyL (toks t.1)) && within (toks t.1) ts) A' :=
        tAnd_eq (t2_eq (xVar_eq rfl) (x2_eq xStr_eq (xM_eq xStr_eq rfl (a1_eq hc2) hj) (opAdd_str (by omega))) opEq_str) fun _ => tVal_eq (xN1_eq hc3 (bAll_map _ _))
      rw [List.any_cons] at hb
      cases q : decide (line = whyL (toks t.1)) && within (toks t.1) ts with
      | true =>
        rw [q] at hq hb
        rw [Bool.true_or] at hb
        exact ⟨_, _, _, .rt (.bl true), A', gPair_eq, mSeq_nx (sSet_eq hc) (sIf_t hq (sRet_eq xBl_eq)), .inr ⟨_, rfl, rfl, by rw [← hb]⟩⟩
      | false =>
        rw [q] at hq hb
        rw [Bool.false_or] at hb
        exact ⟨_, _, [some (eP P), some (tokD b ts), some (.str line), some (eM t.1), some (.int t.2), some (eL (toks t.1)), none], .nx, A', gPair_eq, mSeq_nx (sSet_eq hc) (sIf_f hq mNext_eq), .inl ⟨rfl, rfl, ⟨_, _, _, rfl⟩, hb, fun x hx => hy x (List.mem_cons_of_mem _ hx)⟩⟩
  rcases h2 with ⟨rfl, rfl, ⟨o3, o4, o5, rfl⟩, hb, _⟩ | ⟨d, rfl, rfl, rfl⟩
  · rw [← hb]
    exact callB_rt (η0 := [some (eP P), some (tokD b ts), some (.str line), none, none, none, none]) rfl (mSeq_nx h (sRet_eq xBl_eq)) (take_all _) rfl hf
  · exact callB_rt (η0 := [some (eP P), some (tokD b ts), some (.str line), none, none, none, none]) rfl (mSeq_rt h) (take_all _) rfl hf
def eZ (z : Str × (Mono × Int)) : D := .tup [.str z.1, eT z.2]
theorem zip_its : ∀ (l : List Str) (P : Poly), List.zipWith (fun a b => D.tup [a, b]) (l.map D.str) (P.map eT) = (l.zip P).map eZ
  | [], _ => rfl
  | _ :: _, [] => rfl
  | x :: l, t :: P => by
    rw [List.map_cons, List.map_cons, List.zipWith_cons_cons, zip_its l P, List.zip_cons_cons, List.map_cons] <;> rfl
theorem askNot_sets (P : Poly) (ts lines : List Str) : askNot (sets P) ts lines = (decide (lines.length = P.length) && (lines.zip P).all fun z => askLine ts (toks z.2.1) z.1) := by
  unfold askNot sets
  rw [List.length_map, List.zip_map_right, List.all_map] <;> rfl
theorem s_8 (S : Small P ts) (hf : Flat A) (lines : List Str) : M_8 [eP P, tokD b ts, eL lines] A = .ok (.bl (askNot (sets P) ts lines)) A := by
  have hsz := sizeLine_eq
  rw [askNot_sets]
  have e2 : bLen A (eL lines) = some (.int (lines.length : Int)) := bLen_eL lines
  have e0 : bLen A (eP P) = some (.int (P.length : Int)) := by
    show some (D.int ((P.map eT).length : Int)) = _
    rw [List.length_map]
  have ht : t2 opNe (xN (opN1 bLen) (aCons (xVar 2) aNil)) (xN (opN1 bLen) (aCons (xVar 0) aNil)) [some (eP P), some (tokD b ts), some (eL lines), none, none, none, none, none] A = .ok (!decide ((lines.length : Int) = (P.length : Int))) A := t2_eq (xN1_eq (xVar_eq rfl) e2) (xN1_eq (xVar_eq rfl) e0) opNe_int
  by_cases hn : lines.length = P.length
  · rw [decide_eq_true hn, Bool.true_and]
    rw [decide_eq_true (show (lines.length : Int) = (P.length : Int) by omega)] at ht
    obtain ⟨η2, c, A2, h, h2⟩ := mFor_inv (mi := Cr.iZip (aCons (xVar 2) (aCons (xVar 0) aNil))) (g := gPair 3 4)
      (body := mSeq (sSet 5 (mLc [6, 7] (iSeq (x2 opIx (xVar 4) (xInt 0))) (gPair 6 7) tNone (xVar 6))) (sIf (t2 opNotIn (xVar 3) (mLc [6] (iSeq (xVar 5)) (gName 6) (t2 opNotIn (xVar 6) (xVar 1)) (x2 opAdd (xStr "lacks ") (xVar 6)))) (sRet (xBl false)) mNext))
      (it := ⟨List.zipWith (fun a b => D.tup [a, b]) (lines.map D.str) (P.map eT), fun A' => True ∧ True⟩)
      (η := [some (eP P), some (tokD b ts), some (eL lines), none, none, none, none, none]) (A0 := A) (A := A) eZ (fun d A' => A' = A ∧ d = .bl ((lines.zip P).all fun z => askLine ts (toks z.2.1) z.1))
      (fun ys η A' => A' = A ∧ (∃ o3 o4 o5 : Option D, η = [some (eP P), some (tokD b ts), some (eL lines), o3, o4, o5, none, none]) ∧ (ys.all fun z => askLine ts (toks z.2.1) z.1) = ((lines.zip P).all fun z => askLine ts (toks z.2.1) z.1) ∧ ∀ r ∈ ys, r.2 ∈ P)
      (lines.zip P) (iZip_eq (aCons_eq (xVar_eq rfl) (a1_eq (xVar_eq rfl))) rfl) (zip_its lines P) ⟨rfl, ⟨none, none, none, rfl⟩, rfl, fun r hr => (List.of_mem_zip hr).2⟩ (fun _ _ _ _ => ⟨trivial, trivial⟩) fun z ys η A' ⟨eA, ⟨o3, o4, o5, e⟩, hb, hy⟩ => by
        subst eA
        subst e
        obtain ⟨line, t⟩ := z
        have ht : t ∈ P := hy (line, t) (List.mem_cons_self ..)
        have r1 := S.rows (toks t.1) (List.mem_map.mpr ⟨t, ht, rfl⟩)
        have hc : mLc [6, 7] (iSeq (x2 opIx (xVar 4) (xInt 0))) (gPair 6 7) tNone (xVar 6) [some (eP P), some (tokD b ts), some (eL lines), some (.str line), some (eT t), o5, none, none] A' = .ok (eL (toks t.1)) A' := by
          have e : eL (toks t.1) = D.lst (t.1.map fun p => D.str p.1) := by
            unfold toks eL
            rw [List.map_map] <;> rfl
          rw [e]
          apply mLcA ePr (fun p => D.str p.1) t.1
          · exact iSeq_tup (x2_eq (xVar_eq rfl) xInt_eq (opIx_tm t))
          · exact S.q t ht
          · intro p _
            exact ⟨_, gPair_eq, xVar_eq rfl⟩
        have hc2 : mLc [6] (iSeq (xVar 5)) (gName 6) (t2 opNotIn (xVar 6) (xVar 1)) (x2 opAdd (xStr "lacks ") (xVar 6)) [some (eP P), some (tokD b ts), some (eL lines), some (.str line), some (eT t), some (eL (toks t.1)), none, none] A' = .ok (.lst ((((toks t.1).filter fun u => !decide (u ∈ ts)).map lackL).map D.str)) A' := by
          have e : (((toks t.1).filter fun u => !decide (u ∈ ts)).map lackL).map D.str = ((toks t.1).filter fun u => !decide (u ∈ ts)).map fun u => D.str (lackL u) := by rw [List.map_map] <;> rfl
          rw [e]
          apply mLcF D.str (fun u => !decide (u ∈ ts)) (fun u => D.str (lackL u)) (toks t.1)
          · exact iSeq_lst (xVar_eq rfl)
          · omega
          · intro u hu
            refine ⟨_, gName_eq, t2_eq (xVar_eq rfl) (xVar_eq rfl) (opNotIn_tok b u ts), fun _ => x2_eq xStr_eq (xVar_eq rfl) (opAdd_str ?_)⟩
            have := r1.2 u hu
            rw [len_lacks]
            omega
        have hq : t2 opNotIn (xVar 3) (mLc [6] (iSeq (xVar 5)) (gName 6) (t2 opNotIn (xVar 6) (xVar 1)) (x2 opAdd (xStr "lacks ") (xVar 6))) [some (eP P), some (tokD b ts), some (eL lines), some (.str line), some (eT t), some (eL (toks t.1)), none, none] A' = .ok (!askLine ts (toks t.1) line) A' :=
          t2_eq (xVar_eq rfl) hc2 (opNotIn_tok false line (((toks t.1).filter fun u => !decide (u ∈ ts)).map lackL))
        rw [List.all_cons] at hb
        have hb' : (askLine ts (toks t.1) line && ys.all fun z => askLine ts (toks z.2.1) z.1) = (lines.zip P).all fun z => askLine ts (toks z.2.1) z.1 := hb
        cases q : askLine ts (toks t.1) line with
        | false =>
          rw [q] at hq hb'
          rw [Bool.false_and] at hb'
          exact ⟨_, _, _, .rt (.bl false), A', gPair_eq, mSeq_nx (sSet_eq hc) (sIf_t hq (sRet_eq xBl_eq)), .inr ⟨_, rfl, rfl, by rw [← hb']⟩⟩
        | true =>
          rw [q] at hq hb'
          rw [Bool.true_and] at hb'
          exact ⟨_, _, [some (eP P), some (tokD b ts), some (eL lines), some (.str line), some (eT t), some (eL (toks t.1)), none, none], .nx, A', gPair_eq, mSeq_nx (sSet_eq hc) (sIf_f hq mNext_eq), .inl ⟨rfl, rfl, ⟨_, _, _, rfl⟩, hb', fun x hx => hy x (List.mem_cons_of_mem _ hx)⟩⟩
    rcases h2 with ⟨rfl, rfl, ⟨o3, o4, o5, rfl⟩, hb, _⟩ | ⟨d, rfl, rfl, rfl⟩
    · rw [← hb]
      exact callB_rt (η0 := [some (eP P), some (tokD b ts), some (eL lines), none, none, none, none, none]) rfl (mSeq_nx (sIf_f ht mNext_eq) (mSeq_nx h (sRet_eq xBl_eq))) (take_all _) rfl hf
    · exact callB_rt (η0 := [some (eP P), some (tokD b ts), some (eL lines), none, none, none, none, none]) rfl (mSeq_nx (sIf_f ht mNext_eq) (mSeq_rt h)) (take_all _) rfl hf
  · rw [decide_eq_false hn, Bool.false_and]
    rw [decide_eq_false (show ¬ (lines.length : Int) = (P.length : Int) by omega)] at ht
    exact callB_rt (η0 := [some (eP P), some (tokD b ts), some (eL lines), none, none, none, none, none]) rfl (mSeq_rt (sIf_t ht (sRet_eq xBl_eq))) (take_all _) rfl hf
end
end K41
end

section
set_option Elab.async false
set_option linter.all false
set_option maxRecDepth 100000
set_option maxHeartbeats 1000000
set_option pp.maxSteps 600
/-! Mathematics, part h: why_holds, what is asked, what is due, the comparison. -/
namespace K41
open PySem PySem.Spec PyProof.Rows L2 Cr TL
def ansO (A : Sto) : Ans → Out D
  | .told b => .ok (.bl b) A
  | .bad => .exc 0 (.int 0) A
def ansD : Ans → D
  | .told b => .tup [.str "told", .bl b]
  | .bad => .tup [.str "paper", .int 0, .bl true]
section
variable {A : Sto} {P : Poly} {ts : List Str} {b : Bool}
theorem opEq_len {l : List Str} {k : Nat} : opEq A (.int (l.length : Int)) (.int (k : Int)) = some (.bl (decide (l.length = k))) := by
  rw [opEq_int]
  congr 2
  by_cases q : l.length = k
  · rw [decide_eq_true q, decide_eq_true (by omega)]
  · rw [decide_eq_false q, decide_eq_false (by omega)]
theorem split_nl {x : Str} (h : x.length ≤ 10000) : mSplit A (.str x) [.str "\n"] = some (eL (linesOf x), A) := mSplit_eq (by omega) (by rw [len_nl]; rfl)
theorem split_sp {x : Str} (h : x.length ≤ 10000) : mSplit A (.str x) [.str " "] = some (eL (wordsOf x), A) := mSplit_eq (by omega) (by rw [len_sp]; rfl)
theorem s_6 (S : Small P ts) (hf : Flat A) {text : Str} (hx : text.length ≤ 10000) : M_6 [eP P, tokD b ts, .str text] A = ansO A (askV (sets P) ts text) := by
  have hsz := sizeLine_eq
  have ht : Cr.tOr (Cr.tNot (tVal (x1 (bIsi "str") (xVar 2)))) (Cr.tNot (tVal (xM "str" mEnds (xVar 2) (aCons (xStr "\n") aNil)))) [some (eP P), some (tokD b ts), some (.str text), none] A = .ok (false || !Txt.endswith text "\n") A :=
    tOr_eq (b := false) (tNot_eq (b := true) (tVal_eq (x1_eq (xVar_eq rfl) rfl))) fun _ => tNot_eq (tVal_eq (xM_eq (xVar_eq rfl) rfl (a1_eq xStr_eq) rfl))
  unfold askV
  cases q : Txt.endswith text "\n" with
  | false =>
    rw [q] at ht
    exact callB_exc (η0 := [some (eP P), some (tokD b ts), some (.str text), none]) rfl (mSeq_exc (sIf_t ht (sExc_eq xInt_eq))) (take_all _) rfl hf
  | true =>
    rw [q] at ht
    rw [cond_true]
    have hL : (cutS text none (some (-1))).length ≤ 10000 := Nat.le_trans (len_cut text) hx
    have hne := lines_ne (cutS text none (some (-1)))
    have hw := lines_weight (cutS text none (some (-1)))
    generalize hLe : linesOf (cutS text none (some (-1))) = L at hne hw
    have hs : sSet 3 (xM "str" mSplit (x1 (opSl none (some (-1)) none) (xVar 2)) (aCons (xStr "\n") aNil)) [some (eP P), some (tokD b ts), some (.str text), none] A = .ok ([some (eP P), some (tokD b ts), some (.str text), some (eL L)], .nx) A :=
      sSet_eq (xM_eq (x1_eq (xVar_eq rfl) (opSl_last (by omega))) rfl (a1_eq xStr_eq) (by rw [← hLe]; exact split_nl hL))
    have h1 : Cr.tAnd (t2 opEq (xN (opN1 bLen) (aCons (xVar 3) aNil)) (xInt 1)) (tVal (xCall 3 M_7 (aCons (xVar 0) (aCons (xVar 1) (aCons (x2 opIx (xVar 3) (xInt 0)) aNil))))) [some (eP P), some (tokD b ts), some (.str text), some (eL L)] A = .ok (decide (L.length = 1) && askWhy (sets P) ts (L.headD "")) A :=
      tAnd_eq (t2_eq (xN1_eq (xVar_eq rfl) (bLen_eL L)) xInt_eq (opEq_len (k := 1))) fun _ => tVal_eq (xCall_eq (aCons_eq (xVar_eq rfl) (aCons_eq (xVar_eq rfl) (a1_eq (x2_eq (xVar_eq rfl) xInt_eq (opIx_hd hne))))) rfl (s_7 S hf _))
    have h2 : Cr.tAnd (t2 opEq (x2 opIx (xVar 3) (xInt 0)) (xStr "not")) (tVal (xCall 3 M_8 (aCons (xVar 0) (aCons (xVar 1) (aCons (x1 (opSl (some 1) none none) (xVar 3)) aNil))))) [some (eP P), some (tokD b ts), some (.str text), some (eL L)] A = .ok (decide (L.headD "" = ("not" : Str)) && askNot (sets P) ts L.tail) A :=
      tAnd_eq (t2_eq (x2_eq (xVar_eq rfl) xInt_eq (opIx_hd hne)) xStr_eq opEq_str) fun _ => tVal_eq (xCall_eq (aCons_eq (xVar_eq rfl) (aCons_eq (xVar_eq rfl) (a1_eq (x1_eq (xVar_eq rfl) (opSl_tail (by omega)))))) rfl (s_8 S hf _))
    show _ = ansO A (pick (decide (L.length = 1) && askWhy (sets P) ts (L.headD "")) (decide (L.headD "" = ("not" : Str)) && askNot (sets P) ts L.tail))
    cases q1 : decide (L.length = 1) && askWhy (sets P) ts (L.headD "") with
    | true =>
      rw [q1] at h1
      exact callB_rt (η0 := [some (eP P), some (tokD b ts), some (.str text), none]) rfl (mSeq_nx (sIf_f ht mNext_eq) (mSeq_nx hs (mSeq_rt (sIf_t h1 (sRet_eq xBl_eq))))) (take_all _) rfl hf
    | false =>
      rw [q1] at h1
      cases q2 : decide (L.headD "" = ("not" : Str)) && askNot (sets P) ts L.tail with
      | true =>
        rw [q2] at h2
        exact callB_rt (η0 := [some (eP P), some (tokD b ts), some (.str text), none]) rfl (mSeq_nx (sIf_f ht mNext_eq) (mSeq_nx hs (mSeq_nx (sIf_f h1 mNext_eq) (mSeq_rt (sIf_t h2 (sRet_eq xBl_eq)))))) (take_all _) rfl hf
      | false =>
        rw [q2] at h2
        exact callB_exc (η0 := [some (eP P), some (tokD b ts), some (.str text), none]) rfl (mSeq_nx (sIf_f ht mNext_eq) (mSeq_nx hs (mSeq_nx (sIf_f h1 mNext_eq) (mSeq_nx (sIf_f h2 mNext_eq) (sExc_eq xInt_eq))))) (take_all _) rfl hf
theorem bind_exc' {α β : Type} {m : M α} {f : α → M β} {A A1 : Sto} {k : Nat} {a : D} (h : m A = .exc k a A1) : (m >>= f) A = .exc k a A1 := bind_exc h
theorem s_31 (S : Small P ts) (hf : Flat A) {text : Str} (hx : text.length ≤ 10000) : M_31 [eP P, tokD b ts, .str text] A = .ok (ansD (askV (sets P) ts text)) A := by
  have h6 := s_6 (b := b) S hf hx
  have hl : aCons (xVar 2) (aCons (xVar 1) (aCons (xVar 0) aNil)) [some (eP P), some (tokD b ts), some (.str text), none] A = .ok [.str text, tokD b ts, eP P] A := aCons_eq (xVar_eq rfl) (aCons_eq (xVar_eq rfl) (a1_eq (xVar_eq rfl)))
  have hk : xCallK 3 M_6 g_6 (aCons (xVar 2) (aCons (xVar 1) (aCons (xVar 0) aNil))) [some (eP P), some (tokD b ts), some (.str text), none] A = ansO A (askV (sets P) ts text) := xCallK_eq hl rfl h6
  cases q : askV (sets P) ts text with
  | told z =>
    rw [q] at hk
    have h : m_31 [some (eP P), some (tokD b ts), some (.str text), none] A = .ok ([some (eP P), some (tokD b ts), some (.str text), none], .rt (ansD (.told z))) A := by
      have h1 : sRet (xTup (aCons (xStr "told") (aCons (xCallK 3 M_6 g_6 (aCons (xVar 2) (aCons (xVar 1) (aCons (xVar 0) aNil)))) aNil))) [some (eP P), some (tokD b ts), some (.str text), none] A = .ok ([some (eP P), some (tokD b ts), some (.str text), none], .rt (ansD (.told z))) A := sRet_eq (xTup_eq (aCons_eq xStr_eq (a1_eq hk)) two_le)
      unfold m_31 mTry
      rw [h1]
    exact callB_rt rfl h (take_all _) rfl hf
  | bad =>
    rw [q] at hk
    have h : m_31 [some (eP P), some (tokD b ts), some (.str text), none] A = .ok ([some (eP P), some (tokD b ts), some (.str text), none], .rt (ansD .bad)) A := by
      have h1 : sRet (xTup (aCons (xStr "told") (aCons (xCallK 3 M_6 g_6 (aCons (xVar 2) (aCons (xVar 1) (aCons (xVar 0) aNil)))) aNil))) [some (eP P), some (tokD b ts), some (.str text), none] A = .exc 0 (.int 0) A := by
        refine bind_exc (bind_exc ((bind_ok (xStr_eq (A := A))).trans (bind_exc (bind_exc ?_))))
        exact hk
      unfold m_31 mTry
      rw [h1]
      exact if_pos rfl
    exact callB_rt rfl h (take_all _) rfl hf
/-! ### the comparison -/
theorem same_atom {n : Nat} {d : D} (ht : bIsi "tuple" A d = some (.bl false)) (hn : Cr.isNon d = false) (he : opEq A d d = some (.bl true)) (hb : ∃ z, bIsi "bool" A d = some (.bl z)) (hi : ∃ z, bIsi "int" A d = some (.bl z)) (hf : Flat A) : R_23 (n + 1) [d, d] A = .ok (.bl true) A := by
  obtain ⟨zb, hb⟩ := hb
  obtain ⟨zi, hi⟩ := hi
  have h3 : Cr.tOr (t2 opNe (x1 (bIsi "bool") (xVar 0)) (x1 (bIsi "bool") (xVar 1))) (t2 opNe (x1 (bIsi "int") (xVar 0)) (x1 (bIsi "int") (xVar 1))) [some d, some d, none] A = .ok (!decide (zb = zb) || !decide (zi = zi)) A :=
    tOr_eq (t2_eq (x1_eq (xVar_eq rfl) hb) (x1_eq (xVar_eq rfl) hb) opNe_bl) fun _ => t2_eq (x1_eq (xVar_eq rfl) hi) (x1_eq (xVar_eq rfl) hi) opNe_bl
  rw [decide_eq_true rfl, decide_eq_true rfl] at h3
  have h2 : t2 opIs (xVar 1) xNon [some d, some d, none] A = .ok false A := t2_eq (xVar_eq rfl) xNon_eq (by
    show (if Cr.isNon .non = true then some (D.bl (Cr.isNon d)) else none) = _
    rw [hn] <;> rfl)
  exact callB_rt (η0 := [some d, some d, none]) rfl (mSeq_nx (sIf_f (tVal_eq (x1_eq (xVar_eq rfl) ht)) mNext_eq) (mSeq_nx (sIf_f h2 mNext_eq) (mSeq_nx (sIf_f h3 mNext_eq) (sRet_eq (x2_eq (xVar_eq rfl) (xVar_eq rfl) he))))) (take_all _) rfl hf
theorem same_str {n : Nat} (x : Str) (hf : Flat A) : R_23 (n + 1) [.str x, .str x] A = .ok (.bl true) A := same_atom rfl rfl (by rw [opEq_str, decide_eq_true rfl]) ⟨false, rfl⟩ ⟨false, rfl⟩ hf
theorem opEq_bl {i j : Bool} : opEq A (.bl i) (.bl j) = some (.bl (decide (i = j))) := by
  show (if min (PyData.depth (.bool i)) (PyData.depth (.bool j)) ≤ 64 then some (D.bl (PyData.eqv (.bool i) (.bool j))) else none) = _
  rw [if_pos (by simp [PyData.depth])]
  simp only [PyData.eqv]
  congr 2
theorem same_bl {n : Nat} (x : Bool) (hf : Flat A) : R_23 (n + 1) [.bl x, .bl x] A = .ok (.bl true) A := same_atom rfl rfl (by rw [opEq_bl, decide_eq_true rfl]) ⟨true, rfl⟩ ⟨true, rfl⟩ hf
theorem same_int {n : Nat} (x : Int) (hf : Flat A) : R_23 (n + 1) [.int x, .int x] A = .ok (.bl true) A := same_atom rfl rfl (by rw [opEq_int, decide_eq_true rfl]) ⟨false, rfl⟩ ⟨true, rfl⟩ hf
theorem same_tup {n : Nat} {l : List D} (h : ∀ d ∈ l, R_23 n [d, d] A = .ok (.bl true) A) (hl : l.length ≤ 1000) (hf : Flat A) : R_23 (n + 1) [.tup l, .tup l] A = .ok (.bl true) A := by
  have hsz := sizeLine_eq
  have h1 : Cr.tOr (Cr.tNot (tVal (x1 (bIsi "tuple") (xVar 0)))) (t2 opNe (xN (opN1 bLen) (aCons (xVar 0) aNil)) (xN (opN1 bLen) (aCons (xVar 1) aNil))) [some (.tup l), some (.tup l), none] A = .ok (false || !decide ((l.length : Int) = (l.length : Int))) A :=
    tOr_eq (b := false) (tNot_eq (b := true) (tVal_eq (x1_eq (xVar_eq rfl) rfl))) fun _ => t2_eq (xN1_eq (xVar_eq rfl) bLen_tup) (xN1_eq (xVar_eq rfl) bLen_tup) opNe_int
  rw [decide_eq_true rfl] at h1
  have hc : mLc [2] (iRange (aCons (xN (opN1 bLen) (aCons (xVar 1) aNil)) aNil)) (gName 2) (Cr.tNot (tVal (xCall 2 (R_23 n) (aCons (x2 opIx (xVar 0) (xVar 2)) (aCons (x2 opIx (xVar 1) (xVar 2)) aNil))))) (xVar 2) [some (.tup l), some (.tup l), none] A = .ok (.lst (((List.range l.length).filter fun _ => false).map fun (i : Nat) => D.int (i : Int))) A := by
    apply mLcF (fun (i : Nat) => D.int (i : Int)) (fun _ => false) (fun (i : Nat) => D.int (i : Int)) (List.range l.length)
    · refine iRange_eq (a1_eq (xN1_eq (xVar_eq rfl) bLen_tup)) ?_
      unfold rgIt
      show (if -(2 ^ 62) ≤ (l.length : Int) ∧ (l.length : Int) < 2 ^ 62 then _ else none) = _
      rw [if_pos ⟨by omega, by omega⟩, Int.toNat_natCast]
    · rw [List.length_range]
      omega
    · intro i hi
      have hi' := List.mem_range.mp hi
      have e : l[i]? = some l[i] := List.getElem?_eq_getElem hi'
      refine ⟨_, gName_eq, tNot_eq (b := true) (tVal_eq (xCall_eq (aCons_eq (x2_eq (xVar_eq rfl) (xVar_eq rfl) (opIx_nat (x := .tup l) rfl rfl e)) (a1_eq (x2_eq (xVar_eq rfl) (xVar_eq rfl) (opIx_nat (x := .tup l) rfl rfl e)))) rfl (h _ (List.getElem_mem hi')))), fun z => by cases z⟩
  have e0 : (List.range l.length).filter (fun _ => false) = [] := List.filter_eq_nil_iff.mpr fun _ _ => by decide
  rw [e0] at hc
  exact callB_rt (η0 := [some (.tup l), some (.tup l), none]) rfl (mSeq_rt (sIf_t (tVal_eq (b := true) (x1_eq (xVar_eq rfl) rfl)) (mSeq_nx (sIf_f h1 mNext_eq) (sRet_eq (x2_eq (xN1_eq hc bLen_lst) xInt_eq rfl))))) (take_all _) rfl hf
theorem s_23s (x : Str) (hf : Flat A) : M_23 [.str x, .str x] A = .ok (.bl true) A := same_str x hf
theorem s_23b (x : Bool) (hf : Flat A) : M_23 [.bl x, .bl x] A = .ok (.bl true) A := same_bl x hf
theorem s_23a (x : Ans) (hf : Flat A) : M_23 [ansD x, ansD x] A = .ok (.bl true) A := by
  cases x with
  | told b =>
    refine same_tup (fun d hd => ?_) (by show 2 ≤ 1000; omega) hf
    rcases List.mem_cons.mp hd with rfl | hd
    · exact same_str _ hf
    · rw [List.mem_singleton.mp hd]
      exact same_bl _ hf
  | bad =>
    refine same_tup (fun d hd => ?_) (by show 3 ≤ 1000; omega) hf
    rcases List.mem_cons.mp hd with rfl | hd
    · exact same_str _ hf
    · rcases List.mem_cons.mp hd with rfl | hd
      · exact same_int _ hf
      · rw [List.mem_singleton.mp hd]
        exact same_bl _ hf
end
end K41
end

section
set_option Elab.async false
set_option linter.all false
set_option maxRecDepth 100000
set_option maxHeartbeats 1000000
set_option pp.maxSteps 600
/-! Mathematics, part i: what is due. -/
namespace K41
open PySem PySem.Spec PyProof.Rows L2 Cr TL
section
variable {A : Sto} {P : Poly} {ts : List Str} {b : Bool}
theorem opIx_last {l : List Str} (h : l ≠ []) : opIx A (eL l) (.int (-1)) = some (.str (l.getLastD "")) := by
  have hl : 0 < l.length := List.length_pos_iff.mpr h
  have e : ixSeq A (eL l) (.int (-1)) = some (.str (l.getLastD "")) := by
    show atI (l.map D.str) (-1) = _
    unfold atI ixN
    rw [List.length_map, if_neg (by decide), if_pos (by omega)]
    show (l.map D.str)[(-1 + (l.length : Int)).toNat]? = _
    have e1 : (-1 + (l.length : Int)).toNat = l.length - 1 := by omega
    rw [e1, List.getElem?_map, getLastD_eq h, List.getLast_eq_getElem, List.getElem?_eq_getElem (by omega)] <;> rfl
  unfold opIx
  simp only [e]
theorem opIx_getD {l : List Str} {k : Nat} {i : Int} (e : i = (k : Int)) (h : k < l.length) : opIx A (eL l) (.int i) = some (.str (l.getD k "")) :=
  opIx_nat (x := eL l) (l := l.map .str) rfl e (by rw [List.getElem?_map, List.getElem?_eq_getElem h, List.getD_eq_getElem?_getD, List.getElem?_eq_getElem h] <;> rfl)
theorem opIx_rows {R : List (List Str)} {k : Nat} {i : Int} (e : i = (k : Int)) (h : k < R.length) : opIx A (.lst (R.map eL)) (.int i) = some (eL (R.getD k [])) :=
  opIx_nat (x := .lst (R.map eL)) rfl e (by rw [List.getElem?_map, List.getElem?_eq_getElem h, List.getD_eq_getElem?_getD, List.getElem?_eq_getElem h] <;> rfl)
theorem getD_tail (l : List Str) (k : Nat) : l.getD (k + 1) "" = l.tail.getD k "" := by
  cases l with
  | nil => simp
  | cons a l => rfl
theorem opNot_tok (t : Str) (ts : List Str) : opNotIn A (.str t) (eL ts) = some (.bl (!decide (t ∈ ts))) := opNotIn_tok false t ts
theorem s_30 (S : Small P ts) (hf : Flat A) {text : Str} (hx : text.length ≤ 10000) : M_30 [eP P, tokD b ts, .str text] A = .ok (ansD (dueV (sets P) ts text)) A := by
  have hsz := sizeLine_eq
  have N := S.n'
  have hRl : (sets P).length = P.length := by unfold sets; rw [List.length_map]
  unfold dueV
  have hne := lines_ne text
  have hw := lines_weight text
  have hlen : ∀ x ∈ linesOf text, x.length ≤ 10000 := fun x h => Nat.le_trans (len_lines h) hx
  have hs : sSet 3 (xM "str" mSplit (xVar 2) (aCons (xStr "\n") aNil)) [some (eP P), some (tokD b ts), some (.str text), none, none, none, none] A = .ok ([some (eP P), some (tokD b ts), some (.str text), some (eL (linesOf text)), none, none, none], .nx) A :=
    sSet_eq (xM_eq (xVar_eq rfl) rfl (a1_eq xStr_eq) (split_nl hx))
  generalize linesOf text = L at hne hw hlen hs ⊢
  show _ = Out.ok (ansD (cond (decide (L.getLastD "" = ("" : Str))) (pick (decide (L.length = 2) && dueWhy (sets P) ts (L.headD "")) (decide (L.headD "" = ("not" : Str)) && decide (L.length = (sets P).length + 2) && dueNot (sets P) ts L.tail)) Ans.bad)) A
  have hlast : t2 opNe (x2 opIx (xVar 3) (x1 opNeg (xInt 1))) (xStr "") [some (eP P), some (tokD b ts), some (.str text), some (eL L), none, none, none] A = .ok (!decide (L.getLastD "" = ("" : Str))) A :=
    t2_eq (x2_eq (xVar_eq rfl) (x1_eq xInt_eq (d := .int (-1)) rfl) (opIx_last hne)) xStr_eq opNe_str
  have hbad : ∀ η : En, sRet (xTup (aCons (xStr "paper") (aCons (xInt 0) (aCons (xBl true) aNil)))) η A = .ok (η, .rt (ansD .bad)) A := fun η => sRet_eq (xTup_eq (aCons_eq xStr_eq (aCons_eq xInt_eq (a1_eq xBl_eq))) (by show 3 ≤ _; omega))
  have htold : ∀ (η : En) (z : Bool), sRet (xTup (aCons (xStr "told") (aCons (xBl z) aNil))) η A = .ok (η, .rt (ansD (.told z))) A := fun η z => sRet_eq (xTup_eq (aCons_eq xStr_eq (a1_eq xBl_eq)) two_le)
  cases q0 : decide (L.getLastD "" = ("" : Str)) with
  | false =>
    rw [q0] at hlast
    exact callB_rt (η0 := [some (eP P), some (tokD b ts), some (.str text), none, none, none, none]) rfl (mSeq_nx hs (mSeq_rt (sIf_t hlast (hbad _)))) (take_all _) rfl hf
  | true =>
    rw [q0] at hlast
    rw [cond_true]
    have hhd : (L.headD "").length ≤ 10000 := by
      cases L with
      | nil => exact absurd rfl hne
      | cons a l => exact hlen a (List.mem_cons_self ..)
    -- the words of the first line
    have hW := words_ne (L.headD "")
    have hWw := words_weight (L.headD "")
    have hs2 : sSet 4 (xM "str" mSplit (x2 opIx (xVar 3) (xInt 0)) (aCons (xStr " ") aNil)) [some (eP P), some (tokD b ts), some (.str text), some (eL L), none, none, none] A = .ok ([some (eP P), some (tokD b ts), some (.str text), some (eL L), some (eL (wordsOf (L.headD ""))), none, none], .nx) A :=
      sSet_eq (xM_eq (x2_eq (xVar_eq rfl) xInt_eq (opIx_hd hne)) rfl (a1_eq xStr_eq) (split_sp hhd))
    generalize hη : ([some (eP P), some (tokD b ts), some (.str text), some (eL L), some (eL (wordsOf (L.headD ""))), none, none] : En) = η at hs2
    have e0 : η[0]? = some (some (eP P)) := by rw [← hη]; rfl
    have e1 : η[1]? = some (some (tokD b ts)) := by rw [← hη]; rfl
    have e3 : η[3]? = some (some (eL L)) := by rw [← hη]; rfl
    have e4 : η[4]? = some (some (eL (wordsOf (L.headD "")))) := by rw [← hη]; rfl
    have h1 : Cr.tAnd (t2 opEq (x2 opIx (xVar 4) (xInt 0)) (xStr "why")) (t2 opEq (xN (opN1 bLen) (aCons (xVar 3) aNil)) (xInt 2)) η A = .ok (decide ((wordsOf (L.headD "")).headD "" = ("why" : Str)) && decide (L.length = 2)) A :=
      tAnd_eq (t2_eq (x2_eq (xVar_eq e4) xInt_eq (opIx_hd hW)) xStr_eq opEq_str) fun _ => t2_eq (xN1_eq (xVar_eq e3) (bLen_eL L)) xInt_eq (opEq_len (k := 2))
    have htl : ((wordsOf (L.headD "")).tail).length ≤ sizeLine := by rw [List.length_tail]; omega
    have h2 : Cr.tAnd (t2 opIn (x1 (opSl (some 1) none none) (xVar 4)) (xCall 1 M_26 (aCons (xVar 0) aNil))) (tVal (xCall 2 M_27 (aCons (x1 (opSl (some 1) none none) (xVar 4)) (aCons (xVar 1) aNil)))) η A = .ok (decide ((wordsOf (L.headD "")).tail ∈ sets P) && within (wordsOf (L.headD "")).tail ts) A :=
      tAnd_eq (t2_eq (x1_eq (xVar_eq e4) (opSl_tail (by omega))) (xCall_eq (a1_eq (xVar_eq e0)) rfl (s26 S hf)) (opIn_row _ _)) fun _ => tVal_eq (xCall_eq (aCons_eq (x1_eq (xVar_eq e4) (opSl_tail (by omega))) (a1_eq (xVar_eq e1))) rfl (s_27 htl hf))
    -- the first test
    have hfirst : sIf (Cr.tAnd (t2 opEq (x2 opIx (xVar 4) (xInt 0)) (xStr "why")) (t2 opEq (xN (opN1 bLen) (aCons (xVar 3) aNil)) (xInt 2))) (sIf (Cr.tAnd (t2 opIn (x1 (opSl (some 1) none none) (xVar 4)) (xCall 1 M_26 (aCons (xVar 0) aNil))) (tVal (xCall 2 M_27 (aCons (x1 (opSl (some 1) none none) (xVar 4)) (aCons (xVar 1) aNil))))) (sRet (xTup (aCons (xStr "told") (aCons (xBl true) aNil)))) mNext) mNext η A =
        .ok (η, cond (decide (L.length = 2) && dueWhy (sets P) ts (L.headD "")) (.rt (ansD (.told true))) .nx) A := by
      unfold dueWhy
      cases q1 : decide ((wordsOf (L.headD "")).headD "" = ("why" : Str)) with
      | false =>
        rw [q1, Bool.false_and] at h1
        rw [Bool.false_and, Bool.and_false]
        exact sIf_f h1 mNext_eq
      | true =>
        rw [q1, Bool.true_and] at h1
        rw [Bool.true_and]
        cases q2 : decide (L.length = 2) with
        | false =>
          rw [q2] at h1
          rw [Bool.false_and]
          exact sIf_f h1 mNext_eq
        | true =>
          rw [q2] at h1
          rw [Bool.true_and]
          refine sIf_t h1 ?_
          cases q3 : decide ((wordsOf (L.headD "")).tail ∈ sets P) && within (wordsOf (L.headD "")).tail ts with
          | true =>
            rw [q3] at h2
            exact sIf_t h2 (htold η true)
          | false =>
            rw [q3] at h2
            exact sIf_f h2 mNext_eq
    cases q1 : decide (L.length = 2) && dueWhy (sets P) ts (L.headD "") with
    | true =>
      rw [q1] at hfirst
      exact callB_rt (η0 := [some (eP P), some (tokD b ts), some (.str text), none, none, none, none]) rfl (mSeq_nx hs (mSeq_nx (sIf_f hlast mNext_eq) (mSeq_nx hs2 (mSeq_rt hfirst)))) (take_all _) rfl hf
    | false =>
      rw [q1] at hfirst
      show _ = Out.ok (ansD (cond (decide (L.headD "" = ("not" : Str)) && decide (L.length = (sets P).length + 2) && dueNot (sets P) ts L.tail) (Ans.told false) Ans.bad)) A
      have eP0 : bLen A (eP P) = some (.int (P.length : Int)) := by
        show some (D.int ((P.map eT).length : Int)) = _
        rw [List.length_map]
      have h3 : Cr.tAnd (t2 opEq (x2 opIx (xVar 3) (xInt 0)) (xStr "not")) (t2 opEq (xN (opN1 bLen) (aCons (xVar 3) aNil)) (x2 opAdd (xN (opN1 bLen) (aCons (xVar 0) aNil)) (xInt 2))) η A = .ok (decide (L.headD "" = ("not" : Str)) && decide (L.length = (sets P).length + 2)) A :=
        tAnd_eq (t2_eq (x2_eq (xVar_eq e3) xInt_eq (opIx_hd hne)) xStr_eq opEq_str) fun _ => t2_eq (xN1_eq (xVar_eq e3) (bLen_eL L)) (x2_eq (xN1_eq (xVar_eq e0) eP0) xInt_eq (d := .int ((P.length : Int) + 2)) rfl) (by rw [hRl]; exact opEq_len (k := P.length + 2))
      have hend : ∀ (η' : En) (st : StM) (A1 : Sto), st η A = .ok (η', .nx) A → M_30 [eP P, tokD b ts, .str text] A = M_30 [eP P, tokD b ts, .str text] A := fun _ _ _ _ => rfl
      cases q3 : decide (L.headD "" = ("not" : Str)) && decide (L.length = (sets P).length + 2) with
      | false =>
        rw [q3] at h3
        rw [Bool.false_and]
        exact callB_rt (η0 := [some (eP P), some (tokD b ts), some (.str text), none, none, none, none]) rfl (mSeq_nx hs (mSeq_nx (sIf_f hlast mNext_eq) (mSeq_nx hs2 (mSeq_nx hfirst (mSeq_nx (sIf_f h3 mNext_eq) (hbad _)))))) (take_all _) rfl hf
      | true =>
        rw [q3] at h3
        rw [Bool.true_and]
        rw [Bool.and_eq_true, decide_eq_true_eq, decide_eq_true_eq] at q3
        have hLl := q3.2
        rw [hRl] at hLl
        obtain ⟨η2, c, A2, h, hh⟩ := mFor_inv (mi := iRange (aCons (xN (opN1 bLen) (aCons (xVar 0) aNil)) aNil)) (g := gName 6)
          (body := mSeq (sSet 4 (xM "str" mSplit (x2 opIx (xVar 3) (x2 opAdd (xVar 6) (xInt 1))) (aCons (xStr " ") aNil))) (sIf (Cr.tOr (t2 opNe (xN (opN1 bLen) (aCons (xVar 4) aNil)) (xInt 2)) (t2 opNe (x2 opIx (xVar 4) (xInt 0)) (xStr "lacks"))) (sSet 5 (xBl false)) (sIf (Cr.tOr (t2 opIn (x2 opIx (xVar 4) (xInt 1)) (xVar 1)) (t2 opNotIn (x2 opIx (xVar 4) (xInt 1)) (x2 opIx (xCall 1 M_26 (aCons (xVar 0) aNil)) (xVar 6)))) (sSet 5 (xBl false)) mNext)))
          (it := ⟨(List.range P.length).map fun (i : Nat) => D.int (i : Int), fun _ => True⟩)
          (η := η.set 5 (some (.bl true))) (A0 := A) (A := A) (fun (i : Nat) => D.int (i : Int)) (fun _ _ => False)
          (fun ys η A' => A' = A ∧ (∃ (o4 o6 : Option D) (r : Bool), η = [some (eP P), some (tokD b ts), some (.str text), some (eL L), o4, some (.bl r), o6] ∧ (r && ys.all fun k => dueLine ts ((sets P).getD k []) (L.tail.getD k "")) = dueNot (sets P) ts L.tail) ∧ ∀ k ∈ ys, k < P.length)
          (List.range P.length) (by
            refine iRange_eq (a1_eq (xN1_eq (xVar_eq (by rw [← hη]; rfl)) eP0)) ?_
            unfold rgIt
            show (if -(2 ^ 62) ≤ (P.length : Int) ∧ (P.length : Int) < 2 ^ 62 then _ else none) = _
            rw [if_pos ⟨by omega, by omega⟩, Int.toNat_natCast]) rfl
          ⟨rfl, ⟨_, _, true, by rw [← hη]; rfl, by rw [Bool.true_and]; unfold dueNot; rw [hRl]⟩, fun k hk => List.mem_range.mp hk⟩ (fun _ _ _ _ => trivial) fun k ys η' A' ⟨eA, ⟨o4, o6, r, e, hb⟩, hy⟩ => by
            subst eA
            subst e
            have hk := hy k (List.mem_cons_self ..)
            have hx1 : opIx A' (eL L) (.int ((k : Int) + 1)) = some (.str (L.tail.getD k "")) := by
              rw [← getD_tail]
              exact opIx_getD (k := k + 1) (by omega) (by omega)
            have hln : (L.tail.getD k "").length ≤ 10000 := by
              rw [← getD_tail, List.getD_eq_getElem?_getD, List.getElem?_eq_getElem (by omega)]
              exact hlen _ (List.getElem_mem _)
            generalize hline : L.tail.getD k "" = line at hx1 hln
            have hWn := words_ne line
            have hs4 : sSet 4 (xM "str" mSplit (x2 opIx (xVar 3) (x2 opAdd (xVar 6) (xInt 1))) (aCons (xStr " ") aNil)) [some (eP P), some (tokD b ts), some (.str text), some (eL L), o4, some (.bl r), some (.int (k : Int))] A' = .ok ([some (eP P), some (tokD b ts), some (.str text), some (eL L), some (eL (wordsOf line)), some (.bl r), some (.int (k : Int))], .nx) A' :=
              sSet_eq (xM_eq (x2_eq (xVar_eq rfl) (x2_eq (xVar_eq rfl) xInt_eq (d := .int ((k : Int) + 1)) rfl) hx1) rfl (a1_eq xStr_eq) (split_sp hln))
            have ht1 : Cr.tOr (t2 opNe (xN (opN1 bLen) (aCons (xVar 4) aNil)) (xInt 2)) (t2 opNe (x2 opIx (xVar 4) (xInt 0)) (xStr "lacks")) [some (eP P), some (tokD b ts), some (.str text), some (eL L), some (eL (wordsOf line)), some (.bl r), some (.int (k : Int))] A' = .ok (!decide ((wordsOf line).length = 2) || !decide ((wordsOf line).headD "" = ("lacks" : Str))) A' := by
              refine tOr_eq (t2_eq (xN1_eq (xVar_eq rfl) (bLen_eL _)) xInt_eq ?_) fun _ => t2_eq (x2_eq (xVar_eq rfl) xInt_eq (opIx_hd hWn)) xStr_eq opNe_str
              have e : decide ((((wordsOf line).length : Nat) : Int) = 2) = decide ((wordsOf line).length = 2) := by
                by_cases q : (wordsOf line).length = 2
                · rw [decide_eq_true q, decide_eq_true (by omega)]
                · rw [decide_eq_false q, decide_eq_false (by omega)]
              rw [opNe_int, e]
            rw [List.all_cons] at hb
            have hfin : ∀ z : Bool, dueLine ts ((sets P).getD k []) line = z → (sIf (Cr.tOr (t2 opNe (xN (opN1 bLen) (aCons (xVar 4) aNil)) (xInt 2)) (t2 opNe (x2 opIx (xVar 4) (xInt 0)) (xStr "lacks"))) (sSet 5 (xBl false)) (sIf (Cr.tOr (t2 opIn (x2 opIx (xVar 4) (xInt 1)) (xVar 1)) (t2 opNotIn (x2 opIx (xVar 4) (xInt 1)) (x2 opIx (xCall 1 M_26 (aCons (xVar 0) aNil)) (xVar 6)))) (sSet 5 (xBl false)) mNext)) [some (eP P), some (tokD b ts), some (.str text), some (eL L), some (eL (wordsOf line)), some (.bl r), some (.int (k : Int))] A' =
                .ok ([some (eP P), some (tokD b ts), some (.str text), some (eL L), some (eL (wordsOf line)), some (.bl (r && z)), some (.int (k : Int))], .nx) A' := by
              intro z hz
              unfold dueLine at hz
              cases w1 : decide ((wordsOf line).length = 2) with
              | false =>
                rw [w1] at ht1 hz
                have hz' : false = z := hz
                subst hz'
                rw [Bool.and_false]
                exact sIf_t ht1 (sSet_eq xBl_eq)
              | true =>
                have w1' := of_decide_eq_true w1
                rw [w1] at ht1 hz
                cases w2 : decide ((wordsOf line).headD "" = ("lacks" : Str)) with
                | false =>
                  rw [w2] at ht1 hz
                  have hz' : false = z := hz
                  subst hz'
                  rw [Bool.and_false]
                  exact sIf_t ht1 (sSet_eq xBl_eq)
                | true =>
                  rw [w2] at ht1 hz
                  have hi1 : opIx A' (eL (wordsOf line)) (.int 1) = some (.str ((wordsOf line).getD 1 "")) := opIx_getD (k := 1) rfl (by omega)
                  have ht2 : Cr.tOr (t2 opIn (x2 opIx (xVar 4) (xInt 1)) (xVar 1)) (t2 opNotIn (x2 opIx (xVar 4) (xInt 1)) (x2 opIx (xCall 1 M_26 (aCons (xVar 0) aNil)) (xVar 6))) [some (eP P), some (tokD b ts), some (.str text), some (eL L), some (eL (wordsOf line)), some (.bl r), some (.int (k : Int))] A' = .ok (decide ((wordsOf line).getD 1 "" ∈ ts) || !decide ((wordsOf line).getD 1 "" ∈ (sets P).getD k [])) A' :=
                    tOr_eq (t2_eq (x2_eq (xVar_eq rfl) xInt_eq hi1) (xVar_eq rfl) (opIn_tok b _ ts)) fun _ => t2_eq (x2_eq (xVar_eq rfl) xInt_eq hi1) (x2_eq (xCall_eq (a1_eq (xVar_eq rfl)) rfl (s26 S hf)) (xVar_eq rfl) (opIx_rows rfl (by rw [hRl]; exact hk))) (opNot_tok _ _)
                  refine sIf_f ht1 ?_
                  have hz' : (!decide ((wordsOf line).getD 1 "" ∈ ts) && decide ((wordsOf line).getD 1 "" ∈ (sets P).getD k [])) = z := hz
                  cases w3 : decide ((wordsOf line).getD 1 "" ∈ ts) with
                  | true =>
                    rw [w3] at ht2 hz'
                    have hz'' : false = z := hz'
                    subst hz''
                    rw [Bool.and_false]
                    exact sIf_t ht2 (sSet_eq xBl_eq)
                  | false =>
                    rw [w3] at ht2 hz'
                    cases w4 : decide ((wordsOf line).getD 1 "" ∈ (sets P).getD k []) with
                    | false =>
                      rw [w4] at ht2 hz'
                      have hz'' : false = z := hz'
                      subst hz''
                      rw [Bool.and_false]
                      exact sIf_t ht2 (sSet_eq xBl_eq)
                    | true =>
                      rw [w4] at ht2 hz'
                      have hz'' : true = z := hz'
                      subst hz''
                      rw [Bool.and_true]
                      exact sIf_f ht2 mNext_eq
            refine ⟨_, _, _, .nx, A', gName_eq, mSeq_nx hs4 (hfin _ rfl), .inl ⟨rfl, rfl, ⟨_, _, _, rfl, ?_⟩, fun x hx => hy x (List.mem_cons_of_mem _ hx)⟩⟩
            rw [← hb, hline, Bool.and_assoc]
        rcases hh with ⟨rfl, rfl, ⟨o4, o6, r, rfl, hb⟩, _⟩ | ⟨d, _, hd⟩
        · have hb' : r = dueNot (sets P) ts L.tail := by
            rw [← hb]
            simp
          subst hb'
          have hset : sSet 5 (xBl true) η A2 = .ok (η.set 5 (some (.bl true)), .nx) A2 := sSet_eq xBl_eq
          have hif : sIf (tVal (xVar 5)) (sRet (xTup (aCons (xStr "told") (aCons (xBl false) aNil)))) mNext [some (eP P), some (tokD b ts), some (.str text), some (eL L), o4, some (.bl (dueNot (sets P) ts L.tail)), o6] A2 = .ok ([some (eP P), some (tokD b ts), some (.str text), some (eL L), o4, some (.bl (dueNot (sets P) ts L.tail)), o6], cond (dueNot (sets P) ts L.tail) (.rt (ansD (.told false))) .nx) A2 := by
            cases q5 : dueNot (sets P) ts L.tail with
            | true => exact sIf_t (tVal_eq (xVar_eq rfl)) (htold _ false)
            | false => exact sIf_f (tVal_eq (xVar_eq rfl)) mNext_eq
          have hblk := sIf_t (m2 := mNext) h3 (mSeq_nx hset (mSeq_nx h hif))
          cases q5 : dueNot (sets P) ts L.tail with
          | true =>
            rw [q5] at hblk
            exact callB_rt (η0 := [some (eP P), some (tokD b ts), some (.str text), none, none, none, none]) rfl (mSeq_nx hs (mSeq_nx (sIf_f hlast mNext_eq) (mSeq_nx hs2 (mSeq_nx hfirst (mSeq_rt hblk))))) (take_all _) rfl hf
          | false =>
            rw [q5] at hblk
            exact callB_rt (η0 := [some (eP P), some (tokD b ts), some (.str text), none, none, none, none]) rfl (mSeq_nx hs (mSeq_nx (sIf_f hlast mNext_eq) (mSeq_nx hs2 (mSeq_nx hfirst (mSeq_nx hblk (hbad _)))))) (take_all _) rfl hf
        · exact hd.elim
end
end K41
end

section
set_option Elab.async false
set_option linter.all false
set_option maxRecDepth 100000
set_option maxHeartbeats 1000000
set_option pp.maxSteps 600
/-! Mathematics, part j: draws. -/
namespace K41
open PySem PySem.Spec PyProof.Rows L2 Cr TL
def plD (c : List Int) (i r x k : Int) : List D := [.lst (c.map .int), .int i, .int r, .int x, .int k, .non]
def SP (A : Sto) (c : List Int) (i r x k : Int) : Sto := A.set 1 (.lst (plD c i r x k))
section
variable {A : Sto} {c : List Int} {i r x k v n : Int}
theorem flat_pl : rokO 0 (.lst (plD c i r x k)) = true := by
  show rokL 0 (D.lst (c.map .int) :: [.int i, .int r, .int x, .int k, .non]) = true
  rw [rokL, rok, rokL_map fun _ _ => rfl]
  rfl
theorem SP_flat (hf : Flat A) : Flat (SP A c i r x k) := hf.set flat_pl 1
theorem SP_len : (SP A c i r x k).length = A.length := List.length_set
theorem SP_at (h : 1 < A.length) : (SP A c i r x k)[1]? = some (.lst (plD c i r x k)) := List.getElem?_set_self h
theorem SP_seq (h : 1 < A.length) : seqOf (SP A c i r x k) (.ref 1) = some (plD c i r x k) := by
  show lstOf (SP A c i r x k) (.ref 1) = _
  unfold lstOf
  simp only [SP_at h]
theorem SP_ix0 (h : 1 < A.length) : opIx (SP A c i r x k) (.ref 1) (.int 0) = some (.lst (c.map .int)) := opIx_nat (j := 0) (SP_seq h) rfl rfl
theorem SP_ix1 (h : 1 < A.length) : opIx (SP A c i r x k) (.ref 1) (.int 1) = some (.int i) := opIx_nat (j := 1) (SP_seq h) rfl rfl
theorem SP_ix2 (h : 1 < A.length) : opIx (SP A c i r x k) (.ref 1) (.int 2) = some (.int r) := opIx_nat (j := 2) (SP_seq h) rfl rfl
theorem SP_ix3 (h : 1 < A.length) : opIx (SP A c i r x k) (.ref 1) (.int 3) = some (.int x) := opIx_nat (j := 3) (SP_seq h) rfl rfl
theorem SP_ix4 (h : 1 < A.length) : opIx (SP A c i r x k) (.ref 1) (.int 4) = some (.int k) := opIx_nat (j := 4) (SP_seq h) rfl rfl
theorem SP_put {j : Nat} (h : 1 < A.length) (hj : j < 6) (d : D) : opSet (SP A c i r x k) (.ref 1) (.int (j : Int)) d = some (A.set 1 (.lst ((plD c i r x k).set j d))) := by
  unfold opSet
  simp only [SP_at h]
  have e : ixN (plD c i r x k).length (j : Int) = some j := by
    unfold ixN
    rw [if_pos (by omega), if_pos (by show (j : Int) < (6 : Nat); omega), Int.toNat_natCast]
  rw [e]
  show some ((A.set 1 _).set 1 _) = _
  rw [List.set_set]
theorem SP_put1 (h : 1 < A.length) : opSet (SP A c i r x k) (.ref 1) (.int 1) (.int v) = some (SP A c v r x k) := SP_put (j := 1) h (by omega) _
theorem SP_put2 (h : 1 < A.length) : opSet (SP A c i r x k) (.ref 1) (.int 2) (.int v) = some (SP A c i v x k) := SP_put (j := 2) h (by omega) _
theorem SP_put3 (h : 1 < A.length) : opSet (SP A c i r x k) (.ref 1) (.int 3) (.int v) = some (SP A c i r v k) := SP_put (j := 3) h (by omega) _
theorem SP_put4 (h : 1 < A.length) : opSet (SP A c i r x k) (.ref 1) (.int 4) (.int v) = some (SP A c i r x v) := SP_put (j := 4) h (by omega) _
theorem opMod_eq {a b : Int} (h : 0 < b) : opMod A (.int a) (.int b) = some (.int (a % b)) := if_pos h
theorem opDiv_eq {a b : Int} (h : 0 < b) (h2 : b ≤ 1000000) : opDiv A (.int a) (.int b) = some (.int (a / b)) := by
  refine if_pos ⟨h, ?_⟩
  have h3 : b.natAbs ≠ 0 := by omega
  have h4 : b.natAbs.log2 < 20 := (Nat.log2_lt h3).mpr (by omega)
  omega
theorem opMul_eq {a b : Int} (h : -(2 ^ 64) < b ∧ b < 2 ^ 64) : opMul A (.int a) (.int b) = some (.int (a * b)) := if_pos (.inr (.inl h))
theorem opAdd_int {a b : Int} : opAdd A (.int a) (.int b) = some (.int (a + b)) := rfl
theorem opSub_int {a b : Int} : opSub A (.int a) (.int b) = some (.int (a - b)) := rfl
theorem s_19 (hf : Flat A) (a b : Int) : ∃ v, M_19 [.int a, .int b] A = .ok (.int v) A := by
  have hm : ∀ {z : Int} {m : Int}, 0 < m → m < 2 ^ 63 → -(2 ^ 64) < z % m ∧ z % m < 2 ^ 64 := fun {z m} h1 h2 => by
    have h3 := Int.emod_nonneg z (show m ≠ 0 by omega)
    have h4 := Int.emod_lt_of_pos z h1
    omega
  exact ⟨_, callB_rt (η0 := [some (.int a), some (.int b), none, none]) rfl
    (mSeq_nx (sSet_eq (x2_eq (x2_eq (x2_eq (x2_eq (x2_eq (xN1_eq (xVar_eq rfl) rfl) xInt_eq (opMod_eq (by decide))) xInt_eq (opMul_eq (by decide))) (x2_eq (x2_eq (xN1_eq (xVar_eq rfl) rfl) xInt_eq (opMod_eq (by decide))) xInt_eq (opMul_eq (by decide))) opAdd_int) xInt_eq opAdd_int) xInt_eq (opMod_eq (by decide))))
      (mSeq_nx (sSet_eq (x2_eq (x2_eq (x2_eq (x2_eq (x2_eq (xVar_eq rfl) (xVar_eq rfl) (opMul_eq (hm (by decide) (by decide)))) (x2_eq (xVar_eq rfl) xInt_eq (opMul_eq (by decide))) opAdd_int) (x2_eq (x2_eq (xN1_eq (xVar_eq rfl) rfl) xInt_eq (opMod_eq (by decide))) xInt_eq (opMul_eq (by decide))) opAdd_int) xInt_eq opAdd_int) xInt_eq (opMod_eq (by decide))))
        (sRet_eq (x2_eq (x2_eq (x2_eq (xVar_eq rfl) xInt_eq (opMul_eq (by decide))) (x2_eq (xVar_eq rfl) xInt_eq (opDiv_eq (by decide) (by decide))) opAdd_int) xInt_eq (opMod_eq (by decide)))))) (take_all _) rfl hf⟩
theorem opPow18 : opPow A (.int 10) (.int 18) = some (.int (10 ^ (18 : Int).toNat)) := by
  unfold opPow
  exact if_pos (by decide)
theorem s_21 (h : 1 < A.length) (hf : Flat A) (hi : 0 ≤ i) (h1 : 1 ≤ n) (h2 : n ≤ 1000000) : ∃ v c' i' r' x' k', M_21 [.ref 1, .int n] (SP A c i r x k) = .ok (.int v) (SP A c' i' r' x' k') ∧ 0 ≤ v ∧ v < n ∧ 0 ≤ i' := by
  have hF : ∀ {c i r x k}, Flat (SP A c i r x k) := SP_flat hf
  have tk : ∀ {c' i' r' x' k'}, (SP A c' i' r' x' k').take (SP A c i r x k).length = SP A c' i' r' x' k' := fun {c' i' r' x' k'} => by
    have : (SP A c i r x k).length = (SP A c' i' r' x' k').length := by rw [SP_len, SP_len]
    rw [this, List.take_length]
  have hm : ∀ z : Int, 0 ≤ z % n ∧ z % n < n := fun z => ⟨Int.emod_nonneg z (by omega), Int.emod_lt_of_pos z (by omega)⟩
  have hmod : ∀ {B : Sto} {a : Int}, opMod B (.int a) (.int n) = some (.int (a % n)) := opMod_eq (by omega)
  have hdiv : ∀ {B : Sto} {a : Int}, opDiv B (.int a) (.int n) = some (.int (a / n)) := opDiv_eq (by omega) h2
  have hc : Cr.tAnd (t2 opLt (xVar 2) (xInt 2)) (t2 opLt (x2 opIx (xVar 0) (xInt 1)) (xN (opN1 bLen) (aCons (x2 opIx (xVar 0) (xInt 0)) aNil))) [some (.ref 1), some (.int n), some (.int r), none, none] (SP A c i r x k) = .ok (decide (r < 2) && decide (i < ((c.map D.int).length : Int))) (SP A c i r x k) :=
    tAnd_eq (t2_eq (xVar_eq rfl) xInt_eq opLt_int) fun _ => t2_eq (x2_eq (xVar_eq rfl) xInt_eq (SP_ix1 h)) (xN1_eq (x2_eq (xVar_eq rfl) xInt_eq (SP_ix0 h)) bLen_lst) opLt_int
  have s0 : sSet 2 (x2 opIx (xVar 0) (xInt 2)) [some (.ref 1), some (.int n), none, none, none] (SP A c i r x k) = .ok ([some (.ref 1), some (.int n), some (.int r), none, none], .nx) (SP A c i r x k) := sSet_eq (x2_eq (xVar_eq rfl) xInt_eq (SP_ix2 h))
  by_cases hr : r < 2
  · by_cases hl : i < ((c.map D.int).length : Int)
    · rw [decide_eq_true hr, decide_eq_true hl] at hc
      rw [List.length_map] at hl
      have hcl : i.toNat < c.length := by omega
      have hcell : opIx (SP A c i r x k) (.lst (c.map .int)) (.int i) = some (.int c[i.toNat]) := opIx_nat (j := i.toNat) (x := .lst (c.map .int)) rfl (by omega) (by rw [List.getElem?_map, List.getElem?_eq_getElem hcl] <;> rfl)
      generalize c[i.toNat] = z at hcell
      have hge : t2 opGe (xVar 4) (x2 opPow (xInt 10) (xInt 18)) [some (.ref 1), some (.int n), some (.int r), some (.lst (c.map .int)), some (.int z)] (SP A c (i + 1) r x k) = .ok (decide ((10 ^ (18 : Int).toNat : Int) ≤ z)) (SP A c (i + 1) r x k) := t2_eq (xVar_eq rfl) (x2_eq xInt_eq xInt_eq opPow18) rfl
      have st1 : sSet 3 (x2 opIx (xVar 0) (xInt 0)) [some (.ref 1), some (.int n), some (.int r), none, none] (SP A c i r x k) = .ok ([some (.ref 1), some (.int n), some (.int r), some (.lst (c.map .int)), none], .nx) (SP A c i r x k) := sSet_eq (x2_eq (xVar_eq rfl) xInt_eq (SP_ix0 h))
      have st2 : sSet 4 (x2 opIx (xVar 3) (x2 opIx (xVar 0) (xInt 1))) [some (.ref 1), some (.int n), some (.int r), some (.lst (c.map .int)), none] (SP A c i r x k) = .ok ([some (.ref 1), some (.int n), some (.int r), some (.lst (c.map .int)), some (.int z)], .nx) (SP A c i r x k) := sSet_eq (x2_eq (xVar_eq rfl) (x2_eq (xVar_eq rfl) xInt_eq (SP_ix1 h)) hcell)
      have st3 : sPut (x2 opAdd (x2 opIx (xVar 0) (xInt 1)) (xInt 1)) (xVar 0) (xInt 1) [some (.ref 1), some (.int n), some (.int r), some (.lst (c.map .int)), some (.int z)] (SP A c i r x k) = .ok ([some (.ref 1), some (.int n), some (.int r), some (.lst (c.map .int)), some (.int z)], .nx) (SP A c (i + 1) r x k) :=
        sPut_eq (x2_eq (x2_eq (xVar_eq rfl) xInt_eq (SP_ix1 h)) xInt_eq opAdd_int) (xVar_eq rfl) xInt_eq (SP_put1 h)
      by_cases hz : (10 ^ (18 : Int).toNat : Int) ≤ z
      · rw [decide_eq_true hz] at hge
        refine ⟨_, _, _, _, _, _, callB_rt (η0 := [some (.ref 1), some (.int n), none, none, none]) rfl (mSeq_nx s0 (mSeq_rt (sIf_t hc (mSeq_nx st1 (mSeq_nx st2 (mSeq_nx st3 (mSeq_rt (sIf_t hge
          (mSeq_nx (sSet_eq (x2_eq (xVar_eq rfl) (x2_eq xInt_eq xInt_eq opPow18) opSub_int)) (mSeq_nx (sPut_eq (x2_eq (xVar_eq rfl) (xVar_eq rfl) hdiv) (xVar_eq rfl) xInt_eq (SP_put2 h)) (mSeq_nx (sPut_eq xInt_eq (xVar_eq rfl) xInt_eq (SP_put4 h)) (sRet_eq (x2_eq (xN1_eq (xVar_eq rfl) rfl) (xVar_eq rfl) hmod))))))))))))) tk rfl hF, (hm _).1, (hm _).2, by omega⟩
      · rw [decide_eq_false hz] at hge
        obtain ⟨v, hv⟩ := s_19 (A := SP A c (i + 1) r x k) hF (x + z) (i + 1)
        refine ⟨_, _, _, _, _, _, callB_rt (η0 := [some (.ref 1), some (.int n), none, none, none]) rfl (mSeq_nx s0 (mSeq_nx (sIf_t hc (mSeq_nx st1 (mSeq_nx st2 (mSeq_nx st3 (mSeq_nx (sIf_f hge mNext_eq)
          (sPut_eq (xCall_eq (aCons_eq (x2_eq (x2_eq (xVar_eq rfl) xInt_eq (SP_ix3 h)) (xVar_eq rfl) opAdd_int) (a1_eq (x2_eq (xVar_eq rfl) xInt_eq (SP_ix1 h)))) rfl hv) (xVar_eq rfl) xInt_eq (SP_put3 h)))))))
          (mSeq_nx (sPut_eq xInt_eq (xVar_eq rfl) xInt_eq (SP_put2 h)) (sRet_eq (x2_eq (xN1_eq (x2_eq (xVar_eq rfl) xInt_eq (SP_ix3 h)) rfl) (xVar_eq rfl) hmod))))) tk rfl hF, (hm _).1, (hm _).2, by omega⟩
    · rw [decide_eq_true hr, decide_eq_false hl] at hc
      obtain ⟨v, hv⟩ := s_19 (A := SP A c (i + 1) r x k) hF x (77 + (i + 1))
      have hlt : t2 opLt (xVar 2) (xInt 2) [some (.ref 1), some (.int n), some (.int r), none, none] (SP A c i r x k) = .ok true (SP A c i r x k) := t2_eq (xVar_eq rfl) xInt_eq (by rw [opLt_int, decide_eq_true hr])
      refine ⟨_, _, _, _, _, _, callB_rt (η0 := [some (.ref 1), some (.int n), none, none, none]) rfl (mSeq_nx s0 (mSeq_nx (sIf_f hc (sIf_t hlt (mSeq_nx (sPut_eq (x2_eq (x2_eq (xVar_eq rfl) xInt_eq (SP_ix1 h)) xInt_eq opAdd_int) (xVar_eq rfl) xInt_eq (SP_put1 h))
          (sPut_eq (xCall_eq (aCons_eq (x2_eq (xVar_eq rfl) xInt_eq (SP_ix3 h)) (a1_eq (x2_eq xInt_eq (x2_eq (xVar_eq rfl) xInt_eq (SP_ix1 h)) opAdd_int))) rfl hv) (xVar_eq rfl) xInt_eq (SP_put3 h)))))
          (mSeq_nx (sPut_eq xInt_eq (xVar_eq rfl) xInt_eq (SP_put2 h)) (sRet_eq (x2_eq (xN1_eq (x2_eq (xVar_eq rfl) xInt_eq (SP_ix3 h)) rfl) (xVar_eq rfl) hmod))))) tk rfl hF, (hm _).1, (hm _).2, by omega⟩
  · rw [decide_eq_false hr] at hc
    have hlt : t2 opLt (xVar 2) (xInt 2) [some (.ref 1), some (.int n), some (.int r), none, none] (SP A c i r x k) = .ok false (SP A c i r x k) := t2_eq (xVar_eq rfl) xInt_eq (by rw [opLt_int, decide_eq_false hr])
    have hmul : ∀ {B : Sto} {a : Int} {b : Bool}, opMul B (.int a) (.int (if b then 1 else 0)) = some (.int (a * (if b then 1 else 0))) := fun {B a b} => opMul_eq (by cases b <;> decide)
    refine ⟨_, _, _, _, _, _, callB_rt (η0 := [some (.ref 1), some (.int n), none, none, none]) rfl (mSeq_nx s0 (mSeq_rt (sIf_f hc (sIf_f hlt (mSeq_nx (sPut_eq (x2_eq (x2_eq (xVar_eq rfl) xInt_eq (SP_ix4 h)) xInt_eq opSub_int) (xVar_eq rfl) xInt_eq (SP_put4 h))
        (mSeq_nx (sPut_eq (x2_eq (x2_eq (xVar_eq rfl) (xVar_eq rfl) hdiv) (xN1_eq (x2_eq (x2_eq (xVar_eq rfl) xInt_eq (SP_ix4 h)) xInt_eq (d := .bl (decide (0 < k - 1))) rfl) rfl) hmul) (xVar_eq rfl) xInt_eq (SP_put2 h))
          (sRet_eq (x2_eq (xN1_eq (xVar_eq rfl) rfl) (xVar_eq rfl) hmod))))))))  tk rfl hF, (hm _).1, (hm _).2, hi⟩
end
/-! ### the pool, told shortly -/
def PA (A : Sto) : Prop := ∃ c i r x k, A[1]? = some (.lst (plD c i r x k)) ∧ 0 ≤ i
def Stp (A A' : Sto) : Prop := ∃ c i r x k, A' = SP A c i r x k ∧ 0 ≤ i
section
variable {A A' A'' : Sto}
theorem PA.lt (h : PA A) : 1 < A.length := by
  obtain ⟨c, i, r, x, k, h, _⟩ := h
  by_cases q : 1 < A.length
  · exact q
  · rw [List.getElem?_eq_none (by omega)] at h
    cases h
theorem set_same {o : AO} {j : Nat} (h : A[j]? = some o) : A.set j o = A := by
  refine List.ext_getElem? fun i => ?_
  by_cases e : j = i
  · subst e
    have hj : j < A.length := by
      by_cases q : j < A.length
      · exact q
      · rw [List.getElem?_eq_none (by omega)] at h
        cases h
    rw [List.getElem?_set_self hj, h]
  · rw [List.getElem?_set_ne e]
theorem PA.refl (h : PA A) : Stp A A := by
  obtain ⟨c, i, r, x, k, h, hi⟩ := h
  exact ⟨c, i, r, x, k, (set_same h).symm, hi⟩
theorem Stp.trans (a : Stp A A') (b : Stp A' A'') : Stp A A'' := by
  obtain ⟨c, i, r, x, k, rfl, _⟩ := a
  obtain ⟨c2, i2, r2, x2, k2, rfl, h2⟩ := b
  exact ⟨c2, i2, r2, x2, k2, by unfold SP; rw [List.set_set], h2⟩
theorem Stp.pa (h : PA A) (s : Stp A A') : PA A' := by
  obtain ⟨c, i, r, x, k, rfl, hi⟩ := s
  exact ⟨c, i, r, x, k, SP_at h.lt, hi⟩
theorem Stp.flat (h : Flat A) (s : Stp A A') : Flat A' := by
  obtain ⟨c, i, r, x, k, rfl, hi⟩ := s
  exact SP_flat h
theorem Stp.len (s : Stp A A') : A'.length = A.length := by
  obtain ⟨c, i, r, x, k, rfl, hi⟩ := s
  exact SP_len
theorem Stp.take (s : Stp A A') : A'.take A.length = A' := by rw [← s.len, List.take_length]
theorem Stp.at (s : Stp A A') {j : Nat} (h : j ≠ 1) : A'[j]? = A[j]? := by
  obtain ⟨c, i, r, x, k, rfl, hi⟩ := s
  exact List.getElem?_set_ne (Ne.symm h)
/-- behind a store that goes on -/
theorem Stp.app {B A'' : Sto} (h : 1 < A.length) (s : Stp (A ++ B) A'') : ∃ A', A'' = A' ++ B ∧ Stp A A' := by
  obtain ⟨c, i, r, x, k, rfl, hi⟩ := s
  refine ⟨SP A c i r x k, ?_, c, i, r, x, k, rfl, hi⟩
  unfold SP
  rw [List.set_append_left _ _ h]
theorem PA.app {B : Sto} (h : PA A) : PA (A ++ B) := by
  have := h.lt
  obtain ⟨c, i, r, x, k, h, hi⟩ := h
  exact ⟨c, i, r, x, k, by rw [List.getElem?_append_left this, h], hi⟩
theorem draw (hp : PA A) (hf : Flat A) {n : Int} (h1 : 1 ≤ n) (h2 : n ≤ 1000000) : ∃ v A', M_21 [.ref 1, .int n] A = .ok (.int v) A' ∧ 0 ≤ v ∧ v < n ∧ Stp A A' := by
  have hlt := hp.lt
  obtain ⟨c, i, r, x, k, h, hi⟩ := hp
  obtain ⟨v, c', i', r', x', k', e, a, b, d⟩ := s_21 (c := c) (r := r) (x := x) (k := k) hlt hf hi h1 h2
  have e0 : SP A c i r x k = A := set_same h
  rw [e0] at e
  exact ⟨v, _, e, a, b, c', i', r', x', k', rfl, d⟩
/-- one of a few -/
theorem picked (hp : PA A) (hf : Flat A) {l : List D} (h0 : l ≠ []) (h2 : l.length ≤ 1000) (hl : rokL 0 l = true) : ∃ d A', M_22 [.ref 1, .lst l] A = .ok d A' ∧ d ∈ l ∧ Stp A A' := by
  have hl0 : 0 < l.length := List.length_pos_iff.mpr h0
  obtain ⟨v, A', e, a, b, s⟩ := draw hp hf (n := (l.length : Int)) (by omega) (by omega)
  have hv : v.toNat < l.length := by omega
  have hr : ∀ (l : List D), rokL 0 l = true → ∀ d ∈ l, rok 0 d = true := fun l => by
    induction l with
    | nil => intro _ d hd; cases hd
    | cons x l ih =>
      intro h d hd
      rw [rokL, Bool.and_eq_true] at h
      rcases List.mem_cons.mp hd with rfl | hd
      · exact h.1
      · exact ih h.2 d hd
  refine ⟨l[v.toNat], A', ?_, List.getElem_mem hv, s⟩
  exact callB_rt (η0 := [some (.ref 1), some (.lst l)]) rfl (sRet_eq (x2_eq (xVar_eq rfl) (xCall_eq (aCons_eq (xVar_eq rfl) (a1_eq (xN1_eq (xVar_eq rfl) bLen_lst))) rfl e) (opIx_nat (x := .lst l) (j := v.toNat) rfl (by omega) (List.getElem?_eq_getElem hv)))) s.take (hr l hl _ (List.getElem_mem hv)) (s.flat hf)
theorem picked_strs (hp : PA A) (hf : Flat A) {l : List Str} (h0 : l ≠ []) (h2 : l.length ≤ 1000) : ∃ t A', M_22 [.ref 1, eL l] A = .ok (.str t) A' ∧ t ∈ l ∧ Stp A A' := by
  obtain ⟨d, A', e, m, s⟩ := picked hp hf (l := l.map .str) (fun z => h0 (List.map_eq_nil_iff.mp z)) (by rw [List.length_map]; exact h2) (flat_strs l)
  obtain ⟨t, ht, rfl⟩ := List.mem_map.mp m
  exact ⟨t, A', e, ht, s⟩
theorem picked_rows (hp : PA A) (hf : Flat A) {l : List (List Str)} (h0 : l ≠ []) (h2 : l.length ≤ 1000) : ∃ t A', M_22 [.ref 1, .lst (l.map eL)] A = .ok (eL t) A' ∧ t ∈ l ∧ Stp A A' := by
  obtain ⟨d, A', e, m, s⟩ := picked hp hf (l := l.map eL) (fun z => h0 (List.map_eq_nil_iff.mp z)) (by rw [List.length_map]; exact h2) (rokL_map fun r _ => flat_eL r)
  obtain ⟨t, ht, rfl⟩ := List.mem_map.mp m
  exact ⟨t, A', e, ht, s⟩
end
end K41
end

section
set_option Elab.async false
set_option linter.all false
set_option maxRecDepth 100000
set_option maxHeartbeats 1000000
set_option pp.maxSteps 600
/-! Mathematics, part k: the polynomial of a dict. -/
namespace K41
open PySem PySem.Spec PyProof.Rows L2 Cr TL
def prK (p : Str × Int) : NestedKey := .tup [.text p.1, .num p.2]
def monoKey (m : Mono) : NestedKey := .tup (m.map prK)
def qent (t : Mono × Int) : NestedKey × D := (monoKey t.1, .int t.2)
theorem nkL_prs (m : Mono) : nkL (m.map ePr) = some (m.map prK) := by
  induction m with
  | nil => rfl
  | cons p m ih =>
    show nkL (ePr p :: m.map ePr) = _
    have e : nk (ePr p) = some (prK p) := by
      unfold ePr prK
      simp only [nk, nkL]
      rfl
    simp only [nkL, e, ih]
    rfl
theorem depth_prs (m : Mono) : NestedKey.depthAll (m.map prK) ≤ 1 := by
  induction m with
  | nil => exact Nat.zero_le _
  | cons p m ih =>
    show NestedKey.depthAll (prK p :: m.map prK) ≤ 1
    have e : (prK p).depth = 1 := by
      unfold prK
      simp [NestedKey.depth, NestedKey.depthAll]
    simp only [NestedKey.depthAll, e]
    omega
theorem tkOf_mono (m : Mono) : tkOf (eM m) = some (monoKey m) := by
  show (match nk (.tup (m.map ePr)) with | some k => if k.depth ≤ 8 then some k else none | none => none) = _
  have e : nk (.tup (m.map ePr)) = some (monoKey m) := by
    simp only [nk, nkL_prs]
    rfl
  rw [e]
  show (if (monoKey m).depth ≤ 8 then some (monoKey m) else none) = _
  rw [if_pos]
  unfold monoKey
  simp only [NestedKey.depth]
  have := depth_prs m
  omega
theorem ofKey_mono (m : Mono) : ofKey (monoKey m) = eM m := by
  have e1 : ∀ p : Str × Int, ofKey (prK p) = ePr p := fun p => by
    unfold prK ePr
    simp only [ofKey, ofKey.ofKeys]
  have e : ∀ m : Mono, ofKey.ofKeys (m.map prK) = m.map ePr := fun m => by
    induction m with
    | nil => rfl
    | cons x m ih =>
      show ofKey.ofKeys (prK x :: m.map prK) = ePr x :: m.map ePr
      simp only [ofKey.ofKeys, e1, ih]
  unfold monoKey eM
  simp only [ofKey, e]
theorem put_qent (Q : Poly) (m : Mono) (c : Int) : ∃ Q' : Poly, put (Q.map qent) (monoKey m) (.int c) = Q'.map qent ∧ (∀ t ∈ Q', t.1 = m ∨ ∃ c, (t.1, c) ∈ Q) ∧ Q'.length ≤ Q.length + 1 := by
  unfold put
  by_cases h : ((Q.map qent).any fun p => decide (p.1 = monoKey m)) = true
  · rw [if_pos h]
    refine ⟨Q.map fun t => if monoKey t.1 = monoKey m then (t.1, c) else t, ?_, fun t ht => ?_, by rw [List.length_map]; omega⟩
    · rw [List.map_map, List.map_map]
      refine List.map_congr_left fun t _ => ?_
      show (if (qent t).1 = monoKey m then ((qent t).1, D.int c) else qent t) = qent (if monoKey t.1 = monoKey m then (t.1, c) else t)
      by_cases q : monoKey t.1 = monoKey m
      · rw [if_pos q, if_pos (show (qent t).1 = monoKey m from q)] <;> rfl
      · rw [if_neg q, if_neg (show ¬ (qent t).1 = monoKey m from q)]
    · obtain ⟨u, hu, rfl⟩ := List.mem_map.mp ht
      right
      split
      · exact ⟨u.2, hu⟩
      · exact ⟨u.2, hu⟩
  · rw [if_neg h]
    refine ⟨Q ++ [(m, c)], by rw [List.map_append] <;> rfl, fun t ht => ?_, by rw [List.length_append] <;> exact Nat.le_refl _⟩
    rcases List.mem_append.mp ht with ht | ht
    · exact .inr ⟨t.2, ht⟩
    · rw [List.mem_singleton.mp ht]
      exact .inl rfl
theorem look_qent (Q : Poly) (m : Mono) (c0 : Int) (h : (m, c0) ∈ Q) : ∃ c, look (Q.map qent) (monoKey m) = some (.int c) := by
  unfold look
  cases q : (Q.map qent).find? fun p => decide (p.1 = monoKey m) with
  | none =>
    rw [List.find?_eq_none] at q
    exact absurd (decide_eq_true rfl) (q (qent (m, c0)) (List.mem_map.mpr ⟨_, h, rfl⟩))
  | some p =>
    obtain ⟨t, _, rfl⟩ := List.mem_map.mp (List.mem_of_find?_eq_some q)
    exact ⟨t.2, rfl⟩
theorem opIx_dn {A : Sto} {Q : Poly} {m : Mono} {c0 : Int} (h : (m, c0) ∈ Q) : ∃ c, opIx A (.dn (Q.map qent)) (eM m) = some (.int c) := by
  obtain ⟨c, e⟩ := look_qent Q m c0 h
  refine ⟨c, ?_⟩
  show (match ixDk A (.dn (Q.map qent)) (eM m) with | some d => some d | none => ixDn A (.dn (Q.map qent)) (eM m)) = _
  show ixDn A (.dn (Q.map qent)) (eM m) = _
  unfold ixDn
  rw [tkOf_mono]
  exact e
/-! ### monomials in their order -/
def pP (p : Str × Int) : PyData := .tuple [.str p.1, .int p.2]
def mLt (a b : Mono) : Bool := (ltPs (a.map pP) (b.map pP)).getD false
theorem pP_some (p q : Str × Int) : ∃ z, Cr.ltP (pP p) (pP q) = some z := by
  unfold pP
  simp only [Cr.ltP, ltPs]
  split
  · split
    · exact ⟨_, rfl⟩
    · exact ⟨_, rfl⟩
  · exact ⟨_, rfl⟩
theorem ltPs_some : ∀ a b : Mono, ∃ z, ltPs (a.map pP) (b.map pP) = some z
  | [], [] => ⟨false, by simp [ltPs]⟩
  | [], _ :: _ => ⟨true, by simp [ltPs]⟩
  | _ :: _, [] => ⟨false, by simp [ltPs]⟩
  | p :: a, q :: b => by
    show ∃ z, ltPs (pP p :: a.map pP) (pP q :: b.map pP) = some z
    simp only [ltPs]
    split
    · exact ltPs_some a b
    · exact pP_some p q
theorem ltPs_mLt (a b : Mono) : ltPs (a.map pP) (b.map pP) = some (mLt a b) := by
  obtain ⟨z, e⟩ := ltPs_some a b
  unfold mLt
  rw [e] <;> rfl
theorem pdL_prs (m : Mono) : pdL (m.map ePr) = some (m.map pP) := by
  induction m with
  | nil => rfl
  | cons p m ih =>
    show pdL (ePr p :: m.map ePr) = _
    have e : pd (ePr p) = some (pP p) := by
      unfold ePr pP
      simp only [pd, pdL]
      rfl
    simp only [pdL, e, ih]
    rfl
theorem depth_pPs (m : Mono) : PyData.depthAll (m.map pP) ≤ 1 := by
  induction m with
  | nil => exact Nat.zero_le _
  | cons p m ih =>
    show PyData.depthAll (pP p :: m.map pP) ≤ 1
    have e : (pP p).depth = 1 := by
      unfold pP
      simp [PyData.depth, PyData.depthAll]
    simp only [PyData.depthAll, e]
    omega
theorem opLt_mono {A : Sto} (a b : Mono) : opLt A (eM a) (eM b) = some (.bl (mLt a b)) := by
  have e : ∀ m : Mono, pdA A (eM m) = some (.tuple (m.map pP)) := fun m => by
    show pd (.tup (m.map ePr)) = _
    simp only [pd, pdL_prs, Option.map_some]
  unfold opLt
  simp only [e]
  rw [if_pos]
  · show (ltPs (a.map pP) (b.map pP)).map D.bl = _
    rw [ltPs_mLt] <;> rfl
  · have h1 := depth_pPs a
    have h2 := depth_pPs b
    simp only [PyData.depth]
    omega
section
variable {α : Type} {A : Sto} {η : En} {ma : ExM} {g : D → En → M En} {t : TtM} {me : ExM}
theorem mLcRF {own : List Nat} {n : Nat} (e : α → D) (p : α → Bool) (r : α → D) (xs : List α) (hi : ma η A = .ok (.ref n) A) (hA : A[n]? = some (.lst (xs.map e))) (hl : xs.length ≤ sizeLine)
    (h : ∀ x ∈ xs, ∃ η1, g (e x) (wipeE η own) A = .ok η1 A ∧ t η1 A = .ok (p x) A ∧ (p x = true → me η1 A = .ok (r x) A)) :
    mLc own (iSeq ma) g t me η A = .ok (.lst ((xs.filter p).map r)) A := by
  refine mLc_enc (it := ⟨xs.map e, fun A' => A'[n]? = some (.lst (xs.map e))⟩) e p r xs (iSeq_eq hi ?_) hA rfl hl h
  unfold seqIt
  simp only [hA]
theorem s_24 {Q : Poly} (hQ : Q.length ≤ 1000) (hf : Flat A) : ∃ P : Poly, M_24 [.dn (Q.map qent)] A = .ok (eP P) A ∧ P.length = Q.length ∧ ∀ t ∈ P, ∃ c, (t.1, c) ∈ Q := by
  have hsz := sizeLine_eq
  obtain ⟨η2, c, A2, h, h2⟩ := mFor_inv (mi := Cr.iKeys (xVar 0)) (g := gName 2)
    (body := mSeq (sSet 3 (xN (opN1 bLen) (aCons (mLc [4] (iSeq (xVar 1)) (gName 4) (t2 opLt (x2 opIx (xVar 4) (xInt 0)) (xVar 2)) (xVar 4)) aNil))) (sExp (xM "list" mInsert (xVar 1) (aCons (xVar 3) (aCons (xTup (aCons (xVar 2) (aCons (x2 opIx (xVar 0) (xVar 2)) aNil))) aNil)))))
    (it := ⟨(Q.map qent).map fun p => ofKey p.1, fun _ => True⟩)
    (η := [some (.dn (Q.map qent)), some (.ref A.length), none, none, none]) (A0 := A ++ [AO.lst []]) (A := A ++ [AO.lst []]) (fun (t : Mono × Int) => eM t.1) (fun _ _ => False)
    (fun ys η A' => ∃ (T : Poly) (o2 o3 : Option D), A' = A ++ [AO.lst (T.map eT)] ∧ η = [some (.dn (Q.map qent)), some (.ref A.length), o2, o3, none] ∧ T.length + ys.length = Q.length ∧ (∀ t ∈ T, ∃ c, (t.1, c) ∈ Q) ∧ ∀ t ∈ ys, t ∈ Q)
    Q (iKeys_eq (xVar_eq rfl) rfl) (by
      show (Q.map qent).map (fun p => ofKey p.1) = _
      rw [List.map_map]
      exact List.map_congr_left fun t _ => ofKey_mono t.1) ⟨[], none, none, rfl, rfl, by rw [List.length_nil]; omega, (fun _ h => nomatch h), fun _ h => h⟩ (fun _ _ _ _ => trivial) fun t ys η A' ⟨T, o2, o3, eA, e, hn, hT, hy⟩ => by
      subst eA
      subst e
      rw [List.length_cons] at hn
      have ht := hy t (List.mem_cons_self ..)
      obtain ⟨c, hc⟩ := opIx_dn (A := A ++ [AO.lst (T.map eT)]) (m := t.1) (c0 := t.2) ht
      have hl : mLc [4] (iSeq (xVar 1)) (gName 4) (t2 opLt (x2 opIx (xVar 4) (xInt 0)) (xVar 2)) (xVar 4) [some (.dn (Q.map qent)), some (.ref A.length), some (eM t.1), o3, none] (A ++ [AO.lst (T.map eT)]) = .ok (.lst ((T.filter fun u => mLt u.1 t.1).map eT)) (A ++ [AO.lst (T.map eT)]) := by
        apply mLcRF eT (fun u => mLt u.1 t.1) eT T
        · exact xVar_eq rfl
        · exact at_end _
        · omega
        · intro u hu
          exact ⟨_, gName_eq, t2_eq (x2_eq (xVar_eq rfl) xInt_eq (opIx_tm u)) (xVar_eq rfl) (opLt_mono u.1 t.1), fun _ => xVar_eq rfl⟩
      generalize hj : (T.filter fun u => mLt u.1 t.1).length = j at hl
      have hjl : j ≤ T.length := by rw [← hj]; exact List.length_filter_le _ _
      have s3 : sSet 3 (xN (opN1 bLen) (aCons (mLc [4] (iSeq (xVar 1)) (gName 4) (t2 opLt (x2 opIx (xVar 4) (xInt 0)) (xVar 2)) (xVar 4)) aNil)) [some (.dn (Q.map qent)), some (.ref A.length), some (eM t.1), o3, none] (A ++ [AO.lst (T.map eT)]) = .ok ([some (.dn (Q.map qent)), some (.ref A.length), some (eM t.1), some (.int (j : Int)), none], .nx) (A ++ [AO.lst (T.map eT)]) := by
        refine sSet_eq (xN1_eq hl ?_)
        rw [bLen_lst, List.length_map, hj]
      have hins : mInsert (A ++ [AO.lst (T.map eT)]) (.ref A.length) [.int (j : Int), eT (t.1, c)] = some (.non, A ++ [AO.lst ((T.take j ++ [(t.1, c)] ++ T.drop j).map eT)]) := by
        unfold mInsert
        simp only [at_end]
        rw [if_pos ⟨by rw [List.length_map]; omega, by omega, by omega⟩, set_end, Int.toNat_natCast]
        congr 4
        rw [List.map_append, List.map_append, List.map_take, List.map_drop] <;> rfl
      refine ⟨_, _, [some (.dn (Q.map qent)), some (.ref A.length), some (eM t.1), some (.int (j : Int)), none], .nx, A ++ [AO.lst ((T.take j ++ [(t.1, c)] ++ T.drop j).map eT)], gName_eq, mSeq_nx s3 (sExp_eq (xM_eq (xVar_eq rfl) ?_ (aCons_eq (xVar_eq rfl) (a1_eq (xTup_eq (aCons_eq (xVar_eq rfl) (a1_eq (x2_eq (xVar_eq rfl) (xVar_eq rfl) hc))) two_le))) hins)), .inl ⟨rfl, _, _, _, rfl, rfl, ?_, fun u hu => ?_, fun x hx => hy x (List.mem_cons_of_mem _ hx)⟩⟩
      · unfold tyOk
        simp only [if_true, lstOf, at_end, Option.map_some]
      · rw [List.length_append, List.length_append, List.length_take, List.length_drop]
        simp
        omega
      · rcases List.mem_append.mp hu with hu | hu
        · rcases List.mem_append.mp hu with hu | hu
          · exact hT u (List.mem_of_mem_take hu)
          · rw [List.mem_singleton.mp hu]
            exact ⟨t.2, ht⟩
        · exact hT u (List.mem_of_mem_drop hu)
  rcases h2 with ⟨rfl, T, o2, o3, rfl, rfl, hn, hT, _⟩ | ⟨d, _, hd⟩
  · refine ⟨T, ?_, by rw [List.length_nil] at hn; omega, hT⟩
    have hb : bTuple (A ++ [AO.lst (T.map eT)]) (.ref A.length) = some (eP T) := by
      show (lstOf (A ++ [AO.lst (T.map eT)]) (.ref A.length)).map D.tup = _
      unfold lstOf
      simp only [at_end]
      rfl
    exact callB_rt (η0 := [some (.dn (Q.map qent)), none, none, none, none]) rfl (mSeq_nx (sSet_eq (xLstR_eq aNil_eq (by decide))) (mSeq_nx h (sRet_eq (xN1_eq (xVar_eq rfl) hb)))) (take_end _) (flat_eP T) hf
  · exact hd.elim
end
end K41
end

section
set_option Elab.async false
set_option linter.all false
set_option maxRecDepth 100000
set_option maxHeartbeats 1000000
set_option pp.maxSteps 600
/-! Mathematics, part l: a drawn polynomial. -/
namespace K41
open PySem PySem.Spec PyProof.Rows L2 Cr TL
/-- names that can be drawn -/
structure Nm (names : List Str) : Prop where
  ne : names ≠ []
  n : names.length ≤ 10
  tl : ∀ t ∈ names, t.length ≤ 10
def kent (w : Str × Int) : Key × D := (.inr w.1, .int w.2)
theorem put_kent (W : List (Str × Int)) (t : Str) (c : Int) : ∃ W' : List (Str × Int), put (W.map kent) (.inr t) (.int c) = W'.map kent ∧ (∀ w ∈ W', w.1 = t ∨ ∃ c, (w.1, c) ∈ W) ∧ W'.length ≤ W.length + 1 := by
  unfold put
  by_cases h : ((W.map kent).any fun p => decide (p.1 = (.inr t : Key))) = true
  · rw [if_pos h]
    refine ⟨W.map fun w => if (.inr w.1 : Key) = .inr t then (w.1, c) else w, ?_, fun w hw => ?_, by rw [List.length_map]; omega⟩
    · rw [List.map_map, List.map_map]
      refine List.map_congr_left fun w _ => ?_
      show (if (kent w).1 = (.inr t : Key) then ((kent w).1, D.int c) else kent w) = kent (if (.inr w.1 : Key) = .inr t then (w.1, c) else w)
      by_cases q : (.inr w.1 : Key) = .inr t
      · rw [if_pos q, if_pos (show (kent w).1 = (.inr t : Key) from q)] <;> rfl
      · rw [if_neg q, if_neg (show ¬ (kent w).1 = (.inr t : Key) from q)]
    · obtain ⟨u, hu, rfl⟩ := List.mem_map.mp hw
      right
      split
      · exact ⟨u.2, hu⟩
      · exact ⟨u.2, hu⟩
  · rw [if_neg h]
    refine ⟨W ++ [(t, c)], by rw [List.map_append] <;> rfl, fun w hw => ?_, by rw [List.length_append] <;> exact Nat.le_refl _⟩
    rcases List.mem_append.mp hw with hw | hw
    · exact .inr ⟨w.2, hw⟩
    · rw [List.mem_singleton.mp hw]
      exact .inl rfl
def cf (W : List (Str × Int)) (t : Str) : Int := match look (W.map kent) (.inr t) with
  | some (.int c) => c
  | _ => 0
theorem look_kent (W : List (Str × Int)) {t : Str} {c0 : Int} (h : (t, c0) ∈ W) : look (W.map kent) (.inr t) = some (.int (cf W t)) := by
  have : ∃ c, look (W.map kent) (.inr t) = some (.int c) := by
    unfold look
    cases q : (W.map kent).find? fun p => decide (p.1 = (.inr t : Key)) with
    | none =>
      rw [List.find?_eq_none] at q
      exact absurd (decide_eq_true rfl) (q (kent (t, c0)) (List.mem_map.mpr ⟨_, h, rfl⟩))
    | some p =>
      obtain ⟨u, _, rfl⟩ := List.mem_map.mp (List.mem_of_find?_eq_some q)
      exact ⟨u.2, rfl⟩
  obtain ⟨c, e⟩ := this
  unfold cf
  rw [e]
theorem opIx_dk {A : Sto} {W : List (Str × Int)} {t : Str} {c0 : Int} (h : (t, c0) ∈ W) : opIx A (.dk (W.map kent)) (.str t) = some (.int (cf W t)) := by
  have e : ixDk A (.dk (W.map kent)) (.str t) = some (.int (cf W t)) := look_kent W h
  unfold opIx
  have e0 : ixSeq A (.dk (W.map kent)) (.str t) = none := rfl
  simp only [e0, e]
theorem strs_of : ∀ {l : List D}, l.all strD = true → ∃ ts : List Str, l = ts.map D.str
  | [], _ => ⟨[], rfl⟩
  | d :: l, h => by
    rw [List.all_cons, Bool.and_eq_true] at h
    obtain ⟨ts, rfl⟩ := strs_of h.2
    cases d with
    | str x => exact ⟨x :: ts, rfl⟩
    | _ => cases h.1
theorem str_mem {ts us : List Str} (h : ∀ d ∈ ts.map D.str, d ∈ us.map D.str) : ∀ t ∈ ts, t ∈ us := fun t ht => by
  obtain ⟨u, hu, e⟩ := List.mem_map.mp (h (.str t) (List.mem_map.mpr ⟨t, ht, rfl⟩))
  cases e
  exact hu
theorem sorted_strs {A : Sto} (us : List Str) : ∃ ts : List Str, bSorted A (.lst (us.map .str)) = some (.lst (ts.map .str)) ∧ ts.length = us.length ∧ ∀ t ∈ ts, t ∈ us := by
  have hall : (us.map D.str).all strD = true := by
    rw [List.all_map]
    exact List.all_eq_true.mpr fun _ _ => rfl
  have h2 : ((us.map D.str).mergeSort (PySem.W.dataLe false enD)).all strD = true := List.all_eq_true.mpr fun d hd => List.all_eq_true.mp hall d (List.mem_mergeSort.mp hd)
  obtain ⟨ts, e⟩ := strs_of h2
  refine ⟨ts, ?_, ?_, str_mem fun d hd => List.mem_mergeSort.mp (e ▸ hd)⟩
  · show (if ((us.map D.str).all strD) = true then some (D.lst ((us.map D.str).mergeSort (PySem.W.dataLe false enD))) else none) = _
    rw [if_pos hall, e]
  · have := congrArg List.length e
    rw [List.length_mergeSort, List.length_map, List.length_map] at this
    exact this.symm
theorem pick_int {A : Sto} {l : List Int} {v : Int} (h0 : 0 ≤ v) (h1 : v < (l.length : Int)) : ∃ w, opIx A (.lst (l.map .int)) (.int v) = some (.int w) ∧ w ∈ l := by
  have hv : v.toNat < l.length := by omega
  exact ⟨l[v.toNat], opIx_nat (j := v.toNat) (x := .lst (l.map .int)) rfl (by omega) (by rw [List.getElem?_map, List.getElem?_eq_getElem hv] <;> rfl), List.getElem_mem hv⟩
theorem rgIt_eq {w : Int} (h0 : 0 ≤ w) (h1 : w ≤ 1000) : rgIt [.int w] = some ⟨(List.range w.toNat).map fun (i : Nat) => D.int (i : Int), fun _ => True⟩ := by
  unfold rgIt
  show (if -(2 ^ 62) ≤ w ∧ w < 2 ^ 62 then _ else none) = _
  rw [if_pos ⟨by omega, by omega⟩]
theorem at_mid {A : Sto} (o : AO) (J : Sto) : (A ++ (o :: J))[A.length]? = some o := by simp
theorem set_mid {A : Sto} (o o' : AO) (J : Sto) : (A ++ (o :: J)).set A.length o' = A ++ (o' :: J) := by simp
theorem take_mid {A : Sto} (J : Sto) : (A ++ J).take A.length = A := by simp
theorem flat_dk (W : List (Str × Int)) : rokO 0 (.dk (W.map kent)) = true := by
  show rokK 0 (W.map kent) = true
  induction W with
  | nil => rw [List.map_nil, rokK]
  | cons w W ih =>
    rw [List.map_cons]
    show rokK 0 ((.inr w.1, .int w.2) :: W.map kent) = true
    rw [rokK, ih] <;> rfl
theorem flat_dn (Q : Poly) : rokO 0 (.dn (Q.map qent)) = true := by
  show rokN 0 (Q.map qent) = true
  induction Q with
  | nil => rw [List.map_nil, rokN]
  | cons w W ih =>
    rw [List.map_cons]
    show rokN 0 ((monoKey w.1, .int w.2) :: W.map qent) = true
    rw [rokN, ih] <;> rfl
section
variable {A : Sto} {names : List Str}
/-- the tokens' powers -/
noncomputable abbrev pwBody : StM := sPut (x2 opAdd (xInt 1) (x2 opMul (xCall 2 M_21 (aCons (xVar 0) (aCons (xInt 3) aNil))) (xN (opN1 bInt) (aCons (x2 opEq (xCall 2 M_21 (aCons (xVar 0) (aCons (xInt 3) aNil))) (xInt 0)) aNil)))) (xVar 4) (xCall 2 M_22 (aCons (xVar 0) (aCons (xVar 1) aNil)))
/-- a call of a draw in an expression -/
theorem xDraw {η : En} (hp : PA A) (hf : Flat A) (h0 : η[0]? = some (some (.ref 1))) {n : Int} (h1 : 1 ≤ n) (h2 : n ≤ 1000000) : ∃ v A', xCall 2 M_21 (aCons (xVar 0) (aCons (xInt n) aNil)) η A = .ok (.int v) A' ∧ 0 ≤ v ∧ v < n ∧ Stp A A' := by
  obtain ⟨v, A', e, a, b, s⟩ := draw hp hf h1 h2
  exact ⟨v, A', xCall_eq (aCons_eq (xVar_eq h0) (a1_eq xInt_eq)) rfl e, a, b, s⟩
theorem powers {η0 : En} (N : Nm names) (hp : PA A) (hf : Flat A) (h0 : η0[0]? = some (some (.ref 1))) (h1 : η0[1]? = some (some (eL names))) (h4 : η0[4]? = some (some (.ref A.length))) (hlen : η0.length = 8) :
    ∃ (η2 : En) (A' : Sto) (W : List (Str × Int)), mFor (iRange (aCons (x2 opIx (xLst (aCons (xInt 1) (aCons (xInt 2) (aCons (xInt 2) (aCons (xInt 3) (aCons (xInt 0) (aCons (xInt 1) aNil))))))) (xCall 2 M_21 (aCons (xVar 0) (aCons (xInt 6) aNil)))) aNil)) (gName 5) pwBody η0 (A ++ [AO.dk []]) =
      .ok (η2, .nx) (A' ++ [AO.dk (W.map kent)]) ∧ Stp A A' ∧ W.length ≤ 3 ∧ (∀ w ∈ W, w.1 ∈ names) ∧ ∃ o5 : Option D, η2 = η0.set 5 o5 := by
  have hsz := sizeLine_eq
  have hlt := hp.lt
  obtain ⟨v, A1, ev, v0, v6, st⟩ := xDraw (A := A ++ [AO.dk []]) (η := η0) hp.app (hf.app rfl) h0 (n := 6) (by omega) (by omega)
  obtain ⟨A2, rfl, s2⟩ := st.app hlt
  obtain ⟨w, ew, wm⟩ := pick_int (A := A2 ++ [AO.dk []]) (l := [1, 2, 2, 3, 0, 1]) v0 v6
  have w0 : 0 ≤ w ∧ w ≤ 3 := by
    simp only [List.mem_cons, List.not_mem_nil, or_false] at wm
    omega
  obtain ⟨η2, c, A3, h, hh⟩ := mFor_inv (mi := iRange (aCons (x2 opIx (xLst (aCons (xInt 1) (aCons (xInt 2) (aCons (xInt 2) (aCons (xInt 3) (aCons (xInt 0) (aCons (xInt 1) aNil))))))) (xCall 2 M_21 (aCons (xVar 0) (aCons (xInt 6) aNil)))) aNil)) (g := gName 5) (body := pwBody)
    (it := ⟨(List.range w.toNat).map fun (i : Nat) => D.int (i : Int), fun _ => True⟩) (η := η0) (A0 := A ++ [AO.dk []]) (A := A2 ++ [AO.dk []]) (fun (i : Nat) => D.int (i : Int)) (fun _ _ => False)
    (fun ys η X => ∃ (A' : Sto) (W : List (Str × Int)) (o5 : Option D), X = A' ++ [AO.dk (W.map kent)] ∧ Stp A A' ∧ W.length + ys.length ≤ 3 ∧ (∀ w ∈ W, w.1 ∈ names) ∧ η = η0.set 5 o5)
    (List.range w.toNat) (iRange_eq (a1_eq (x2_eq (xLst_eq (aCons_eq xInt_eq (aCons_eq xInt_eq (aCons_eq xInt_eq (aCons_eq xInt_eq (aCons_eq xInt_eq (a1_eq xInt_eq)))))) (by show 6 ≤ sizeLine; omega)) ev ew)) (rgIt_eq w0.1 (by omega))) rfl
    ⟨A2, [], η0.getD 5 none, rfl, s2, by rw [List.length_nil, List.length_range]; omega, (fun _ h => nomatch h), by
      refine List.ext_getElem? fun i => ?_
      rw [List.getElem?_set]
      split
      · rename_i e
        subst e
        rw [if_pos (by omega), List.getD_eq_getElem?_getD, List.getElem?_eq_getElem (by omega)] <;> rfl
      · rfl⟩ (fun _ _ _ _ => trivial) fun i ys η X ⟨A', W, o5, eX, s, hn, hw, e⟩ => by
      subst eX
      subst e
      rw [List.length_cons] at hn
      have g0 : ((η0.set 5 o5).set 5 (some (.int (i : Int))))[0]? = some (some (.ref 1)) := by rw [List.getElem?_set_ne (by omega), List.getElem?_set_ne (by omega), h0]
      have g1 : ((η0.set 5 o5).set 5 (some (.int (i : Int))))[1]? = some (some (eL names)) := by rw [List.getElem?_set_ne (by omega), List.getElem?_set_ne (by omega), h1]
      have g4 : ((η0.set 5 o5).set 5 (some (.int (i : Int))))[4]? = some (some (.ref A.length)) := by rw [List.getElem?_set_ne (by omega), List.getElem?_set_ne (by omega), h4]
      have p0 : PA (A' ++ [AO.dk (W.map kent)]) := (s.pa hp).app
      have f0 : Flat (A' ++ [AO.dk (W.map kent)]) := flat_snoc (s.flat hf) (flat_dk W)
      obtain ⟨a, X1, e1, a0, a1, t1⟩ := xDraw (η := (η0.set 5 o5).set 5 (some (.int (i : Int)))) p0 f0 g0 (n := 3) (by omega) (by omega)
      obtain ⟨b, X2, e2, b0, b1, t2⟩ := xDraw (η := (η0.set 5 o5).set 5 (some (.int (i : Int)))) (t1.pa p0) (t1.flat f0) g0 (n := 3) (by omega) (by omega)
      obtain ⟨t, X3, e3, tm, t3⟩ := picked_strs ((t1.trans t2).pa p0) ((t1.trans t2).flat f0) N.ne (by have := N.n; omega)
      obtain ⟨A4, rfl, s4⟩ := Stp.app (s.pa hp).lt ((t1.trans t2).trans t3)
      have hAl : A4.length = A.length := by rw [s4.len, s.len]
      obtain ⟨W', eW, hW, hWl⟩ := put_kent W t (1 + a * (if decide (b = 0) then 1 else 0))
      have hset : opSet (A4 ++ [AO.dk (W.map kent)]) (.ref A.length) (.str t) (.int (1 + a * (if decide (b = 0) then 1 else 0))) = some (A4 ++ [AO.dk (W'.map kent)]) := by
        rw [← hAl]
        unfold opSet
        simp only [at_end]
        show (if (W.map kent).length < sizeLine then some ((A4 ++ [AO.dk (W.map kent)]).set A4.length (.dk (put (W.map kent) (.inr t) (.int (1 + a * (if decide (b = 0) then 1 else 0)))))) else none) = _
        rw [if_pos (by rw [List.length_map]; omega), set_end, eW]
      have hval : x2 opAdd (xInt 1) (x2 opMul (xCall 2 M_21 (aCons (xVar 0) (aCons (xInt 3) aNil))) (xN (opN1 bInt) (aCons (x2 opEq (xCall 2 M_21 (aCons (xVar 0) (aCons (xInt 3) aNil))) (xInt 0)) aNil))) ((η0.set 5 o5).set 5 (some (.int (i : Int)))) (A' ++ [AO.dk (W.map kent)]) = .ok (.int (1 + a * (if decide (b = 0) then 1 else 0))) X2 :=
        x2_eq xInt_eq (x2_eq e1 (xN1_eq (x2_eq e2 xInt_eq opEq_int) rfl) (opMul_eq (by cases decide (b = 0) <;> decide))) opAdd_int
      refine ⟨_, _, (η0.set 5 o5).set 5 (some (.int (i : Int))), .nx, A4 ++ [AO.dk (W'.map kent)], gName_eq, sPut_eq hval (xVar_eq g4) (xCall_eq (aCons_eq (xVar_eq g0) (a1_eq (xVar_eq g1))) rfl e3) hset, .inl ⟨rfl, A4, W', some (.int (i : Int)), rfl, s.trans s4, by omega, fun u hu => ?_, by rw [List.set_set]⟩⟩
      rcases hW u hu with h | ⟨z, hz⟩
      · rw [h]
        exact tm
      · exact hw (u.1, z) hz
  rcases hh with ⟨rfl, A', W, o5, rfl, s, hn, hw, e⟩ | ⟨d, _, hd⟩
  · exact ⟨η2, A', W, h, s, by omega, hw, o5, e⟩
  · exact hd.elim
/-- one more term -/
noncomputable abbrev tmBody : StM := mSeq (sSet 4 xDk0) (mSeq (mFor (iRange (aCons (x2 opIx (xLst (aCons (xInt 1) (aCons (xInt 2) (aCons (xInt 2) (aCons (xInt 3) (aCons (xInt 0) (aCons (xInt 1) aNil))))))) (xCall 2 M_21 (aCons (xVar 0) (aCons (xInt 6) aNil)))) aNil)) (gName 5) pwBody) (sFrz 4 (mSeq (sSet 6 (xN (opN1 bTuple) (aCons (mLc [7] (iSeq (xN (opN1 bSorted) (aCons (mLc [7] (Cr.iKeys (xVar 4)) (gName 7) tNone (xN (opN1 bStr) (aCons (xVar 7) aNil))) aNil))) (gName 7) tNone (xTup (aCons (xVar 7) (aCons (x2 opIx (xVar 4) (xVar 7)) aNil)))) aNil))) (sPut (x2 opAdd (xInt 1) (xCall 2 M_21 (aCons (xVar 0) (aCons (xInt 3) aNil)))) (xVar 2) (xVar 6)))))
theorem term {Q : Poly} {J : Sto} {o3 o4 o5 o6 : Option D} {L : Nat} (N : Nm names) (hp : PA A) (hf : Flat A) (hL : A.length = L) (hJ : Flat J) (hQ : Q.length ≤ 1000) :
    ∃ (A' : Sto) (Q' : Poly) (p4 p5 p6 : Option D), tmBody [some (.ref 1), some (eL names), some (.ref L), o3, o4, o5, o6, none] (A ++ (AO.dn (Q.map qent) :: J)) = .ok ([some (.ref 1), some (eL names), some (.ref L), o3, p4, p5, p6, none], .nx) (A' ++ (AO.dn (Q'.map qent) :: (J ++ [AO.gone]))) ∧
      Stp A A' ∧ Q'.length ≤ Q.length + 1 ∧ ∀ t ∈ Q', (t.1.length ≤ 3 ∧ ∀ p ∈ t.1, p.1 ∈ names) ∨ ∃ c, (t.1, c) ∈ Q := by
  have hsz := sizeLine_eq
  subst hL
  have hB : PA (A ++ (AO.dn (Q.map qent) :: J)) := hp.app
  have fB : Flat (A ++ (AO.dn (Q.map qent) :: J)) := hf.app (by
    show (AO.dn (Q.map qent) :: J).all (rokO 0) = true
    rw [List.all_cons, flat_dn, hJ] <;> rfl)
  generalize hBe : A ++ (AO.dn (Q.map qent) :: J) = B at hB fB
  obtain ⟨η2, B1, W, eW, sB, hW, hWn, o5', eη⟩ := powers (A := B) (η0 := [some (.ref 1), some (eL names), some (.ref A.length), o3, some (.ref B.length), o5, o6, none]) N hB fB rfl rfl rfl rfl
  have eη' : η2 = [some (.ref 1), some (eL names), some (.ref A.length), o3, some (.ref B.length), o5', o6, none] := eη
  subst eη'
  -- the powers are not changed any more
  have hfr : frzV 4 [some (.ref 1), some (eL names), some (.ref A.length), o3, some (.ref B.length), o5', o6, none] (B1 ++ [AO.dk (W.map kent)]) = .ok [some (.ref 1), some (eL names), some (.ref A.length), o3, some (.dk (W.map kent)), o5', o6, none] (B1 ++ [AO.gone]) := by
    have hl : B1.length = B.length := sB.len
    rw [← hl]
    have ea := at_end (A := B1) (AO.dk (W.map kent))
    have es := set_end (A := B1) (AO.dk (W.map kent)) AO.gone
    unfold frzV
    show (match (B1 ++ [AO.dk (W.map kent)])[B1.length]? with | some (.lst l) => _ | some (.dk l) => _ | some (.dn l) => _ | _ => _) = _
    rw [ea]
    show Out.ok _ ((B1 ++ [AO.dk (W.map kent)]).set B1.length .gone) = _
    rw [es] <;> rfl
  -- the monomial
  obtain ⟨us, eus, husl, husm⟩ := sorted_strs (A := B1 ++ [AO.gone]) (W.map (·.1))
  have hk1 : mLc [7] (Cr.iKeys (xVar 4)) (gName 7) tNone (xN (opN1 bStr) (aCons (xVar 7) aNil)) [some (.ref 1), some (eL names), some (.ref A.length), o3, some (.dk (W.map kent)), o5', o6, none] (B1 ++ [AO.gone]) = .ok (.lst ((W.map (·.1)).map D.str)) (B1 ++ [AO.gone]) := by
    apply mLcA D.str D.str (W.map (·.1))
    · have e : (W.map (·.1)).map D.str = (W.map kent).map fun p => Cr.kD p.1 := by
        rw [List.map_map, List.map_map] <;> rfl
      rw [e]
      exact iKeys_eq (xVar_eq rfl) rfl
    · rw [List.length_map]
      omega
    · intro t _
      exact ⟨_, gName_eq, xN1_eq (xVar_eq rfl) rfl⟩
  have hk2 : mLc [7] (iSeq (xN (opN1 bSorted) (aCons (mLc [7] (Cr.iKeys (xVar 4)) (gName 7) tNone (xN (opN1 bStr) (aCons (xVar 7) aNil))) aNil))) (gName 7) tNone (xTup (aCons (xVar 7) (aCons (x2 opIx (xVar 4) (xVar 7)) aNil))) [some (.ref 1), some (eL names), some (.ref A.length), o3, some (.dk (W.map kent)), o5', o6, none] (B1 ++ [AO.gone]) =
      .ok (.lst ((us.map fun t => (t, cf W t)).map ePr)) (B1 ++ [AO.gone]) := by
    have e : (us.map fun t => (t, cf W t)).map ePr = us.map fun t => ePr (t, cf W t) := by rw [List.map_map] <;> rfl
    rw [e]
    apply mLcA D.str (fun t => ePr (t, cf W t)) us
    · exact iSeq_lst (xN1_eq hk1 eus)
    · rw [husl, List.length_map]
      omega
    · intro t ht
      obtain ⟨u, hu, e⟩ := List.mem_map.mp (husm t ht)
      have hm : (t, u.2) ∈ W := by
        rw [← e]
        exact hu
      exact ⟨_, gName_eq, xTup_eq (aCons_eq (xVar_eq rfl) (a1_eq (x2_eq (xVar_eq rfl) (xVar_eq rfl) (opIx_dk hm)))) two_le⟩
  have s6 : sSet 6 (xN (opN1 bTuple) (aCons (mLc [7] (iSeq (xN (opN1 bSorted) (aCons (mLc [7] (Cr.iKeys (xVar 4)) (gName 7) tNone (xN (opN1 bStr) (aCons (xVar 7) aNil))) aNil))) (gName 7) tNone (xTup (aCons (xVar 7) (aCons (x2 opIx (xVar 4) (xVar 7)) aNil)))) aNil)) [some (.ref 1), some (eL names), some (.ref A.length), o3, some (.dk (W.map kent)), o5', o6, none] (B1 ++ [AO.gone]) =
      .ok ([some (.ref 1), some (eL names), some (.ref A.length), o3, some (.dk (W.map kent)), o5', some (eM (us.map fun t => (t, cf W t))), none], .nx) (B1 ++ [AO.gone]) := sSet_eq (xN1_eq hk2 rfl)
  -- its coefficient
  have hlt := hp.lt
  have hB1 : PA (B1 ++ [AO.gone]) := (sB.pa hB).app
  have fB1 : Flat (B1 ++ [AO.gone]) := flat_snoc (sB.flat fB) rfl
  obtain ⟨v, X, ev, _, _, sX⟩ := xDraw (η := [some (.ref 1), some (eL names), some (.ref A.length), o3, some (.dk (W.map kent)), o5', some (eM (us.map fun t => (t, cf W t))), none]) hB1 fB1 rfl (n := 3) (by omega) (by omega)
  obtain ⟨B2, rfl, sB2⟩ := sX.app (sB.pa hB).lt
  have sBB := sB.trans sB2
  rw [← hBe] at sBB
  obtain ⟨A', rfl, sA⟩ := sBB.app hlt
  have hAl := sA.len
  obtain ⟨Q', eQ, hQm, hQl⟩ := put_qent Q (us.map fun t => (t, cf W t)) (1 + v)
  refine ⟨A', Q', some (.dk (W.map kent)), o5', some (eM (us.map fun t => (t, cf W t))), mSeq_nx (sSet_eq xDk0_eq) (mSeq_nx eW (sFrz_eq hfr (mSeq_nx s6 (sPut_eq (x2_eq xInt_eq ev opAdd_int) (xVar_eq rfl) (xVar_eq rfl) ?_)))), sA, hQl, fun t ht => ?_⟩
  · have e1 : (A' ++ (AO.dn (Q.map qent) :: J)) ++ [AO.gone] = A' ++ (AO.dn (Q.map qent) :: (J ++ [AO.gone])) := by simp
    rw [e1, ← hAl]
    have ea := at_mid (A := A') (AO.dn (Q.map qent)) (J ++ [AO.gone])
    have es := set_mid (A := A') (AO.dn (Q.map qent)) (AO.dn (Q'.map qent)) (J ++ [AO.gone])
    unfold opSet
    simp only [ea]
    show ((tkOf (eM (us.map fun t => (t, cf W t)))).bind fun k => if (Q.map qent).length < sizeLine then some ((A' ++ (AO.dn (Q.map qent) :: (J ++ [AO.gone]))).set A'.length (.dn (put (Q.map qent) k (.int (1 + v))))) else none) = _
    rw [tkOf_mono, Option.bind_some, if_pos (by rw [List.length_map]; omega), eQ, es]
  · rcases hQm t ht with h | h
    · left
      rw [h]
      refine ⟨by rw [List.length_map, husl, List.length_map]; exact hW, fun p hp => ?_⟩
      obtain ⟨u, hu, rfl⟩ := List.mem_map.mp hp
      obtain ⟨w, hw, e⟩ := List.mem_map.mp (husm u hu)
      show u ∈ names
      rw [← e]
      exact hWn w hw
    · exact .inr h
/-- what a drawn polynomial is -/
structure Gd (names : List Str) (P : Poly) : Prop where
  n : P.length ≤ 6
  m : ∀ t ∈ P, t.1.length ≤ 3
  nm : ∀ t ∈ P, ∀ p ∈ t.1, p.1 ∈ names
theorem s_25 (N : Nm names) (hp : PA A) (hf : Flat A) : ∃ (P : Poly) (A' : Sto), M_25 [.ref 1, eL names] A = .ok (eP P) A' ∧ Stp A A' ∧ Gd names P := by
  have hsz := sizeLine_eq
  have hlt := hp.lt
  obtain ⟨v, A1, ev, v0, v6, st⟩ := xDraw (A := A ++ [AO.dn []]) (η := [some (.ref 1), some (eL names), some (.ref A.length), none, none, none, none, none]) hp.app (hf.app rfl) rfl (n := 6) (by omega) (by omega)
  obtain ⟨A2, rfl, s2⟩ := st.app hlt
  obtain ⟨w, ew, wm⟩ := pick_int (A := A2 ++ [AO.dn []]) (l := [0, 1, 2, 3, 4, 6]) v0 v6
  have w0 : 0 ≤ w ∧ w ≤ 6 := by
    simp only [List.mem_cons, List.not_mem_nil, or_false] at wm
    omega
  obtain ⟨η2, c, A3, h, hh⟩ := mFor_inv (mi := iRange (aCons (x2 opIx (xLst (aCons (xInt 0) (aCons (xInt 1) (aCons (xInt 2) (aCons (xInt 3) (aCons (xInt 4) (aCons (xInt 6) aNil))))))) (xCall 2 M_21 (aCons (xVar 0) (aCons (xInt 6) aNil)))) aNil)) (g := gName 3) (body := tmBody)
    (it := ⟨(List.range w.toNat).map fun (i : Nat) => D.int (i : Int), fun _ => True⟩) (η := [some (.ref 1), some (eL names), some (.ref A.length), none, none, none, none, none]) (A0 := A ++ [AO.dn []]) (A := A2 ++ [AO.dn []]) (fun (i : Nat) => D.int (i : Int)) (fun _ _ => False)
    (fun ys η X => ∃ (A' : Sto) (Q : Poly) (J : Sto) (o3 o4 o5 o6 : Option D), X = A' ++ (AO.dn (Q.map qent) :: J) ∧ η = [some (.ref 1), some (eL names), some (.ref A.length), o3, o4, o5, o6, none] ∧ Stp A A' ∧ Flat J ∧ Q.length + ys.length ≤ 6 ∧ ∀ t ∈ Q, t.1.length ≤ 3 ∧ ∀ p ∈ t.1, p.1 ∈ names)
    (List.range w.toNat) (iRange_eq (a1_eq (x2_eq (xLst_eq (aCons_eq xInt_eq (aCons_eq xInt_eq (aCons_eq xInt_eq (aCons_eq xInt_eq (aCons_eq xInt_eq (a1_eq xInt_eq)))))) (by show 6 ≤ sizeLine; omega)) ev ew)) (rgIt_eq w0.1 (by omega))) rfl
    ⟨A2, [], [], none, none, none, none, rfl, rfl, s2, rfl, by rw [List.length_nil, List.length_range]; omega, fun _ h => nomatch h⟩ (fun _ _ _ _ => trivial) fun i ys η X ⟨A', Q, J, o3, o4, o5, o6, eX, e, s, fJ, hn, hq⟩ => by
      subst eX
      subst e
      rw [List.length_cons] at hn
      obtain ⟨A4, Q', p4, p5, p6, et, s4, hl, hm⟩ := term (A := A') (o3 := some (.int (i : Int))) (o4 := o4) (o5 := o5) (o6 := o6) (Q := Q) (J := J) N (s.pa hp) (s.flat hf) s.len fJ (by omega)
      refine ⟨_, _, _, .nx, _, gName_eq, et, .inl ⟨rfl, A4, Q', J ++ [AO.gone], some (.int (i : Int)), p4, p5, p6, rfl, rfl, s.trans s4, flat_snoc fJ rfl, by omega, fun t ht => ?_⟩⟩
      rcases hm t ht with h | ⟨z, hz⟩
      · exact h
      · exact hq (t.1, z) hz
  rcases hh with ⟨rfl, A', Q, J, o3, o4, o5, o6, rfl, rfl, s, fJ, hn, hq⟩ | ⟨d, _, hd⟩
  · have hAl := s.len
    have hfr : frzV 2 [some (.ref 1), some (eL names), some (.ref A.length), o3, o4, o5, o6, none] (A' ++ (AO.dn (Q.map qent) :: J)) = .ok [some (.ref 1), some (eL names), some (.dn (Q.map qent)), o3, o4, o5, o6, none] (A' ++ (AO.gone :: J)) := by
      rw [← hAl]
      have ea := at_mid (A := A') (AO.dn (Q.map qent)) J
      have es := set_mid (A := A') (AO.dn (Q.map qent)) AO.gone J
      unfold frzV
      show (match (A' ++ (AO.dn (Q.map qent) :: J))[A'.length]? with | some (.lst l) => _ | some (.dk l) => _ | some (.dn l) => _ | _ => _) = _
      rw [ea]
      show Out.ok _ ((A' ++ (AO.dn (Q.map qent) :: J)).set A'.length .gone) = _
      rw [es] <;> rfl
    have fE : Flat (A' ++ (AO.gone :: J)) := (s.flat hf).app (by
      show (AO.gone :: J).all (rokO 0) = true
      rw [List.all_cons, fJ] <;> rfl)
    obtain ⟨P, eP', hPl, hPm⟩ := s_24 (Q := Q) (A := A' ++ (AO.gone :: J)) (by omega) fE
    refine ⟨P, A', callB_rt (η0 := [some (.ref 1), some (eL names), none, none, none, none, none, none]) rfl (mSeq_nx (sSet_eq xDn0_eq) (mSeq_nx h (sFrz_eq hfr (sRet_eq (xCall_eq (a1_eq (xVar_eq rfl)) rfl eP'))))) (by rw [← hAl]; exact take_mid _) (flat_eP P) (s.flat hf), s, ⟨by rw [List.length_nil] at hn; omega, fun t ht => ?_, fun t ht => ?_⟩⟩
    · obtain ⟨z, hz⟩ := hPm t ht
      exact (hq (t.1, z) hz).1
    · obtain ⟨z, hz⟩ := hPm t ht
      exact (hq (t.1, z) hz).2
  · exact hd.elim
end
end K41
end

section
set_option Elab.async false
set_option linter.all false
set_option maxRecDepth 100000
set_option maxHeartbeats 1000000
set_option pp.maxSteps 600
/-! Mathematics, part m: drawn tokens, another right paper. -/
namespace K41
open PySem PySem.Spec PyProof.Rows L2 Cr TL
theorem fm_congr {α β : Type} {f g : α → Option β} : ∀ {l : List α}, (∀ x ∈ l, f x = g x) → l.filterMap f = l.filterMap g
  | [], _ => rfl
  | x :: l, h => by
    rw [List.filterMap_cons, List.filterMap_cons, h x (List.mem_cons_self ..), fm_congr fun y hy => h y (List.mem_cons_of_mem _ hy)]
theorem range_all {α : Type} (l : List α) : (List.range l.length).filterMap (l[·]?) = l := by
  have h := pick_range l 0 l.length
  have e : (List.range l.length).map (0 + ·) = List.range l.length := by
    rw [show ((0 + ·) : Nat → Nat) = id from funext fun k => Nat.zero_add k, List.map_id]
  rw [e, List.drop_zero, List.take_length] at h
  exact h
theorem range_back {α : Type} (l : List α) : (List.range l.length).filterMap (fun k => l[l.length - 1 - k]?) = l.reverse := by
  have h := range_all l.reverse
  rw [List.length_reverse] at h
  rw [← h]
  refine fm_congr fun k hk => ?_
  rw [List.getElem?_reverse (List.mem_range.mp hk)]
theorem pickL_rev {α : Type} (l : List α) : pickL l none none (some (-1)) = l.reverse := by
  unfold pickL
  rw [PySem.W.krv_bounds]
  show (sliceRange ((l.length : Int) - 1) (-1) (-1)).filterMap (l[·]?) = _
  rw [PySem.W.krv_sliceRange, List.filterMap_map]
  exact range_back l
theorem pickL_back {α : Type} (l : List α) : pickL l none (some 0) (some (-1)) = l.tail.reverse := by
  unfold pickL
  cases l with
  | nil => rfl
  | cons a m =>
    have hb : sliceBounds none (some 0) (some (-1)) (a :: m).length = ((m.length : Int), 0, -1) := by
      show ((((m.length + 1 : Nat) : Int) - 1), max (-1) (min (0 : Int) (((m.length + 1 : Nat) : Int) - 1)), (-1 : Int)) = _
      have h1 : (((m.length + 1 : Nat) : Int) - 1) = m.length := by omega
      rw [h1]
      have h2 : max (-1) (min (0 : Int) (m.length : Int)) = 0 := by omega
      rw [h2]
    rw [hb]
    show (sliceRange (m.length : Int) 0 (-1)).filterMap ((a :: m)[·]?) = m.reverse
    have hr : sliceRange (m.length : Int) 0 (-1) = (List.range m.length).map fun k => m.length - k := by
      unfold sliceRange
      have h1 : ¬ ((-1 : Int) > 0) := by decide
      by_cases h : (m.length : Int) > 0
      · have e : ((m.length : Int) - 0 - -1 - 1) / (- -1) = (m.length : Int) := by
          rw [show (- -1 : Int) = 1 by decide, Int.ediv_one]
          omega
        simp only [h1, if_false, h, if_true, e, Int.toNat_natCast]
        apply List.map_congr_left
        intro k hk
        have := List.mem_range.mp hk
        omega
      · have e : m.length = 0 := by omega
        simp [h1, e]
    rw [hr, List.filterMap_map, ← range_back m]
    refine fm_congr fun k hk => ?_
    have hk' := List.mem_range.mp hk
    show (a :: m)[m.length - k]? = _
    have e : m.length - k = (m.length - 1 - k) + 1 := by omega
    rw [e, List.getElem?_cons_succ]
theorem pickL_map {α β : Type} (f : α → β) (l : List α) (lo hi st : Option Int) : pickL (l.map f) lo hi st = (pickL l lo hi st).map f := by
  unfold pickL
  rw [List.length_map, List.map_filterMap]
  refine fm_congr fun k _ => ?_
  rw [List.getElem?_map]
section
variable {A : Sto} {names : List Str} {P : Poly} {ts : List Str} {b : Bool}
theorem opSl_strs {lo hi st : Option Int} {l m : List Str} (h0 : st ≠ some 0) (e : pickL l lo hi st = m) (hl : m.length ≤ sizeLine) : opSl lo hi st A (eL l) = some (eL m) := by
  have e2 : pickL (l.map D.str) lo hi st = m.map D.str := by rw [pickL_map, e]
  rw [opSl_lst (x := eL l) rfl (fun _ h => by cases h) h0 (by rw [e2, List.length_map]; exact hl), e2] <;> rfl
/-- a comprehension whose test draws -/
theorem compL_draws {g : D → En → M En} {t : TtM} {me : ExM} {η : En} : ∀ (xs acc : List Str) (A : Sto), PA A → Flat A → acc.length + xs.length ≤ 1000 →
    (∀ x ∈ xs, ∀ A, PA A → Flat A → ∃ η1 z A', g (.str x) η A = .ok η1 A ∧ t η1 A = .ok z A' ∧ Stp A A' ∧ ∀ A', me η1 A' = .ok (.str x) A') →
    ∃ ys A', compL (fun _ => True) g t me η (xs.map D.str) (acc.map D.str) A = .ok ((acc ++ ys).map D.str) A' ∧ Stp A A' ∧ ys.length ≤ xs.length ∧ ∀ y ∈ ys, y ∈ xs
  | [], acc, A, hp, hf, _, _ => by
    refine ⟨[], A, ?_, hp.refl, by simp, fun _ h => nomatch h⟩
    rw [List.map_nil, compL]
    refine (if_pos trivial).trans ?_
    rw [List.append_nil]
  | x :: xs, acc, A, hp, hf, hl, h => by
    have hsz := sizeLine_eq
    obtain ⟨η1, z, A1, h1, h2, s, h3⟩ := h x (List.mem_cons_self ..) A hp hf
    rw [List.length_cons] at hl
    have go := fun acc' (hl' : acc'.length + xs.length ≤ 1000) => compL_draws (me := me) xs acc' A1 (s.pa hp) (s.flat hf) hl' fun y hy => h y (List.mem_cons_of_mem _ hy)
    cases z with
    | false =>
      obtain ⟨ys, A2, e, s2, hn, hm⟩ := go acc (by omega)
      refine ⟨ys, A2, ?_, s.trans s2, by rw [List.length_cons]; omega, fun y hy => List.mem_cons_of_mem _ (hm y hy)⟩
      rw [List.map_cons, compL]
      refine (if_pos trivial).trans ?_
      simp only [M.bind_def, M.calm, h1, h2, Bool.false_eq_true, if_false]
      exact e
    | true =>
      obtain ⟨ys, A2, e, s2, hn, hm⟩ := go (acc ++ [x]) (by rw [List.length_append]; simp; omega)
      refine ⟨x :: ys, A2, ?_, s.trans s2, by rw [List.length_cons, List.length_cons]; omega, fun y hy => ?_⟩
      · rw [List.map_cons, compL]
        refine (if_pos trivial).trans ?_
        simp only [M.bind_def, M.calm, h1, h2, if_true, h3]
        rw [if_pos (by rw [List.length_map]; omega)]
        have e1 : acc.map D.str ++ [D.str x] = (acc ++ [x]).map D.str := by rw [List.map_append] <;> rfl
        rw [e1, e, List.append_assoc] <;> rfl
      · rcases List.mem_cons.mp hy with rfl | hy
        · exact List.mem_cons_self ..
        · exact List.mem_cons_of_mem _ (hm y hy)
theorem Gd.small (G : Gd names P) (N : Nm names) (hts : ts.length ≤ 10) : Small P ts := ⟨G.n, fun t ht => by have := G.m t ht; omega, fun t ht p hp => N.tl _ (G.nm t ht p hp), hts⟩
theorem len_q77 : ("q77" : Str).length = 3 := by decide +kernel
theorem tok2 {v : Int} (h0 : 0 ≤ v) (h1 : v < 2) (l : List Str) : ∃ z, opIx A (.lst [eL l, eU l]) (.int v) = some (tokD z l) := by
  by_cases h : v = 0
  · subst h
    exact ⟨false, opIx_0 (l := [eU l]) rfl⟩
  · have e : v = 1 := by omega
    subst e
    exact ⟨true, opIx_nat (j := 1) (x := .lst [eL l, eU l]) rfl rfl rfl⟩
theorem bTuple_eL (l : List Str) : bTuple A (eL l) = some (eU l) := rfl
theorem s_32 (G : Gd names P) (N : Nm names) (hn5 : names.length ≤ 5) (hp : PA A) (hf : Flat A) : ∃ (ts : List Str) (z : Bool) (A' : Sto), M_32 [.ref 1, eP P, eL names] A = .ok (tokD z ts) A' ∧ Stp A A' ∧ ts.length ≤ 10 := by
  have hsz := sizeLine_eq
  have S0 : Small P ([] : List Str) := G.small N (by simp)
  -- the way
  obtain ⟨w, A1, e1, w0, w6, s1⟩ := xDraw (η := [some (.ref 1), some (eP P), some (eL names), none, none, none]) hp hf rfl (n := 6) (by omega) (by omega)
  have p1 := s1.pa hp
  have f1 := s1.flat hf
  -- some names
  obtain ⟨ys, A2, e2, s2, hys, hym⟩ := compL_draws (g := gName 5) (t := t2 opEq (xCall 2 M_21 (aCons (xVar 0) (aCons (xInt 2) aNil))) (xInt 0)) (me := xVar 5) (η := [some (.ref 1), some (eP P), some (eL names), some (.int w), none, none]) names [] A1 p1 f1 (by rw [List.length_nil]; omega) fun x hx B hB fB => by
    obtain ⟨v, B1, e, _, _, s⟩ := xDraw (η := [some (.ref 1), some (eP P), some (eL names), some (.int w), none, some (.str x)]) hB fB rfl (n := 2) (by omega) (by omega)
    exact ⟨[some (.ref 1), some (eP P), some (eL names), some (.int w), none, some (.str x)], decide (v = 0), B1, gName_eq, t2_eq e xInt_eq opEq_int, s, fun _ => xVar_eq rfl⟩
  have p2 := s2.pa p1
  have f2 := s2.flat f1
  have st1 : sSet 3 (xCall 2 M_21 (aCons (xVar 0) (aCons (xInt 6) aNil))) [some (.ref 1), some (eP P), some (eL names), none, none, none] A = .ok ([some (.ref 1), some (eP P), some (eL names), some (.int w), none, none], .nx) A1 := sSet_eq e1
  have st2 : sSet 4 (mLc [5] (iSeq (xVar 2)) (gName 5) (t2 opEq (xCall 2 M_21 (aCons (xVar 0) (aCons (xInt 2) aNil))) (xInt 0)) (xVar 5)) [some (.ref 1), some (eP P), some (eL names), some (.int w), none, none] A1 = .ok ([some (.ref 1), some (eP P), some (eL names), some (.int w), some (eL ys), none], .nx) A2 := by
    refine sSet_eq ?_
    unfold mLc
    refine (bind_ok (iSeq_lst (l := names.map D.str) (xVar_eq rfl))).trans ((bind_ok e2).trans rfl)
  -- all, none
  have q0 : ∀ (k : Int) (l : List Str) (X : Sto), t2 opEq (xVar 3) (xInt k) [some (.ref 1), some (eP P), some (eL names), some (.int w), some (eL l), none] X = .ok (decide (w = k)) X := fun k l X => t2_eq (xVar_eq rfl) xInt_eq opEq_int
  have stA : ∃ l : List Str, l.length ≤ 5 ∧ sIf (t2 opEq (xVar 3) (xInt 0)) (sSet 4 (xN (opN1 bList) (aCons (xVar 2) aNil))) mNext [some (.ref 1), some (eP P), some (eL names), some (.int w), some (eL ys), none] A2 = .ok ([some (.ref 1), some (eP P), some (eL names), some (.int w), some (eL l), none], .nx) A2 := by
    by_cases h : w = 0
    · exact ⟨names, hn5, sIf_t (by rw [q0, decide_eq_true h]) (sSet_eq (xN1_eq (xVar_eq rfl) rfl))⟩
    · exact ⟨ys, by omega, sIf_f (by rw [q0, decide_eq_false h]) mNext_eq⟩
  obtain ⟨l3, hl3, stA⟩ := stA
  have stB : ∃ l : List Str, l.length ≤ 5 ∧ sIf (t2 opEq (xVar 3) (xInt 1)) (sSet 4 (xLst aNil)) mNext [some (.ref 1), some (eP P), some (eL names), some (.int w), some (eL l3), none] A2 = .ok ([some (.ref 1), some (eP P), some (eL names), some (.int w), some (eL l), none], .nx) A2 := by
    by_cases h : w = 1
    · exact ⟨[], by simp, sIf_t (by rw [q0, decide_eq_true h]) (sSet_eq (xLst_eq aNil_eq (by simp)))⟩
    · exact ⟨l3, hl3, sIf_f (by rw [q0, decide_eq_false h]) mNext_eq⟩
  obtain ⟨l4, hl4, stB⟩ := stB
  -- those of a monomial
  have eP0 : ∀ X : Sto, bLen X (eP P) = some (.int (P.length : Int)) := fun X => by
    show some (D.int ((P.map eT).length : Int)) = _
    rw [List.length_map]
  have hgt : Cr.tAnd (t2 opGt (xVar 3) (xInt 3)) (t2 opGt (xN (opN1 bLen) (aCons (xVar 1) aNil)) (xInt 0)) [some (.ref 1), some (eP P), some (eL names), some (.int w), some (eL l4), none] A2 = .ok (decide (3 < w) && decide (0 < (P.length : Int))) A2 :=
    tAnd_eq (t2_eq (xVar_eq rfl) xInt_eq rfl) fun _ => t2_eq (xN1_eq (xVar_eq rfl) (eP0 _)) xInt_eq rfl
  have stC : ∃ (l : List Str) (X : Sto), l.length ≤ 10 ∧ Stp A2 X ∧ sIf (Cr.tAnd (t2 opGt (xVar 3) (xInt 3)) (t2 opGt (xN (opN1 bLen) (aCons (xVar 1) aNil)) (xInt 0))) (mSeq (sSet 4 (x2 opAdd (xCall 2 M_22 (aCons (xVar 0) (aCons (xCall 1 M_26 (aCons (xVar 1) aNil)) aNil))) (x2 opMul (xLst (aCons (xStr "q77") aNil)) (xN (opN1 bInt) (aCons (x2 opEq (xCall 2 M_21 (aCons (xVar 0) (aCons (xInt 2) aNil))) (xInt 0)) aNil))))) (sIf (Cr.tAnd (t2 opEq (xVar 3) (xInt 5)) (t2 opGt (xN (opN1 bLen) (aCons (xVar 4) aNil)) (xInt 1))) (sSet 4 (x1 (opSl (some 1) none none) (xVar 4))) mNext)) mNext
      [some (.ref 1), some (eP P), some (eL names), some (.int w), some (eL l4), none] A2 = .ok ([some (.ref 1), some (eP P), some (eL names), some (.int w), some (eL l), none], .nx) X := by
    cases q : decide (3 < w) && decide (0 < (P.length : Int)) with
    | false =>
      rw [q] at hgt
      exact ⟨l4, A2, by omega, p2.refl, sIf_f hgt mNext_eq⟩
    | true =>
      rw [q] at hgt
      rw [Bool.and_eq_true, decide_eq_true_eq, decide_eq_true_eq] at q
      have hne : sets P ≠ [] := fun z => by
        have := congrArg List.length z
        unfold sets at this
        rw [List.length_map, List.length_nil] at this
        omega
      obtain ⟨r, X1, er, hr, sr⟩ := picked_rows p2 f2 hne (by have := S0.n'; omega)
      have hrl : r.length ≤ 3 := by
        obtain ⟨t, ht, rfl⟩ := List.mem_map.mp hr
        rw [toks, List.length_map]
        exact G.m t ht
      have p3 := sr.pa p2
      have f3 := sr.flat f2
      obtain ⟨v, X2, ev, _, _, sv⟩ := xDraw (η := [some (.ref 1), some (eP P), some (eL names), some (.int w), some (eL l4), none]) p3 f3 rfl (n := 2) (by omega) (by omega)
      have hmul : ∃ m : List Str, m.length ≤ 1 ∧ opMul X2 (eL ["q77"]) (.int (if decide (v = 0) then 1 else 0)) = some (eL m) := by
        by_cases h : v = 0
        · refine ⟨["q77"], by simp, ?_⟩
          rw [decide_eq_true h]
          show (if -(2 ^ 63) ≤ (1 : Int) ∧ (1 : Int) < 2 ^ 63 ∧ ([D.str "q77"] : List D).length * (1 : Int).toNat ≤ sizeLine then some (D.lst (List.replicate (1 : Int).toNat [D.str "q77"]).flatten) else none) = _
          rw [if_pos (by decide)] <;> rfl
        · refine ⟨[], by simp, ?_⟩
          rw [decide_eq_false h]
          show (if -(2 ^ 63) ≤ (0 : Int) ∧ (0 : Int) < 2 ^ 63 ∧ ([D.str "q77"] : List D).length * (0 : Int).toNat ≤ sizeLine then some (D.lst (List.replicate (0 : Int).toNat [D.str "q77"]).flatten) else none) = _
          rw [if_pos (by decide)] <;> rfl
      obtain ⟨m, hm, em⟩ := hmul
      have hadd : opAdd X2 (eL r) (eL m) = some (eL (r ++ m)) := by
        have := opAdd_lst (A := X2) (a := r.map .str) (b := m.map .str) (by rw [List.length_map, List.length_map]; omega)
        rw [← List.map_append] at this
        exact this
      have hset : sSet 4 (x2 opAdd (xCall 2 M_22 (aCons (xVar 0) (aCons (xCall 1 M_26 (aCons (xVar 1) aNil)) aNil))) (x2 opMul (xLst (aCons (xStr "q77") aNil)) (xN (opN1 bInt) (aCons (x2 opEq (xCall 2 M_21 (aCons (xVar 0) (aCons (xInt 2) aNil))) (xInt 0)) aNil)))) [some (.ref 1), some (eP P), some (eL names), some (.int w), some (eL l4), none] A2 =
          .ok ([some (.ref 1), some (eP P), some (eL names), some (.int w), some (eL (r ++ m)), none], .nx) X2 :=
        sSet_eq (x2_eq (xCall_eq (aCons_eq (xVar_eq rfl) (a1_eq (xCall_eq (a1_eq (xVar_eq rfl)) rfl (s26 S0 f2)))) rfl er) (x2_eq (xLst_eq (a1_eq xStr_eq) (by decide)) (xN1_eq (x2_eq ev xInt_eq opEq_int) rfl) em) hadd)
      have hrm : (r ++ m).length ≤ 4 := by rw [List.length_append]; omega
      have h5 : Cr.tAnd (t2 opEq (xVar 3) (xInt 5)) (t2 opGt (xN (opN1 bLen) (aCons (xVar 4) aNil)) (xInt 1)) [some (.ref 1), some (eP P), some (eL names), some (.int w), some (eL (r ++ m)), none] X2 = .ok (decide (w = 5) && decide (1 < ((r ++ m).length : Int))) X2 :=
        tAnd_eq (t2_eq (xVar_eq rfl) xInt_eq opEq_int) fun _ => t2_eq (xN1_eq (xVar_eq rfl) (bLen_eL _)) xInt_eq rfl
      cases q5 : decide (w = 5) && decide (1 < ((r ++ m).length : Int)) with
      | false =>
        rw [q5] at h5
        exact ⟨r ++ m, X2, by omega, sr.trans sv, sIf_t hgt (mSeq_nx hset (sIf_f h5 mNext_eq))⟩
      | true =>
        rw [q5] at h5
        exact ⟨(r ++ m).tail, X2, by rw [List.length_tail]; omega, sr.trans sv, sIf_t hgt (mSeq_nx hset (sIf_t h5 (sSet_eq (x1_eq (xVar_eq rfl) (opSl_tail (by omega))))))⟩
  obtain ⟨l5, A3, hl5, s3, stC⟩ := stC
  have p3 := s3.pa p2
  have f3 := s3.flat f2
  -- turned round
  obtain ⟨v, A4, ev, _, _, s4⟩ := xDraw (η := [some (.ref 1), some (eP P), some (eL names), some (.int w), some (eL l5), none]) p3 f3 rfl (n := 2) (by omega) (by omega)
  have p4 := s4.pa p3
  have f4 := s4.flat f3
  have hv : t2 opEq (xCall 2 M_21 (aCons (xVar 0) (aCons (xInt 2) aNil))) (xInt 0) [some (.ref 1), some (eP P), some (eL names), some (.int w), some (eL l5), none] A3 = .ok (decide (v = 0)) A4 := t2_eq ev xInt_eq opEq_int
  have stD : ∃ l : List Str, l.length ≤ 10 ∧ sIf (t2 opEq (xCall 2 M_21 (aCons (xVar 0) (aCons (xInt 2) aNil))) (xInt 0)) (sSet 4 (x1 (opSl none none (some (-1))) (xVar 4))) mNext [some (.ref 1), some (eP P), some (eL names), some (.int w), some (eL l5), none] A3 = .ok ([some (.ref 1), some (eP P), some (eL names), some (.int w), some (eL l), none], .nx) A4 := by
    cases q : decide (v = 0) with
    | true =>
      rw [q] at hv
      exact ⟨l5.reverse, by rw [List.length_reverse]; exact hl5, sIf_t hv (sSet_eq (x1_eq (xVar_eq rfl) (opSl_strs (by simp) (pickL_rev l5) (by rw [List.length_reverse]; omega))))⟩
    | false =>
      rw [q] at hv
      exact ⟨l5, hl5, sIf_f hv mNext_eq⟩
  obtain ⟨l6, hl6, stD⟩ := stD
  obtain ⟨u, A5, eu, u0, u1, s5⟩ := xDraw (η := [some (.ref 1), some (eP P), some (eL names), some (.int w), some (eL l6), none]) p4 f4 rfl (n := 2) (by omega) (by omega)
  obtain ⟨z, ez⟩ := tok2 (A := A5) u0 u1 l6
  have sAll := (((s1.trans s2).trans s3).trans s4).trans s5
  exact ⟨l6, z, A5, callB_rt (η0 := [some (.ref 1), some (eP P), some (eL names), none, none, none]) rfl (mSeq_nx st1 (mSeq_nx st2 (mSeq_nx stA (mSeq_nx stB (mSeq_nx stC (mSeq_nx stD (sRet_eq (x2_eq (xLst_eq (aCons_eq (xVar_eq rfl) (a1_eq (xN1_eq (xVar_eq rfl) (bTuple_eL l6)))) two_le) eu ez)))))))) sAll.take (flat_tokD z l6) (sAll.flat hf), sAll, hl6⟩
end
end K41
end

section
set_option Elab.async false
set_option linter.all false
set_option maxRecDepth 100000
set_option maxHeartbeats 1000000
set_option pp.maxSteps 600
/-! Mathematics, part n: another right paper. -/
namespace K41
open PySem PySem.Spec PyProof.Rows L2 Cr TL
section
variable {A : Sto} {names : List Str} {P : Poly} {ts : List Str} {b : Bool}
theorem s_33 (S : Small P ts) (hp : PA A) (hf : Flat A) : ∃ (x : Str) (A' : Sto), M_33 [.ref 1, eP P, tokD b ts] A = .ok (.str x) A' ∧ Stp A A' ∧ x.length ≤ 200 := by
  have hsz := sizeLine_eq
  have R := S.rows
  have N := S.n'
  have hlt := hp.lt
  have hL : mLc [5] (iSeq (xCall 1 M_26 (aCons (xVar 1) aNil))) (gName 5) (tVal (xCall 2 M_27 (aCons (xVar 5) (aCons (xVar 2) aNil)))) (xVar 5) [some (.ref 1), some (eP P), some (tokD b ts), none, none, none, none, none] A = .ok (.lst (((sets P).filter fun r => within r ts).map eL)) A := by
    apply mLcF eL (fun r => within r ts) eL (sets P)
    · exact iSeq_lst (xCall_eq (a1_eq (xVar_eq rfl)) rfl (s26 S hf))
    · omega
    · intro r hr
      refine ⟨_, gName_eq, ?_, fun _ => xVar_eq rfl⟩
      exact tVal_eq (xCall_eq (aCons_eq (xVar_eq rfl) (a1_eq (xVar_eq rfl))) rfl (s_27 (by have := (R r hr).1; omega) hf))
  generalize hG : (sets P).filter (fun r => within r ts) = G at hL
  have hGm : ∀ r ∈ G, r ∈ sets P := fun r hr => by
    rw [← hG] at hr
    exact (List.mem_filter.mp hr).1
  have hGl : G.length ≤ 6 := by
    rw [← hG]
    exact Nat.le_trans (List.length_filter_le _ _) N
  have hgt : t2 opGt (xN (opN1 bLen) (aCons (xVar 3) aNil)) (xInt 0) [some (.ref 1), some (eP P), some (tokD b ts), some (.lst (G.map eL)), none, none, none, none] A = .ok (decide (0 < ((G.map eL).length : Int))) A := t2_eq (xN1_eq (xVar_eq rfl) bLen_lst) xInt_eq rfl
  by_cases hg : G = []
  · -- not there
    rw [decide_eq_false (by rw [hg]; simp)] at hgt
    have hno : ∀ r ∈ sets P, within r ts = false := fun r hr => by
      cases q : within r ts with
      | false => rfl
      | true =>
        have : r ∈ G := by
          rw [← hG]
          exact List.mem_filter.mpr ⟨hr, q⟩
        rw [hg] at this
        cases this
    have hp1 : PA (A ++ [AO.lst [D.str "not"]]) := hp.app
    obtain ⟨η2, c, A2, h, h2⟩ := mFor_inv (mi := iSeq (xCall 1 M_26 (aCons (xVar 1) aNil))) (g := gName 5) (body := sExp (xM "list" mAppend (xVar 4) (aCons (x2 opAdd (xStr "lacks ") (xCall 2 M_22 (aCons (xVar 0) (aCons (mLc [7] (iSeq (xVar 5)) (gName 7) (t2 opNotIn (xVar 7) (xVar 2)) (xVar 7)) aNil)))) aNil)))
      (η := [some (.ref 1), some (eP P), some (tokD b ts), some (.lst (G.map eL)), some (.ref A.length), none, none, none]) (A0 := A ++ [AO.lst [D.str "not"]]) (A := A ++ [AO.lst [D.str "not"]]) eL (fun _ _ => False)
      (fun ys η X => ∃ (A' : Sto) (acc : List Str) (o5 : Option D), X = A' ++ [AO.lst (acc.map D.str)] ∧ η = [some (.ref 1), some (eP P), some (tokD b ts), some (.lst (G.map eL)), some (.ref A.length), o5, none, none] ∧ Stp A A' ∧ acc.length + ys.length ≤ 7 ∧ (∀ x ∈ acc, x.length ≤ 16) ∧ ∀ r ∈ ys, r ∈ sets P)
      (sets P) (iSeq_lst (xCall_eq (a1_eq (xVar_eq rfl)) rfl (s26 S (flat_snoc hf (flat_strs ["not"]))))) rfl ⟨A, ["not"], none, rfl, rfl, hp.refl, by simp; omega, (fun x hx => by rw [List.mem_singleton.mp hx, len_not]; omega), fun _ h => h⟩ (fun _ _ _ _ => trivial) fun r ys η X ⟨A', acc, o5, eX, e, s, hn, hacc, hm⟩ => by
        subst eX
        subst e
        rw [List.length_cons] at hn
        have hr := hm r (List.mem_cons_self ..)
        obtain ⟨l, el⟩ := lk_mem (hno r hr)
        have hc : mLc [7] (iSeq (xVar 5)) (gName 7) (t2 opNotIn (xVar 7) (xVar 2)) (xVar 7) [some (.ref 1), some (eP P), some (tokD b ts), some (.lst (G.map eL)), some (.ref A.length), some (eL r), none, none] (A' ++ [AO.lst (acc.map D.str)]) = .ok (eL (r.filter fun t => !decide (t ∈ ts))) (A' ++ [AO.lst (acc.map D.str)]) := by
          apply mLcF D.str (fun t => !decide (t ∈ ts)) D.str r
          · exact iSeq_lst (xVar_eq rfl)
          · have := (R r hr).1
            omega
          · intro t _
            exact ⟨_, gName_eq, t2_eq (xVar_eq rfl) (xVar_eq rfl) (opNotIn_tok b t ts), fun _ => xVar_eq rfl⟩
        have hfl : (r.filter fun t => !decide (t ∈ ts)).length ≤ 5 := Nat.le_trans (List.length_filter_le _ _) (R r hr).1
        have p0 : PA (A' ++ [AO.lst (acc.map D.str)]) := (s.pa hp).app
        have f0 : Flat (A' ++ [AO.lst (acc.map D.str)]) := flat_snoc (s.flat hf) (flat_strs acc)
        obtain ⟨t, X1, et, tm, s1⟩ := picked_strs p0 f0 (l := r.filter fun t => !decide (t ∈ ts)) (by rw [el]; simp) (by omega)
        obtain ⟨A4, rfl, s4⟩ := s1.app (s.pa hp).lt
        have htl : t.length ≤ 10 := (R r hr).2 t (List.mem_filter.mp tm).1
        have hAl : A'.length = A.length := s.len
        have hAl4 : A4.length = A.length := by rw [s4.len, hAl]
        refine ⟨_, _, [some (.ref 1), some (eP P), some (tokD b ts), some (.lst (G.map eL)), some (.ref A.length), some (eL r), none, none], .nx, A4 ++ [AO.lst ((acc ++ [lackL t]).map D.str)], gName_eq, ?_, .inl ⟨rfl, A4, acc ++ [lackL t], some (eL r), rfl, rfl, s.trans s4, by rw [List.length_append]; simp; omega, fun x hx => ?_, fun x hx => hm x (List.mem_cons_of_mem _ hx)⟩⟩
        · have ea : A4 ++ [AO.lst ((acc ++ [lackL t]).map D.str)] = (A4 ++ [AO.lst (acc.map D.str)]).set A4.length (.lst (acc.map D.str ++ [D.str (lackL t)])) := by
            rw [set_end, List.map_append] <;> rfl
          rw [ea, hAl4]
          refine sExp_eq (app_eq (xVar_eq rfl) (by rw [← hAl]; exact at_end _) (x2_eq xStr_eq (xCall_eq (aCons_eq (xVar_eq rfl) (a1_eq hc)) rfl et) (opAdd_str ?_)) (by rw [← hAl4]; exact at_end _) ?_)
          · rw [len_lacks]
            omega
          · rw [List.length_map]
            omega
        · rcases List.mem_append.mp hx with hx | hx
          · exact hacc x hx
          · rw [List.mem_singleton.mp hx, len_lackL]
            omega
    rcases h2 with ⟨rfl, A', acc, o5, rfl, rfl, s, hn, hacc, _⟩ | ⟨d, _, hd⟩
    · rw [List.length_nil] at hn
      have hAl : A'.length = A.length := s.len
      have hc : mLc [6] (iSeq (xVar 4)) (gName 6) tNone (x2 opAdd (xVar 6) (xStr "\n")) [some (.ref 1), some (eP P), some (tokD b ts), some (.lst (G.map eL)), some (.ref A.length), o5, none, none] (A' ++ [AO.lst (acc.map D.str)]) = .ok (.lst ((acc.map fun x => x ++ ("\n" : Str)).map D.str)) (A' ++ [AO.lst (acc.map D.str)]) := by
        have e : (acc.map fun x => x ++ ("\n" : Str)).map D.str = acc.map fun x => D.str (x ++ ("\n" : Str)) := by rw [List.map_map] <;> rfl
        rw [e]
        apply mLcR D.str (fun x => D.str (x ++ ("\n" : Str))) acc
        · exact xVar_eq rfl
        · rw [← hAl]
          exact at_end _
        · omega
        · intro x hx
          refine ⟨_, gName_eq, x2_eq (xVar_eq rfl) xStr_eq (opAdd_str ?_)⟩
          rw [len_nl]
          have := hacc x hx
          omega
      have hlen : ∀ t ∈ acc.map fun x => x ++ ("\n" : Str), t.length ≤ 17 := fun t ht => by
        obtain ⟨u, hu, rfl⟩ := List.mem_map.mp ht
        rw [len_app, len_nl]
        have := hacc u hu
        omega
      have hj : mJoin (A' ++ [AO.lst (acc.map D.str)]) (.str "") [.lst ((acc.map fun x => x ++ ("\n" : Str)).map D.str)] = some (.str (cat (acc.map fun x => x ++ ("\n" : Str))), A' ++ [AO.lst (acc.map D.str)]) :=
        join_small (l := acc.map fun x => x ++ ("\n" : Str)) (k := 17) rfl (by rw [List.length_map]; omega) hlen (by rw [len_e]; omega)
      refine ⟨_, A', callB_rt (η0 := [some (.ref 1), some (eP P), some (tokD b ts), none, none, none, none, none]) rfl (mSeq_nx (sSet_eq hL) (mSeq_nx (sIf_f hgt mNext_eq) (mSeq_nx (sSet_eq (xLstR_eq (a1_eq xStr_eq) (by decide))) (mSeq_nx h (sRet_eq (xM_eq xStr_eq rfl (a1_eq hc) hj)))))) (by rw [← hAl]; exact take_end _) rfl (s.flat hf), s, ?_⟩
      have h1 := len_cat_le hlen
      rw [List.length_map] at h1
      omega
    · exact hd.elim
  · -- there
    have hg0 : 0 < G.length := List.length_pos_iff.mpr hg
    rw [decide_eq_true (by rw [List.length_map]; omega)] at hgt
    obtain ⟨r, A', er, hr, s⟩ := picked_rows hp hf hg (by omega)
    have r1 := R r (hGm r hr)
    have hw := len_whyL r1.2
    refine ⟨Txt.join " " ("why" :: r) ++ ("\n" : Str), A', callB_rt (η0 := [some (.ref 1), some (eP P), some (tokD b ts), none, none, none, none, none]) rfl (mSeq_nx (sSet_eq hL) (mSeq_rt (sIf_t hgt (sRet_eq (x2_eq (xM_eq xStr_eq rfl (a1_eq (x2_eq (xLst_eq (a1_eq xStr_eq) (by decide)) (xCall_eq (aCons_eq (xVar_eq rfl) (a1_eq (xVar_eq rfl))) rfl er) (opAdd_lst (a := [.str "why"]) (b := r.map .str) (by
      rw [List.length_map]
      show 1 + r.length ≤ _
      omega)))) (join_small (l := ("why" : Str) :: r) (k := 10) rfl (by rw [List.length_cons]; omega) (fun t ht => by
        rcases List.mem_cons.mp ht with rfl | ht
        · rw [len_why]; omega
        · exact r1.2 t ht) (by rw [len_sp]; omega))) xStr_eq (opAdd_str (by
      rw [← whyL_join, len_nl]
      omega))))))) s.take rfl (s.flat hf), s, ?_⟩
    rw [← whyL_join, len_app, len_nl]
    omega
end
end K41
end

section
set_option Elab.async false
set_option linter.all false
set_option maxRecDepth 100000
set_option maxHeartbeats 1000000
set_option pp.maxSteps 600
/-! Mathematics, part o: spoilt papers. -/
namespace K41
open PySem PySem.Spec PyProof.Rows L2 Cr TL
/-- how long the lines are, with their line feeds -/
def wt (l : List Str) : Nat := (l.map fun x => x.length + 1).sum
theorem wt_cons (x : Str) (l : List Str) : wt (x :: l) = x.length + 1 + wt l := by
  unfold wt
  rw [List.map_cons, List.sum_cons]
theorem wt_app (l m : List Str) : wt (l ++ m) = wt l + wt m := by
  unfold wt
  rw [List.map_append, List.sum_append]
theorem wt_eq (l : List Str) : wt l = (l.map (·.length)).sum + l.length := by
  induction l with
  | nil => rfl
  | cons x l ih =>
    rw [wt_cons, ih, List.map_cons, List.sum_cons, List.length_cons]
    omega
theorem wt_mem {x : Str} : ∀ {l : List Str}, x ∈ l → x.length + 1 ≤ wt l
  | [], h => nomatch h
  | y :: l, h => by
    rw [wt_cons]
    rcases List.mem_cons.mp h with rfl | h
    · omega
    · have := wt_mem h
      omega
theorem wt_len (l : List Str) : l.length ≤ wt l := by
  rw [wt_eq]
  omega
theorem wt_set : ∀ (l : List Str) (i : Nat) (x : Str), wt (l.set i x) ≤ wt l + (x.length + 1)
  | [], _, _ => by simp [wt]
  | y :: l, 0, x => by
    rw [List.set_cons_zero, wt_cons, wt_cons]
    omega
  | y :: l, i + 1, x => by
    rw [List.set_cons_succ, wt_cons, wt_cons]
    have := wt_set l i x
    omega
theorem wt_erase : ∀ (l : List Str) (i : Nat), wt (l.eraseIdx i) ≤ wt l
  | [], _ => by simp [wt]
  | y :: l, 0 => by
    rw [List.eraseIdx_cons_zero, wt_cons]
    omega
  | y :: l, i + 1 => by
    rw [List.eraseIdx_cons_succ, wt_cons, wt_cons]
    have := wt_erase l i
    omega
theorem wt_insert (l : List Str) (i : Nat) (x : Str) : wt (l.take i ++ [x] ++ l.drop i) = wt l + (x.length + 1) := by
  have h : wt l = wt (l.take i) + wt (l.drop i) := by rw [← wt_app, List.take_append_drop]
  rw [wt_app, wt_app, h, wt_cons]
  have : wt [] = 0 := rfl
  rw [this]
  omega
theorem wt_reverse (l : List Str) : wt l.reverse = wt l := by
  induction l with
  | nil => rfl
  | cons x l ih =>
    rw [List.reverse_cons, wt_app, ih, wt_cons, wt_cons]
    have : wt [] = 0 := rfl
    rw [this]
    omega
theorem wt_turn (l : List Str) : wt (l.take 1 ++ l.tail.reverse) = wt l := by
  cases l with
  | nil => rfl
  | cons x l =>
    show wt ([x] ++ l.reverse) = _
    rw [wt_app, wt_reverse, wt_cons, wt_cons]
    have : wt [] = 0 := rfl
    rw [this]
theorem wt_map {f : Str → Str} (h : ∀ x, (f x).length ≤ x.length + 1) (l : List Str) : wt (l.map f) ≤ 2 * wt l := by
  induction l with
  | nil => simp [wt]
  | cons x l ih =>
    rw [List.map_cons, wt_cons, wt_cons]
    have := h x
    omega
theorem wt_linesOf (x : Str) : wt (linesOf x) ≤ x.length + 1 := by
  rw [wt_eq]
  exact lines_weight x
theorem wt_wordsOf (x : Str) : wt (wordsOf x) ≤ x.length + 1 := by
  rw [wt_eq]
  exact words_weight x
theorem len_outL (l : List Str) : (cat (l.map fun x => x ++ ("\n" : Str))).length = wt l := by
  rw [len_cat, List.map_map]
  unfold wt
  congr 1
  refine List.map_congr_left fun x _ => ?_
  show (x ++ ("\n" : Str)).length = _
  rw [len_app, len_nl]
theorem join_len {y : Str} (l : List Str) (h : y.length = 1) : (Txt.join y l).length ≤ wt l := by
  rw [join_eq, wt_eq]
  have := StrLaws.join_length_le y l
  rw [h, Nat.mul_one] at this
  exact this
/-- a line, its words turned round behind the first -/
def turnL (x : Str) : Str := Txt.join " " ((wordsOf x).take 1 ++ (wordsOf x).tail.reverse)
theorem len_turnL (x : Str) : (turnL x).length ≤ x.length + 1 := by
  unfold turnL
  have h := join_len (y := " ") ((wordsOf x).take 1 ++ (wordsOf x).tail.reverse) len_sp
  rw [wt_turn] at h
  have := wt_wordsOf x
  omega
theorem len_rep1 (x y z : Str) : (rep1 x y z).length ≤ 2 * x.length + 2 * z.length := by
  unfold rep1
  split
  · omega
  · rw [StrLaws.glued_eq_join, StrLaws.partsBetween_eq]
    have h1 := StrLaws.occ_length_le x y 0 x.length 1
    generalize Builtin.Str.occurrences x y 0 x.length 1 = cuts at h1
    have h2 := StrLaws.join_length_le z (StrLaws.partsFrom x y.length 0 cuts)
    have h3 : (StrLaws.partsFrom x y.length 0 cuts).length = cuts.length + 1 := by
      have : ∀ (cuts : List Nat) (a : Nat), (StrLaws.partsFrom x y.length a cuts).length = cuts.length + 1 := fun cuts => by
        induction cuts with
        | nil => intro a; rfl
        | cons c r ih =>
          intro a
          show (StrLaws.partsFrom x y.length (c + y.length) r).length + 1 = _
          rw [ih, List.length_cons]
      exact this cuts 0
    have h4 := StrLaws.sumLen_le (StrLaws.partsFrom x y.length 0 cuts) (B := x.length) fun p hp => partsFrom_short x y.length cuts 0 p hp
    rw [h3] at h2 h4
    have h5 : (cuts.length + 1) * x.length ≤ 2 * x.length := Nat.mul_le_mul_right _ (by omega)
    have h6 : (cuts.length + 1) * z.length ≤ 2 * z.length := Nat.mul_le_mul_right _ (by omega)
    omega
section
variable {A X : Sto} {names : List Str} {P : Poly} {ts : List Str} {b : Bool} {η η' : En} {m : StM} {rest : StM} {r : Out (En × Ctl)} {w k : Int}
/-- a list of lines as it stands -/
def LV (X : Sto) (d : D) (ls : List Str) : Prop := d = eL ls ∨ ∃ n, d = .ref n ∧ X[n]? = some (.lst (ls.map D.str))
theorem ps (h5 : η[5]? = some (some (.int w))) (hne : decide (w = k) = false) (hr : rest η X = r) : mSeq (sIf (t2 opEq (xVar 5) (xInt k)) m mNext) rest η X = r :=
  mSeq_nx (sIf_f (t2_eq (xVar_eq h5) xInt_eq (by rw [opEq_int, hne])) mNext_eq) hr
theorem hitR {d : D} {A1 : Sto} (h5 : η[5]? = some (some (.int w))) (he : decide (w = k) = true) (hr : m η X = .ok (η', .rt d) A1) : mSeq (sIf (t2 opEq (xVar 5) (xInt k)) m mNext) rest η X = .ok (η', .rt d) A1 :=
  mSeq_rt (sIf_t (t2_eq (xVar_eq h5) xInt_eq (by rw [opEq_int, he])) hr)
theorem hitN {A1 : Sto} (h5 : η[5]? = some (some (.int w))) (he : decide (w = k) = true) (hm : m η X = .ok (η', .nx) A1) (hr : rest η' A1 = r) : mSeq (sIf (t2 opEq (xVar 5) (xInt k)) m mNext) rest η X = r :=
  mSeq_nx (sIf_t (t2_eq (xVar_eq h5) xInt_eq (by rw [opEq_int, he])) hm) hr
/-- the lines' end -/
theorem fin34 {o0 o1 o2 o3 o4 o5 o7 : Option D} {d : D} {ls : List Str} (hv : LV X d ls) (hw : wt ls ≤ 5000) :
    sRet (xM "str" mJoin (xStr "") (aCons (mLc [8] (iSeq (xVar 6)) (gName 8) tNone (x2 opAdd (xVar 8) (xStr "\n"))) aNil)) [o0, o1, o2, o3, o4, o5, some d, o7, none] X = .ok ([o0, o1, o2, o3, o4, o5, some d, o7, none], .rt (.str (cat (ls.map fun x => x ++ ("\n" : Str))))) X := by
  have hsz := sizeLine_eq
  have hn := wt_len ls
  have hc : mLc [8] (iSeq (xVar 6)) (gName 8) tNone (x2 opAdd (xVar 8) (xStr "\n")) [o0, o1, o2, o3, o4, o5, some d, o7, none] X = .ok (.lst ((ls.map fun x => x ++ ("\n" : Str)).map D.str)) X := by
    have e : (ls.map fun x => x ++ ("\n" : Str)).map D.str = ls.map fun x => D.str (x ++ ("\n" : Str)) := by rw [List.map_map] <;> rfl
    rw [e]
    have each : ∀ x ∈ ls, ∃ η1, gName 8 (.str x) (wipeE [o0, o1, o2, o3, o4, o5, some d, o7, none] [8]) X = .ok η1 X ∧ x2 opAdd (xVar 8) (xStr "\n") η1 X = .ok (.str (x ++ ("\n" : Str))) X := fun x hx => by
      refine ⟨_, gName_eq, x2_eq (xVar_eq rfl) xStr_eq (opAdd_str ?_)⟩
      rw [len_nl]
      have := wt_mem hx
      omega
    rcases hv with rfl | ⟨n, rfl, hX⟩
    · apply mLcA D.str (fun x => D.str (x ++ ("\n" : Str))) ls
      · exact iSeq_lst (xVar_eq rfl)
      · omega
      · exact each
    · apply mLcR D.str (fun x => D.str (x ++ ("\n" : Str))) ls
      · exact xVar_eq rfl
      · exact hX
      · omega
      · exact each
  refine sRet_eq (xM_eq xStr_eq rfl (a1_eq hc) (mJoin_eq rfl ?_))
  have h1 : ((ls.map fun x => x ++ ("\n" : Str)).map (·.length)).sum = wt ls := by rw [← len_cat, len_outL]
  rw [h1, len_e]
  omega
theorem eraseIdx_map : ∀ (l : List Str) (i : Nat), (l.map D.str).eraseIdx i = (l.eraseIdx i).map D.str
  | [], _ => by simp
  | _ :: _, 0 => rfl
  | x :: l, i + 1 => by
    rw [List.map_cons, List.eraseIdx_cons_succ, List.eraseIdx_cons_succ, List.map_cons, eraseIdx_map l i]
theorem opSl_ref {lo hi st : Option Int} {n : Nat} {l m : List Str} (hX : X[n]? = some (.lst (l.map D.str))) (h0 : st ≠ some 0) (e : pickL l lo hi st = m) (hl : m.length ≤ sizeLine) : opSl lo hi st X (.ref n) = some (eL m) := by
  have e2 : pickL (l.map D.str) lo hi st = m.map D.str := by rw [pickL_map, e]
  have e3 : lstOf X (.ref n) = some (l.map D.str) := by
    unfold lstOf
    simp only [hX]
  rw [opSl_lst (x := .ref n) e3 (fun _ h => by cases h) h0 (by rw [e2, List.length_map]; exact hl), e2] <;> rfl
theorem seqOf_ref {n : Nat} {l : List D} (hX : X[n]? = some (.lst l)) : seqOf X (.ref n) = some l := by
  show lstOf X (.ref n) = _
  unfold lstOf
  simp only [hX]
theorem ix_ref {n : Nat} {l : List Str} {i : Int} {j : Nat} (hX : X[n]? = some (.lst (l.map D.str))) (e : i = (j : Int)) (hj : j < l.length) : opIx X (.ref n) (.int i) = some (.str l[j]) :=
  opIx_nat (x := .ref n) (seqOf_ref hX) e (by rw [List.getElem?_map, List.getElem?_eq_getElem hj] <;> rfl)
theorem set_ref {n : Nat} {l : List Str} {i : Int} {j : Nat} {z : Str} (hX : X[n]? = some (.lst (l.map D.str))) (e : i = (j : Int)) (hj : j < l.length) : opSet X (.ref n) (.int i) (.str z) = some (X.set n (.lst ((l.set j z).map D.str))) := by
  subst e
  unfold opSet
  simp only [hX]
  have e : ixN (l.map D.str).length (j : Int) = some j := by
    unfold ixN
    rw [List.length_map, if_pos (by omega), if_pos (by omega), Int.toNat_natCast]
  rw [e]
  show some (X.set n (.lst ((l.map D.str).set j (.str z)))) = _
  rw [List.map_set]
theorem ty_ref {n : Nat} {l : List D} (hX : X[n]? = some (.lst l)) : tyOk "list" X (.ref n) = some () := by
  unfold tyOk
  simp only [if_true, lstOf, hX, Option.map_some]
theorem pop_ref {n : Nat} {l : List Str} {i : Int} {j : Nat} (hX : X[n]? = some (.lst (l.map D.str))) (e : i = (j : Int)) (hj : j < l.length) (hl : l.length ≤ 100000) : mPopAt X (.ref n) [.int i] = some (.str l[j], X.set n (.lst ((l.eraseIdx j).map D.str))) := by
  subst e
  unfold mPopAt
  simp only [hX]
  have e : seqIndex? (j : Int) (l.map D.str).length = some j := by
    unfold seqIndex?
    rw [List.length_map]
    simp
    omega
  rw [if_pos ⟨by omega, by omega⟩, e]
  show ((l.map D.str)[j]?).map (fun d => (d, X.set n (.lst ((l.map D.str).eraseIdx j)))) = _
  rw [List.getElem?_map, List.getElem?_eq_getElem hj, eraseIdx_map] <;> rfl
theorem ins_ref {n : Nat} {l : List Str} {i : Int} {j : Nat} {z : Str} (hX : X[n]? = some (.lst (l.map D.str))) (e : i = (j : Int)) (hl : l.length ≤ 100000) (hj : j ≤ l.length) : mInsert X (.ref n) [.int i, .str z] = some (.non, X.set n (.lst ((l.take j ++ [z] ++ l.drop j).map D.str))) := by
  have hsz := sizeLine_eq
  subst e
  unfold mInsert
  simp only [hX]
  rw [if_pos ⟨by rw [List.length_map]; omega, by omega, by omega⟩, Int.toNat_natCast]
  rw [List.map_append, List.map_append, List.map_take, List.map_drop] <;> rfl
end
end K41
end

section
set_option Elab.async false
set_option linter.all false
set_option maxRecDepth 100000
set_option maxHeartbeats 1000000
set_option pp.maxSteps 600
/-! Mathematics, part p: a spoilt paper. -/
namespace K41
open PySem PySem.Spec PyProof.Rows L2 Cr TL
section
variable {A : Sto} {names : List Str} {P : Poly} {ts : List Str} {b : Bool}
abbrev E34 (p tk : D) (text : Str) (names : List Str) (w : Int) (d : D) (at_ : Int) : En := [some (.ref 1), some p, some tk, some (.str text), some (eL names), some (.int w), some d, some (.int at_), none]
theorem hd_mem {l : List Str} (h : l ≠ []) : l.headD "" ∈ l := by
  cases l with
  | nil => exact absurd rfl h
  | cons a l => exact List.mem_cons_self ..
theorem last_mem {l : List Str} (h : l ≠ []) : l.getLastD "" ∈ l := by
  rw [getLastD_eq h]
  exact List.getLast_mem h
theorem len_of {l : List Str} {k : Nat} (h : l.all (fun x => decide (x.length ≤ k)) = true) : ∀ x ∈ l, x.length ≤ k := fun x hx => of_decide_eq_true (List.all_eq_true.mp h x hx)
theorem s_34 (N : Nm names) (hp : PA A) (hf : Flat A) {text : Str} (hx : text.length ≤ 200) : ∃ (x : Str) (A' : Sto), M_34 [.ref 1, eP P, tokD b ts, .str text, eL names] A = .ok (.str x) A' ∧ Stp A A' ∧ x.length ≤ 2000 := by
  have hsz := sizeLine_eq
  have hlt := hp.lt
  obtain ⟨w, A1, ew, w0, w10, s1⟩ := xDraw (η := [some (.ref 1), some (eP P), some (tokD b ts), some (.str text), some (eL names), none, none, none, none]) hp hf rfl (n := 10) (by omega) (by omega)
  have p1 := s1.pa hp
  have f1 := s1.flat hf
  have hA1 : A1.length = A.length := s1.len
  have hcut := len_cut text
  have hsl : opSl none (some (-1)) none A1 (.str text) = some (.str (cutS text none (some (-1)))) := opSl_last (by omega)
  have hLw := wt_linesOf (cutS text none (some (-1)))
  have hLn := lines_ne (cutS text none (some (-1)))
  have hsp : mSplitR A1 (.str (cutS text none (some (-1)))) [.str "\n"] = some (.ref A1.length, A1 ++ [AO.lst ((linesOf (cutS text none (some (-1)))).map D.str)]) := by
    unfold mSplitR
    rw [mSplit0_eq (by omega) (by rw [len_nl] <;> rfl)] <;> rfl
  generalize linesOf (cutS text none (some (-1))) = L at hLw hLn hsp
  rw [hA1] at hsp
  have hLl := wt_len L
  have hL0 : 0 < L.length := List.length_pos_iff.mpr hLn
  have fL : ∀ (B : Sto) (l : List Str), Flat B → Flat (B ++ [AO.lst (l.map D.str)]) := fun B l h => flat_snoc h (flat_strs l)
  obtain ⟨at_, X, ea, a0, a1, sX⟩ := draw (A := A1 ++ [AO.lst (L.map D.str)]) p1.app (fL A1 L f1) (n := (L.length : Int)) (by omega) (by omega)
  obtain ⟨A2, rfl, s2⟩ := sX.app p1.lt
  have hA2 : A2.length = A.length := by rw [s2.len, hA1]
  have sA := s1.trans s2
  have p2 := sA.pa hp
  have f2 := sA.flat hf
  have j0 : at_.toNat < L.length := by omega
  have ej : at_ = ((at_.toNat : Nat) : Int) := by omega
  have hXat : ∀ (B : Sto) (l : List Str), B.length = A.length → (B ++ [AO.lst (l.map D.str)])[A.length]? = some (.lst (l.map D.str)) := fun B l h => by
    rw [← h]
    exact at_end _
  have hXset : ∀ (B : Sto) (l l' : List Str), B.length = A.length → (B ++ [AO.lst (l.map D.str)]).set A.length (.lst (l'.map D.str)) = B ++ [AO.lst (l'.map D.str)] := fun B l l' h => by
    rw [← h]
    exact set_end _ _
  have hlenX : bLen (A1 ++ [AO.lst (L.map D.str)]) (.ref A.length) = some (.int (L.length : Int)) := by
    rw [bLen_seq (seqOf_ref (hXat A1 L hA1)) (fun _ h => by cases h), List.length_map]
  -- the first three rows
  have r1 : sSet 5 (xCall 2 M_21 (aCons (xVar 0) (aCons (xInt 10) aNil))) [some (.ref 1), some (eP P), some (tokD b ts), some (.str text), some (eL names), none, none, none, none] A = .ok ([some (.ref 1), some (eP P), some (tokD b ts), some (.str text), some (eL names), some (.int w), none, none, none], .nx) A1 := sSet_eq ew
  have r2 : sSet 6 (xM "str" mSplitR (x1 (opSl none (some (-1)) none) (xVar 3)) (aCons (xStr "\n") aNil)) [some (.ref 1), some (eP P), some (tokD b ts), some (.str text), some (eL names), some (.int w), none, none, none] A1 = .ok ([some (.ref 1), some (eP P), some (tokD b ts), some (.str text), some (eL names), some (.int w), some (.ref A.length), none, none], .nx) (A1 ++ [AO.lst (L.map D.str)]) :=
    sSet_eq (xM_eq (x1_eq (xVar_eq rfl) hsl) rfl (a1_eq xStr_eq) hsp)
  have r3 : sSet 7 (xCall 2 M_21 (aCons (xVar 0) (aCons (xN (opN1 bLen) (aCons (xVar 6) aNil)) aNil))) [some (.ref 1), some (eP P), some (tokD b ts), some (.str text), some (eL names), some (.int w), some (.ref A.length), none, none] (A1 ++ [AO.lst (L.map D.str)]) = .ok (E34 (eP P) (tokD b ts) text names w (.ref A.length) at_, .nx) (A2 ++ [AO.lst (L.map D.str)]) :=
    sSet_eq (xCall_eq (aCons_eq (xVar_eq rfl) (a1_eq (xN1_eq (xVar_eq rfl) hlenX))) rfl ea)
  -- how it goes on
  have fin : ∀ (rest : StM) (x : Str) (B : Sto) (J : Sto) (η' : En), Stp A B → x.length ≤ 2000 → rest (E34 (eP P) (tokD b ts) text names w (.ref A.length) at_) (A2 ++ [AO.lst (L.map D.str)]) = .ok (η', .rt (.str x)) (B ++ J) →
      ∃ (x : Str) (A' : Sto), callB 9 (mSeq (sSet 5 (xCall 2 M_21 (aCons (xVar 0) (aCons (xInt 10) aNil)))) (mSeq (sSet 6 (xM "str" mSplitR (x1 (opSl none (some (-1)) none) (xVar 3)) (aCons (xStr "\n") aNil))) (mSeq (sSet 7 (xCall 2 M_21 (aCons (xVar 0) (aCons (xN (opN1 bLen) (aCons (xVar 6) aNil)) aNil)))) rest))) [.ref 1, eP P, tokD b ts, .str text, eL names] A = .ok (.str x) A' ∧ Stp A A' ∧ x.length ≤ 2000 := fun rest x B J η' s hl h =>
    ⟨x, B, callB_rt (η0 := [some (.ref 1), some (eP P), some (tokD b ts), some (.str text), some (eL names), none, none, none, none]) rfl (mSeq_nx r1 (mSeq_nx r2 (mSeq_nx r3 h))) (by rw [← s.len]; exact take_mid _) rfl (s.flat hf), s, hl⟩
  have fout : ∀ ls : List Str, wt ls ≤ 2000 → (cat (ls.map fun x => x ++ ("\n" : Str))).length ≤ 2000 := fun ls h => by rw [len_outL]; exact h
  have pX : ∀ {B : Sto} {l : List Str}, Stp A B → PA (B ++ [AO.lst (l.map D.str)]) := fun s => (s.pa hp).app
  have fX : ∀ {B : Sto} {l : List Str}, Stp A B → Flat (B ++ [AO.lst (l.map D.str)]) := fun s => fL _ _ (s.flat hf)
  have hnm := hd_mem N.ne
  have hnl : (names.headD "").length ≤ 10 := N.tl _ hnm
  have hcell : (L[at_.toNat]).length + 1 ≤ wt L := wt_mem (List.getElem_mem j0)
  have hix : ∀ (B : Sto), B.length = A.length → opIx (B ++ [AO.lst (L.map D.str)]) (.ref A.length) (.int at_) = some (.str L[at_.toNat]) := fun B h => ix_ref (hXat B L h) ej j0
  have hset : ∀ (B : Sto) (z : Str), B.length = A.length → opSet (B ++ [AO.lst (L.map D.str)]) (.ref A.length) (.int at_) (.str z) = some (B ++ [AO.lst ((L.set at_.toNat z).map D.str)]) := fun B z h => by
    rw [set_ref (hXat B L h) ej j0, hXset B L _ h]
  have lvr : ∀ (B : Sto) (l : List Str), B.length = A.length → LV (B ++ [AO.lst (l.map D.str)]) (.ref A.length) l := fun B l h => .inr ⟨A.length, rfl, hXat B l h⟩
  have hw : w = 0 ∨ w = 1 ∨ w = 2 ∨ w = 3 ∨ w = 4 ∨ w = 5 ∨ w = 6 ∨ w = 7 ∨ w = 8 ∨ w = 9 := by omega
  have six : 6 ≤ sizeLine := by omega
  rcases hw with rfl | rfl | rfl | rfl | rfl | rfl | rfl | rfl | rfl | rfl
  · -- 0: the last line feed left out
    exact fin _ (cutS text none (some (-1))) A2 [AO.lst (L.map D.str)] _ sA (by omega) (hitR rfl rfl (sRet_eq (x1_eq (xVar_eq rfl) (opSl_last (by omega)))))
  · -- 1: something behind
    have hl1 : ∀ x ∈ [("\n" : Str), "why\n", ("lacks " : Str) ++ names.headD "" ++ ("\n" : Str), " "], x.length ≤ 20 := fun x hx => by
      simp only [List.mem_cons, List.not_mem_nil, or_false] at hx
      rcases hx with rfl | rfl | rfl | rfl
      · rw [len_nl]; omega
      · have : ("why\n" : Str).length = 4 := by decide +kernel
        omega
      · rw [len_app, len_app, len_lacks, len_nl]; omega
      · rw [len_sp]; omega
    obtain ⟨z, Y, ez, zm, sY⟩ := picked_strs (pX (l := L) sA) (fX sA) (l := [("\n" : Str), "why\n", ("lacks " : Str) ++ names.headD "" ++ ("\n" : Str), " "]) (by simp) (by simp)
    obtain ⟨A3, rfl, s3⟩ := sY.app p2.lt
    have hz := hl1 z zm
    refine fin _ (text ++ z) A3 [AO.lst (L.map D.str)] _ (sA.trans s3) (by rw [len_app]; omega) (ps rfl rfl (hitR rfl rfl (sRet_eq (x2_eq (xVar_eq rfl) (xCall_eq (aCons_eq (xVar_eq rfl) (a1_eq (xLst_eq (aCons_eq xStr_eq (aCons_eq xStr_eq (aCons_eq (x2_eq (x2_eq xStr_eq (x2_eq (xVar_eq rfl) xInt_eq (opIx_hd N.ne)) (opAdd_str ?_)) xStr_eq (opAdd_str ?_)) (a1_eq xStr_eq)))) (by show 4 ≤ sizeLine; omega)))) rfl ez) (opAdd_str (by omega))))))
    · rw [len_lacks]; omega
    · rw [len_app, len_lacks, len_nl]; omega
  · -- 2: a line longer
    have hl1 : ∀ x ∈ [(" " : Str), (" " : Str) ++ names.headD "", " q77", "x"], x.length ≤ 20 := fun x hx => by
      simp only [List.mem_cons, List.not_mem_nil, or_false] at hx
      rcases hx with rfl | rfl | rfl | rfl
      · rw [len_sp]; omega
      · rw [len_app, len_sp]; omega
      · have : (" q77" : Str).length = 4 := by decide +kernel
        omega
      · have : ("x" : Str).length = 1 := by decide +kernel
        omega
    obtain ⟨z, Y, ez, zm, sY⟩ := picked_strs (pX (l := L) sA) (fX sA) (l := [(" " : Str), (" " : Str) ++ names.headD "", " q77", "x"]) (by simp) (by simp)
    obtain ⟨A3, rfl, s3⟩ := sY.app p2.lt
    have hz := hl1 z zm
    have h3 : A3.length = A.length := (sA.trans s3).len
    have hwt := wt_set L at_.toNat (L[at_.toNat] ++ z)
    rw [len_app] at hwt
    refine fin _ _ A3 [AO.lst ((L.set at_.toNat (L[at_.toNat] ++ z)).map D.str)] _ (sA.trans s3) (fout (L.set at_.toNat (L[at_.toNat] ++ z)) (by omega)) (ps rfl rfl (ps rfl rfl (hitN rfl rfl (sPut_eq (x2_eq (x2_eq (xVar_eq rfl) (xVar_eq rfl) (hix A2 hA2)) (xCall_eq (aCons_eq (xVar_eq rfl) (a1_eq (xLst_eq (aCons_eq xStr_eq (aCons_eq (x2_eq xStr_eq (x2_eq (xVar_eq rfl) xInt_eq (opIx_hd N.ne)) (opAdd_str ?_)) (aCons_eq xStr_eq (a1_eq xStr_eq)))) (by show 4 ≤ sizeLine; omega)))) rfl ez) (opAdd_str (by omega))) (xVar_eq rfl) (xVar_eq rfl) (hset A3 _ h3)) (ps rfl rfl (ps rfl rfl (ps rfl rfl (ps rfl rfl (ps rfl rfl (ps rfl rfl (mSeq_nx (sIfT_f (xVar_eq rfl) (by decide)) (fin34 (lvr A3 _ h3) (by omega))))))))))))
    rw [len_sp]
    omega
  · -- 3: a line left out
    have hwt := wt_erase L at_.toNat
    have hpop := pop_ref (hXat A2 L hA2) ej j0 (by omega)
    rw [hXset A2 L _ hA2] at hpop
    exact fin _ _ A2 [AO.lst ((L.eraseIdx at_.toNat).map D.str)] _ sA (fout (L.eraseIdx at_.toNat) (by omega)) (ps rfl rfl (ps rfl rfl (ps rfl rfl (hitN rfl rfl (sExp_eq (xM_eq (xVar_eq rfl) (ty_ref (hXat A2 L hA2)) (a1_eq (xVar_eq rfl)) hpop)) (ps rfl rfl (ps rfl rfl (ps rfl rfl (ps rfl rfl (ps rfl rfl (mSeq_nx (sIfT_f (xVar_eq rfl) (by decide)) (fin34 (lvr A2 _ hA2) (by omega))))))))))))
  · -- 4: a line twice
    have hwt := wt_insert L at_.toNat L[at_.toNat]
    have hins := ins_ref (z := L[at_.toNat]) (hXat A2 L hA2) ej (by omega) (by omega)
    rw [hXset A2 L _ hA2] at hins
    exact fin _ _ A2 [AO.lst ((L.take at_.toNat ++ [L[at_.toNat]] ++ L.drop at_.toNat).map D.str)] _ sA (fout (L.take at_.toNat ++ [L[at_.toNat]] ++ L.drop at_.toNat) (by omega)) (ps rfl rfl (ps rfl rfl (ps rfl rfl (ps rfl rfl (hitN rfl rfl (sExp_eq (xM_eq (xVar_eq rfl) (ty_ref (hXat A2 L hA2)) (aCons_eq (xVar_eq rfl) (a1_eq (x2_eq (xVar_eq rfl) (xVar_eq rfl) (hix A2 hA2)))) hins)) (ps rfl rfl (ps rfl rfl (ps rfl rfl (ps rfl rfl (mSeq_nx (sIfT_f (xVar_eq rfl) (by decide)) (fin34 (lvr A2 _ hA2) (by omega))))))))))))
  · -- 5: words turned round
    have hwt := wt_map len_turnL L
    have hc : mLc [8] (iSeq (xVar 6)) (gName 8) tNone (xM "str" mJoin (xStr " ") (aCons (x2 opAdd (x1 (opSl none (some 1) none) (xM "str" mSplit (xVar 8) (aCons (xStr " ") aNil))) (x1 (opSl none (some 0) (some (-1))) (xM "str" mSplit (xVar 8) (aCons (xStr " ") aNil)))) aNil)) (E34 (eP P) (tokD b ts) text names 5 (.ref A.length) at_) (A2 ++ [AO.lst (L.map D.str)]) = .ok (eL (L.map turnL)) (A2 ++ [AO.lst (L.map D.str)]) := by
      have e : eL (L.map turnL) = .lst (L.map fun x => D.str (turnL x)) := by
        unfold eL
        rw [List.map_map] <;> rfl
      rw [e]
      apply mLcR D.str (fun x => D.str (turnL x)) L
      · exact xVar_eq rfl
      · exact hXat A2 L hA2
      · omega
      · intro x hx
        have hxl := wt_mem hx
        have hww := wt_wordsOf x
        have hwn := wt_len (wordsOf x)
        have hspl := split_sp (A := A2 ++ [AO.lst (L.map D.str)]) (x := x) (by omega)
        have h1 : opSl none (some 1) none (A2 ++ [AO.lst (L.map D.str)]) (eL (wordsOf x)) = some (eL ((wordsOf x).take 1)) := opSl_strs (by simp) (pickL_take (wordsOf x) 1) (by rw [List.length_take]; omega)
        have h2 : opSl none (some 0) (some (-1)) (A2 ++ [AO.lst (L.map D.str)]) (eL (wordsOf x)) = some (eL (wordsOf x).tail.reverse) := opSl_strs (by simp) (pickL_back (wordsOf x)) (by rw [List.length_reverse, List.length_tail]; omega)
        have h3 : opAdd (A2 ++ [AO.lst (L.map D.str)]) (eL ((wordsOf x).take 1)) (eL (wordsOf x).tail.reverse) = some (eL ((wordsOf x).take 1 ++ (wordsOf x).tail.reverse)) := by
          have := opAdd_lst (A := A2 ++ [AO.lst (L.map D.str)]) (a := ((wordsOf x).take 1).map D.str) (b := (wordsOf x).tail.reverse.map D.str) (by rw [List.length_map, List.length_map, List.length_take, List.length_reverse, List.length_tail]; omega)
          rw [← List.map_append] at this
          exact this
        refine ⟨_, gName_eq, xM_eq xStr_eq rfl (a1_eq (x2_eq (x1_eq (xM_eq (xVar_eq rfl) rfl (a1_eq xStr_eq) hspl) h1) (x1_eq (xM_eq (xVar_eq rfl) rfl (a1_eq xStr_eq) hspl) h2) h3)) (mJoin_eq rfl ?_)⟩
        have h4 := wt_turn (wordsOf x)
        rw [wt_eq] at h4
        rw [len_sp, Nat.mul_one]
        omega
    exact fin _ _ A2 [AO.lst (L.map D.str)] _ sA (fout (L.map turnL) (by omega)) (ps rfl rfl (ps rfl rfl (ps rfl rfl (ps rfl rfl (ps rfl rfl (hitN rfl rfl (sSet_eq hc) (ps rfl rfl (ps rfl rfl (ps rfl rfl (mSeq_nx (sIfT_f (xVar_eq rfl) (by decide)) (fin34 (.inl rfl) (by omega))))))))))))
  · -- 6: another line
    obtain ⟨z1, Y1, ez1, zm1, sY1⟩ := picked_strs (pX (l := L) sA) (fX sA) N.ne (by have := N.n; omega)
    obtain ⟨A3, rfl, s3⟩ := sY1.app p2.lt
    have hz1 := N.tl z1 zm1
    have sA3 := sA.trans s3
    have hl1 : ∀ x ∈ [("why" : Str), "not", ("lacks " : Str) ++ z1, "lacks", "", "Why"], x.length ≤ 20 := fun x hx => by
      simp only [List.mem_cons, List.not_mem_nil, or_false] at hx
      rcases hx with rfl | rfl | rfl | rfl | rfl | rfl
      · rw [len_why]; omega
      · rw [len_not]; omega
      · rw [len_app, len_lacks]; omega
      · have : ("lacks" : Str).length = 5 := by decide +kernel
        omega
      · rw [len_e]; omega
      · have : ("Why" : Str).length = 3 := by decide +kernel
        omega
    obtain ⟨z, Y, ez, zm, sY⟩ := picked_strs (pX (l := L) sA3) (fX sA3) (l := [("why" : Str), "not", ("lacks " : Str) ++ z1, "lacks", "", "Why"]) (by simp) (by simp)
    obtain ⟨A4, rfl, s4⟩ := sY.app (sA3.pa hp).lt
    have hz := hl1 z zm
    have sA4 := sA3.trans s4
    have h4 : A4.length = A.length := sA4.len
    have hwt := wt_set L at_.toNat z
    refine fin _ _ A4 [AO.lst ((L.set at_.toNat z).map D.str)] _ sA4 (fout (L.set at_.toNat z) (by omega)) (ps rfl rfl (ps rfl rfl (ps rfl rfl (ps rfl rfl (ps rfl rfl (ps rfl rfl (hitN rfl rfl (sPut_eq (xCall_eq (aCons_eq (xVar_eq rfl) (a1_eq (xLst_eq (aCons_eq xStr_eq (aCons_eq xStr_eq (aCons_eq (x2_eq xStr_eq (xCall_eq (aCons_eq (xVar_eq rfl) (a1_eq (xVar_eq rfl))) rfl ez1) (opAdd_str ?_)) (aCons_eq xStr_eq (aCons_eq xStr_eq (a1_eq xStr_eq)))))) (by show 6 ≤ sizeLine; omega)))) rfl ez) (xVar_eq rfl) (xVar_eq rfl) (hset A4 _ h4)) (ps rfl rfl (ps rfl rfl (mSeq_nx (sIfT_f (xVar_eq rfl) (by decide)) (fin34 (lvr A4 _ h4) (by omega))))))))))))
    rw [len_lacks]
    omega
  · -- 7: another paper
    have hlm : (names.getLastD "").length ≤ 10 := N.tl _ (last_mem N.ne)
    have hjl : (Txt.join " " names).length ≤ 200 := by
      have h1 := join_len (y := " ") names len_sp
      have h2 := sum_le N.tl
      have h3 := N.n
      rw [wt_eq] at h1
      omega
    have hwl : ("why " : Str).length = 4 := by decide +kernel
    have hl1 : ∀ x ∈ [("why " : Str) ++ Txt.join " " names, "not", ("why " : Str) ++ names.getLastD "", "why"], x.length ≤ 204 := fun x hx => by
      simp only [List.mem_cons, List.not_mem_nil, or_false] at hx
      rcases hx with rfl | rfl | rfl | rfl
      · rw [len_app]; omega
      · rw [len_not]; omega
      · rw [len_app]; omega
      · rw [len_why]; omega
    obtain ⟨z, Y, ez, zm, sY⟩ := picked_strs (pX (l := L) sA) (fX sA) (l := [("why " : Str) ++ Txt.join " " names, "not", ("why " : Str) ++ names.getLastD "", "why"]) (by simp) (by simp)
    obtain ⟨A3, rfl, s3⟩ := sY.app p2.lt
    have hz := hl1 z zm
    have hwz : wt [z] ≤ 2000 := by
      rw [wt_cons]
      have : wt [] = 0 := rfl
      omega
    have hjn : mJoin (A2 ++ [AO.lst (L.map D.str)]) (.str " ") [eL names] = some (.str (Txt.join " " names), A2 ++ [AO.lst (L.map D.str)]) := join_small (l := names) (k := 10) rfl (by have := N.n; omega) N.tl (by rw [len_sp]; omega)
    have elv : LV ((A3 ++ [AO.lst (L.map D.str)]) ++ [AO.lst ([z].map D.str)]) (.ref (A3 ++ [AO.lst (L.map D.str)]).length) [z] := .inr ⟨_, rfl, at_end _⟩
    have hr7 : xLstR (aCons (xCall 2 M_22 (aCons (xVar 0) (aCons (xLst (aCons (x2 opAdd (xStr "why ") (xM "str" mJoin (xStr " ") (aCons (xVar 4) aNil))) (aCons (xStr "not") (aCons (x2 opAdd (xStr "why ") (x2 opIx (xVar 4) (x1 opNeg (xInt 1)))) (aCons (xStr "why") aNil))))) aNil))) aNil) (E34 (eP P) (tokD b ts) text names 7 (.ref A.length) at_) (A2 ++ [AO.lst (L.map D.str)]) = .ok (.ref (A3 ++ [AO.lst (L.map D.str)]).length) ((A3 ++ [AO.lst (L.map D.str)]) ++ [AO.lst ([z].map D.str)]) :=
      xLstR_eq (a1_eq (xCall_eq (aCons_eq (xVar_eq rfl) (a1_eq (xLst_eq (aCons_eq (x2_eq xStr_eq (xM_eq xStr_eq rfl (a1_eq (xVar_eq rfl)) hjn) (opAdd_str (by omega))) (aCons_eq xStr_eq (aCons_eq (x2_eq xStr_eq (x2_eq (xVar_eq rfl) (x1_eq xInt_eq (d := .int (-1)) rfl) (opIx_last N.ne)) (opAdd_str (by omega))) (a1_eq xStr_eq)))) (by show 4 ≤ sizeLine; omega)))) rfl ez)) (by show 1 ≤ sizeLine; omega)
    refine fin _ _ A3 ([AO.lst (L.map D.str)] ++ [AO.lst ([z].map D.str)]) (E34 (eP P) (tokD b ts) text names 7 (.ref (A3 ++ [AO.lst (L.map D.str)]).length) at_) (sA.trans s3) (fout [z] hwz) ?_
    rw [← List.append_assoc]
    exact ps rfl rfl (ps rfl rfl (ps rfl rfl (ps rfl rfl (ps rfl rfl (ps rfl rfl (ps rfl rfl (hitN rfl rfl (sSet_eq hr7) (ps rfl rfl (mSeq_nx (sIfT_f (xVar_eq rfl) (by decide)) (fin34 elv (by omega)))))))))))
  · -- 8: lines turned round
    have hwt := wt_turn L
    have h1 : opSl none (some 1) none (A2 ++ [AO.lst (L.map D.str)]) (.ref A.length) = some (eL (L.take 1)) := opSl_ref (hXat A2 L hA2) (by simp) (pickL_take L 1) (by rw [List.length_take]; omega)
    have h2 : opSl none (some 0) (some (-1)) (A2 ++ [AO.lst (L.map D.str)]) (.ref A.length) = some (eL L.tail.reverse) := opSl_ref (hXat A2 L hA2) (by simp) (pickL_back L) (by rw [List.length_reverse, List.length_tail]; omega)
    have h3 : opAdd (A2 ++ [AO.lst (L.map D.str)]) (eL (L.take 1)) (eL L.tail.reverse) = some (eL (L.take 1 ++ L.tail.reverse)) := by
      have := opAdd_lst (A := A2 ++ [AO.lst (L.map D.str)]) (a := (L.take 1).map D.str) (b := L.tail.reverse.map D.str) (by rw [List.length_map, List.length_map, List.length_take, List.length_reverse, List.length_tail]; omega)
      rw [← List.map_append] at this
      exact this
    exact fin _ _ A2 [AO.lst (L.map D.str)] _ sA (fout (L.take 1 ++ L.tail.reverse) (by omega)) (ps rfl rfl (ps rfl rfl (ps rfl rfl (ps rfl rfl (ps rfl rfl (ps rfl rfl (ps rfl rfl (ps rfl rfl (hitN rfl rfl (sSet_eq (x2_eq (x1_eq (xVar_eq rfl) h1) (x1_eq (xVar_eq rfl) h2) h3)) (mSeq_nx (sIfT_f (xVar_eq rfl) (by decide)) (fin34 (.inl rfl) (by omega))))))))))))
  · -- 9: one blank more
    have hl2 : ("  " : Str).length = 2 := by decide +kernel
    have hrl := len_rep1 L[at_.toNat] " " "  "
    have hwt := wt_set L at_.toNat (rep1 L[at_.toNat] " " "  ")
    have hrep : opRep1 " " "  " (A2 ++ [AO.lst (L.map D.str)]) (.str L[at_.toNat]) = some (.str (rep1 L[at_.toNat] " " "  ")) := by
      show (if (L[at_.toNat]).length + ("  " : Str).length ≤ 16777216 then some (D.str (rep1 L[at_.toNat] " " "  ")) else none) = _
      rw [if_pos (by omega)]
    exact fin _ _ A2 [AO.lst ((L.set at_.toNat (rep1 L[at_.toNat] " " "  ")).map D.str)] _ sA (fout (L.set at_.toNat (rep1 L[at_.toNat] " " "  ")) (by omega)) (ps rfl rfl (ps rfl rfl (ps rfl rfl (ps rfl rfl (ps rfl rfl (ps rfl rfl (ps rfl rfl (ps rfl rfl (ps rfl rfl (mSeq_nx (sIfT_t (xVar_eq rfl) rfl (sPut_eq (x1_eq (x2_eq (xVar_eq rfl) (xVar_eq rfl) (hix A2 hA2)) hrep) (xVar_eq rfl) (xVar_eq rfl) (hset A2 _ hA2))) (fin34 (lvr A2 _ hA2) (by omega))))))))))))
end
end K41
end

section
set_option Elab.async false
set_option linter.all false
set_option maxRecDepth 100000
set_option maxHeartbeats 1000000
set_option pp.maxSteps 600
/-! Mathematics, part q: the law. -/
namespace K41
open PySem PySem.Spec PyProof.Rows L2 Cr TL
/-! ### the law's paper is taken as it should be -/
abbrev FreeN (R : List (List Str)) : Prop := ∀ row ∈ R, ∀ t ∈ row, Free 10 t
theorem free_app {c : Nat} {x y : Str} (hx : Free c x) (hy : Free c y) : Free c (x ++ y) := by
  unfold Free
  rw [tl_append]
  intro h
  rcases List.mem_append.mp h with h | h
  · exact hx h
  · exact hy h
theorem free_cat {c : Nat} {l : List Str} (h : ∀ x ∈ l, Free c x) : Free c (cat l) := by
  induction l with
  | nil =>
    rw [cat_nil, e_eq]
    simp [Free, tl_empty]
  | cons x l ih =>
    rw [cat_cons]
    exact free_app (h x (List.mem_cons_self ..)) (ih fun y hy => h y (List.mem_cons_of_mem _ hy))
theorem why_free10 : Free 10 ("why" : Str) := by unfold Free tl; decide +kernel
theorem not_free10 : Free 10 ("not" : Str) := by unfold Free tl; decide +kernel
theorem lacks_free10 : Free 10 ("lacks " : Str) := by unfold Free tl; decide +kernel
theorem sp_free10 : Free 10 (" " : Str) := by unfold Free tl; decide +kernel
theorem whyL_free10 {row : List Str} (h : ∀ t ∈ row, Free 10 t) : Free 10 (whyL row) := by
  unfold whyL
  refine free_app why_free10 (free_cat fun x hx => ?_)
  obtain ⟨t, ht, rfl⟩ := List.mem_map.mp hx
  exact free_app sp_free10 (h t ht)
theorem lines_one {x : Str} (h : Free 10 x) : linesOf x = [x] := by
  unfold linesOf
  rw [nl_eq]
  have e : x = Txt.join (sg 10) [x] := by rw [join_eq] <;> rfl
  rw [e, split_of (by decide) (by simp) fun p hp => ?_]
  · rw [← e]
  · rw [List.mem_singleton.mp hp]
    exact h
theorem cat_lines : ∀ {l : List Str}, l ≠ [] → cat (l.map fun x => x ++ ("\n" : Str)) = Txt.join "\n" l ++ ("\n" : Str)
  | [], h => absurd rfl h
  | [x], _ => by
    rw [List.map_cons, List.map_nil, cat_cons, cat_nil, app_nil, join_eq] <;> rfl
  | x :: y :: r, _ => by
    have ih := cat_lines (l := y :: r) (by simp)
    rw [List.map_cons, cat_cons, ih, join_eq, join_eq]
    show x ++ ("\n" : Str) ++ (Str.join "\n" (y :: r) ++ ("\n" : Str)) = x ++ ("\n" : Str) ++ Str.join "\n" (y :: r) ++ ("\n" : Str)
    simp only [app_assoc]
theorem ends_nl (y : Str) : Txt.endswith (y ++ ("\n" : Str)) "\n" = true := by
  rw [nl_eq]
  exact (ends_iff _ 10).mpr ⟨y, rfl⟩
theorem cut_nl (y : Str) : cutS (y ++ ("\n" : Str)) none (some (-1)) = y := by
  rw [nl_eq]
  exact cut_last y 10
theorem ask_no {R : List (List Str)} {ts : List Str} (h : ∀ r ∈ R, within r ts = false) (line : Str) : askWhy R ts line = false := by
  unfold askWhy
  rw [List.any_eq_false]
  intro r hr
  rw [h r hr, Bool.and_false]
  decide
theorem ask_self {R : List (List Str)} (hf : FreeN R) (ts : List Str) : askV R ts (paperV R ts) = .told (leastV R ts).isSome := by
  unfold askV paperV
  cases q : leastV R ts with
  | some z =>
    obtain ⟨h1, h2, _⟩ := least_some q
    show cond (Txt.endswith (whyL z ++ ("\n" : Str)) "\n") (let L := linesOf (cutS (whyL z ++ ("\n" : Str)) none (some (-1))); pick (decide (L.length = 1) && askWhy R ts (L.headD "")) (decide (L.headD "" = ("not" : Str)) && askNot R ts L.tail)) .bad = _
    rw [ends_nl, cond_true, cut_nl, lines_one (whyL_free10 (hf z h1))]
    have hw : askWhy R ts (whyL z) = true := by
      unfold askWhy
      rw [List.any_eq_true]
      exact ⟨z, h1, by rw [decide_eq_true rfl, h2] <;> rfl⟩
    show pick (decide (([whyL z] : List Str).length = 1) && askWhy R ts (whyL z)) _ = _
    rw [hw] <;> rfl
  | none =>
    have hno := least_none q
    show cond (Txt.endswith (cat ((notLines R ts).map fun x => x ++ ("\n" : Str))) "\n") (let L := linesOf (cutS (cat ((notLines R ts).map fun x => x ++ ("\n" : Str))) none (some (-1))); pick (decide (L.length = 1) && askWhy R ts (L.headD "")) (decide (L.headD "" = ("not" : Str)) && askNot R ts L.tail)) .bad = _
    have hne : notLines R ts ≠ [] := by unfold notLines; simp
    rw [cat_lines hne, ends_nl, cond_true, cut_nl]
    have hl : linesOf (Txt.join "\n" (notLines R ts)) = notLines R ts := by
      unfold linesOf
      rw [nl_eq]
      refine split_of (by decide) hne fun p hp => ?_
      unfold notLines at hp
      rcases List.mem_cons.mp hp with rfl | hp
      · exact not_free10
      · obtain ⟨r, hr, rfl⟩ := List.mem_map.mp hp
        unfold lackL
        exact free_app lacks_free10 (hf r hr _ (lk_in (hno r hr)).1)
    rw [hl]
    show pick (_ && askWhy R ts _) (decide (("not" : Str) = ("not" : Str)) && askNot R ts (R.map fun r => lackL (lk ts r))) = _
    have hn : askNot R ts (R.map fun r => lackL (lk ts r)) = true := by
      unfold askNot
      rw [List.length_map, decide_eq_true rfl, Bool.true_and, List.all_eq_true]
      have : ∀ (R : List (List Str)), (∀ r ∈ R, within r ts = false) → ∀ z ∈ (R.map fun r => lackL (lk ts r)).zip R, askLine ts z.2 z.1 = true := fun R => by
        induction R with
        | nil => intro _ z hz; cases hz
        | cons r R ih =>
          intro h z hz
          rw [List.map_cons, List.zip_cons_cons] at hz
          rcases List.mem_cons.mp hz with rfl | hz
          · obtain ⟨h1, h2⟩ := lk_in (h r (List.mem_cons_self ..))
            show decide (lackL (lk ts r) ∈ (r.filter fun t => !decide (t ∈ ts)).map lackL) = true
            rw [decide_eq_true_eq]
            exact List.mem_map.mpr ⟨_, List.mem_filter.mpr ⟨h1, by simp [h2]⟩, rfl⟩
          · exact ih (fun x hx => h x (List.mem_cons_of_mem _ hx)) z hz
      exact this R hno
    rw [ask_no hno, Bool.and_false, hn, decide_eq_true rfl] <;> rfl
/-! ### the names -/
structure Names (names : List Str) : Prop extends Nm names where
  five : names.length = 5
  f32 : ∀ t ∈ names, Free 32 t
  f10 : ∀ t ∈ names, Free 10 t
def numS (n : Nat) : Str := Str.ofString (toString ((n : Nat) : Int))
def namesOf (n : Nat) : List Str := [("a1" : Str), "a10", "a2", "b3"] ++ [("c" : Str) ++ numS n]
theorem free_num {c n : Nat} (h : c < 48 ∨ 57 < c) : Free c (numS n) := by
  unfold Free numS
  rw [tl_num]
  exact numL_free h
theorem names_ok {n : Nat} (h : n ≤ 9999) : Names (namesOf n) := by
  have hl : (numS n).length ≤ 4 := by
    rw [len_tl]
    unfold numS
    rw [tl_num]
    exact numL_len (by decide) (by omega)
  have hc : ("c" : Str).length = 1 := by decide +kernel
  have four : ∀ (p : Str → Prop), p "a1" → p "a10" → p "a2" → p "b3" → p (("c" : Str) ++ numS n) → ∀ t ∈ namesOf n, p t := fun p h1 h2 h3 h4 h5 t ht => by
    unfold namesOf at ht
    simp only [List.mem_append, List.mem_cons, List.not_mem_nil, or_false] at ht
    rcases ht with (rfl | rfl | rfl | rfl) | rfl
    · exact h1
    · exact h2
    · exact h3
    · exact h4
    · exact h5
  refine ⟨⟨by unfold namesOf; simp, by unfold namesOf; simp, four _ ?_ ?_ ?_ ?_ ?_⟩, by unfold namesOf; simp, four _ ?_ ?_ ?_ ?_ ?_, four _ ?_ ?_ ?_ ?_ ?_⟩
  · decide +kernel
  · decide +kernel
  · decide +kernel
  · decide +kernel
  · rw [len_app]; omega
  · unfold Free tl; decide +kernel
  · unfold Free tl; decide +kernel
  · unfold Free tl; decide +kernel
  · unfold Free tl; decide +kernel
  · exact free_app (by unfold Free tl; decide +kernel) (free_num (by omega))
  · unfold Free tl; decide +kernel
  · unfold Free tl; decide +kernel
  · unfold Free tl; decide +kernel
  · unfold Free tl; decide +kernel
  · exact free_app (by unfold Free tl; decide +kernel) (free_num (by omega))
theorem free_rows {c : Nat} {names : List Str} {P : Poly} (G : Gd names P) (h : ∀ t ∈ names, Free c t) : ∀ row ∈ sets P, ∀ t ∈ row, Free c t := fun row hr t ht => by
  obtain ⟨m, hm, rfl⟩ := List.mem_map.mp hr
  obtain ⟨p, hp, rfl⟩ := List.mem_map.mp ht
  exact h _ (G.nm m hm p hp)
section
variable {A : Sto} {names : List Str} {P : Poly} {ts : List Str} {b : Bool} {tP : Addr}
theorem s_20 (ns : List Int) : M_20 [.scr (ns.map .int)] [.tab tP tQ] = .ok (.ref 1) [.tab tP tQ, .lst (plD ns 0 0 0 0)] := by
  have h : m_20 [some (.scr (ns.map .int))] [.tab tP tQ] = .ok ([some (.scr (ns.map .int))], .rt (.ref 1)) [.tab tP tQ, .lst (plD ns 0 0 0 0)] :=
    sRet_eq (xLstR_eq (aCons_eq (xN1_eq (d := .lst (ns.map .int)) (xVar_eq rfl) rfl) (aCons_eq xInt_eq (aCons_eq xInt_eq (aCons_eq xInt_eq (aCons_eq xInt_eq (a1_eq xNon_eq)))))) (by
      show 6 ≤ sizeLine
      decide))
  show runB 1 m_20 [.scr (ns.map .int)] [.tab tP tQ] = _
  unfold runB
  exact (bind_ok h).trans rfl
/-- what stands when a turn begins -/
structure Stand (tP : Addr) (X : Sto) : Prop where
  tab : X[0]? = some (.tab tP tQ)
  pa : PA X
  fl : Flat X
theorem Stand.stp {X X' : Sto} (h : Stand tP X) (s : Stp X X') : Stand tP X' := ⟨by rw [s.at (by omega)]; exact h.tab, s.pa h.pa, s.flat h.fl⟩
theorem Stand.app {X : Sto} (h : Stand tP X) (l : List Str) : Stand tP (X ++ [AO.lst (l.map D.str)]) := by
  have hlt := h.pa.lt
  exact ⟨by rw [List.getElem?_append_left (by omega)]; exact h.tab, h.pa.app, flat_snoc h.fl (flat_strs l)⟩
theorem Stp.snoc {X B : Sto} {o : AO} (h : 1 < B.length) (s : Stp (B ++ [o]) X) : ∃ B', X = B' ++ [o] ∧ Stp B B' := s.app h
noncomputable abbrev papersBody : StM := sExp (xM "list" mAppend (xVar 7) (aCons (xCall 5 M_34 (aCons (xVar 1) (aCons (xVar 4) (aCons (xVar 5) (aCons (xCall 2 M_22 (aCons (xVar 1) (aCons (x1 (opSl none (some 2) none) (xVar 7)) aNil))) (aCons (xVar 2) aNil)))))) aNil))
/-- the spoilt papers -/
theorem spoilt {B : Sto} {o0 o3 o6 i8 o9 : Option D} {x0 x1 : Str} {ps : List Str} (N : Nm names) (h : Stand tP B) (h0 : x0.length ≤ 200) (h1 : x1.length ≤ 200) (hps : ps.length ≤ 10) (hpl : ∀ x ∈ ps, x.length ≤ 2000) :
    ∃ (B' : Sto) (ps' : List Str) (o8 : Option D), mFor (iRange (aCons (xInt 4) aNil)) (gName 8) papersBody [o0, some (.ref 1), some (eL names), o3, some (eP P), some (tokD b ts), o6, some (.ref B.length), i8, o9] (B ++ [AO.lst ((x0 :: x1 :: ps).map D.str)]) =
      .ok ([o0, some (.ref 1), some (eL names), o3, some (eP P), some (tokD b ts), o6, some (.ref B.length), o8, o9], .nx) (B' ++ [AO.lst ((x0 :: x1 :: ps').map D.str)]) ∧ Stp B B' ∧ ps'.length ≤ 14 ∧ ∀ x ∈ ps', x.length ≤ 2000 := by
  have hsz := sizeLine_eq
  have hlt := h.pa.lt
  obtain ⟨η2, c, A2, e, hh⟩ := mFor_inv (mi := iRange (aCons (xInt 4) aNil)) (g := gName 8) (body := papersBody)
    (η := [o0, some (.ref 1), some (eL names), o3, some (eP P), some (tokD b ts), o6, some (.ref B.length), i8, o9]) (A0 := B ++ [AO.lst ((x0 :: x1 :: ps).map D.str)]) (A := B ++ [AO.lst ((x0 :: x1 :: ps).map D.str)]) (fun (i : Nat) => D.int (i : Int)) (fun _ _ => False)
    (it := ⟨(List.range (4 : Int).toNat).map fun (i : Nat) => D.int (i : Int), fun _ => True⟩)
    (fun ys η X => ∃ (B' : Sto) (ps' : List Str) (o8 : Option D), X = B' ++ [AO.lst ((x0 :: x1 :: ps').map D.str)] ∧ η = [o0, some (.ref 1), some (eL names), o3, some (eP P), some (tokD b ts), o6, some (.ref B.length), o8, o9] ∧ Stp B B' ∧ ps'.length + ys.length ≤ 14 ∧ ∀ x ∈ ps', x.length ≤ 2000)
    (List.range (4 : Int).toNat) (iRange_eq (a1_eq xInt_eq) (rgIt_eq (by omega) (by omega))) rfl ⟨B, ps, i8, rfl, rfl, h.pa.refl, by rw [List.length_range]; show ps.length + 4 ≤ 14; omega, hpl⟩ (fun _ _ _ _ => trivial) fun i ys η X ⟨B', ps', o8, eX, eη, s, hn, hpl'⟩ => by
      subst eX
      subst eη
      rw [List.length_cons] at hn
      have st := (h.stp s).app (x0 :: x1 :: ps')
      have hBl : B'.length = B.length := s.len
      have hat : (B' ++ [AO.lst ((x0 :: x1 :: ps').map D.str)])[B.length]? = some (.lst ((x0 :: x1 :: ps').map D.str)) := by
        rw [← hBl]
        exact at_end _
      have hsl : opSl none (some 2) none (B' ++ [AO.lst ((x0 :: x1 :: ps').map D.str)]) (.ref B.length) = some (eL [x0, x1]) := opSl_ref hat (by simp) (pickL_take (x0 :: x1 :: ps') 2) (by show 2 ≤ sizeLine; omega)
      obtain ⟨z, X1, ez, zm, s1⟩ := picked_strs st.pa st.fl (l := [x0, x1]) (by simp) (by simp)
      have hz : z.length ≤ 200 := by
        simp only [List.mem_cons, List.not_mem_nil, or_false] at zm
        rcases zm with rfl | rfl
        · exact h0
        · exact h1
      obtain ⟨y, X2, ey, s2, hy⟩ := s_34 (P := P) (b := b) (ts := ts) N (st.stp s1).pa (st.stp s1).fl hz
      obtain ⟨B2, rfl, s3⟩ := Stp.snoc (by rw [hBl]; exact hlt) (s1.trans s2)
      have hB2 : B2.length = B.length := by rw [s3.len, hBl]
      refine ⟨_, _, [o0, some (.ref 1), some (eL names), o3, some (eP P), some (tokD b ts), o6, some (.ref B.length), some (.int (i : Int)), o9], .nx, B2 ++ [AO.lst ((x0 :: x1 :: (ps' ++ [y])).map D.str)], gName_eq, ?_, .inl ⟨rfl, B2, ps' ++ [y], _, rfl, rfl, s.trans s3, by rw [List.length_append]; simp; omega, fun x hx => ?_⟩⟩
      · have ea : B2 ++ [AO.lst ((x0 :: x1 :: (ps' ++ [y])).map D.str)] = (B2 ++ [AO.lst ((x0 :: x1 :: ps').map D.str)]).set B.length (.lst ((x0 :: x1 :: ps').map D.str ++ [D.str y])) := by
          rw [← hB2, set_end]
          simp
        rw [ea]
        refine sExp_eq (app_eq (xVar_eq rfl) hat (xCall_eq (aCons_eq (xVar_eq rfl) (aCons_eq (xVar_eq rfl) (aCons_eq (xVar_eq rfl) (aCons_eq (xCall_eq (aCons_eq (xVar_eq rfl) (a1_eq (x1_eq (xVar_eq rfl) hsl))) rfl ez) (a1_eq (xVar_eq rfl)))))) rfl ey) (by rw [← hB2]; exact at_end _) ?_)
        rw [List.length_map, List.length_cons, List.length_cons]
        omega
      · rcases List.mem_append.mp hx with hx | hx
        · exact hpl' x hx
        · rw [List.mem_singleton.mp hx]
          exact hy
  rcases hh with ⟨rfl, B', ps', o8, rfl, rfl, s, hn, hp'⟩ | ⟨d, _, hd⟩
  · rw [List.length_nil] at hn
    exact ⟨B', ps', o8, e, s, by omega, hp'⟩
  · exact hd.elim
/-- every paper is answered as is due -/
noncomputable abbrev askBody : StM := sIf (Cr.tNot (tVal (xCall 2 M_23 (aCons (xCall 3 M_31 (aCons (xVar 4) (aCons (xVar 5) (aCons (xVar 9) aNil)))) (aCons (xCall 3 M_30 (aCons (xVar 4) (aCons (xVar 5) (aCons (xVar 9) aNil)))) aNil))))) (sRet (xBl false)) mNext
theorem asked {X : Sto} {o0 o1 o2 o3 o6 o8 i9 : Option D} {n : Nat} {ps : List Str} (S : Small P ts) (hF : FreeR (sets P)) (hf : Flat X) (hX : X[n]? = some (.lst (ps.map D.str))) (hpl : ∀ x ∈ ps, x.length ≤ 2000) :
    ∃ o9 : Option D, mFor (iSeq (xVar 7)) (gName 9) askBody [o0, o1, o2, o3, some (eP P), some (tokD b ts), o6, some (.ref n), o8, i9] X = .ok ([o0, o1, o2, o3, some (eP P), some (tokD b ts), o6, some (.ref n), o8, o9], .nx) X := by
  obtain ⟨η2, c, A2, e, hh⟩ := mFor_inv (mi := iSeq (xVar 7)) (g := gName 9) (body := askBody)
    (η := [o0, o1, o2, o3, some (eP P), some (tokD b ts), o6, some (.ref n), o8, i9]) (A0 := X) (A := X) D.str (fun _ _ => False)
    (it := ⟨ps.map D.str, fun A' => A'[n]? = some (.lst (ps.map D.str))⟩)
    (fun ys η X' => X' = X ∧ (∃ o9 : Option D, η = [o0, o1, o2, o3, some (eP P), some (tokD b ts), o6, some (.ref n), o8, o9]) ∧ ∀ x ∈ ys, x.length ≤ 2000)
    ps (iSeq_eq (xVar_eq rfl) (by unfold seqIt; simp only [hX])) rfl ⟨rfl, ⟨i9, rfl⟩, hpl⟩ (fun _ _ _ ⟨e, _⟩ => by rw [e]; exact hX) fun x ys η X' ⟨eX, ⟨o9, eη⟩, hy⟩ => by
      subst eX
      subst eη
      have hx := hy x (List.mem_cons_self ..)
      have h31 := s_31 (b := b) S hf (text := x) (by omega)
      have h30 := s_30 (b := b) S hf (text := x) (by omega)
      rw [due_same hF] at h30
      have h23 := s_23a (askV (sets P) ts x) hf
      exact ⟨_, _, [o0, o1, o2, o3, some (eP P), some (tokD b ts), o6, some (.ref n), o8, some (.str x)], .nx, X', gName_eq, sIf_f (tNot_eq (b := true) (tVal_eq (xCall_eq (aCons_eq (xCall_eq (aCons_eq (xVar_eq rfl) (aCons_eq (xVar_eq rfl) (a1_eq (xVar_eq rfl)))) rfl h31) (a1_eq (xCall_eq (aCons_eq (xVar_eq rfl) (aCons_eq (xVar_eq rfl) (a1_eq (xVar_eq rfl)))) rfl h30))) rfl h23))) mNext_eq, .inl ⟨rfl, rfl, ⟨_, rfl⟩, fun y h => hy y (List.mem_cons_of_mem _ h)⟩⟩
  rcases hh with ⟨rfl, rfl, ⟨o9, rfl⟩, _⟩ | ⟨d, _, hd⟩
  · exact ⟨o9, e⟩
  · exact hd.elim
/-- one turn -/
noncomputable abbrev turnBody (tP : Addr) : StM := mSeq (sSet 4 (xCall 2 M_25 (aCons (xVar 1) (aCons (xVar 2) aNil)))) (mSeq (sSet 5 (xCall 3 M_32 (aCons (xVar 1) (aCons (xVar 4) (aCons (xVar 2) aNil))))) (mSeq (sSet 6 (xCall 2 M_29 (aCons (xVar 4) (aCons (xVar 5) aNil)))) (mSeq (sIf (Cr.tOr (Cr.tNot (tVal (xCall 2 M_23 (aCons (xCallK 2 (M_17 tP) g_17 (aCons (xVar 5) (aCons (xVar 4) aNil))) (aCons (xVar 6) aNil))))) (Cr.tNot (tVal (xCall 2 M_23 (aCons (xCall 2 (M_17 tP) (aCons (xVar 4) (aCons (xVar 5) aNil))) (aCons (xVar 6) aNil)))))) (sRet (xBl false)) mNext) (mSeq (sIf (Cr.tNot (tVal (xCall 2 M_23 (aCons (xCall 3 M_6 (aCons (xVar 4) (aCons (xVar 5) (aCons (xVar 6) aNil)))) (aCons (x2 opIsNot (xCall 2 M_28 (aCons (xVar 4) (aCons (xVar 5) aNil))) xNon) aNil))))) (sRet (xBl false)) mNext) (mSeq (sSet 7 (xLstR (aCons (xVar 6) (aCons (xCall 3 M_33 (aCons (xVar 1) (aCons (xVar 4) (aCons (xVar 5) aNil)))) (aCons (xCall 2 M_29 (aCons (xCall 2 M_25 (aCons (xVar 1) (aCons (xVar 2) aNil))) (aCons (xVar 5) aNil))) (aCons (xStr "") aNil)))))) (mSeq (sExp (xM "list" mAppend (xVar 7) (aCons (xCall 2 M_29 (aCons (xVar 4) (aCons (xCall 3 M_32 (aCons (xVar 1) (aCons (xVar 4) (aCons (xVar 2) aNil)))) aNil))) aNil))) (mSeq (mFor (iRange (aCons (xInt 4) aNil)) (gName 8) papersBody) (mFor (iSeq (xVar 7)) (gName 9) askBody))))))))
theorem turn {X : Sto} {o0 o3 o4 o5 o6 o7 o8 o9 : Option D} (N : Names names) (h : Stand tP X) :
    ∃ (X' : Sto) (q4 q5 q6 q7 q8 q9 : Option D), turnBody tP [o0, some (.ref 1), some (eL names), o3, o4, o5, o6, o7, o8, o9] X = .ok ([o0, some (.ref 1), some (eL names), o3, q4, q5, q6, q7, q8, q9], .nx) X' ∧ Stand tP X' := by
  have hsz := sizeLine_eq
  have n5 := N.five
  obtain ⟨P, X1, e25, s1, G⟩ := s_25 N.toNm h.pa h.fl
  have h1 := h.stp s1
  obtain ⟨ts, z, X2, e32, s2, hts⟩ := s_32 G N.toNm (by omega) h1.pa h1.fl
  have h2 := h1.stp s2
  have S : Small P ts := G.small N.toNm hts
  have F32 := free_rows G N.f32
  have F10 := free_rows G N.f10
  have e29 := s_29 (b := z) S h2.fl
  have hpv := paper_len S
  have e17 := s_17 (b := z) S h2.tab h2.fl
  have t1 : Cr.tOr (Cr.tNot (tVal (xCall 2 M_23 (aCons (xCallK 2 (M_17 tP) g_17 (aCons (xVar 5) (aCons (xVar 4) aNil))) (aCons (xVar 6) aNil))))) (Cr.tNot (tVal (xCall 2 M_23 (aCons (xCall 2 (M_17 tP) (aCons (xVar 4) (aCons (xVar 5) aNil))) (aCons (xVar 6) aNil))))) [o0, some (.ref 1), some (eL names), o3, some (eP P), some (tokD z ts), some (.str (paperV (sets P) ts)), o7, o8, o9] X2 = .ok false X2 :=
    tOr_f (tNot_eq (b := true) (tVal_eq (xCall_eq (aCons_eq (xCallK_eq (aCons_eq (xVar_eq rfl) (a1_eq (xVar_eq rfl))) rfl e17) (a1_eq (xVar_eq rfl))) rfl (s_23s _ h2.fl)))) (tNot_eq (b := true) (tVal_eq (xCall_eq (aCons_eq (xCall_eq (aCons_eq (xVar_eq rfl) (a1_eq (xVar_eq rfl))) rfl e17) (a1_eq (xVar_eq rfl))) rfl (s_23s _ h2.fl))))
  have e6 := s_6 (b := z) S h2.fl (text := paperV (sets P) ts) (by omega)
  rw [ask_self F10] at e6
  have e28 := s_28 (b := z) S h2.fl
  have t2' : Cr.tNot (tVal (xCall 2 M_23 (aCons (xCall 3 M_6 (aCons (xVar 4) (aCons (xVar 5) (aCons (xVar 6) aNil)))) (aCons (x2 opIsNot (xCall 2 M_28 (aCons (xVar 4) (aCons (xVar 5) aNil))) xNon) aNil)))) [o0, some (.ref 1), some (eL names), o3, some (eP P), some (tokD z ts), some (.str (paperV (sets P) ts)), o7, o8, o9] X2 = .ok false X2 :=
    tNot_eq (b := true) (tVal_eq (xCall_eq (aCons_eq (xCall_eq (aCons_eq (xVar_eq rfl) (aCons_eq (xVar_eq rfl) (a1_eq (xVar_eq rfl)))) rfl e6) (a1_eq (x2_eq (xCall_eq (aCons_eq (xVar_eq rfl) (a1_eq (xVar_eq rfl))) rfl e28) xNon_eq (opIsNot_opt _)))) rfl (s_23b _ h2.fl)))
  -- the papers
  obtain ⟨x, X3, e33, s3, hx⟩ := s_33 (b := z) S h2.pa h2.fl
  have h3 := h2.stp s3
  obtain ⟨P', X4, e25', s4, G'⟩ := s_25 N.toNm h3.pa h3.fl
  have h4 := h3.stp s4
  have S' : Small P' ts := G'.small N.toNm hts
  have e29' := s_29 (b := z) S' h4.fl
  have hpv' := paper_len S'
  have r7 : sSet 7 (xLstR (aCons (xVar 6) (aCons (xCall 3 M_33 (aCons (xVar 1) (aCons (xVar 4) (aCons (xVar 5) aNil)))) (aCons (xCall 2 M_29 (aCons (xCall 2 M_25 (aCons (xVar 1) (aCons (xVar 2) aNil))) (aCons (xVar 5) aNil))) (aCons (xStr "") aNil))))) [o0, some (.ref 1), some (eL names), o3, some (eP P), some (tokD z ts), some (.str (paperV (sets P) ts)), o7, o8, o9] X2 =
      .ok ([o0, some (.ref 1), some (eL names), o3, some (eP P), some (tokD z ts), some (.str (paperV (sets P) ts)), some (.ref X4.length), o8, o9], .nx) (X4 ++ [AO.lst ((paperV (sets P) ts :: x :: [paperV (sets P') ts, ("" : Str)]).map D.str)]) :=
    sSet_eq (xLstR_eq (aCons_eq (xVar_eq rfl) (aCons_eq (xCall_eq (aCons_eq (xVar_eq rfl) (aCons_eq (xVar_eq rfl) (a1_eq (xVar_eq rfl)))) rfl e33) (aCons_eq (xCall_eq (aCons_eq (xCall_eq (aCons_eq (xVar_eq rfl) (a1_eq (xVar_eq rfl))) rfl e25') (a1_eq (xVar_eq rfl))) rfl e29') (a1_eq xStr_eq)))) (by show 4 ≤ sizeLine; omega))
  have h4' := h4.app (paperV (sets P) ts :: x :: [paperV (sets P') ts, ("" : Str)])
  obtain ⟨ts', z', Y, e32', s5, hts'⟩ := s_32 G N.toNm (by omega) h4'.pa h4'.fl
  obtain ⟨B5, rfl, s5'⟩ := Stp.snoc h4.pa.lt s5
  have hB5 : B5.length = X4.length := s5'.len
  have h5 := h4.stp s5'
  have h5' := h4'.stp s5
  have S'' : Small P ts' := G.small N.toNm hts'
  have e29'' := s_29 (b := z') S'' h5'.fl
  have hpv'' := paper_len S''
  have r8 : sExp (xM "list" mAppend (xVar 7) (aCons (xCall 2 M_29 (aCons (xVar 4) (aCons (xCall 3 M_32 (aCons (xVar 1) (aCons (xVar 4) (aCons (xVar 2) aNil)))) aNil))) aNil)) [o0, some (.ref 1), some (eL names), o3, some (eP P), some (tokD z ts), some (.str (paperV (sets P) ts)), some (.ref X4.length), o8, o9] (X4 ++ [AO.lst ((paperV (sets P) ts :: x :: [paperV (sets P') ts, ("" : Str)]).map D.str)]) =
      .ok ([o0, some (.ref 1), some (eL names), o3, some (eP P), some (tokD z ts), some (.str (paperV (sets P) ts)), some (.ref X4.length), o8, o9], .nx) (B5 ++ [AO.lst ((paperV (sets P) ts :: x :: [paperV (sets P') ts, ("" : Str), paperV (sets P) ts']).map D.str)]) := by
    have ea : B5 ++ [AO.lst ((paperV (sets P) ts :: x :: [paperV (sets P') ts, ("" : Str), paperV (sets P) ts']).map D.str)] = (B5 ++ [AO.lst ((paperV (sets P) ts :: x :: [paperV (sets P') ts, ("" : Str)]).map D.str)]).set X4.length (.lst ((paperV (sets P) ts :: x :: [paperV (sets P') ts, ("" : Str)]).map D.str ++ [D.str (paperV (sets P) ts')])) := by
      rw [← hB5, set_end] <;> rfl
    rw [ea]
    exact sExp_eq (app_eq (xVar_eq rfl) (at_end _) (xCall_eq (aCons_eq (xVar_eq rfl) (a1_eq (xCall_eq (aCons_eq (xVar_eq rfl) (aCons_eq (xVar_eq rfl) (a1_eq (xVar_eq rfl)))) rfl e32'))) rfl e29'') (by rw [← hB5]; exact at_end _) (by show 4 < sizeLine; omega))
  rw [← hB5] at r7 r8
  obtain ⟨B6, ps', q8, e34, s6, hps', hpl'⟩ := spoilt (P := P) (b := z) (ts := ts) (o0 := o0) (o3 := o3) (o6 := some (.str (paperV (sets P) ts))) (i8 := o8) (o9 := o9) (x0 := paperV (sets P) ts) (x1 := x) (ps := [paperV (sets P') ts, ("" : Str), paperV (sets P) ts']) N.toNm h5 hpv hx (by simp) (fun y hy => by
    simp only [List.mem_cons, List.not_mem_nil, or_false] at hy
    rcases hy with rfl | rfl | rfl
    · omega
    · rw [len_e]; omega
    · omega)
  have hB6 : B6.length = B5.length := s6.len
  have h6 := (h5.stp s6).app (paperV (sets P) ts :: x :: ps')
  obtain ⟨q9, e31⟩ := asked (ps := paperV (sets P) ts :: x :: ps') (o0 := o0) (o1 := some (.ref 1)) (o2 := some (eL names)) (o3 := o3) (o6 := some (.str (paperV (sets P) ts))) (o8 := q8) (i9 := o9) (b := z) (n := B5.length) S F32 h6.fl (by rw [← hB6]; exact at_end _) (fun y hy => by
    rcases List.mem_cons.mp hy with rfl | hy
    · omega
    · rcases List.mem_cons.mp hy with rfl | hy
      · omega
      · exact hpl' y hy)
  exact ⟨_, _, _, _, _, _, _, mSeq_nx (sSet_eq (xCall_eq (aCons_eq (xVar_eq rfl) (a1_eq (xVar_eq rfl))) rfl e25)) (mSeq_nx (sSet_eq (xCall_eq (aCons_eq (xVar_eq rfl) (aCons_eq (xVar_eq rfl) (a1_eq (xVar_eq rfl)))) rfl e32)) (mSeq_nx (sSet_eq (xCall_eq (aCons_eq (xVar_eq rfl) (a1_eq (xVar_eq rfl))) rfl e29)) (mSeq_nx (sIf_f t1 mNext_eq) (mSeq_nx (sIf_f t2' mNext_eq) (mSeq_nx r7 (mSeq_nx r8 (mSeq_nx e34 e31))))))), h6⟩
/-- THE LAW, in plain Lean -/
theorem s_35 (ns : List Int) : M_35 tP [.scr (ns.map .int)] [.tab tP tQ] = .ok (.bl true) [.tab tP tQ] := by
  have hsz := sizeLine_eq
  have h0 : Stand tP [AO.tab tP tQ, .lst (plD ns 0 0 0 0)] := ⟨rfl, ⟨ns, 0, 0, 0, 0, rfl, by omega⟩, by
    show List.all [AO.tab tP tQ, .lst (plD ns 0 0 0 0)] (rokO 0) = true
    rw [List.all_cons, List.all_cons, flat_pl] <;> rfl⟩
  obtain ⟨v, X1, ev, v0, v1, s1⟩ := draw h0.pa h0.fl (n := 9999) (by omega) (by omega)
  have h1 := h0.stp s1
  have en : (1 : Int) + v = (((1 + v).toNat : Nat) : Int) := by omega
  have N := names_ok (n := (1 + v).toNat) (by omega)
  have hstr : bStr X1 (.int (1 + v)) = some (.str (numS (1 + v).toNat)) := by
    show (if (1 + v).natAbs.log2 < 1920 then some (D.str (toString (1 + v))) else none) = _
    have h3 : (1 + v).natAbs ≠ 0 := by omega
    have h4 : (1 + v).natAbs.log2 < 20 := (Nat.log2_lt h3).mpr (by omega)
    rw [if_pos (by omega)]
    unfold numS
    rw [← en]
  have hc : ("c" : Str).length = 1 := by decide +kernel
  have hnum : (numS (1 + v).toNat).length ≤ 9 := by
    have := N.tl (("c" : Str) ++ numS (1 + v).toNat) (by unfold namesOf; simp)
    rw [len_app] at this
    omega
  have r2 : sSet 2 (x2 opAdd (xLst (aCons (xStr "a1") (aCons (xStr "a10") (aCons (xStr "a2") (aCons (xStr "b3") aNil))))) (xLst (aCons (x2 opAdd (xStr "c") (xN (opN1 bStr) (aCons (x2 opAdd (xInt 1) (xCall 2 M_21 (aCons (xVar 1) (aCons (xInt 9999) aNil)))) aNil))) aNil))) [some (.scr (ns.map .int)), some (.ref 1), none, none, none, none, none, none, none, none] [AO.tab tP tQ, .lst (plD ns 0 0 0 0)] =
      .ok ([some (.scr (ns.map .int)), some (.ref 1), some (eL (namesOf (1 + v).toNat)), none, none, none, none, none, none, none], .nx) X1 :=
    sSet_eq (x2_eq (xLst_eq (aCons_eq xStr_eq (aCons_eq xStr_eq (aCons_eq xStr_eq (a1_eq xStr_eq)))) (by show 4 ≤ sizeLine; omega)) (xLst_eq (a1_eq (x2_eq xStr_eq (xN1_eq (x2_eq xInt_eq (xCall_eq (aCons_eq (xVar_eq rfl) (a1_eq xInt_eq)) rfl ev) opAdd_int) hstr) (opAdd_str (by omega)))) (by show 1 ≤ sizeLine; omega)) (opAdd_lst (a := [.str "a1", .str "a10", .str "a2", .str "b3"]) (by show 4 + 1 ≤ sizeLine; omega)))
  obtain ⟨η2, c, A2, e, hh⟩ := mFor_inv (mi := iRange (aCons (xInt 4) aNil)) (g := gName 3) (body := turnBody tP)
    (η := [some (.scr (ns.map .int)), some (.ref 1), some (eL (namesOf (1 + v).toNat)), none, none, none, none, none, none, none]) (A0 := X1) (A := X1) (fun (i : Nat) => D.int (i : Int)) (fun _ _ => False)
    (it := ⟨(List.range (4 : Int).toNat).map fun (i : Nat) => D.int (i : Int), fun _ => True⟩)
    (fun ys η X => Stand tP X ∧ ∃ o3 o4 o5 o6 o7 o8 o9 : Option D, η = [some (.scr (ns.map .int)), some (.ref 1), some (eL (namesOf (1 + v).toNat)), o3, o4, o5, o6, o7, o8, o9])
    (List.range (4 : Int).toNat) (iRange_eq (a1_eq xInt_eq) (rgIt_eq (by omega) (by omega))) rfl ⟨h1, none, none, none, none, none, none, none, rfl⟩ (fun _ _ _ _ => trivial) fun i ys η X ⟨h, o3, o4, o5, o6, o7, o8, o9, eη⟩ => by
      subst eη
      obtain ⟨X', q4, q5, q6, q7, q8, q9, et, h'⟩ := turn (o0 := some (.scr (ns.map .int))) (o3 := some (.int (i : Int))) (o4 := o4) (o5 := o5) (o6 := o6) (o7 := o7) (o8 := o8) (o9 := o9) N h
      exact ⟨_, _, _, .nx, X', gName_eq, et, .inl ⟨rfl, h', _, _, _, _, _, _, _, rfl⟩⟩
  rcases hh with ⟨rfl, h, o3, o4, o5, o6, o7, o8, o9, rfl⟩ | ⟨d, _, hd⟩
  · refine callB_rt (η0 := [some (.scr (ns.map .int)), none, none, none, none, none, none, none, none, none]) rfl (mSeq_nx (sSet_eq (xCall_eq (a1_eq (xVar_eq rfl)) rfl (s_20 ns))) (mSeq_nx r2 (mSeq_nx e (sRet_eq xBl_eq)))) ?_ rfl rfl
    have hlt := h.pa.lt
    have ht := h.tab
    match A2, hlt, ht with
    | a :: l, _, ht =>
      have : a = .tab tP tQ := by simpa using ht
      rw [this] <;> rfl
  · exact hd.elim
end
end K41
end

section
set_option Elab.async false
set_option linter.all false
set_option maxRecDepth 100000
set_option maxHeartbeats 1000000
set_option pp.maxSteps 600
/-! The end: the facts together, the law's call. -/
namespace K41
open PySem PySem.Spec PyProof.Rows L2 Cr
section
variable {w : World} {h : Heap} {K : PySem.W.Frag} {mg : Str → Option Value} {base : Heap}
abbrev cP (K : PySem.W.Frag) : Addr × Addr := He.cT K ("least_sets", none)
theorem h_tb (X : K.In h) (c : He.SaysX fa fn [] tf ex2 w h K) (G : h.Ns mainGlobals mg) (TB : LamX.TabB base mg (cP K).1 (cP K).2) : ∀ (f : Addr) (cdv : Value), mg "least_sets" = some (.ref f) → CodeAt K f cdv → ∃ c, cdv = .ref c ∧ LamX.TabB base mg c (cP K).2 := by
  intro f cdv hmg hc
  obtain ⟨oc, od, osl, fd', lk, e⟩ := hc
  obtain ⟨fd, F⟩ := c.t.d.def_ 5 (d := d_11) rfl
  have hg := He.glo_ok X G (c.t.d.fact 5 (f := .glo "least_sets") rfl)
  have ef := hmg.symm.trans hg
  cases ef
  obtain ⟨oc2, od2, dV, kV, doc, pm, an, cdv2, ct, osl2, rfl, lk2, hcd, _, _⟩ := F.ex
  obtain ⟨c2, e2⟩ := He.codeIn_ref hcd
  subst e2
  have lk3 : K.lookup (He.fAd K ("least_sets", none)) = some ⟨oc, od, .func fd', osl⟩ := lk
  have hq := lk3.symm.trans lk2
  cases hq
  have hcode : He.codeOf K ("least_sets", none) = c2 := He.codeOf_eq lk2 rfl
  refine ⟨c2, e.symm, ?_⟩
  have e3 : (cP K).1 = c2 := hcode
  rw [e3] at TB
  exact TB
theorem h_fs (X : K.In h) (c : He.SaysX fa fn [] tf ex2 w h K) (iv : iObs K = iVal) (G : h.Ns mainGlobals mg) (TB : LamX.TabB base mg (cP K).1 (cP K).2) : Fs (Bw w K) mg base (cP K).2 where
  d19 := h_19 X c G
  d27 := h_27 X c G
  d21 := h_21 X c G
  d22 := h_22 X c G
  d26 := h_26 X c G
  d28 := h_28 X c G
  d10 := h_10 X c G
  d4 := h_4 X c G
  d13 := h_13 X c G
  d7 := h_7 X c G
  d8 := h_8 X c G
  d16 := h_16 X c G
  d23 := h_23 X c G
  d20 := h_20 X c G
  d24 := h_24 X c G
  d25 := h_25 X c G
  d29 := h_29 X c G
  d30 := h_30 X c G
  d32 := h_32 X c G
  d33 := h_33 X c G
  d34 := h_34 X c G
  d11 := h_11 X c G
  d14 := h_14 X c G
  d17 := h_17 X c G
  d6 := h_6 X c G
  d31 := h_31 X c G
  d35 := h_35 X c G
  G := h_mg X c G
  RT := h_raise X c iv G
  TT := h_try X c G
  tb := h_tb X c G TB
theorem h_law (X : K.In h) (c : He.SaysX fa fn [] tf ex2 w h K) (iv : iObs K = iVal) (G : h.Ns mainGlobals mg) {f : Addr} (hf : mg "law" = some (.ref f)) : ∃ fd : FuncData, (∀ (s : Shared) (u : Value), BindsTo s fd ⟨[u], []⟩ [("_law_script", u)]) ∧
    ∀ base : Heap, LamX.TabB base mg (cP K).1 (cP K).2 → FnOk R.prog w K mg base (L2.CX R.prog w) 10 f fd ["_law_script"] (spOf (Bw w K) 1 (M_35 (cP K).2)) := by
  obtain ⟨f', fd, D, hmg⟩ := h_35 X c G
  have e := hf.symm.trans hmg
  cases e
  have b := FunD.bindsA (ps := ["_law_script"]) D (fun kV doc pm an cdv ct us hl => by match us, hl with | [a], _ => rfl)
  refine ⟨fd, fun s u => b s [u] rfl, fun base TB => ?_⟩
  have Z : Fs (Bw w K) mg base (cP K).2 := h_fs X c iv G TB
  exact fnok_of (B := Bw w K) (k := 9) (N := N35) (ps := ["_law_script"]) D (fsc_by (by kernel_rfl)) (fun E S Q l _ h => hm_call h) (fun cdv A outer s H E hc o => w_35 Z.G (Cal.mono (f_20 Z) (by decide)) (Cal.mono (f_21 Z) (by decide)) (Cal.mono (f_25 Z) (by decide)) (Cal.mono (f_32 Z) (by decide)) (Cal.mono (f_29 Z) (by decide)) (Cal.mono (f_23 Z) (by decide)) (Cal.mono (f_17 Z) (by decide)) (Cal.mono (f_6 Z) (by decide)) (Cal.mono (f_28 Z) (by decide)) (Cal.mono (f_33 Z) (by decide)) (Cal.mono (f_34 Z) (by decide)) (Cal.mono (f_22 Z) (by decide)) (Cal.mono (f_31 Z) (by decide)) (Cal.mono (f_30 Z) (by decide)) (CalK.mono (fk_17 Z) (by decide)) o)
/-- the law's promise at a script -/
theorem h_sp {tP a : Addr} {ns : List Int} {H : Hp} (hK : noL K = true) (hT : H tP = some (.tbl #[])) (hS : SqL K H a (ns.map V.int)) : spOf (Bw w K) 1 (M_35 tP) [.ref a] H (fun v _ => v = .bl true) fun _ _ _ => False := by
  have hR : Rd H a (.lst (ns.map V.int)) := by
    rcases hS with h | ⟨o, its, n, lk, hcl, _⟩
    · exact h
    · have hm := He.lookup_mem lk
      have := List.all_eq_true.mp hK _ hm
      rw [hcl] at this
      simp at this
  refine ⟨rfl, ⟨fun _ => tP, [.tab tP tQ], H, []⟩, [.scr (ns.map .int)], rfl, ?_, ?_, ?_⟩
  · refine ⟨fun n o e => ?_, fun n m o o' e1 e2 _ _ _ => ?_, fun a h => nomatch h⟩
    · match n, e with
      | 0, e =>
        have e' : o = .tab tP tQ := by simpa using e.symm
        subst e'
        refine ⟨rfl, #[], hT, True.intro, fun pos cv hc => ?_⟩
        have hc' : codeAmong pos [] = some cv := hc
        simp [codeAmong] at hc'
    · match n, m, e1, e2 with
      | 0, 0, _, _ => rfl
  · have nl : ¬ Live ⟨fun _ => tP, [.tab tP tQ], H, []⟩ a := by
      rintro (⟨n, o, _, _, e⟩ | h)
      · have e' : tP = a := e
        subst e'
        rcases hR with h | ⟨ob, h⟩
        · rw [hT] at h
          cases h
        · rw [hT] at h
          cases h
      · cases h
    have rl : ∀ ns : List Int, RepL (Bw w K).toBx ⟨fun _ => tP, [.tab tP tQ], H, []⟩ (ns.map .int) (ns.map V.int) := fun ns => by
      induction ns with
      | nil => exact .nil
      | cons n ns ih => exact .cons (.int n) ih
    exact .cons (.scr hR nl (rl ns)) .nil
  · show Post (Bw w K) _ _ _ (M_35 tP [.scr (ns.map .int)] [.tab tP tQ])
    rw [s_35]
    intro S' _ _ v rv
    cases rv
    rfl
end
end K41
end

set_option Elab.async false
set_option linter.all false
set_option maxRecDepth 100000
set_option maxHeartbeats 0
open PySem PySem.W PySem.Calls PyProof.Rows
theorem PySem.Challenge.cw_ledgertrace_k41_why_papers_holds : PySem.Challenge.rw_ledgertrace_k41_why_papers.Holds := by
  w_on; o_law
  refine HandSHeadRun.head_any (r := OpenLaw.row PySem.Challenge.rw_ledgertrace_k41_why_papers) (q := view (OpenLaw.row PySem.Challenge.rw_ledgertrace_k41_why_papers).prog [35]) (H := K41.hkM) (ob := K41.obM) (M := 3000) (loose := K41.names) (d := HandSHeadRun.topDef (OpenLaw.row PySem.Challenge.rw_ledgertrace_k41_why_papers).prog 35) (kwd := []) K41.obM_eq
    (by kernel_rfl) (fun s => by kernel_rfl) K41.runM (by kernel_rfl) (by kernel_rfl) (by kernel_rfl) (by rfl) (by first | assumption | decide +kernel) (by decide +kernel) ⟨rfl, rfl, rfl, rfl, rfl, by decide +kernel⟩ ?hw ?hc
  case hw => w_witness2
  case hc =>
    refine LamX.walk_ofTsE (l := PySem.Challenge.rw_ledgertrace_k41_why_papers) (n := 63) (k := 10) (x := "_law_script") (CX := fun w => L2.CX (OpenLaw.row PySem.Challenge.rw_ledgertrace_k41_why_papers).prog w) rfl (by decide) (by kernel_rfl) ⟨rfl, by decide, by decide⟩ ?F ?C
    case F =>
      intro w mg fa h Y G hmg0
      obtain ⟨K, KX, c, iv⟩ := Y
      have hmg : mg ("law" : PySem.Str) = some (.ref fa) := by
        have e : (HandSHeadRun.topDef (OpenLaw.row PySem.Challenge.rw_ledgertrace_k41_why_papers).prog 35).name = ("law" : PySem.Str) := by kernel_rfl
        rw [← e]
        exact hmg0
      obtain ⟨fd, hb, hF⟩ := K41.h_law KX c iv G hmg
      have hK : K41.noL K = true := K41.ex_at c 24
      have one : ∀ {p : Addr × Addr}, p ∈ [K41.cP K] → p = K41.cP K := fun h => List.mem_singleton.mp h
      refine ⟨K, KX, fd, [K41.cP K], Cr.spOf (K41.Bw w K) 1 (K41.M_35 (K41.cP K).2), fun p hp => ?_, fun p hp => ?_, fun p hp => ?_, hb, fun H a ns hl _ hT hS => ?_, fun base _ _ TB => ?_⟩
      · rw [one hp]
        exact c.empty ("least_sets", none) (List.mem_singleton.mpr rfl)
      · rw [one hp]
        exact c.out ("least_sets", none) (List.mem_singleton.mpr rfl)
      · rw [one hp]
        exact PySem.W.codeHd_of_K KX (c.hd ("least_sets", none) (List.mem_singleton.mpr rfl))
      · exact K41.h_sp hK (hT _ (List.mem_singleton.mpr rfl)) hS
      · exact hF base (TB _ (List.mem_singleton.mpr rfl))
    case C =>
      intro w H s e s' ⟨a, B, H', cls, d, _, _, _, _, _, _, _, z⟩
      exact z
