import PyProof.Rows.All
import Wide.All
import OpenK.AllK
import Wide.FinOn
import PySem.Challenge.RW_pb0022_01
open PySem PySem.W PyProof.Rows PySem.Calls
set_option Elab.async false
set_option linter.all false
set_option compiler.extract_closed false
namespace Mine
/-- values as trees -/
inductive V where
  | none
  | bool (b : Bool)
  | int (i : Int)
  | str (s : List Nat)
  | tup (xs : List V)
  | lst (xs : List V)
  | fn (f : Nat)
  | dict (ks : List (List Nat)) (vs : List V)
  | deck

noncomputable def mkS (s : List Nat) : Str := ⟨s.toArray⟩
theorem mkS_append (a b : List Nat) : mkS a ++ mkS b = mkS (a ++ b) := by
  apply Str.ext'
  simp [mkS, Str.cps_append]
theorem mkS_length (a : List Nat) : (mkS a).length = a.length := by simp [mkS, Str.length]
theorem mkS_inj {a b : List Nat} (h : mkS a = mkS b) : a = b := by
  have := congrArg Str.cps h
  simpa [mkS] using this
theorem mkS_of (x : Str) : x = mkS x.cps.toList := by
  apply Str.ext'
  simp [mkS]

structure Cx where
  prog : Program
  w : World
  mg : Str → Option Value
  mb : Str → Option Value
  h₀ : Heap
  D : Option Addr
  fns : List Str
  gens : Array GenState
  os : OsState

noncomputable def LstAt (h : Heap) (a : Addr) (vs : List Value) : Prop := ∃ n, h.get? a = some { cls := .type "list", data := .seq vs.toArray n }
noncomputable def TupAt (h : Heap) (a : Addr) (vs : List Value) : Prop := ∃ n, h.get? a = some { cls := .type "tuple", data := .seq vs.toArray n }
theorem LstAt.isList {h : Heap} {a : Addr} {vs : List Value} (x : LstAt h a vs) : h.IsList a vs.toArray := let ⟨n, e⟩ := x; ⟨_, e, rfl, n, rfl⟩
theorem TupAt.isTup {h : Heap} {a : Addr} {vs : List Value} (x : TupAt h a vs) : IsTup h a vs.toArray := let ⟨n, e⟩ := x; ⟨_, e, rfl, n, rfl⟩
theorem LstAt.inj {h : Heap} {a : Addr} {vs ws : List Value} (x : LstAt h a vs) (y : LstAt h a ws) : vs = ws := by
  obtain ⟨n, e⟩ := x
  obtain ⟨m, f⟩ := y
  rw [e] at f
  have := Option.some.inj f
  injection this with _ _ h3
  injection h3 with h4
  simpa using h4

mutual
noncomputable def Rep (C : Cx) (av : Addr → Prop) (h : Heap) : V → Value → Prop
  | .none, v => v = .none
  | .bool b, v => v = .bool b
  | .int i, v => ∃ t, v = .int i t
  | .str s, v => ∃ t, v = .str (mkS s) t
  | .tup ds, v => ∃ a vs, v = .ref a ∧ ¬ av a ∧ TupAt h a vs ∧ RepL C av h ds vs
  | .lst ds, v => ∃ a vs, v = .ref a ∧ ¬ av a ∧ LstAt h a vs ∧ RepL C av h ds vs
  | .fn f, v => ∃ nm, C.fns[f]? = some nm ∧ C.mg nm = some v
  | .dict ks ds, v => ∃ a rv, v = .ref a ∧ (¬ av a ∧ (a == sysModules) = false) ∧ h.DictOf (strKind C.prog C.w) a ((ks.map mkS).zip rv) ∧ ks.length = ds.length ∧ RepL C av h ds rv
  | .deck, v => ∃ a, C.D = some a ∧ v = .ref a
noncomputable def RepL (C : Cx) (av : Addr → Prop) (h : Heap) : List V → List Value → Prop
  | [], vs => vs = []
  | d :: ds, vs => ∃ v vs', vs = v :: vs' ∧ Rep C av h d v ∧ RepL C av h ds vs'
end

theorem dictOf_move {prog : Program} {w : World} {h h' : Heap} {a : Addr} {kvs : List (Str × Value)} (x : h.DictOf (strKind prog w) a kvs)
    (e : ∀ o, h.get? a = some o → h'.get? a = some o) : h'.DictOf (strKind prog w) a kvs :=
  let ⟨o, es, ep, ho, r⟩ := x; ⟨o, es, ep, e o ho, r⟩

mutual
theorem Rep.move {C : Cx} {av av' : Addr → Prop} {h h' : Heap} (k : ∀ a o, ¬ av a → h.get? a = some o → ¬ av' a ∧ h'.get? a = some o) :
    ∀ (d : V) {v : Value}, Rep C av h d v → Rep C av' h' d v
  | .none, _, r => r
  | .bool _, _, r => r
  | .int _, _, r => r
  | .str _, _, r => r
  | .tup ds, _, r => by
    obtain ⟨a, vs, e, na, ⟨n, t⟩, rl⟩ := r
    exact Exists.intro a ⟨vs, e, (k a _ na t).1, ⟨n, (k a _ na t).2⟩, RepL.move k ds rl⟩
  | .lst ds, _, r => by
    obtain ⟨a, vs, e, na, ⟨n, t⟩, rl⟩ := r
    exact Exists.intro a ⟨vs, e, (k a _ na t).1, ⟨n, (k a _ na t).2⟩, RepL.move k ds rl⟩
  | .fn _, _, r => r
  | .dict ks ds, _, r => by
    obtain ⟨a, rv, e, na, ⟨o, es, ep, ho, q⟩, hl, rl⟩ := r
    exact Exists.intro a ⟨rv, e, ⟨(k a _ na.1 ho).1, na.2⟩, ⟨o, es, ep, (k a _ na.1 ho).2, q⟩, hl, RepL.move k ds rl⟩
  | .deck, _, r => r
theorem RepL.move {C : Cx} {av av' : Addr → Prop} {h h' : Heap} (k : ∀ a o, ¬ av a → h.get? a = some o → ¬ av' a ∧ h'.get? a = some o) :
    ∀ (ds : List V) {vs : List Value}, RepL C av h ds vs → RepL C av' h' ds vs
  | [], _, r => r
  | d :: ds, _, r => by
    obtain ⟨v, vs', e, r1, r2⟩ := r
    exact Exists.intro v ⟨vs', e, Rep.move k d r1, RepL.move k ds r2⟩
end

theorem RepL.length {C : Cx} {av : Addr → Prop} {h : Heap} : ∀ {ds : List V} {vs : List Value}, RepL C av h ds vs → vs.length = ds.length
  | [], _, r => by obtain rfl := r; rfl
  | d :: ds, _, r => by
    obtain ⟨v, vs', rfl, _, r2⟩ := r
    simp [RepL.length r2]
theorem RepL.append {C : Cx} {av : Addr → Prop} {h : Heap} : ∀ {ds es : List V} {vs ws : List Value}, RepL C av h ds vs → RepL C av h es ws → RepL C av h (ds ++ es) (vs ++ ws)
  | [], _, _, _, r, q => by obtain rfl := r; exact q
  | d :: ds, _, _, _, r, q => by
    obtain ⟨v, vs', rfl, r1, r2⟩ := r
    exact Exists.intro v ⟨_, rfl, r1, RepL.append r2 q⟩
theorem RepL.get {C : Cx} {av : Addr → Prop} {h : Heap} : ∀ {ds : List V} {vs : List Value}, RepL C av h ds vs → ∀ {i : Nat} {d : V}, ds[i]? = some d → ∃ v, vs[i]? = some v ∧ Rep C av h d v
  | [], _, _, _, _, e => by simp at e
  | d :: ds, _, r, i, d', e => by
    obtain ⟨v, vs', rfl, r1, r2⟩ := r
    cases i with
    | zero => simp at e; subst e; exact ⟨v, by simp, r1⟩
    | succ i => simp at e; obtain ⟨v', e', r'⟩ := RepL.get r2 e; exact ⟨v', by simpa using e', r'⟩
theorem RepL.take {C : Cx} {av : Addr → Prop} {h : Heap} : ∀ (n : Nat) {ds : List V} {vs : List Value}, RepL C av h ds vs → RepL C av h (ds.take n) (vs.take n)
  | 0, _, _, _ => by simp [RepL]
  | n + 1, [], _, r => by obtain rfl := r; exact rfl
  | n + 1, d :: ds, _, r => by
    obtain ⟨v, vs', rfl, r1, r2⟩ := r
    exact Exists.intro v ⟨_, rfl, r1, RepL.take n r2⟩
theorem RepL.drop {C : Cx} {av : Addr → Prop} {h : Heap} : ∀ (n : Nat) {ds : List V} {vs : List Value}, RepL C av h ds vs → RepL C av h (ds.drop n) (vs.drop n)
  | 0, _, _, r => by simpa using r
  | n + 1, [], _, r => by obtain rfl := r; exact rfl
  | n + 1, d :: ds, _, r => by
    obtain ⟨v, vs', rfl, r1, r2⟩ := r
    exact RepL.drop n r2
theorem RepL.one {C : Cx} {av : Addr → Prop} {h : Heap} {d : V} {v : Value} (r : Rep C av h d v) : RepL C av h [d] [v] := by
  exact Exists.intro v ⟨[], rfl, r, rfl⟩
theorem RepL.cons {C : Cx} {av : Addr → Prop} {h : Heap} {d : V} {v : Value} {ds : List V} {vs : List Value} (r : Rep C av h d v) (q : RepL C av h ds vs) : RepL C av h (d :: ds) (v :: vs) := by
  exact Exists.intro v ⟨vs, rfl, r, q⟩
theorem RepL.nil {C : Cx} {av : Addr → Prop} {h : Heap} : RepL C av h [] [] := by exact rfl

/-- room left on the stacks -/
structure Room (n : Nat) (A : Around) : Prop where
  hd : A.handled = .none
  depth : A.depth + n ≤ 900
  units : A.units + 5 * n + 40 ≤ 9000
theorem Room.deeper {n : Nat} {A : Around} (r : Room (n + 1) A) (env : Env) : Room n (A.deeper env) :=
  ⟨r.hd, by have := r.depth; show A.depth + 1 + n ≤ 900; omega, by have := r.units; show A.units + 3 + 5 * n + 40 ≤ 9000; omega⟩
theorem Room.le {n m : Nat} {A : Around} (r : Room m A) (h : n ≤ m) : Room n A :=
  ⟨r.hd, by have := r.depth; omega, by have := r.units; omega⟩
theorem Room.c {n : Nat} {A : Around} (r : Room n A) : A.units + 8 < cLine := by have := r.units; show A.units + 8 < 9900; omega
theorem Room.d {n : Nat} {A : Around} (r : Room n A) (h : 1 ≤ n) : A.depth < recursionLimit := by have := r.depth; show A.depth < 1000; omega


structure St (C : Cx) (s : Shared) : Prop where
  keep : ∀ a o, C.h₀.get? a = some o → s.heap.get? a = some o
  deck : ∀ a, C.D = some a → ∃ vs ns, LstAt s.heap a vs ∧ IntsAre vs ns ∧ vs.length ≤ 64
  gens : s.gens = C.gens
  os : s.os = C.os

structure AvOk (C : Cx) (av : Addr → Prop) (h : Heap) : Prop where
  deck : ∀ a, C.D = some a → av a
  there : ∀ a, av a → h.get? a ≠ .none

structure Step (C : Cx) (s s' : Shared) : Prop where
  keep : ∀ a o, C.D ≠ some a → s.heap.get? a = some o → s'.heap.get? a = some o
  deck : ∀ a, C.D = some a → s.heap.get? a ≠ .none → s'.heap.get? a ≠ .none

theorem Step.refl (C : Cx) (s : Shared) : Step C s s := ⟨fun _ _ _ e => e, fun _ _ e => e⟩
theorem Step.trans {C : Cx} {s s' s'' : Shared} (x : Step C s s') (y : Step C s' s'') : Step C s s'' :=
  ⟨fun a o n e => y.keep a o n (x.keep a o n e), fun a n e => y.deck a n (x.deck a n e)⟩
theorem Step.there {C : Cx} {s s' : Shared} (x : Step C s s') {a : Addr} (e : s.heap.get? a ≠ .none) : s'.heap.get? a ≠ .none := by
  by_cases h : C.D = some a
  · exact x.deck a h e
  · cases q : s.heap.get? a with
    | none => exact absurd q e
    | some o => rw [x.keep a o h q]; simp
theorem AvOk.step {C : Cx} {av : Addr → Prop} {s s' : Shared} (x : AvOk C av s.heap) (y : Step C s s') : AvOk C av s'.heap :=
  ⟨x.deck, fun a h => y.there (x.there a h)⟩
theorem Rep.step {C : Cx} {av : Addr → Prop} {s s' : Shared} {d : V} {v : Value} (r : Rep C av s.heap d v) (x : AvOk C av s.heap) (y : Step C s s') : Rep C av s'.heap d v :=
  Rep.move (fun a o na e => ⟨na, y.keep a o (fun q => na (x.deck a q)) e⟩) d r
theorem RepL.step {C : Cx} {av : Addr → Prop} {s s' : Shared} {d : List V} {v : List Value} (r : RepL C av s.heap d v) (x : AvOk C av s.heap) (y : Step C s s') : RepL C av s'.heap d v :=
  RepL.move (fun a o na e => ⟨na, y.keep a o (fun q => na (x.deck a q)) e⟩) d r
/-- a step that keeps all -/
theorem Step.all {C : Cx} {s s' : Shared} (k : ∀ a o, s.heap.get? a = some o → s'.heap.get? a = some o) : Step C s s' :=
  ⟨fun a o _ e => k a o e, fun a _ e => by
    cases q : s.heap.get? a with
    | none => exact absurd q e
    | some o => rw [k a o q]; simp⟩
theorem St.all {C : Cx} {s s' : Shared} (x : St C s) (k : ∀ a o, s.heap.get? a = some o → s'.heap.get? a = some o) (hg : s'.gens = s.gens) (ho : s'.os = s.os) : St C s' :=
  ⟨fun a o e => k a o (x.keep a o e), fun a e => let ⟨vs, ns, ⟨n, q⟩, r⟩ := x.deck a e; ⟨vs, ns, ⟨n, k _ _ q⟩, r⟩, hg.trans x.gens, ho.trans x.os⟩

/-- the frame binds the name to the value -/
noncomputable def Bound (renv : Env) (h : Heap) (nm : Str) (v : Value) : Prop :=
  (renv.kindOf nm = some .local ∧ ∃ m, h.Ns renv.locals m ∧ m nm = some v) ∨
  (renv.kindOf nm = some .cell ∧ ∃ c, renv.cells.lookup nm = some c ∧ h.IsCell c (some v))
theorem Bound.step {C : Cx} {renv : Env} {s s' : Shared} {nm : Str} {v : Value} (b : Bound renv s.heap nm v) (x : St C s) (y : Step C s s') : Bound renv s'.heap nm v := by
  rcases b with ⟨k, m, hn, hm⟩ | ⟨k, c, hc, hv⟩
  · refine .inl ⟨k, m, ?_, hm⟩
    obtain ⟨o, es, ep, ho, hd, r⟩ := hn
    refine ⟨o, es, ep, y.keep _ _ (fun q => ?_) ho, hd, r⟩
    obtain ⟨vs, ns, ⟨n, e⟩, _⟩ := x.deck _ q
    rw [ho] at e; cases e; cases hd
  · refine .inr ⟨k, c, hc, ?_⟩
    obtain ⟨o, ho, hd⟩ := hv
    refine ⟨o, y.keep _ _ (fun q => ?_) ho, hd⟩
    obtain ⟨vs, ns, ⟨n, e⟩, _⟩ := x.deck _ q
    rw [ho] at e; cases e; cases hd

noncomputable def lk : List (Option V) → Nat → Option V
  | [], _ => .none
  | o :: _, 0 => o
  | _ :: r, n + 1 => lk r n
noncomputable def st' : List (Option V) → Nat → Option V → List (Option V)
  | [], _, _ => []
  | _ :: r, 0, v => v :: r
  | o :: r, n + 1, v => o :: st' r n v

structure EnvOk (C : Cx) (names : List Str) (renv : Env) (av : Addr → Prop) (h : Heap) (ρ : List (Option V)) : Prop where
  kind : renv.scope.kind = .function
  glob : renv.globals = mainGlobals
  blt : renv.builtins = builtinsNs
  vars : ∀ x d, lk ρ x = some d → ∃ nm v, names[x]? = some nm ∧ Bound renv h nm v ∧ Rep C av h d v
  there : h.get? renv.locals ≠ .none ∧ ∀ nm c, renv.cells.lookup nm = some c → h.get? c ≠ .none
theorem EnvOk.step {C : Cx} {names : List Str} {renv : Env} {av : Addr → Prop} {s s' : Shared} {ρ : List (Option V)} (e : EnvOk C names renv av s.heap ρ) (x : St C s) (a : AvOk C av s.heap) (y : Step C s s') :
    EnvOk C names renv av s'.heap ρ :=
  ⟨e.kind, e.glob, e.blt, fun i d q => let ⟨nm, v, h1, h2, h3⟩ := e.vars i d q; ⟨nm, v, h1, h2.step x y, h3.step a y⟩, y.there e.there.1, fun nm c g => y.there (e.there.2 nm c g)⟩

noncomputable def NoE : Value → Shared → Prop := fun _ _ => False

/-- what an evaluation leaves -/
noncomputable def Post (C : Cx) (av : Addr → Prop) (s : Shared) (Q : V → Prop) (v : Value) (s' : Shared) : Prop :=
  ∃ d, Q d ∧ Rep C av s'.heap d v ∧ St C s' ∧ Step C s s'
noncomputable def PostL (C : Cx) (av : Addr → Prop) (s : Shared) (Q : List V → Prop) (v : List Value) (s' : Shared) : Prop :=
  ∃ d, Q d ∧ RepL C av s'.heap d v ∧ St C s' ∧ Step C s s'
noncomputable def PostB (C : Cx) (s : Shared) (Q : Bool → Prop) (b : Bool) (s' : Shared) : Prop := Q b ∧ St C s' ∧ Step C s s'

set_option genInjectivity false
set_option genSizeOfSpec false

inductive Op where | add | mul | sub
inductive Cm where | eq | ne | lt | gt | is | isNot | isIn | notIn
/-- what a loop runs over: the items, range(..), enumerate(..) -/
inductive Kd where | items | range | enum
inductive Tgt where
  | one (x : Nat)
  | many (xs : List Nat)

mutual
inductive E where
  | none
  | bool (b : Bool)
  | int (i : Int)
  | str (s : List Nat)
  | var (x : Nat)
  | fn (f : Nat)
  | tup (es : List E)
  | lst (es : List E)
  | sub (a i : E)
  | upto (a hi : E)
  | from' (a lo : E)
  | cut (a lo hi : E)
  | bin (op : Op) (a b : E)
  | cmp (op : Cm) (a b : E)
  | ite (t : T) (a b : E)
  | dict (ks : List (List Nat)) (vs : List E)
  | comp (elt : E) (tgt : Tgt) (kind : Kd) (it : E) (caps : List Nat)
  | call (f : Nat) (es : List E)
  | callv (a : E) (es : List E)
  | len (a : E)
  | txt (a : E)
  | join (sep : List Nat) (a : E)
  | get1 (d k : E)
  | get2 (d k x : E)
  | find (a b c : E)
  | alnum (a : E)
inductive T where
  | of (e : E)
  | and (a b : T)
  | or (a b : T)
end

inductive S where
  | ret (e : E)
  | asg (x : Nat) (e : E)
  | asg2 (x y : Nat) (a b : E)
  | aug (x : Nat) (e : E)
  | ife (t : T) (a b : List S)
  | for' (tgt : Tgt) (kind : Kd) (it : E) (body : List S)
  | while' (t : T) (body : List S)
  | own (e : E)
  | own2 (y : Nat) (b : E)
  | append (e : E)
  | extend (e : E)

noncomputable def lim : Nat := 16777216

noncomputable def digits (i : Int) : List Nat := (Str.ofString (toString i)).cps.toList

noncomputable def binop : Op → V → V → (V → Prop) → Prop
  | .add, .str a, .str b, Q => a.length + b.length ≤ lim ∧ Q (.str (a ++ b))
  | .add, .lst a, .lst b, Q => a.length + b.length ≤ lim ∧ Q (.lst (a ++ b))
  | .add, .tup a, .tup b, Q => (a ≠ [] ∧ b ≠ [] ∧ a.length + b.length ≤ lim) ∧ Q (.tup (a ++ b))
  | .add, .int a, .int b, Q => Q (.int (a + b))
  | .sub, .int a, .int b, Q => Q (.int (a - b))
  | .mul, .lst a, .int k, Q => (0 ≤ k ∧ k ≤ 1000 ∧ a.length ≤ 1000) ∧ Q (.lst (List.replicate k.toNat a).flatten)
  | _, _, _, _ => False

/-- += of texts and numbers -/
noncomputable def augop : V → V → (V → Prop) → Prop
  | .str a, .str b, Q => a.length + b.length ≤ lim ∧ Q (.str (a ++ b))
  | .int a, .int b, Q => Q (.int (a + b))
  | _, _, _ => False

noncomputable def strsOf : List V → Option (List (List Nat))
  | [] => some []
  | .str s :: r => (strsOf r).map (s :: ·)
  | _ :: _ => .none

noncomputable def veqStr : V → List Nat → Option Bool
  | .str a, b => some (decide (a = b))
  | .none, _ => some false
  | .tup _, _ => some false
  | .lst _, _ => some false
  | _, _ => .none
noncomputable def veqInt : V → Int → Option Bool
  | .int a, b => some (decide (a = b))
  | _, _ => .none
noncomputable def veqStrs (a b : List V) : Option Bool := match strsOf a with
  | some x => (match strsOf b with
    | some y => some (decide (x = y))
    | .none => .none)
  | .none => .none
noncomputable def veqL (a : List V) : List V → Option Bool
  | [] => some a.isEmpty
  | d :: b => veqStrs a (d :: b)
noncomputable def veqLst : V → List V → Option Bool
  | .lst a, b => veqL a b
  | _, _ => .none
noncomputable def isS : V → Option (List Nat)
  | .str a => some a
  | _ => .none
noncomputable def veqT (a b : List V) : Option Bool := match a with
  | [] => .none
  | c :: r => (match b with
    | [d] => (match isS c with
      | some c => (match isS d with
        | some d => some (decide (c = d) && r.isEmpty)
        | .none => .none)
      | .none => .none)
    | _ => .none)
noncomputable def veqTup : V → List V → Option Bool
  | .tup a, b => veqT a b
  | _, _ => .none
noncomputable def veq (x : V) : V → Option Bool
  | .str b => veqStr x b
  | .int b => veqInt x b
  | .lst b => veqLst x b
  | .tup b => veqTup x b
  | _ => .none

noncomputable def isNone : V → Option Bool
  | .none => some true
  | .fn _ => .none
  | .deck => .none
  | _ => some false

noncomputable def dlook : List (List Nat) → List V → List Nat → Option V
  | k :: ks, d :: ds, x => match decEq k x with
    | Decidable.isTrue _ => some d
    | Decidable.isFalse _ => dlook ks ds x
  | _, _, _ => .none
theorem dlook_cons (k : List Nat) (ks : List (List Nat)) (d : V) (ds : List V) (x : List Nat) : dlook (k :: ks) (d :: ds) x = if k = x then some d else dlook ks ds x := by
  show (match decEq k x with
    | Decidable.isTrue _ => some d
    | Decidable.isFalse _ => dlook ks ds x) = _
  cases decEq k x with
  | isTrue h => rw [if_pos h]
  | isFalse h => rw [if_neg h]

noncomputable def lstQ : V → (List V → Prop) → Prop
  | .lst us, Q => Q us
  | _, _ => False
noncomputable def onSome {α : Type} (o : Option α) (F : α → Prop) : Prop := match o with
  | some v => F v
  | none => False
theorem none_ne {α : Type} {d : α} {P : Prop} (h : none = some d) : P := nomatch h
theorem ofSome {α : Type} {o : Option α} {F : α → Prop} (q : onSome o F) : ∃ d, o = some d ∧ F d := match o, q with
  | some d, q => ⟨d, rfl, q⟩

noncomputable def ints2 : V → V → (Int → Int → Prop) → Prop
  | .int a, .int b, Q => Q a b
  | _, _, _ => False
noncomputable def isQ (x : V) : V → (Bool → Prop) → Prop
  | .none, Q => onSome (isNone x) Q
  | _, _ => False
noncomputable def inQ (c : List Nat) : V → (Bool → Prop) → Prop
  | .tup ys, Q => onSome (strsOf ys) fun l => Q (decide (c ∈ l))
  | .dict ks ds, Q => Q (dlook ks ds c).isSome
  | _, _ => False
noncomputable def notInQ (c : Nat) : V → (Bool → Prop) → Prop
  | .str y, Q => Q (!decide (c ∈ y))
  | _, _ => False
noncomputable def oneC : List Nat → Option Nat
  | [c] => some c
  | _ => none
noncomputable def cmpop (op : Cm) (x y : V) (Q : V → Prop) : Prop := match op with
  | .eq => onSome (veq x y) fun b => Q (.bool b)
  | .ne => onSome (veq x y) fun b => Q (.bool !b)
  | .lt => ints2 x y fun a b => Q (.bool (decide (a < b)))
  | .gt => ints2 x y fun a b => Q (.bool (decide (b < a)))
  | .is => isQ x y fun b => Q (.bool b)
  | .isNot => isQ x y fun b => Q (.bool !b)
  | .isIn => onSome (isS x) fun c => inQ c y fun b => Q (.bool b)
  | .notIn => onSome (isS x) fun s => onSome (oneC s) fun c => notInQ c y fun b => Q (.bool b)

noncomputable def idx : V → V → (V → Prop) → Prop
  | .tup xs, .int i, Q => if i = -1 then (match xs.getLast? with
      | some d => Q d
      | .none => False) else (0 ≤ i ∧ i ≤ lim) ∧ (match xs[i.toNat]? with
      | some d => Q d
      | .none => False)
  | .lst xs, .int i, Q => (0 ≤ i ∧ i ≤ lim) ∧ (match xs[i.toNat]? with
      | some d => Q d
      | .none => False)
  | .str s, .int i, Q => (0 ≤ i ∧ i ≤ lim) ∧ (match s[i.toNat]? with
      | some c => Q (.str [c])
      | .none => False)
  | .dict ks ds, .str k, Q => match dlook ks ds k with
      | some d => Q d
      | .none => False
  | _, _, _ => False

noncomputable def upto' : V → V → (V → Prop) → Prop
  | .lst xs, .int i, Q => (0 ≤ i ∧ i ≤ lim ∧ xs.length ≤ lim) ∧ Q (.lst (xs.take i.toNat))
  | _, _, _ => False
noncomputable def from'' : V → V → (V → Prop) → Prop
  | .lst xs, .int i, Q => (0 ≤ i ∧ i ≤ lim ∧ xs.length ≤ lim) ∧ Q (.lst (xs.drop i.toNat))
  | _, _, _ => False
noncomputable def cut' : V → V → V → (V → Prop) → Prop
  | .str s, .int i, .int j, Q => (0 ≤ i ∧ i ≤ j ∧ i ≤ s.length ∧ j ≤ lim ∧ s.length ≤ lim) ∧ Q (.str ((s.take j.toNat).drop i.toNat))
  | _, _, _, _ => False

noncomputable def lenOf : V → (V → Prop) → Prop
  | .lst xs, Q => xs.length ≤ lim ∧ Q (.int xs.length)
  | .tup xs, Q => xs.length ≤ lim ∧ Q (.int xs.length)
  | .str s, Q => s.length ≤ lim ∧ Q (.int s.length)
  | _, _ => False
noncomputable def txtOf : V → (V → Prop) → Prop
  | .int i, Q => (0 ≤ i ∧ i < 1000) ∧ Q (.str (digits i))
  | _, _ => False
noncomputable def joined (sep : List Nat) : List (List Nat) → List Nat
  | [] => []
  | [a] => a
  | a :: r => a ++ sep ++ joined sep r
noncomputable def joinOf (sep : List Nat) : V → (V → Prop) → Prop
  | .lst xs, Q => match strsOf xs with
    | some l => (joined sep l).length ≤ 16000000 ∧ Q (.str (joined sep l))
    | .none => False
  | _, _ => False
noncomputable def get1Of : V → V → (V → Prop) → Prop
  | .dict ks ds, .str k, Q => Q ((dlook ks ds k).getD .none)
  | _, _, _ => False
noncomputable def get2Of : V → V → V → (V → Prop) → Prop
  | .dict ks ds, .str k, d, Q => Q ((dlook ks ds k).getD d)
  | _, _, _, _ => False
/-- what find tells: the first place of a sign at or behind i, or -1 -/
noncomputable def Found (s : List Nat) (c : Nat) (i : Nat) (k : Int) : Prop :=
  (k = -1 ∧ ∀ v, i ≤ v → v < s.length → s[v]? ≠ some c) ∨ ∃ j : Nat, k = (j : Int) ∧ i ≤ j ∧ s[j]? = some c ∧ ∀ v, i ≤ v → v < j → s[v]? ≠ some c
noncomputable def findOf : V → V → V → (V → Prop) → Prop
  | .str s, .str [c], .int i, Q => (0 ≤ i ∧ i ≤ s.length) ∧ ∀ k, Found s c i.toNat k → Q (.int k)
  | _, _, _, _ => False
noncomputable def alnumC (c : Nat) : Bool := (48 ≤ c && c ≤ 57) || (65 ≤ c && c ≤ 90) || (97 ≤ c && c ≤ 122)
noncomputable def alnumOf : V → (V → Prop) → Prop
  | .str [c], Q => c < 128 ∧ Q (.bool (alnumC c))
  | _, _ => False

noncomputable def isDict : V → Prop
  | .dict _ _ => True
  | _ => False
noncomputable def isStr : V → Prop
  | .str _ => True
  | _ => False
noncomputable def truth : V → (Bool → Prop) → Prop
  | .bool b, Q => Q b
  | .str s, Q => s.length ≤ lim ∧ Q (!s.isEmpty)
  | _, _ => False

noncomputable def intsFrom (x : Int) : Nat → List V
  | 0 => []
  | n + 1 => .int x :: intsFrom (x + 1) n
noncomputable def enumFrom (i : Nat) : List V → List V
  | [] => []
  | v :: r => .tup [.int (i : Int), v] :: enumFrom (i + 1) r
/-- the items that a loop runs over -/
noncomputable def itemsOf : Kd → V → (List V → Prop) → Prop
  | .items, .lst xs, Q => xs.length ≤ lim ∧ Q xs
  | .range, .int n, Q => (0 ≤ n ∧ n ≤ 1000) ∧ Q (intsFrom 0 n.toNat)
  | .enum, .lst xs, Q => xs.length ≤ lim ∧ Q (enumFrom 0 xs)
  | _, _, _ => False

noncomputable def capsOf (ρ : List (Option V)) : List Nat → Option (List V)
  | [] => some []
  | x :: r => match lk ρ x, capsOf ρ r with
    | some v, some vs => some (v :: vs)
    | _, _ => .none

noncomputable def bindMany : List Nat → List V → List (Option V) → Option (List (Option V))
  | [], [], ρ => some ρ
  | x :: xs, v :: vs, ρ => bindMany xs vs (st' ρ x (some v))
  | _, _, _ => .none
noncomputable def bindT : Tgt → V → List (Option V) → Option (List (Option V))
  | .one x, v, ρ => some (st' ρ x (some v))
  | .many xs, .tup vs, ρ => bindMany xs vs ρ
  | .many _, _, _ => .none
noncomputable def Tgt.size : Tgt → Nat
  | .one _ => 1
  | .many xs => xs.length

noncomputable def mapW (f : V → (V → Prop) → Prop) : List V → (List V → Prop) → Prop
  | [], Q => Q []
  | v :: vs, Q => f v (fun r => mapW f vs (fun rs => Q (r :: rs)))

/-! the shape that runs by itself -/
noncomputable def ifb : Nat → Bool → Prop → Prop → Prop
  | 0, true, a, _ => a
  | 0, false, _, b => b
  | n + 1, c, a, b => ifb n c a b
theorem ifb_eq (c : Bool) (a b : Prop) : ifb 0 c a b = if c = true then a else b := by cases c <;> simp [ifb]
theorem ifb_pos {c : Bool} {a b : Prop} (h : c = true) : ifb 0 c a b = a := by rw [h]; rfl
theorem ifb_neg {c : Bool} {a b : Prop} (h : ¬ c = true) : ifb 0 c a b = b := by rw [Bool.not_eq_true] at h; rw [h]; rfl
theorem ifb_t {c : Bool} {a b : Prop} (h : c = true) (q : a) : ifb 0 c a b := by rw [h]; exact q
theorem ifb_f {c : Bool} {a b : Prop} (h : ¬ c = true) (q : b) : ifb 0 c a b := by rw [Bool.not_eq_true] at h; rw [h]; exact q
/-- a frame, laid out -/
noncomputable def lay : List (Option V) → (List (Option V) → Prop) → Prop
  | [], k => k []
  | a :: r, k => lay r fun r' => k (a :: r')
theorem lay_eq : ∀ (r : List (Option V)) (k : List (Option V) → Prop), lay r k = k r
  | [], _ => rfl
  | a :: r, k => lay_eq r _

noncomputable def dirty (x : Nat) (o : Option (List V)) (ρ : List (Option V)) : List (Option V) := match o with
  | some us => st' ρ x (some (.lst us))
  | .none => ρ

noncomputable def loopW (f : V → List (Option V) → Option (List V) → (List (Option V) → Option (List V) → Prop) → Prop) : List V → List (Option V) → Option (List V) → (List (Option V) → Option (List V) → Prop) → Prop
  | [], ρ, o, N => N ρ o
  | v :: vs, ρ, o, N => f v ρ o fun ρ' o' => loopW f vs ρ' o' N

/-- a loop, closed -/
structure LoopV (f : V → List (Option V) → Option (List V) → (List (Option V) → Option (List V) → Prop) → Prop) (vs : List V) (ρ : List (Option V)) (o : Option (List V)) (N : List (Option V) → Option (List V) → Prop) : Prop where
  is : loopW f vs ρ o N
structure MapV (f : V → (V → Prop) → Prop) (vs : List V) (Q : List V → Prop) : Prop where
  is : mapW f vs Q
theorem LoopV.eq : @LoopV = @loopW := by
  funext f vs ρ o N
  exact propext ⟨fun h => h.is, fun h => ⟨h⟩⟩
theorem MapV.eq : @MapV = @mapW := by
  funext f vs Q
  exact propext ⟨fun h => h.is, fun h => ⟨h⟩⟩

theorem lay_fn : @lay = fun r k => k r := by funext r k; exact lay_eq r k
theorem ifb_fn : ifb 0 = fun c a b => if c = true then a else b := by funext c a b; exact ifb_eq c a b
section
variable (K : Nat → List V → (V → Prop) → Prop)
mutual
noncomputable def wpE : E → List (Option V) → (V → Prop) → Prop
  | .none, _, Q => Q .none
  | .bool b, _, Q => Q (.bool b)
  | .int i, _, Q => Q (.int i)
  | .str s, _, Q => Q (.str s)
  | .var x, ρ, Q => onSome (lk ρ x) Q
  | .fn f, _, Q => Q (.fn f)
  | .tup es, ρ, Q => wpL es ρ fun vs => Q (.tup vs)
  | .lst es, ρ, Q => wpL es ρ fun vs => Q (.lst vs)
  | .sub a i, ρ, Q => wpE a ρ fun v => wpE i ρ fun k => idx v k Q
  | .upto a hi, ρ, Q => wpE a ρ fun v => wpE hi ρ fun k => upto' v k Q
  | .from' a lo, ρ, Q => wpE a ρ fun v => wpE lo ρ fun k => from'' v k Q
  | .cut a lo hi, ρ, Q => wpE a ρ fun v => wpE lo ρ fun i => wpE hi ρ fun j => cut' v i j Q
  | .bin op a b, ρ, Q => wpE a ρ fun x => wpE b ρ fun y => binop op x y Q
  | .cmp op a b, ρ, Q => wpE a ρ fun x => wpE b ρ fun y => cmpop op x y Q
  | .ite t a b, ρ, Q => wpT t ρ fun c => ifb 0 c (wpE a ρ Q) (wpE b ρ Q)
  | .dict ks vs, ρ, Q => wpL vs ρ fun ds => Q (.dict ks ds)
  | .comp elt tgt kind it caps, ρ, Q => onSome (capsOf ρ caps) fun cs => wpE it ρ fun v => itemsOf kind v fun vs => MapV (fun v Q' => match bindT tgt v (cs.map some ++ List.replicate tgt.size .none) with
          | some ρ' => wpE elt ρ' Q'
          | .none => False) vs fun rs => Q (.lst rs)
  | .call f es, ρ, Q => wpL es ρ fun vs => K f vs Q
  | .callv a es, ρ, Q => wpE a ρ fun v => match v with
    | .fn f => wpL es ρ fun vs => K f vs Q
    | _ => False
  | .len a, ρ, Q => wpE a ρ fun v => lenOf v Q
  | .txt a, ρ, Q => wpE a ρ fun v => txtOf v Q
  | .join sep a, ρ, Q => wpE a ρ fun v => joinOf sep v Q
  | .get1 d k, ρ, Q => wpE d ρ fun v => isDict v ∧ wpE k ρ fun x => get1Of v x Q
  | .get2 d k x, ρ, Q => wpE d ρ fun v => isDict v ∧ wpE k ρ fun y => wpE x ρ fun z => get2Of v y z Q
  | .find a b c, ρ, Q => wpE a ρ fun v => isStr v ∧ wpE b ρ fun x => wpE c ρ fun y => findOf v x y Q
  | .alnum a, ρ, Q => wpE a ρ fun v => alnumOf v Q
noncomputable def wpL : List E → List (Option V) → (List V → Prop) → Prop
  | [], _, Q => Q []
  | e :: es, ρ, Q => wpE e ρ fun v => wpL es ρ fun vs => Q (v :: vs)
noncomputable def wpT : T → List (Option V) → (Bool → Prop) → Prop
  | .of e, ρ, Q => wpE e ρ fun v => truth v Q
  | .and a b, ρ, Q => wpT a ρ fun c => ifb 0 c (wpT b ρ Q) (Q false)
  | .or a b, ρ, Q => wpT a ρ fun c => ifb 0 c (Q true) (wpT b ρ Q)
end

/-- a list that is made anew of lists (the accumulator among them) -/
noncomputable def wpO (x : Nat) (o : Option (List V)) : E → List (Option V) → (List V → Prop) → Prop
  | .bin .add a b, ρ, Q => wpO x o a ρ fun us => wpO x o b ρ fun ws => us.length + ws.length ≤ lim ∧ Q (us ++ ws)
  | .var y, ρ, Q => if y = x then onSome o Q else onSome (lk ρ y) fun v => lstQ v Q
  | e, ρ, Q => wpE K e ρ fun v => lstQ v Q

-- statements: x is the accumulator's place, o its list; N behind the last statement, R at a return
mutual
noncomputable def wpS (x : Nat) : S → List (Option V) → Option (List V) → (List (Option V) → Option (List V) → Prop) → (V → Prop) → Prop
  | .ret e, ρ, o, _, R => wpE K e (dirty x o ρ) R
  | .asg y e, ρ, o, N, _ => y ≠ x ∧ wpE K e ρ fun v => lay (st' ρ y (some v)) fun ρ' => N ρ' o
  | .asg2 y z a b, ρ, o, N, _ => (y ≠ x ∧ z ≠ x) ∧ wpE K a ρ fun v => wpE K b ρ fun w => lay (st' (st' ρ y (some v)) z (some w)) fun ρ' => N ρ' o
  | .aug y e, ρ, o, N, _ => y ≠ x ∧ onSome (lk ρ y) fun u => wpE K e ρ fun v => augop u v fun r => lay (st' ρ y (some r)) fun ρ' => N ρ' o
  | .ife t a b, ρ, o, N, R => wpT K t ρ fun c => ifb 0 c (wpSs x a ρ o N R) (wpSs x b ρ o N R)
  | .for' tgt kind it body, ρ, o, N, R => wpE K it ρ fun v => itemsOf kind v fun vs =>
      LoopV (fun v ρ' o' N' => match bindT tgt v ρ' with
        | some ρ'' => wpSs x body ρ'' o' N' R
        | .none => False) vs ρ o N
  | .while' t body, ρ, o, N, R => ∃ I : Nat → List (Option V) → Option (List V) → Prop, (∃ n, I n ρ o) ∧
      ∀ n ρ' o', I n ρ' o' → wpT K t ρ' fun c => ifb 0 c (wpSs x body ρ' o' (fun ρ'' o'' => ∃ m, m < n ∧ I m ρ'' o'') R) (N ρ' o')
  | .own e, ρ, o, N, _ => wpO K x o e ρ fun us => N ρ (some us)
  | .own2 y b, ρ, _, N, _ => y ≠ x ∧ wpE K b ρ fun w => lay (st' ρ y (some w)) fun ρ' => N ρ' (some [])
  | .append e, ρ, o, N, _ => match o with
    | some us => us.length ≤ lim ∧ wpE K e ρ fun v => N ρ (some (us ++ [v]))
    | .none => False
  | .extend e, ρ, o, N, _ => match o with
    | some us => wpE K e ρ fun v => lstQ v fun ws => us.length + ws.length ≤ lim ∧ N ρ (some (us ++ ws))
    | .none => False
noncomputable def wpSs (x : Nat) : List S → List (Option V) → Option (List V) → (List (Option V) → Option (List V) → Prop) → (V → Prop) → Prop
  | [], ρ, o, N, _ => N ρ o
  | s :: ss, ρ, o, N, R => wpS x s ρ o (fun ρ' o' => wpSs x ss ρ' o' N R) R
end
end

/-! the look: does the small text match the given one -/

noncomputable def opOf : Op → Operator
  | .add => .Add
  | .mul => .Mult
  | .sub => .Sub
noncomputable def cmOf : Cm → CmpOp
  | .eq => .Eq
  | .ne => .NotEq
  | .lt => .Lt
  | .gt => .Gt
  | .is => .Is
  | .isNot => .IsNot
  | .isIn => .In
  | .notIn => .NotIn

noncomputable abbrev Kinds := List (Str × NameKind)
noncomputable def isVar (kinds : Kinds) (nm : Str) : Bool := (kinds.lookup nm == some .local || kinds.lookup nm == some .cell) && nm != ("__debug__" : Str)
noncomputable def isGlob (kinds : Kinds) (nm : Str) : Bool := kinds.lookup nm == some .globalImplicit && nm != ("__debug__" : Str)
noncomputable def chkVar (kinds : Kinds) (names : List Str) (x : Nat) (nm : Str) : Bool := names[x]? == some nm && isVar kinds nm

noncomputable def relNames (kinds : Kinds) (names : Kinds) : Kinds := names.map fun (n, k) => if (k == .free && kinds.lookup n == some .cell) then (n, .cell) else (n, k)
noncomputable def enumTgt : Kd → Tgt → Bool
  | .enum, .one _ => false
  | _, _ => true
noncomputable def tgtNot (acc : Nat) : Tgt → Bool
  | .one x => x != acc
  | .many xs => xs.all (· != acc)
noncomputable def ownTop : E → Bool
  | .bin .add _ _ => true
  | .lst [] => true
  | _ => false
/-- the scope of a comprehension: its free names are the captured ones, its targets are local -/
noncomputable def chkScope (kinds : Kinds) (caps : List Str) (sc : Scope) : Bool :=
  sc.kind == .function && (sc.names.all fun x => x.2 != .cell && (x.2 != .local || sc.names.lookup x.1 == some .local) && (x.2 != .free || (caps.contains x.1 && kinds.lookup x.1 == some .cell))) &&
  caps.all fun nm => sc.names.lookup nm == some .free

/-! looking at a node: its kind and its parts -/
noncomputable def tag (x : PySem.Expr) : Nat := @PySem.Expr.casesOn (fun _ => Nat) x (fun _ _ _ => 14) (fun _ _ _ => 15) (fun _ _ _ _ => 5) (fun _ _ _ => 11) (fun _ _ _ _ => 15) (fun _ _ _ _ => 7) (fun _ _ _ => 8) (fun _ _ _ => 15) (fun _ _ _ _ => 9) (fun _ _ _ _ => 15) (fun _ _ _ _ _ => 15) (fun _ _ _ _ => 15) (fun _ _ => 15) (fun _ _ => 15) (fun _ _ => 15) (fun _ _ _ _ => 6) (fun _ _ _ _ => 10) (fun _ _ _ _ => 15) (fun _ _ => 15) (fun _ _ _ => 0) (fun _ _ _ => 12) (fun _ _ _ => 4) (fun _ _ => 15) (fun _ _ => 1) (fun _ _ => 3) (fun _ _ _ => 2) (fun _ _ _ _ => 13)
noncomputable def k0 (x : PySem.Expr) : PySem.Expr := @PySem.Expr.casesOn (fun _ => PySem.Expr) x (fun _ _ _ => x) (fun _ _ _ => x) (fun a _ _ _ => a) (fun _ a _ => a) (fun _ _ _ _ => x) (fun a _ _ _ => a) (fun _ _ _ => x) (fun _ _ _ => x) (fun a _ _ _ => a) (fun _ _ _ _ => x) (fun _ _ _ _ _ => x) (fun _ _ _ _ => x) (fun _ _ => x) (fun _ _ => x) (fun _ _ => x) (fun a _ _ _ => a) (fun a _ _ _ => a) (fun _ _ _ _ => x) (fun _ _ => x) (fun _ _ _ => x) (fun a _ _ => a) (fun a _ _ => a) (fun _ _ => x) (fun _ _ => x) (fun _ _ => x) (fun _ _ _ => x) (fun _ _ _ _ => x)
noncomputable def k1 (x : PySem.Expr) : PySem.Expr := @PySem.Expr.casesOn (fun _ => PySem.Expr) x (fun _ _ _ => x) (fun _ _ _ => x) (fun _ _ a _ => a) (fun _ _ _ => x) (fun _ _ _ _ => x) (fun _ a _ _ => a) (fun _ _ _ => x) (fun _ _ _ => x) (fun _ _ _ _ => x) (fun _ _ _ _ => x) (fun _ _ _ _ _ => x) (fun _ _ _ _ => x) (fun _ _ => x) (fun _ _ => x) (fun _ _ => x) (fun _ _ _ _ => x) (fun _ _ _ _ => x) (fun _ _ _ _ => x) (fun _ _ => x) (fun _ _ _ => x) (fun _ _ _ => x) (fun _ a _ => a) (fun _ _ => x) (fun _ _ => x) (fun _ _ => x) (fun _ _ _ => x) (fun _ _ _ _ => x)
noncomputable def k2 (x : PySem.Expr) : PySem.Expr := @PySem.Expr.casesOn (fun _ => PySem.Expr) x (fun _ _ _ => x) (fun _ _ _ => x) (fun _ _ _ _ => x) (fun _ _ _ => x) (fun _ _ _ _ => x) (fun _ _ a _ => a) (fun _ _ _ => x) (fun _ _ _ => x) (fun _ _ _ _ => x) (fun _ _ _ _ => x) (fun _ _ _ _ _ => x) (fun _ _ _ _ => x) (fun _ _ => x) (fun _ _ => x) (fun _ _ => x) (fun _ _ _ _ => x) (fun _ _ _ _ => x) (fun _ _ _ _ => x) (fun _ _ => x) (fun _ _ _ => x) (fun _ _ _ => x) (fun _ _ _ => x) (fun _ _ => x) (fun _ _ => x) (fun _ _ => x) (fun _ _ _ => x) (fun _ _ _ _ => x)
noncomputable def ks (x : PySem.Expr) : List PySem.Expr := @PySem.Expr.casesOn (fun _ => List PySem.Expr) x (fun _ a _ => a) (fun _ _ _ => []) (fun _ _ _ _ => []) (fun _ _ _ => []) (fun _ _ _ _ => []) (fun _ _ _ _ => []) (fun _ a _ => a) (fun _ _ _ => []) (fun _ _ _ _ => []) (fun _ _ _ _ => []) (fun _ _ _ _ _ => []) (fun _ _ _ _ => []) (fun _ _ => []) (fun _ _ => []) (fun _ _ => []) (fun _ _ a _ => a) (fun _ a _ _ => a) (fun _ _ _ _ => []) (fun _ _ => []) (fun _ _ _ => []) (fun _ _ _ => []) (fun _ _ _ => []) (fun _ _ => []) (fun _ _ => []) (fun a _ => a) (fun a _ _ => a) (fun _ _ _ _ => [])
noncomputable def o1 (x : PySem.Expr) : Option PySem.Expr := @PySem.Expr.casesOn (fun _ => Option PySem.Expr) x (fun _ _ _ => none) (fun _ _ _ => none) (fun _ _ _ _ => none) (fun _ _ _ => none) (fun _ _ _ _ => none) (fun _ _ _ _ => none) (fun _ _ _ => none) (fun _ _ _ => none) (fun _ _ _ _ => none) (fun _ _ _ _ => none) (fun _ _ _ _ _ => none) (fun _ _ _ _ => none) (fun _ _ => none) (fun _ _ => none) (fun _ _ => none) (fun _ _ _ _ => none) (fun _ _ _ _ => none) (fun _ _ _ _ => none) (fun _ _ => none) (fun _ _ _ => none) (fun _ _ _ => none) (fun _ _ _ => none) (fun _ _ => none) (fun _ _ => none) (fun _ _ => none) (fun _ _ _ => none) (fun a _ _ _ => a)
noncomputable def o2 (x : PySem.Expr) : Option PySem.Expr := @PySem.Expr.casesOn (fun _ => Option PySem.Expr) x (fun _ _ _ => none) (fun _ _ _ => none) (fun _ _ _ _ => none) (fun _ _ _ => none) (fun _ _ _ _ => none) (fun _ _ _ _ => none) (fun _ _ _ => none) (fun _ _ _ => none) (fun _ _ _ _ => none) (fun _ _ _ _ => none) (fun _ _ _ _ _ => none) (fun _ _ _ _ => none) (fun _ _ => none) (fun _ _ => none) (fun _ _ => none) (fun _ _ _ _ => none) (fun _ _ _ _ => none) (fun _ _ _ _ => none) (fun _ _ => none) (fun _ _ _ => none) (fun _ _ _ => none) (fun _ _ _ => none) (fun _ _ => none) (fun _ _ => none) (fun _ _ => none) (fun _ _ _ => none) (fun _ a _ _ => a)
noncomputable def o3 (x : PySem.Expr) : Option PySem.Expr := @PySem.Expr.casesOn (fun _ => Option PySem.Expr) x (fun _ _ _ => none) (fun _ _ _ => none) (fun _ _ _ _ => none) (fun _ _ _ => none) (fun _ _ _ _ => none) (fun _ _ _ _ => none) (fun _ _ _ => none) (fun _ _ _ => none) (fun _ _ _ _ => none) (fun _ _ _ _ => none) (fun _ _ _ _ _ => none) (fun _ _ _ _ => none) (fun _ _ => none) (fun _ _ => none) (fun _ _ => none) (fun _ _ _ _ => none) (fun _ _ _ _ => none) (fun _ _ _ _ => none) (fun _ _ => none) (fun _ _ _ => none) (fun _ _ _ => none) (fun _ _ _ => none) (fun _ _ => none) (fun _ _ => none) (fun _ _ => none) (fun _ _ _ => none) (fun _ _ a _ => a)
noncomputable def opE (x : PySem.Expr) : Operator := @PySem.Expr.casesOn (fun _ => Operator) x (fun _ _ _ => .Add) (fun _ _ _ => .Add) (fun _ a _ _ => a) (fun _ _ _ => .Add) (fun _ _ _ _ => .Add) (fun _ _ _ _ => .Add) (fun _ _ _ => .Add) (fun _ _ _ => .Add) (fun _ _ _ _ => .Add) (fun _ _ _ _ => .Add) (fun _ _ _ _ _ => .Add) (fun _ _ _ _ => .Add) (fun _ _ => .Add) (fun _ _ => .Add) (fun _ _ => .Add) (fun _ _ _ _ => .Add) (fun _ _ _ _ => .Add) (fun _ _ _ _ => .Add) (fun _ _ => .Add) (fun _ _ _ => .Add) (fun _ _ _ => .Add) (fun _ _ _ => .Add) (fun _ _ => .Add) (fun _ _ => .Add) (fun _ _ => .Add) (fun _ _ _ => .Add) (fun _ _ _ _ => .Add)
noncomputable def opsE (x : PySem.Expr) : List CmpOp := @PySem.Expr.casesOn (fun _ => List CmpOp) x (fun _ _ _ => []) (fun _ _ _ => []) (fun _ _ _ _ => []) (fun _ _ _ => []) (fun _ _ _ _ => []) (fun _ _ _ _ => []) (fun _ _ _ => []) (fun _ _ _ => []) (fun _ _ _ _ => []) (fun _ _ _ _ => []) (fun _ _ _ _ _ => []) (fun _ _ _ _ => []) (fun _ _ => []) (fun _ _ => []) (fun _ _ => []) (fun _ a _ _ => a) (fun _ _ _ _ => []) (fun _ _ _ _ => []) (fun _ _ => []) (fun _ _ _ => []) (fun _ _ _ => []) (fun _ _ _ => []) (fun _ _ => []) (fun _ _ => []) (fun _ _ => []) (fun _ _ _ => []) (fun _ _ _ _ => [])
noncomputable def uopE (x : PySem.Expr) : UnaryOp := @PySem.Expr.casesOn (fun _ => UnaryOp) x (fun _ _ _ => .Not) (fun _ _ _ => .Not) (fun _ _ _ _ => .Not) (fun a _ _ => a) (fun _ _ _ _ => .Not) (fun _ _ _ _ => .Not) (fun _ _ _ => .Not) (fun _ _ _ => .Not) (fun _ _ _ _ => .Not) (fun _ _ _ _ => .Not) (fun _ _ _ _ _ => .Not) (fun _ _ _ _ => .Not) (fun _ _ => .Not) (fun _ _ => .Not) (fun _ _ => .Not) (fun _ _ _ _ => .Not) (fun _ _ _ _ => .Not) (fun _ _ _ _ => .Not) (fun _ _ => .Not) (fun _ _ _ => .Not) (fun _ _ _ => .Not) (fun _ _ _ => .Not) (fun _ _ => .Not) (fun _ _ => .Not) (fun _ _ => .Not) (fun _ _ _ => .Not) (fun _ _ _ _ => .Not)
noncomputable def bopE (x : PySem.Expr) : BoolOp := @PySem.Expr.casesOn (fun _ => BoolOp) x (fun a _ _ => a) (fun _ _ _ => .And) (fun _ _ _ _ => .And) (fun _ _ _ => .And) (fun _ _ _ _ => .And) (fun _ _ _ _ => .And) (fun _ _ _ => .And) (fun _ _ _ => .And) (fun _ _ _ _ => .And) (fun _ _ _ _ => .And) (fun _ _ _ _ _ => .And) (fun _ _ _ _ => .And) (fun _ _ => .And) (fun _ _ => .And) (fun _ _ => .And) (fun _ _ _ _ => .And) (fun _ _ _ _ => .And) (fun _ _ _ _ => .And) (fun _ _ => .And) (fun _ _ _ => .And) (fun _ _ _ => .And) (fun _ _ _ => .And) (fun _ _ => .And) (fun _ _ => .And) (fun _ _ => .And) (fun _ _ _ => .And) (fun _ _ _ _ => .And)
noncomputable def cE (x : PySem.Expr) : Const := @PySem.Expr.casesOn (fun _ => Const) x (fun _ _ _ => .none) (fun _ _ _ => .none) (fun _ _ _ _ => .none) (fun _ _ _ => .none) (fun _ _ _ _ => .none) (fun _ _ _ _ => .none) (fun _ _ _ => .none) (fun _ _ _ => .none) (fun _ _ _ _ => .none) (fun _ _ _ _ => .none) (fun _ _ _ _ _ => .none) (fun _ _ _ _ => .none) (fun _ _ => .none) (fun _ _ => .none) (fun _ _ => .none) (fun _ _ _ _ => .none) (fun _ _ _ _ => .none) (fun _ _ _ _ => .none) (fun _ _ => .none) (fun a _ _ => a) (fun _ _ _ => .none) (fun _ _ _ => .none) (fun _ _ => .none) (fun _ _ => .none) (fun _ _ => .none) (fun _ _ _ => .none) (fun _ _ _ _ => .none)
noncomputable def kE (x : PySem.Expr) : Nat := @PySem.Expr.casesOn (fun _ => Nat) x (fun _ _ _ => 0) (fun _ _ _ => 0) (fun _ _ _ _ => 0) (fun _ _ _ => 0) (fun _ _ _ _ => 0) (fun _ _ _ _ => 0) (fun _ _ _ => 0) (fun _ _ _ => 0) (fun _ _ _ _ => 0) (fun _ _ _ _ => 0) (fun _ _ _ _ _ => 0) (fun _ _ _ _ => 0) (fun _ _ => 0) (fun _ _ => 0) (fun _ _ => 0) (fun _ _ _ _ => 0) (fun _ _ _ _ => 0) (fun _ _ _ _ => 0) (fun _ _ => 0) (fun _ a _ => a) (fun _ _ _ => 0) (fun _ _ _ => 0) (fun _ _ => 0) (fun _ _ => 0) (fun _ _ => 0) (fun _ a _ => a) (fun _ _ _ _ => 0)
noncomputable def nmE (x : PySem.Expr) : Str := @PySem.Expr.casesOn (fun _ => Str) x (fun _ _ _ => Str.empty) (fun _ _ _ => Str.empty) (fun _ _ _ _ => Str.empty) (fun _ _ _ => Str.empty) (fun _ _ _ _ => Str.empty) (fun _ _ _ _ => Str.empty) (fun _ _ _ => Str.empty) (fun _ _ _ => Str.empty) (fun _ _ _ _ => Str.empty) (fun _ _ _ _ => Str.empty) (fun _ _ _ _ _ => Str.empty) (fun _ _ _ _ => Str.empty) (fun _ _ => Str.empty) (fun _ _ => Str.empty) (fun _ _ => Str.empty) (fun _ _ _ _ => Str.empty) (fun _ _ _ _ => Str.empty) (fun _ _ _ _ => Str.empty) (fun _ _ => Str.empty) (fun _ _ _ => Str.empty) (fun _ a _ => a) (fun _ _ _ => Str.empty) (fun _ _ => Str.empty) (fun a _ => a) (fun _ _ => Str.empty) (fun _ _ _ => Str.empty) (fun _ _ _ _ => Str.empty)
noncomputable def dkE (x : PySem.Expr) : List (Option PySem.Expr) := @PySem.Expr.casesOn (fun _ => List (Option PySem.Expr)) x (fun _ _ _ => []) (fun _ _ _ => []) (fun _ _ _ _ => []) (fun _ _ _ => []) (fun _ _ _ _ => []) (fun _ _ _ _ => []) (fun a _ _ => a) (fun _ _ _ => []) (fun _ _ _ _ => []) (fun _ _ _ _ => []) (fun _ _ _ _ _ => []) (fun _ _ _ _ => []) (fun _ _ => []) (fun _ _ => []) (fun _ _ => []) (fun _ _ _ _ => []) (fun _ _ _ _ => []) (fun _ _ _ _ => []) (fun _ _ => []) (fun _ _ _ => []) (fun _ _ _ => []) (fun _ _ _ => []) (fun _ _ => []) (fun _ _ => []) (fun _ _ => []) (fun _ _ _ => []) (fun _ _ _ _ => [])
noncomputable def kwE (x : PySem.Expr) : List Keyword := @PySem.Expr.casesOn (fun _ => List Keyword) x (fun _ _ _ => []) (fun _ _ _ => []) (fun _ _ _ _ => []) (fun _ _ _ => []) (fun _ _ _ _ => []) (fun _ _ _ _ => []) (fun _ _ _ => []) (fun _ _ _ => []) (fun _ _ _ _ => []) (fun _ _ _ _ => []) (fun _ _ _ _ _ => []) (fun _ _ _ _ => []) (fun _ _ => []) (fun _ _ => []) (fun _ _ => []) (fun _ _ _ _ => []) (fun _ _ a _ => a) (fun _ _ _ _ => []) (fun _ _ => []) (fun _ _ _ => []) (fun _ _ _ => []) (fun _ _ _ => []) (fun _ _ => []) (fun _ _ => []) (fun _ _ => []) (fun _ _ _ => []) (fun _ _ _ _ => [])
noncomputable def gsE (x : PySem.Expr) : List Comprehension := @PySem.Expr.casesOn (fun _ => List Comprehension) x (fun _ _ _ => []) (fun _ _ _ => []) (fun _ _ _ _ => []) (fun _ _ _ => []) (fun _ _ _ _ => []) (fun _ _ _ _ => []) (fun _ _ _ => []) (fun _ _ _ => []) (fun _ a _ _ => a) (fun _ _ _ _ => []) (fun _ _ _ _ _ => []) (fun _ _ _ _ => []) (fun _ _ => []) (fun _ _ => []) (fun _ _ => []) (fun _ _ _ _ => []) (fun _ _ _ _ => []) (fun _ _ _ _ => []) (fun _ _ => []) (fun _ _ _ => []) (fun _ _ _ => []) (fun _ _ _ => []) (fun _ _ => []) (fun _ _ => []) (fun _ _ => []) (fun _ _ _ => []) (fun _ _ _ _ => [])
noncomputable def scE (x : PySem.Expr) : Scope := @PySem.Expr.casesOn (fun _ => Scope) x (fun _ _ _ => default) (fun _ _ _ => default) (fun _ _ _ _ => default) (fun _ _ _ => default) (fun _ _ _ _ => default) (fun _ _ _ _ => default) (fun _ _ _ => default) (fun _ _ _ => default) (fun _ _ a _ => a) (fun _ _ _ _ => default) (fun _ _ _ _ _ => default) (fun _ _ _ _ => default) (fun _ _ => default) (fun _ _ => default) (fun _ _ => default) (fun _ _ _ _ => default) (fun _ _ _ _ => default) (fun _ _ _ _ => default) (fun _ _ => default) (fun _ _ _ => default) (fun _ _ _ => default) (fun _ _ _ => default) (fun _ _ => default) (fun _ _ => default) (fun _ _ => default) (fun _ _ _ => default) (fun _ _ _ _ => default)
noncomputable def tab (x : PySem.Expr) : List PySem.Expr := [.Constant (cE x) (kE x) x.pos, .Name (nmE x) x.pos, .Tuple (ks x) (kE x) x.pos, .List (ks x) x.pos, .Subscript (k0 x) (k1 x) x.pos, .BinOp (k0 x) (opE x) (k1 x) x.pos, .Compare (k0 x) (opsE x) (ks x) x.pos, .IfExp (k0 x) (k1 x) (k2 x) x.pos,
  .Dict (dkE x) (ks x) x.pos, .ListComp (k0 x) (gsE x) (scE x) x.pos, .Call (k0 x) (ks x) (kwE x) x.pos, .UnaryOp (uopE x) (k0 x) x.pos, .Attribute (k0 x) (nmE x) x.pos, .Slice (o1 x) (o2 x) (o3 x) x.pos, .BoolOp (bopE x) (ks x) x.pos, x]
theorem eta (x : PySem.Expr) : (tab x)[tag x]? = some x := by cases x <;> rfl
noncomputable def tq (k : Nat) (x : PySem.Expr) : Bool := Nat.beq (tag x) k
theorem eta_at {x y : PySem.Expr} {k : Nat} (h : tq k x = true) (e : (tab x)[k]? = some y) : x = y := by
  have := eta x
  rw [Nat.eq_of_beq_eq_true h, e] at this
  exact (Option.some.inj this).symm
noncomputable def stg (x : PySem.Stmt) : Nat := @PySem.Stmt.casesOn (fun _ => Nat) x (fun _ _ _ _ _ _ _ _ _ _ => 7) (fun _ _ _ _ _ _ _ _ _ _ => 7) (fun _ _ _ _ _ _ _ _ _ _ _ => 7) (fun _ _ => 0) (fun _ _ => 7) (fun _ _ _ => 1) (fun _ _ _ _ _ _ _ => 7) (fun _ _ _ _ => 2) (fun _ _ _ _ _ => 7) (fun _ _ _ _ _ => 3) (fun _ _ _ _ _ => 7) (fun _ _ _ _ => 4) (fun _ _ _ _ => 5) (fun _ _ _ => 7) (fun _ _ _ => 7) (fun _ _ _ => 7) (fun _ _ _ => 7) (fun _ _ _ _ _ => 7) (fun _ _ _ _ _ => 7) (fun _ _ _ => 7) (fun _ _ => 7) (fun _ _ _ _ => 7) (fun _ _ => 7) (fun _ _ => 7) (fun _ _ => 6) (fun _ => 7) (fun _ => 7) (fun _ => 7)
noncomputable def rvS (x : PySem.Stmt) : Option PySem.Expr := @PySem.Stmt.casesOn (fun _ => Option PySem.Expr) x (fun _ _ _ _ _ _ _ _ _ _ => none) (fun _ _ _ _ _ _ _ _ _ _ => none) (fun _ _ _ _ _ _ _ _ _ _ _ => none) (fun a _ => a) (fun _ _ => none) (fun _ _ _ => none) (fun _ _ _ _ _ _ _ => none) (fun _ _ _ _ => none) (fun _ _ _ _ _ => none) (fun _ _ _ _ _ => none) (fun _ _ _ _ _ => none) (fun _ _ _ _ => none) (fun _ _ _ _ => none) (fun _ _ _ => none) (fun _ _ _ => none) (fun _ _ _ => none) (fun _ _ _ => none) (fun _ _ _ _ _ => none) (fun _ _ _ _ _ => none) (fun _ _ _ => none) (fun _ _ => none) (fun _ _ _ _ => none) (fun _ _ => none) (fun _ _ => none) (fun _ _ => none) (fun _ => none) (fun _ => none) (fun _ => none)
noncomputable def tsS (x : PySem.Stmt) : List PySem.Expr := @PySem.Stmt.casesOn (fun _ => List PySem.Expr) x (fun _ _ _ _ _ _ _ _ _ _ => []) (fun _ _ _ _ _ _ _ _ _ _ => []) (fun _ _ _ _ _ _ _ _ _ _ _ => []) (fun _ _ => []) (fun _ _ => []) (fun a _ _ => a) (fun _ _ _ _ _ _ _ => []) (fun _ _ _ _ => []) (fun _ _ _ _ _ => []) (fun _ _ _ _ _ => []) (fun _ _ _ _ _ => []) (fun _ _ _ _ => []) (fun _ _ _ _ => []) (fun _ _ _ => []) (fun _ _ _ => []) (fun _ _ _ => []) (fun _ _ _ => []) (fun _ _ _ _ _ => []) (fun _ _ _ _ _ => []) (fun _ _ _ => []) (fun _ _ => []) (fun _ _ _ _ => []) (fun _ _ => []) (fun _ _ => []) (fun _ _ => []) (fun _ => []) (fun _ => []) (fun _ => [])
noncomputable def svS (x : PySem.Stmt) : PySem.Expr := @PySem.Stmt.casesOn (fun _ => PySem.Expr) x (fun _ _ _ _ _ _ _ _ _ _ => default) (fun _ _ _ _ _ _ _ _ _ _ => default) (fun _ _ _ _ _ _ _ _ _ _ _ => default) (fun _ _ => default) (fun _ _ => default) (fun _ a _ => a) (fun _ _ _ _ _ _ _ => default) (fun _ _ a _ => a) (fun _ _ _ _ _ => default) (fun _ a _ _ _ => a) (fun _ _ _ _ _ => default) (fun a _ _ _ => a) (fun a _ _ _ => a) (fun _ _ _ => default) (fun _ _ _ => default) (fun _ _ _ => default) (fun _ _ _ => default) (fun _ _ _ _ _ => default) (fun _ _ _ _ _ => default) (fun _ _ _ => default) (fun _ _ => default) (fun _ _ _ _ => default) (fun _ _ => default) (fun _ _ => default) (fun a _ => a) (fun _ => default) (fun _ => default) (fun _ => default)
noncomputable def stS (x : PySem.Stmt) : PySem.Expr := @PySem.Stmt.casesOn (fun _ => PySem.Expr) x (fun _ _ _ _ _ _ _ _ _ _ => default) (fun _ _ _ _ _ _ _ _ _ _ => default) (fun _ _ _ _ _ _ _ _ _ _ _ => default) (fun _ _ => default) (fun _ _ => default) (fun _ _ _ => default) (fun _ _ _ _ _ _ _ => default) (fun a _ _ _ => a) (fun _ _ _ _ _ => default) (fun a _ _ _ _ => a) (fun _ _ _ _ _ => default) (fun _ _ _ _ => default) (fun _ _ _ _ => default) (fun _ _ _ => default) (fun _ _ _ => default) (fun _ _ _ => default) (fun _ _ _ => default) (fun _ _ _ _ _ => default) (fun _ _ _ _ _ => default) (fun _ _ _ => default) (fun _ _ => default) (fun _ _ _ _ => default) (fun _ _ => default) (fun _ _ => default) (fun _ _ => default) (fun _ => default) (fun _ => default) (fun _ => default)
noncomputable def opS (x : PySem.Stmt) : Operator := @PySem.Stmt.casesOn (fun _ => Operator) x (fun _ _ _ _ _ _ _ _ _ _ => .Add) (fun _ _ _ _ _ _ _ _ _ _ => .Add) (fun _ _ _ _ _ _ _ _ _ _ _ => .Add) (fun _ _ => .Add) (fun _ _ => .Add) (fun _ _ _ => .Add) (fun _ _ _ _ _ _ _ => .Add) (fun _ a _ _ => a) (fun _ _ _ _ _ => .Add) (fun _ _ _ _ _ => .Add) (fun _ _ _ _ _ => .Add) (fun _ _ _ _ => .Add) (fun _ _ _ _ => .Add) (fun _ _ _ => .Add) (fun _ _ _ => .Add) (fun _ _ _ => .Add) (fun _ _ _ => .Add) (fun _ _ _ _ _ => .Add) (fun _ _ _ _ _ => .Add) (fun _ _ _ => .Add) (fun _ _ => .Add) (fun _ _ _ _ => .Add) (fun _ _ => .Add) (fun _ _ => .Add) (fun _ _ => .Add) (fun _ => .Add) (fun _ => .Add) (fun _ => .Add)
noncomputable def b1S (x : PySem.Stmt) : List PySem.Stmt := @PySem.Stmt.casesOn (fun _ => List PySem.Stmt) x (fun _ _ _ _ _ _ _ _ _ _ => []) (fun _ _ _ _ _ _ _ _ _ _ => []) (fun _ _ _ _ _ _ _ _ _ _ _ => []) (fun _ _ => []) (fun _ _ => []) (fun _ _ _ => []) (fun _ _ _ _ _ _ _ => []) (fun _ _ _ _ => []) (fun _ _ _ _ _ => []) (fun _ _ a _ _ => a) (fun _ _ _ _ _ => []) (fun _ a _ _ => a) (fun _ a _ _ => a) (fun _ _ _ => []) (fun _ _ _ => []) (fun _ _ _ => []) (fun _ _ _ => []) (fun _ _ _ _ _ => []) (fun _ _ _ _ _ => []) (fun _ _ _ => []) (fun _ _ => []) (fun _ _ _ _ => []) (fun _ _ => []) (fun _ _ => []) (fun _ _ => []) (fun _ => []) (fun _ => []) (fun _ => [])
noncomputable def b2S (x : PySem.Stmt) : List PySem.Stmt := @PySem.Stmt.casesOn (fun _ => List PySem.Stmt) x (fun _ _ _ _ _ _ _ _ _ _ => []) (fun _ _ _ _ _ _ _ _ _ _ => []) (fun _ _ _ _ _ _ _ _ _ _ _ => []) (fun _ _ => []) (fun _ _ => []) (fun _ _ _ => []) (fun _ _ _ _ _ _ _ => []) (fun _ _ _ _ => []) (fun _ _ _ _ _ => []) (fun _ _ _ a _ => a) (fun _ _ _ _ _ => []) (fun _ _ a _ => a) (fun _ _ a _ => a) (fun _ _ _ => []) (fun _ _ _ => []) (fun _ _ _ => []) (fun _ _ _ => []) (fun _ _ _ _ _ => []) (fun _ _ _ _ _ => []) (fun _ _ _ => []) (fun _ _ => []) (fun _ _ _ _ => []) (fun _ _ => []) (fun _ _ => []) (fun _ _ => []) (fun _ => []) (fun _ => []) (fun _ => [])
noncomputable def tabS (x : PySem.Stmt) : List PySem.Stmt := [.Return (rvS x) x.pos, .Assign (tsS x) (svS x) x.pos, .AugAssign (stS x) (opS x) (svS x) x.pos, .For (stS x) (svS x) (b1S x) (b2S x) x.pos, .While (svS x) (b1S x) (b2S x) x.pos, .If (svS x) (b1S x) (b2S x) x.pos, .Expr (svS x) x.pos, x]
theorem etaS (x : PySem.Stmt) : (tabS x)[stg x]? = some x := by cases x <;> rfl
noncomputable def sq (k : Nat) (x : PySem.Stmt) : Bool := Nat.beq (stg x) k
theorem etaS_at {x y : PySem.Stmt} {k : Nat} (h : sq k x = true) (e : (tabS x)[k]? = some y) : x = y := by
  have := etaS x
  rw [Nat.eq_of_beq_eq_true h, e] at this
  exact (Option.some.inj this).symm

theorem an {a b : Bool} (h : (a && b) = true) : a = true ∧ b = true := Bool.and_eq_true_iff.mp h
noncomputable def x0 (l : List PySem.Expr) : PySem.Expr := l.headD default
noncomputable def x1 (l : List PySem.Expr) : PySem.Expr := l.tail.headD default
noncomputable def one {α : Type} (l : List α) : Bool := Nat.beq l.length 1
noncomputable def two {α : Type} (l : List α) : Bool := Nat.beq l.length 2
theorem one_is {α : Type} (d : α) {l : List α} (h : one l = true) : l = [l.headD d] := match l, h with
  | [_], _ => rfl
theorem two_is {α : Type} (d : α) {l : List α} (h : two l = true) : l = [l.headD d, l.tail.headD d] := match l, h with
  | [_, _], _ => rfl
noncomputable def xo (o : Option PySem.Expr) : PySem.Expr := o.getD default
theorem some_is {α : Type} {o : Option α} (d : α) (h : o.isSome = true) : o = some (o.getD d) := match o, h with
  | some _, _ => rfl
theorem none_is {α : Type} {o : Option α} (h : o.isNone = true) : o = none := match o, h with
  | none, _ => rfl
theorem nil_is {α : Type} {l : List α} (h : l.isEmpty = true) : l = [] := match l, h with
  | [], _ => rfl
noncomputable def keyOk (ks : List (List Nat)) (xs : List (Option PySem.Expr)) : Bool := decide (xs.length = ks.length) && (ks.zip xs).all fun kx => match kx.2 with
  | some (.Constant (.str x) _ _) => x == mkS kx.1
  | _ => false
/-- a call of a name -/
noncomputable def calls (x : PySem.Expr) : Bool := tq 10 x && ((kwE x).isEmpty && tq 1 (k0 x))
/-- targets -/
noncomputable def isTgt (kinds : Kinds) (names : List Str) (x : Nat) (t : PySem.Expr) : Bool := tq 1 t && (chkVar kinds names x (nmE t) && decide (kinds.lookup (nmE t) = some .local))
noncomputable def tgtAll (kinds : Kinds) (names : List Str) : List Nat → List PySem.Expr → Bool
  | [], es => es.isEmpty
  | x :: xs, es => (!es.isEmpty && isTgt kinds names x (x0 es)) && tgtAll kinds names xs es.tail
noncomputable def chkTgt (kinds : Kinds) (names : List Str) : Tgt → PySem.Expr → Bool
  | .one x, t => isTgt kinds names x t
  | .many xs, t => tq 2 t && tgtAll kinds names xs (ks t)
noncomputable def tgtNames (t : PySem.Expr) : List Str := cond (tq 1 t) [nmE t] ((ks t).map nmE)
/-- what a loop's range(..), enumerate(..) or plain source is made of -/
noncomputable def itCall (f : Str) (kinds : Kinds) (x : PySem.Expr) : Option PySem.Expr := cond (calls x && (decide (nmE (k0 x) = f) && (isGlob kinds f && one (ks x)))) (some (x0 (ks x))) none
noncomputable def itExpr (kinds : Kinds) (k : Kd) (x : PySem.Expr) : Option PySem.Expr := match k with
  | .items => some x
  | .range => itCall "range" kinds x
  | .enum => itCall "enumerate" kinds x
/-- a call of a method -/
noncomputable def meth (m : Str) (x : PySem.Expr) : Bool := tq 10 x && ((kwE x).isEmpty && (tq 12 (k0 x) && (decide (nmE (k0 x) = m) && (k0 x).pos.endLine == x.pos.line)))

noncomputable def notStarred (x : PySem.Expr) : Bool := @PySem.Expr.casesOn (fun _ => Bool) x (fun _ _ _ => true) (fun _ _ _ => true) (fun _ _ _ _ => true) (fun _ _ _ => true) (fun _ _ _ _ => true) (fun _ _ _ _ => true) (fun _ _ _ => true) (fun _ _ _ => true) (fun _ _ _ _ => true) (fun _ _ _ _ => true) (fun _ _ _ _ _ => true) (fun _ _ _ _ => true) (fun _ _ => true) (fun _ _ => true) (fun _ _ => true) (fun _ _ _ _ => true) (fun _ _ _ _ => true) (fun _ _ _ _ => true) (fun _ _ => true) (fun _ _ _ => true) (fun _ _ _ => true) (fun _ _ _ => true) (fun _ _ => false) (fun _ _ => true) (fun _ _ => true) (fun _ _ _ => true) (fun _ _ _ _ => true)
noncomputable def noSet (x : PySem.Expr) : Bool := @PySem.Expr.casesOn (fun _ => Bool) x (fun _ _ _ => true) (fun _ _ _ => true) (fun _ _ _ _ => true) (fun _ _ _ => true) (fun _ _ _ _ => true) (fun _ _ _ _ => true) (fun _ _ _ => true) (fun _ _ _ => false) (fun _ _ _ _ => true) (fun _ _ _ _ => true) (fun _ _ _ _ _ => true) (fun _ _ _ _ => true) (fun _ _ => true) (fun _ _ => true) (fun _ _ => true) (fun _ _ _ _ => true) (fun _ _ _ _ => true) (fun _ _ _ _ => true) (fun _ _ => true) (fun _ _ _ => true) (fun _ _ _ => true) (fun _ _ _ => true) (fun _ _ => true) (fun _ _ => true) (fun _ _ => true) (fun _ _ _ => true) (fun _ _ _ _ => true)
noncomputable def noSlice (x : PySem.Expr) : Bool := @PySem.Expr.casesOn (fun _ => Bool) x (fun _ _ _ => true) (fun _ _ _ => true) (fun _ _ _ _ => true) (fun _ _ _ => true) (fun _ _ _ _ => true) (fun _ _ _ _ => true) (fun _ _ _ => true) (fun _ _ _ => true) (fun _ _ _ _ => true) (fun _ _ _ _ => true) (fun _ _ _ _ _ => true) (fun _ _ _ _ => true) (fun _ _ => true) (fun _ _ => true) (fun _ _ => true) (fun _ _ _ _ => true) (fun _ _ _ _ => true) (fun _ _ _ _ => true) (fun _ _ => true) (fun _ _ _ => true) (fun _ _ _ => true) (fun _ _ _ => true) (fun _ _ => true) (fun _ _ => true) (fun _ _ => true) (fun _ _ _ => true) (fun _ _ _ _ => false)
noncomputable def noCall (x : PySem.Expr) : Bool := @PySem.Expr.casesOn (fun _ => Bool) x (fun _ _ _ => true) (fun _ _ _ => true) (fun _ _ _ _ => true) (fun _ _ _ => true) (fun _ _ _ _ => true) (fun _ _ _ _ => true) (fun _ _ _ => true) (fun _ _ _ => true) (fun _ _ _ _ => true) (fun _ _ _ _ => true) (fun _ _ _ _ _ => true) (fun _ _ _ _ => true) (fun _ _ => true) (fun _ _ => true) (fun _ _ => true) (fun _ _ _ _ => true) (fun _ _ _ _ => false) (fun _ _ _ _ => true) (fun _ _ => true) (fun _ _ _ => true) (fun _ _ _ => true) (fun _ _ _ => true) (fun _ _ => true) (fun _ _ => true) (fun _ _ => true) (fun _ _ _ => true) (fun _ _ _ _ => true)
noncomputable def noBool (x : PySem.Expr) : Bool := @PySem.Expr.casesOn (fun _ => Bool) x (fun _ _ _ => false) (fun _ _ _ => true) (fun _ _ _ _ => true) (fun _ _ _ => true) (fun _ _ _ _ => true) (fun _ _ _ _ => true) (fun _ _ _ => true) (fun _ _ _ => true) (fun _ _ _ _ => true) (fun _ _ _ _ => true) (fun _ _ _ _ _ => true) (fun _ _ _ _ => true) (fun _ _ => true) (fun _ _ => true) (fun _ _ => true) (fun _ _ _ _ => true) (fun _ _ _ _ => true) (fun _ _ _ _ => true) (fun _ _ => true) (fun _ _ _ => true) (fun _ _ _ => true) (fun _ _ _ => true) (fun _ _ => true) (fun _ _ => true) (fun _ _ => true) (fun _ _ _ => true) (fun _ _ _ _ => true)
noncomputable def isComp (x : PySem.Expr) : Bool := @PySem.Expr.casesOn (fun _ => Bool) x (fun _ _ _ => false) (fun _ _ _ => false) (fun _ _ _ _ => false) (fun _ _ _ => false) (fun _ _ _ _ => false) (fun _ _ _ _ => false) (fun _ _ _ => false) (fun _ _ _ => false) (fun _ _ _ _ => true) (fun _ _ _ _ => true) (fun _ _ _ _ _ => true) (fun _ _ _ _ => false) (fun _ _ => false) (fun _ _ => false) (fun _ _ => false) (fun _ _ _ _ => false) (fun _ _ _ _ => false) (fun _ _ _ _ => false) (fun _ _ => false) (fun _ _ _ => false) (fun _ _ _ => false) (fun _ _ _ => false) (fun _ _ => false) (fun _ _ => false) (fun _ _ => false) (fun _ _ _ => false) (fun _ _ _ _ => false)
section
variable {x : PySem.Expr}
theorem c_call {f f' : PySem.Expr} {as as' : List PySem.Expr} {ws ws' : List Keyword} {p : Pos} (hf : f = f') (ha : as = as') (hk : ws = ws') : PySem.Expr.Call f as ws p = .Call f' as' ws' p := by rw [hf, ha, hk]
theorem c_attr {f f' : PySem.Expr} {m m' : Str} {p : Pos} (hf : f = f') (hm : m = m') : PySem.Expr.Attribute f m p = .Attribute f' m' p := by rw [hf, hm]
theorem c_sub {f f' g g' : PySem.Expr} {p : Pos} (hf : f = f') (hg : g = g') : PySem.Expr.Subscript f g p = .Subscript f' g' p := by rw [hf, hg]
theorem c_slice {l l' u u' t t' : Option PySem.Expr} {p : Pos} (hl : l = l') (hu : u = u') (ht : t = t') : PySem.Expr.Slice l u t p = .Slice l' u' t' p := by rw [hl, hu, ht]
theorem c_bool {o o' : BoolOp} {es es' : List PySem.Expr} {p : Pos} (ho : o = o') (he : es = es') : PySem.Expr.BoolOp o es p = .BoolOp o' es' p := by rw [ho, he]
theorem e_const {c : Const} (h : tq 0 x = true) (hc : cE x = c) : x = .Constant c (kE x) x.pos := (eta_at h rfl).trans (by rw [hc])
theorem e_nm (h : tq 1 x = true) : x = .Name (nmE x) x.pos := eta_at h rfl
theorem e_tuple (h : tq 2 x = true) : x = .Tuple (ks x) (kE x) x.pos := eta_at h rfl
theorem e_list (h : tq 3 x = true) : x = .List (ks x) x.pos := eta_at h rfl
theorem e_sub (h : tq 4 x = true) : x = .Subscript (k0 x) (k1 x) x.pos := eta_at h rfl
theorem e_bin {o : Operator} (h : tq 5 x = true) (ho : opE x = o) : x = .BinOp (k0 x) o (k1 x) x.pos := (eta_at h rfl).trans (by rw [ho])
theorem e_cmp {os : List CmpOp} (h : tq 6 x = true) (ho : opsE x = os) (hk : one (ks x) = true) : x = .Compare (k0 x) os [x0 (ks x)] x.pos := (eta_at h rfl).trans (by rw [ho]; exact congrArg (fun l => PySem.Expr.Compare (k0 x) os l x.pos) (one_is default hk))
theorem e_un {o : UnaryOp} (h : tq 11 x = true) (ho : uopE x = o) : x = .UnaryOp o (k0 x) x.pos := (eta_at h rfl).trans (by rw [ho])
theorem e_slice (h : tq 13 x = true) : x = .Slice (o1 x) (o2 x) (o3 x) x.pos := eta_at h rfl
theorem e_calls (h : calls x = true) : x = .Call (.Name (nmE (k0 x)) (k0 x).pos) (ks x) [] x.pos := (eta_at (an h).1 rfl).trans (c_call (e_nm (an (an h).2).2) rfl (nil_is (an (an h).2).1))
theorem e_meth {m : Str} (h : meth m x = true) : x = .Call (.Attribute (k0 (k0 x)) m (k0 x).pos) (ks x) [] x.pos ∧ ((k0 x).pos.endLine == x.pos.line) = true :=
  have a := (an (an h).2).2
  ⟨(eta_at (an h).1 rfl).trans (c_call ((eta_at (an a).1 rfl).trans (c_attr rfl (of_decide_eq_true (an (an a).2).1))) rfl (nil_is (an (an h).2).1)), (an (an a).2).2⟩
theorem dk {p : Prop} [Decidable p] (h : decide p = true) : p := of_decide_eq_true h
theorem c_args1 {f : PySem.Expr} {p : Pos} {l : List PySem.Expr} (h : one l = true) : PySem.Expr.Call f l [] p = .Call f [x0 l] [] p := c_call rfl (one_is default h) rfl
theorem c_args2 {f : PySem.Expr} {p : Pos} {l : List PySem.Expr} (h : two l = true) : PySem.Expr.Call f l [] p = .Call f [x0 l, x1 l] [] p := c_call rfl (two_is default h) rfl
theorem nb {b : Bool} (h : (!b) = true) : b = false := by cases b; rfl; cases h
end


section
variable (fns : List Str)
mutual
noncomputable def chkE (kinds : Kinds) (names : List Str) : E → PySem.Expr → Bool
  | .none, x => tq 0 x && decide (cE x = .none)
  | .bool b, x => tq 0 x && decide (cE x = .bool b)
  | .int i, x => (tq 0 x && decide (cE x = .int i)) || (tq 11 x && (decide (uopE x = .USub) && (tq 0 (k0 x) && decide (cE (k0 x) = .int (-i)))))
  | .str s, x => tq 0 x && decide (cE x = .str (mkS s))
  | .var v, x => tq 1 x && chkVar kinds names v (nmE x)
  | .fn f, x => tq 1 x && (decide (fns[f]? = some (nmE x)) && isGlob kinds (nmE x))
  | .tup es, x => tq 2 x && (decide ((ks x).length ≤ 100) && chkL kinds names es (ks x))
  | .lst es, x => tq 3 x && (decide ((ks x).length ≤ 100) && chkL kinds names es (ks x))
  | .sub a i, x => tq 4 x && (chkE kinds names a (k0 x) && chkE kinds names i (k1 x))
  | .upto a hi, x => (tq 4 x && (tq 13 (k1 x) && ((o1 (k1 x)).isNone && ((o3 (k1 x)).isNone && (o2 (k1 x)).isSome)))) && (chkE kinds names a (k0 x) && chkE kinds names hi (xo (o2 (k1 x))))
  | .from' a lo, x => (tq 4 x && (tq 13 (k1 x) && ((o2 (k1 x)).isNone && ((o3 (k1 x)).isNone && (o1 (k1 x)).isSome)))) && (chkE kinds names a (k0 x) && chkE kinds names lo (xo (o1 (k1 x))))
  | .cut a lo hi, x => (tq 4 x && (tq 13 (k1 x) && ((o3 (k1 x)).isNone && ((o1 (k1 x)).isSome && (o2 (k1 x)).isSome)))) && (chkE kinds names a (k0 x) && (chkE kinds names lo (xo (o1 (k1 x))) && chkE kinds names hi (xo (o2 (k1 x)))))
  | .bin op a b, x => (tq 5 x && decide (opE x = opOf op)) && (chkE kinds names a (k0 x) && chkE kinds names b (k1 x))
  | .cmp op a b, x => (tq 6 x && (decide (opsE x = [cmOf op]) && one (ks x))) && (chkE kinds names a (k0 x) && chkE kinds names b (x0 (ks x)))
  | .ite t a b, x => tq 7 x && (chkT kinds names t (k0 x) && (chkE kinds names a (k1 x) && chkE kinds names b (k2 x)))
  | .dict ds vs, x => tq 8 x && (decide (ds.length = vs.length ∧ vs.length ≤ 15 ∧ vs ≠ [] ∧ ds.Nodup) && (keyOk ds (dkE x) && chkL kinds names vs (ks x)))
  | .comp elt tgt kind it caps, x => (tq 9 x && (one (gsE x) && (((gsE x).headD default).ifs.isEmpty && (decide (((gsE x).headD default).is_async = 0) && (itExpr kinds kind ((gsE x).headD default).iter).isSome)))) &&
      ((enumTgt kind tgt && (caps.all (fun c => (names[c]?).any fun nm => kinds.lookup nm == some .cell) && (chkScope kinds (caps.filterMap (names[·]?)) (scE x) &&
      (chkTgt (relNames kinds (scE x).names) (caps.filterMap (names[·]?) ++ tgtNames ((gsE x).headD default).target) tgt ((gsE x).headD default).target && decide (caps.filterMap (names[·]?) ++ tgtNames ((gsE x).headD default).target).Nodup)))) &&
      (chkE kinds names it (xo (itExpr kinds kind ((gsE x).headD default).iter)) && chkE (relNames kinds (scE x).names) (caps.filterMap (names[·]?) ++ tgtNames ((gsE x).headD default).target) elt (k0 x)))
  | .call f es, x => calls x && ((decide (fns[f]? = some (nmE (k0 x))) && isGlob kinds (nmE (k0 x))) && chkL kinds names es (ks x))
  | .callv a es, x => (tq 10 x && ((kwE x).isEmpty && tq 4 (k0 x))) && (chkE kinds names a (k0 x) && chkL kinds names es (ks x))
  | .len a, x => (calls x && (decide (nmE (k0 x) = "len") && one (ks x))) && (isGlob kinds "len" && chkE kinds names a (x0 (ks x)))
  | .txt a, x => (calls x && (decide (nmE (k0 x) = "str") && one (ks x))) && (isGlob kinds "str" && chkE kinds names a (x0 (ks x)))
  | .join sep a, x => (meth "join" x && (one (ks x) && (tq 0 (k0 (k0 x)) && decide (cE (k0 (k0 x)) = .str (mkS sep))))) && (decide (sep.length ≤ 8) && chkE kinds names a (x0 (ks x)))
  | .get1 d k, x => (meth "get" x && one (ks x)) && (noCall (k0 (k0 x)) && (chkE kinds names d (k0 (k0 x)) && chkE kinds names k (x0 (ks x))))
  | .get2 d k v, x => (meth "get" x && two (ks x)) && (noCall (k0 (k0 x)) && (chkE kinds names d (k0 (k0 x)) && (chkE kinds names k (x0 (ks x)) && chkE kinds names v (x1 (ks x)))))
  | .find d k v, x => (meth "find" x && two (ks x)) && (noCall (k0 (k0 x)) && (chkE kinds names d (k0 (k0 x)) && (chkE kinds names k (x0 (ks x)) && chkE kinds names v (x1 (ks x)))))
  | .alnum d, x => (meth "isalnum" x && (ks x).isEmpty) && (noCall (k0 (k0 x)) && chkE kinds names d (k0 (k0 x)))
noncomputable def chkL (kinds : Kinds) (names : List Str) : List E → List PySem.Expr → Bool
  | [], xs => xs.isEmpty
  | e :: es, xs => !xs.isEmpty && (chkE kinds names e (x0 xs) && chkL kinds names es xs.tail)
noncomputable def chkT (kinds : Kinds) (names : List Str) : T → PySem.Expr → Bool
  | .of e, x => chkE kinds names e x && (!tq 7 x && !tq 11 x)
  | .and a b, x => (tq 14 x && (decide (bopE x = .And) && two (ks x))) && (chkT kinds names a (x0 (ks x)) && chkT kinds names b (x1 (ks x)))
  | .or a b, x => (tq 14 x && (decide (bopE x = .Or) && two (ks x))) && (chkT kinds names a (x0 (ks x)) && chkT kinds names b (x1 (ks x)))
end
end

/-- the name of a local variable at this place -/
noncomputable def chkLoc (kinds : Kinds) (names : List Str) (x : Nat) (nm : Str) : Bool := chkVar kinds names x nm && kinds.lookup nm == some .local
/-- a name is bound -/
noncomputable def bindsN (s : PySem.Stmt) : Bool := sq 1 s && (one (tsS s) && tq 1 (x0 (tsS s)))
/-- two names are bound to two values -/
noncomputable def binds2 (s : PySem.Stmt) : Bool := sq 1 s && (one (tsS s) && (tq 2 (x0 (tsS s)) && (two (ks (x0 (tsS s))) && (tq 2 (svS s) && (two (ks (svS s)) && (tq 1 (x0 (ks (x0 (tsS s)))) && tq 1 (x1 (ks (x0 (tsS s))))))))))
/-- a method of a name is called -/
noncomputable def methS (m : Str) (s : PySem.Stmt) : Bool := sq 6 s && (meth m (svS s) && (one (ks (svS s)) && tq 1 (k0 (k0 (svS s)))))

section
variable (fns : List Str)
mutual
noncomputable def chkS (kinds : Kinds) (names : List Str) (acc : Nat) : S → PySem.Stmt → Bool
  | .ret e, x => (sq 0 x && (rvS x).isSome) && chkE fns kinds names e (xo (rvS x))
  | .asg y e, x => bindsN x && (chkLoc kinds names y (nmE (x0 (tsS x))) && (chkE fns kinds names e (svS x) && (!tq 9 (svS x) || ((x0 (tsS x)).pos.line == (svS x).pos.line && !((scE (svS x)).names.any fun (m, k) => m == nmE (x0 (tsS x)) && (k == .local || k == .cell))))))
  | .asg2 y z a b, x => binds2 x && ((chkLoc kinds names y (nmE (x0 (ks (x0 (tsS x))))) && (chkLoc kinds names z (nmE (x1 (ks (x0 (tsS x))))) && (decide (nmE (x0 (ks (x0 (tsS x)))) ≠ nmE (x1 (ks (x0 (tsS x))))) && decide ((x0 (ks (x0 (tsS x)))).pos.line = (x1 (ks (x0 (tsS x)))).pos.line)))) &&
      ((!([x0 (ks (svS x)), x1 (ks (svS x))].all (foldedForSure 8)) && !([x0 (ks (svS x)), x1 (ks (svS x))].all (constantsAlone 8))) && (chkE fns kinds names a (x0 (ks (svS x))) && chkE fns kinds names b (x1 (ks (svS x))))))
  | .aug y e, x => (sq 2 x && (decide (opS x = .Add) && tq 1 (stS x))) && (chkLoc kinds names y (nmE (stS x)) && chkE fns kinds names e (svS x))
  | .ife t a b, x => sq 5 x && (chkT fns kinds names t (svS x) && (chkSs kinds names acc a (b1S x) && chkSs kinds names acc b (b2S x)))
  | .for' tgt kind it body, x => (sq 3 x && ((b2S x).isEmpty && (itExpr kinds kind (svS x)).isSome)) && ((enumTgt kind tgt && (tgtNot acc tgt && chkTgt kinds names tgt (stS x))) && (chkE fns kinds names it (xo (itExpr kinds kind (svS x))) && chkSs kinds names acc body (b1S x)))
  | .while' t body, x => (sq 4 x && (b2S x).isEmpty) && (chkT fns kinds names t (svS x) && chkSs kinds names acc body (b1S x))
  | .own e, x => bindsN x && ((chkLoc kinds names acc (nmE (x0 (tsS x))) && (!isComp (svS x) && ownTop e)) && chkE fns kinds names e (svS x))
  | .own2 y b, x => (binds2 x && (tq 3 (x0 (ks (svS x))) && (ks (x0 (ks (svS x)))).isEmpty)) && ((chkLoc kinds names acc (nmE (x0 (ks (x0 (tsS x))))) && (chkLoc kinds names y (nmE (x1 (ks (x0 (tsS x))))) && (decide (nmE (x0 (ks (x0 (tsS x)))) ≠ nmE (x1 (ks (x0 (tsS x))))) && decide ((x0 (ks (x0 (tsS x)))).pos.line = (x1 (ks (x0 (tsS x)))).pos.line)))) &&
      chkE fns kinds names b (x1 (ks (svS x))))
  | .append e, x => methS "append" x && (chkLoc kinds names acc (nmE (k0 (k0 (svS x)))) && chkE fns kinds names e (x0 (ks (svS x))))
  | .extend e, x => methS "extend" x && (chkLoc kinds names acc (nmE (k0 (k0 (svS x)))) && chkE fns kinds names e (x0 (ks (svS x))))
noncomputable def chkSs (kinds : Kinds) (names : List Str) (acc : Nat) : List S → List PySem.Stmt → Bool
  | [], xs => xs.isEmpty
  | s :: ss, xs => !xs.isEmpty && (chkS kinds names acc s (xs.headD default) && chkSs kinds names acc ss xs.tail)
end
end

structure Fun where
  name : Str
  params : List Str
  names : List Str
  acc : Nat
  body : List S

noncomputable def chkHead (fn : Fun) (name : Str) (params : Arguments) (scope : Scope) : Bool :=
  name == fn.name && params.args.map (·.arg) == fn.params && params.posonlyargs.isEmpty && params.vararg.isNone && params.kwonlyargs.isEmpty && params.kw_defaults.isEmpty && params.kwarg.isNone && params.defaults.isEmpty &&
  scope.kind == .function && !scope.isGenerator && !scope.isCoroutine && fn.params.isPrefixOf fn.names && decide fn.names.Nodup && decide (scope.names.map (·.1)).Nodup &&
  fn.params.all fun p => scope.names.lookup p == some .local || scope.names.lookup p == some .cell
noncomputable def chkFun (fns : List Str) (fn : Fun) (name : Str) (params : Arguments) (scope : Scope) (body : List PySem.Stmt) : Bool :=
  chkHead fn name params scope && chkSs fns scope.names fn.names fn.acc fn.body body

open PySem
/- 0: show_range_of(listers, tree, text) -/
noncomputable def b0 : List S := [
  .ife (.of (.cmp .ne (.sub (.var 1) (.int 0)) (.str [115, 117, 98]))) [
    .ret (.callv (.sub (.var 0) (.str [115, 104, 111, 119])) [(.var 1)])] [],
  .asg 2 (.callv (.sub (.var 0) (.str [115, 104, 111, 119])) [(.sub (.var 1) (.int 1))]),
  .ife (.of (.cmp .is (.sub (.var 1) (.int 2)) .none)) [
    .ret (.var 2)] [],
  .ife (.of (.cmp .eq (.sub (.sub (.var 1) (.int 2)) (.int 0)) (.str [114, 97, 110, 103, 101]))) [
    .ret (.bin .add (.bin .add (.var 2) (.str [32, 114, 97, 110, 103, 101, 32])) (.callv (.sub (.var 0) (.str [115, 104, 111, 119])) [(.sub (.sub (.var 1) (.int 2)) (.int 1))]))] [],
  .ret (.bin .add (.bin .add (.bin .add (.var 2) (.str [40])) (.callv (.sub (.var 0) (.str [97, 115, 115, 111, 99, 115])) [(.sub (.sub (.var 1) (.int 2)) (.int 1))])) (.str [41]))]

/- 1: show_choices(listers, choices, texts, choice) -/
noncomputable def b1 : List S := [
  .own (.lst []),
  .for' (.one 3) .items (.var 1) [
    .append (.ite (.of (.cmp .eq (.var 3) (.tup [(.str [111, 116, 104, 101, 114, 115])]))) (.str [111, 116, 104, 101, 114, 115]) (.call 0 [(.var 0), (.var 3)]))],
  .ret (.join [32, 124, 32] (.var 2))]

/- 2: list_rows(listers, trees, rows, tree) -/
noncomputable def b2 : List S := [
  .own (.lst []),
  .for' (.one 3) .items (.var 1) [
    .extend (.callv (.sub (.var 0) (.sub (.var 3) (.int 0))) [(.var 0), (.var 3)])],
  .ret (.var 2)]

/- 3: arm_rows(listers, arms, rows, choices, stmts) -/
noncomputable def b3 : List S := [
  .own (.lst []),
  .for' (.many [3, 4]) .items (.var 1) [
    .append (.bin .add (.bin .add (.str [119, 104, 101, 110, 32]) (.call 1 [(.var 0), (.var 3)])) (.str [32, 61, 62])),
    .extend (.call 2 [(.var 0), (.var 4)])],
  .ret (.var 2)]

/- 4: handled_rows(listers, stmts, handlers, rows) -/
noncomputable def b4 : List S := [
  .asg 3 (.bin .add (.lst [(.str [98, 101, 103, 105, 110])]) (.call 2 [(.var 0), (.var 1)])),
  .ife (.of (.cmp .ne (.var 2) (.lst []))) [
    .asg 3 (.bin .add (.bin .add (.var 3) (.lst [(.str [101, 120, 99, 101, 112, 116, 105, 111, 110])])) (.call 3 [(.var 0), (.var 2)]))] [],
  .ret (.var 3)]

/- 5: show_names(names) -/
noncomputable def b5 : List S := [
  .ret (.join [44, 32] (.var 0))]

/- 6: show_params(listers, params, texts, names, mode, mark, default, text) -/
noncomputable def b6 : List S := [
  .ife (.of (.cmp .eq (.var 1) (.lst []))) [
    .ret (.str [])] [],
  .own (.lst []),
  .for' (.many [3, 4, 5, 6]) .items (.var 1) [
    .asg 7 (.bin .add (.bin .add (.bin .add (.bin .add (.call 5 [(.var 3)]) (.str [32, 58, 32])) (.get2 (.dict [[105, 110, 111, 117, 116]] [(.str [105, 110, 32, 111, 117, 116])]) (.var 4) (.var 4))) (.str [32])) (.callv (.sub (.var 0) (.str [115, 104, 111, 119])) [(.var 5)])),
    .ife (.of (.cmp .isNot (.var 6) .none)) [
      .aug 7 (.bin .add (.str [32, 58, 61, 32]) (.callv (.sub (.var 0) (.str [115, 104, 111, 119])) [(.var 6)]))] [],
    .append (.var 7)],
  .ret (.bin .add (.bin .add (.str [32, 40]) (.join [59, 32] (.var 2))) (.str [41]))]

/- 7: default_behind(listers, node) -/
noncomputable def b7 : List S := [
  .ret (.ite (.of (.cmp .is (.var 1) .none)) (.str []) (.bin .add (.str [32, 58, 61, 32]) (.callv (.sub (.var 0) (.str [115, 104, 111, 119])) [(.var 1)])))]

/- 8: show_array(listers, definition, texts, index, text) -/
noncomputable def b8 : List S := [
  .own (.lst []),
  .for' (.one 3) .items (.sub (.var 1) (.int 1)) [
    .asg 4 (.call 0 [(.var 0), (.var 3)]),
    .append (.ite (.of (.sub (.var 1) (.int 2))) (.var 4) (.bin .add (.var 4) (.str [32, 114, 97, 110, 103, 101, 32, 60, 62])))],
  .ret (.bin .add (.bin .add (.bin .add (.str [97, 114, 114, 97, 121, 32, 40]) (.call 5 [(.var 2)])) (.str [41, 32, 111, 102, 32])) (.call 0 [(.var 0), (.sub (.var 1) (.int 3))]))]

/- 9: show_kind(listers, tree) -/
noncomputable def b9 : List S := [
  .ife (.of (.cmp .eq (.sub (.var 1) (.int 0)) (.str [97, 114, 114, 97, 121]))) [
    .ret (.call 8 [(.var 0), (.var 1)])] [],
  .ret (.call 0 [(.var 0), (.var 1)])]

/- 10: show_discs(listers, discs) -/
noncomputable def b10 : List S := [
  .ife (.of (.cmp .is (.var 1) .none)) [
    .ret (.str [])] [],
  .ife (.of (.cmp .eq (.var 1) (.str [98, 111, 120]))) [
    .ret (.str [32, 40, 60, 62, 41])] [],
  .ret (.bin .add (.bin .add (.str [32, 40]) (.join [59, 32] (.comp (.bin .add (.bin .add (.bin .add (.call 5 [(.var 1)]) (.str [32, 58, 32])) (.call 9 [(.var 0), (.var 2)])) (.call 7 [(.var 0), (.var 3)])) (.many [1, 2, 3]) .items (.var 1) [0]))) (.str [41]))]

/- 11: show_words(flags, words, text, k) -/
noncomputable def b11 : List S := [
  .asg 2 (.str []),
  .for' (.one 3) .range (.len (.var 0)) [
    .ife (.of (.sub (.var 0) (.var 3))) [
      .aug 2 (.bin .add (.sub (.var 1) (.var 3)) (.str [32]))] []],
  .ret (.var 2)]

/- 12: show_components(listers, components, variant, text, names, kind, default, choices, inner, inner_variant) -/
noncomputable def b12 : List S := [
  .asg 3 (.str []),
  .for' (.many [4, 5, 6]) .items (.var 1) [
    .aug 3 (.bin .add (.bin .add (.bin .add (.bin .add (.call 5 [(.var 4)]) (.str [32, 58, 32])) (.call 9 [(.var 0), (.var 5)])) (.call 7 [(.var 0), (.var 6)])) (.str [59, 32]))],
  .ife (.of (.cmp .isNot (.var 2) .none)) [
    .aug 3 (.bin .add (.bin .add (.str [99, 97, 115, 101, 32]) (.sub (.var 2) (.int 0))) (.str [32, 105, 115, 32])),
    .for' (.many [7, 8, 9]) .items (.sub (.var 2) (.int 1)) [
      .aug 3 (.bin .add (.bin .add (.bin .add (.str [119, 104, 101, 110, 32]) (.call 1 [(.var 0), (.var 7)])) (.str [32, 61, 62, 32])) (.call 12 [(.var 0), (.var 8), (.var 9)]))],
    .ret (.bin .add (.var 3) (.str [101, 110, 100, 32, 99, 97, 115, 101, 59, 32]))] [],
  .ret (.ite (.of (.cmp .eq (.var 3) (.str []))) (.str [110, 117, 108, 108, 59, 32]) (.var 3))]

/- 13: show_record(listers, definition, head) -/
noncomputable def b13 : List S := [
  .asg 2 (.call 11 [(.tup [(.sub (.var 1) (.int 5)), (.sub (.var 1) (.int 3)), (.sub (.var 1) (.int 4))]), (.tup [(.str [97, 98, 115, 116, 114, 97, 99, 116]), (.str [116, 97, 103, 103, 101, 100]), (.str [108, 105, 109, 105, 116, 101, 100])])]),
  .ife (.and (.of (.cmp .eq (.sub (.var 1) (.int 1)) (.lst []))) (.of (.cmp .is (.sub (.var 1) (.int 2)) .none))) [
    .ret (.bin .add (.var 2) (.str [110, 117, 108, 108, 32, 114, 101, 99, 111, 114, 100]))] [],
  .ret (.bin .add (.bin .add (.bin .add (.var 2) (.str [114, 101, 99, 111, 114, 100, 32])) (.call 12 [(.var 0), (.sub (.var 1) (.int 1)), (.sub (.var 1) (.int 2))])) (.str [101, 110, 100, 32, 114, 101, 99, 111, 114, 100]))]

/- 14: show_derived(listers, definition, head) -/
noncomputable def b14 : List S := [
  .asg 2 (.bin .add (.bin .add (.call 11 [(.tup [(.sub (.var 1) (.int 3))]), (.tup [(.str [97, 98, 115, 116, 114, 97, 99, 116])])]) (.str [110, 101, 119, 32])) (.call 0 [(.var 0), (.sub (.var 1) (.int 1))])),
  .ife (.of (.cmp .is (.sub (.var 1) (.int 2)) .none)) [
    .ret (.var 2)] [],
  .ret (.bin .add (.bin .add (.var 2) (.str [32, 119, 105, 116, 104, 32])) (.call 13 [(.var 0), (.sub (.var 1) (.int 2))]))]

/- 15: show_number_type(listers, definition, text) -/
noncomputable def b15 : List S := [
  .ife (.of (.cmp .eq (.sub (.var 1) (.int 0)) (.str [105, 110, 116, 114, 97, 110, 103, 101]))) [
    .ret (.bin .add (.str [114, 97, 110, 103, 101, 32]) (.callv (.sub (.var 0) (.str [115, 104, 111, 119])) [(.sub (.var 1) (.int 1))]))] [],
  .ife (.of (.cmp .eq (.sub (.var 1) (.int 0)) (.str [109, 111, 100, 117, 108, 97, 114]))) [
    .ret (.bin .add (.str [109, 111, 100, 32]) (.callv (.sub (.var 0) (.str [115, 104, 111, 119])) [(.sub (.var 1) (.int 1))]))] [],
  .asg 2 (.bin .add (.str [100, 101, 108, 116, 97, 32]) (.callv (.sub (.var 0) (.str [115, 104, 111, 119])) [(.sub (.var 1) (.int 1))])),
  .ife (.of (.cmp .isNot (.sub (.var 1) (.int 2)) .none)) [
    .aug 2 (.bin .add (.str [32, 114, 97, 110, 103, 101, 32]) (.callv (.sub (.var 0) (.str [115, 104, 111, 119])) [(.sub (.var 1) (.int 2))]))] [],
  .ret (.var 2)]

/- 16: show_definition(listers, definition, word, marks, mode) -/
noncomputable def b16 : List S := [
  .asg 2 (.sub (.var 1) (.int 0)),
  .asg 3 (.dict [[100, 105, 115, 99, 114, 101, 116, 101], [97, 110, 121, 114, 97, 110, 103, 101], [97, 110, 121, 109, 111, 100], [97, 110, 121, 100, 101, 108, 116, 97]] [(.str [40, 60, 62, 41]), (.str [114, 97, 110, 103, 101, 32, 60, 62]), (.str [109, 111, 100, 32, 60, 62]), (.str [100, 101, 108, 116, 97, 32, 60, 62])]),
  .ife (.of (.cmp .isIn (.var 2) (.var 3))) [
    .ret (.sub (.var 3) (.var 2))] [],
  .ife (.of (.cmp .eq (.var 2) (.str [101, 110, 117, 109]))) [
    .ret (.bin .add (.bin .add (.str [40]) (.call 5 [(.comp (.callv (.sub (.var 0) (.str [115, 104, 111, 119])) [(.var 1)]) (.one 1) .items (.sub (.var 1) (.int 1)) [0])])) (.str [41]))] [],
  .ife (.of (.cmp .isIn (.var 2) (.tup [(.str [105, 110, 116, 114, 97, 110, 103, 101]), (.str [109, 111, 100, 117, 108, 97, 114]), (.str [102, 105, 120, 101, 100])]))) [
    .ret (.call 15 [(.var 0), (.var 1)])] [],
  .ife (.of (.cmp .eq (.var 2) (.str [97, 114, 114, 97, 121]))) [
    .ret (.call 8 [(.var 0), (.var 1)])] [],
  .ife (.of (.cmp .eq (.var 2) (.str [114, 101, 99, 111, 114, 100]))) [
    .ret (.call 13 [(.var 0), (.var 1)])] [],
  .ife (.of (.cmp .eq (.var 2) (.str [97, 99, 99, 101, 115, 115]))) [
    .asg 4 (.ite (.of (.cmp .eq (.sub (.var 1) (.int 2)) (.str []))) (.str []) (.bin .add (.sub (.var 1) (.int 2)) (.str [32]))),
    .ret (.bin .add (.bin .add (.str [97, 99, 99, 101, 115, 115, 32]) (.var 4)) (.call 0 [(.var 0), (.sub (.var 1) (.int 1))]))] [],
  .ife (.of (.cmp .eq (.var 2) (.str [100, 101, 114, 105, 118, 101, 100]))) [
    .ret (.call 14 [(.var 0), (.var 1)])] [],
  .ife (.of (.cmp .eq (.var 2) (.str [101, 120, 116, 101, 110, 115, 105, 111, 110]))) [
    .ret (.bin .add (.bin .add (.bin .add (.call 11 [(.tup [(.sub (.var 1) (.int 2))]), (.tup [(.str [97, 98, 115, 116, 114, 97, 99, 116])])]) (.str [110, 101, 119, 32])) (.call 0 [(.var 0), (.sub (.var 1) (.int 1))])) (.str [32, 119, 105, 116, 104, 32, 112, 114, 105, 118, 97, 116, 101]))] [],
  .ret (.bin .add (.call 11 [(.tup [(.sub (.var 1) (.int 3)), (.sub (.var 1) (.int 1)), (.sub (.var 1) (.int 2))]), (.tup [(.str [97, 98, 115, 116, 114, 97, 99, 116]), (.str [116, 97, 103, 103, 101, 100]), (.str [108, 105, 109, 105, 116, 101, 100])])]) (.str [112, 114, 105, 118, 97, 116, 101]))]

/- 17: show_spec(listers, spec, text) -/
noncomputable def b17 : List S := [
  .asg 2 (.bin .add (.bin .add (.bin .add (.sub (.var 1) (.int 0)) (.str [32])) (.sub (.var 1) (.int 1))) (.call 6 [(.var 0), (.sub (.var 1) (.int 2))])),
  .ife (.of (.cmp .isNot (.sub (.var 1) (.int 3)) .none)) [
    .aug 2 (.bin .add (.str [32, 114, 101, 116, 117, 114, 110, 32]) (.callv (.sub (.var 0) (.str [115, 104, 111, 119])) [(.sub (.var 1) (.int 3))]))] [],
  .ret (.var 2)]

/- 18: list_object(listers, decl, word) -/
noncomputable def b18 : List S := [
  .asg 2 (.ite (.of (.sub (.var 1) (.int 3))) (.str [99, 111, 110, 115, 116, 97, 110, 116, 32]) (.str [])),
  .ret (.lst [(.bin .add (.bin .add (.bin .add (.bin .add (.bin .add (.call 5 [(.sub (.var 1) (.int 2))]) (.str [32, 58, 32])) (.var 2)) (.call 9 [(.var 0), (.sub (.var 1) (.int 4))])) (.call 7 [(.var 0), (.sub (.var 1) (.int 5))])) (.str [59]))])]

/- 19: list_number_names(listers, decl) -/
noncomputable def b19 : List S := [
  .ret (.lst [(.bin .add (.bin .add (.bin .add (.call 5 [(.sub (.var 1) (.int 2))]) (.str [32, 58, 32, 99, 111, 110, 115, 116, 97, 110, 116, 32, 58, 61, 32])) (.callv (.sub (.var 0) (.str [115, 104, 111, 119])) [(.sub (.var 1) (.int 3))])) (.str [59]))])]

/- 20: list_typedecl(listers, decl, text) -/
noncomputable def b20 : List S := [
  .asg 2 (.bin .add (.bin .add (.str [116, 121, 112, 101, 32]) (.sub (.var 1) (.int 2))) (.call 10 [(.var 0), (.sub (.var 1) (.int 3))])),
  .ife (.of (.cmp .eq (.sub (.var 1) (.int 4)) (.tup [(.str [105, 110, 99, 111, 109, 112, 108, 101, 116, 101])]))) [
    .ret (.lst [(.bin .add (.var 2) (.str [59]))])] [],
  .ret (.lst [(.bin .add (.bin .add (.bin .add (.var 2) (.str [32, 105, 115, 32])) (.call 16 [(.var 0), (.sub (.var 1) (.int 4))])) (.str [59]))])]

/- 21: list_subtype(listers, decl) -/
noncomputable def b21 : List S := [
  .ret (.lst [(.bin .add (.bin .add (.bin .add (.bin .add (.str [115, 117, 98, 116, 121, 112, 101, 32]) (.sub (.var 1) (.int 2))) (.str [32, 105, 115, 32])) (.call 0 [(.var 0), (.sub (.var 1) (.int 3))])) (.str [59]))])]

/- 22: list_subprog(listers, decl) -/
noncomputable def b22 : List S := [
  .ret (.lst [(.bin .add (.call 17 [(.var 0), (.sub (.var 1) (.int 2))]) (.ite (.of (.cmp .eq (.sub (.var 1) (.int 0)) (.str [97, 98, 115, 116, 114, 97, 99, 116]))) (.str [32, 105, 115, 32, 97, 98, 115, 116, 114, 97, 99, 116, 59]) (.str [59])))])]

/- 23: list_subbody(listers, decl, rows) -/
noncomputable def b23 : List S := [
  .asg 2 (.bin .add (.lst [(.bin .add (.call 17 [(.var 0), (.sub (.var 1) (.int 2))]) (.str [32, 105, 115]))]) (.call 2 [(.var 0), (.sub (.var 1) (.int 3))])),
  .ret (.bin .add (.bin .add (.var 2) (.call 4 [(.var 0), (.sub (.var 1) (.int 4)), (.sub (.var 1) (.int 5))])) (.lst [(.bin .add (.bin .add (.str [101, 110, 100, 32]) (.sub (.sub (.var 1) (.int 2)) (.int 1))) (.str [59]))]))]

/- 24: list_package(listers, decl, rows) -/
noncomputable def b24 : List S := [
  .asg 2 (.bin .add (.lst [(.bin .add (.bin .add (.str [112, 97, 99, 107, 97, 103, 101, 32]) (.sub (.var 1) (.int 2))) (.str [32, 105, 115]))]) (.call 2 [(.var 0), (.sub (.var 1) (.int 3))])),
  .ife (.of (.cmp .ne (.sub (.var 1) (.int 4)) (.lst []))) [
    .asg 2 (.bin .add (.bin .add (.var 2) (.lst [(.str [112, 114, 105, 118, 97, 116, 101])])) (.call 2 [(.var 0), (.sub (.var 1) (.int 4))]))] [],
  .ret (.bin .add (.var 2) (.lst [(.bin .add (.bin .add (.str [101, 110, 100, 32]) (.sub (.var 1) (.int 2))) (.str [59]))]))]

/- 25: list_body(listers, decl, word, rows) -/
noncomputable def b25 : List S := [
  .asg 2 (.ite (.of (.cmp .eq (.sub (.var 1) (.int 0)) (.str [112, 97, 99, 107, 98, 111, 100, 121]))) (.str [112, 97, 99, 107, 97, 103, 101, 32, 98, 111, 100, 121, 32]) (.str [116, 97, 115, 107, 32, 98, 111, 100, 121, 32])),
  .asg 3 (.bin .add (.lst [(.bin .add (.bin .add (.var 2) (.sub (.var 1) (.int 2))) (.str [32, 105, 115]))]) (.call 2 [(.var 0), (.sub (.var 1) (.int 3))])),
  .ife (.of (.cmp .ne (.sub (.var 1) (.int 4)) (.lst []))) [
    .asg 3 (.bin .add (.var 3) (.call 4 [(.var 0), (.sub (.var 1) (.int 4)), (.sub (.var 1) (.int 5))]))] [],
  .ret (.bin .add (.var 3) (.lst [(.bin .add (.bin .add (.str [101, 110, 100, 32]) (.sub (.var 1) (.int 2))) (.str [59]))]))]

/- 26: list_rename(listers, decl, heads, text) -/
noncomputable def b26 : List S := [
  .asg 2 (.dict [[111, 98, 106, 101, 99, 116], [101, 120, 99, 101, 112, 116, 105, 111, 110], [112, 97, 99, 107, 97, 103, 101]] [(.bin .add (.sub (.var 1) (.int 3)) (.str [32, 58, 32])), (.bin .add (.sub (.var 1) (.int 3)) (.str [32, 58, 32, 101, 120, 99, 101, 112, 116, 105, 111, 110])), (.bin .add (.str [112, 97, 99, 107, 97, 103, 101, 32]) (.sub (.var 1) (.int 3)))]),
  .ife (.of (.cmp .eq (.sub (.var 1) (.int 2)) (.str [115, 117, 98, 112, 114, 111, 103]))) [
    .asg 3 (.call 17 [(.var 0), (.sub (.var 1) (.int 4))])] [
    .asg 3 (.sub (.var 2) (.sub (.var 1) (.int 2)))],
  .ife (.of (.cmp .eq (.sub (.var 1) (.int 2)) (.str [111, 98, 106, 101, 99, 116]))) [
    .aug 3 (.callv (.sub (.var 0) (.str [115, 104, 111, 119])) [(.sub (.var 1) (.int 4))])] [],
  .ret (.lst [(.bin .add (.bin .add (.bin .add (.var 3) (.str [32, 114, 101, 110, 97, 109, 101, 115, 32])) (.callv (.sub (.var 0) (.str [115, 104, 111, 119])) [(.sub (.var 1) (.int 5))])) (.str [59]))])]

/- 27: list_exception(listers, decl) -/
noncomputable def b27 : List S := [
  .ret (.lst [(.bin .add (.call 5 [(.sub (.var 1) (.int 2))]) (.str [32, 58, 32, 101, 120, 99, 101, 112, 116, 105, 111, 110, 59]))])]

/- 28: list_generic(listers, decl) -/
noncomputable def b28 : List S := [
  .ret (.bin .add (.bin .add (.lst [(.str [103, 101, 110, 101, 114, 105, 99])]) (.call 2 [(.var 0), (.sub (.var 1) (.int 2))])) (.call 2 [(.var 0), (.lst [(.sub (.var 1) (.int 3))])]))]

/- 29: list_formal_object(listers, formal, mode) -/
noncomputable def b29 : List S := [
  .asg 2 (.get2 (.dict [[105, 110, 111, 117, 116]] [(.str [105, 110, 32, 111, 117, 116])]) (.sub (.var 1) (.int 3)) (.sub (.var 1) (.int 3))),
  .ret (.lst [(.bin .add (.bin .add (.bin .add (.bin .add (.bin .add (.bin .add (.call 5 [(.sub (.var 1) (.int 2))]) (.str [32, 58, 32])) (.var 2)) (.str [32])) (.callv (.sub (.var 0) (.str [115, 104, 111, 119])) [(.sub (.var 1) (.int 4))])) (.call 7 [(.var 0), (.sub (.var 1) (.int 5))])) (.str [59]))])]

/- 30: list_formal_sub(listers, formal, text) -/
noncomputable def b30 : List S := [
  .asg 2 (.bin .add (.str [119, 105, 116, 104, 32]) (.call 17 [(.var 0), (.sub (.var 1) (.int 2))])),
  .ife (.of (.cmp .eq (.sub (.var 1) (.int 3)) (.str [98, 111, 120]))) [
    .aug 2 (.str [32, 105, 115, 32, 60, 62])] [
    .ife (.of (.cmp .isNot (.sub (.var 1) (.int 3)) .none)) [
      .aug 2 (.bin .add (.str [32, 105, 115, 32]) (.callv (.sub (.var 0) (.str [115, 104, 111, 119])) [(.sub (.var 1) (.int 3))]))] []],
  .ret (.lst [(.bin .add (.var 2) (.str [59]))])]

/- 31: actuals_behind(listers, assocs) -/
noncomputable def b31 : List S := [
  .ife (.of (.cmp .eq (.var 1) (.str [98, 111, 120]))) [
    .ret (.str [32, 40, 60, 62, 41])] [],
  .ret (.ite (.of (.cmp .eq (.var 1) (.lst []))) (.str []) (.bin .add (.bin .add (.str [32, 40]) (.callv (.sub (.var 0) (.str [97, 115, 115, 111, 99, 115])) [(.var 1)])) (.str [41])))]

/- 32: list_formal_package(listers, formal, head) -/
noncomputable def b32 : List S := [
  .asg 2 (.bin .add (.bin .add (.bin .add (.str [119, 105, 116, 104, 32, 112, 97, 99, 107, 97, 103, 101, 32]) (.sub (.var 1) (.int 2))) (.str [32, 105, 115, 32, 110, 101, 119, 32])) (.callv (.sub (.var 0) (.str [115, 104, 111, 119])) [(.sub (.var 1) (.int 3))])),
  .ret (.lst [(.bin .add (.bin .add (.var 2) (.call 31 [(.var 0), (.sub (.var 1) (.int 4))])) (.str [59]))])]

/- 33: list_instance(listers, decl, head) -/
noncomputable def b33 : List S := [
  .asg 2 (.bin .add (.bin .add (.bin .add (.bin .add (.sub (.var 1) (.int 2)) (.str [32])) (.sub (.var 1) (.int 3))) (.str [32, 105, 115, 32, 110, 101, 119, 32])) (.callv (.sub (.var 0) (.str [115, 104, 111, 119])) [(.sub (.var 1) (.int 4))])),
  .ret (.lst [(.bin .add (.bin .add (.var 2) (.call 31 [(.var 0), (.sub (.var 1) (.int 5))])) (.str [59]))])]

/- 34: list_use(listers, decl, word) -/
noncomputable def b34 : List S := [
  .asg 2 (.sub (.dict [[119, 105, 116, 104], [117, 115, 101], [117, 115, 101, 116, 121, 112, 101]] [(.str [119, 105, 116, 104, 32]), (.str [117, 115, 101, 32]), (.str [117, 115, 101, 32, 116, 121, 112, 101, 32])]) (.sub (.var 1) (.int 0))),
  .ret (.lst [(.bin .add (.bin .add (.var 2) (.call 5 [(.comp (.callv (.sub (.var 0) (.str [115, 104, 111, 119])) [(.var 1)]) (.one 1) .items (.sub (.var 1) (.int 2)) [0])])) (.str [59]))])]

/- 35: list_pragma(listers, decl) -/
noncomputable def b35 : List S := [
  .ret (.lst [(.bin .add (.bin .add (.bin .add (.str [112, 114, 97, 103, 109, 97, 32]) (.sub (.var 1) (.int 2))) (.call 31 [(.var 0), (.sub (.var 1) (.int 3))])) (.str [59]))])]

/- 37: list_task(listers, decl, head) -/
noncomputable def b37 : List S := [
  .asg 2 (.bin .add (.bin .add (.bin .add (.str [116, 97, 115, 107, 32]) (.ite (.of (.sub (.var 1) (.int 3))) (.str [116, 121, 112, 101, 32]) (.str []))) (.sub (.var 1) (.int 2))) (.call 10 [(.var 0), (.sub (.var 1) (.int 4))])),
  .ife (.of (.cmp .eq (.sub (.var 1) (.int 5)) (.lst []))) [
    .ret (.lst [(.bin .add (.var 2) (.str [59]))])] [],
  .ret (.bin .add (.bin .add (.lst [(.bin .add (.var 2) (.str [32, 105, 115]))]) (.call 2 [(.var 0), (.sub (.var 1) (.int 5))])) (.lst [(.bin .add (.bin .add (.str [101, 110, 100, 32]) (.sub (.var 1) (.int 2))) (.str [59]))]))]

/- 38: list_protected(listers, decl, head, rows) -/
noncomputable def b38 : List S := [
  .asg 2 (.bin .add (.bin .add (.bin .add (.str [112, 114, 111, 116, 101, 99, 116, 101, 100, 32]) (.ite (.of (.sub (.var 1) (.int 3))) (.str [116, 121, 112, 101, 32]) (.str []))) (.sub (.var 1) (.int 2))) (.call 10 [(.var 0), (.sub (.var 1) (.int 4))])),
  .asg 3 (.bin .add (.lst [(.bin .add (.var 2) (.str [32, 105, 115]))]) (.call 2 [(.var 0), (.sub (.var 1) (.int 5))])),
  .ife (.of (.cmp .ne (.sub (.var 1) (.int 6)) (.lst []))) [
    .asg 3 (.bin .add (.bin .add (.var 3) (.lst [(.str [112, 114, 105, 118, 97, 116, 101])])) (.call 2 [(.var 0), (.sub (.var 1) (.int 6))]))] [],
  .ret (.bin .add (.var 3) (.lst [(.bin .add (.bin .add (.str [101, 110, 100, 32]) (.sub (.var 1) (.int 2))) (.str [59]))]))]

/- 39: list_protected_body(listers, decl) -/
noncomputable def b39 : List S := [
  .ret (.bin .add (.bin .add (.lst [(.bin .add (.bin .add (.str [112, 114, 111, 116, 101, 99, 116, 101, 100, 32, 98, 111, 100, 121, 32]) (.sub (.var 1) (.int 2))) (.str [32, 105, 115]))]) (.call 2 [(.var 0), (.sub (.var 1) (.int 3))])) (.lst [(.bin .add (.bin .add (.str [101, 110, 100, 32]) (.sub (.var 1) (.int 2))) (.str [59]))]))]

/- 40: list_entry(listers, decl, family) -/
noncomputable def b40 : List S := [
  .asg 2 (.ite (.of (.cmp .is (.sub (.var 1) (.int 3)) .none)) (.str []) (.bin .add (.bin .add (.str [32, 40]) (.call 0 [(.var 0), (.sub (.var 1) (.int 3))])) (.str [41]))),
  .ret (.lst [(.bin .add (.bin .add (.bin .add (.bin .add (.str [101, 110, 116, 114, 121, 32]) (.sub (.var 1) (.int 2))) (.var 2)) (.call 6 [(.var 0), (.sub (.var 1) (.int 4))])) (.str [59]))])]

/- 41: list_component(listers, decl) -/
noncomputable def b41 : List S := [
  .ret (.lst [(.bin .add (.bin .add (.bin .add (.bin .add (.call 5 [(.sub (.var 1) (.int 2))]) (.str [32, 58, 32])) (.call 9 [(.var 0), (.sub (.var 1) (.int 3))])) (.call 7 [(.var 0), (.sub (.var 1) (.int 4))])) (.str [59]))])]

/- 42: list_entry_body(listers, decl, family, head) -/
noncomputable def b42 : List S := [
  .asg 2 (.ite (.of (.cmp .is (.sub (.var 1) (.int 3)) .none)) (.str []) (.bin .add (.bin .add (.bin .add (.bin .add (.str [32, 40, 102, 111, 114, 32]) (.sub (.sub (.var 1) (.int 3)) (.int 0))) (.str [32, 105, 110, 32])) (.call 0 [(.var 0), (.sub (.sub (.var 1) (.int 3)) (.int 1))])) (.str [41]))),
  .asg 3 (.bin .add (.bin .add (.bin .add (.bin .add (.bin .add (.bin .add (.str [101, 110, 116, 114, 121, 32]) (.sub (.var 1) (.int 2))) (.var 2)) (.call 6 [(.var 0), (.sub (.var 1) (.int 4))])) (.str [32, 119, 104, 101, 110, 32])) (.callv (.sub (.var 0) (.str [115, 104, 111, 119])) [(.sub (.var 1) (.int 5))])) (.str [32, 105, 115])),
  .ret (.bin .add (.bin .add (.bin .add (.lst [(.var 3)]) (.call 2 [(.var 0), (.sub (.var 1) (.int 6))])) (.call 4 [(.var 0), (.sub (.var 1) (.int 7)), (.sub (.var 1) (.int 8))])) (.lst [(.bin .add (.bin .add (.str [101, 110, 100, 32]) (.sub (.var 1) (.int 2))) (.str [59]))]))]

/- 43: list_unit(listers, unit) -/
noncomputable def b43 : List S := [
  .ret (.bin .add (.call 2 [(.var 0), (.sub (.var 1) (.int 2))]) (.call 2 [(.var 0), (.lst [(.sub (.var 1) (.int 3))])]))]

/- 44: unit_listers() -/
noncomputable def b44 : List S := [
  .ret (.dict [[116, 97, 115, 107], [112, 114, 111, 116, 101, 99, 116, 101, 100], [112, 114, 111, 116, 98, 111, 100, 121], [101, 110, 116, 114, 121], [99, 111, 109, 112, 111, 110, 101, 110, 116], [101, 110, 116, 114, 121, 98, 111, 100, 121], [117, 110, 105, 116]] [(.fn 37), (.fn 38), (.fn 39), (.fn 40), (.fn 41), (.fn 42), (.fn 43)])]

/- 46: _law_expr(deck) -/
noncomputable def b46 : List S := [
  .ret (.ite (.of (.cmp .eq (.call 45 [(.var 0), (.int 2)]) (.int 1))) (.tup [(.str [105, 110, 116]), (.call 45 [(.var 0), (.int 50)])]) (.tup [(.str [110, 97, 109, 101]), (.sub (.tup [(.str [110]), (.str [108, 105, 109, 105, 116])]) (.call 45 [(.var 0), (.int 2)]))]))]

/- 47: _law_mark(deck) -/
noncomputable def b47 : List S := [
  .ret (.tup [(.str [110, 97, 109, 101]), (.sub (.tup [(.str [116]), (.str [100, 97, 121])]) (.call 45 [(.var 0), (.int 2)]))])]

/- 48: _law_kind(deck, mark, way) -/
noncomputable def b48 : List S := [
  .asg2 1 2 (.call 47 [(.var 0)]) (.call 45 [(.var 0), (.int 4)]),
  .ife (.of (.cmp .eq (.var 2) (.int 1))) [
    .ret (.tup [(.str [115, 117, 98]), (.var 1), (.tup [(.str [114, 97, 110, 103, 101]), (.tup [(.str [114, 97, 110, 103, 101]), (.tup [(.str [105, 110, 116]), (.int 1)]), (.call 46 [(.var 0)])])])])] [],
  .ife (.of (.cmp .eq (.var 2) (.int 2))) [
    .ret (.tup [(.str [115, 117, 98]), (.var 1), (.tup [(.str [97, 112, 112, 108, 121]), (.lst [(.tup [.none, (.call 46 [(.var 0)])]), (.tup [(.lst [(.tup [(.str [110, 97, 109, 101]), (.str [108, 101, 110])])]), (.call 46 [(.var 0)])])])])])] [],
  .ret (.tup [(.str [115, 117, 98]), (.var 1), .none])]

/- 49: _law_value(deck) -/
noncomputable def b49 : List S := [
  .ret (.ite (.of (.cmp .eq (.call 45 [(.var 0), (.int 2)]) (.int 1))) (.call 46 [(.var 0)]) .none)]

/- 50: _law_params(deck, found, turn, mode) -/
noncomputable def b50 : List S := [
  .own (.lst []),
  .for' (.one 2) .range (.call 45 [(.var 0), (.int 3)]) [
    .asg 3 (.sub (.tup [(.str [105, 110]), (.str [111, 117, 116]), (.str [105, 110, 111, 117, 116]), (.str [97, 99, 99, 101, 115, 115])]) (.call 45 [(.var 0), (.int 4)])),
    .append (.tup [(.upto (.lst [(.str [112]), (.str [113])]) (.bin .add (.int 1) (.call 45 [(.var 0), (.int 2)]))), (.var 3), (.call 47 [(.var 0)]), (.ite (.of (.cmp .eq (.var 3) (.str [105, 110]))) (.call 49 [(.var 0)]) .none)])],
  .ret (.var 1)]

/- 51: _law_spec(deck) -/
noncomputable def b51 : List S := [
  .ife (.of (.cmp .eq (.call 45 [(.var 0), (.int 2)]) (.int 0))) [
    .ret (.tup [(.str [112, 114, 111, 99, 101, 100, 117, 114, 101]), (.str [114, 117, 110]), (.call 50 [(.var 0)]), .none])] [],
  .ret (.tup [(.str [102, 117, 110, 99, 116, 105, 111, 110]), (.sub (.tup [(.str [103, 101, 116]), (.str [34, 43, 34])]) (.call 45 [(.var 0), (.int 2)])), (.lst [(.tup [(.lst [(.str [120])]), (.str [105, 110]), (.call 47 [(.var 0)]), .none])]), (.call 47 [(.var 0)])])]

/- 52: _law_discs(deck, way) -/
noncomputable def b52 : List S := [
  .asg 1 (.call 45 [(.var 0), (.int 4)]),
  .ife (.of (.cmp .eq (.var 1) (.int 1))) [
    .ret (.str [98, 111, 120])] [],
  .ret (.ite (.of (.cmp .gt (.var 1) (.int 1))) (.upto (.lst [(.tup [(.lst [(.str [100]), (.str [101])]), (.tup [(.str [115, 117, 98]), (.call 47 [(.var 0)]), .none]), (.call 49 [(.var 0)])]), (.tup [(.lst [(.str [102])]), (.tup [(.str [115, 117, 98]), (.tup [(.str [110, 97, 109, 101]), (.str [116])]), .none]), .none])]) (.bin .sub (.var 1) (.int 1))) .none)]

/- 53: _law_entry(deck, family) -/
noncomputable def b53 : List S := [
  .asg 1 (.sub (.tup [.none, (.tup [(.str [114, 97, 110, 103, 101]), (.tup [(.str [105, 110, 116]), (.int 1)]), (.tup [(.str [105, 110, 116]), (.int 4)])]), (.tup [(.str [115, 117, 98]), (.tup [(.str [110, 97, 109, 101]), (.str [100, 97, 121])]), .none])]) (.call 45 [(.var 0), (.int 3)])),
  .ret (.tup [(.str [101, 110, 116, 114, 121]), (.int 0), (.str [112, 117, 116]), (.var 1), (.call 50 [(.var 0)])])]

/- 54: _law_handled(deck) -/
noncomputable def b54 : List S := [
  .ife (.of (.cmp .eq (.call 45 [(.var 0), (.int 2)]) (.int 0))) [
    .ret (.tup [(.lst [(.tup [(.str [110, 117, 108, 108]), (.int 0)])]), (.lst [])])] [],
  .ret (.tup [(.bin .mul (.lst [(.tup [(.str [110, 117, 108, 108]), (.int 0)])]) (.int 2)), (.from' (.lst [(.tup [(.lst [(.tup [(.str [110, 97, 109, 101]), (.str [111, 111, 112, 115])]), (.tup [(.str [110, 97, 109, 101]), (.str [108, 97, 116, 101])])]), (.lst [(.tup [(.str [110, 117, 108, 108]), (.int 0)])])]), (.tup [(.lst [(.tup [(.str [111, 116, 104, 101, 114, 115])])]), (.lst [(.tup [(.str [110, 117, 108, 108]), (.int 0)])])])]) (.call 45 [(.var 0), (.int 2)]))])]

/- 55: _law_many(deck, deep) -/
noncomputable def b55 : List S := [
  .ret (.comp (.call 59 [(.var 0), (.bin .add (.var 1) (.int 1))]) (.one 2) .range (.call 45 [(.var 0), (.int 3)]) [0, 1])]

/- 56: _law_items(deck, is_private, found, turn, way) -/
noncomputable def b56 : List S := [
  .own (.lst []),
  .for' (.one 3) .range (.call 45 [(.var 0), (.int 3)]) [
    .asg 4 (.call 45 [(.var 0), (.ite (.of (.var 1)) (.int 3) (.int 2))]),
    .ife (.of (.cmp .eq (.var 4) (.int 2))) [
      .append (.tup [(.str [99, 111, 109, 112, 111, 110, 101, 110, 116]), (.int 0), (.lst [(.str [99]), (.str [107])]), (.call 48 [(.var 0)]), (.call 49 [(.var 0)])])] [
      .append (.ite (.of (.cmp .eq (.var 4) (.int 1))) (.call 53 [(.var 0)]) (.tup [(.str [115, 117, 98, 112, 114, 111, 103]), (.int 0), (.call 51 [(.var 0)])]))]],
  .ret (.var 2)]

/- 57: _law_formal(deck, way, mode, forms, node) -/
noncomputable def b57 : List S := [
  .asg 1 (.call 45 [(.var 0), (.int 5)]),
  .ife (.of (.cmp .eq (.var 1) (.int 0))) [
    .asg 2 (.sub (.tup [(.str [105, 110]), (.str [105, 110, 111, 117, 116])]) (.call 45 [(.var 0), (.int 2)])),
    .ret (.tup [(.str [102, 111, 98, 106, 101, 99, 116]), (.int 0), (.upto (.lst [(.str [115, 105, 122, 101]), (.str [100, 101, 112, 116, 104])]) (.bin .add (.int 1) (.call 45 [(.var 0), (.int 2)]))), (.var 2), (.call 47 [(.var 0)]), (.ite (.of (.cmp .eq (.var 2) (.str [105, 110]))) (.call 49 [(.var 0)]) .none)])] [],
  .ife (.of (.cmp .eq (.var 1) (.int 1))) [
    .asg 3 (.tup [(.tup [(.str [112, 114, 105, 118, 97, 116, 101]), (.bool false), (.bool false), (.bool false)]), (.tup [(.str [100, 105, 115, 99, 114, 101, 116, 101])]), (.tup [(.str [97, 110, 121, 114, 97, 110, 103, 101])]), (.tup [(.str [97, 110, 121, 109, 111, 100])]), (.tup [(.str [97, 110, 121, 100, 101, 108, 116, 97])]), (.tup [(.str [112, 114, 105, 118, 97, 116, 101]), (.bool true), (.bool true), (.bool true)])]),
    .ret (.tup [(.str [102, 116, 121, 112, 101]), (.int 0), (.str [105, 116, 101, 109]), .none, (.sub (.var 3) (.call 45 [(.var 0), (.int 6)]))])] [],
  .ife (.of (.cmp .eq (.var 1) (.int 2))) [
    .ret (.tup [(.str [102, 115, 117, 98]), (.int 0), (.call 51 [(.var 0)]), (.sub (.tup [.none, (.str [98, 111, 120]), (.tup [(.str [110, 97, 109, 101]), (.str [101, 113])])]) (.call 45 [(.var 0), (.int 3)]))])] [],
  .asg 4 (.tup [(.str [115, 101, 108, 101, 99, 116]), (.tup [(.str [110, 97, 109, 101]), (.str [108, 105, 98])]), (.str [109, 97, 112, 115])]),
  .ret (.tup [(.str [102, 112, 97, 99, 107]), (.int 0), (.str [105, 110, 110, 101, 114]), (.var 4), (.sub (.tup [(.str [98, 111, 120]), (.lst []), (.lst [(.tup [(.lst [(.tup [(.str [110, 97, 109, 101]), (.str [107, 101, 121])])]), (.tup [(.str [110, 97, 109, 101]), (.str [100, 97, 121])])])])]) (.call 45 [(.var 0), (.int 3)]))])]

/- 58: _law_task_decl(deck, deep, way, decls, family, params, barrier, opened) -/
noncomputable def b58 : List S := [
  .ife (.of (.cmp .eq (.var 2) (.int 0))) [
    .ret (.tup [(.str [116, 97, 115, 107]), (.int 0), (.str [119, 111, 114, 107, 101, 114]), (.cmp .eq (.call 45 [(.var 0), (.int 2)]) (.int 1)), (.call 52 [(.var 0)]), (.comp (.call 53 [(.var 0)]) (.one 1) .range (.call 45 [(.var 0), (.int 3)]) [0])])] [],
  .ife (.of (.cmp .eq (.var 2) (.int 1))) [
    .asg 3 (.call 55 [(.var 0), (.var 1)]),
    .ret (.bin .add (.tup [(.str [116, 97, 115, 107, 98, 111, 100, 121]), (.int 0), (.str [119, 111, 114, 107, 101, 114]), (.var 3)]) (.call 54 [(.var 0)]))] [],
  .ife (.of (.cmp .eq (.var 2) (.int 2))) [
    .ret (.tup [(.str [112, 114, 111, 116, 101, 99, 116, 101, 100]), (.int 0), (.str [103, 97, 116, 101]), (.cmp .eq (.call 45 [(.var 0), (.int 2)]) (.int 1)), (.call 52 [(.var 0)]), (.call 56 [(.var 0), (.bool false)]), (.call 56 [(.var 0), (.bool true)])])] [],
  .asg 4 (.sub (.tup [.none, (.tup [(.str [105]), (.tup [(.str [114, 97, 110, 103, 101]), (.tup [(.str [105, 110, 116]), (.int 1)]), (.tup [(.str [105, 110, 116]), (.int 4)])])])]) (.call 45 [(.var 0), (.int 2)])),
  .asg2 5 6 (.call 50 [(.var 0)]) (.call 46 [(.var 0)]),
  .asg 3 (.call 55 [(.var 0), (.var 1)]),
  .asg 7 (.bin .add (.tup [(.str [101, 110, 116, 114, 121, 98, 111, 100, 121]), (.int 0), (.str [112, 117, 116]), (.var 4), (.var 5), (.var 6), (.var 3)]) (.call 54 [(.var 0)])),
  .ret (.tup [(.str [112, 114, 111, 116, 98, 111, 100, 121]), (.int 0), (.str [103, 97, 116, 101]), (.upto (.lst [(.var 7), (.tup [(.str [115, 117, 98, 112, 114, 111, 103]), (.int 0), (.call 51 [(.var 0)])])]) (.bin .add (.int 1) (.call 45 [(.var 0), (.int 2)])))])]

/- 59: _law_decl(deck, deep, way, sort, spec, decls, formals) -/
noncomputable def b59 : List S := [
  .asg 2 (.call 45 [(.var 0), (.ite (.of (.cmp .lt (.var 1) (.int 2))) (.int 17) (.int 9))]),
  .ife (.of (.cmp .eq (.var 2) (.int 0))) [
    .ret (.tup [(.str [111, 98, 106, 101, 99, 116]), (.int 0), (.upto (.lst [(.str [97]), (.str [98])]) (.bin .add (.int 1) (.call 45 [(.var 0), (.int 2)]))), (.cmp .eq (.call 45 [(.var 0), (.int 2)]) (.int 1)), (.call 48 [(.var 0)]), (.call 49 [(.var 0)])])] [],
  .ife (.of (.cmp .eq (.var 2) (.int 1))) [
    .ret (.tup [(.sub (.tup [(.str [115, 117, 98, 112, 114, 111, 103]), (.str [97, 98, 115, 116, 114, 97, 99, 116])]) (.call 45 [(.var 0), (.int 2)])), (.int 0), (.call 51 [(.var 0)])])] [],
  .ife (.of (.cmp .eq (.var 2) (.int 2))) [
    .asg 3 (.sub (.tup [(.str [112, 97, 99, 107, 97, 103, 101]), (.str [112, 114, 111, 99, 101, 100, 117, 114, 101]), (.str [102, 117, 110, 99, 116, 105, 111, 110])]) (.call 45 [(.var 0), (.int 3)])),
    .ret (.tup [(.str [105, 110, 115, 116, 97, 110, 99, 101]), (.int 0), (.var 3), (.str [109, 97, 100, 101]), (.tup [(.str [115, 101, 108, 101, 99, 116]), (.tup [(.str [110, 97, 109, 101]), (.str [108, 105, 98])]), (.str [109, 97, 107, 101, 114])]), (.ite (.of (.cmp .eq (.call 45 [(.var 0), (.int 2)]) (.int 0))) (.lst []) (.lst [(.tup [.none, (.call 46 [(.var 0)])]), (.tup [(.lst [(.tup [(.str [110, 97, 109, 101]), (.str [107, 101, 121])])]), (.call 46 [(.var 0)])])]))])] [],
  .ife (.of (.cmp .eq (.var 2) (.int 3))) [
    .asg 3 (.sub (.tup [(.str [111, 98, 106, 101, 99, 116]), (.str [101, 120, 99, 101, 112, 116, 105, 111, 110]), (.str [112, 97, 99, 107, 97, 103, 101]), (.str [115, 117, 98, 112, 114, 111, 103])]) (.call 45 [(.var 0), (.int 4)])),
    .asg 4 (.call 51 [(.var 0)]),
    .ret (.tup [(.str [114, 101, 110, 97, 109, 101]), (.int 0), (.var 3), (.ite (.of (.cmp .eq (.var 3) (.str [115, 117, 98, 112, 114, 111, 103]))) (.sub (.var 4) (.int 1)) (.str [111, 116, 104, 101, 114])), (.get1 (.dict [[111, 98, 106, 101, 99, 116], [115, 117, 98, 112, 114, 111, 103]] [(.tup [(.str [110, 97, 109, 101]), (.str [116])]), (.var 4)]) (.var 3)), (.tup [(.str [115, 101, 108, 101, 99, 116]), (.tup [(.str [110, 97, 109, 101]), (.str [108, 105, 98])]), (.str [111, 108, 100])])])] [],
  .ife (.of (.cmp .eq (.var 2) (.int 4))) [
    .ret (.sub (.tup [(.tup [(.str [101, 120, 99, 101, 112, 116, 105, 111, 110]), (.int 0), (.lst [(.str [111, 111, 112, 115]), (.str [108, 97, 116, 101])])]), (.tup [(.str [110, 117, 109, 98, 101, 114]), (.int 0), (.lst [(.str [109, 111, 115, 116])]), (.call 46 [(.var 0)])])]) (.call 45 [(.var 0), (.int 2)]))] [],
  .ife (.of (.cmp .eq (.var 2) (.int 5))) [
    .ret (.tup [(.sub (.tup [(.str [117, 115, 101]), (.str [117, 115, 101, 116, 121, 112, 101])]) (.call 45 [(.var 0), (.int 2)])), (.int 0), (.from' (.lst [(.tup [(.str [110, 97, 109, 101]), (.str [108, 105, 98])]), (.tup [(.str [115, 101, 108, 101, 99, 116]), (.tup [(.str [110, 97, 109, 101]), (.str [108, 105, 98])]), (.str [109, 97, 112, 115])])]) (.call 45 [(.var 0), (.int 2)]))])] [],
  .ife (.of (.cmp .eq (.var 2) (.int 6))) [
    .ret (.tup [(.str [112, 114, 97, 103, 109, 97]), (.int 0), (.str [105, 110, 108, 105, 110, 101]), (.ite (.of (.cmp .eq (.call 45 [(.var 0), (.int 2)]) (.int 0))) (.lst []) (.lst [(.tup [.none, (.tup [(.str [110, 97, 109, 101]), (.str [114, 117, 110])])])]))])] [],
  .ife (.of (.cmp .eq (.var 2) (.int 7))) [
    .ret (.tup [(.str [115, 117, 98, 116, 121, 112, 101]), (.int 0), (.str [115, 104, 111, 114, 116]), (.call 48 [(.var 0)])])] [],
  .ife (.of (.cmp .eq (.var 2) (.int 8))) [
    .ret (.call 53 [(.var 0)])] [],
  .ife (.of (.cmp .lt (.var 2) (.int 11))) [
    .asg 5 (.call 55 [(.var 0), (.var 1)]),
    .ret (.tup [(.str [112, 97, 99, 107, 97, 103, 101]), (.int 0), (.str [98, 111, 120, 95, 111, 102]), (.var 5), (.call 55 [(.var 0), (.var 1)])])] [],
  .ife (.of (.cmp .eq (.var 2) (.int 11))) [
    .asg 5 (.call 55 [(.var 0), (.var 1)]),
    .ret (.bin .add (.tup [(.str [112, 97, 99, 107, 98, 111, 100, 121]), (.int 0), (.str [98, 111, 120, 95, 111, 102]), (.var 5)]) (.ite (.of (.cmp .eq (.call 45 [(.var 0), (.int 2)]) (.int 1))) (.call 54 [(.var 0)]) (.tup [(.lst []), (.lst [])])))] [],
  .ife (.of (.cmp .eq (.var 2) (.int 12))) [
    .asg2 4 5 (.call 51 [(.var 0)]) (.call 55 [(.var 0), (.var 1)]),
    .ret (.bin .add (.tup [(.str [115, 117, 98, 98, 111, 100, 121]), (.int 0), (.var 4), (.var 5)]) (.call 54 [(.var 0)]))] [],
  .ife (.of (.cmp .eq (.var 2) (.int 13))) [
    .asg 6 (.comp (.call 57 [(.var 0)]) (.one 1) .range (.call 45 [(.var 0), (.int 4)]) [0]),
    .ret (.tup [(.str [103, 101, 110, 101, 114, 105, 99]), (.int 0), (.var 6), (.ite (.of (.cmp .eq (.call 45 [(.var 0), (.int 2)]) (.int 0))) (.tup [(.str [115, 117, 98, 112, 114, 111, 103]), (.int 0), (.call 51 [(.var 0)])]) (.tup [(.str [112, 97, 99, 107, 97, 103, 101]), (.int 0), (.str [109, 97, 100, 101, 95, 111, 102]), (.call 55 [(.var 0), (.var 1)]), (.lst [])]))])] [],
  .ret (.call 58 [(.var 0), (.var 1), (.call 45 [(.var 0), (.int 4)])])]

/- 60: _law_w_expr(tree, row) -/
noncomputable def b60 : List S := [
  .ife (.of (.cmp .eq (.sub (.var 0) (.int 0)) (.str [110, 97, 109, 101]))) [
    .ret (.lst [(.sub (.var 0) (.int 1))])] [],
  .ife (.of (.cmp .eq (.sub (.var 0) (.int 0)) (.str [105, 110, 116]))) [
    .ret (.lst [(.txt (.sub (.var 0) (.int 1)))])] [],
  .ife (.of (.cmp .eq (.sub (.var 0) (.int 0)) (.str [115, 101, 108, 101, 99, 116]))) [
    .ret (.bin .add (.call 60 [(.sub (.var 0) (.int 1))]) (.lst [(.str [46]), (.sub (.var 0) (.int 2))]))] [],
  .ife (.of (.cmp .eq (.sub (.var 0) (.int 0)) (.str [114, 97, 110, 103, 101]))) [
    .ret (.bin .add (.bin .add (.call 60 [(.sub (.var 0) (.int 1))]) (.lst [(.str [46, 46])])) (.call 60 [(.sub (.var 0) (.int 2))]))] [],
  .asg 1 (.call 60 [(.sub (.var 0) (.int 1))]),
  .ife (.of (.cmp .is (.sub (.var 0) (.int 2)) .none)) [
    .ret (.var 1)] [],
  .ret (.bin .add (.var 1) (.ite (.of (.cmp .eq (.sub (.sub (.var 0) (.int 2)) (.int 0)) (.str [114, 97, 110, 103, 101]))) (.bin .add (.lst [(.str [114, 97, 110, 103, 101])]) (.call 60 [(.sub (.sub (.var 0) (.int 2)) (.int 1))])) (.bin .add (.bin .add (.lst [(.str [40])]) (.call 61 [(.sub (.sub (.var 0) (.int 2)) (.int 1))])) (.lst [(.str [41])]))))]

/- 61: _law_w_parts(parts, row, choices, node) -/
noncomputable def b61 : List S := [
  .asg 1 (.lst []),
  .for' (.many [2, 3]) .items (.var 0) [
    .asg 1 (.bin .add (.bin .add (.bin .add (.var 1) (.ite (.of (.cmp .ne (.var 1) (.lst []))) (.lst [(.str [44])]) (.lst []))) (.ite (.of (.cmp .isNot (.var 2) .none)) (.bin .add (.call 60 [(.sub (.var 2) (.int 0))]) (.lst [(.str [61, 62])])) (.lst []))) (.call 60 [(.var 3)]))],
  .ret (.var 1)]

/- 62: _law_w_names(names, row, name) -/
noncomputable def b62 : List S := [
  .asg 1 (.lst [(.sub (.var 0) (.int 0))]),
  .for' (.one 2) .items (.from' (.var 0) (.int 1)) [
    .asg 1 (.bin .add (.var 1) (.lst [(.str [44]), (.var 2)]))],
  .ret (.var 1)]

/- 63: _law_w_value(node) -/
noncomputable def b63 : List S := [
  .ret (.ite (.of (.cmp .is (.var 0) .none)) (.lst []) (.bin .add (.lst [(.str [58, 61])]) (.call 60 [(.var 0)])))]

/- 64: _law_w_params(params, row, names, mode, mark, default, words) -/
noncomputable def b64 : List S := [
  .asg 1 (.lst []),
  .for' (.many [2, 3, 4, 5]) .items (.var 0) [
    .asg 6 (.ite (.of (.cmp .eq (.var 3) (.str [105, 110, 111, 117, 116]))) (.lst [(.str [105, 110]), (.str [111, 117, 116])]) (.lst [(.var 3)])),
    .asg 1 (.bin .add (.bin .add (.bin .add (.bin .add (.bin .add (.bin .add (.var 1) (.lst [(.ite (.of (.cmp .eq (.var 1) (.lst []))) (.str [40]) (.str [59]))])) (.call 62 [(.var 2)])) (.lst [(.str [58])])) (.var 6)) (.call 60 [(.var 4)])) (.call 63 [(.var 5)]))],
  .ret (.bin .add (.var 1) (.ite (.of (.cmp .ne (.var 1) (.lst []))) (.lst [(.str [41])]) (.lst [])))]

/- 65: _law_w_spec(spec) -/
noncomputable def b65 : List S := [
  .ret (.bin .add (.bin .add (.lst [(.sub (.var 0) (.int 0)), (.sub (.var 0) (.int 1))]) (.call 64 [(.sub (.var 0) (.int 2))])) (.ite (.of (.cmp .isNot (.sub (.var 0) (.int 3)) .none)) (.bin .add (.lst [(.str [114, 101, 116, 117, 114, 110])]) (.call 60 [(.sub (.var 0) (.int 3))])) (.lst [])))]

/- 66: _law_w_discs(discs, row, names, kind, default) -/
noncomputable def b66 : List S := [
  .ife (.of (.cmp .is (.var 0) .none)) [
    .ret (.lst [])] [],
  .ife (.of (.cmp .eq (.var 0) (.str [98, 111, 120]))) [
    .ret (.lst [(.str [40]), (.str [60, 62]), (.str [41])])] [],
  .asg 1 (.lst []),
  .for' (.many [2, 3, 4]) .items (.var 0) [
    .asg 1 (.bin .add (.bin .add (.bin .add (.bin .add (.bin .add (.var 1) (.lst [(.ite (.of (.cmp .eq (.var 1) (.lst []))) (.str [40]) (.str [59]))])) (.call 62 [(.var 2)])) (.lst [(.str [58])])) (.call 60 [(.var 3)])) (.call 63 [(.var 4)]))],
  .ret (.bin .add (.var 1) (.lst [(.str [41])]))]

/- 67: _law_w_handled(stmts, handlers, row, choices, inner, at, choice) -/
noncomputable def b67 : List S := [
  .own (.bin .add (.bin .add (.lst [(.str [98, 101, 103, 105, 110])]) (.bin .mul (.lst [(.str [110, 117, 108, 108]), (.str [59])]) (.len (.var 0)))) (.ite (.of (.cmp .ne (.var 1) (.lst []))) (.lst [(.str [101, 120, 99, 101, 112, 116, 105, 111, 110])]) (.lst []))),
  .for' (.many [3, 4]) .items (.var 1) [
    .append (.str [119, 104, 101, 110]),
    .for' (.many [5, 6]) .enum (.var 3) [
      .own (.bin .add (.bin .add (.var 2) (.ite (.of (.cmp .gt (.var 5) (.int 0))) (.lst [(.str [124])]) (.lst []))) (.ite (.of (.cmp .eq (.sub (.var 6) (.int 0)) (.str [111, 116, 104, 101, 114, 115]))) (.lst [(.str [111, 116, 104, 101, 114, 115])]) (.lst [(.sub (.var 6) (.int 1))])))],
    .own (.bin .add (.bin .add (.var 2) (.lst [(.str [61, 62])])) (.bin .mul (.lst [(.str [110, 117, 108, 108]), (.str [59])]) (.len (.var 4))))],
  .ret (.var 2)]

/- 68: _law_w_actuals(parts) -/
noncomputable def b68 : List S := [
  .ife (.of (.cmp .eq (.var 0) (.str [98, 111, 120]))) [
    .ret (.lst [(.str [40]), (.str [60, 62]), (.str [41])])] [],
  .ret (.ite (.of (.cmp .ne (.var 0) (.lst []))) (.bin .add (.bin .add (.lst [(.str [40])]) (.call 61 [(.var 0)])) (.lst [(.str [41])])) (.lst []))]

/- 69: _law_w_all(trees, row, tree) -/
noncomputable def b69 : List S := [
  .asg 1 (.lst []),
  .for' (.one 2) .items (.var 0) [
    .asg 1 (.bin .add (.var 1) (.call 73 [(.var 2)]))],
  .ret (.var 1)]

/- 70: _law_w_formal(tree, words, forms, full, tail) -/
noncomputable def b70 : List S := [
  .ife (.of (.cmp .eq (.sub (.var 0) (.int 0)) (.str [102, 111, 98, 106, 101, 99, 116]))) [
    .asg 1 (.ite (.of (.cmp .eq (.sub (.var 0) (.int 3)) (.str [105, 110, 111, 117, 116]))) (.lst [(.str [105, 110]), (.str [111, 117, 116])]) (.lst [(.str [105, 110])])),
    .ret (.bin .add (.bin .add (.bin .add (.bin .add (.bin .add (.call 62 [(.sub (.var 0) (.int 2))]) (.lst [(.str [58])])) (.var 1)) (.call 60 [(.sub (.var 0) (.int 4))])) (.call 63 [(.sub (.var 0) (.int 5))])) (.lst [(.str [59])]))] [],
  .ife (.of (.cmp .eq (.sub (.var 0) (.int 0)) (.str [102, 116, 121, 112, 101]))) [
    .asg 2 (.dict [[100, 105, 115, 99, 114, 101, 116, 101], [97, 110, 121, 114, 97, 110, 103, 101], [97, 110, 121, 109, 111, 100], [97, 110, 121, 100, 101, 108, 116, 97]] [(.lst [(.str [40]), (.str [60, 62]), (.str [41])]), (.lst [(.str [114, 97, 110, 103, 101]), (.str [60, 62])]), (.lst [(.str [109, 111, 100]), (.str [60, 62])]), (.lst [(.str [100, 101, 108, 116, 97]), (.str [60, 62])])]),
    .asg 3 (.lst [(.str [97, 98, 115, 116, 114, 97, 99, 116]), (.str [116, 97, 103, 103, 101, 100]), (.str [108, 105, 109, 105, 116, 101, 100]), (.str [112, 114, 105, 118, 97, 116, 101])]),
    .ret (.bin .add (.bin .add (.lst [(.str [116, 121, 112, 101]), (.sub (.var 0) (.int 2)), (.str [105, 115])]) (.get2 (.var 2) (.sub (.sub (.var 0) (.int 4)) (.int 0)) (.ite (.of (.sub (.sub (.var 0) (.int 4)) (.int (-1)))) (.var 3) (.from' (.var 3) (.int 3))))) (.lst [(.str [59])]))] [],
  .ife (.of (.cmp .eq (.sub (.var 0) (.int 0)) (.str [102, 115, 117, 98]))) [
    .asg 4 (.ite (.of (.cmp .is (.sub (.var 0) (.int 3)) .none)) (.lst []) (.ite (.of (.cmp .eq (.sub (.var 0) (.int 3)) (.str [98, 111, 120]))) (.lst [(.str [105, 115]), (.str [60, 62])]) (.bin .add (.lst [(.str [105, 115])]) (.call 60 [(.sub (.var 0) (.int 3))])))),
    .ret (.bin .add (.bin .add (.bin .add (.lst [(.str [119, 105, 116, 104])]) (.call 65 [(.sub (.var 0) (.int 2))])) (.var 4)) (.lst [(.str [59])]))] [],
  .ret (.bin .add (.bin .add (.bin .add (.lst [(.str [119, 105, 116, 104]), (.str [112, 97, 99, 107, 97, 103, 101]), (.sub (.var 0) (.int 2)), (.str [105, 115]), (.str [110, 101, 119])]) (.call 60 [(.sub (.var 0) (.int 3))])) (.call 68 [(.sub (.var 0) (.int 4))])) (.lst [(.str [59])]))]

/- 71: _law_w_unit(tree, word, tail, row, formal, head) -/
noncomputable def b71 : List S := [
  .asg2 1 2 (.sub (.var 0) (.int 0)) (.lst [(.str [101, 110, 100]), (.sub (.var 0) (.int 2)), (.str [59])]),
  .ife (.of (.cmp .eq (.var 1) (.str [112, 97, 99, 107, 97, 103, 101]))) [
    .ret (.bin .add (.bin .add (.bin .add (.lst [(.str [112, 97, 99, 107, 97, 103, 101]), (.sub (.var 0) (.int 2)), (.str [105, 115])]) (.call 69 [(.sub (.var 0) (.int 3))])) (.ite (.of (.cmp .ne (.sub (.var 0) (.int 4)) (.lst []))) (.bin .add (.lst [(.str [112, 114, 105, 118, 97, 116, 101])]) (.call 69 [(.sub (.var 0) (.int 4))])) (.lst []))) (.var 2))] [],
  .ife (.of (.cmp .eq (.var 1) (.str [112, 97, 99, 107, 98, 111, 100, 121]))) [
    .ret (.bin .add (.bin .add (.bin .add (.lst [(.str [112, 97, 99, 107, 97, 103, 101]), (.str [98, 111, 100, 121]), (.sub (.var 0) (.int 2)), (.str [105, 115])]) (.call 69 [(.sub (.var 0) (.int 3))])) (.ite (.of (.cmp .ne (.sub (.var 0) (.int 4)) (.lst []))) (.call 67 [(.sub (.var 0) (.int 4)), (.sub (.var 0) (.int 5))]) (.lst []))) (.var 2))] [],
  .ife (.of (.cmp .eq (.var 1) (.str [116, 97, 115, 107, 98, 111, 100, 121]))) [
    .ret (.bin .add (.bin .add (.bin .add (.lst [(.str [116, 97, 115, 107]), (.str [98, 111, 100, 121]), (.sub (.var 0) (.int 2)), (.str [105, 115])]) (.call 69 [(.sub (.var 0) (.int 3))])) (.call 67 [(.sub (.var 0) (.int 4)), (.sub (.var 0) (.int 5))])) (.var 2))] [],
  .ife (.of (.cmp .eq (.var 1) (.str [115, 117, 98, 98, 111, 100, 121]))) [
    .ret (.bin .add (.bin .add (.bin .add (.bin .add (.call 65 [(.sub (.var 0) (.int 2))]) (.lst [(.str [105, 115])])) (.call 69 [(.sub (.var 0) (.int 3))])) (.call 67 [(.sub (.var 0) (.int 4)), (.sub (.var 0) (.int 5))])) (.lst [(.str [101, 110, 100]), (.sub (.sub (.var 0) (.int 2)) (.int 1)), (.str [59])]))] [],
  .ife (.of (.cmp .eq (.var 1) (.str [103, 101, 110, 101, 114, 105, 99]))) [
    .asg 3 (.lst [(.str [103, 101, 110, 101, 114, 105, 99])]),
    .for' (.one 4) .items (.sub (.var 0) (.int 2)) [
      .asg 3 (.bin .add (.var 3) (.call 70 [(.var 4)]))],
    .ret (.bin .add (.var 3) (.call 73 [(.sub (.var 0) (.int 3))]))] [],
  .ife (.of (.cmp .eq (.var 1) (.str [112, 114, 111, 116, 98, 111, 100, 121]))) [
    .ret (.bin .add (.bin .add (.lst [(.str [112, 114, 111, 116, 101, 99, 116, 101, 100]), (.str [98, 111, 100, 121]), (.sub (.var 0) (.int 2)), (.str [105, 115])]) (.call 69 [(.sub (.var 0) (.int 3))])) (.var 2))] [],
  .asg 5 (.bin .add (.bin .add (.bin .add (.lst [(.var 1)]) (.ite (.of (.sub (.var 0) (.int 3))) (.lst [(.str [116, 121, 112, 101])]) (.lst []))) (.lst [(.sub (.var 0) (.int 2))])) (.call 66 [(.sub (.var 0) (.int 4))])),
  .ife (.of (.cmp .eq (.var 1) (.str [116, 97, 115, 107]))) [
    .ret (.bin .add (.var 5) (.ite (.of (.cmp .ne (.sub (.var 0) (.int 5)) (.lst []))) (.bin .add (.bin .add (.lst [(.str [105, 115])]) (.call 69 [(.sub (.var 0) (.int 5))])) (.var 2)) (.lst [(.str [59])])))] [],
  .ret (.bin .add (.bin .add (.bin .add (.bin .add (.var 5) (.lst [(.str [105, 115])])) (.call 69 [(.sub (.var 0) (.int 5))])) (.ite (.of (.cmp .ne (.sub (.var 0) (.int 6)) (.lst []))) (.bin .add (.lst [(.str [112, 114, 105, 118, 97, 116, 101])]) (.call 69 [(.sub (.var 0) (.int 6))])) (.lst []))) (.var 2))]

/- 72: _law_w_entry(tree, family, head) -/
noncomputable def b72 : List S := [
  .ife (.of (.cmp .eq (.sub (.var 0) (.int 0)) (.str [101, 110, 116, 114, 121]))) [
    .asg 1 (.ite (.of (.cmp .is (.sub (.var 0) (.int 3)) .none)) (.lst []) (.bin .add (.bin .add (.lst [(.str [40])]) (.call 60 [(.sub (.var 0) (.int 3))])) (.lst [(.str [41])]))),
    .ret (.bin .add (.bin .add (.bin .add (.lst [(.str [101, 110, 116, 114, 121]), (.sub (.var 0) (.int 2))]) (.var 1)) (.call 64 [(.sub (.var 0) (.int 4))])) (.lst [(.str [59])]))] [],
  .asg 1 (.ite (.of (.cmp .is (.sub (.var 0) (.int 3)) .none)) (.lst []) (.bin .add (.bin .add (.lst [(.str [40]), (.str [102, 111, 114]), (.sub (.sub (.var 0) (.int 3)) (.int 0)), (.str [105, 110])]) (.call 60 [(.sub (.sub (.var 0) (.int 3)) (.int 1))])) (.lst [(.str [41])]))),
  .asg 2 (.bin .add (.bin .add (.bin .add (.bin .add (.bin .add (.lst [(.str [101, 110, 116, 114, 121]), (.sub (.var 0) (.int 2))]) (.var 1)) (.call 64 [(.sub (.var 0) (.int 4))])) (.lst [(.str [119, 104, 101, 110])])) (.call 60 [(.sub (.var 0) (.int 5))])) (.lst [(.str [105, 115])])),
  .ret (.bin .add (.bin .add (.bin .add (.var 2) (.call 69 [(.sub (.var 0) (.int 6))])) (.call 67 [(.sub (.var 0) (.int 7)), (.sub (.var 0) (.int 8))])) (.lst [(.str [101, 110, 100]), (.sub (.var 0) (.int 2)), (.str [59])]))]

/- 73: _law_w_tree(tree, word, heads, head, row, node) -/
noncomputable def b73 : List S := [
  .asg 1 (.sub (.var 0) (.int 0)),
  .ife (.of (.cmp .eq (.var 1) (.str [111, 98, 106, 101, 99, 116]))) [
    .ret (.bin .add (.bin .add (.bin .add (.bin .add (.bin .add (.call 62 [(.sub (.var 0) (.int 2))]) (.lst [(.str [58])])) (.ite (.of (.sub (.var 0) (.int 3))) (.lst [(.str [99, 111, 110, 115, 116, 97, 110, 116])]) (.lst []))) (.call 60 [(.sub (.var 0) (.int 4))])) (.call 63 [(.sub (.var 0) (.int 5))])) (.lst [(.str [59])]))] [],
  .ife (.of (.cmp .eq (.var 1) (.str [99, 111, 109, 112, 111, 110, 101, 110, 116]))) [
    .ret (.bin .add (.bin .add (.bin .add (.bin .add (.call 62 [(.sub (.var 0) (.int 2))]) (.lst [(.str [58])])) (.call 60 [(.sub (.var 0) (.int 3))])) (.call 63 [(.sub (.var 0) (.int 4))])) (.lst [(.str [59])]))] [],
  .ife (.of (.cmp .eq (.var 1) (.str [110, 117, 109, 98, 101, 114]))) [
    .ret (.bin .add (.bin .add (.bin .add (.call 62 [(.sub (.var 0) (.int 2))]) (.lst [(.str [58]), (.str [99, 111, 110, 115, 116, 97, 110, 116]), (.str [58, 61])])) (.call 60 [(.sub (.var 0) (.int 3))])) (.lst [(.str [59])]))] [],
  .ife (.of (.cmp .eq (.var 1) (.str [101, 120, 99, 101, 112, 116, 105, 111, 110]))) [
    .ret (.bin .add (.call 62 [(.sub (.var 0) (.int 2))]) (.lst [(.str [58]), (.str [101, 120, 99, 101, 112, 116, 105, 111, 110]), (.str [59])]))] [],
  .ife (.of (.cmp .isIn (.var 1) (.tup [(.str [115, 117, 98, 112, 114, 111, 103]), (.str [97, 98, 115, 116, 114, 97, 99, 116])]))) [
    .ret (.bin .add (.bin .add (.call 65 [(.sub (.var 0) (.int 2))]) (.ite (.of (.cmp .eq (.var 1) (.str [97, 98, 115, 116, 114, 97, 99, 116]))) (.lst [(.str [105, 115]), (.str [97, 98, 115, 116, 114, 97, 99, 116])]) (.lst []))) (.lst [(.str [59])]))] [],
  .ife (.of (.cmp .eq (.var 1) (.str [105, 110, 115, 116, 97, 110, 99, 101]))) [
    .ret (.bin .add (.bin .add (.bin .add (.lst [(.sub (.var 0) (.int 2)), (.sub (.var 0) (.int 3)), (.str [105, 115]), (.str [110, 101, 119])]) (.call 60 [(.sub (.var 0) (.int 4))])) (.call 68 [(.sub (.var 0) (.int 5))])) (.lst [(.str [59])]))] [],
  .ife (.of (.cmp .eq (.var 1) (.str [114, 101, 110, 97, 109, 101]))) [
    .asg 2 (.dict [[111, 98, 106, 101, 99, 116], [101, 120, 99, 101, 112, 116, 105, 111, 110], [112, 97, 99, 107, 97, 103, 101]] [(.lst [(.sub (.var 0) (.int 3)), (.str [58]), (.str [116])]), (.lst [(.sub (.var 0) (.int 3)), (.str [58]), (.str [101, 120, 99, 101, 112, 116, 105, 111, 110])]), (.lst [(.str [112, 97, 99, 107, 97, 103, 101]), (.sub (.var 0) (.int 3))])]),
    .asg 3 (.ite (.of (.cmp .eq (.sub (.var 0) (.int 2)) (.str [115, 117, 98, 112, 114, 111, 103]))) (.call 65 [(.sub (.var 0) (.int 4))]) (.sub (.var 2) (.sub (.var 0) (.int 2)))),
    .ret (.bin .add (.bin .add (.bin .add (.var 3) (.lst [(.str [114, 101, 110, 97, 109, 101, 115])])) (.call 60 [(.sub (.var 0) (.int 5))])) (.lst [(.str [59])]))] [],
  .ife (.of (.cmp .isIn (.var 1) (.tup [(.str [119, 105, 116, 104]), (.str [117, 115, 101]), (.str [117, 115, 101, 116, 121, 112, 101])]))) [
    .asg 4 (.lst []),
    .for' (.one 5) .items (.sub (.var 0) (.int 2)) [
      .asg 4 (.bin .add (.bin .add (.var 4) (.ite (.of (.cmp .ne (.var 4) (.lst []))) (.lst [(.str [44])]) (.lst []))) (.call 60 [(.var 5)]))],
    .ret (.bin .add (.bin .add (.sub (.dict [[119, 105, 116, 104], [117, 115, 101], [117, 115, 101, 116, 121, 112, 101]] [(.lst [(.str [119, 105, 116, 104])]), (.lst [(.str [117, 115, 101])]), (.lst [(.str [117, 115, 101]), (.str [116, 121, 112, 101])])]) (.var 1)) (.var 4)) (.lst [(.str [59])]))] [],
  .ife (.of (.cmp .eq (.var 1) (.str [112, 114, 97, 103, 109, 97]))) [
    .ret (.bin .add (.bin .add (.lst [(.str [112, 114, 97, 103, 109, 97]), (.sub (.var 0) (.int 2))]) (.call 68 [(.sub (.var 0) (.int 3))])) (.lst [(.str [59])]))] [],
  .ife (.of (.cmp .eq (.var 1) (.str [115, 117, 98, 116, 121, 112, 101]))) [
    .ret (.bin .add (.bin .add (.lst [(.str [115, 117, 98, 116, 121, 112, 101]), (.sub (.var 0) (.int 2)), (.str [105, 115])]) (.call 60 [(.sub (.var 0) (.int 3))])) (.lst [(.str [59])]))] [],
  .ife (.of (.cmp .isIn (.var 1) (.tup [(.str [101, 110, 116, 114, 121]), (.str [101, 110, 116, 114, 121, 98, 111, 100, 121])]))) [
    .ret (.call 72 [(.var 0)])] [],
  .ret (.call 71 [(.var 0)])]

/- 74: _law_cut(text, row, at, end) -/
noncomputable def b74 : List S := [
  .own2 2 (.int 0),
  .while' (.of (.cmp .lt (.var 2) (.len (.var 0)))) [
    .asg 3 (.bin .add (.var 2) (.int 1)),
    .ife (.of (.cmp .eq (.sub (.var 0) (.var 2)) (.str [34]))) [
      .asg 3 (.bin .add (.find (.var 0) (.str [34]) (.bin .add (.var 2) (.int 1))) (.int 1))] [
      .ife (.of (.alnum (.sub (.var 0) (.var 2)))) [
        .while' (.and (.of (.cmp .lt (.var 3) (.len (.var 0)))) (.or (.of (.alnum (.sub (.var 0) (.var 3)))) (.of (.cmp .eq (.sub (.var 0) (.var 3)) (.str [95]))))) [
          .aug 3 (.int 1)]] [
        .ife (.of (.cmp .isIn (.cut (.var 0) (.var 2) (.bin .add (.var 2) (.int 2))) (.tup [(.str [58, 61]), (.str [61, 62]), (.str [60, 62]), (.str [46, 46])]))) [
          .asg 3 (.bin .add (.var 2) (.int 2))] []]],
    .ife (.of (.cmp .notIn (.sub (.var 0) (.var 2)) (.str [32, 10]))) [
      .append (.cut (.var 0) (.var 2) (.var 3))] [],
    .asg 2 (.var 3)],
  .ret (.var 1)]

/- 75: _law_show(tree) -/
noncomputable def b75 : List S := [
  .ret (.join [32] (.call 60 [(.var 0)]))]

/- 76: _law_show_parts(parts) -/
noncomputable def b76 : List S := [
  .ret (.join [32] (.call 61 [(.var 0)]))]

/- 77: _law_null_rows(listers, stmt) -/
noncomputable def b77 : List S := [
  .ret (.lst [(.str [110, 117, 108, 108, 59])])]

noncomputable def funs : List Fun := [
  ⟨"show_range_of", ["listers", "tree"], ["listers", "tree", "text"], 99, b0⟩,
  ⟨"show_choices", ["listers", "choices"], ["listers", "choices", "texts", "choice"], 2, b1⟩,
  ⟨"list_rows", ["listers", "trees"], ["listers", "trees", "rows", "tree"], 2, b2⟩,
  ⟨"arm_rows", ["listers", "arms"], ["listers", "arms", "rows", "choices", "stmts"], 2, b3⟩,
  ⟨"handled_rows", ["listers", "stmts", "handlers"], ["listers", "stmts", "handlers", "rows"], 99, b4⟩,
  ⟨"show_names", ["names"], ["names"], 99, b5⟩,
  ⟨"show_params", ["listers", "params"], ["listers", "params", "texts", "names", "mode", "mark", "default", "text"], 2, b6⟩,
  ⟨"default_behind", ["listers", "node"], ["listers", "node"], 99, b7⟩,
  ⟨"show_array", ["listers", "definition"], ["listers", "definition", "texts", "index", "text"], 2, b8⟩,
  ⟨"show_kind", ["listers", "tree"], ["listers", "tree"], 99, b9⟩,
  ⟨"show_discs", ["listers", "discs"], ["listers", "discs"], 99, b10⟩,
  ⟨"show_words", ["flags", "words"], ["flags", "words", "text", "k"], 99, b11⟩,
  ⟨"show_components", ["listers", "components", "variant"], ["listers", "components", "variant", "text", "names", "kind", "default", "choices", "inner", "inner_variant"], 99, b12⟩,
  ⟨"show_record", ["listers", "definition"], ["listers", "definition", "head"], 99, b13⟩,
  ⟨"show_derived", ["listers", "definition"], ["listers", "definition", "head"], 99, b14⟩,
  ⟨"show_number_type", ["listers", "definition"], ["listers", "definition", "text"], 99, b15⟩,
  ⟨"show_definition", ["listers", "definition"], ["listers", "definition", "word", "marks", "mode"], 99, b16⟩,
  ⟨"show_spec", ["listers", "spec"], ["listers", "spec", "text"], 99, b17⟩,
  ⟨"list_object", ["listers", "decl"], ["listers", "decl", "word"], 99, b18⟩,
  ⟨"list_number_names", ["listers", "decl"], ["listers", "decl"], 99, b19⟩,
  ⟨"list_typedecl", ["listers", "decl"], ["listers", "decl", "text"], 99, b20⟩,
  ⟨"list_subtype", ["listers", "decl"], ["listers", "decl"], 99, b21⟩,
  ⟨"list_subprog", ["listers", "decl"], ["listers", "decl"], 99, b22⟩,
  ⟨"list_subbody", ["listers", "decl"], ["listers", "decl", "rows"], 99, b23⟩,
  ⟨"list_package", ["listers", "decl"], ["listers", "decl", "rows"], 99, b24⟩,
  ⟨"list_body", ["listers", "decl"], ["listers", "decl", "word", "rows"], 99, b25⟩,
  ⟨"list_rename", ["listers", "decl"], ["listers", "decl", "heads", "text"], 99, b26⟩,
  ⟨"list_exception", ["listers", "decl"], ["listers", "decl"], 99, b27⟩,
  ⟨"list_generic", ["listers", "decl"], ["listers", "decl"], 99, b28⟩,
  ⟨"list_formal_object", ["listers", "formal"], ["listers", "formal", "mode"], 99, b29⟩,
  ⟨"list_formal_sub", ["listers", "formal"], ["listers", "formal", "text"], 99, b30⟩,
  ⟨"actuals_behind", ["listers", "assocs"], ["listers", "assocs"], 99, b31⟩,
  ⟨"list_formal_package", ["listers", "formal"], ["listers", "formal", "head"], 99, b32⟩,
  ⟨"list_instance", ["listers", "decl"], ["listers", "decl", "head"], 99, b33⟩,
  ⟨"list_use", ["listers", "decl"], ["listers", "decl", "word"], 99, b34⟩,
  ⟨"list_pragma", ["listers", "decl"], ["listers", "decl"], 99, b35⟩,
  ⟨"declaration_listers", [], [], 99, []⟩,
  ⟨"list_task", ["listers", "decl"], ["listers", "decl", "head"], 99, b37⟩,
  ⟨"list_protected", ["listers", "decl"], ["listers", "decl", "head", "rows"], 99, b38⟩,
  ⟨"list_protected_body", ["listers", "decl"], ["listers", "decl"], 99, b39⟩,
  ⟨"list_entry", ["listers", "decl"], ["listers", "decl", "family"], 99, b40⟩,
  ⟨"list_component", ["listers", "decl"], ["listers", "decl"], 99, b41⟩,
  ⟨"list_entry_body", ["listers", "decl"], ["listers", "decl", "family", "head"], 99, b42⟩,
  ⟨"list_unit", ["listers", "unit"], ["listers", "unit"], 99, b43⟩,
  ⟨"unit_listers", [], [], 99, b44⟩,
  ⟨"_law_of", ["deck", "many"], ["deck", "many"], 99, []⟩,
  ⟨"_law_expr", ["deck"], ["deck"], 99, b46⟩,
  ⟨"_law_mark", ["deck"], ["deck"], 99, b47⟩,
  ⟨"_law_kind", ["deck"], ["deck", "mark", "way"], 99, b48⟩,
  ⟨"_law_value", ["deck"], ["deck"], 99, b49⟩,
  ⟨"_law_params", ["deck"], ["deck", "found", "turn", "mode"], 1, b50⟩,
  ⟨"_law_spec", ["deck"], ["deck"], 99, b51⟩,
  ⟨"_law_discs", ["deck"], ["deck", "way"], 99, b52⟩,
  ⟨"_law_entry", ["deck"], ["deck", "family"], 99, b53⟩,
  ⟨"_law_handled", ["deck"], ["deck"], 99, b54⟩,
  ⟨"_law_many", ["deck", "deep"], ["deck", "deep"], 99, b55⟩,
  ⟨"_law_items", ["deck", "is_private"], ["deck", "is_private", "found", "turn", "way"], 2, b56⟩,
  ⟨"_law_formal", ["deck"], ["deck", "way", "mode", "forms", "node"], 99, b57⟩,
  ⟨"_law_task_decl", ["deck", "deep", "way"], ["deck", "deep", "way", "decls", "family", "params", "barrier", "opened"], 99, b58⟩,
  ⟨"_law_decl", ["deck", "deep"], ["deck", "deep", "way", "sort", "spec", "decls", "formals"], 99, b59⟩,
  ⟨"_law_w_expr", ["tree"], ["tree", "row"], 99, b60⟩,
  ⟨"_law_w_parts", ["parts"], ["parts", "row", "choices", "node"], 99, b61⟩,
  ⟨"_law_w_names", ["names"], ["names", "row", "name"], 99, b62⟩,
  ⟨"_law_w_value", ["node"], ["node"], 99, b63⟩,
  ⟨"_law_w_params", ["params"], ["params", "row", "names", "mode", "mark", "default", "words"], 99, b64⟩,
  ⟨"_law_w_spec", ["spec"], ["spec"], 99, b65⟩,
  ⟨"_law_w_discs", ["discs"], ["discs", "row", "names", "kind", "default"], 99, b66⟩,
  ⟨"_law_w_handled", ["stmts", "handlers"], ["stmts", "handlers", "row", "choices", "inner", "at", "choice"], 2, b67⟩,
  ⟨"_law_w_actuals", ["parts"], ["parts"], 99, b68⟩,
  ⟨"_law_w_all", ["trees"], ["trees", "row", "tree"], 99, b69⟩,
  ⟨"_law_w_formal", ["tree"], ["tree", "words", "forms", "full", "tail"], 99, b70⟩,
  ⟨"_law_w_unit", ["tree"], ["tree", "word", "tail", "row", "formal", "head"], 99, b71⟩,
  ⟨"_law_w_entry", ["tree"], ["tree", "family", "head"], 99, b72⟩,
  ⟨"_law_w_tree", ["tree"], ["tree", "word", "heads", "head", "row", "node"], 99, b73⟩,
  ⟨"_law_cut", ["text"], ["text", "row", "at", "end"], 1, b74⟩,
  ⟨"_law_show", ["tree"], ["tree"], 99, b75⟩,
  ⟨"_law_show_parts", ["parts"], ["parts"], 99, b76⟩,
  ⟨"_law_null_rows", ["listers", "stmt"], ["listers", "stmt"], 99, b77⟩,
  ⟨"law", ["script"], ["script"], 99, []⟩]
noncomputable def fnames : List Str := funs.map (·.name)

theorem AvOk.fresh {C : Cx} {av : Addr → Prop} {h : Heap} (a : AvOk C av h) : ¬ av h.objs.size := fun q => by
  cases e : h.get? h.objs.size with
  | none => exact a.there _ q e
  | some o => exact Nat.lt_irrefl _ (Heap.lt_size e)
theorem keep_push (h : Heap) (o : Obj) : ∀ a o', h.get? a = some o' → (h.push o).get? a = some o' := fun _ _ e => Heap.get?_push_of_some o e
theorem Rep.keep {C : Cx} {av : Addr → Prop} {h h' : Heap} (k : ∀ a o, h.get? a = some o → h'.get? a = some o) {d : V} {v : Value} (r : Rep C av h d v) : Rep C av h' d v :=
  Rep.move (fun a o na e => ⟨na, k a o e⟩) d r
theorem RepL.keep {C : Cx} {av : Addr → Prop} {h h' : Heap} (k : ∀ a o, h.get? a = some o → h'.get? a = some o) {d : List V} {v : List Value} (r : RepL C av h d v) : RepL C av h' d v :=
  RepL.move (fun a o na e => ⟨na, k a o e⟩) d r

section
variable {C : Cx} {av : Addr → Prop} {A : Around} {s : Shared} {n : Nat} {Q : V → Prop}

theorem post_same {d : V} {v : Value} {tk : Nat} (x : St C s) (q : Q d) (r : Rep C av s.heap d v) : Post C av s Q v { s with toks := tk } :=
  ⟨d, q, r, x.all (fun _ _ e => e) rfl rfl, Step.all fun _ _ e => e⟩
theorem post_here {d : V} {v : Value} (x : St C s) (q : Q d) (r : Rep C av s.heap d v) : Post C av s Q v s :=
  ⟨d, q, r, x, Step.refl C s⟩
theorem post_push {d : V} {v : Value} {o : Obj} (x : St C s) (q : Q d) (r : Rep C av (s.heap.push o) d v) : Post C av s Q v { s with heap := s.heap.push o } :=
  ⟨d, q, r, x.all (keep_push _ _) rfl rfl, Step.all (keep_push _ _)⟩
theorem rep_newList {ds : List V} {vs : List Value} (a : AvOk C av s.heap) (r : RepL C av s.heap ds vs) :
    Rep C av (s.heap.push { cls := .type "list", data := .seq vs.toArray }) (.lst ds) (.ref s.heap.objs.size) := by
  simp only [Rep]
  exact ⟨_, vs, rfl, a.fresh, ⟨0, Heap.get?_push_size _ rfl⟩, r.keep (keep_push _ _)⟩
theorem rep_newTup {ds : List V} {vs : List Value} (a : AvOk C av s.heap) (r : RepL C av s.heap ds vs) :
    Rep C av (s.heap.push { cls := .type "tuple", data := .seq vs.toArray }) (.tup ds) (.ref s.heap.objs.size) := by
  simp only [Rep]
  exact ⟨_, vs, rfl, a.fresh, ⟨0, Heap.get?_push_size _ rfl⟩, r.keep (keep_push _ _)⟩

theorem size_lim {xs : List Value} (h : xs.length ≤ lim) : xs.toArray.size ≤ sizeLine := by
  rw [sizeLine_eq, List.size_toArray]; exact h

theorem mul_push {prog : Program} {w : World} {E : Value → Shared → Prop} {l : Addr} {vs : List Value} {k : Nat} {x : Int} {u : Tok} {Q : Value → Shared → Prop}
    (hl : s.heap.get? l = some { cls := .type "list", data := .seq vs.toArray k }) (hlo : 0 ≤ x) (hhi : x ≤ 1000) (hsz : vs.length ≤ 1000)
    (h : Q (.ref s.heap.objs.size) { s with heap := s.heap.push { cls := .type "list", data := .seq (List.replicate x.toNat vs).flatten.toArray } }) :
    wpAny (model prog w) A (binaryOp .Mult (.ref l) (.int x u)) Q E s := by
  have hb : vs.toArray.size * x.toNat ≤ 2 ^ 24 := by
    rw [List.size_toArray]
    exact Nat.le_trans (Nat.mul_le_mul hsz (show x.toNat ≤ 1000 by omega)) (by decide)
  refine wpAny_binaryOp_repeat_ref (T := "list") (U := "int") (by decide) ⟨_, hl, rfl⟩ (fun s' => typeIs_int s' x u) noFill_list_mul F.fills_int_mul F.slot_int_rmul repeat_list F.slot_int_index.lookup
    (call_meets F.slot_int_rmul (typeIs_int s x u) F.entry_int_rmul (F.args_int_rmul_2 _ _) (int___rmul___int_list x u l vs.toArray k)
      ⟨hl, rfl, ⟨_, hl, rfl⟩, call_meets F.slot_list_mul ⟨_, hl, rfl⟩ F.entry_list_mul (F.args_list_mul_2 _ _)
        (AutoListH.list___mul___list_int_3 l vs.toArray k x u (by simp [Builtin.List.listFitsIndex]; omega) (by omega) (by simp [Builtin.List.listTooLong, sizeLine]; omega))
        ⟨hl, ?_⟩⟩)
  rw [listMul_foldl_if]
  exact h

theorem replicate_rep {h : Heap} {ds : List V} {vs : List Value} (r : RepL C av h ds vs) : ∀ k : Nat, RepL C av h (List.replicate k ds).flatten (List.replicate k vs).flatten
  | 0 => by simp [RepL]
  | k + 1 => by simp only [List.replicate_succ, List.flatten_cons]; exact r.append (replicate_rep r k)

theorem s_binop {op : Op} {x y : V} {u v : Value} (q : binop op x y Q) (a : AvOk C av s.heap) (x0 : St C s) (r1 : Rep C av s.heap x u) (r2 : Rep C av s.heap y v) :
    wpAny (model C.prog C.w) A (binaryOp (opOf op) u v) (Post C av s Q) NoE s := by
  cases op with
  | add =>
    cases x with
    | int =>
      cases y with
      | int =>
        obtain ⟨t1, rfl⟩ := r1
        obtain ⟨t2, rfl⟩ := r2
        exact PySem.P.add_int (post_same x0 q (by first | exact rfl | exact Exists.intro _ rfl | simp [Rep]))
      | _ => exact False.elim q
    | str =>
      cases y with
      | str =>
        obtain ⟨t1, rfl⟩ := r1
        obtain ⟨t2, rfl⟩ := r2
        refine PyProof.Rows.add_str (fun t' tk => ?_) (by rw [mkS_length, mkS_length, sizeLine_eq]; exact q.1)
        rw [mkS_append]
        exact post_same x0 q.2 (by first | exact rfl | exact Exists.intro _ rfl | simp [Rep])
      | _ => exact False.elim q
    | tup =>
      cases y with
      | tup =>
        obtain ⟨b1, vs, rfl, n1, ⟨k1, g1⟩, l1⟩ := r1
        obtain ⟨b2, ws, rfl, n2, ⟨k2, g2⟩, l2⟩ := r2
        obtain ⟨⟨c1, c2, c3⟩, q⟩ := q
        have e1 := l1.length
        have e2 := l2.length
        have nz : ∀ {ds : List V} {vs : List Value}, ds ≠ [] → vs.length = ds.length → ¬ vs.toArray.isEmpty = true := by
          intro ds vs h e
          cases vs with
          | nil => cases ds with
            | nil => exact absurd rfl h
            | cons => simp at e
          | cons => simp
        refine PySem.P.add_tuple (n := k1) (n2 := k2) g1 g2 (nz c1 e1) (nz c2 e2) ?_ (by rw [sizeLine_eq, List.size_toArray, List.size_toArray, e1, e2]; exact c3)
        rw [List.append_toArray]
        exact post_push x0 q (rep_newTup a (l1.append l2))
      | _ => exact False.elim q
    | lst =>
      cases y with
      | lst =>
        obtain ⟨b1, vs, rfl, n1, ⟨k1, g1⟩, l1⟩ := r1
        obtain ⟨b2, ws, rfl, n2, ⟨k2, g2⟩, l2⟩ := r2
        have e1 := l1.length
        have e2 := l2.length
        refine PySem.P.add_list (n := k1) (n2 := k2) g1 g2 ?_ (by rw [sizeLine_eq, List.size_toArray, List.size_toArray, e1, e2]; exact q.1)
        rw [List.append_toArray]
        exact post_push x0 q.2 (rep_newList a (l1.append l2))
      | _ => exact False.elim q
    | _ => exact False.elim q
  | mul =>
    cases x with
    | lst =>
      cases y with
      | int =>
        obtain ⟨b1, vs, rfl, n1, ⟨k1, g1⟩, l1⟩ := r1
        obtain ⟨t2, rfl⟩ := r2
        have e1 := l1.length
        exact mul_push g1 q.1.1 q.1.2.1 (by rw [e1]; exact q.1.2.2) (post_push x0 q.2 (rep_newList a (replicate_rep l1 _)))
      | _ => exact False.elim q
    | _ => exact False.elim q
  | sub =>
    cases x with
    | int =>
      cases y with
      | int =>
        obtain ⟨t1, rfl⟩ := r1
        obtain ⟨t2, rfl⟩ := r2
        exact PySem.P.sub_int (post_same x0 q (by first | exact rfl | exact Exists.intro _ rfl | simp [Rep]))
      | _ => exact False.elim q
    | _ => exact False.elim q
end

section
variable {C : Cx} {av : Addr → Prop} {A : Around} {s : Shared} {n : Nat} {Q : V → Prop}

theorem eqAt_str (a b : List Nat) (t u : Tok) (A : Around) (s : Shared) : SeqAt.EqAt A s (.str (mkS a) t) (.str (mkS b) u) (decide (a = b)) := by
  have h := (eqGives_str (mkS a) (mkS b) t u).at A s
  have e : (mkS a == mkS b) = decide (a = b) := by
    by_cases q : a = b
    · subst q; simp
    · have : mkS a ≠ mkS b := fun z => q (mkS_inj z)
      simp [q, this]
  rwa [e] at h

theorem strs_rep {h : Heap} : ∀ {ds : List V} {vs : List Value} {l : List (List Nat)}, RepL C av h ds vs → strsOf ds = some l → StrsAre vs (l.map mkS)
  | [], _, _, r, e => by
    simp only [strsOf, Option.some.injEq] at e
    subst r e
    exact .nil
  | d :: ds, _, l, r, e => by
    obtain ⟨v, vs', rfl, r1, r2⟩ := r
    cases d <;> simp only [strsOf] at e <;> (try cases e)
    rename_i x
    cases q : strsOf ds with
    | none => rw [q] at e; cases e
    | some l' =>
      rw [q] at e
      simp only [Option.map_some, Option.some.injEq] at e
      subst e
      obtain ⟨t, rfl⟩ := r1
      exact .cons _ t (strs_rep r2 q)

theorem strsAre_get {vs : List Value} {ys : List Str} (h : StrsAre vs ys) : ∀ (j : Nat) (h : j < vs.length), ∃ t, ∃ h' : j < ys.length, vs[j] = .str ys[j] t := by
  induction h with
  | nil => intro j h; cases h
  | cons y t r ih =>
    intro j h
    cases j with
    | zero => exact ⟨t, Nat.succ_pos _, rfl⟩
    | succ j => exact (ih j (Nat.lt_of_succ_lt_succ h)).elim fun t' g => g.elim fun h' e => ⟨t', Nat.succ_lt_succ h', e⟩
theorem strsAre_length {vs : List Value} {ys : List Str} (h : StrsAre vs ys) : vs.length = ys.length := by
  induction h with
  | nil => rfl
  | cons _ _ _ ih => exact congrArg Nat.succ ih

theorem all_range_eq {x y : List (List Nat)} (h : x.length = y.length) : (List.range x.length).all (fun j => decide (x[j]? = y[j]?)) = decide (x = y) := by
  by_cases q : x = y
  · subst q; simp
  · have : ¬ (List.range x.length).all (fun j => decide (x[j]? = y[j]?)) = true := fun hh => q (by
      apply List.ext_getElem? 
      intro i
      by_cases hi : i < x.length
      · have := List.all_eq_true.mp hh i (List.mem_range.mpr hi)
        simpa using this
      · rw [List.getElem?_eq_none (by omega), List.getElem?_eq_none (by omega)])
    simp only [Bool.not_eq_true] at this
    rw [this]; simp [q]

theorem isS_is {x : V} {a : List Nat} (h : isS x = some a) : x = .str a := by
  cases x with
  | str => cases h; rfl
  | _ => cases h
theorem veq_tup {xs ys : List V} {b : Bool} (q : veqT xs ys = some b) : ∃ c r d, xs = .str c :: r ∧ ys = [.str d] ∧ b = (decide (c = d) && r.isEmpty) := by
  cases xs with
  | nil => cases q
  | cons x xs =>
    cases ys with
    | nil => cases q
    | cons y ys =>
      cases ys with
      | cons => cases q
      | nil =>
        cases h1 : isS x with
        | none => simp only [veqT, h1] at q; cases q
        | some c =>
          cases h2 : isS y with
          | none => simp only [veqT, h1, h2] at q; cases q
          | some d =>
            simp only [veqT, h1, h2] at q
            cases q
            rw [isS_is h1, isS_is h2]
            exact ⟨_, _, _, rfl, rfl, rfl⟩

theorem rc_of {x y : V} {u v : Value} {b : Bool} (q : veq x y = some b) (r1 : Rep C av s.heap x u) (r2 : Rep C av s.heap y v) (hu : A.units + 1 < cLine) :
    SeqAt.RcAt A s u v b ∧ SeqAt.RcNeAt A s u v (!b) := by
  have hu' : A.units < cLine := Nat.lt_of_succ_lt hu
  cases y with
  | str j =>
    cases x with
    | none =>
      obtain ⟨t, rfl⟩ := r2
      obtain rfl := r1
      cases q
      exact ⟨SeqAt.RcAt.none_str _ _, SeqAt.RcNeAt.none_str _ _⟩
    | str i =>
      obtain ⟨t, rfl⟩ := r1
      obtain ⟨t', rfl⟩ := r2
      cases q
      have e : decide (i = j) = (mkS i == mkS j) := by
        by_cases z : i = j
        · subst z; simp
        · have : mkS i ≠ mkS j := fun w => z (mkS_inj w)
          simp [z, this]
      rw [e]
      exact ⟨SeqAt.RcAt.str_str _ _ _ _, SeqAt.RcNeAt.str_str _ _ _ _⟩
    | tup xs =>
      obtain ⟨a, vs, rfl, na, tt, rl⟩ := r1
      obtain ⟨t', rfl⟩ := r2
      cases q
      have ht : s.heap.IsTuple a vs.toArray := tt.isTup
      exact ⟨SeqAt.RcAt.tuple_str _ _ ht hu', SeqAt.RcNeAt.tuple_str _ _ ht hu'⟩
    | lst xs =>
      obtain ⟨a, vs, rfl, na, tt, rl⟩ := r1
      obtain ⟨t', rfl⟩ := r2
      cases q
      exact ⟨SeqAt.RcAt.list_str _ _ tt.isList hu', SeqAt.RcNeAt.list_str _ _ tt.isList hu'⟩
    | _ => exact none_ne q
  | int j =>
    cases x with
    | int i =>
      obtain ⟨t, rfl⟩ := r1
      obtain ⟨t', rfl⟩ := r2
      cases q
      have e : decide (i = j) = (i == j) := by rw [Bool.eq_iff_iff]; simp
      rw [e]
      exact ⟨SeqAt.RcAt.int_int _ _ _ _, SeqAt.RcNeAt.int_int _ _ _ _⟩
    | _ => exact none_ne q
  | tup ys =>
    cases x with
    | tup xs =>
      obtain ⟨a, vs, rfl, na, tt, rl⟩ := r1
      obtain ⟨a', ws, rfl, na', tt', rl'⟩ := r2
      have ht : s.heap.IsTuple a vs.toArray := tt.isTup
      have ht' : s.heap.IsTuple a' ws.toArray := tt'.isTup
      obtain ⟨c, xs', d, rfl, rfl, qb⟩ := veq_tup q
      obtain ⟨v, vs', rfl, ⟨t, rfl⟩, rl⟩ := rl
      obtain ⟨w, ws', rfl, ⟨t', rfl⟩, rfl⟩ := rl'
      have el := rl.length
      have he : ∀ (j : Nat) (h1 : j < (Value.str (mkS c) t :: vs').toArray.size) (h2 : j < ([Value.str (mkS d) t']).toArray.size),
          SeqAt.EqAt A.in1 s (Value.str (mkS c) t :: vs').toArray[j] ([Value.str (mkS d) t']).toArray[j] ((fun _ => decide (c = d)) j) := by
        intro j h1 h2
        have : j = 0 := by simp at h2; omega
        subst this
        exact eqAt_str c d t t' _ _
      have e : ((List.range (min (Value.str (mkS c) t :: vs').toArray.size ([Value.str (mkS d) t']).toArray.size)).all (fun _ => decide (c = d)) && (Value.str (mkS c) t :: vs').toArray.size == ([Value.str (mkS d) t']).toArray.size) = b := by
        rw [qb]
        have h1 : min (Value.str (mkS c) t :: vs').toArray.size ([Value.str (mkS d) t']).toArray.size = 1 := by simp
        rw [h1]
        have h2 : ((Value.str (mkS c) t :: vs').toArray.size == ([Value.str (mkS d) t']).toArray.size) = xs'.isEmpty := by
          cases xs' with
          | nil => simp at el; subst el; simp
          | cons => cases vs' with
            | nil => simp at el
            | cons => simp
        rw [h2]
        simp
      have r1 := SeqAt.RcAt.tuples ht ht' hu' he
      have r2 := SeqAt.RcNeAt.tuples ht ht' hu' he
      rw [e] at r1 r2
      exact ⟨r1, r2⟩
    | _ => exact none_ne q
  | lst ys =>
    cases x with
    | lst xs =>
      obtain ⟨a, vs, rfl, na, tt, rl⟩ := r1
      obtain ⟨a', ws, rfl, na', tt', rl'⟩ := r2
      have el := rl.length
      have el' := rl'.length
      have hl := tt.isList
      have hl' := tt'.isList
      have key : ∀ (l l' : List (List Nat)), strsOf xs = some l → strsOf ys = some l' → SeqAt.RcAt A s (.ref a) (.ref a') (decide (l = l')) ∧ SeqAt.RcNeAt A s (.ref a) (.ref a') (!decide (l = l')) := by
        intro l l' e1 e2
        have s1 := strs_rep rl e1
        have s2 := strs_rep rl' e2
        have n1 := strsAre_length s1
        have n2 := strsAre_length s2
        rw [List.length_map] at n1 n2
        by_cases hs : vs.length = ws.length
        · have he : ∀ (j : Nat) (h1 : j < vs.toArray.size) (h2 : j < ws.toArray.size), SeqAt.EqAt A.in1 s vs.toArray[j] ws.toArray[j] ((fun j => decide (l[j]? = l'[j]?)) j) := by
            intro j h1 h2
            obtain ⟨t1, g1, q1⟩ := strsAre_get s1 j (by simpa using h1)
            obtain ⟨t2, g2, q2⟩ := strsAre_get s2 j (by simpa using h2)
            rw [List.length_map] at g1 g2
            have z1 : vs.toArray[j] = Value.str (mkS l[j]) t1 := by rw [List.getElem_toArray, q1, List.getElem_map]
            have z2 : ws.toArray[j] = Value.str (mkS l'[j]) t2 := by rw [List.getElem_toArray, q2, List.getElem_map]
            rw [z1, z2]
            have z3 : decide (l[j]? = l'[j]?) = decide (l[j] = l'[j]) := by
              rw [List.getElem?_eq_getElem g1, List.getElem?_eq_getElem g2]; simp
            show SeqAt.EqAt _ _ _ _ (decide (l[j]? = l'[j]?))
            rw [z3]
            exact eqAt_str _ _ _ _ _ _
          have r1 := SeqAt.RcAt.lists hl hl' (by simpa using hs) hu' he
          have r2 := SeqAt.RcNeAt.lists hl hl' (by simpa using hs) hu' he
          have e : (List.range vs.toArray.size).all (fun j => decide (l[j]? = l'[j]?)) = decide (l = l') := by
            rw [List.size_toArray, n1]
            exact all_range_eq (by omega)
          rw [e] at r1 r2
          exact ⟨r1, r2⟩
        · have hne : l ≠ l' := fun z => hs (by subst z; omega)
          have hz : (vs.toArray.size != ws.toArray.size) = true := by simpa using hs
          have r1 := SeqAt.RcAt.lists_lengths hl hl' hz hu'
          have r2 := SeqAt.RcNeAt.lists_lengths hl hl' hz hu'
          simp only [hne, decide_false, Bool.not_false]
          exact ⟨r1, r2⟩
      cases ys with
      | nil =>
        cases xs with
        | nil => 
          have := key [] [] rfl rfl
          cases q
          exact this
        | cons x xs =>
          cases q
          have hz : (vs.toArray.size != ws.toArray.size) = true := by
            simp at el el' ⊢
            rw [el, el']
            simp
          exact ⟨SeqAt.RcAt.lists_lengths hl hl' hz hu', SeqAt.RcNeAt.lists_lengths hl hl' hz hu'⟩
      | cons y ys =>
        cases e1 : strsOf xs with
        | none => simp only [veq, veqLst, veqL, veqStrs, e1] at q; cases q
        | some l =>
          cases e2 : strsOf (y :: ys) with
          | none => simp only [veq, veqLst, veqL, veqStrs, e1, e2] at q; cases q
          | some l' =>
            simp only [veq, veqLst, veqL, veqStrs, e1, e2] at q
            cases q
            exact key l l' e1 e2

    | _ => exact none_ne q
  | _ => exact none_ne q

theorem none_plain {x : V} {u : Value} {b : Bool} {h : Heap} (q : isNone x = some b) (r : Rep C av h x u) : plainIs u .none = true ∧ (u == Value.none) = b := by
  cases x <;> simp only [isNone, Option.some.injEq] at q <;> (first | (cases q; done) | skip) <;> simp only [Rep] at r
  · subst r q; exact ⟨rfl, rfl⟩
  · subst r q; exact ⟨rfl, rfl⟩
  · obtain ⟨t, rfl⟩ := r; subst q; exact ⟨rfl, rfl⟩
  · obtain ⟨t, rfl⟩ := r; subst q; exact ⟨rfl, rfl⟩
  · obtain ⟨a, vs, rfl, _⟩ := r; subst q; exact ⟨rfl, rfl⟩
  · obtain ⟨a, vs, rfl, _⟩ := r; subst q; exact ⟨rfl, rfl⟩
  · obtain ⟨a, vs, rfl, _⟩ := r; subst q; exact ⟨rfl, rfl⟩

theorem valueAt_zip {ks : List (List Nat)} : ∀ {ds : List V} {rv : List Value} {h : Heap} {x : List Nat}, RepL C av h ds rv → ks.length = ds.length →
    (match dlook ks ds x with
      | some d => ∃ v, valueAt ((ks.map mkS).zip rv) (mkS x) = some v ∧ Rep C av h d v
      | none => valueAt ((ks.map mkS).zip rv) (mkS x) = none) := by
  induction ks with
  | nil => intro ds rv h x r e; simp [dlook, valueAt]
  | cons k ks ih =>
    intro ds rv h x r e
    cases ds with
    | nil => simp at e
    | cons d ds =>
      obtain ⟨v, vs', rfl, r1, r2⟩ := r
      simp only [dlook_cons]
      by_cases hk : k = x
      · subst hk
        simp only [if_true]
        exact ⟨v, by simp [valueAt], r1⟩
      · simp only [hk, if_false]
        have hne : mkS k ≠ mkS x := fun z => hk (mkS_inj z)
        have e2 : valueAt (((k :: ks).map mkS).zip (v :: vs')) (mkS x) = valueAt ((ks.map mkS).zip vs') (mkS x) := by
          simp [valueAt, hne]
        rw [e2]
        exact ih r2 (by simpa using e)

theorem ints2_is {x y : V} {F : Int → Int → Prop} (q : ints2 x y F) : ∃ a b, x = .int a ∧ y = .int b ∧ F a b := by
  cases x with
  | int a => cases y with
    | int b => exact ⟨a, b, rfl, rfl, q⟩
    | _ => exact False.elim q
  | _ => exact False.elim q
theorem isQ_is {x y : V} {F : Bool → Prop} (q : isQ x y F) : ∃ b, y = .none ∧ isNone x = some b ∧ F b := by
  cases y with
  | none => exact (ofSome q).elim fun b g => ⟨b, rfl, g⟩
  | _ => exact False.elim q
theorem oneC_is {s : List Nat} {c : Nat} (h : oneC s = some c) : s = [c] := match s, h with
  | [_], h => by cases h; rfl

theorem s_cmp {op : Cm} {x y : V} {u v : Value} (q : cmpop op x y Q) (rm : Room n A) (x0 : St C s) (r1 : Rep C av s.heap x u) (r2 : Rep C av s.heap y v) :
    wpAny (model C.prog C.w) A (compareOp (cmOf op) u v) (Post C av s Q) NoE s := by
  have hu : A.units + 1 < cLine := by have := rm.c; omega
  have pb : ∀ (b : Bool), Q (.bool b) → Post C av s Q (.bool b) s := fun b h => post_here x0 h (by first | exact rfl | exact Exists.intro _ rfl | simp [Rep])
  cases op
  case eq =>
    obtain ⟨b, hb, q⟩ := ofSome q
    exact (rc_of hb r1 r2 hu).1 _ _ _ _ (pb _ q)
  case ne =>
    obtain ⟨b, hb, q⟩ := ofSome q
    exact (rc_of hb r1 r2 hu).2 _ _ _ _ (pb _ q)
  case lt =>
    obtain ⟨a, b, rfl, rfl, q⟩ := ints2_is q
    obtain ⟨t, rfl⟩ := r1
    obtain ⟨t', rfl⟩ := r2
    exact PySem.P.lt_int (pb _ q)
  case gt =>
    obtain ⟨a, b, rfl, rfl, q⟩ := ints2_is q
    obtain ⟨t, rfl⟩ := r1
    obtain ⟨t', rfl⟩ := r2
    exact PySem.P.gt_int (pb _ q)
  case is =>
    obtain ⟨b, rfl, hb, q⟩ := isQ_is q
    have e := none_plain hb r1
    obtain rfl := r2
    refine wpAny_is_plain e.1 ?_
    rw [e.2]; exact pb _ q
  case isNot =>
    obtain ⟨b, rfl, hb, q⟩ := isQ_is q
    have e := none_plain hb r1
    obtain rfl := r2
    refine wpAny_isNot_plain e.1 ?_
    rw [e.2]; exact pb _ q
  case isIn =>
    obtain ⟨c, hc, q⟩ := ofSome q
    obtain rfl := isS_is hc
    cases y <;> (first | exact False.elim q | skip)
    · rename_i ys _
      obtain ⟨t, rfl⟩ := r1
      obtain ⟨a, vs, rfl, na, tt, rl⟩ := r2
      obtain ⟨l, hl, q⟩ := ofSome q
      · refine in_tuple_strs tt.isTup (by simpa using strs_rep rl hl) ?_
        have e : ((l.map mkS).any fun z => z == mkS c) = decide (c ∈ l) := by
          rw [Bool.eq_iff_iff]
          simp only [List.any_map, List.any_eq_true, Function.comp, beq_iff_eq, decide_eq_true_eq]
          constructor
          · rintro ⟨z, hz, e⟩; rw [← mkS_inj e]; exact hz
          · intro h; exact ⟨c, h, rfl⟩
        rw [e]; exact pb _ q
    · rename_i ks ds _
      obtain ⟨t, rfl⟩ := r1
      obtain ⟨a, rv, rfl, na, hd, hl, rl⟩ := r2
      refine wpAny_in_of (knd := strKind C.prog C.w) (k := mkS c) (strKind_is C.prog C.w (mkS c) t) na.2 hd.mapOf ?_
      have z := valueAt_zip (x := c) rl hl
      have e : (valueAt ((ks.map mkS).zip rv) (mkS c)).isSome = (dlook ks ds c).isSome := by
        split at z
        · rename_i d hd; obtain ⟨w, e, _⟩ := z; rw [e, hd]; rfl
        · rename_i hd; rw [z, hd]; rfl
      rw [e]
      exact post_same x0 q (by first | exact rfl | exact Exists.intro _ rfl | simp [Rep])
  case notIn =>
    obtain ⟨s', hs, q⟩ := ofSome q
    obtain rfl := isS_is hs
    obtain ⟨c, hc, q⟩ := ofSome q
    obtain rfl := oneC_is hc
    cases y <;> (first | exact False.elim q | skip)
    rename_i y _ _
    obtain ⟨t, rfl⟩ := r1
    obtain ⟨t', rfl⟩ := r2
    refine PySem.P.notIn_str ?_
    have e := StrLaws.found_one (mkS y) c
    have e2 : mkS [c] = { cps := #[c] } := rfl
    rw [e2, e]
    have e3 : (mkS y).cps.toList = y := by simp [mkS]
    rw [e3]
    exact pb _ q
end

section
variable {C : Cx} {av : Addr → Prop} {A : Around} {s s₀ : Shared} {n : Nat} {Q : V → Prop}

theorem seqIndex_nat {i : Int} {n : Nat} (h0 : 0 ≤ i) (h1 : i.toNat < n) : seqIndex? i n = some i.toNat := by
  unfold seqIndex?
  have e1 : ¬ i < 0 := by omega
  have e2 : i < n := by omega
  simp [e1, e2]
theorem seqIndex_last {n : Nat} (h : 0 < n) : seqIndex? (-1) n = some (n - 1) := by
  unfold seqIndex?
  have e2 : ¬ ((-1 : Int) + n < 0) := by omega
  have e3 : ((-1 : Int) + n).toNat = n - 1 := by omega
  have e4 : ((-1 : Int) + (n : Int)) < n := by omega
  simp [e2, e3, e4]

theorem s_idx {value slice : PySem.Expr} {x y : V} {u v : Value} (hs : ∀ o i, subscripted slice false o i = operate [o, i] (getItem o i)) (q : idx x y Q) (x0 : St C s)
    (r1 : Rep C av s.heap x u) (r2 : Rep C av s.heap y v) : wpAny (model C.prog C.w) A (subscriptTail value slice u v) (Post C av s Q) NoE s := by
  cases x <;> (first | exact False.elim q | skip) <;> cases y <;> (first | exact False.elim q | skip)
  · -- str, int
    rename_i x i
    obtain ⟨t, rfl⟩ := r1
    obtain ⟨t', rfl⟩ := r2
    obtain ⟨⟨h0, h1⟩, q⟩ := q
    have hl : i < 2 ^ 63 := by simp only [lim] at h1; omega
    split at q
    · rename_i c hc
      have hlt : i.toNat < x.length := (List.getElem?_eq_some_iff.mp hc).1
      refine tail_any (T := "str") (typeIs_str s (mkS x) t) slot_str_getitem.lookup (PySem.P.getItem_str (c := c) ?_ ?_ (post_same x0 q ?_)) (hs _ _)
      · have e1 : ¬ i < -(2 ^ 63 : Int) := by omega
        have e2 : ¬ i ≥ 2 ^ 63 := by omega
        rw [decide_eq_false e1, decide_eq_false e2]; rfl
      · rw [mkS_length, seqIndex_nat h0 hlt]
        simpa [mkS] using hc
      · simp only [Rep]; exact ⟨_, rfl⟩
    · cases q
  · -- tup, int
    rename_i xs i
    obtain ⟨a, vs, rfl, na, tt, rl⟩ := r1
    obtain ⟨t', rfl⟩ := r2
    have el := rl.length
    simp only [idx] at q
    by_cases hm : i = -1
    · subst hm
      rw [if_pos rfl] at q
      split at q
      · rename_i d hd
        have hne : xs ≠ [] := by intro z; subst z; simp at hd
        have hpos : 0 < xs.length := List.length_pos_iff.mpr hne
        have hd' : xs[xs.length - 1]? = some d := by rw [← List.getLast?_eq_getElem?]; exact hd
        obtain ⟨w, hw, rw'⟩ := rl.get hd'
        refine tail_any (T := "tuple") (let ⟨n, e⟩ := tt; ⟨_, e, rfl⟩) slot_tuple_getitem.lookup (PyProof.Rows.getItem_tuple (j := xs.length - 1) tt.isTup (by decide) (by decide) ?_ ?_ (post_here x0 q rw')) (hs _ _)
        · rw [List.size_toArray, el]; exact seqIndex_last hpos
        · simpa using hw
      · cases q
    · rw [if_neg hm] at q
      obtain ⟨⟨h0, h1⟩, q⟩ := q
      have hl : i < 2 ^ 63 := by simp only [lim] at h1; omega
      split at q
      · rename_i d hd
        obtain ⟨w, hw, rw'⟩ := rl.get hd
        have hlt : i.toNat < xs.length := (List.getElem?_eq_some_iff.mp hd).1
        refine tail_any (T := "tuple") (let ⟨n, e⟩ := tt; ⟨_, e, rfl⟩) slot_tuple_getitem.lookup (PyProof.Rows.getItem_tuple (j := i.toNat) tt.isTup (by omega) hl ?_ ?_ (post_here x0 q rw')) (hs _ _)
        · rw [List.size_toArray, el]; exact seqIndex_nat h0 hlt
        · simpa using hw
      · cases q
  · -- lst, int
    rename_i xs i
    obtain ⟨a, vs, rfl, na, tt, rl⟩ := r1
    obtain ⟨t', rfl⟩ := r2
    obtain ⟨⟨h0, h1⟩, q⟩ := q
    have hl : i < 2 ^ 63 := by simp only [lim] at h1; omega
    split at q
    · rename_i d hd
      obtain ⟨w, hw, rw'⟩ := rl.get hd
      refine tail_any (T := "list") (let ⟨n, e⟩ := tt; ⟨_, e, rfl⟩) slot_list_getitem.lookup (wpAny_getItem_list tt.isList h0 hl ?_ (post_here x0 q rw')) (hs _ _)
      simpa using hw
    · cases q
  · -- dict, str
    rename_i ks ds k
    obtain ⟨a, rv, rfl, na, hd, hl, rl⟩ := r1
    obtain ⟨t', rfl⟩ := r2
    simp only [idx] at q
    have z := valueAt_zip (x := k) rl hl
    split at q
    · rename_i d hk
      rw [hk] at z
      obtain ⟨w, hw, rw'⟩ := z
      exact tail_any (T := "dict") hd.mapOf.typeIs slot_dict_getitem.lookup (wpAny_getItem_of (strKind_is C.prog C.w (mkS k) t') hd.mapOf hw (post_same x0 q rw')) (hs _ _)
    · cases q

theorem pick_upto {vs : List Value} {i : Int} (h0 : 0 ≤ i) : slicePick vs.toArray none (some i) none = (vs.take i.toNat).toArray := by
  rw [kms_pick_eq]
  have e1 : kms_hi (some i) vs.toArray.toList.length = min i.toNat vs.length := by simp [kms_hi, show ¬ i < 0 by omega]
  simp only [kms_pick, e1, kms_lo, List.drop_zero, Nat.sub_zero]
  congr 1
  by_cases h : i.toNat ≤ vs.length
  · rw [Nat.min_eq_left h]
  · rw [Nat.min_eq_right (by omega), List.take_of_length_le (by simp), List.take_of_length_le (by omega)]
theorem pick_from {vs : List Value} {i : Int} (h0 : 0 ≤ i) : slicePick vs.toArray (some i) none none = (vs.drop i.toNat).toArray := by
  rw [kms_pick_eq]
  have e1 : kms_lo (some i) vs.toArray.toList.length = min i.toNat vs.length := by simp [kms_lo, show ¬ i < 0 by omega]
  simp only [kms_pick, e1, kms_hi]
  congr 1
  by_cases h : i.toNat ≤ vs.length
  · rw [Nat.min_eq_left h]
    rw [List.take_of_length_le (by simp)]
  · rw [Nat.min_eq_right (by omega)]
    simp
    omega

theorem push_keep2 {s : Shared} (o o' : Obj) : ∀ a x, s.heap.get? a = some x → ((s.heap.push o).push o').get? a = some x := fun _ _ e => keep_push _ _ _ _ (keep_push _ _ _ _ e)

theorem slice_rep {ds : List V} {vs : List Value} {o : Obj} (a : AvOk C av s.heap) (r : RepL C av s.heap ds vs) :
    Rep C av ((s.heap.push o).push { cls := .type "list", data := .seq vs.toArray }) (.lst ds) (.ref (s.heap.push o).objs.size) := by
  simp only [Rep]
  refine ⟨_, vs, rfl, fun q => ?_, ⟨0, Heap.get?_push_size _ rfl⟩, r.keep (push_keep2 _ _)⟩
  cases e : s.heap.get? (s.heap.push o).objs.size with
  | none => exact a.there _ q e
  | some x => exact Nat.lt_irrefl _ (Nat.lt_trans (Nat.lt_succ_self _) (by have := Heap.lt_size e; rw [Heap.size_push] at this; omega))

theorem s_upto {value hi : PySem.Expr} {p : Pos} {x y : V} {u v : Value} (q : upto' x y Q) (a : AvOk C av s.heap) (x0 : St C s) (r1 : Rep C av s.heap x u) (r2 : Rep C av s.heap y v) :
    wpAny (model C.prog C.w) A (subscriptTail value (.Slice none (some hi) none p) u (.ref s.heap.objs.size)) (Post C av s Q) NoE
      { s with heap := s.heap.push { cls := .type "slice", data := .fields #[.none, v, .none] } } := by
  cases x <;> (first | exact False.elim q | skip) <;> cases y <;> (first | exact False.elim q | skip)
  rename_i xs i
  obtain ⟨l, vs, rfl, na, ⟨k, tt⟩, rl⟩ := r1
  obtain ⟨t', rfl⟩ := r2
  obtain ⟨⟨h0, h1, h2⟩, q⟩ := q
  have el := rl.length
  have tt' := keep_push s.heap { cls := .type "slice", data := .fields #[.none, .int i t', .none] } _ _ tt
  refine tail_any (T := "list") (s := { s with heap := _ }) ⟨_, tt', rfl⟩ slot_list_getitem.lookup (wpAny_getItem_list_slice (s := { s with heap := _ }) (vl := .none) (vu := .int i t') (vs := .none) (lo := none) (hi := some i) (st := none) ⟨_, tt', rfl, k, rfl⟩ ⟨_, Heap.get?_push_size _ rfl, rfl, rfl⟩ .none (.int i t') .none (by simp) ?_ ?_) rfl
  · rw [pick_upto h0]
    exact ⟨_, q, slice_rep a (rl.take _), x0.all (push_keep2 _ _) rfl rfl, Step.all (push_keep2 _ _)⟩
  · rw [List.size_toArray, el, sizeLine_eq]; exact h2

theorem s_from {value lo : PySem.Expr} {p : Pos} {x y : V} {u v : Value} (q : from'' x y Q) (a : AvOk C av s.heap) (x0 : St C s) (r1 : Rep C av s.heap x u) (r2 : Rep C av s.heap y v) :
    wpAny (model C.prog C.w) A (subscriptTail value (.Slice (some lo) none none p) u (.ref s.heap.objs.size)) (Post C av s Q) NoE
      { s with heap := s.heap.push { cls := .type "slice", data := .fields #[v, .none, .none] } } := by
  cases x <;> (first | exact False.elim q | skip) <;> cases y <;> (first | exact False.elim q | skip)
  rename_i xs i
  obtain ⟨l, vs, rfl, na, ⟨k, tt⟩, rl⟩ := r1
  obtain ⟨t', rfl⟩ := r2
  obtain ⟨⟨h0, h1, h2⟩, q⟩ := q
  have el := rl.length
  have tt' := keep_push s.heap { cls := .type "slice", data := .fields #[.int i t', .none, .none] } _ _ tt
  refine tail_any (T := "list") (s := { s with heap := _ }) ⟨_, tt', rfl⟩ slot_list_getitem.lookup (wpAny_getItem_list_slice (s := { s with heap := _ }) (vl := .int i t') (vu := .none) (vs := .none) (lo := some i) (hi := none) (st := none) ⟨_, tt', rfl, k, rfl⟩ ⟨_, Heap.get?_push_size _ rfl, rfl, rfl⟩ (.int i t') .none .none (by simp) ?_ ?_) rfl
  · rw [pick_from h0]
    exact ⟨_, q, slice_rep a (rl.drop _), x0.all (push_keep2 _ _) rfl rfl, Step.all (push_keep2 _ _)⟩
  · rw [List.size_toArray, el, sizeLine_eq]; exact h2

theorem text_cut {x : List Nat} {i j : Int} (h0 : 0 ≤ i) (h1 : i ≤ j) (h2 : i ≤ x.length) : Txt.slice (mkS x) (some i) (some j) = mkS ((x.take j.toNat).drop i.toNat) := by
  have key : ∀ j : Int, i ≤ j → j ≤ x.length → Txt.slice (mkS x) (some i) (some j) = mkS ((x.take j.toNat).drop i.toNat) := by
    intro j h1 h3
    have := eq_of_beq (slice_closes (x := mkS x) (i := i) (j := j) ⟨h0, h1, by simpa [mkS] using h3⟩)
    rw [this]
    simp only [mkS]
    rw [List.drop_take]
    congr 3
    omega
  by_cases h : j ≤ x.length
  · exact key j h1 h
  · have e : Txt.slice (mkS x) (some i) (some j) = Txt.slice (mkS x) (some i) (some (x.length : Int)) := by
      have hn : (mkS x).length = x.length := mkS_length x
      have : Builtin.Str.strSliceIndices (some i) (some j) 1 (mkS x).length = Builtin.Str.strSliceIndices (some i) (some (x.length : Int)) 1 (mkS x).length := by
        rw [hn]
        have a1 : ¬ j < 0 := by omega
        have a2 : ¬ (x.length : Int) < 0 := by omega
        have a3 : min j (x.length : Int) = x.length := by omega
        simp [Builtin.Str.strSliceIndices, a1, a2, a3]
      simp only [Txt.slice, this]
    rw [e, key _ h2 (Int.le_refl _)]
    congr 2
    rw [List.take_of_length_le (by omega), List.take_of_length_le (by omega)]

theorem s_cut {value lo hi : PySem.Expr} {p : Pos} {x y z : V} {u v w : Value} (q : cut' x y z Q) (x0 : St C s) (r1 : Rep C av s.heap x u) (r2 : Rep C av s.heap y v) (r3 : Rep C av s.heap z w) :
    wpAny (model C.prog C.w) A (subscriptTail value (.Slice (some lo) (some hi) none p) u (.ref s.heap.objs.size)) (Post C av s Q) NoE
      { s with heap := s.heap.push { cls := .type "slice", data := .fields #[v, w, .none] } } := by
  cases x <;> (first | exact False.elim q | skip) <;> cases y <;> (first | exact False.elim q | skip)
  cases z <;> (first | exact False.elim q | skip)
  rename_i xs i j
  obtain ⟨t1, rfl⟩ := r1
  obtain ⟨t2, rfl⟩ := r2
  obtain ⟨t3, rfl⟩ := r3
  obtain ⟨⟨h0, h1, h2, h3, h4⟩, q⟩ := q
  obtain ⟨T, id, hT, ht, hg⟩ := SBG.sliceItem_ss (prog := C.prog) (w := C.w) (A := A) (E := NoE) (Fm := fun s' => St C s' ∧ Step C s s') (s := s) (x := mkS xs) (t := t1) (i := i) (j := j) (ui := t2) (uj := t3) (Q := Post C av s Q)
    (fun s' o k h => ⟨h.1.all (keep_push _ _) rfl rfl, h.2.trans (Step.all (keep_push _ _))⟩) ⟨x0, Step.refl C s⟩
    (fun s' t' h => ⟨_, q, by rw [text_cut h0 h1 h2]; simp only [Rep]; exact ⟨_, rfl⟩, h.1, h.2⟩) (by rw [mkS_length, sizeLine_eq]; exact h4)
  exact tail_any ht hT hg rfl

theorem s_len {x : V} {u : Value} (q : lenOf x Q) (x0 : St C s) (r1 : Rep C av s.heap x u) : wpAny (model C.prog C.w) A (call (.builtin "len") [u]) (Post C av s Q) NoE s := by
  cases x <;> (first | exact False.elim q | skip)
  · rename_i x
    obtain ⟨t, rfl⟩ := r1
    have h : x.length ≤ 16777216 := q.1
    refine PySem.P.len_str ?_ ?_
    · rw [mkS_length]; omega
    · rw [mkS_length]; exact post_same x0 q.2 (by first | exact rfl | exact Exists.intro _ rfl | simp [Rep])
  · rename_i xs
    obtain ⟨a, vs, rfl, na, ⟨k, tt⟩, rl⟩ := r1
    have el := rl.length
    have h : xs.length ≤ 16777216 := q.1
    refine PySem.P.len_tuple (n := k) tt ?_ ?_
    · rw [List.size_toArray, el]; omega
    · rw [List.size_toArray, el]; exact post_same x0 q.2 (by first | exact rfl | exact Exists.intro _ rfl | simp [Rep])
  · rename_i xs
    obtain ⟨a, vs, rfl, na, tt, rl⟩ := r1
    have el := rl.length
    have h : xs.length ≤ 16777216 := q.1
    refine call_len_list tt.isList ?_ ?_
    · rw [List.size_toArray, el]; omega
    · rw [List.size_toArray, el]; exact post_same x0 q.2 (by first | exact rfl | exact Exists.intro _ rfl | simp [Rep])

theorem s_txt {x : V} {u : Value} (q : txtOf x Q) (x0 : St C s) (r1 : Rep C av s.heap x u) : wpAny (model C.prog C.w) A (call (.type "str") [u]) (Post C av s Q) NoE s := by
  cases x <;> (first | exact False.elim q | skip)
  rename_i i
  obtain ⟨t, rfl⟩ := r1
  obtain ⟨⟨h0, h1⟩, q⟩ := q
  refine PySem.P.str_of_int ?_ (post_same x0 q ?_)
  · have : i.natAbs < 2 ^ 10 := by omega
    have := Nat.log2_le_self i.natAbs
    omega
  · simp only [Rep, digits]
    exact ⟨_, by rw [← mkS_of]⟩

theorem join_eq' (sep : List Nat) : ∀ l : List (List Nat), Str.join (mkS sep) (l.map mkS) = mkS (joined sep l)
  | [] => rfl
  | [a] => rfl
  | a :: b :: r => by
    have ih := join_eq' sep (b :: r)
    show mkS a ++ mkS sep ++ Str.join (mkS sep) ((b :: r).map mkS) = _
    rw [ih, mkS_append, mkS_append]
    rfl
theorem join_eq (sep : List Nat) (l : List (List Nat)) : Txt.join (mkS sep) (l.map mkS) = mkS (joined sep l) := by
  show Builtin.Str.glued _ _ = _
  rw [StrLaws.glued_eq_join, join_eq']

theorem joined_length (sep : List Nat) : ∀ l : List (List Nat), (l.map List.length).sum + (l.length - 1) * sep.length = (joined sep l).length
  | [] => by simp [joined]
  | [a] => by simp [joined]
  | a :: b :: r => by
    have ih := joined_length sep (b :: r)
    simp only [joined, List.length_append, List.map_cons, List.sum_cons, List.length_cons] at ih ⊢
    rw [← ih]
    simp only [Nat.add_sub_cancel, Nat.succ_mul]
    omega

theorem s_join {sep : List Nat} {x : V} {u : Value} {t : Tok} (hsep : sep.length ≤ 8) (q : joinOf sep x Q) (x0 : St C s) (r1 : Rep C av s.heap x u) :
    wpAny (model C.prog C.w) A (call (.builtin "str.join") [.str (mkS sep) t, u]) (Post C av s Q) NoE s := by
  cases x <;> (first | exact False.elim q | skip)
  rename_i xs
  obtain ⟨a, vs, rfl, na, tt, rl⟩ := r1
  simp only [joinOf] at q
  split at q
  · rename_i l hl
    obtain ⟨h0, q⟩ := q
    refine join_list tt.isList (by simpa using strs_rep rl hl) ?_ fun t' k => ?_
    · have e := joined_length sep l
      have e2 : (List.map (fun x => Str.length x) (l.map mkS)).sum = (l.map List.length).sum := by
        simp [List.map_map, Function.comp_def, mkS_length]
      rw [e2, List.length_map, mkS_length]
      have hb : (joined sep l).length ≤ 16000000 := h0
      cases l with
      | nil => simp
      | cons z zs =>
        simp only [List.length_cons, Nat.add_sub_cancel] at e ⊢
        rw [Nat.succ_mul]
        omega
    · rw [join_eq]
      exact post_same x0 q (by first | exact rfl | exact Exists.intro _ rfl | simp [Rep])
  · cases q

theorem s_find {x y z : V} {u v w : Value} (q : findOf x y z Q) (x0 : St C s) (r1 : Rep C av s.heap x u) (r2 : Rep C av s.heap y v) (r3 : Rep C av s.heap z w) :
    wpAny (model C.prog C.w) A (call (.builtin "str.find") [u, v, w]) (Post C av s Q) NoE s := by
  cases x <;> (first | exact False.elim q | skip)
  cases y <;> (first | exact False.elim q | skip)
  rename_i xs cs
  cases cs with
  | nil => exact False.elim q
  | cons c cs =>
    cases cs with
    | cons => exact False.elim q
    | nil =>
      cases z <;> (first | exact False.elim q | skip)
      rename_i i
      obtain ⟨t1, rfl⟩ := r1
      obtain ⟨t2, rfl⟩ := r2
      obtain ⟨t3, rfl⟩ := r3
      obtain ⟨⟨h0, h1⟩, q⟩ := q
      refine SC.find3 (post_same x0 (q _ ?_) ⟨_, rfl⟩)
      have e : mkS [c] = { cps := #[c] } := rfl
      rw [e]
      have hf : fromIndex (mkS xs).length i = i.toNat := by
        rw [mkS_length]
        unfold fromIndex
        first
          | omega
          | (split <;> omega)
          | (simp; omega)
      have hg : ∀ v, v < xs.length → ((mkS xs).cps.getD v 0 = c ↔ xs[v]? = some c) := by
        intro v hv
        have : (mkS xs).cps.getD v 0 = xs[v] := by simp [mkS, hv]
        rw [this, List.getElem?_eq_getElem hv]
        simp
      rcases StrLaws.find3_spec (mkS xs) c i with ⟨h2, h3⟩ | ⟨k, h2, h3, h4, h5, h6⟩
      · rw [h2]
        refine .inl ⟨rfl, fun v hv hl he => ?_⟩
        rw [hf] at h3
        exact h3 v hv (by rw [mkS_length]; exact hl) ((hg v hl).mpr he)
      · rw [h2]
        rw [mkS_length] at h4
        rw [hf] at h3 h6
        exact .inr ⟨k, rfl, h3, (hg k h4).mp h5, fun v hv hl he => h6 v hv hl ((hg v (by omega)).mpr he)⟩

theorem alnum_ok : ∀ c < 128, Unicode.isAlnum c = alnumC c := by decide +kernel

theorem s_alnum {x : V} {u : Value} (q : alnumOf x Q) (x0 : St C s) (r1 : Rep C av s.heap x u) : wpAny (model C.prog C.w) A (call (.builtin "str.isalnum") [u]) (Post C av s Q) NoE s := by
  cases x <;> (first | exact False.elim q | skip)
  rename_i cs
  cases cs with
  | nil => exact False.elim q
  | cons c cs =>
    cases cs with
    | cons => exact False.elim q
    | nil =>
      obtain ⟨t1, rfl⟩ := r1
      obtain ⟨h0, q⟩ := q
      refine SC.isalnum ?_
      have e : Txt.isalnum (mkS [c]) = alnumC c := by
        rw [← alnum_ok c h0]
        simp [Txt.isalnum, mkS, Str.length]
      rw [e]
      exact post_here x0 q (by first | exact rfl | exact Exists.intro _ rfl | simp [Rep])
end

structure Cx.Ok (C : Cx) : Prop where
  g : C.h₀.Ns mainGlobals C.mg
  b : C.h₀.Ns builtinsNs C.mb
  fn : ∀ (f : Nat) (nm : Str), C.fns[f]? = some nm → ∃ a o fd, C.mg nm = some (.ref a) ∧ C.h₀.get? a = some o ∧ o.data = .func fd
  len : C.mg "len" = none ∧ C.mb "len" = some (.builtin "len")
  str : C.mg "str" = none ∧ C.mb "str" = some (.type "str")
  list : C.mg "list" = none ∧ C.mb "list" = some (.type "list")
  range : C.mg "range" = none ∧ C.mb "range" = some (.type "range")
  enum : C.mg "enumerate" = none ∧ C.mb "enumerate" = some (.type "enumerate")
  deck : ∀ a, C.D = some a → C.h₀.get? a = none

/-- a call of the function f with room n -/
noncomputable def Call (C : Cx) (n : Nat) (f : Nat) (args : List V) (Q : V → Prop) : Prop :=
  ∃ nm fv, C.fns[f]? = some nm ∧ C.mg nm = some fv ∧
  ∀ (A : Around) (s : Shared) (av : Addr → Prop) (vs : List Value), Room n A → St C s → AvOk C av s.heap → RepL C av s.heap args vs →
    codeAny (model C.prog C.w) A (.call fv ⟨vs, []⟩) (fun r s' => ∃ v, r = .ok (.ret v) ∧ Post C av s Q v s') s

noncomputable def Ev (C : Cx) (n : Nat) (names : List Str) (renv : Env) (ρ : List (Option V)) (e : PySem.Expr) (Q : V → Prop) : Prop :=
  ∀ (A : Around) (s : Shared) (av : Addr → Prop), Room n A → St C s → AvOk C av s.heap → EnvOk C names renv av s.heap ρ →
    wpAny (model C.prog C.w) A (eval e renv) (Post C av s Q) NoE s
noncomputable def EvL (C : Cx) (n : Nat) (names : List Str) (renv : Env) (ρ : List (Option V)) (es : List PySem.Expr) (Q : List V → Prop) : Prop :=
  ∀ (A : Around) (s : Shared) (av : Addr → Prop) (pos : Pos), Room n A → St C s → AvOk C av s.heap → EnvOk C names renv av s.heap ρ →
    wpAny (model C.prog C.w) A (spliced (backTo pos (starEach es renv))) (fun vs s' => vs.length = es.length ∧ PostL C av s Q vs s') NoE s
noncomputable def EvT (C : Cx) (n : Nat) (names : List Str) (renv : Env) (ρ : List (Option V)) (e : PySem.Expr) (Q : Bool → Prop) : Prop :=
  ∀ (A : Around) (s : Shared) (av : Addr → Prop), Room n A → St C s → AvOk C av s.heap → EnvOk C names renv av s.heap ρ →
    wpAny (model C.prog C.w) A (isTrue e renv (eval e renv)) (PostB C s Q) NoE s

theorem noE {s : Shared} {e : Value} {P : Value → Shared → Prop} (h : NoE e s) : P e s := h.elim
theorem Post.trans {C : Cx} {av : Addr → Prop} {s s₁ s₂ : Shared} {Q : V → Prop} {v : Value} (y : Step C s s₁) (p : Post C av s₁ Q v s₂) : Post C av s Q v s₂ :=
  let ⟨d, q, r, x, z⟩ := p; ⟨d, q, r, x, y.trans z⟩
theorem PostL.trans {C : Cx} {av : Addr → Prop} {s s₁ s₂ : Shared} {Q : List V → Prop} {v : List Value} (y : Step C s s₁) (p : PostL C av s₁ Q v s₂) : PostL C av s Q v s₂ :=
  let ⟨d, q, r, x, z⟩ := p; ⟨d, q, r, x, y.trans z⟩

section
variable {C : Cx} {av : Addr → Prop} {A : Around} {s : Shared} {n : Nat} {names : List Str} {renv : Env} {ρ : List (Option V)} {Q : V → Prop}

/-- one value, then more -/
theorem wp_then {e : PySem.Expr} {Q1 : V → Prop} {P : Value → Shared → Prop} (h : Ev C n names renv ρ e Q1) (rm : Room n A) (x : St C s) (a : AvOk C av s.heap) (ev : EnvOk C names renv av s.heap ρ)
    (k : ∀ v s₁ d, Q1 d → Rep C av s₁.heap d v → St C s₁ → Step C s s₁ → AvOk C av s₁.heap → EnvOk C names renv av s₁.heap ρ → P v s₁) :
    wpAny (model C.prog C.w) A (eval e renv) P NoE s :=
  wpAny_mono (h A s av rm x a ev) (fun v s₁ p => let ⟨d, q, r, x₁, y⟩ := p; k v s₁ d q r x₁ y (a.step y) (ev.step x a y)) (fun _ _ h => h)

theorem ev_none {k pos} (q : Q .none) : Ev C n names renv ρ (.Constant .none k pos) Q := fun _ _ _ _ x _ _ => wpAny_Constant_none (post_here x q (by first | exact rfl | exact Exists.intro _ rfl | simp [Rep]))
theorem ev_bool {b k pos} (q : Q (.bool b)) : Ev C n names renv ρ (.Constant (.bool b) k pos) Q := fun _ _ _ _ x _ _ => wpAny_Constant_bool (post_here x q (by first | exact rfl | exact Exists.intro _ rfl | simp [Rep]))
theorem ev_int {i k pos} (q : Q (.int i)) : Ev C n names renv ρ (.Constant (.int i) k pos) Q := fun _ _ _ _ x _ _ => wpAny_Constant_int (post_same x q (by first | exact rfl | exact Exists.intro _ rfl | simp [Rep]))
theorem ev_neg {i k p pos} (q : Q (.int (-i))) : Ev C n names renv ρ (.UnaryOp .USub (.Constant (.int i) k p) pos) Q := fun _ _ _ _ x _ _ =>
  wpAny_UnaryOp (wpAny_Constant_int (PySem.P.neg_int (post_same x q (by first | exact rfl | exact Exists.intro _ rfl | simp [Rep]))))
theorem ev_str {t k pos} (q : Q (.str t)) : Ev C n names renv ρ (.Constant (.str (mkS t)) k pos) Q := fun _ _ _ _ x _ _ => wpAny_Constant_str (post_same x q (by first | exact rfl | exact Exists.intro _ rfl | simp [Rep]))

theorem ld_bound {nm : Str} {v : Value} {P : Value → Shared → Prop} {E} (b : Bound renv s.heap nm v) (hk : renv.scope.kind = .function) (h : P v s) :
    wpAny (model C.prog C.w) A (loadName renv nm) P E s := by
  rcases b with ⟨k, m, hn, hm⟩ | ⟨k, c, hc, hv⟩
  · exact wpAny_loadName_local hk k hn hm h
  · exact wpAny_loadName_cell hk k hc hv h
theorem isVar_debug {kinds : Kinds} {nm : Str} (h : isVar kinds nm = true) : (nm == ("__debug__" : Str)) = false := by
  simp only [isVar, Bool.and_eq_true, bne_iff_ne] at h
  simpa using h.2
theorem isGlob_is {kinds : Kinds} {nm : Str} (h : isGlob kinds nm = true) : kinds.lookup nm = some .globalImplicit ∧ (nm == ("__debug__" : Str)) = false := by
  simp only [isGlob, Bool.and_eq_true, bne_iff_ne, beq_iff_eq] at h
  exact ⟨h.1, by simpa using h.2⟩

theorem ev_var {kinds : Kinds} {x : Nat} {nm : Str} {pos : Pos} {d : V} (hc : chkVar kinds names x nm = true) (hd : lk ρ x = some d) (q : Q d) : Ev C n names renv ρ (.Name nm pos) Q := fun A s av rm x0 a ev => by
  simp only [chkVar, Bool.and_eq_true, beq_iff_eq] at hc
  obtain ⟨nm', v, h1, h2, h3⟩ := ev.vars x d hd
  rw [hc.1] at h1
  cases h1
  exact wpAny_Name (ld_bound h2 ev.kind (post_here x0 q h3)) (isVar_debug hc.2)

theorem ld_glob {nm : Str} {v : Value} {P : Value → Shared → Prop} {pos : Pos} {E} (O : C.Ok) (x : St C s) (ev : EnvOk C names renv av s.heap ρ) (hk : renv.kindOf nm = some .globalImplicit) (hd : (nm == ("__debug__" : Str)) = false)
    (hv : C.mg nm = some v) (h : P v s) : wpAny (model C.prog C.w) A (eval (.Name nm pos) renv) P E s :=
  Name_function_global ev.kind hk (loadGlobal_global (mg := C.mg) (by rw [ev.glob]; exact O.g.keeps x.keep) hv h) hd
theorem ld_blt {nm : Str} {v : Value} {P : Value → Shared → Prop} {pos : Pos} {E} (O : C.Ok) (x : St C s) (ev : EnvOk C names renv av s.heap ρ) (hk : renv.kindOf nm = some .globalImplicit) (hd : (nm == ("__debug__" : Str)) = false)
    (hv : C.mg nm = none ∧ C.mb nm = some v) (h : P v s) : wpAny (model C.prog C.w) A (eval (.Name nm pos) renv) P E s :=
  Name_function_global ev.kind hk (loadGlobal_builtin (mg := C.mg) (mb := C.mb) (by rw [ev.glob]; exact O.g.keeps x.keep) hv.1 (by rw [ev.blt]; exact O.b.keeps x.keep) hv.2 h) hd

theorem ev_fn {f : Nat} {nm : Str} {pos : Pos} {kinds : Kinds} (O : C.Ok) (hk : renv.scope.names = kinds) (hf : C.fns[f]? = some nm) (hg : isGlob kinds nm = true) (q : Q (.fn f)) : Ev C n names renv ρ (.Name nm pos) Q := fun A s av rm x0 a ev => by
  obtain ⟨b, o, fd, hm, _⟩ := O.fn f nm hf
  refine ld_glob O x0 ev (by rw [Env.kindOf, hk]; exact (isGlob_is hg).1) (isGlob_is hg).2 hm (post_here x0 q ?_)
  simp only [Rep]
  exact ⟨nm, hf, hm⟩

theorem evL_nil {Q : List V → Prop} (q : Q []) : EvL C n names renv ρ [] Q := fun A s av pos rm x a ev => spliced_nil ⟨rfl, [], q, RepL.nil, x, Step.refl C s⟩
theorem starEach_cons {e : PySem.Expr} {es : List PySem.Expr} (h : notStarred e = true) : starEach (e :: es) renv = (false, eval e renv) :: starEach es renv := by
  cases e <;> first | rfl | exact Bool.noConfusion h
theorem evL_cons {e : PySem.Expr} {es : List PySem.Expr} {Q : List V → Prop} {wa : (V → Prop) → Prop} {wb : (List V → Prop) → Prop} (hs : notStarred e = true) (ia : ∀ Q, wa Q → Ev C n names renv ρ e Q) (ib : ∀ Q, wb Q → EvL C n names renv ρ es Q)
    (q : wa fun v => wb fun vs => Q (v :: vs)) : EvL C n names renv ρ (e :: es) Q := fun A s av pos rm x a ev => by
  rw [starEach_cons hs]
  refine spliced_cons (x := eval e renv) (wp_then (ia _ q) rm x a ev fun v s₁ d q₁ r₁ x₁ y₁ a₁ ev₁ => ?_)
  refine wpAny_mono (ib _ q₁ A s₁ av pos rm x₁ a₁ ev₁) (fun vs s₂ p => ?_) fun _ _ h => h
  obtain ⟨hl, ds, q₂, r₂, x₂, y₂⟩ := p
  exact ⟨by simp [hl], d :: ds, q₂, RepL.cons (r₁.step a₁ y₂) r₂, x₂, y₁.trans y₂⟩

theorem lim100 {n m : Nat} (h : n = m) (hz : m ≤ 100) : n ≤ sizeLine := by rw [sizeLine_eq]; omega
theorem ev_tup {es : List PySem.Expr} {k pos} (h : EvL C n names renv ρ es fun vs => Q (.tup vs)) (hz : es.length ≤ 100) : Ev C n names renv ρ (.Tuple es k pos) Q := fun A s av rm x a ev => by
  refine wpAny_Tuple_spliced (wpAny_mono (h A s av pos rm x a ev) (fun vs s₁ p => ?_) fun _ _ h => h)
  obtain ⟨hl, ds, q, r, x₁, y⟩ := p
  exact ⟨lim100 hl hz, (post_push x₁ q (rep_newTup (a.step y) r)).trans y⟩
theorem ev_lst {es : List PySem.Expr} {pos} (h : EvL C n names renv ρ es fun vs => Q (.lst vs)) (hz : es.length ≤ 100) : Ev C n names renv ρ (.List es pos) Q := fun A s av rm x a ev => by
  refine wpAny_List_spliced (wpAny_mono (h A s av pos rm x a ev) (fun vs s₁ p => ?_) fun _ _ h => h)
  obtain ⟨hl, ds, q, r, x₁, y⟩ := p
  exact ⟨lim100 hl hz, (post_push x₁ q (rep_newList (a.step y) r)).trans y⟩

theorem ev_bin {l r : PySem.Expr} {op : Op} {pos : Pos} {wa wb : (V → Prop) → Prop} (ia : ∀ Q, wa Q → Ev C n names renv ρ l Q) (ib : ∀ Q, wb Q → Ev C n names renv ρ r Q)
    (q : wa fun x => wb fun y => binop op x y Q) : Ev C n names renv ρ (.BinOp l (opOf op) r pos) Q := fun A s av rm x a ev =>
  wpAny_BinOp (wp_then (ia _ q) rm x a ev fun v s₁ d q₁ r₁ x₁ y₁ a₁ ev₁ => wp_then (ib _ q₁) rm x₁ a₁ ev₁ fun w s₂ d₂ q₂ r₂ x₂ y₂ a₂ ev₂ =>
    wpAny_mono (s_binop q₂ a₂ x₂ (r₁.step a₁ y₂) r₂) (fun _ _ p => p.trans (y₁.trans y₂)) fun _ _ h => h)

theorem noSet_marks {op : CmpOp} {r : PySem.Expr} (h : noSet r = true) : behindInMarks op r = false := by
  cases r <;> first | rfl | exact Bool.noConfusion h
theorem ev_cmp {l r : PySem.Expr} {op : Cm} {pos : Pos} {wa wb : (V → Prop) → Prop} (ia : ∀ Q, wa Q → Ev C n names renv ρ l Q) (ib : ∀ Q, wb Q → Ev C n names renv ρ r Q)
    (q : wa fun x => wb fun y => cmpop op x y Q) (hr : noSet r = true) : Ev C n names renv ρ (.Compare l [cmOf op] [r] pos) Q := fun A s av rm x a ev =>
  wpAny_Compare1 (wp_then (ia _ q) rm x a ev fun v s₁ d q₁ r₁ x₁ y₁ a₁ ev₁ => wp_then (ib _ q₁) rm x₁ a₁ ev₁ fun w s₂ d₂ q₂ r₂ x₂ y₂ a₂ ev₂ =>
    wpAny_mono (s_cmp q₂ rm x₂ (r₁.step a₁ y₂) r₂) (fun _ _ p => p.trans (y₁.trans y₂)) fun _ _ h => h) (noSet_marks hr)

theorem truth_post {v : Value} {d : V} {Q : Bool → Prop} {s₁ : Shared} (q : truth d Q) (r : Rep C av s₁.heap d v) (x : St C s₁) (y : Step C s s₁) : wpAny (model C.prog C.w) A (truthy v) (PostB C s Q) NoE s₁ := by
  cases d <;> (first | exact False.elim q | skip)
  · obtain rfl := r
    exact wpAny_truthy_bool ⟨q, x, y⟩
  · rename_i t
    obtain ⟨tk, rfl⟩ := r
    have hl : t.length ≤ 16777216 := q.1
    refine PySem.P.truthy_str (by rw [mkS_length]; omega) ⟨?_, x.all (fun _ _ h => h) rfl rfl, y.trans (Step.all fun _ _ h => h)⟩
    have e : (((mkS t).length : Int) != 0) = !t.isEmpty := by
      rw [mkS_length]
      cases t <;> simp
      omega
    rw [e]; exact q.2

theorem evT_cmp {l r : PySem.Expr} {op : Cm} {pos : Pos} {Q : Bool → Prop} {wa wb : (V → Prop) → Prop} (ia : ∀ Q, wa Q → Ev C n names renv ρ l Q) (ib : ∀ Q, wb Q → Ev C n names renv ρ r Q)
    (q : wa fun x => wb fun y => cmpop op x y fun v => truth v Q) (hr : noSet r = true) : EvT C n names renv ρ (.Compare l [cmOf op] [r] pos) Q := fun A s av rm x a ev =>
  wpAny_isTrue_Compare1 (wp_then (ia _ q) rm x a ev fun v s₁ d q₁ r₁ x₁ y₁ a₁ ev₁ => wp_then (ib _ q₁) rm x₁ a₁ ev₁ fun w s₂ d₂ q₂ r₂ x₂ y₂ a₂ ev₂ =>
    wpAny_mono (s_cmp q₂ rm x₂ (r₁.step a₁ y₂) r₂) (fun v s₃ p => let ⟨d, q, r, x₃, y₃⟩ := p; truth_post q r x₃ ((y₁.trans y₂).trans y₃)) fun _ _ h => h) (noSet_marks hr)

noncomputable def plainTest (x : PySem.Expr) : Bool := (!tq 6 x && !tq 7 x) && (!tq 11 x && !tq 14 x)
theorem evT_val {e : PySem.Expr} {Q : Bool → Prop} (h : Ev C n names renv ρ e fun v => truth v Q) (hp : plainTest e = true) : EvT C n names renv ρ e Q := fun A s av rm x a ev => by
  refine wpAny_isTrue_value (wpAny_mono (h A s av rm x a ev) (fun v s₁ p => let ⟨d, q, r, x₁, y⟩ := p; truth_post q r x₁ y) fun _ _ h => h) ?_
  cases e <;> first | rfl | exact Bool.noConfusion hp

theorem evT_and {l r : PySem.Expr} {pos : Pos} {Q : Bool → Prop} {wa wb : (Bool → Prop) → Prop} (ia : ∀ Q, wa Q → EvT C n names renv ρ l Q) (ib : ∀ Q, wb Q → EvT C n names renv ρ r Q)
    (q : wa fun c => ifb 0 c (wb Q) (Q false)) : EvT C n names renv ρ (.BoolOp .And [l, r] pos) Q := fun A s av rm x a ev => by
  rw [ifb_fn] at q
  refine wpAny_isTrue_BoolOp (wpAny_allTrue_And_cons (wpAny_mono (ia _ q A s av rm x a ev) (fun c s₁ p => ?_) fun _ _ h => h))
  obtain ⟨q₁, x₁, y₁⟩ := p
  cases c with
  | false => exact ⟨q₁, x₁, y₁⟩
  | true =>
    simp only [if_true] at q₁ ⊢
    refine wpAny_allTrue_And_cons (wpAny_mono (ib _ q₁ A s₁ av rm x₁ (a.step y₁) (ev.step x a y₁)) (fun c s₂ p => ?_) fun _ _ h => h)
    obtain ⟨q₂, x₂, y₂⟩ := p
    cases c with
    | false => exact ⟨q₂, x₂, y₁.trans y₂⟩
    | true => exact wpAny_allTrue_And_nil ⟨q₂, x₂, y₁.trans y₂⟩
theorem evT_or {l r : PySem.Expr} {pos : Pos} {Q : Bool → Prop} {wa wb : (Bool → Prop) → Prop} (ia : ∀ Q, wa Q → EvT C n names renv ρ l Q) (ib : ∀ Q, wb Q → EvT C n names renv ρ r Q)
    (q : wa fun c => ifb 0 c (Q true) (wb Q)) : EvT C n names renv ρ (.BoolOp .Or [l, r] pos) Q := fun A s av rm x a ev => by
  rw [ifb_fn] at q
  refine wpAny_isTrue_BoolOp (wpAny_allTrue_Or_cons (wpAny_mono (ia _ q A s av rm x a ev) (fun c s₁ p => ?_) fun _ _ h => h))
  obtain ⟨q₁, x₁, y₁⟩ := p
  cases c with
  | true => exact ⟨q₁, x₁, y₁⟩
  | false =>
    simp only [Bool.false_eq_true, if_false] at q₁ ⊢
    refine wpAny_allTrue_Or_cons (wpAny_mono (ib _ q₁ A s₁ av rm x₁ (a.step y₁) (ev.step x a y₁)) (fun c s₂ p => ?_) fun _ _ h => h)
    obtain ⟨q₂, x₂, y₂⟩ := p
    cases c with
    | true => exact ⟨q₂, x₂, y₁.trans y₂⟩
    | false => exact wpAny_allTrue_Or_nil ⟨q₂, x₂, y₁.trans y₂⟩

theorem ev_ite {t l r : PySem.Expr} {pos : Pos} {wt : (Bool → Prop) → Prop} {wa wb : Prop} (it : ∀ Q, wt Q → EvT C n names renv ρ t Q) (ia : wa → Ev C n names renv ρ l Q) (ib : wb → Ev C n names renv ρ r Q)
    (q : wt fun c => ifb 0 c wa wb) : Ev C n names renv ρ (.IfExp t l r pos) Q := fun A s av rm x a ev => by
  rw [ifb_fn] at q
  refine wpAny_IfExp (wpAny_mono (it _ q A s av rm x a ev) (fun c s₁ p => ?_) fun _ _ h => h)
  obtain ⟨q₁, x₁, y₁⟩ := p
  cases c with
  | true =>
    simp only [if_true] at q₁ ⊢
    exact wpAny_mono (ia q₁ A s₁ av rm x₁ (a.step y₁) (ev.step x a y₁)) (fun _ _ p => p.trans y₁) fun _ _ h => h
  | false =>
    simp only [Bool.false_eq_true, if_false] at q₁ ⊢
    exact wpAny_mono (ib q₁ A s₁ av rm x₁ (a.step y₁) (ev.step x a y₁)) (fun _ _ p => p.trans y₁) fun _ _ h => h

theorem noSlice_sub {e : PySem.Expr} (h : noSlice e = true) : ∀ o i, subscripted e false o i = operate [o, i] (getItem o i) := by
  intro o i
  cases e <;> first | rfl | exact Bool.noConfusion h
theorem ev_sub {l r : PySem.Expr} {pos : Pos} {wa wb : (V → Prop) → Prop} (ia : ∀ Q, wa Q → Ev C n names renv ρ l Q) (ib : ∀ Q, wb Q → Ev C n names renv ρ r Q) (hr : noSlice r = true)
    (q : wa fun x => wb fun y => idx x y Q) : Ev C n names renv ρ (.Subscript l r pos) Q := fun A s av rm x a ev =>
  Subscript_ (wp_then (ia _ q) rm x a ev fun v s₁ d q₁ r₁ x₁ y₁ a₁ ev₁ => wp_then (ib _ q₁) rm x₁ a₁ ev₁ fun w s₂ d₂ q₂ r₂ x₂ y₂ a₂ ev₂ =>
    wpAny_mono (s_idx (noSlice_sub hr) q₂ x₂ (r₁.step a₁ y₂) r₂) (fun _ _ p => p.trans (y₁.trans y₂)) fun _ _ h => h)

theorem ev_upto {l r : PySem.Expr} {p pos : Pos} {wa wb : (V → Prop) → Prop} (ia : ∀ Q, wa Q → Ev C n names renv ρ l Q) (ib : ∀ Q, wb Q → Ev C n names renv ρ r Q)
    (q : wa fun x => wb fun y => upto' x y Q) : Ev C n names renv ρ (.Subscript l (.Slice none (some r) none p) pos) Q := fun A s av rm x a ev =>
  Subscript_ (wp_then (ia _ q) rm x a ev fun v s₁ d q₁ r₁ x₁ y₁ a₁ ev₁ => wpAny_Slice (wpAny_evalPart_none (wpAny_evalPart_some (wp_then (ib _ q₁) rm x₁ a₁ ev₁ fun w s₂ d₂ q₂ r₂ x₂ y₂ a₂ ev₂ => wpAny_evalPart_none
    (wpAny_mono (s_upto q₂ a₂ x₂ (r₁.step a₁ y₂) r₂) (fun _ _ p => p.trans (y₁.trans y₂)) fun _ _ h => h)))))
theorem ev_from {l r : PySem.Expr} {p pos : Pos} {wa wb : (V → Prop) → Prop} (ia : ∀ Q, wa Q → Ev C n names renv ρ l Q) (ib : ∀ Q, wb Q → Ev C n names renv ρ r Q)
    (q : wa fun x => wb fun y => from'' x y Q) : Ev C n names renv ρ (.Subscript l (.Slice (some r) none none p) pos) Q := fun A s av rm x a ev =>
  Subscript_ (wp_then (ia _ q) rm x a ev fun v s₁ d q₁ r₁ x₁ y₁ a₁ ev₁ => wpAny_Slice (wpAny_evalPart_some (wp_then (ib _ q₁) rm x₁ a₁ ev₁ fun w s₂ d₂ q₂ r₂ x₂ y₂ a₂ ev₂ => wpAny_evalPart_none (wpAny_evalPart_none
    (wpAny_mono (s_from q₂ a₂ x₂ (r₁.step a₁ y₂) r₂) (fun _ _ p => p.trans (y₁.trans y₂)) fun _ _ h => h)))))
theorem ev_cut {l r t : PySem.Expr} {p pos : Pos} {wa wb wc : (V → Prop) → Prop} (ia : ∀ Q, wa Q → Ev C n names renv ρ l Q) (ib : ∀ Q, wb Q → Ev C n names renv ρ r Q) (ic : ∀ Q, wc Q → Ev C n names renv ρ t Q)
    (q : wa fun x => wb fun y => wc fun z => cut' x y z Q) : Ev C n names renv ρ (.Subscript l (.Slice (some r) (some t) none p) pos) Q := fun A s av rm x a ev =>
  Subscript_ (wp_then (ia _ q) rm x a ev fun v s₁ d q₁ r₁ x₁ y₁ a₁ ev₁ => wpAny_Slice (wpAny_evalPart_some (wp_then (ib _ q₁) rm x₁ a₁ ev₁ fun w s₂ d₂ q₂ r₂ x₂ y₂ a₂ ev₂ =>
    wpAny_evalPart_some (wp_then (ic _ q₂) rm x₂ a₂ ev₂ fun w' s₃ d₃ q₃ r₃ x₃ y₃ a₃ ev₃ => wpAny_evalPart_none
    (wpAny_mono (s_cut q₃ x₃ ((r₁.step a₁ y₂).step a₂ y₃) (r₂.step a₂ y₃) r₃) (fun _ _ p => p.trans ((y₁.trans y₂).trans y₃)) fun _ _ h => h)))))

/-- arguments -/
theorem args_of {f : Value} {es : List PySem.Expr} {Q : List V → Prop} {pos : Pos} {P : Args → Shared → Prop} (h : EvL C n names renv ρ es Q) (rm : Room n A) (x : St C s) (a : AvOk C av s.heap) (ev : EnvOk C names renv av s.heap ρ)
    (k : ∀ vs s₁ ds, Q ds → RepL C av s₁.heap ds vs → St C s₁ → Step C s s₁ → AvOk C av s₁.heap → EnvOk C names renv av s₁.heap ρ → P ⟨vs, []⟩ s₁) (hs : es.all notStarred = true) :
    wpAny (model C.prog C.w) A (evalArgs f true (backTo pos (starEach es renv)) []) P NoE s := by
  cases es with
  | nil =>
    have := h A s av pos rm x a ev
    have h2 : wpAny (model C.prog C.w) A (spliced []) (fun vs s₁ => P ⟨vs, []⟩ s₁) NoE s := wpAny_mono this (fun vs s₁ p => let ⟨_, ds, q, r, x₁, y⟩ := p; k vs s₁ ds q r x₁ y (a.step y) (ev.step x a y)) fun _ _ h => h
    exact fun Γ p hΓ => PySem.evalArgs_none (h2 Γ p hΓ) Γ p hΓ
  | cons e es =>
    have he : notStarred e = true := by simp at hs; exact hs.1
    have := h A s av pos rm x a ev
    rw [starEach_cons he] at this ⊢
    exact evalArgs_plain (wpAny_mono this (fun vs s₁ p => let ⟨_, ds, q, r, x₁, y⟩ := p; k vs s₁ ds q r x₁ y (a.step y) (ev.step x a y)) fun _ _ h => h)

theorem noStar_any {es : List PySem.Expr} {pos : Pos} (hs : es.all notStarred = true) : (backTo pos (starEach es renv)).any (fun x => x.1) = false := by
  induction es with
  | nil => rfl
  | cons e es ih =>
    simp only [List.all_cons, Bool.and_eq_true] at hs
    rw [starEach_cons hs.1]
    show (false || (backTo pos (starEach es renv)).any _) = false
    rw [ih hs.2]; rfl

/-- a call of a def of the text by a value -/
theorem call_fn {f : Nat} {fv : Value} {es : List PySem.Expr} {pos : Pos} {wb : (List V → Prop) → Prop} (O : C.Ok) (ib : ∀ Q, wb Q → EvL C n names renv ρ es Q) (hs : es.all notStarred = true)
    (rm : Room n A) (x : St C s) (a : AvOk C av s.heap) (ev : EnvOk C names renv av s.heap ρ) (hf : Rep C av s.heap (.fn f) fv)
    (q : wb fun vs => Call C n f vs Q) : wpAny (model C.prog C.w) A (callWith pos fv [] (backTo pos (starEach es renv)) []) (Post C av s Q) NoE s := by
  obtain ⟨nm, h1, h2⟩ := hf
  obtain ⟨b, o, fd, h3, h4, h5⟩ := O.fn f nm h1
  rw [h2] at h3
  cases h3
  refine callWith_function (o := o) (fd := fd) (args_of (ib _ q) rm x a ev (fun vs s₁ ds q₁ r₁ x₁ y₁ a₁ ev₁ => ⟨⟨x₁.keep _ _ h4, h5⟩, wpAny_call ?_⟩) hs)
  obtain ⟨nm', fv', e1, e2, hc⟩ := q₁
  rw [h1] at e1
  cases e1
  rw [h2] at e2
  cases e2
  refine codeAny_mono (hc A s₁ av vs rm x₁ a₁ r₁) fun r s₂ p => ?_
  obtain ⟨v, rfl, p⟩ := p
  exact p.trans y₁

theorem ev_call {f : Nat} {nm : Str} {p pos : Pos} {kinds : Kinds} {es : List PySem.Expr} {wb : (List V → Prop) → Prop} (O : C.Ok) (hk : renv.scope.names = kinds) (hf : C.fns[f]? = some nm) (hg : isGlob kinds nm = true)
    (ib : ∀ Q, wb Q → EvL C n names renv ρ es Q) (hs : es.all notStarred = true) (q : wb fun vs => Call C n f vs Q) : Ev C n names renv ρ (.Call (.Name nm p) es [] pos) Q := fun A s av rm x a ev =>
  wpAny_Call_NameR (wp_then (Q1 := fun d => d = .fn f) (ev_fn O hk hf hg rfl) rm x a ev fun v s₁ d q₁ r₁ x₁ y₁ a₁ ev₁ => by
    subst q₁
    exact wpAny_mono (call_fn O ib hs rm x₁ a₁ ev₁ r₁ q) (fun _ _ p => p.trans y₁) fun _ _ h => h)

theorem eval_Call_sub (a b : PySem.Expr) (p pos : Pos) (es : List PySem.Expr) : eval (.Call (.Subscript a b p) es [] pos) renv = (do
    callWith pos (← eval (.Subscript a b p) renv) [] (backTo pos (starEach es renv)) []) := rfl
theorem ev_callv {l r : PySem.Expr} {p pos : Pos} {es : List PySem.Expr} {wa : (V → Prop) → Prop} {wb : (List V → Prop) → Prop} (O : C.Ok) (ia : ∀ Q, wa Q → Ev C n names renv ρ (.Subscript l r p) Q)
    (ib : ∀ Q, wb Q → EvL C n names renv ρ es Q) (hs : es.all notStarred = true) (q : wa fun v => match v with | .fn f => wb fun vs => Call C n f vs Q | _ => False) :
    Ev C n names renv ρ (.Call (.Subscript l r p) es [] pos) Q := fun A s av rm x a ev => by
  rw [eval_Call_sub]
  refine wpAny_bind (wp_then (ia _ q) rm x a ev fun v s₁ d q₁ r₁ x₁ y₁ a₁ ev₁ => ?_)
  cases d <;> (first | exact False.elim q₁ | skip)
  exact wpAny_mono (call_fn O ib hs rm x₁ a₁ ev₁ r₁ q₁) (fun _ _ p => p.trans y₁) fun _ _ h => h

theorem ev_len {e : PySem.Expr} {p pos : Pos} {kinds : Kinds} {wa : (V → Prop) → Prop} (O : C.Ok) (hk : renv.scope.names = kinds) (hg : isGlob kinds "len" = true) (hs : notStarred e = true)
    (ia : ∀ Q, wa Q → Ev C n names renv ρ e Q) (q : wa fun v => lenOf v Q) : Ev C n names renv ρ (.Call (.Name "len" p) [e] [] pos) Q := fun A s av rm x a ev =>
  wpAny_Call_NameR (ld_blt O x ev (by rw [Env.kindOf, hk]; exact (isGlob_is hg).1) (isGlob_is hg).2 O.len (callWith_builtin (by rw [starEach_cons hs]; rfl) (by
    rw [starEach_cons hs]
    exact evalArgs_plain (spliced_cons (x := eval e renv) (wp_then (ia _ q) rm x a ev fun v s₁ d q₁ r₁ x₁ y₁ a₁ ev₁ => spliced_nil (wpAny_mono (s_len q₁ x₁ r₁) (fun _ _ p => p.trans y₁) fun _ _ h => h))))))
theorem ev_txt {e : PySem.Expr} {p pos : Pos} {kinds : Kinds} {wa : (V → Prop) → Prop} (O : C.Ok) (hk : renv.scope.names = kinds) (hg : isGlob kinds "str" = true) (hs : notStarred e = true)
    (ia : ∀ Q, wa Q → Ev C n names renv ρ e Q) (q : wa fun v => txtOf v Q) : Ev C n names renv ρ (.Call (.Name "str" p) [e] [] pos) Q := fun A s av rm x a ev =>
  wpAny_Call_NameR (ld_blt O x ev (by rw [Env.kindOf, hk]; exact (isGlob_is hg).1) (isGlob_is hg).2 O.str (PySem.callWith_type (by rw [starEach_cons hs]; rfl) (by
    rw [starEach_cons hs]
    exact evalArgs_plain (spliced_cons (x := eval e renv) (wp_then (ia _ q) rm x a ev fun v s₁ d q₁ r₁ x₁ y₁ a₁ ev₁ => spliced_nil (wpAny_mono (s_txt q₁ x₁ r₁) (fun _ _ p => p.trans y₁) fun _ _ h => h))))))

theorem base_of {o : PySem.Expr} {m : Str} (h : noCall o = true) : attributeBase o m renv (eval o renv) = eval o renv := by
  cases o <;> first | rfl | exact Bool.noConfusion h

theorem ev_join {sep : List Nat} {e : PySem.Expr} {k : Nat} {p0 p pos : Pos} {wa : (V → Prop) → Prop} (hl : (p.endLine == pos.line) = true) (hs : notStarred e = true) (hsep : sep.length ≤ 8)
    (ia : ∀ Q, wa Q → Ev C n names renv ρ e Q) (q : wa fun v => joinOf sep v Q) : Ev C n names renv ρ (.Call (.Attribute (.Constant (.str (mkS sep)) k p0) "join" p) [e] [] pos) Q := fun A s av rm x a ev => by
  refine wpAny_Call_method (T := "str") (id := "str.join") rfl (by rw [starEach_cons hs]; rfl) hl F.plainAttrs_str F.slot_str_join F.type_str_join (wpAny_Constant_str ⟨typeIs_str _ _ _, (fun _ h => nomatch h), ?_⟩)
  refine callWith_builtin (by rw [starEach_cons hs]; rfl) ?_
  rw [starEach_cons hs]
  have x' : St C { s with toks := s.toks + 1 } := x.all (fun _ _ h => h) rfl rfl
  have y' : Step C s { s with toks := s.toks + 1 } := Step.all fun _ _ h => h
  exact evalArgs_plain (spliced_cons (x := eval e renv) (wp_then (ia _ q) rm x' (a.step y') (ev.step x a y') fun v s₁ d q₁ r₁ x₁ y₁ a₁ ev₁ => spliced_nil (wpAny_mono (s_join hsep q₁ x₁ r₁) (fun _ _ p => p.trans (y'.trans y₁)) fun _ _ h => h)))

theorem str_of_find {x y z : V} (h : findOf x y z Q) : ∃ t, x = .str t := by
  cases x <;> (first | exact False.elim h | exact ⟨_, rfl⟩)
theorem str_of_alnum {x : V} (h : alnumOf x Q) : ∃ t, x = .str t := by
  cases x <;> (first | exact False.elim h | exact ⟨_, rfl⟩)

theorem ev_alnum {o : PySem.Expr} {p pos : Pos} {wa : (V → Prop) → Prop} (hl : (p.endLine == pos.line) = true) (ho : noCall o = true)
    (ia : ∀ Q, wa Q → Ev C n names renv ρ o Q) (q : wa fun v => alnumOf v Q) : Ev C n names renv ρ (.Call (.Attribute o "isalnum" p) [] [] pos) Q := fun A s av rm x a ev => by
  refine wpAny_Call_method (T := "str") (id := "str.isalnum") (base_of ho) rfl hl F.plainAttrs_str F.slot_str_isalnum F.type_str_isalnum (wp_then (ia _ q) rm x a ev fun v s₁ d q₁ r₁ x₁ y₁ a₁ ev₁ => ?_)
  obtain ⟨t, rfl⟩ := str_of_alnum q₁
  have r := r₁
  obtain ⟨tk, rfl⟩ := r
  exact ⟨typeIs_str _ _ _, (fun _ h => nomatch h), callWith_builtin rfl (PySem.evalArgs_none (wpAny_mono (s_alnum q₁ x₁ r₁) (fun _ _ p => p.trans y₁) fun _ _ h => h))⟩

theorem backTo_two {e e' : PySem.Expr} {pos : Pos} (hs : notStarred e = true) (hs' : notStarred e' = true) : backTo pos (starEach [e, e'] renv) = [(false, eval e renv), (false, eval e' renv)] := by
  rw [starEach_cons hs, starEach_cons hs']; rfl
theorem backTo_one {e : PySem.Expr} {pos : Pos} (hs : notStarred e = true) : backTo pos (starEach [e] renv) = [(false, eval e renv)] := by
  rw [starEach_cons hs]; rfl

theorem ev_find {o e e' : PySem.Expr} {p pos : Pos} {wa wb wc : (V → Prop) → Prop} (hl : (p.endLine == pos.line) = true) (ho : noCall o = true) (hs : notStarred e = true) (hs' : notStarred e' = true)
    (ia : ∀ Q, wa Q → Ev C n names renv ρ o Q) (ib : ∀ Q, wb Q → Ev C n names renv ρ e Q) (ic : ∀ Q, wc Q → Ev C n names renv ρ e' Q)
    (q : wa fun v => isStr v ∧ wb fun x => wc fun y => findOf v x y Q) : Ev C n names renv ρ (.Call (.Attribute o "find" p) [e, e'] [] pos) Q := fun A s av rm x a ev => by
  refine wpAny_Call_method (T := "str") (id := "str.find") (base_of ho) (by rw [backTo_two hs hs']; rfl) hl F.plainAttrs_str F.slot_str_find F.type_str_find (wp_then (ia _ q) rm x a ev fun v s₁ d q₁ r₁ x₁ y₁ a₁ ev₁ => ?_)
  obtain ⟨h0, q₁⟩ := q₁
  cases d <;> (first | exact False.elim h0 | skip)
  rename_i t
  have r := r₁
  obtain ⟨tk, rfl⟩ := r
  refine ⟨typeIs_str _ _ _, (fun _ h => nomatch h), ?_⟩
  rw [backTo_two hs hs']
  refine callWith_builtin rfl (evalArgs_plain (spliced_cons (x := eval e renv) (wp_then (ib _ q₁) rm x₁ a₁ ev₁ fun w s₂ d₂ q₂ r₂ x₂ y₂ a₂ ev₂ => spliced_cons (x := eval e' renv) (wp_then (ic _ q₂) rm x₂ a₂ ev₂ fun w' s₃ d₃ q₃ r₃ x₃ y₃ a₃ ev₃ => spliced_nil ?_))))
  exact wpAny_mono (s_find q₃ x₃ ((r₁.step a₁ y₂).step a₂ y₃) (r₂.step a₂ y₃) r₃) (fun _ _ p => p.trans ((y₁.trans y₂).trans y₃)) fun _ _ h => h

theorem getD_rep {ks : List (List Nat)} {ds : List V} {rv : List Value} {h : Heap} {x : List Nat} {d : V} {v : Value} (rl : RepL C av h ds rv) (hl : ks.length = ds.length) (rd : Rep C av h d v) :
    Rep C av h ((dlook ks ds x).getD d) ((valueAt ((ks.map mkS).zip rv) (mkS x)).getD v) := by
  have z := valueAt_zip (x := x) rl hl
  split at z
  · rename_i d' hd
    obtain ⟨w, hw, rw'⟩ := z
    rw [hd, hw]; exact rw'
  · rename_i hd
    rw [hd, z]; exact rd

theorem ev_get1 {o e : PySem.Expr} {p pos : Pos} {wa wb : (V → Prop) → Prop} (hl : (p.endLine == pos.line) = true) (ho : noCall o = true) (hs : notStarred e = true)
    (ia : ∀ Q, wa Q → Ev C n names renv ρ o Q) (ib : ∀ Q, wb Q → Ev C n names renv ρ e Q)
    (q : wa fun v => isDict v ∧ wb fun x => get1Of v x Q) : Ev C n names renv ρ (.Call (.Attribute o "get" p) [e] [] pos) Q := fun A s av rm x a ev => by
  refine wpAny_Call_method (T := "dict") (id := "dict.get") (base_of ho) (by rw [backTo_one hs]; rfl) hl F.plainAttrs_dict F.slot_dict_get F.type_dict_get (wp_then (ia _ q) rm x a ev fun v s₁ d q₁ r₁ x₁ y₁ a₁ ev₁ => ?_)
  obtain ⟨h0, q₁⟩ := q₁
  cases d <;> (first | exact False.elim h0 | skip)
  rename_i ks ds
  have r := r₁
  obtain ⟨b, rv, rfl, na, hd, hlen, rl⟩ := r
  refine ⟨hd.mapOf.typeIs, hd.mapOf.noDict, ?_⟩
  rw [backTo_one hs]
  refine wpAny_dict_get1 (knd := strKind C.prog C.w) na.2 (wp_then (ib _ q₁) rm x₁ a₁ ev₁ fun w s₂ d₂ q₂ r₂ x₂ y₂ a₂ ev₂ => ?_)
  cases d₂ <;> (first | exact False.elim q₂ | skip)
  rename_i k
  obtain ⟨tk, rfl⟩ := r₂
  have r' := r₁.step a₁ y₂
  obtain ⟨b', rv', e1, na', hd', hlen', rl'⟩ := r'
  cases e1
  exact ⟨mkS k, _, strKind_is C.prog C.w (mkS k) tk, hd'.mapOf, (post_same x₂ q₂ (getD_rep rl' hlen' (by first | exact rfl | exact Exists.intro _ rfl | simp [Rep]))).trans (y₁.trans y₂)⟩

theorem ev_get2 {o e e' : PySem.Expr} {p pos : Pos} {wa wb wc : (V → Prop) → Prop} (hl : (p.endLine == pos.line) = true) (ho : noCall o = true) (hs : notStarred e = true) (hs' : notStarred e' = true)
    (ia : ∀ Q, wa Q → Ev C n names renv ρ o Q) (ib : ∀ Q, wb Q → Ev C n names renv ρ e Q) (ic : ∀ Q, wc Q → Ev C n names renv ρ e' Q)
    (q : wa fun v => isDict v ∧ wb fun x => wc fun y => get2Of v x y Q) : Ev C n names renv ρ (.Call (.Attribute o "get" p) [e, e'] [] pos) Q := fun A s av rm x a ev => by
  refine wpAny_Call_method (T := "dict") (id := "dict.get") (base_of ho) (by rw [backTo_two hs hs']; rfl) hl F.plainAttrs_dict F.slot_dict_get F.type_dict_get (wp_then (ia _ q) rm x a ev fun v s₁ d q₁ r₁ x₁ y₁ a₁ ev₁ => ?_)
  obtain ⟨h0, q₁⟩ := q₁
  cases d <;> (first | exact False.elim h0 | skip)
  rename_i ks ds
  have r := r₁
  obtain ⟨b, rv, rfl, na, hd, hlen, rl⟩ := r
  refine ⟨hd.mapOf.typeIs, hd.mapOf.noDict, ?_⟩
  rw [backTo_two hs hs']
  refine wpAny_dict_get2 (knd := strKind C.prog C.w) na.2 (wp_then (ib _ q₁) rm x₁ a₁ ev₁ fun w s₂ d₂ q₂ r₂ x₂ y₂ a₂ ev₂ => wp_then (ic _ q₂) rm x₂ a₂ ev₂ fun w' s₃ d₃ q₃ r₃ x₃ y₃ a₃ ev₃ => ?_)
  cases d₂ <;> (first | exact False.elim q₃ | skip)
  rename_i k
  obtain ⟨tk, rfl⟩ := r₂
  have r' := (r₁.step a₁ y₂).step a₂ y₃
  obtain ⟨b', rv', e1, na', hd', hlen', rl'⟩ := r'
  cases e1
  exact ⟨mkS k, _, strKind_is C.prog C.w (mkS k) tk, hd'.mapOf, (post_same x₃ q₃ (getD_rep rl' hlen' r₃)).trans ((y₁.trans y₂).trans y₃)⟩
end

section
variable {C : Cx} {av : Addr → Prop} {A : Around} {s : Shared} {n : Nat} {names : List Str} {renv : Env} {ρ : List (Option V)} {Q : V → Prop}

theorem some_keep {h h' : Heap} {a : Addr} (k : ∀ a o, h.get? a = some o → h'.get? a = some o) (g : h.get? a ≠ none) : h'.get? a ≠ none := by
  cases q : h.get? a with
  | none => exact absurd q g
  | some o => rw [k a o q]; simp
theorem EnvOk.more {av av' : Addr → Prop} {h h' : Heap} (e : EnvOk C names renv av h ρ) (k : ∀ a o, h.get? a = some o → h'.get? a = some o) (w : ∀ a, av' a → av a ∨ h.get? a = none) : EnvOk C names renv av' h' ρ :=
  ⟨e.kind, e.glob, e.blt, (fun i d q => by
    obtain ⟨nm, v, h1, h2, h3⟩ := e.vars i d q
    refine ⟨nm, v, h1, ?_, Rep.move (fun a o na g => ⟨fun z => ?_, k a o g⟩) d h3⟩
    · rcases h2 with ⟨kk, m, hn, hm⟩ | ⟨kk, c, hc, hv⟩
      · exact .inl ⟨kk, m, hn.keeps k, hm⟩
      · exact .inr ⟨kk, c, hc, hv.keeps k⟩
    · rcases w a z with z | z
      · exact na z
      · rw [z] at g; cases g), some_keep k e.there.1, fun nm c g => some_keep k (e.there.2 nm c g)⟩
theorem Rep.less {av av' : Addr → Prop} {h : Heap} {d : V} {v : Value} (r : Rep C av h d v) (w : ∀ a, av' a → av a) : Rep C av' h d v :=
  Rep.move (fun a o na g => ⟨fun z => na (w a z), g⟩) d r
theorem RepL.less {av av' : Addr → Prop} {h : Heap} {d : List V} {v : List Value} (r : RepL C av h d v) (w : ∀ a, av' a → av a) : RepL C av' h d v :=
  RepL.move (fun a o na g => ⟨fun z => na (w a z), g⟩) d r

/-! dict displays -/
noncomputable def mkPairs (renv : Env) (pos : Pos) : List (Option PySem.Expr) → List PySem.Expr → List (Sem Value × Sem Value)
  | some k :: ks, v :: vs => (eval k renv, do let x ← eval v renv; standAt pos; pure x) :: mkPairs renv pos ks vs
  | _, _ => []
theorem keyOk_cons {k : List Nat} {ks : List (List Nat)} {xs : List (Option PySem.Expr)} (h : keyOk (k :: ks) xs = true) : ∃ c p r, xs = some (.Constant (.str (mkS k)) c p) :: r ∧ keyOk ks r = true := by
  cases xs with
  | nil => simp [keyOk] at h
  | cons x xs =>
    simp only [keyOk, List.zip_cons_cons, List.all_cons, Bool.and_eq_true, decide_eq_true_eq, List.length_cons] at h
    obtain ⟨h1, h2, h3⟩ := h
    split at h2
    · rename_i e y c p
      have : y = mkS k := by simpa using h2
      subst this
      exact ⟨c, p, xs, rfl, by simp only [keyOk, Bool.and_eq_true, decide_eq_true_eq]; exact ⟨by omega, h3⟩⟩
    · cases h2
theorem keyOk_nil {xs : List (Option PySem.Expr)} (h : keyOk [] xs = true) : xs = [] := by
  simp only [keyOk, Bool.and_eq_true, decide_eq_true_eq] at h
  exact List.eq_nil_of_length_eq_zero h.1

theorem pairs_shape {pos : Pos} : ∀ (ks : List (List Nat)) (xs : List (Option PySem.Expr)) (es : List PySem.Expr), keyOk ks xs = true → es.length = ks.length →
    (evalEachOpt xs renv).zip ((evalEach es renv).map fun v => do let x ← v; standAt pos; pure x) = (mkPairs renv pos xs es).map fun p => (some p.1, p.2)
  | [], xs, es, h, e => by rw [keyOk_nil h]; rfl
  | k :: ks, xs, es, h, e => by
    obtain ⟨c, p, r, rfl, h'⟩ := keyOk_cons h
    cases es with
    | nil => simp at e
    | cons v vs =>
      have ih := pairs_shape (pos := pos) ks r vs h' (by simpa using e)
      exact congrArg (List.cons _) ih
theorem pairs_length {pos : Pos} : ∀ (ks : List (List Nat)) (xs : List (Option PySem.Expr)) (es : List PySem.Expr), keyOk ks xs = true → es.length = ks.length → (mkPairs renv pos xs es).length = ks.length
  | [], xs, es, h, e => by rw [keyOk_nil h]; rfl
  | k :: ks, xs, es, h, e => by
    obtain ⟨c, p, r, rfl, h'⟩ := keyOk_cons h
    cases es with
    | nil => simp at e
    | cons v vs => simp [mkPairs, pairs_length ks r vs h' (by simpa using e)]

noncomputable def EvD (C : Cx) (n : Nat) (names : List Str) (renv : Env) (ρ : List (Option V)) (es : List PySem.Expr) (Q : List V → Prop) : Prop :=
  ∀ (ks : List (List Nat)) (xs : List (Option PySem.Expr)) (A : Around) (s : Shared) (av : Addr → Prop) (pos : Pos), keyOk ks xs = true → es.length = ks.length → Room n A → St C s → AvOk C av s.heap → EnvOk C names renv av s.heap ρ →
    wpAny (model C.prog C.w) A (evalPairs (mkPairs renv pos xs es)) (fun vs s' => ∃ rv, Carries (strKind C.prog C.w) vs ((ks.map mkS).zip rv) ∧ rv.length = ks.length ∧ PostL C av s Q rv s') NoE s

theorem evD_nil {Q : List V → Prop} (q : Q []) : EvD C n names renv ρ [] Q := fun ks xs A s av pos h e rm x a ev => by
  cases ks with
  | cons => simp at e
  | nil =>
    rw [keyOk_nil h]
    exact evalPairs_nil ⟨[], trivial, rfl, [], q, RepL.nil, x, Step.refl C s⟩
theorem evD_cons {e : PySem.Expr} {es : List PySem.Expr} {Q : List V → Prop} {wa : (V → Prop) → Prop} {wb : (List V → Prop) → Prop} (ia : ∀ Q, wa Q → Ev C n names renv ρ e Q) (ib : ∀ Q, wb Q → EvD C n names renv ρ es Q)
    (q : wa fun v => wb fun vs => Q (v :: vs)) : EvD C n names renv ρ (e :: es) Q := fun ks xs A s av pos h el rm x a ev => by
  cases ks with
  | nil => simp at el
  | cons k ks =>
    obtain ⟨c, p, r, rfl, h'⟩ := keyOk_cons h
    have x' : St C { s with toks := s.toks + 1 } := x.all (fun _ _ h => h) rfl rfl
    have y' : Step C s { s with toks := s.toks + 1 } := Step.all fun _ _ h => h
    refine evalPairs_cons (wpAny_Constant_str (wpAny_bind (wp_then (ia _ q) rm x' (a.step y') (ev.step x a y') fun v s₁ d q₁ r₁ x₁ y₁ a₁ ev₁ => wpAny_bind (wpAny_standAt (wpAny_pure ?_)))))
    refine wpAny_mono (ib _ q₁ ks r A s₁ av pos h' (by simpa using el) rm x₁ a₁ ev₁) (fun vs s₂ p => ?_) fun _ _ h => h
    obtain ⟨rv, hc, hl, ds, q₂, r₂, x₂, y₂⟩ := p
    exact ⟨v :: rv, ⟨strKind_is C.prog C.w (mkS k) _, rfl, hc⟩, by simp [hl], d :: ds, q₂, RepL.cons (r₁.step a₁ y₂) r₂, x₂, y'.trans (y₁.trans y₂)⟩

theorem size_big (O : C.Ok) (x : St C s) : 3 < s.heap.objs.size := by
  obtain ⟨o, es, ep, ho, _⟩ := O.g
  exact Heap.lt_size (x.keep _ _ ho)

theorem ev_dict {ks : List (List Nat)} {xs : List (Option PySem.Expr)} {es : List PySem.Expr} {pos : Pos} {wb : (List V → Prop) → Prop} (O : C.Ok) (hk : keyOk ks xs = true) (hl : es.length = ks.length) (h0 : ks ≠ []) (h15 : ks.length ≤ 15) (hn : ks.Nodup)
    (ib : ∀ Q, wb Q → EvD C n names renv ρ es Q) (q : wb fun ds => Q (.dict ks ds)) : Ev C n names renv ρ (.Dict xs es pos) Q := fun A s av rm x a ev => by
  have hp := pairs_length (renv := renv) (pos := pos) ks xs es hk hl
  refine wpAny_Dict_pairs (knd := strKind C.prog C.w) (pairs_shape ks xs es hk hl) (fun z => ?_) (by rw [hp]; exact h15) ?_
  · rw [z] at hp; exact h0 (List.eq_nil_of_length_eq_zero hp.symm)
  · have fresh : s.heap.get? s.heap.objs.size = none := by
      cases e : s.heap.get? s.heap.objs.size with
      | none => rfl
      | some o => exact absurd (Heap.lt_size e) (Nat.lt_irrefl _)
    have hD : C.D ≠ some s.heap.objs.size := fun e => by
      obtain ⟨_, _, ⟨_, g⟩, _⟩ := x.deck _ e
      rw [fresh] at g; cases g
    have kp := keep_push s.heap { cls := Value.type "dict", data := Data.dict #[] }
    have x' : St C { s with heap := s.heap.push { cls := Value.type "dict", data := Data.dict #[] } } := x.all kp rfl rfl
    have y' : Step C s { s with heap := s.heap.push { cls := Value.type "dict", data := Data.dict #[] } } := Step.all kp
    have hnew := Heap.DictOf.new (knd := strKind C.prog C.w) s.heap
    have a' : AvOk C (fun b => av b ∨ b = s.heap.objs.size) (s.heap.push { cls := Value.type "dict", data := Data.dict #[] }) :=
      ⟨fun b e => .inl (a.deck b e), fun b e => by
        rcases e with e | rfl
        · exact y'.there (a.there b e)
        · rw [Heap.get?_push_size _ rfl]; simp⟩
    have ev' : EnvOk C names renv (fun b => av b ∨ b = s.heap.objs.size) (s.heap.push { cls := Value.type "dict", data := Data.dict #[] }) ρ := ev.more kp fun b e => e.imp id fun e => by rw [e]; exact fresh
    refine wpAny_mono (ib _ q ks xs A _ _ pos hk hl rm x' a' ev') (fun vs s₁ p => ?_) fun _ _ h => h
    obtain ⟨rv, hc, hrv, ds, q₁, r₁, x₁, y₁⟩ := p
    have hds := r₁.length
    have hd : s₁.heap.DictOf (strKind C.prog C.w) s.heap.objs.size [] := dictOf_move hnew fun o e => y₁.keep _ _ hD e
    refine ⟨_, hc, hd, fun h' hd' hs' => ?_⟩
    rw [merged_append_of_fresh [] _ (by
      rw [List.nil_append, List.map_fst_zip (by simp [hrv])]
      exact List.Pairwise.map _ (fun u v huv e => huv (mkS_inj e)) hn), List.nil_append] at hd'
    have kp2 : ∀ b o, b ≠ s.heap.objs.size → s₁.heap.get? b = some o → h'.get? b = some o := fun b o hb e => (hs'.2 b hb).trans e
    refine ⟨.dict ks ds, q₁, ?_, ?_, ?_⟩
    · simp only [Rep]
      refine ⟨_, rv, rfl, ⟨a.fresh, ?_⟩, hd', by omega, RepL.move (fun b o nb e => ⟨fun z => nb (.inl z), kp2 b o (fun z => nb (.inr z)) e⟩) ds r₁⟩
      have := size_big O x
      exact beq_false_of_ne (fun z => by rw [z] at this; exact absurd this (by decide))
    · refine ⟨fun b o e => kp2 b o (fun z => ?_) (x₁.keep b o e), fun b e => ?_, x₁.gens, x₁.os⟩
      · subst z
        have := x.keep _ _ e
        rw [fresh] at this; cases this
      · obtain ⟨ws, ns, ⟨k, g⟩, r⟩ := x₁.deck b e
        exact ⟨ws, ns, ⟨k, kp2 b _ (fun z => hD (z ▸ e)) g⟩, r⟩
    · refine ⟨fun b o e g => kp2 b o (fun z => ?_) (y₁.keep b o e (kp b o g)), fun b e g => ?_⟩
      · subst z; rw [fresh] at g; cases g
      · have hb : b ≠ s.heap.objs.size := fun z => hD (z ▸ e)
        intro z
        rw [hs'.2 b hb] at z
        exact (y'.trans y₁).deck b e g z
end

theorem lk_st : ∀ (ρ : List (Option V)) (x : Nat) (v : Option V) (y : Nat), lk (st' ρ x v) y = if y = x ∧ x < ρ.length then v else lk ρ y
  | [], x, v, y => by simp [st', lk]
  | o :: r, 0, v, 0 => by simp [st', lk]
  | o :: r, 0, v, y + 1 => by simp [st', lk]
  | o :: r, x + 1, v, 0 => by simp [st', lk]
  | o :: r, x + 1, v, y + 1 => by
    simp only [st', lk, lk_st r x v y, List.length_cons]
    by_cases h : y = x ∧ x < r.length
    · rw [if_pos h, if_pos ⟨by omega, by omega⟩]
    · rw [if_neg h, if_neg (fun z => h ⟨by omega, by omega⟩)]

theorem nodup_idx {α : Type} : ∀ {l : List α} {i j : Nat} {a : α}, l.Nodup → l[i]? = some a → l[j]? = some a → i = j
  | [], i, j, a, _, h, _ => by simp at h
  | b :: l, 0, 0, a, _, _, _ => rfl
  | b :: l, 0, j + 1, a, n, h, g => by
    simp at h g; subst h
    exact absurd (List.mem_of_getElem? g) (List.nodup_cons.mp n).1
  | b :: l, i + 1, 0, a, n, h, g => by
    simp at h g; subst g
    exact absurd (List.mem_of_getElem? h) (List.nodup_cons.mp n).1
  | b :: l, i + 1, j + 1, a, n, h, g => by
    simp at h g
    rw [nodup_idx (List.nodup_cons.mp n).2 h g]

theorem ns_unique {h : Heap} {a : Addr} {m m' : Str → Option Value} (x : h.Ns a m) (y : h.Ns a m') : m = m' := by
  obtain ⟨o, es, ep, ho, hd, hk, hm⟩ := x
  obtain ⟨o', es', ep', ho', hd', hk', hm'⟩ := y
  rw [ho] at ho'
  cases ho'
  rw [hd] at hd'
  cases hd'
  funext z
  rw [← hm z, ← hm' z]

/-- only these addresses are changed -/
noncomputable def Keeps (P : Addr → Prop) (s s' : Shared) : Prop := ∀ a o, ¬ P a → s.heap.get? a = some o → s'.heap.get? a = some o
theorem Keeps.trans {P : Addr → Prop} {s s' s'' : Shared} (x : Keeps P s s') (y : Keeps P s' s'') : Keeps P s s'' := fun a o n e => y a o n (x a o n e)
theorem Keeps.more {P R : Addr → Prop} {s s' : Shared} (x : Keeps P s s') (h : ∀ a, P a → R a) : Keeps R s s' := fun a o n e => x a o (fun z => n (h a z)) e
theorem Keeps.there {P : Addr → Prop} {s s' : Shared} (x : Keeps P s s') {a : Addr} (n : ¬ P a) (g : s.heap.get? a ≠ none) : s'.heap.get? a ≠ none := by
  cases q : s.heap.get? a with
  | none => exact absurd q g
  | some o => rw [x a o n q]; simp
theorem Keeps.refl (P : Addr → Prop) (s : Shared) : Keeps P s s := fun _ _ _ e => e

section
variable {C : Cx} {av : Addr → Prop} {A : Around} {s : Shared} {n : Nat} {names : List Str} {renv : Env} {ρ : List (Option V)} {Q : V → Prop}

theorem St.keeps {s' : Shared} {P : Addr → Prop} (x : St C s) (k : Keeps P s s') (h0 : ∀ a, P a → C.h₀.get? a = none) (hD : ∀ a, P a → C.D ≠ some a) (hg : s'.gens = s.gens) (ho : s'.os = s.os) : St C s' :=
  ⟨fun a o e => k a o (fun z => by rw [h0 a z] at e; cases e) (x.keep a o e), fun a e => let ⟨vs, ns, ⟨n, q⟩, r⟩ := x.deck a e; ⟨vs, ns, ⟨n, k _ _ (fun z => hD _ z e) q⟩, r⟩, hg.trans x.gens, ho.trans x.os⟩

theorem ns_notDeck {m : Str → Option Value} {L : Addr} (x : St C s) (hn : s.heap.Ns L m) : C.D ≠ some L := fun e => by
  obtain ⟨_, _, ⟨_, g⟩, _⟩ := x.deck _ e
  obtain ⟨o, es, ep, ho, hd, _⟩ := hn
  rw [ho] at g
  cases g
  cases hd

theorem EnvOk.keeps {P : Addr → Prop} {s' : Shared} (e : EnvOk C names renv av s.heap ρ) (k : Keeps P s s') (hP : ∀ a, P a → av a) (hL : ¬ P renv.locals) (hc : ∀ nm c, renv.cells.lookup nm = some c → ¬ P c) : EnvOk C names renv av s'.heap ρ :=
  ⟨e.kind, e.glob, e.blt, fun i d q => by
    obtain ⟨nm, v, h1, h2, h3⟩ := e.vars i d q
    refine ⟨nm, v, h1, ?_, Rep.move (fun a o na g => ⟨na, k a o (fun z => na (hP a z)) g⟩) d h3⟩
    rcases h2 with ⟨kk, m, hn, hm⟩ | ⟨kk, c, hc', hv⟩
    · obtain ⟨o, es, ep, ho, r⟩ := hn
      exact .inl ⟨kk, m, ⟨o, es, ep, k _ _ hL ho, r⟩, hm⟩
    · obtain ⟨o, ho, r⟩ := hv
      exact .inr ⟨kk, c, hc', o, k _ _ (hc nm c hc') ho, r⟩, k.there hL e.there.1, fun nm c g => k.there (hc nm c g) (e.there.2 nm c g)⟩

theorem EnvOk.store {x : Nat} {nm : Str} {m : Str → Option Value} {d : V} {v : Value} {s' : Shared} (e : EnvOk C names renv av s.heap ρ) (hL : av renv.locals) (hn : names.Nodup) (hx : names[x]? = some nm) (hk : renv.kindOf nm = some .local)
    (hm : s.heap.Ns renv.locals m) (hm' : s'.heap.Ns renv.locals (fun y => if y = nm then some v else m y)) (k : Keeps (· = renv.locals) s s') (r : Rep C av s.heap d v) : EnvOk C names renv av s'.heap (st' ρ x (some d)) := by
  have rk : ∀ {d : V} {v : Value}, Rep C av s.heap d v → Rep C av s'.heap d v := fun r => Rep.move (fun a o na g => ⟨na, k a o (fun z => na (z ▸ hL)) g⟩) _ r
  have hLt : s'.heap.get? renv.locals ≠ none := by obtain ⟨o, _, _, ho, _⟩ := hm'; rw [ho]; simp
  refine ⟨e.kind, e.glob, e.blt, fun i d' q => ?_, hLt, fun nm' c g => if z : c = renv.locals then z ▸ hLt else k.there z (e.there.2 nm' c g)⟩
  rw [lk_st] at q
  by_cases hi : i = x ∧ x < ρ.length
  · rw [if_pos hi] at q
    obtain ⟨rfl, _⟩ := hi
    cases q
    exact ⟨nm, v, hx, .inl ⟨hk, _, hm', by simp⟩, rk r⟩
  · rw [if_neg hi] at q
    obtain ⟨nm', v', h1, h2, h3⟩ := e.vars i d' q
    by_cases hix : i = x
    · subst hix
      have : ρ.length ≤ i := Nat.le_of_not_lt fun z => hi ⟨rfl, z⟩
      have : lk ρ i = none := by
        clear q hi h3 h2 h1 hx e
        revert i
        induction ρ with
        | nil => intro i _; rfl
        | cons o r ih => intro i h; cases i with
          | zero => simp at h
          | succ i => exact ih i (by simpa using h)
      rw [this] at q; cases q
    · have hne : nm' ≠ nm := fun z => by
        subst z
        exact hix (nodup_idx hn h1 hx)
      refine ⟨nm', v', h1, ?_, rk h3⟩
      rcases h2 with ⟨kk, m1, hn1, hm1⟩ | ⟨kk, c, hc, hv⟩
      · have := ns_unique hn1 hm
        subst this
        exact .inl ⟨kk, _, hm', by simp [hne, hm1]⟩
      · obtain ⟨o, ho, hd⟩ := hv
        refine .inr ⟨kk, c, hc, o, k _ _ (fun z => ?_) ho, hd⟩
        obtain ⟨o', es, ep, ho', hd', _⟩ := hm
        rw [← z, ho] at ho'
        cases ho'
        rw [hd] at hd'; cases hd'

theorem fn_store {L G : Addr} {sc : Scope} (h : sc.kind = .function) : (sc.kind == ScopeKind.class || (sc.kind == ScopeKind.module && L != G)) = false := by rw [h]; rfl

/-- a name of the frame gets a value -/
theorem st_name {x : Nat} {nm : Str} {m : Str → Option Value} {d : V} {v : Value} {P : Unit → Shared → Prop} {E} (x0 : St C s) (e : EnvOk C names renv av s.heap ρ) (hL : av renv.locals) (hL0 : C.h₀.get? renv.locals = none) (hn : names.Nodup) (hx : names[x]? = some nm)
    (hk : renv.kindOf nm = some .local) (hm : s.heap.Ns renv.locals m) (r : Rep C av s.heap d v)
    (k : ∀ s', St C s' → EnvOk C names renv av s'.heap (st' ρ x (some d)) → Keeps (· = renv.locals) s s' → (s'.heap.Ns renv.locals fun y => if y = nm then some v else m y) → (∀ a, s.heap.get? a ≠ none → s'.heap.get? a ≠ none) → P () s') :
    wpAny (model C.prog C.w) A (storeName renv nm v) P E s :=
  wpAny_storeName_local hk hm (fun h' hm' hs => by
    have kk : Keeps (· = renv.locals) s { s with heap := h', toks := s.toks + 1 } := fun a o na g => (hs.2 a na).trans g
    refine k _ (x0.keeps kk (fun a z => z ▸ hL0) (fun a z => z ▸ ns_notDeck x0 hm) rfl rfl) (e.store hL hn hx hk hm hm' kk r) kk hm' fun a g => ?_
    by_cases ha : a = renv.locals
    · obtain ⟨o, _, _, ho, _⟩ := hm'
      show h'.get? a ≠ none
      rw [ha, ho]; simp
    · show h'.get? a ≠ none
      rw [hs.2 a ha]; exact g) (fn_store e.kind)

theorem isTgt_is {kinds : Kinds} {x : Nat} {t : PySem.Expr} (h : isTgt kinds names x t = true) : ∃ nm p, t = .Name nm p ∧ names[x]? = some nm ∧ kinds.lookup nm = some .local :=
  ⟨_, _, eta_at (an h).1 rfl, eq_of_beq (an (an (an h).2).1).1, dk (an (an h).2).2⟩
theorem chkTgt_one {kinds : Kinds} {x : Nat} {t : PySem.Expr} (h : chkTgt kinds names (.one x) t = true) : ∃ nm p, t = .Name nm p ∧ names[x]? = some nm ∧ kinds.lookup nm = some .local := isTgt_is h
theorem chkTgt_many {kinds : Kinds} {xs : List Nat} {t : PySem.Expr} (h : chkTgt kinds names (.many xs) t = true) : ∃ es k p, t = .Tuple es k p ∧ tgtAll kinds names xs es = true :=
  ⟨_, _, _, eta_at (an h).1 rfl, (an h).2⟩

theorem tgtAll_each {kinds : Kinds} {names : List Str} (renv : Env) : ∀ {xs : List Nat} {es : List PySem.Expr}, tgtAll kinds names xs es = true → (assignEach es renv).length = es.length ∧ es.length = xs.length ∧ List.findIdx? (fun x => x.1) (assignEach es renv) = none
  | [], [], _ => ⟨rfl, rfl, rfl⟩
  | [], _ :: _, h => Bool.noConfusion h
  | x :: xs, [], h => Bool.noConfusion h
  | x :: xs, e :: es, h => by
    obtain ⟨nm, p, rfl, _⟩ := isTgt_is (t := e) (an (an h).1).2
    obtain ⟨h1, h2, h3⟩ := tgtAll_each renv (es := es) (an h).2
    refine ⟨by show (assignEach es renv).length + 1 = _; simp [h1], by simp [h2], ?_⟩
    show List.findIdx? _ ((false, _) :: assignEach es renv) = none
    rw [List.findIdx?_cons]
    simp [h3]

theorem bind_all {kinds : Kinds} (hkk : renv.scope.names = kinds) (hL : av renv.locals) (hL0 : C.h₀.get? renv.locals = none) (hn : names.Nodup) :
    ∀ (xs : List Nat) (es : List PySem.Expr) (ds : List V) (vs : List Value) (ρ ρ' : List (Option V)) (s : Shared) (m : Str → Option Value) (P : Unit → Shared → Prop), tgtAll kinds names xs es = true → bindMany xs ds ρ = some ρ' →
      St C s → EnvOk C names renv av s.heap ρ → s.heap.Ns renv.locals m → RepL C av s.heap ds vs →
      (∀ s' m', St C s' → EnvOk C names renv av s'.heap ρ' → Keeps (· = renv.locals) s s' → s'.heap.Ns renv.locals m' → (∀ a, s.heap.get? a ≠ none → s'.heap.get? a ≠ none) → (∀ z nm, names[z]? = some nm → z ∉ xs → m' nm = m nm) → P () s') →
      wpAny (model C.prog C.w) A (assignInOrder ((assignEach es renv).map (·.2)) vs) P NoE s
  | [], [], ds, vs, ρ, ρ', s, m, P, h, hb, x, e, hm, r, k => by
    cases ds with
    | cons => simp [bindMany] at hb
    | nil =>
      obtain rfl := r
      simp only [bindMany, Option.some.injEq] at hb
      subst hb
      exact wpAny_assignInOrder_none (k s m x e (Keeps.refl _ _) hm (fun _ h => h) fun _ _ _ _ => rfl)
  | [], _ :: _, ds, vs, ρ, ρ', s, m, P, h, hb, x, e, hm, r, k => Bool.noConfusion h
  | x :: xs, [], ds, vs, ρ, ρ', s, m, P, h, hb, x', e, hm, r, k => Bool.noConfusion h
  | y :: xs, te :: es, ds, vs, ρ, ρ', s, m, P, h, hb, x, e, hm, r, k => by
    obtain ⟨nm, p, rfl, h1, h2⟩ := isTgt_is (t := te) (an (an h).1).2
    have h3 : tgtAll kinds names xs es = true := (an h).2
    cases ds with
    | nil => simp [bindMany] at hb
    | cons d ds =>
      obtain ⟨v, vs', rfl, r1, r2⟩ := r
      simp only [bindMany] at hb
      refine wpAny_assignInOrder_more (t := assign _ renv) (wpAny_assign_Name (st_name x e hL hL0 hn h1 (by rw [Env.kindOf, hkk]; exact h2) hm r1 fun s' x' e' k' hm' t' => ?_))
      have r2' : RepL C av s'.heap ds vs' := RepL.move (fun a o na g => ⟨na, k' a o (fun z => na (z ▸ hL)) g⟩) _ r2
      exact bind_all hkk hL hL0 hn xs es ds vs' _ ρ' s' _ P h3 hb x' e' hm' r2' fun s'' m'' x'' e'' k'' hm'' t'' u'' => k s'' m'' x'' e'' (k'.trans k'') hm'' (fun a g => t'' a (t' a g)) fun z nm hz hn' => by
        rw [u'' z nm hz fun w => hn' (List.mem_cons_of_mem _ w)]
        refine if_neg fun w => hn' ?_
        have hzy : z = y := nodup_idx hn hz (w ▸ h1)
        rw [hzy]; exact List.mem_cons_self

noncomputable def Tgt.places : Tgt → List Nat
  | .one x => [x]
  | .many xs => xs
/-- a target is bound -/
theorem bind_tgt {kinds : Kinds} {tgt : Tgt} {t : PySem.Expr} {d : V} {v : Value} {ρ' : List (Option V)} {m : Str → Option Value} {P : Unit → Shared → Prop} (hkk : renv.scope.names = kinds) (hh : A.handled = none) (hL : av renv.locals) (hL0 : C.h₀.get? renv.locals = none) (hn : names.Nodup)
    (ht : chkTgt kinds names tgt t = true) (hb : bindT tgt d ρ = some ρ') (x : St C s) (e : EnvOk C names renv av s.heap ρ) (hm : s.heap.Ns renv.locals m) (r : Rep C av s.heap d v)
    (k : ∀ s' m', St C s' → EnvOk C names renv av s'.heap ρ' → Keeps (· = renv.locals) s s' → s'.heap.Ns renv.locals m' → (∀ a, s.heap.get? a ≠ none → s'.heap.get? a ≠ none) → (∀ z nm, names[z]? = some nm → z ∉ tgt.places → m' nm = m nm) → P () s') :
    wpAny (model C.prog C.w) A (assign t renv v) P NoE s := by
  cases tgt with
  | one y =>
    obtain ⟨nm, p, rfl, h1, h2⟩ := chkTgt_one ht
    simp only [bindT, Option.some.injEq] at hb
    subst hb
    exact wpAny_assign_Name (st_name x e hL hL0 hn h1 (by rw [Env.kindOf, hkk]; exact h2) hm r fun s' x' e' k' hm' t' => k s' _ x' e' k' hm' t' fun z nm' hz hn' => if_neg fun w => hn' (by
      have hzy : z = y := nodup_idx hn hz (w ▸ h1)
      rw [hzy]; exact List.mem_cons_self))
  | many ys =>
    obtain ⟨es, kx, p, rfl, h1⟩ := chkTgt_many ht
    cases d <;> (first | (simp [bindT] at hb; done) | skip)
    rename_i ds
    simp only [bindT] at hb
    obtain ⟨a, vs, rfl, na, tt, rl⟩ := r
    obtain ⟨l1, l2, l3⟩ := tgtAll_each renv h1
    have el := rl.length
    have hlen : ∀ (ys : List Nat) (ds : List V) (ρ ρ' : List (Option V)), bindMany ys ds ρ = some ρ' → ys.length = ds.length := by
      intro ys
      induction ys with
      | nil => intro ds ρ ρ' h; cases ds with
        | nil => rfl
        | cons => simp [bindMany] at h
      | cons y ys ih => intro ds ρ ρ' h; cases ds with
        | nil => simp [bindMany] at h
        | cons d ds => simp only [bindMany] at h; simp [ih ds _ _ h]
    have := hlen _ _ _ _ hb
    refine wpAny_assign_Tuple hh tt.isTup (by rw [List.size_toArray]; omega) l3 fun h' hx => ?_
    have kp : ∀ b o, s.heap.get? b = some o → h'.get? b = some o := fun b o g => hx b o (Nat.ne_of_lt (Heap.lt_size g)) g
    refine bind_all hkk hL hL0 hn ys es ds vs ρ ρ' _ m P h1 hb (x.all kp rfl rfl) (e.more kp fun _ h => .inl h) (hm.keeps kp) (rl.keep kp) fun s' m' x' e' k' hm' t' u' => k s' m' x' e' (fun a o na g => k' a o na (kp a o g)) hm' (fun a g => t' a ?_) u'
    cases q : s.heap.get? a with
    | none => exact absurd q g
    | some o => show h'.get? a ≠ none; rw [kp a o q]; simp
end

/-- an iterator over what is left -/
noncomputable def ItOk (C : Cx) (av : Addr → Prop) (h : Heap) : Kd → Addr → Addr → List V → Prop
  | .items, I, J, ds => J = I ∧ ∃ l i vs, h.IsListIter I l i ∧ LstAt h l vs ∧ ¬ av l ∧ RepL C av h ds (vs.drop i)
  | .range, I, J, ds => J = I ∧ ∃ x : Int, IsRangeIter h I x ds.length 1 ∧ ds = intsFrom x ds.length
  | .enum, I, J, ds => I ≠ J ∧ ∃ l i vs old es, IsEnum h I J ((i : Nat) : Int) old ∧ h.IsListIter J l i ∧ LstAt h l vs ∧ ¬ av l ∧ RepL C av h es (vs.drop i) ∧ ds = enumFrom i es

/-- an address of our own -/
structure Own (C : Cx) (av : Addr → Prop) (a : Addr) : Prop where
  av : av a
  new : C.h₀.get? a = none
  deck : C.D ≠ some a

section
variable {C : Cx} {av : Addr → Prop} {A : Around} {s : Shared} {n : Nat} {names : List Str} {renv : Env} {ρ : List (Option V)} {Q : V → Prop}

theorem isListIter_keep {h h' : Heap} {I l : Addr} {i : Nat} (x : h.IsListIter I l i) (k : ∀ o, h.get? I = some o → h'.get? I = some o) : h'.IsListIter I l i :=
  let ⟨o, ho, r⟩ := x; ⟨o, k o ho, r⟩
theorem LstAt.keep {h h' : Heap} {l : Addr} {vs : List Value} (x : LstAt h l vs) (k : ∀ o, h.get? l = some o → h'.get? l = some o) : LstAt h' l vs :=
  let ⟨n, e⟩ := x; ⟨n, k _ e⟩

theorem ItOk.keeps {P : Addr → Prop} {s' : Shared} {kind : Kd} {I J : Addr} {ds : List V} (it : ItOk C av s.heap kind I J ds) (k : Keeps P s s') (hI : ¬ P I) (hJ : ¬ P J) (hP : ∀ a, P a → av a) : ItOk C av s'.heap kind I J ds := by
  have rk : ∀ {d : List V} {v : List Value}, RepL C av s.heap d v → RepL C av s'.heap d v := fun r => RepL.move (fun a o na g => ⟨na, k a o (fun z => na (hP a z)) g⟩) _ r
  cases kind with
  | items =>
    obtain ⟨e, l, i, vs, hit, hl, nl, rl⟩ := it
    exact ⟨e, l, i, vs, isListIter_keep hit fun o g => k _ _ hI g, hl.keep fun o g => k _ _ (fun z => nl (hP _ z)) g, nl, rk rl⟩
  | range =>
    obtain ⟨e, x, hr, hd⟩ := it
    exact ⟨e, x, k _ _ hI hr, hd⟩
  | enum =>
    obtain ⟨e, l, i, vs, old, es, he, hit, hl, nl, rl, hd⟩ := it
    exact ⟨e, l, i, vs, old, es, k _ _ hI he, isListIter_keep hit fun o g => k _ _ hJ g, hl.keep fun o g => k _ _ (fun z => nl (hP _ z)) g, nl, rk rl, hd⟩

theorem drop_cons {vs : List Value} {i : Nat} {v : Value} {vs' : List Value} (h : vs.drop i = v :: vs') : vs[i]? = some v ∧ vs.drop (i + 1) = vs' := by
  constructor
  · have := congrArg List.head? h
    simpa using this
  · have := congrArg List.tail h
    simpa using this

theorem go_name {nm : Str} {p : Pos} {it v : Value} : letOwnedTupleGo (.Name nm p) it v = pure () := by rfl

theorem toArray_get {vs : List Value} {i : Nat} : vs.toArray[i]? = vs[i]? := by simp

/-- the next item -/
theorem it_next {kinds : Kinds} {kind : Kd} {tgt : Tgt} {t : PySem.Expr} {I J : Addr} {d : V} {ds : List V} {ρ' : List (Option V)} {P : Value → Shared → Prop}
    (it : ItOk C av s.heap kind I J (d :: ds)) (oI : Own C av I) (oJ : Own C av J) (a : AvOk C av s.heap) (x : St C s)
    (ht : chkTgt kinds names tgt t = true) (hb : bindT tgt d ρ = some ρ') (hk : kind = .enum → ∃ ys, tgt = .many ys)
    (k : ∀ v s', ItOk C av s'.heap kind I J ds → Rep C av s'.heap d v → St C s' → Keeps (fun b => b = I ∨ b = J) s s' → P v s') :
    wpAny (model C.prog C.w) A (pyNext (.ref I)) (fun r s₁ => ∃ v, r = some v ∧ wpAny (model C.prog C.w) A (letOwnedTupleGo t (.ref I) v) (fun _ s₂ => P v s₂) NoE s₁) NoE s := by
  have mv : ∀ {s' : Shared} {d : V} {v : Value}, Keeps (fun b => b = I ∨ b = J) s s' → Rep C av s.heap d v → Rep C av s'.heap d v := fun kk r =>
    Rep.move (fun b o nb g => ⟨nb, kk b o (fun z => z.elim (fun z => nb (z ▸ oI.av)) fun z => nb (z ▸ oJ.av)) g⟩) _ r
  have mvl : ∀ {s' : Shared} {d : List V} {v : List Value}, Keeps (fun b => b = I ∨ b = J) s s' → RepL C av s.heap d v → RepL C av s'.heap d v := fun kk r =>
    RepL.move (fun b o nb g => ⟨nb, kk b o (fun z => z.elim (fun z => nb (z ▸ oI.av)) fun z => nb (z ▸ oJ.av)) g⟩) _ r
  have sk : ∀ {s' : Shared}, Keeps (fun b => b = I ∨ b = J) s s' → s'.gens = s.gens → s'.os = s.os → St C s' := fun kk hg ho =>
    x.keeps kk (fun b z => z.elim (fun z => z ▸ oI.new) fun z => z ▸ oJ.new) (fun b z => z.elim (fun z => z ▸ oI.deck) fun z => z ▸ oJ.deck) hg ho
  cases kind with
  | items =>
    obtain ⟨rfl, l, i, vs, hit, hl, nl, rl⟩ := it
    obtain ⟨v, vs', e, r, rl⟩ := rl
    obtain ⟨g1, g2⟩ := drop_cons e
    refine wpAny_pyNext_list_item hit hl.isList (x := v) (by simpa using g1) fun h' hit' hs' => ⟨v, rfl, ?_⟩
    have kk : Keeps (fun b => b = J ∨ b = J) s { s with heap := h' } := fun b o nb g => hs'.extBut b o (fun z => nb (.inl z)) g
    have fin : P v { s with heap := h' } := k v _ ⟨rfl, l, i + 1, vs, hit', hl.keep fun o g => kk _ _ (fun z => nl (z.elim (fun z => z ▸ oI.av) fun z => z ▸ oI.av)) g, nl, g2 ▸ mvl kk rl⟩ (mv kk r) (sk kk rfl rfl) kk
    cases tgt with
    | one y =>
      obtain ⟨nm, p, rfl, _, _⟩ := chkTgt_one ht
      rw [go_name]; exact wpAny_pure fin
    | many ys =>
      obtain ⟨es, kx, p, rfl, _⟩ := chkTgt_many ht
      cases d <;> (first | (simp [bindT] at hb; done) | skip)
      obtain ⟨b, ws, rfl, _⟩ := r
      exact wpAny_letOwnedTupleGo_listiter hit' fin
  | range =>
    obtain ⟨rfl, y, hr, hd⟩ := it
    have hd' : d = .int y ∧ ds = intsFrom (y + 1) ds.length := by
      simp only [List.length_cons, intsFrom] at hd
      injection hd with h1 h2
      exact ⟨h1, h2⟩
    obtain ⟨rfl, hd'⟩ := hd'
    refine wpAny_pyNext_range_item hr (by simp only [List.length_cons]; omega) fun h' hr' hs' => ⟨_, rfl, ?_⟩
    have kk : Keeps (fun b => b = J ∨ b = J) s { s with heap := h', toks := s.toks + 1 } := fun b o nb g => hs'.extBut b o (fun z => nb (.inl z)) g
    have el : ((((V.int y :: ds).length : Nat) : Int) - 1) = (ds.length : Int) := by simp only [List.length_cons]; omega
    rw [el] at hr'
    have fin : P (Value.int y s.toks) { s with heap := h', toks := s.toks + 1 } := k _ _ ⟨rfl, y + 1, hr', hd'⟩ ⟨_, rfl⟩ (sk kk rfl rfl) kk
    cases tgt with
    | one y =>
      obtain ⟨nm, p, rfl, _, _⟩ := chkTgt_one ht
      rw [go_name]; exact wpAny_pure fin
    | many ys => simp [bindT] at hb
  | enum =>
    obtain ⟨ne, l, i, vs, old, es, he, hit, hl, nl, rl, hd⟩ := it
    cases es with
    | nil => simp [enumFrom] at hd
    | cons d₀ es =>
      simp only [enumFrom] at hd
      injection hd with hd1 hd2
      subst hd1
      obtain ⟨v, vs', e, r, rl⟩ := rl
      obtain ⟨g1, g2⟩ := drop_cons e
      refine wpAny_pyNext_enum_item he hit hl.isList (x := v) (by simpa using g1) ne fun h' ho hit' hT hsz hk' => ⟨_, rfl, ?_⟩
      obtain ⟨ys, rfl⟩ := hk rfl
      obtain ⟨es', kx, p, rfl, _⟩ := chkTgt_many ht
      refine wpAny_letOwnedTupleGo_enum ho fun h₂ he₂ hs₂ => ?_
      have kk : Keeps (fun b => b = I ∨ b = J) s { s with heap := h₂, toks := s.toks + 1 } := fun b o nb g => (hs₂.2 b fun z => nb (.inl z)).trans (hk' b o (fun z => nb (.inl z)) (fun z => nb (.inr z)) g)
      have hIs : I < s.heap.objs.size := Heap.lt_size he
      refine k _ _ ⟨ne, l, i + 1, vs, v, es, by simpa using he₂, isListIter_keep hit' fun o g => (hs₂.2 _ ne.symm).trans g, hl.keep fun o g => kk _ _ (fun z => nl (z.elim (fun z => z ▸ oI.av) fun z => z ▸ oJ.av)) g, nl, g2 ▸ mvl kk rl, hd2⟩ ?_ (sk kk rfl rfl) kk
      simp only [Rep]
      refine ⟨_, [.int ((i : Nat) : Int) s.toks, v], rfl, a.fresh, ⟨_, (hs₂.2 _ (Nat.ne_of_gt hIs)).trans hT⟩, ?_⟩
      exact RepL.cons ⟨_, rfl⟩ (RepL.one (mv kk r))

/-- no more items -/
theorem it_end {kind : Kd} {I J : Addr} {P : Option Value → Shared → Prop} (hh : A.handled = none)
    (it : ItOk C av s.heap kind I J []) (oI : Own C av I) (oJ : Own C av J) (x : St C s)
    (k : ∀ s', St C s' → Keeps (fun b => b = I ∨ b = J) s s' → P none s') :
    wpAny (model C.prog C.w) A (pyNext (.ref I)) P NoE s := by
  have sk : ∀ {s' : Shared}, Keeps (fun b => b = I ∨ b = J) s s' → s'.gens = s.gens → s'.os = s.os → St C s' := fun kk hg ho =>
    x.keeps kk (fun b z => z.elim (fun z => z ▸ oI.new) fun z => z ▸ oJ.new) (fun b z => z.elim (fun z => z ▸ oI.deck) fun z => z ▸ oJ.deck) hg ho
  have no : ∀ {vs : List Value} {i : Nat}, RepL C av s.heap [] (vs.drop i) → vs.toArray[i]? = none := fun {vs i} rl => by
    rw [toArray_get]
    exact List.getElem?_eq_none (List.drop_eq_nil_iff.mp rl)
  cases kind with
  | items =>
    obtain ⟨rfl, l, i, vs, hit, hl, nl, rl⟩ := it
    refine wpAny_pyNext_list_end hh hit hl.isList (no rl) fun h' he => ?_
    have kk : Keeps (fun b => b = J ∨ b = J) s { s with heap := h' } := fun b o nb g => he b o (fun z => nb (.inl z)) g
    exact k _ (sk kk rfl rfl) kk
  | range =>
    obtain ⟨rfl, y, hr, hd⟩ := it
    refine wpAny_pyNext_range_end hh hr (by simp) fun h' he => ?_
    have kk : Keeps (fun b => b = J ∨ b = J) s { s with heap := h' } := fun b o nb g => he b o (fun z => nb (.inl z)) g
    exact k _ (sk kk rfl rfl) kk
  | enum =>
    obtain ⟨ne, l, i, vs, old, es, he, hit, hl, nl, rl, hd⟩ := it
    cases es with
    | cons => simp [enumFrom] at hd
    | nil =>
      refine wpAny_pyNext_enum_end hh he hit hl.isList (no rl) fun h' he => ?_
      have kk : Keeps (fun b => b = I ∨ b = J) s { s with heap := h' } := fun b o nb g => he b o (fun z => nb (.inr z)) g
      exact k _ (sk kk rfl rfl) kk

/-- what is new is not avoided, and not old -/
theorem new_none {h : Heap} {a : Addr} (q : h.objs.size ≤ a) : h.get? a = none := by
  cases e : h.get? a with
  | none => rfl
  | some o => exact absurd (Heap.lt_size e) (Nat.not_lt.mpr q)
theorem new_h0 (x : St C s) {a : Addr} (q : s.heap.objs.size ≤ a) : C.h₀.get? a = none := by
  cases e : C.h₀.get? a with
  | none => rfl
  | some o => have := x.keep a o e; rw [new_none q] at this; cases this
theorem new_deck (x : St C s) {a : Addr} (q : s.heap.objs.size ≤ a) : C.D ≠ some a := fun z => by
  obtain ⟨vs, ns, ⟨n, g⟩, _⟩ := x.deck a z
  rw [new_none q] at g; cases g

theorem itCall_is {f : Str} {kinds : Kinds} {x i : PySem.Expr} (h : itCall f kinds x = some i) : ∃ p q, x = .Call (.Name f p) [i] [] q ∧ isGlob kinds f = true := by
  unfold itCall at h
  cases c : (calls x && (decide (nmE (k0 x) = f) && (isGlob kinds f && one (ks x)))) with
  | false => rw [c] at h; cases h
  | true =>
    rw [c] at h
    have e : x0 (ks x) = i := Option.some.inj h
    refine ⟨(k0 x).pos, x.pos, (e_calls (an c).1).trans ?_, (an (an (an c).2).2).1⟩
    rw [dk (an (an c).2).1, ← e]
    exact c_args1 (an (an (an c).2).2).2
theorem chkIt_range {kinds : Kinds} {x i : PySem.Expr} (h : itExpr kinds .range x = some i) : ∃ p q, x = .Call (.Name "range" p) [i] [] q ∧ isGlob kinds "range" = true := itCall_is h
theorem chkIt_enum {kinds : Kinds} {x i : PySem.Expr} (h : itExpr kinds .enum x = some i) : ∃ p q, x = .Call (.Name "enumerate" p) [i] [] q ∧ isGlob kinds "enumerate" = true := itCall_is h

theorem intsFrom_length (x : Int) : ∀ n, (intsFrom x n).length = n
  | 0 => rfl
  | n + 1 => by simp [intsFrom, intsFrom_length (x + 1) n]

/-- the source of a loop, and its iterator -/
theorem it_start {kinds : Kinds} {kind : Kd} {xe ie : PySem.Expr} {wa : (V → Prop) → Prop} {Qs : List V → Prop} {P : Value → Shared → Prop} (O : C.Ok) (hk : renv.scope.names = kinds)
    (hx : itExpr kinds kind xe = some ie) (hs : notStarred ie = true) (ia : ∀ Q, wa Q → Ev C n names renv ρ ie Q) (q : wa fun v => itemsOf kind v Qs)
    (rm : Room n A) (x : St C s) (a : AvOk C av s.heap) (ev : EnvOk C names renv av s.heap ρ)
    (k : ∀ I J s' ds, Qs ds → ds.length ≤ lim → ItOk C (fun b => av b ∨ b = I ∨ b = J) s'.heap kind I J ds → s.heap.get? I = none → s.heap.get? J = none → C.D ≠ some I → C.D ≠ some J → s'.heap.get? I ≠ none → s'.heap.get? J ≠ none → St C s' → Step C s s' → P (.ref I) s') :
    wpAny (model C.prog C.w) A (eval xe renv) (fun v s₁ => wpAny (model C.prog C.w) A (pyIter v) P NoE s₁) NoE s := by
  have old : ∀ {s₁ : Shared} {b : Addr}, Step C s s₁ → s₁.heap.objs.size ≤ b → s.heap.get? b = none := fun {s₁ b} y hb => by
    cases e : s.heap.get? b with
    | none => rfl
    | some o => exact absurd (new_none hb) (y.there (by rw [e]; simp))
  have mvl : ∀ {s₁ : Shared} {h' : Heap} {ds : List V} {vs : List Value} {I J : Addr}, (∀ b o, s₁.heap.get? b = some o → h'.get? b = some o) → s₁.heap.get? I = none → s₁.heap.get? J = none → RepL C av s₁.heap ds vs → RepL C (fun b => av b ∨ b = I ∨ b = J) h' ds vs := fun {s₁ h' ds vs I J} kp gI gJ r =>
    RepL.move (fun b o nb g => ⟨(fun z => by
      rcases z with z | z | z
      · exact nb z
      · rw [z, gI] at g; cases g
      · (rw [z, gJ] at g; cases g)), kp b o g⟩) _ r
  have nll : ∀ {s₁ : Shared} {l : Addr} {vs : List Value} {I J : Addr}, LstAt s₁.heap l vs → ¬ av l → s₁.heap.get? I = none → s₁.heap.get? J = none → ¬ (av l ∨ l = I ∨ l = J) := fun {s₁ l vs I J} tl nl gI gJ z => by
    obtain ⟨n, g⟩ := tl
    rcases z with z | z | z
    · exact nl z
    · rw [z, gI] at g; cases g
    · rw [z, gJ] at g; cases g
  cases kind with
  | items =>
    cases hx
    refine wp_then (ia _ q) rm x a ev fun v s₁ d q₁ r₁ x₁ y₁ a₁ ev₁ => ?_
    cases d <;> (first | (simp [itemsOf] at q₁; done) | skip)
    rename_i ds
    obtain ⟨hz, q₁⟩ := q₁
    obtain ⟨l, vs, rfl, nl, tl, rl⟩ := r₁
    refine wpAny_pyIter_list tl.isList ?_
    have kp := keep_push s₁.heap { cls := .type "list_iterator", data := .fields #[.ref l, .int 0 0] }
    have y2 : Step C s₁ { s₁ with heap := s₁.heap.push { cls := .type "list_iterator", data := .fields #[.ref l, .int 0 0] } } := Step.all kp
    have gI : (s₁.heap.push { cls := .type "list_iterator", data := .fields #[.ref l, .int 0 0] }).get? s₁.heap.objs.size = some { cls := .type "list_iterator", data := .fields #[.ref l, .int 0 0] } := Heap.get?_push_size _ rfl
    refine k s₁.heap.objs.size s₁.heap.objs.size _ ds q₁ hz ⟨rfl, l, 0, vs, ⟨_, gI, rfl, rfl⟩, tl.keep fun o g => kp _ _ g, nll tl nl (new_none (Nat.le_refl _)) (new_none (Nat.le_refl _)), by simpa using mvl kp (new_none (Nat.le_refl _)) (new_none (Nat.le_refl _)) rl⟩ (old y₁ (Nat.le_refl _)) (old y₁ (Nat.le_refl _)) (new_deck x₁ (Nat.le_refl _)) (new_deck x₁ (Nat.le_refl _)) (by show Heap.get? _ _ ≠ none; rw [gI]; simp) (by show Heap.get? _ _ ≠ none; rw [gI]; simp) (x₁.all kp rfl rfl) (y₁.trans y2)
  | range =>
    obtain ⟨p, pos, rfl, hg⟩ := chkIt_range hx
    refine wpAny_Call_NameR (ld_blt O x ev (by rw [Env.kindOf, hk]; exact (isGlob_is hg).1) (isGlob_is hg).2 O.range (PySem.callWith_type (by rw [starEach_cons hs]; rfl) ?_))
    rw [starEach_cons hs]
    refine evalArgs_plain (spliced_cons (x := eval ie renv) (wp_then (ia _ q) rm x a ev fun v s₁ d q₁ r₁ x₁ y₁ a₁ ev₁ => spliced_nil ?_))
    cases d <;> (first | (simp [itemsOf] at q₁; done) | skip)
    rename_i i
    obtain ⟨⟨h0, h1⟩, q₁⟩ := q₁
    obtain ⟨t, rfl⟩ := r₁
    refine call_range_1 (wpAny_pyIter_range (IsRange.new ..) (small_one (by decide) (by decide) (by omega) (by omega)) ?_)
    have hsz : Builtin.Range.rangeSize 0 i 1 = (i.toNat : Int) := by rw [rangeSize_one]; split <;> omega
    rw [hsz]
    have kp : ∀ b o, s₁.heap.get? b = some o → ((s₁.heap.push { cls := .type "range", data := .fields #[.int 0 s₁.toks, .int i t, .int 1 (s₁.toks + 1)] }).push { cls := .type "range_iterator", data := .fields #[rawInt 0, rawInt (i.toNat : Int), rawInt 1] }).get? b = some o :=
      push_keep2 _ _
    have gI : ((s₁.heap.push { cls := .type "range", data := .fields #[.int 0 s₁.toks, .int i t, .int 1 (s₁.toks + 1)] }).push { cls := .type "range_iterator", data := .fields #[rawInt 0, rawInt (i.toNat : Int), rawInt 1] }).get? (s₁.heap.push { cls := .type "range", data := .fields #[.int 0 s₁.toks, .int i t, .int 1 (s₁.toks + 1)] }).objs.size = some { cls := .type "range_iterator", data := .fields #[rawInt 0, rawInt (i.toNat : Int), rawInt 1] } := Heap.get?_push_size _ rfl
    have hle : s₁.heap.objs.size ≤ (s₁.heap.push { cls := .type "range", data := .fields #[.int 0 s₁.toks, .int i t, .int 1 (s₁.toks + 1)] }).objs.size := by rw [Heap.size_push]; exact Nat.le_succ _
    refine k _ _ _ (intsFrom 0 i.toNat) q₁ (by rw [intsFrom_length, lim]; omega) ⟨rfl, 0, by rw [intsFrom_length]; exact gI, by rw [intsFrom_length]⟩ (old y₁ hle) (old y₁ hle) (new_deck x₁ hle) (new_deck x₁ hle)
      (by show Heap.get? _ _ ≠ none; rw [gI]; simp) (by show Heap.get? _ _ ≠ none; rw [gI]; simp) (x₁.all kp rfl rfl) (y₁.trans (Step.all kp))
  | enum =>
    obtain ⟨p, pos, rfl, hg⟩ := chkIt_enum hx
    refine wpAny_Call_NameR (ld_blt O x ev (by rw [Env.kindOf, hk]; exact (isGlob_is hg).1) (isGlob_is hg).2 O.enum (PySem.callWith_type (by rw [starEach_cons hs]; rfl) ?_))
    rw [starEach_cons hs]
    refine evalArgs_plain (spliced_cons (x := eval ie renv) (wp_then (ia _ q) rm x a ev fun v s₁ d q₁ r₁ x₁ y₁ a₁ ev₁ => spliced_nil ?_))
    cases d <;> (first | (simp [itemsOf] at q₁; done) | skip)
    rename_i ds
    obtain ⟨hz, q₁⟩ := q₁
    obtain ⟨l, vs, rfl, nl, tl, rl⟩ := r₁
    refine call_enumerate_list tl.isList fun h' hE hI hsz kp => wpAny_pyIter_enum hE ?_
    have gI : h'.get? (s₁.heap.objs.size + 1) ≠ none := by rw [hE]; simp
    have gJ : h'.get? s₁.heap.objs.size ≠ none := by obtain ⟨o, ho, _⟩ := hI; rw [ho]; simp
    have el : ∀ (es : List V) (i : Nat), (enumFrom i es).length = es.length := by
      intro es; induction es with
      | nil => intro i; rfl
      | cons e es ih => intro i; simp [enumFrom, ih]
    refine k _ _ _ (enumFrom 0 ds) q₁ (by rw [el]; exact hz) ⟨Nat.succ_ne_self _, l, 0, vs, .none, ds, hE, hI, tl.keep fun o g => kp _ _ g, nll tl nl (new_none (Nat.le_succ _)) (new_none (Nat.le_refl _)), by simpa using mvl kp (new_none (Nat.le_succ _)) (new_none (Nat.le_refl _)) rl, rfl⟩ (old y₁ (Nat.le_succ _)) (old y₁ (Nat.le_refl _)) (new_deck x₁ (Nat.le_succ _)) (new_deck x₁ (Nat.le_refl _))
      gI gJ (x₁.all kp rfl rfl) (y₁.trans (Step.all kp))
end

/-- only these addresses and the deck are changed -/
noncomputable def Chg (C : Cx) (P : Addr → Prop) (s s' : Shared) : Prop := ∀ a o, C.D ≠ some a → ¬ P a → s.heap.get? a = some o → s'.heap.get? a = some o
theorem Chg.refl (C : Cx) (P : Addr → Prop) (s : Shared) : Chg C P s s := fun _ _ _ _ e => e
theorem Chg.trans {C : Cx} {P : Addr → Prop} {s s' s'' : Shared} (x : Chg C P s s') (y : Chg C P s' s'') : Chg C P s s'' := fun a o d n e => y a o d n (x a o d n e)
theorem Chg.more {C : Cx} {P R : Addr → Prop} {s s' : Shared} (x : Chg C P s s') (h : ∀ a, P a → R a) : Chg C R s s' := fun a o d n e => x a o d (fun z => n (h a z)) e
theorem Chg.step {C : Cx} {P : Addr → Prop} {s s' : Shared} (x : Step C s s') : Chg C P s s' := fun a o d n e => x.keep a o d e
theorem Chg.keeps {C : Cx} {P R : Addr → Prop} {s s' : Shared} (x : Keeps P s s') (h : ∀ a, P a → R a) : Chg C R s s' := fun a o d n e => x a o (fun z => n (h a z)) e
theorem Chg.isStep {C : Cx} {P : Addr → Prop} {s s' : Shared} (x : Chg C P s s') (h : ∀ a, P a → s.heap.get? a = none) (y : St C s') : Step C s s' :=
  ⟨fun a o d e => x a o d (fun z => by rw [h a z] at e; cases e) e, fun a d _ => by obtain ⟨vs, ns, ⟨n, g⟩, _⟩ := y.deck a d; rw [g]; simp⟩
theorem Chg.there {C : Cx} {P : Addr → Prop} {s s' : Shared} (x : Chg C P s s') (y : St C s') {a : Addr} (n : ¬ P a) (g : s.heap.get? a ≠ none) : s'.heap.get? a ≠ none := by
  by_cases d : C.D = some a
  · obtain ⟨vs, ns, ⟨n, q⟩, _⟩ := y.deck a d; rw [q]; simp
  · cases q : s.heap.get? a with
    | none => exact absurd q g
    | some o => rw [x a o d n q]; simp

section
variable {C : Cx} {av : Addr → Prop} {A : Around} {s : Shared} {n : Nat} {names : List Str} {renv : Env} {ρ : List (Option V)} {Q : V → Prop}

theorem Rep.chg {P : Addr → Prop} {s' : Shared} {d : V} {v : Value} (r : Rep C av s.heap d v) (c : Chg C P s s') (hD : ∀ a, C.D = some a → av a) (hP : ∀ a, P a → av a) : Rep C av s'.heap d v :=
  Rep.move (fun a o na g => ⟨na, c a o (fun z => na (hD a z)) (fun z => na (hP a z)) g⟩) d r
theorem RepL.chg {P : Addr → Prop} {s' : Shared} {d : List V} {v : List Value} (r : RepL C av s.heap d v) (c : Chg C P s s') (hD : ∀ a, C.D = some a → av a) (hP : ∀ a, P a → av a) : RepL C av s'.heap d v :=
  RepL.move (fun a o na g => ⟨na, c a o (fun z => na (hD a z)) (fun z => na (hP a z)) g⟩) d r

theorem EnvOk.chg {P : Addr → Prop} {s' : Shared} (e : EnvOk C names renv av s.heap ρ) (x : St C s) (c : Chg C P s s') (hD : ∀ a, C.D = some a → av a) (hP : ∀ a, P a → av a) (hL : ¬ P renv.locals) (hc : ∀ nm c, renv.cells.lookup nm = some c → ¬ P c) (x' : St C s') : EnvOk C names renv av s'.heap ρ :=
  ⟨e.kind, e.glob, e.blt, (fun i d q => by
    obtain ⟨nm, v, h1, h2, h3⟩ := e.vars i d q
    refine ⟨nm, v, h1, ?_, h3.chg c hD hP⟩
    rcases h2 with ⟨kk, m, hn, hm⟩ | ⟨kk, c', hc', hv⟩
    · have nd := ns_notDeck x hn
      obtain ⟨o, es, ep, ho, r⟩ := hn
      exact .inl ⟨kk, m, ⟨o, es, ep, c _ _ nd hL ho, r⟩, hm⟩
    · obtain ⟨o, ho, r⟩ := hv
      refine .inr ⟨kk, c', hc', o, c _ _ (fun z => ?_) (hc nm c' hc') ho, r⟩
      obtain ⟨vs, ns, ⟨n, g⟩, _⟩ := x.deck _ z
      rw [ho] at g; cases g; cases r), c.there x' hL e.there.1, fun nm a g => c.there x' (hc nm a g) (e.there.2 nm a g)⟩

theorem ItOk.chg {P : Addr → Prop} {s' : Shared} {kind : Kd} {I J : Addr} {ds : List V} (it : ItOk C av s.heap kind I J ds) (k : Chg C P s s') (hI : ¬ P I) (hJ : ¬ P J) (dI : C.D ≠ some I) (dJ : C.D ≠ some J) (hD : ∀ a, C.D = some a → av a) (hP : ∀ a, P a → av a) : ItOk C av s'.heap kind I J ds := by
  cases kind with
  | items =>
    obtain ⟨e, l, i, vs, hit, hl, nl, rl⟩ := it
    exact ⟨e, l, i, vs, isListIter_keep hit fun o g => k _ _ dI hI g, hl.keep fun o g => k _ _ (fun z => nl (hD _ z)) (fun z => nl (hP _ z)) g, nl, rl.chg k hD hP⟩
  | range =>
    obtain ⟨e, x, hr, hd⟩ := it
    exact ⟨e, x, k _ _ dI hI hr, hd⟩
  | enum =>
    obtain ⟨e, l, i, vs, old, es, he, hit, hl, nl, rl, hd⟩ := it
    exact ⟨e, l, i, vs, old, es, k _ _ dI hI he, isListIter_keep hit fun o g => k _ _ dJ hJ g, hl.keep fun o g => k _ _ (fun z => nl (hD _ z)) (fun z => nl (hP _ z)) g, nl, rl.chg k hD hP, hd⟩

/-- the iterator with more addresses avoided that are new -/
theorem ItOk.more {av' : Addr → Prop} {s' : Shared} {kind : Kd} {I J : Addr} {ds : List V} (it : ItOk C av s.heap kind I J ds) (k : Step C s s') (dI : C.D ≠ some I) (dJ : C.D ≠ some J) (hD : ∀ a, C.D = some a → av a) (w : ∀ a, av' a → av a ∨ s.heap.get? a = none) : ItOk C av' s'.heap kind I J ds := by
  have rl' : ∀ (ds : List V) (vs : List Value), RepL C av s.heap ds vs → RepL C av' s'.heap ds vs := fun ds vs r =>
    RepL.move (fun b o nb g => ⟨fun z => (w b z).elim nb fun z => (by rw [z] at g; cases g), k.keep b o (fun z => nb (hD b z)) g⟩) ds r
  have nl' : ∀ {l vs}, LstAt s.heap l vs → ¬ av l → ¬ av' l := fun {l vs} hl nl z => by
    rcases w l z with z | z
    · exact nl z
    · obtain ⟨n, g⟩ := hl; rw [z] at g; cases g
  cases kind with
  | items =>
    obtain ⟨e, l, i, vs, hit, hl, nl, rl⟩ := it
    exact ⟨e, l, i, vs, isListIter_keep hit fun o g => k.keep _ _ dI g, hl.keep fun o g => k.keep _ _ (fun z => nl (hD _ z)) g, nl' hl nl, rl' _ _ rl⟩
  | range =>
    obtain ⟨e, x, hr, hd⟩ := it
    exact ⟨e, x, k.keep _ _ dI hr, hd⟩
  | enum =>
    obtain ⟨e, l, i, vs, old, es, he, hit, hl, nl, rl, hd⟩ := it
    exact ⟨e, l, i, vs, old, es, k.keep _ _ dI he, isListIter_keep hit fun o g => k.keep _ _ dJ g, hl.keep fun o g => k.keep _ _ (fun z => nl (hD _ z)) g, nl' hl nl, rl' _ _ rl, hd⟩

theorem closure_go (renv : Env) : ∀ (ns : List (Str × NameKind)) (cs : List (Str × Addr)), (∀ x ∈ ns, x.2 = .free → ∃ c, renv.cells.lookup x.1 = some c) →
    ∃ cl, (forIn ns cs fun x cs => (match x with
        | (name, kind) => if (kind == NameKind.free) = true then do
            let __do_lift ← cellOf renv name
            have cs : List (Str × Addr) := (name, __do_lift) :: cs
            pure (ForInStep.yield cs)
          else pure (ForInStep.yield cs) : Sem (ForInStep (List (Str × Addr))))) = pure cl ∧
      ∀ nm, cl.lookup nm = if (nm, NameKind.free) ∈ ns then renv.cells.lookup nm else cs.lookup nm
  | [], cs, h => ⟨cs, by simp, fun nm => by simp⟩
  | (x, k) :: ns, cs, h => by
    by_cases hk : k = .free
    · subst hk
      obtain ⟨c, hc⟩ := h (x, .free) List.mem_cons_self rfl
      obtain ⟨cl, h1, h2⟩ := closure_go renv ns ((x, c) :: cs) fun y hy => h y (List.mem_cons_of_mem _ hy)
      refine ⟨cl, ?_, fun nm => ?_⟩
      · rw [List.forIn_cons]
        have : cellOf renv x = pure c := by unfold cellOf; rw [hc]
        simp only [this]
        exact h1
      · rw [h2 nm]
        by_cases hm : (nm, NameKind.free) ∈ ns
        · simp [hm]
        · rw [if_neg hm]
          by_cases hx : nm = x
          · subst hx; simp [hc]
          · have : (nm == x) = false := by simpa using hx
            simp [hm, hx, List.lookup_cons, this]
    · obtain ⟨cl, h1, h2⟩ := closure_go renv ns cs fun y hy => h y (List.mem_cons_of_mem _ hy)
      refine ⟨cl, ?_, fun nm => ?_⟩
      · rw [List.forIn_cons]
        have : (k == NameKind.free) = false := by simpa using hk
        simp only [this]
        exact h1
      · rw [h2 nm]
        have hk' : ¬ NameKind.free = k := fun z => hk z.symm
        simp [hk']

theorem closure_of {sc : Scope} (h : ∀ x ∈ sc.names, x.2 = .free → ∃ c, renv.cells.lookup x.1 = some c) :
    ∃ cl, closureFor sc renv = pure cl ∧ ∀ nm, cl.lookup nm = if (nm, NameKind.free) ∈ sc.names then renv.cells.lookup nm else none := by
  obtain ⟨cl, h1, h2⟩ := closure_go renv sc.names [] h
  refine ⟨cl, ?_, fun nm => by rw [h2 nm]; rfl⟩
  unfold closureFor
  exact (congrArg (fun m => m >>= fun cs => pure cs) h1).trans rfl

theorem lookup_rel {kinds : Kinds} {nm : Str} : ∀ {ns : Kinds}, ns.lookup nm = some .free → kinds.lookup nm = some .cell → (relNames kinds ns).lookup nm = some .cell
  | [], h, _ => by simp at h
  | (x, k) :: ns, h, hk => by
    by_cases hx : (nm == x) = true
    · simp only [List.lookup_cons, hx] at h
      have hk' : k = .free := by simpa using h
      have hx' : nm = x := by simpa using hx
      subst hk'; subst hx'
      simp [relNames, hk]
    · have hx : (nm == x) = false := by simpa using hx
      simp only [List.lookup_cons, hx] at h
      have := lookup_rel h hk
      simp only [relNames, List.map_cons] at this ⊢
      split <;> simp only [List.lookup_cons, hx] <;> exact this
theorem mem_of_lookup {nm : Str} {k : NameKind} : ∀ {ns : Kinds}, ns.lookup nm = some k → (nm, k) ∈ ns
  | [], h => by simp at h
  | (x, k') :: ns, h => by
    by_cases hx : (nm == x) = true
    · simp only [List.lookup_cons, hx] at h
      have hk : k' = k := by simpa using h
      have hx' : nm = x := by simpa using hx
      rw [hk, hx']; exact List.mem_cons_self
    · have hx : (nm == x) = false := by simpa using hx
      simp only [List.lookup_cons, hx] at h
      exact List.mem_cons_of_mem _ (mem_of_lookup h)
theorem relabel_names {sc : Scope} {kinds : Kinds} (hk : renv.scope.names = kinds) (hf : renv.scope.kind = .function) : (relabel sc renv).names = relNames kinds sc.names := by
  unfold relabel relNames
  refine List.map_congr_left fun x _ => ?_
  obtain ⟨n, k⟩ := x
  simp [Env.kindOf, hk, hf]

/-- the captured names, cell by cell -/
theorem caps_ok {h : Heap} (e : EnvOk C names renv av h ρ) {kinds : Kinds} (hk : renv.scope.names = kinds) : ∀ {caps : List Nat} {cs : List V}, capsOf ρ caps = some cs → (caps.all (fun c => (names[c]?).any fun nm => kinds.lookup nm == some .cell)) = true →
    (caps.filterMap (names[·]?)).length = caps.length ∧ cs.length = caps.length ∧ ∀ (i : Nat) (d : V), cs[i]? = some d → ∃ nm v c, (caps.filterMap (names[·]?))[i]? = some nm ∧ kinds.lookup nm = some .cell ∧ renv.cells.lookup nm = some c ∧ h.IsCell c (some v) ∧ Rep C av h d v
  | [], cs, hc, _ => by
    simp only [capsOf, Option.some.injEq] at hc
    subst hc
    exact ⟨rfl, rfl, fun i d q => by simp at q⟩
  | x :: caps, cs, hc, ha => by
    simp only [capsOf] at hc
    cases h1 : lk ρ x with
    | none => simp [h1] at hc
    | some d =>
      cases h2 : capsOf ρ caps with
      | none => simp [h1, h2] at hc
      | some ds =>
        simp only [h1, h2, Option.some.injEq] at hc
        subst hc
        simp only [List.all_cons, Bool.and_eq_true] at ha
        obtain ⟨l1, l2, l3⟩ := caps_ok e hk h2 ha.2
        obtain ⟨nm, v, q1, q2, q3⟩ := e.vars x d h1
        have hk' : kinds.lookup nm = some .cell := by have := ha.1; rw [q1] at this; simpa using this
        rcases q2 with ⟨kk, _⟩ | ⟨kk, c, hcc, hv⟩
        · rw [Env.kindOf, hk, hk'] at kk; cases kk
        · simp only [List.filterMap_cons, q1]
          refine ⟨by simp [l1], by simp [l2], fun i d' q => ?_⟩
          cases i with
          | zero => simp at q; subst q; exact ⟨nm, v, c, by simp, hk', hcc, hv, q3⟩
          | succ i => simp at q; obtain ⟨nm', v', c', r⟩ := l3 i d' q; exact ⟨nm', v', c', by simpa using r⟩

theorem lk_caps : ∀ {cs : List V} {n i : Nat} {d : V}, lk (cs.map some ++ List.replicate n none) i = some d → cs[i]? = some d
  | [], n, i, d, h => by
    exfalso
    induction n generalizing i with
    | zero => simp [lk] at h
    | succ n ih => cases i with
      | zero => simp [List.replicate_succ, lk] at h
      | succ i => simp only [List.map_nil, List.nil_append, List.replicate_succ, lk] at h; exact ih i (by simpa using h)
  | c :: cs, n, 0, d, h => by simpa [lk] using h
  | c :: cs, n, i + 1, d, h => by simp only [List.map_cons, List.cons_append, lk] at h; simpa using lk_caps h

/-- the frame of a comprehension -/
theorem comp_env {h : Heap} {kinds : Kinds} {sc : Scope} {cl : List (Str × Addr)} {L : Addr} {caps : List Nat} {cs : List V} {ext : List Str} {k : Nat} (e : EnvOk C names renv av h ρ) (hk : renv.scope.names = kinds) (hsk : sc.kind = .function)
    (hcs : capsOf ρ caps = some cs) (ha : (caps.all (fun c => (names[c]?).any fun nm => kinds.lookup nm == some .cell)) = true) (hfree : ∀ nm ∈ caps.filterMap (names[·]?), sc.names.lookup nm = some .free)
    (hcl : ∀ nm, cl.lookup nm = if (nm, NameKind.free) ∈ sc.names then renv.cells.lookup nm else none) (hLt : h.get? L ≠ none) :
    EnvOk C (caps.filterMap (names[·]?) ++ ext) (compEnvC sc cl L renv) av h (cs.map some ++ List.replicate k none) := by
  obtain ⟨l1, l2, l3⟩ := caps_ok e hk hcs ha
  refine ⟨hsk, e.glob, e.blt, fun i d q => ?_, hLt, fun nm c g => ?_⟩
  rotate_left
  · have g : cl.lookup nm = some c := g
    rw [hcl nm] at g
    split at g
    · exact e.there.2 nm c g
    · cases g
  obtain ⟨nm, v, c, q1, q2, q3, q4, q5⟩ := l3 i d (lk_caps q)
  have hm := hfree nm (List.mem_of_getElem? q1)
  refine ⟨nm, v, ?_, .inr ⟨?_, c, ?_, q4⟩, q5⟩
  · rw [List.getElem?_append_left (List.getElem?_eq_some_iff.mp q1).1]; exact q1
  · show (relabel sc renv).names.lookup nm = _
    rw [relabel_names hk e.kind]
    exact lookup_rel hm q2
  · show cl.lookup nm = some c
    rw [hcl nm, if_pos (mem_of_lookup hm)]; exact q3

theorem codeAny_compLoop_any {elt target iter : PySem.Expr} {scope : Scope} {pos : Pos} {it acc : Value} {env : Env} {R : Result → Shared → Prop} {prog : Program} {w : World} (I : Nat → Shared → Prop)
    (turn : ∀ n s, I n s → wpAny (model prog w) A (pyNext it) (fun r s₁ => match r with
      | none => R (.ok .next) s₁
      | some v => wpAny (model prog w) A (letOwnedTupleGo target it v) (fun _ s₁' => wpAny (model prog w) A (assign target env v) (fun _ s₂ => wpAny (model prog w) A (eval elt env) (fun x s₃ =>
          wpAny (model prog w) A (call (.builtin "list.append") [acc, x]) (fun _ s₄ => ∃ m, m < n ∧ I m s₄) NoE s₃) NoE s₂) NoE s₁') NoE s₁) NoE s)
    (n : Nat) (h : I n s) :
    codeAny (model prog w) A (.compLoop (.ListComp elt [⟨target, iter, [], 0⟩] scope pos) 0 it acc env) R s := by
  refine codeAny_loop rfl I (fun n s hI => ?_) n h
  show wpAny _ _ ((compTurn (.ListComp elt [⟨target, iter, [], 0⟩] scope pos) 0 it acc env).onRaise (fun x => do noteFrame x env; theTreesLotGoes x)) _ _ s
  refine wpAny_noted ?_
  rw [compTurn_list1]
  refine wpAny_bind (wpAny_standAt (wpAny_bind (wpAny_mono (turn n s hI) (fun r s₁ h₁ => ?_) fun _ _ h' => noE h')))
  cases r with
  | none => exact wpAny_pure h₁
  | some v =>
    refine wpAny_bind (wpAny_mono h₁ (fun _ s₁' h₁' => ?_) fun _ _ h' => noE h')
    exact wpAny_bind (wpAny_mono h₁' (fun _ s₂ h₂ => wpAny_bind (wpAny_bind (wpAny_mono h₂ (fun x s₃ h₃ => wpAny_bind (wpAny_mono h₃
      (fun _ s₄ h₄ => wpAny_pure (wpAny_pure ⟨rfl, h₄⟩)) fun _ _ h' => noE h')) fun _ _ h' => noE h'))) fun _ _ h' => noE h')

theorem it_self {kind : Kd} {I J : Addr} {ds : List V} {P : Value → Shared → Prop} {E : Value → Shared → Prop} (it : ItOk C av s.heap kind I J ds) (k : P (.ref I) s) : wpAny (model C.prog C.w) A (pyIter (.ref I)) P E s := by
  cases kind with
  | items =>
    obtain ⟨rfl, l, i, vs, hit, _⟩ := it
    exact wpAny_pyIter_listiter hit k
  | range =>
    obtain ⟨rfl, x, hr, _⟩ := it
    exact wpAny_pyIter_rangeiter hr k
  | enum =>
    obtain ⟨_, l, i, vs, old, es, he, _⟩ := it
    exact wpAny_pyIter_enum he k

theorem ItOk.notList {kind : Kd} {I J : Addr} {ds : List V} (it : ItOk C av s.heap kind I J ds) : (∀ vs, ¬ LstAt s.heap I vs) ∧ ∀ vs, ¬ LstAt s.heap J vs := by
  have li : ∀ {K l i}, s.heap.IsListIter K l i → ∀ vs, ¬ LstAt s.heap K vs := fun {K l i} h vs ⟨n, g⟩ => by
    obtain ⟨o, ho, hc, hd⟩ := h
    rw [g] at ho; cases ho; cases hd
  cases kind with
  | items =>
    obtain ⟨rfl, l, i, vs, hit, _⟩ := it
    exact ⟨li hit, li hit⟩
  | range =>
    obtain ⟨rfl, x, hr, _⟩ := it
    have : ∀ vs, ¬ LstAt s.heap J vs := fun vs ⟨n, g⟩ => by rw [hr] at g; have := congrArg (Option.map Obj.data) g; simp at this
    exact ⟨this, this⟩
  | enum =>
    obtain ⟨_, l, i, vs, old, es, he, hit, _⟩ := it
    exact ⟨(fun vs ⟨n, g⟩ => by rw [he] at g; have := congrArg (Option.map Obj.data) g; simp at this), li hit⟩
end

theorem chkScope_is {kinds : Kinds} {caps : List Str} {sc : Scope} (h : chkScope kinds caps sc = true) :
    sc.kind = .function ∧ (∀ x ∈ sc.names, x.2 ≠ .cell) ∧ (∀ x ∈ sc.names, x.2 = .local → sc.names.lookup x.1 = some .local) ∧ (∀ x ∈ sc.names, x.2 = .free → x.1 ∈ caps) ∧ ∀ nm ∈ caps, sc.names.lookup nm = some .free := by
  simp only [chkScope, Bool.and_eq_true, List.all_eq_true] at h
  obtain ⟨⟨h1, h2⟩, h3⟩ := h
  refine ⟨by simpa using h1, fun x hx z => ?_, fun x hx z => ?_, fun x hx z => ?_, fun nm hm => ?_⟩
  · have := (h2 x hx).1.1; simp [z] at this
  · have := (h2 x hx).1.2; simpa [z] using this
  · have := (h2 x hx).2; simp [z] at this; exact this.1
  · have := h3 nm hm
    cases q : sc.names.lookup nm with
    | none => simp [q] at this
    | some k => cases k <;> simp_all

section
variable {C : Cx} {av : Addr → Prop} {A : Around} {s : Shared} {n : Nat} {names : List Str} {renv : Env} {ρ : List (Option V)} {Q : V → Prop}

/-- the comprehension's heart -/
theorem comp_core {kinds : Kinds} {kind : Kd} {tgt : Tgt} {t elt xe ie : PySem.Expr} {sc : Scope} {pos : Pos} {caps : List Nat} {cs : List V} {ext : List Str} {wa : (V → Prop) → Prop} {we : List (Option V) → (V → Prop) → Prop} {Qr : List V → Prop}
    (O : C.Ok) (hk : renv.scope.names = kinds) (hx : itExpr kinds kind xe = some ie) (hs : notStarred ie = true) (ia : ∀ Q, wa Q → Ev C n names renv ρ ie Q)
    (hcs : capsOf ρ caps = some cs)
    (q : wa fun v => itemsOf kind v fun vs => mapW (fun v Q' => match bindT tgt v (cs.map some ++ List.replicate tgt.size none) with
      | some ρ' => we ρ' Q'
      | none => False) vs Qr)
    (ie' : ∀ cenv ρ' Q', cenv.scope.names = relNames kinds sc.names → we ρ' Q' → Ev C n (caps.filterMap (names[·]?) ++ ext) cenv ρ' elt Q')
    (hsc : chkScope kinds (caps.filterMap (names[·]?)) sc = true) (hca : (caps.all (fun c => (names[c]?).any fun nm => kinds.lookup nm == some .cell)) = true)
    (htgt : chkTgt (relNames kinds sc.names) (caps.filterMap (names[·]?) ++ ext) tgt t = true) (hen : enumTgt kind tgt = true) (hnd : (caps.filterMap (names[·]?) ++ ext).Nodup)
    (rm : Room n A) (x : St C s) (a : AvOk C av s.heap) (ev : EnvOk C names renv av s.heap ρ) :
    ∃ cl, closureFor sc renv = pure cl ∧ ∀ {RR : Value → Addr → Result → Shared → Prop},
    (∀ D L s' rs vs m, Qr rs → s.heap.get? D = none → s.heap.get? L = none → D ≠ L → s'.heap.Ns L m → LstAt s'.heap D vs → RepL C (fun b => av b ∨ b = L ∨ b = D) s'.heap rs vs → St C s' → Step C s s' → RR (.ref D) L (.ok .next) s') →
    wpAny (model C.prog C.w) A (eval xe renv) (fun xv s₁ => wpAny (model C.prog C.w) A (pyIter xv) (fun it s₂ => wpAny (model C.prog C.w) A (newList []) (fun acc s₃ =>
      wpAny (model C.prog C.w) A (newFunctionEnv sc renv.globals cl [] renv.qual none .none (some renv)) (fun cenv s₄ =>
        codeAny (model C.prog C.w) A (.compStart (.ListComp elt [⟨t, xe, [], 0⟩] sc pos) 0 it acc { cenv with scope := relabel sc renv }) (RR acc cenv.locals) s₄) NoE s₃) NoE s₂) NoE s₁) NoE s := by
  obtain ⟨k1, k2, k3, k4, k5⟩ := chkScope_is hsc
  obtain ⟨l1, l2, l3⟩ := caps_ok ev hk hcs hca
  have hfr : ∀ y ∈ sc.names, y.2 = .free → ∃ c, renv.cells.lookup y.1 = some c := fun y hy hf => by
    obtain ⟨i, hi⟩ := List.mem_iff_getElem?.mp (k4 y hy hf)
    have hlt : i < cs.length := by rw [l2, ← l1]; exact (List.getElem?_eq_some_iff.mp hi).1
    obtain ⟨nm, v, c, q1, q2, q3, _⟩ := l3 i cs[i] (List.getElem?_eq_getElem hlt)
    rw [hi] at q1; cases q1
    exact ⟨c, q3⟩
  obtain ⟨cl, hcl, hlk⟩ := closure_of hfr
  refine ⟨cl, hcl, fun {RR} k => ?_⟩
  refine wpAny_mono (it_start (P := fun it s₂ => wpAny (model C.prog C.w) A (newList []) (fun acc s₃ =>
      wpAny (model C.prog C.w) A (newFunctionEnv sc renv.globals cl [] renv.qual none .none (some renv)) (fun cenv s₄ =>
        codeAny (model C.prog C.w) A (.compStart (.ListComp elt [⟨t, xe, [], 0⟩] sc pos) 0 it acc { cenv with scope := relabel sc renv }) (RR acc cenv.locals) s₄) NoE s₃) NoE s₂)
    O hk hx hs ia q rm x a ev fun I J s₂ ds qd hz it nI nJ dI dJ tI tJ x₂ y₂ => ?_) (fun _ _ p => p) fun _ _ e => e
  refine wpAny_newObj_type (wpAny_newFunctionEnv k2 (by intro y hy; simp at hy) (fun h₁ hns hsb => ?_) k1)
  have hnew := @new_none s₂.heap
  have kp : ∀ b o, s₂.heap.get? b = some o → h₁.get? b = some o := fun b o g => hsb.extBut b o (by
      rintro rfl
      have := Heap.lt_size g
      simp only [Heap.size_push] at this
      exact Nat.not_succ_lt_self this) (Heap.get?_push_of_some _ (Heap.get?_push_of_some _ g))
  generalize hD : s₂.heap.objs.size = D at hns hsb ⊢
  have hLe : (s₂.heap.push { cls := .type "list", dict := none, data := .seq ([] : List Value).toArray }).objs.size = D + 1 := by rw [Heap.size_push, hD]
  simp only [hLe] at hns hsb ⊢
  have hDl : LstAt h₁ D [] := ⟨_, hsb.extBut _ _ (Nat.ne_of_lt (Nat.lt_succ_self D)) (Heap.get?_push_of_some _ (by rw [← hD]; exact Heap.get?_push_size _ rfl))⟩
  -- what is ours
  have gD2 : s₂.heap.get? D = none := hnew (Nat.le_of_eq hD)
  have gL2 : s₂.heap.get? (D + 1) = none := hnew (by rw [hD]; exact Nat.le_succ D)
  have gD : s.heap.get? D = none := by
    cases g : s.heap.get? D with
    | none => rfl
    | some o => exact absurd gD2 (y₂.there (by rw [g]; simp))
  have gL : s.heap.get? (D + 1) = none := by
    cases g : s.heap.get? (D + 1) with
    | none => rfl
    | some o => exact absurd gL2 (y₂.there (by rw [g]; simp))
  have hDI : D ≠ I := fun z => tI (z ▸ gD2)
  have hDJ : D ≠ J := fun z => tJ (z ▸ gD2)
  have hLI : D + 1 ≠ I := fun z => tI (z ▸ gL2)
  have hLJ : D + 1 ≠ J := fun z => tJ (z ▸ gL2)
  have dD : C.D ≠ some D := new_deck x₂ (Nat.le_of_eq hD)
  have dL : C.D ≠ some (D + 1) := new_deck x₂ (by rw [hD]; exact Nat.le_succ D)
  let P : Addr → Prop := fun b => b = I ∨ b = J ∨ b = D ∨ b = D + 1
  let av' : Addr → Prop := fun b => av b ∨ P b
  have nP : ∀ b, P b → s.heap.get? b = none := fun b z => by
    rcases z with z | z | z | z <;> rw [z] <;> assumption
  have oP : ∀ b, P b → Own C av' b := fun b z => ⟨.inr z, (by
      cases g : C.h₀.get? b with
      | none => rfl
      | some o => have := x.keep b o g; rw [nP b z] at this; cases this), (by rcases z with z | z | z | z <;> rw [z] <;> assumption)⟩
  have hDv : ∀ b, C.D = some b → av' b := fun b z => .inl (a.deck b z)
  have hPv : ∀ b, P b → av' b := fun b z => .inr z
  have nloc : ¬ P renv.locals := fun z => ev.there.1 (nP _ z)
  have ncel : ∀ nm c, renv.cells.lookup nm = some c → ¬ P c := fun nm c g z => ev.there.2 nm c g (nP _ z)
  let ρ0 := cs.map some ++ List.replicate tgt.size none
  let cenv := compEnvC sc cl (D + 1) renv
  have s1 : St C { s₂ with heap := h₁, toks := s₂.toks + ([] : List (Str × Value)).length } := x₂.all kp rfl rfl
  have y1 : Step C s { s₂ with heap := h₁, toks := s₂.toks + ([] : List (Str × Value)).length } := y₂.trans (Step.all kp)
  have avt : AvOk C av' h₁ := ⟨hDv, fun b z => by
      show h₁.get? b ≠ none
      rcases z with z | z | z | z | z
      · exact y1.there (a.there b z)
      · rw [z]; exact some_keep kp tI
      · rw [z]; exact some_keep kp tJ
      · rw [z]; obtain ⟨n, g⟩ := hDl; rw [g]; simp
      · rw [z]; obtain ⟨o, _, _, ho, _⟩ := hns; rw [ho]; simp⟩
  have moreR : ∀ {h : Heap} (d : V) (v : Value), Rep C av s.heap d v → (∀ b o, C.D ≠ some b → s.heap.get? b = some o → h.get? b = some o) → Rep C av' h d v := fun {h} d v r kk =>
    Rep.move (fun b o nb g => ⟨fun z => z.elim nb fun z => (by rw [nP b z] at g; cases g), kk b o (fun z => nb (a.deck b z)) g⟩) d r
  have ev1 : EnvOk C names renv av' h₁ ρ := ⟨ev.kind, ev.glob, ev.blt, fun i d g => by
      obtain ⟨nm, v, e1, e2, e3⟩ := ev.vars i d g
      exact ⟨nm, v, e1, e2.step x y1, moreR d v e3 y1.keep⟩, y1.there ev.there.1, fun nm c g => y1.there (ev.there.2 nm c g)⟩
  have it1 : ItOk C av' h₁ kind I J ds :=
    ItOk.more (s' := { s₂ with heap := h₁ }) it (Step.all kp) dI dJ (fun b z => .inl (a.deck b z)) fun b z => by
      rcases z with z | z | z | z | z
      · exact .inl (.inl z)
      · exact .inl (.inr (.inl z))
      · exact .inl (.inr (.inr z))
      · rw [z]; exact .inr gD2
      · rw [z]; exact .inr gL2
  have cnk : cenv.scope.names = relNames kinds sc.names := relabel_names hk ev.kind
  have loop : ∀ (it0 : Value), it0 = .ref I → codeAny (model C.prog C.w) A (.compLoop (.ListComp elt [⟨t, xe, [], 0⟩] sc pos) 0 it0 (.ref D) cenv) (RR (.ref D) (D + 1)) { s₂ with heap := h₁, toks := s₂.toks + ([] : List (Str × Value)).length } := by
    rintro _ rfl
    let Inv : Nat → Shared → Prop := fun m s₅ => ∃ (rest done : List V) (vs : List Value) (mm : Str → Option Value), m = rest.length ∧ ItOk C av' s₅.heap kind I J rest ∧ EnvOk C names renv av' s₅.heap ρ ∧ AvOk C av' s₅.heap ∧ St C s₅ ∧
      s₅.heap.Ns (D + 1) mm ∧ LstAt s₅.heap D vs ∧ RepL C av' s₅.heap done vs ∧ mapW (fun v Q' => match bindT tgt v ρ0 with
      | some ρ' => we ρ' Q'
      | none => False) rest (fun rs => Qr (done ++ rs)) ∧ done.length + rest.length ≤ lim ∧ Chg C P s s₅
    refine codeAny_compLoop_any Inv ?_ ds.length
      ⟨ds, [], [], _, rfl, it1, ev1, avt, s1, hns, hDl, RepL.nil, by simpa using qd, by simpa using hz, Chg.step y1⟩
    rintro m s₅ ⟨rest, done, vs, mm, rfl, it₅, ev₅, a₅, x₅, ns₅, l₅, r₅, q₅, z₅, c₅⟩
    have PI : P I := .inl rfl
    have PJ : P J := .inr (.inl rfl)
    have PD : P D := .inr (.inr (.inl rfl))
    have PL : P (D + 1) := .inr (.inr (.inr rfl))
    have kk : ∀ {s s' : Shared}, Keeps (fun b => b = I ∨ b = J) s s' → Chg C P s s' := fun k => Chg.keeps k fun b z => z.elim .inl fun z => .inr (.inl z)
    cases rest with
    | nil =>
      refine it_end rm.hd it₅ (oP I PI) (oP J PJ) x₅ fun s₆ x₆ k₆ => ?_
      refine k D (D + 1) s₆ done vs mm (by simpa [mapW] using q₅) gD gL (Nat.ne_of_lt (Nat.lt_succ_self D)) ?_ (l₅.keep fun o g => k₆ _ _ (fun z => z.elim hDI hDJ) g) ?_ x₆ (Chg.isStep (c₅.trans (kk k₆)) nP x₆)
      · obtain ⟨o, es, ep, ho, r⟩ := ns₅
        exact ⟨o, es, ep, k₆ _ _ (fun z => z.elim hLI hLJ) ho, r⟩
      · refine RepL.less (r₅.chg (kk k₆) hDv hPv) fun b z => ?_
        rcases z with z | z | z
        · exact .inl z
        · exact .inr (z ▸ PL)
        · exact .inr (z ▸ PD)
    | cons d rest =>
      simp only [mapW] at q₅
      cases hb : bindT tgt d ρ0 with
      | none => rw [hb] at q₅; exact q₅.elim
      | some ρ' =>
        rw [hb] at q₅
        refine wpAny_mono (it_next (P := fun v s₁' => wpAny (model C.prog C.w) A (assign t cenv v) (fun _ s₂' => wpAny (model C.prog C.w) A (eval elt cenv) (fun x s₃ =>
          wpAny (model C.prog C.w) A (call (.builtin "list.append") [.ref D, x]) (fun _ s₄ => ∃ m', m' < (d :: rest).length ∧ Inv m' s₄) NoE s₃) NoE s₂') NoE s₁') it₅ (oP I PI) (oP J PJ) a₅ x₅ htgt hb (fun z => ?_) fun v s₆ it₆ r₆ x₆ k₆ => ?_) (fun r s₁ p => ?_) fun _ _ e => e
        rotate_right
        · obtain ⟨v, rfl, p⟩ := p
          exact p
        · subst z
          cases tgt with
          | one => simp [enumTgt] at hen
          | many ys => exact ⟨ys, rfl⟩
        · have c₆ := c₅.trans (kk k₆)
          have ev₆ : EnvOk C names renv av' s₆.heap ρ := ev₅.chg x₅ (kk k₆) hDv hPv nloc ncel x₆
          have ns₆ : s₆.heap.Ns (D + 1) mm := by
            obtain ⟨o, es, ep, ho, r⟩ := ns₅
            exact ⟨o, es, ep, k₆ _ _ (fun z => z.elim hLI hLJ) ho, r⟩
          have tL : s₆.heap.get? (D + 1) ≠ none := by obtain ⟨o, _, _, ho, _⟩ := ns₆; rw [ho]; simp
          have ce₆ : EnvOk C (caps.filterMap (names[·]?) ++ ext) cenv av' s₆.heap ρ0 := comp_env ev₆ hk k1 hcs hca k5 hlk tL
          have a₆ : AvOk C av' s₆.heap := ⟨hDv, fun b z => by
            by_cases w : b = I ∨ b = J
            · rcases w with w | w
              · exact w ▸ (by
                  cases kind with
                  | items => obtain ⟨_, _, _, _, ⟨o, ho, _⟩, _⟩ := it₆; rw [ho]; simp
                  | range => obtain ⟨_, _, hr, _⟩ := it₆; rw [hr]; simp
                  | enum => obtain ⟨_, _, _, _, _, _, he, _⟩ := it₆; rw [he]; simp)
              · exact w ▸ (by
                  cases kind with
                  | items => obtain ⟨e, _, _, _, ⟨o, ho, _⟩, _⟩ := it₆; rw [e, ho]; simp
                  | range => obtain ⟨e, _, hr, _⟩ := it₆; rw [e, hr]; simp
                  | enum => obtain ⟨_, _, _, _, _, _, _, ⟨o, ho, _⟩, _⟩ := it₆; rw [ho]; simp)
            · exact k₆.there w (a₅.there b z)⟩
          have l₆ := l₅.keep fun o g => k₆ _ _ (fun z => z.elim hDI hDJ) g
          have rl₆ := r₅.chg (kk k₆) hDv hPv
          refine bind_tgt (renv := cenv) (kinds := relNames kinds sc.names) cnk rm.hd (.inr PL) (oP _ PL).new hnd htgt hb x₆ ce₆ ns₆ r₆ fun s₇ m₇ x₇ ce₇ k₇ ns₇ t₇ _ => ?_
          have kL : Chg C P s₆ s₇ := Chg.keeps k₇ fun b z => (z : b = D + 1) ▸ PL
          have a₇ : AvOk C av' s₇.heap := ⟨hDv, fun b z => t₇ b (a₆.there b z)⟩
          have ev₇ := ev₆.chg x₆ kL hDv hPv nloc ncel x₇
          have l₇ := l₆.keep fun o g => k₇ _ _ (fun z => Nat.ne_of_lt (Nat.lt_succ_self D) z) g
          have rl₇ := rl₆.chg kL hDv hPv
          have it₇ := it₆.keeps k₇ (fun z => hLI z.symm) (fun z => hLJ z.symm) fun b z => .inr ((z : b = D + 1) ▸ PL)
          refine wp_then (ie' cenv ρ' _ cnk q₅) rm x₇ a₇ ce₇ fun w s₈ d₈ q₈ r₈ x₈ y₈ a₈ ce₈ => ?_
          have l₈ := l₇.keep fun o g => y₈.keep _ _ dD g
          have rl₈ := rl₇.step a₇ y₈
          obtain ⟨e1, e2⟩ := And.intro rl₈.length z₅
          refine wpAny_list_append_plain (l₈ : s₈.heap.PlainList D vs.toArray) (fun h' hl' hs' => ?_) (size_lim (by simp only [List.length_cons] at e2; omega))
          have kD : Keeps (· = D) s₈ { s₈ with heap := h' } := fun b o nb g => (hs'.2 b nb).trans g
          have kD' : Chg C P s₈ { s₈ with heap := h' } := Chg.keeps kD fun b z => (z : b = D) ▸ PD
          have x₉ : St C { s₈ with heap := h' } := x₈.keeps kD (fun b z => (z : b = D) ▸ (oP D PD).new) (fun b z => (z : b = D) ▸ dD) rfl rfl
          have hl9 : LstAt h' D (vs ++ [w]) := by
            obtain ⟨n, g⟩ := hl'
            exact ⟨n, by rw [g]; simp⟩
          refine ⟨rest.length, Nat.lt_succ_self _, rest, done ++ [d₈], vs ++ [w], m₇, rfl, ?_, ?_, ?_, x₉, ?_, hl9, ?_, by simpa using q₈, by simp only [List.length_cons, List.length_append, List.length_nil] at e2 ⊢; omega, ?_⟩
          · exact ((it₇.chg (Chg.step (P := fun _ => False) y₈) id id dI dJ hDv fun b z => z.elim).keeps kD (fun z => hDI z.symm) (fun z => hDJ z.symm) fun b z => .inr ((z : b = D) ▸ PD))
          · exact (ev₇.step x₇ a₇ y₈).chg x₈ kD' hDv hPv nloc ncel x₉
          · exact ⟨hDv, fun b z => by
              by_cases w : b = D
              · obtain ⟨n, g⟩ := hl9; show h'.get? b ≠ none; rw [w, g]; simp
              · exact kD.there w (a₈.there b z)⟩
          · obtain ⟨o, es, ep, ho, r⟩ := ns₇
            exact ⟨o, es, ep, kD _ _ (fun z => Nat.ne_of_lt (Nat.lt_succ_self D) z.symm) (y₈.keep _ _ dL ho), r⟩
          · exact (rl₈.append (RepL.one r₈)).chg kD' hDv hPv
          · exact (c₆.trans kL).trans ((Chg.step y₈).trans kD')
  exact codeAny_compStart_list (loop _ rfl) (it_self (E := _) it1 (loop _ rfl))
end

theorem tq_is {k : Nat} {x : PySem.Expr} (h : tq k x = true) : tag x = k := Nat.eq_of_beq_eq_true h
/-- what is seen of a node by its kind -/
noncomputable def Plain (x : PySem.Expr) : Prop := notStarred x = true ∧ noSet x = true ∧ noSlice x = true ∧ noBool x = true
theorem plain_of (x : PySem.Expr) (h : Nat.blt (tag x) 12 = true) : Plain x := by
  cases x <;> first | exact ⟨rfl, rfl, rfl, rfl⟩ | exact Bool.noConfusion h
theorem ncomp_of (x : PySem.Expr) (h : Nat.blt (tag x) 12 = true) (h9 : (!Nat.beq (tag x) 9) = true) : isComp x = false := by
  cases x <;> first | rfl | exact Bool.noConfusion h | exact Bool.noConfusion h9
noncomputable def notCmp : E → Bool
  | .cmp .. => false
  | _ => true
noncomputable def notComp : E → Bool
  | .comp .. => false
  | _ => true
noncomputable def okTag (e : E) (k : Nat) : Bool := Nat.blt k 12 && ((notCmp e == !Nat.beq k 6) && (notComp e == !Nat.beq k 9))
theorem tag_at {k : Nat} {x : PySem.Expr} {e : E} (h : tq k x = true) (g : okTag e k = true) : okTag e (tag x) = true := by rw [tq_is h]; exact g

section
variable {fns : List Str} {kinds : Kinds} {names : List Str} {x : PySem.Expr}
theorem chk_tag {e : E} (h : chkE fns kinds names e x = true) : okTag e (tag x) = true := by
  cases e with
  | int i => exact (Bool.or_eq_true_iff.mp h).elim (fun h => tag_at (an h).1 rfl) fun h => tag_at (an h).1 rfl
  | none => exact tag_at (an h).1 rfl
  | bool => exact tag_at (an h).1 rfl
  | str => exact tag_at (an h).1 rfl
  | var => exact tag_at (an h).1 rfl
  | fn => exact tag_at (an h).1 rfl
  | tup => exact tag_at (an h).1 rfl
  | lst => exact tag_at (an h).1 rfl
  | sub => exact tag_at (an h).1 rfl
  | ite => exact tag_at (an h).1 rfl
  | dict => exact tag_at (an h).1 rfl
  | call => exact tag_at (an (an h).1).1 rfl
  | len => exact tag_at (an (an (an h).1).1).1 rfl
  | txt => exact tag_at (an (an (an h).1).1).1 rfl
  | join => exact tag_at (an (an (an h).1).1).1 rfl
  | get1 => exact tag_at (an (an (an h).1).1).1 rfl
  | get2 => exact tag_at (an (an (an h).1).1).1 rfl
  | find => exact tag_at (an (an (an h).1).1).1 rfl
  | alnum => exact tag_at (an (an (an h).1).1).1 rfl
  | _ => exact tag_at (an (an h).1).1 rfl
theorem chk_small {e : E} (h : chkE fns kinds names e x = true) : Nat.blt (tag x) 12 = true := (an (chk_tag h)).1
theorem chk_shape {e : E} (h : chkE fns kinds names e x = true) : Plain x := plain_of x (chk_small h)
theorem chk_ncmp {e : E} (hc : notCmp e = true) (h : chkE fns kinds names e x = true) : (!tq 6 x) = true := (eq_of_beq (an (an (chk_tag h)).2).1).symm.trans hc
theorem notComp_is {e : E} (h : notComp e = false) : ∃ elt tgt kind it caps, e = .comp elt tgt kind it caps := by
  cases e <;> first | exact ⟨_, _, _, _, _, rfl⟩ | exact Bool.noConfusion h
theorem chk_comp {e : E} (h : chkE fns kinds names e x = true) : isComp x = false ∨ ∃ elt tgt kind it caps, e = .comp elt tgt kind it caps := by
  cases hc : notComp e with
  | true => exact .inl (ncomp_of x (chk_small h) ((eq_of_beq (an (an (chk_tag h)).2).2).symm.trans hc))
  | false => exact .inr (notComp_is hc)
theorem chk_plain {e : E} (hc : notCmp e = true) (h : chkE fns kinds names e x = true) (h7 : (!tq 7 x) = true) (h11 : (!tq 11 x) = true) : plainTest x = true := by
  have h14 : (!tq 14 x) = true := by
    have := chk_small h
    unfold tq
    cases e : Nat.beq (tag x) 14 with
    | false => rfl
    | true => rw [Nat.eq_of_beq_eq_true e] at this; cases this
  rw [plainTest, chk_ncmp hc h, h7, h11, h14]; rfl
theorem i_none (h : chkE fns kinds names .none x = true) : x = .Constant .none (kE x) x.pos := e_const (an h).1 (dk (an h).2)
theorem i_bool {b} (h : chkE fns kinds names (.bool b) x = true) : x = .Constant (.bool b) (kE x) x.pos := e_const (an h).1 (dk (an h).2)
theorem c_un {o : UnaryOp} {e e' : PySem.Expr} {p : Pos} (h : e = e') : PySem.Expr.UnaryOp o e p = .UnaryOp o e' p := by rw [h]
theorem i_int {i : Int} (h : chkE fns kinds names (.int i) x = true) : x = .Constant (.int i) (kE x) x.pos ∨ x = .UnaryOp .USub (.Constant (.int (-i)) (kE (k0 x)) (k0 x).pos) x.pos :=
  (Bool.or_eq_true_iff.mp h).elim (fun h => .inl (e_const (an h).1 (dk (an h).2)))
    fun h => .inr ((e_un (an h).1 (dk (an (an h).2).1)).trans (c_un (e_const (an (an (an h).2).2).1 (dk (an (an (an h).2).2).2))))
theorem i_str {s} (h : chkE fns kinds names (.str s) x = true) : x = .Constant (.str (mkS s)) (kE x) x.pos := e_const (an h).1 (dk (an h).2)
theorem i_var {v} (h : chkE fns kinds names (.var v) x = true) : x = .Name (nmE x) x.pos ∧ chkVar kinds names v (nmE x) = true := ⟨e_nm (an h).1, (an h).2⟩
theorem i_fn {f} (h : chkE fns kinds names (.fn f) x = true) : x = .Name (nmE x) x.pos ∧ fns[f]? = some (nmE x) ∧ isGlob kinds (nmE x) = true := ⟨e_nm (an h).1, dk (an (an h).2).1, (an (an h).2).2⟩
theorem i_tup {es} (h : chkE fns kinds names (.tup es) x = true) : x = .Tuple (ks x) (kE x) x.pos ∧ (ks x).length ≤ 100 ∧ chkL fns kinds names es (ks x) = true := ⟨e_tuple (an h).1, dk (an (an h).2).1, (an (an h).2).2⟩
theorem i_lst {es} (h : chkE fns kinds names (.lst es) x = true) : x = .List (ks x) x.pos ∧ (ks x).length ≤ 100 ∧ chkL fns kinds names es (ks x) = true := ⟨e_list (an h).1, dk (an (an h).2).1, (an (an h).2).2⟩
theorem i_sub {a i} (h : chkE fns kinds names (.sub a i) x = true) : x = .Subscript (k0 x) (k1 x) x.pos ∧ chkE fns kinds names a (k0 x) = true ∧ chkE fns kinds names i (k1 x) = true := ⟨e_sub (an h).1, an (an h).2⟩
theorem e_subs {l u t : Option PySem.Expr} (h : tq 4 x = true) (g : tq 13 (k1 x) = true) (hl : o1 (k1 x) = l) (hu : o2 (k1 x) = u) (ht : o3 (k1 x) = t) : x = .Subscript (k0 x) (.Slice l u t (k1 x).pos) x.pos :=
  (e_sub h).trans (c_sub rfl ((e_slice g).trans (c_slice hl hu ht)))
theorem i_upto {a i} (h : chkE fns kinds names (.upto a i) x = true) : x = .Subscript (k0 x) (.Slice none (some (xo (o2 (k1 x)))) none (k1 x).pos) x.pos ∧ chkE fns kinds names a (k0 x) = true ∧ chkE fns kinds names i (xo (o2 (k1 x))) = true :=
  have a := (an (an (an h).1).2).2
  ⟨e_subs (an (an h).1).1 (an (an (an h).1).2).1 (none_is (an a).1) (some_is default (an (an a).2).2) (none_is (an (an a).2).1), an (an h).2⟩
theorem i_from {a i} (h : chkE fns kinds names (.from' a i) x = true) : x = .Subscript (k0 x) (.Slice (some (xo (o1 (k1 x)))) none none (k1 x).pos) x.pos ∧ chkE fns kinds names a (k0 x) = true ∧ chkE fns kinds names i (xo (o1 (k1 x))) = true :=
  have a := (an (an (an h).1).2).2
  ⟨e_subs (an (an h).1).1 (an (an (an h).1).2).1 (some_is default (an (an a).2).2) (none_is (an a).1) (none_is (an (an a).2).1), an (an h).2⟩
theorem i_cut {a i j} (h : chkE fns kinds names (.cut a i j) x = true) : x = .Subscript (k0 x) (.Slice (some (xo (o1 (k1 x)))) (some (xo (o2 (k1 x)))) none (k1 x).pos) x.pos ∧ chkE fns kinds names a (k0 x) = true ∧ chkE fns kinds names i (xo (o1 (k1 x))) = true ∧ chkE fns kinds names j (xo (o2 (k1 x))) = true :=
  have a := (an (an (an h).1).2).2
  ⟨e_subs (an (an h).1).1 (an (an (an h).1).2).1 (some_is default (an (an a).2).1) (some_is default (an (an a).2).2) (none_is (an a).1), (an (an h).2).1, an (an (an h).2).2⟩
theorem i_bin {op a b} (h : chkE fns kinds names (.bin op a b) x = true) : x = .BinOp (k0 x) (opOf op) (k1 x) x.pos ∧ chkE fns kinds names a (k0 x) = true ∧ chkE fns kinds names b (k1 x) = true := ⟨e_bin (an (an h).1).1 (dk (an (an h).1).2), an (an h).2⟩
theorem i_cmp {op a b} (h : chkE fns kinds names (.cmp op a b) x = true) : x = .Compare (k0 x) [cmOf op] [x0 (ks x)] x.pos ∧ chkE fns kinds names a (k0 x) = true ∧ chkE fns kinds names b (x0 (ks x)) = true :=
  ⟨e_cmp (an (an h).1).1 (dk (an (an (an h).1).2).1) (an (an (an h).1).2).2, an (an h).2⟩
theorem i_ite {t a b} (h : chkE fns kinds names (.ite t a b) x = true) : x = .IfExp (k0 x) (k1 x) (k2 x) x.pos ∧ chkT fns kinds names t (k0 x) = true ∧ chkE fns kinds names a (k1 x) = true ∧ chkE fns kinds names b (k2 x) = true :=
  ⟨eta_at (an h).1 rfl, (an (an h).2).1, an (an (an h).2).2⟩
theorem i_dict {ds vs} (h : chkE fns kinds names (.dict ds vs) x = true) : x = .Dict (dkE x) (ks x) x.pos ∧ (ds.length = vs.length ∧ vs.length ≤ 15 ∧ vs ≠ [] ∧ ds.Nodup) ∧ keyOk ds (dkE x) = true ∧ chkL fns kinds names vs (ks x) = true :=
  ⟨eta_at (an h).1 rfl, dk (an (an h).2).1, an (an (an h).2).2⟩
noncomputable def cg (x : PySem.Expr) : Comprehension := (gsE x).headD default
theorem e_comp {g : Comprehension} {i : PySem.Expr} (h : tq 9 x = true) (h1 : gsE x = [g]) (h2 : g.ifs = []) (h3 : g.is_async = 0) : x = .ListComp (k0 x) [⟨g.target, g.iter, [], 0⟩] (scE x) x.pos :=
  (eta_at h rfl).trans (by
    rw [h1]
    cases g
    cases h2
    cases h3
    rfl)
theorem i_comp {elt tgt kind it caps} (h : chkE fns kinds names (.comp elt tgt kind it caps) x = true) : x = .ListComp (k0 x) [⟨(cg x).target, (cg x).iter, [], 0⟩] (scE x) x.pos ∧ itExpr kinds kind (cg x).iter = some (xo (itExpr kinds kind (cg x).iter)) ∧ (enumTgt kind tgt = true ∧
    (caps.all (fun c => (names[c]?).any fun nm => kinds.lookup nm == some .cell)) = true ∧ chkScope kinds (caps.filterMap (names[·]?)) (scE x) = true ∧
    chkTgt (relNames kinds (scE x).names) (caps.filterMap (names[·]?) ++ tgtNames (cg x).target) tgt (cg x).target = true ∧ (caps.filterMap (names[·]?) ++ tgtNames (cg x).target).Nodup) ∧
    chkE fns kinds names it (xo (itExpr kinds kind (cg x).iter)) = true ∧ chkE fns (relNames kinds (scE x).names) (caps.filterMap (names[·]?) ++ tgtNames (cg x).target) elt (k0 x) = true :=
  have a := (an (an h).1).2
  have b := (an (an h).2).1
  ⟨e_comp (i := x) (an (an h).1).1 (one_is default (an a).1) (nil_is (an (an a).2).1) (dk (an (an (an a).2).2).1), some_is default (an (an (an a).2).2).2,
    ⟨(an b).1, (an (an b).2).1, (an (an (an b).2).2).1, (an (an (an (an b).2).2).2).1, dk (an (an (an (an b).2).2).2).2⟩, an (an (an h).2).2⟩
theorem i_call {f es} (h : chkE fns kinds names (.call f es) x = true) : x = .Call (.Name (nmE (k0 x)) (k0 x).pos) (ks x) [] x.pos ∧ (fns[f]? = some (nmE (k0 x)) ∧ isGlob kinds (nmE (k0 x)) = true) ∧ chkL fns kinds names es (ks x) = true :=
  ⟨e_calls (an h).1, ⟨dk (an (an (an h).2).1).1, (an (an (an h).2).1).2⟩, (an (an h).2).2⟩
theorem i_callv {a es} (h : chkE fns kinds names (.callv a es) x = true) : x = .Call (k0 x) (ks x) [] x.pos ∧ k0 x = .Subscript (k0 (k0 x)) (k1 (k0 x)) (k0 x).pos ∧ chkE fns kinds names a (k0 x) = true ∧ chkL fns kinds names es (ks x) = true :=
  ⟨(eta_at (an (an h).1).1 rfl).trans (c_call rfl rfl (nil_is (an (an (an h).1).2).1)), e_sub (an (an (an h).1).2).2, an (an h).2⟩
theorem i_len {a} (h : chkE fns kinds names (.len a) x = true) : x = .Call (.Name "len" (k0 x).pos) [x0 (ks x)] [] x.pos ∧ isGlob kinds "len" = true ∧ chkE fns kinds names a (x0 (ks x)) = true :=
  ⟨(e_calls (an (an h).1).1).trans (by rw [dk (an (an (an h).1).2).1]; exact c_args1 (an (an (an h).1).2).2), an (an h).2⟩
theorem i_txt {a} (h : chkE fns kinds names (.txt a) x = true) : x = .Call (.Name "str" (k0 x).pos) [x0 (ks x)] [] x.pos ∧ isGlob kinds "str" = true ∧ chkE fns kinds names a (x0 (ks x)) = true :=
  ⟨(e_calls (an (an h).1).1).trans (by rw [dk (an (an (an h).1).2).1]; exact c_args1 (an (an (an h).1).2).2), an (an h).2⟩
theorem i_join {sep a} (h : chkE fns kinds names (.join sep a) x = true) : x = .Call (.Attribute (.Constant (.str (mkS sep)) (kE (k0 (k0 x))) (k0 (k0 x)).pos) "join" (k0 x).pos) [x0 (ks x)] [] x.pos ∧ sep.length ≤ 8 ∧ ((k0 x).pos.endLine == x.pos.line) = true ∧ chkE fns kinds names a (x0 (ks x)) = true :=
  have a := (an (an h).1).2
  ⟨(e_meth (an (an h).1).1).1.trans (c_call (c_attr (e_const (an (an a).2).1 (dk (an (an a).2).2)) rfl) (one_is default (an a).1) rfl), dk (an (an h).2).1, (e_meth (an (an h).1).1).2, (an (an h).2).2⟩
theorem i_get1 {d k} (h : chkE fns kinds names (.get1 d k) x = true) : x = .Call (.Attribute (k0 (k0 x)) "get" (k0 x).pos) [x0 (ks x)] [] x.pos ∧ ((k0 x).pos.endLine == x.pos.line) = true ∧ noCall (k0 (k0 x)) = true ∧ chkE fns kinds names d (k0 (k0 x)) = true ∧ chkE fns kinds names k (x0 (ks x)) = true :=
  ⟨(e_meth (an (an h).1).1).1.trans (c_args1 (an (an h).1).2), (e_meth (an (an h).1).1).2, (an (an h).2).1, an (an (an h).2).2⟩
theorem i_get2 {d k v} (h : chkE fns kinds names (.get2 d k v) x = true) : x = .Call (.Attribute (k0 (k0 x)) "get" (k0 x).pos) [x0 (ks x), x1 (ks x)] [] x.pos ∧ ((k0 x).pos.endLine == x.pos.line) = true ∧ noCall (k0 (k0 x)) = true ∧ chkE fns kinds names d (k0 (k0 x)) = true ∧ chkE fns kinds names k (x0 (ks x)) = true ∧ chkE fns kinds names v (x1 (ks x)) = true :=
  ⟨(e_meth (an (an h).1).1).1.trans (c_args2 (an (an h).1).2), (e_meth (an (an h).1).1).2, (an (an h).2).1, (an (an (an h).2).2).1, an (an (an (an h).2).2).2⟩
theorem i_find {d k v} (h : chkE fns kinds names (.find d k v) x = true) : x = .Call (.Attribute (k0 (k0 x)) "find" (k0 x).pos) [x0 (ks x), x1 (ks x)] [] x.pos ∧ ((k0 x).pos.endLine == x.pos.line) = true ∧ noCall (k0 (k0 x)) = true ∧ chkE fns kinds names d (k0 (k0 x)) = true ∧ chkE fns kinds names k (x0 (ks x)) = true ∧ chkE fns kinds names v (x1 (ks x)) = true :=
  ⟨(e_meth (an (an h).1).1).1.trans (c_args2 (an (an h).1).2), (e_meth (an (an h).1).1).2, (an (an h).2).1, (an (an (an h).2).2).1, an (an (an (an h).2).2).2⟩
theorem i_alnum {d} (h : chkE fns kinds names (.alnum d) x = true) : x = .Call (.Attribute (k0 (k0 x)) "isalnum" (k0 x).pos) [] [] x.pos ∧ ((k0 x).pos.endLine == x.pos.line) = true ∧ noCall (k0 (k0 x)) = true ∧ chkE fns kinds names d (k0 (k0 x)) = true :=
  ⟨(e_meth (an (an h).1).1).1.trans (c_call rfl (nil_is (an (an h).1).2) rfl), (e_meth (an (an h).1).1).2, an (an h).2⟩
theorem i_nil {xs : List PySem.Expr} (h : chkL fns kinds names [] xs = true) : xs = [] := nil_is h
theorem i_cons {e es} {xs : List PySem.Expr} (h : chkL fns kinds names (e :: es) xs = true) : xs = x0 xs :: xs.tail ∧ chkE fns kinds names e (x0 xs) = true ∧ chkL fns kinds names es xs.tail = true := by
  cases xs with
  | nil => cases h
  | cons y ys => exact ⟨rfl, an (an h).2⟩
theorem l_length : ∀ {es : List E} {xs : List PySem.Expr}, chkL fns kinds names es xs = true → xs.length = es.length
  | [], _, h => by rw [i_nil h]; rfl
  | e :: es, _, h => (congrArg List.length (i_cons h).1).trans (congrArg Nat.succ (l_length (i_cons h).2.2))
theorem l_star : ∀ {es : List E} {xs : List PySem.Expr}, chkL fns kinds names es xs = true → xs.all notStarred = true
  | [], _, h => by rw [i_nil h]; rfl
  | e :: es, _, h => by rw [(i_cons h).1, List.all_cons, (chk_shape (i_cons h).2.1).1, l_star (i_cons h).2.2]; rfl
theorem i_of {e} (h : chkT fns kinds names (.of e) x = true) : chkE fns kinds names e x = true ∧ (!tq 7 x) = true ∧ (!tq 11 x) = true := ⟨(an h).1, an (an h).2⟩
theorem i_and {a b} (h : chkT fns kinds names (.and a b) x = true) : x = .BoolOp .And [x0 (ks x), x1 (ks x)] x.pos ∧ chkT fns kinds names a (x0 (ks x)) = true ∧ chkT fns kinds names b (x1 (ks x)) = true :=
  ⟨(eta_at (an (an h).1).1 rfl).trans (c_bool (dk (an (an (an h).1).2).1) (two_is default (an (an (an h).1).2).2)), an (an h).2⟩
theorem i_or {a b} (h : chkT fns kinds names (.or a b) x = true) : x = .BoolOp .Or [x0 (ks x), x1 (ks x)] x.pos ∧ chkT fns kinds names a (x0 (ks x)) = true ∧ chkT fns kinds names b (x1 (ks x)) = true :=
  ⟨(eta_at (an (an h).1).1 rfl).trans (c_bool (dk (an (an (an h).1).2).1) (two_is default (an (an (an h).1).2).2)), an (an h).2⟩
end

section
variable {C : Cx} {n : Nat}

/-- the value of a comprehension that is no target's own -/
theorem ev_comp {names : List Str} {renv : Env} {ρ : List (Option V)} {Q : V → Prop} {kinds : Kinds} {kind : Kd} {tgt : Tgt} {t elt xe ie : PySem.Expr} {sc : Scope} {pos : Pos} {caps : List Nat} {cs : List V} {ext : List Str} {wa : (V → Prop) → Prop} {we : List (Option V) → (V → Prop) → Prop}
    (O : C.Ok) (hk : renv.scope.names = kinds) (hx : itExpr kinds kind xe = some ie) (hs : notStarred ie = true) (hset : noSet xe = true) (ia : ∀ Q, wa Q → Ev C n names renv ρ ie Q)
    (hcs : capsOf ρ caps = some cs)
    (q : wa fun v => itemsOf kind v fun vs => MapV (fun v Q' => match bindT tgt v (cs.map some ++ List.replicate tgt.size none) with
      | some ρ' => we ρ' Q'
      | none => False) vs fun rs => Q (.lst rs))
    (ie' : ∀ cenv ρ' Q', cenv.scope.names = relNames kinds sc.names → we ρ' Q' → Ev C n (caps.filterMap (names[·]?) ++ ext) cenv ρ' elt Q')
    (hsc : chkScope kinds (caps.filterMap (names[·]?)) sc = true) (hca : (caps.all (fun c => (names[c]?).any fun nm => kinds.lookup nm == some .cell)) = true)
    (htgt : chkTgt (relNames kinds sc.names) (caps.filterMap (names[·]?) ++ ext) tgt t = true) (hen : enumTgt kind tgt = true) (hnd : (caps.filterMap (names[·]?) ++ ext).Nodup) :
    Ev C n names renv ρ (.ListComp elt [⟨t, xe, [], 0⟩] sc pos) Q := fun A s av rm x a ev => by
  rw [MapV.eq] at q
  obtain ⟨cl, hcl, core⟩ := comp_core (pos := pos) O hk hx hs ia hcs q ie' hsc hca htgt hen hnd rm x a ev
  obtain ⟨k1, k2, k3, k4, k5⟩ := chkScope_is hsc
  rw [eval_ListComp]
  refine wpAny_comprehension_free (use := none) (g := ⟨t, xe, [], 0⟩) (gs := []) rfl (fun y => by cases xe <;> first | rfl | exact Bool.noConfusion hset) hcl k1 k3 (core ?_)
  intro D L s' rs vs m qr gD gL ne ns lD rl x' y'
  refine ⟨m, ns, fun h' sb => ?_⟩
  have kL : Keeps (· = L) s' { s' with heap := h' } := fun b o nb g => (sb.2 b nb).trans g
  have x'' : St C { s' with heap := h' } := x'.keeps kL (fun b z => by
      rw [(z : b = L)]
      cases g : C.h₀.get? L with
      | none => rfl
      | some o => have := x.keep L o g; rw [gL] at this; cases this) (fun b z => by
      rw [(z : b = L)]
      intro w
      obtain ⟨ws, ns', ⟨n', g⟩, _⟩ := x.deck _ w
      rw [gL] at g; cases g) rfl rfl
  refine ⟨.lst rs, qr, ?_, x'', ?_⟩
  · simp only [Rep]
    refine ⟨D, vs, rfl, fun z => a.there _ z gD, lD.keep fun o g => kL _ _ (fun z => ne z) g, ?_⟩
    refine RepL.move (fun b o nb g => ⟨fun z => nb (.inl z), kL b o (fun z => nb (.inr (.inl z))) g⟩) _ rl
  · refine Chg.isStep (P := (· = L)) ((Chg.step y').trans (Chg.keeps kL fun _ z => z)) (fun b z => by rw [(z : b = L)]; exact gL) x''

theorem noSet_it {kinds : Kinds} {kind : Kd} {xe ie : PySem.Expr} (hx : itExpr kinds kind xe = some ie) (h : noSet ie = true) : noSet xe = true := by
  cases kind with
  | items => cases hx; exact h
  | range => obtain ⟨_, _, rfl, _⟩ := chkIt_range hx; rfl
  | enum => obtain ⟨_, _, rfl, _⟩ := chkIt_enum hx; rfl
theorem Ev.at {names : List Str} {renv : Env} {ρ : List (Option V)} {x y : PySem.Expr} {Q : V → Prop} (h : Ev C n names renv ρ y Q) (e : x = y) : Ev C n names renv ρ x Q := by rw [e]; exact h
theorem EvT.at {names : List Str} {renv : Env} {ρ : List (Option V)} {x y : PySem.Expr} {Q : Bool → Prop} (h : EvT C n names renv ρ y Q) (e : x = y) : EvT C n names renv ρ x Q := by rw [e]; exact h
theorem EvL.at {names : List Str} {renv : Env} {ρ : List (Option V)} {x y : List PySem.Expr} {Q : List V → Prop} (h : EvL C n names renv ρ y Q) (e : x = y) : EvL C n names renv ρ x Q := by rw [e]; exact h
theorem EvD.at {names : List Str} {renv : Env} {ρ : List (Option V)} {x y : List PySem.Expr} {Q : List V → Prop} (h : EvD C n names renv ρ y Q) (e : x = y) : EvD C n names renv ρ x Q := by rw [e]; exact h
theorem evT_plain {kinds : Kinds} {names : List Str} {renv : Env} {ρ : List (Option V)} {x : PySem.Expr} {e : E} {Q : Bool → Prop} (hc : notCmp e = true) (h : chkT C.fns kinds names (.of e) x = true) (q : wpT (Call C n) (.of e) ρ Q)
    (ih : ∀ Q, wpE (Call C n) e ρ Q → Ev C n names renv ρ x Q) : EvT C n names renv ρ x Q :=
  evT_val (ih _ q) (chk_plain hc (i_of h).1 (i_of h).2.1 (i_of h).2.2)

set_option maxHeartbeats 8000000 in
mutual
theorem sound_E (O : C.Ok) : ∀ (e : E) {kinds : Kinds} {names : List Str} {renv : Env} {ρ : List (Option V)} {x : PySem.Expr} {Q : V → Prop}, renv.scope.names = kinds → chkE C.fns kinds names e x = true → wpE (Call C n) e ρ Q → Ev C n names renv ρ x Q
  | .none, _, _, _, _, _, _, hk, h, q => (ev_none q).at (i_none h)
  | .bool b, _, _, _, _, _, _, hk, h, q => (ev_bool q).at (i_bool h)
  | .int i, _, _, _, _, _, Q, hk, h, q => (i_int h).elim (fun e => (ev_int q).at e) fun e => (ev_neg (Eq.mpr (congrArg (fun z => Q (.int z)) (Int.neg_neg i)) q)).at e
  | .str t, _, _, _, _, _, _, hk, h, q => (ev_str q).at (i_str h)
  | .var v, _, _, _, ρ, _, Q, hk, h, q => (ofSome (o := lk ρ v) (F := Q) q).elim fun _ g => (ev_var (i_var h).2 g.1 g.2).at (i_var h).1
  | .fn f, _, _, _, _, _, _, hk, h, q => (ev_fn O hk (i_fn h).2.1 (i_fn h).2.2 q).at (i_fn h).1
  | .tup es, _, _, _, _, _, _, hk, h, q => (ev_tup (sound_L O es hk (i_tup h).2.2 q) (i_tup h).2.1).at (i_tup h).1
  | .lst es, _, _, _, _, _, _, hk, h, q => (ev_lst (sound_L O es hk (i_lst h).2.2 q) (i_lst h).2.1).at (i_lst h).1
  | .sub a i, _, _, _, ρ, _, _, hk, h, q => (ev_sub (fun _ => sound_E O a hk (i_sub h).2.1) (fun _ => sound_E O i hk (i_sub h).2.2) (chk_shape (i_sub h).2.2).2.2.1 q).at (i_sub h).1
  | .upto a i, _, _, _, ρ, _, _, hk, h, q => (ev_upto (fun _ => sound_E O a hk (i_upto h).2.1) (fun _ => sound_E O i hk (i_upto h).2.2) q).at (i_upto h).1
  | .from' a i, _, _, _, ρ, _, _, hk, h, q => (ev_from (fun _ => sound_E O a hk (i_from h).2.1) (fun _ => sound_E O i hk (i_from h).2.2) q).at (i_from h).1
  | .cut a i j, _, _, _, ρ, _, _, hk, h, q => (ev_cut (fun _ => sound_E O a hk (i_cut h).2.1) (fun _ => sound_E O i hk (i_cut h).2.2.1) (fun _ => sound_E O j hk (i_cut h).2.2.2) q).at (i_cut h).1
  | .bin op a b, _, _, _, ρ, _, _, hk, h, q => (ev_bin (fun _ => sound_E O a hk (i_bin h).2.1) (fun _ => sound_E O b hk (i_bin h).2.2) q).at (i_bin h).1
  | .cmp op a b, _, _, _, ρ, _, _, hk, h, q => (ev_cmp (fun _ => sound_E O a hk (i_cmp h).2.1) (fun _ => sound_E O b hk (i_cmp h).2.2) q (chk_shape (i_cmp h).2.2).2.1).at (i_cmp h).1
  | .ite t a b, _, _, _, ρ, _, _, hk, h, q => (ev_ite (fun _ => sound_T O t hk (i_ite h).2.1) (sound_E O a hk (i_ite h).2.2.1) (sound_E O b hk (i_ite h).2.2.2) q).at (i_ite h).1
  | .dict ds vs, _, _, _, ρ, _, _, hk, h, q =>
    have g := i_dict h
    have hl := l_length g.2.2.2
    (ev_dict O g.2.2.1 (hl.trans g.2.1.1.symm) (fun z => g.2.1.2.2.1 (List.eq_nil_of_length_eq_zero (g.2.1.1.symm.trans (congrArg List.length z)))) (Nat.le_trans (Nat.le_of_eq g.2.1.1) g.2.1.2.1) g.2.1.2.2.2 (fun _ => sound_D O vs hk g.2.2.2) q).at g.1
  | .comp elt tgt kind it caps, _, _, _, ρ, _, Q, hk, h, q => (ofSome (o := capsOf ρ caps) q).elim fun cs g =>
    (ev_comp O hk (i_comp h).2.1 (chk_shape (i_comp h).2.2.2.1).1 (noSet_it (i_comp h).2.1 (chk_shape (i_comp h).2.2.2.1).2.1) (fun _ => sound_E O it hk (i_comp h).2.2.2.1) g.1 g.2 (fun cenv ρ' Q' hk' q' => sound_E O elt hk' (i_comp h).2.2.2.2 q')
      (i_comp h).2.2.1.2.2.1 (i_comp h).2.2.1.2.1 (i_comp h).2.2.1.2.2.2.1 (i_comp h).2.2.1.1 (i_comp h).2.2.1.2.2.2.2).at (i_comp h).1
  | .call f es, _, _, _, ρ, _, _, hk, h, q => (ev_call O hk (i_call h).2.1.1 (i_call h).2.1.2 (fun _ => sound_L O es hk (i_call h).2.2) (l_star (i_call h).2.2) q).at (i_call h).1
  | .callv a es, _, _, _, ρ, _, Q, hk, h, q =>
    (ev_callv O (fun _ q => (sound_E O a hk (i_callv h).2.2.1 q).at (i_callv h).2.1.symm) (fun _ => sound_L O es hk (i_callv h).2.2.2) (l_star (i_callv h).2.2.2) q).at ((i_callv h).1.trans (c_call (i_callv h).2.1 rfl rfl))
  | .len a, _, _, _, ρ, _, _, hk, h, q => (ev_len O hk (i_len h).2.1 (chk_shape (i_len h).2.2).1 (fun _ => sound_E O a hk (i_len h).2.2) q).at (i_len h).1
  | .txt a, _, _, _, ρ, _, _, hk, h, q => (ev_txt O hk (i_txt h).2.1 (chk_shape (i_txt h).2.2).1 (fun _ => sound_E O a hk (i_txt h).2.2) q).at (i_txt h).1
  | .join sep a, _, _, _, ρ, _, _, hk, h, q => (ev_join (i_join h).2.2.1 (chk_shape (i_join h).2.2.2).1 (i_join h).2.1 (fun _ => sound_E O a hk (i_join h).2.2.2) q).at (i_join h).1
  | .get1 d k, _, _, _, ρ, _, _, hk, h, q => (ev_get1 (i_get1 h).2.1 (i_get1 h).2.2.1 (chk_shape (i_get1 h).2.2.2.2).1 (fun _ => sound_E O d hk (i_get1 h).2.2.2.1) (fun _ => sound_E O k hk (i_get1 h).2.2.2.2) q).at (i_get1 h).1
  | .get2 d k v, _, _, _, ρ, _, _, hk, h, q => (ev_get2 (i_get2 h).2.1 (i_get2 h).2.2.1 (chk_shape (i_get2 h).2.2.2.2.1).1 (chk_shape (i_get2 h).2.2.2.2.2).1 (fun _ => sound_E O d hk (i_get2 h).2.2.2.1) (fun _ => sound_E O k hk (i_get2 h).2.2.2.2.1) (fun _ => sound_E O v hk (i_get2 h).2.2.2.2.2) q).at (i_get2 h).1
  | .find d k v, _, _, _, ρ, _, _, hk, h, q => (ev_find (i_find h).2.1 (i_find h).2.2.1 (chk_shape (i_find h).2.2.2.2.1).1 (chk_shape (i_find h).2.2.2.2.2).1 (fun _ => sound_E O d hk (i_find h).2.2.2.1) (fun _ => sound_E O k hk (i_find h).2.2.2.2.1) (fun _ => sound_E O v hk (i_find h).2.2.2.2.2) q).at (i_find h).1
  | .alnum d, _, _, _, ρ, _, _, hk, h, q => (ev_alnum (i_alnum h).2.1 (i_alnum h).2.2.1 (fun _ => sound_E O d hk (i_alnum h).2.2.2) q).at (i_alnum h).1
theorem sound_L (O : C.Ok) : ∀ (es : List E) {kinds : Kinds} {names : List Str} {renv : Env} {ρ : List (Option V)} {xs : List PySem.Expr} {Q : List V → Prop}, renv.scope.names = kinds → chkL C.fns kinds names es xs = true → wpL (Call C n) es ρ Q → EvL C n names renv ρ xs Q
  | [], _, _, _, _, _, _, hk, h, q => (evL_nil q).at (i_nil h)
  | e :: es, _, _, _, _, _, _, hk, h, q => (evL_cons (chk_shape (i_cons h).2.1).1 (fun _ => sound_E O e hk (i_cons h).2.1) (fun _ => sound_L O es hk (i_cons h).2.2) q).at (i_cons h).1
theorem sound_D (O : C.Ok) : ∀ (es : List E) {kinds : Kinds} {names : List Str} {renv : Env} {ρ : List (Option V)} {xs : List PySem.Expr} {Q : List V → Prop}, renv.scope.names = kinds → chkL C.fns kinds names es xs = true → wpL (Call C n) es ρ Q → EvD C n names renv ρ xs Q
  | [], _, _, _, _, _, _, hk, h, q => (evD_nil q).at (i_nil h)
  | e :: es, _, _, _, _, _, _, hk, h, q => (evD_cons (fun _ => sound_E O e hk (i_cons h).2.1) (fun _ => sound_D O es hk (i_cons h).2.2) q).at (i_cons h).1
theorem sound_T (O : C.Ok) : ∀ (e : T) {kinds : Kinds} {names : List Str} {renv : Env} {ρ : List (Option V)} {x : PySem.Expr} {Q : Bool → Prop}, renv.scope.names = kinds → chkT C.fns kinds names e x = true → wpT (Call C n) e ρ Q → EvT C n names renv ρ x Q
  | .of (.cmp op a b), _, _, _, ρ, x, Q, hk, h, q => (evT_cmp (fun _ => sound_E O a hk (i_cmp (i_of h).1).2.1) (fun _ => sound_E O b hk (i_cmp (i_of h).1).2.2) q (chk_shape (i_cmp (i_of h).1).2.2).2.1).at (i_cmp (i_of h).1).1
  | .of (.none), _, _, _, _, _, _, hk, h, q => evT_plain rfl h q (fun _ => sound_E O (.none) hk (i_of h).1)
  | .of (.bool b), _, _, _, _, _, _, hk, h, q => evT_plain rfl h q (fun _ => sound_E O (.bool b) hk (i_of h).1)
  | .of (.int i), _, _, _, _, _, _, hk, h, q => evT_plain rfl h q (fun _ => sound_E O (.int i) hk (i_of h).1)
  | .of (.str t), _, _, _, _, _, _, hk, h, q => evT_plain rfl h q (fun _ => sound_E O (.str t) hk (i_of h).1)
  | .of (.var v), _, _, _, _, _, _, hk, h, q => evT_plain rfl h q (fun _ => sound_E O (.var v) hk (i_of h).1)
  | .of (.fn f), _, _, _, _, _, _, hk, h, q => evT_plain rfl h q (fun _ => sound_E O (.fn f) hk (i_of h).1)
  | .of (.tup es), _, _, _, _, _, _, hk, h, q => evT_plain rfl h q (fun _ => sound_E O (.tup es) hk (i_of h).1)
  | .of (.lst es), _, _, _, _, _, _, hk, h, q => evT_plain rfl h q (fun _ => sound_E O (.lst es) hk (i_of h).1)
  | .of (.sub a i), _, _, _, _, _, _, hk, h, q => evT_plain rfl h q (fun _ => sound_E O (.sub a i) hk (i_of h).1)
  | .of (.upto a i), _, _, _, _, _, _, hk, h, q => evT_plain rfl h q (fun _ => sound_E O (.upto a i) hk (i_of h).1)
  | .of (.from' a i), _, _, _, _, _, _, hk, h, q => evT_plain rfl h q (fun _ => sound_E O (.from' a i) hk (i_of h).1)
  | .of (.cut a i j), _, _, _, _, _, _, hk, h, q => evT_plain rfl h q (fun _ => sound_E O (.cut a i j) hk (i_of h).1)
  | .of (.bin op a b), _, _, _, _, _, _, hk, h, q => evT_plain rfl h q (fun _ => sound_E O (.bin op a b) hk (i_of h).1)
  | .of (.ite t a b), _, _, _, _, _, _, hk, h, q => evT_plain rfl h q (fun _ => sound_E O (.ite t a b) hk (i_of h).1)
  | .of (.dict ks vs), _, _, _, _, _, _, hk, h, q => evT_plain rfl h q (fun _ => sound_E O (.dict ks vs) hk (i_of h).1)
  | .of (.comp elt tgt kind it caps), _, _, _, _, _, _, hk, h, q => evT_plain rfl h q (fun _ => sound_E O (.comp elt tgt kind it caps) hk (i_of h).1)
  | .of (.call f es), _, _, _, _, _, _, hk, h, q => evT_plain rfl h q (fun _ => sound_E O (.call f es) hk (i_of h).1)
  | .of (.callv a es), _, _, _, _, _, _, hk, h, q => evT_plain rfl h q (fun _ => sound_E O (.callv a es) hk (i_of h).1)
  | .of (.len a), _, _, _, _, _, _, hk, h, q => evT_plain rfl h q (fun _ => sound_E O (.len a) hk (i_of h).1)
  | .of (.txt a), _, _, _, _, _, _, hk, h, q => evT_plain rfl h q (fun _ => sound_E O (.txt a) hk (i_of h).1)
  | .of (.join sep a), _, _, _, _, _, _, hk, h, q => evT_plain rfl h q (fun _ => sound_E O (.join sep a) hk (i_of h).1)
  | .of (.get1 d k), _, _, _, _, _, _, hk, h, q => evT_plain rfl h q (fun _ => sound_E O (.get1 d k) hk (i_of h).1)
  | .of (.get2 d k v), _, _, _, _, _, _, hk, h, q => evT_plain rfl h q (fun _ => sound_E O (.get2 d k v) hk (i_of h).1)
  | .of (.find d k v), _, _, _, _, _, _, hk, h, q => evT_plain rfl h q (fun _ => sound_E O (.find d k v) hk (i_of h).1)
  | .of (.alnum d), _, _, _, _, _, _, hk, h, q => evT_plain rfl h q (fun _ => sound_E O (.alnum d) hk (i_of h).1)
  | .and a b, _, _, _, ρ, _, _, hk, h, q => (evT_and (fun _ => sound_T O a hk (i_and h).2.1) (fun _ => sound_T O b hk (i_and h).2.2) q).at (i_and h).1
  | .or a b, _, _, _, ρ, _, _, hk, h, q => (evT_or (fun _ => sound_T O a hk (i_or h).2.1) (fun _ => sound_T O b hk (i_or h).2.2) q).at (i_or h).1
end
end

/-- the list that is built -/
noncomputable def OwnAt (C : Cx) (av : Addr → Prop) (W : Addr → Prop) (names : List Str) (renv : Env) (x : Nat) (h : Heap) (m : Str → Option Value) : Option (List V) → Prop
  | none => True
  | some us => ∃ xn fa vs, names[x]? = some xn ∧ renv.kindOf xn = some .local ∧ m xn = some (.ref fa) ∧ W fa ∧ fa ≠ renv.locals ∧ LstAt h fa vs ∧ RepL C av h us vs

/-- the frame between two statements: B is avoided from outside, W is what the frame writes -/
structure SI (C : Cx) (B : Addr → Prop) (names : List Str) (renv : Env) (x : Nat) (W : Addr → Prop) (s : Shared) (ρ : List (Option V)) (o : Option (List V)) : Prop where
  st : St C s
  deck : ∀ a, C.D = some a → B a
  base : ∀ a, B a → s.heap.get? a ≠ none
  wl : W renv.locals
  wb : ∀ a, W a → ¬ B a
  w0 : ∀ a, W a → C.h₀.get? a = none
  wd : ∀ a, W a → C.D ≠ some a
  wt : ∀ a, W a → s.heap.get? a ≠ none
  cells : ∀ nm c, renv.cells.lookup nm = some c → ¬ W c
  env : EnvOk C names renv (fun a => B a ∨ W a) s.heap ρ
  acc : lk ρ x = none
  ns : ∃ m, s.heap.Ns renv.locals m ∧ OwnAt C (fun a => B a ∨ W a) W names renv x s.heap m o

section
variable {C : Cx} {B W : Addr → Prop} {A : Around} {s : Shared} {n : Nat} {names : List Str} {renv : Env} {ρ : List (Option V)} {o : Option (List V)} {x : Nat}

theorem SI.av (i : SI C B names renv x W s ρ o) : AvOk C (fun a => B a ∨ W a) s.heap := ⟨fun a z => .inl (i.deck a z), fun a z => z.elim (i.base a) (i.wt a)⟩

theorem Ns.keep {h h' : Heap} {a : Addr} {m : Str → Option Value} (x : h.Ns a m) (k : ∀ o, h.get? a = some o → h'.get? a = some o) : h'.Ns a m :=
  let ⟨o, es, ep, ho, r⟩ := x; ⟨o, es, ep, k o ho, r⟩

theorem SI.step {s' : Shared} (i : SI C B names renv x W s ρ o) (y : Step C s s') (x' : St C s') : SI C B names renv x W s' ρ o where
  st := x'
  deck := i.deck
  base := fun a z => y.there (i.base a z)
  wl := i.wl
  wb := i.wb
  w0 := i.w0
  wd := i.wd
  wt := fun a z => y.there (i.wt a z)
  cells := i.cells
  env := i.env.step i.st i.av y
  acc := i.acc
  ns := by
    obtain ⟨m, hm, ho⟩ := i.ns
    refine ⟨m, Ns.keep hm fun o g => y.keep _ _ (i.wd _ i.wl) g, ?_⟩
    cases o with
    | none => trivial
    | some us =>
      obtain ⟨xn, fa, vs, h1, h2, h3, h4, h5, h6, h7⟩ := ho
      exact ⟨xn, fa, vs, h1, h2, h3, h4, h5, h6.keep fun o g => y.keep _ _ (i.wd _ h4) g, h7.step i.av y⟩

theorem EnvOk.less {av av' : Addr → Prop} {h : Heap} (e : EnvOk C names renv av h ρ) (w : ∀ a, av' a → av a) : EnvOk C names renv av' h ρ :=
  ⟨e.kind, e.glob, e.blt, fun i d q => let ⟨nm, v, h1, h2, h3⟩ := e.vars i d q; ⟨nm, v, h1, h2, h3.less w⟩, e.there⟩

/-- more is avoided: what was not there before -/
theorem SI.grow {s' : Shared} {B' : Addr → Prop} (i : SI C B names renv x W s ρ o) (y : Step C s s') (x' : St C s') (h1 : ∀ a, B a → B' a) (h2 : ∀ a, B' a → B a ∨ s.heap.get? a = none) (h3 : ∀ a, B' a → s'.heap.get? a ≠ none) : SI C B' names renv x W s' ρ o := by
  have mv : ∀ {d : List V} {v : List Value}, RepL C (fun a => B a ∨ W a) s.heap d v → RepL C (fun a => B' a ∨ W a) s'.heap d v := fun r =>
    RepL.move (fun b o nb g => ⟨fun z => z.elim (fun z => (h2 b z).elim (fun z => nb (.inl z)) fun z => (by rw [z] at g; cases g)) fun z => nb (.inr z), y.keep b o (fun z => nb (.inl (i.deck b z))) g⟩) _ r
  have mv1 : ∀ {d : V} {v : Value}, Rep C (fun a => B a ∨ W a) s.heap d v → Rep C (fun a => B' a ∨ W a) s'.heap d v := fun r =>
    Rep.move (fun b o nb g => ⟨fun z => z.elim (fun z => (h2 b z).elim (fun z => nb (.inl z)) fun z => (by rw [z] at g; cases g)) fun z => nb (.inr z), y.keep b o (fun z => nb (.inl (i.deck b z))) g⟩) _ r
  refine { st := x', deck := fun a z => h1 a (i.deck a z), base := h3, wl := i.wl, wb := fun a z q => (h2 a q).elim (i.wb a z) (i.wt a z), w0 := i.w0, wd := i.wd, wt := fun a z => y.there (i.wt a z), cells := i.cells, env := ?_, acc := i.acc, ns := ?_ }
  · exact ⟨i.env.kind, i.env.glob, i.env.blt, fun k d q => let ⟨nm, v, e1, e2, e3⟩ := i.env.vars k d q; ⟨nm, v, e1, e2.step i.st y, mv1 e3⟩, y.there i.env.there.1, fun nm c g => y.there (i.env.there.2 nm c g)⟩
  · obtain ⟨m, hm, ho⟩ := i.ns
    refine ⟨m, Ns.keep hm fun o g => y.keep _ _ (i.wd _ i.wl) g, ?_⟩
    cases o with
    | none => trivial
    | some us =>
      obtain ⟨xn, fa, vs, h1, h2, h3, h4, h5, h6, h7⟩ := ho
      exact ⟨xn, fa, vs, h1, h2, h3, h4, h5, h6.keep fun o g => y.keep _ _ (i.wd _ h4) g, mv h7⟩

/-- less is avoided, and what is avoided no more may be changed -/
theorem SI.drop {s' : Shared} {B' : Addr → Prop} {P : Addr → Prop} (i : SI C B' names renv x W s ρ o) (k : Keeps P s s') (hg : s'.gens = s.gens) (ho : s'.os = s.os) (h1 : ∀ a, B a → B' a) (hD : ∀ a, C.D = some a → B a)
    (hP : ∀ a, P a → B' a ∧ ¬ B a) (hP0 : ∀ a, P a → C.h₀.get? a = none) (hc : ∀ nm c, renv.cells.lookup nm = some c → ¬ P c) : SI C B names renv x W s' ρ o := by
  have nW : ∀ a, W a → ¬ P a := fun a z q => i.wb a z (hP a q).1
  have nB : ∀ a, B a → ¬ P a := fun a z q => (hP a q).2 z
  have x' : St C s' := i.st.keeps k hP0 (fun a z q => (hP a z).2 (hD a q)) hg ho
  refine { st := x', deck := hD, base := fun a z => k.there (nB a z) (i.base a (h1 a z)), wl := i.wl, wb := fun a z q => i.wb a z (h1 a q), w0 := i.w0, wd := i.wd, wt := fun a z => k.there (nW a z) (i.wt a z), cells := i.cells, env := ?_, acc := i.acc, ns := ?_ }
  · exact (i.env.keeps k (fun a z => .inl (hP a z).1) (nW _ i.wl) hc).less fun a z => z.elim (fun z => .inl (h1 a z)) .inr
  · obtain ⟨m, hm, ho⟩ := i.ns
    refine ⟨m, Ns.keep hm fun o g => k _ _ (nW _ i.wl) g, ?_⟩
    cases o with
    | none => trivial
    | some us =>
      obtain ⟨xn, fa, vs, e1, e2, e3, e4, e5, e6, e7⟩ := ho
      exact ⟨xn, fa, vs, e1, e2, e3, e4, e5, e6.keep fun o g => k _ _ (nW _ e4) g,
        RepL.move (fun b o nb g => ⟨fun z => nb (z.elim (fun z => .inl (h1 b z)) .inr), k b o (fun z => nb (.inl (hP b z).1)) g⟩) _ e7⟩

/-- what is avoided is changed, and is still there -/
theorem SI.touch {s' : Shared} {P : Addr → Prop} (i : SI C B names renv x W s ρ o) (k : Keeps P s s') (hg : s'.gens = s.gens) (ho : s'.os = s.os) (hP : ∀ a, P a → B a) (hP0 : ∀ a, P a → C.h₀.get? a = none) (hD : ∀ a, P a → C.D ≠ some a)
    (ht : ∀ a, P a → s'.heap.get? a ≠ none) (hc : ∀ nm c, renv.cells.lookup nm = some c → ¬ P c) : SI C B names renv x W s' ρ o := by
  have nW : ∀ a, W a → ¬ P a := fun a z q => i.wb a z (hP a q)
  have x' : St C s' := i.st.keeps k hP0 hD hg ho
  refine { st := x', deck := i.deck, base := fun a z => ?_, wl := i.wl, wb := i.wb, w0 := i.w0, wd := i.wd, wt := fun a z => k.there (nW a z) (i.wt a z), cells := i.cells, env := i.env.keeps k (fun a z => .inl (hP a z)) (nW _ i.wl) hc, acc := i.acc, ns := ?_ }
  · by_cases q : P a
    · exact ht a q
    · exact k.there q (i.base a z)
  · obtain ⟨m, hm, ho⟩ := i.ns
    refine ⟨m, Ns.keep hm fun o g => k _ _ (nW _ i.wl) g, ?_⟩
    cases o with
    | none => trivial
    | some us =>
      obtain ⟨xn, fa, vs, e1, e2, e3, e4, e5, e6, e7⟩ := ho
      exact ⟨xn, fa, vs, e1, e2, e3, e4, e5, e6.keep fun o g => k _ _ (nW _ e4) g,
        RepL.move (fun b o nb g => ⟨nb, k b o (fun z => nb (.inl (hP b z))) g⟩) _ e7⟩

theorem st_length : ∀ (ρ : List (Option V)) (x : Nat) (v : Option V), (st' ρ x v).length = ρ.length
  | [], _, _ => rfl
  | _ :: _, 0, _ => rfl
  | _ :: r, x + 1, v => congrArg (· + 1) (st_length r x v)

/-- the frame after new bindings of locals that are not the accumulator -/
theorem SI.bound {s' : Shared} {ρ' : List (Option V)} {m m' : Str → Option Value} (i : SI C B names renv x W s ρ o) (hm : s.heap.Ns renv.locals m) (x' : St C s') (e' : EnvOk C names renv (fun a => B a ∨ W a) s'.heap ρ') (k : Keeps (· = renv.locals) s s')
    (hm' : s'.heap.Ns renv.locals m') (hx : ∀ nm, names[x]? = some nm → m' nm = m nm) (ha : lk ρ' x = none) : SI C B names renv x W s' ρ' o := by
  have tL : s'.heap.get? renv.locals ≠ none := by obtain ⟨o, _, _, ho, _⟩ := hm'; rw [ho]; simp
  have th : ∀ a, s.heap.get? a ≠ none → s'.heap.get? a ≠ none := fun a g => if z : a = renv.locals then z ▸ tL else k.there z g
  refine { st := x', deck := i.deck, base := fun a z => th a (i.base a z), wl := i.wl, wb := i.wb, w0 := i.w0, wd := i.wd, wt := fun a z => th a (i.wt a z), cells := i.cells, env := e', acc := ha, ns := ⟨m', hm', ?_⟩ }
  obtain ⟨m₀, hm₀, ho⟩ := i.ns
  have := ns_unique hm₀ hm
  subst this
  cases o with
  | none => trivial
  | some us =>
    obtain ⟨xn, fa, vs, e1, e2, e3, e4, e5, e6, e7⟩ := ho
    exact ⟨xn, fa, vs, e1, e2, (hx xn e1).trans e3, e4, e5, e6.keep fun o g => k _ _ e5 g, RepL.move (fun b o nb g => ⟨nb, k b o (fun z => nb (.inr (z ▸ i.wl))) g⟩) _ e7⟩

/-- a name gets a value -/
theorem SI.store {y : Nat} {nm : Str} {d : V} {v : Value} {P : Unit → Shared → Prop} {E} (i : SI C B names renv x W s ρ o) (hn : names.Nodup) (hy : names[y]? = some nm) (hk : renv.kindOf nm = some .local) (hyx : y ≠ x)
    (r : Rep C (fun a => B a ∨ W a) s.heap d v) (k : ∀ s', SI C B names renv x W s' (st' ρ y (some d)) o → Chg C W s s' → P () s') :
    wpAny (model C.prog C.w) A (storeName renv nm v) P E s := by
  obtain ⟨m, hm, ho⟩ := id i.ns
  refine st_name i.st i.env (.inr i.wl) (i.w0 _ i.wl) hn hy hk hm r fun s' x' e' k' hm' t' => k s' (i.bound hm x' e' k' hm' (fun nm' h => by
    have hne : nm' ≠ nm := fun z => hyx (nodup_idx hn hy (z ▸ h))
    exact if_neg hne) ?_) (Chg.keeps k' fun a z => by have z : a = renv.locals := z; rw [z]; exact i.wl)
  rw [lk_st, if_neg fun z => hyx z.1.symm]
  exact i.acc

/-- the accumulator gets a list that was avoided until now -/
theorem SI.own {xn : Str} {us : List V} {vs : List Value} {fa : Addr} {P : Unit → Shared → Prop} {E} (i : SI C (fun a => B a ∨ a = fa) names renv x W s ρ o) (nb : ¬ B fa) (hB : ∀ a, C.D = some a → B a) (h0f : C.h₀.get? fa = none)
    (hx : names[x]? = some xn) (hk : renv.kindOf xn = some .local) (hn : names.Nodup) (hl : LstAt s.heap fa vs) (r : RepL C (fun a => (B a ∨ a = fa) ∨ W a) s.heap us vs) (hc : ∀ nm c, renv.cells.lookup nm = some c → c ≠ fa)
    (k : ∀ s', SI C B names renv x (fun a => W a ∨ a = fa) s' ρ (some us) → Chg C W s s' → P () s') :
    wpAny (model C.prog C.w) A (storeName renv xn (.ref fa)) P E s := by
  obtain ⟨m, hm, _⟩ := id i.ns
  have nL : fa ≠ renv.locals := fun z => i.wb _ i.wl (.inr z.symm)
  refine wpAny_storeName_local hk hm (fun h' hm' hs => ?_) (fn_store i.env.kind)
  let s' : Shared := { s with heap := h', toks := s.toks + 1 }
  have k' : Keeps (· = renv.locals) s s' := fun a o na g => (hs.2 a na).trans g
  have tL : h'.get? renv.locals ≠ none := by obtain ⟨o, _, _, ho, _⟩ := hm'; rw [ho]; simp
  have th : ∀ a, s.heap.get? a ≠ none → h'.get? a ≠ none := fun a g => if z : a = renv.locals then z ▸ tL else k'.there z g
  have eqL : ∀ a, a = renv.locals → W a := fun a z => by rw [z]; exact i.wl
  have x' : St C s' := i.st.keeps k' (fun a z => i.w0 _ (eqL a z)) (fun a z => i.wd _ (eqL a z)) rfl rfl
  refine k s' { st := x', deck := hB, base := fun a z => th a (i.base a (.inl z)), wl := .inl i.wl, wb := ?_, w0 := ?_, wd := ?_, wt := ?_, cells := ?_, env := ?_, acc := i.acc, ns := ⟨_, hm', xn, fa, vs, hx, hk, if_pos rfl, .inr rfl, nL, hl.keep fun o g => k' _ _ nL g, ?_⟩ } ?_
  · rintro a (z | z) q
    · exact i.wb a z (.inl q)
    · exact nb (z ▸ q)
  · rintro a (z | rfl)
    · exact i.w0 a z
    · exact h0f
  · rintro a (z | z)
    · exact i.wd a z
    · exact fun q => nb (hB _ (z ▸ q))
  · rintro a (z | z)
    · exact th a (i.wt a z)
    · exact th a (i.base a (.inr z))
  · rintro nm c g (z | z)
    · exact i.cells nm c g z
    · exact hc nm c g z
  · refine ⟨i.env.kind, i.env.glob, i.env.blt, fun j d q => ?_, tL, fun nm c g => th c (i.env.there.2 nm c g)⟩
    obtain ⟨nm, v, a1, a2, a3⟩ := i.env.vars j d q
    have hjx : nm ≠ xn := fun z => by
      have : j = x := nodup_idx hn a1 (z ▸ hx)
      rw [this, i.acc] at q; cases q
    refine ⟨nm, v, a1, ?_, Rep.move (fun b o nb' g => ⟨fun z => nb' ?_, k' b o (fun z => nb' (.inr (eqL b z))) g⟩) _ a3⟩
    · rcases a2 with ⟨kk, m1, hn1, hm2⟩ | ⟨kk, c, hc, o, ho, hd⟩
      · have := ns_unique hn1 hm
        subst this
        exact .inl ⟨kk, _, hm', by rw [if_neg hjx]; exact hm2⟩
      · exact .inr ⟨kk, c, hc, o, k' _ _ (fun z => i.cells nm c hc (eqL c z)) ho, hd⟩
    · rcases z with z | z | z
      · exact .inl (.inl z)
      · exact .inr z
      · exact .inl (.inr z)
  · refine RepL.move (fun b o nb' g => ⟨fun z => nb' ?_, k' b o (fun z => nb' (.inr (eqL b z))) g⟩) _ r
    rcases z with z | z | z
    · exact .inl (.inl z)
    · exact .inr z
    · exact .inl (.inr z)
  · intro a o d na g
    exact k' a o (fun z => na (eqL a z)) g

/-- what a statement leaves -/
noncomputable def Out (C : Cx) (av₀ B : Addr → Prop) (names : List Str) (renv : Env) (x : Nat) (W : Addr → Prop) (s : Shared) (N : List (Option V) → Option (List V) → Prop) (R : V → Prop) : Flow → Shared → Prop
  | .next, s' => ∃ W' ρ' o', N ρ' o' ∧ SI C B names renv x W' s' ρ' o' ∧ (∀ a, W a → W' a) ∧ (∀ a, W' a → W a ∨ s.heap.get? a = none) ∧ Chg C W s s'
  | .ret v, s' => ∃ d, R d ∧ Rep C av₀ s'.heap d v ∧ St C s' ∧ Chg C W s s'
  | _, _ => False

theorem Out.trans {av₀ : Addr → Prop} {W' : Addr → Prop} {s' s'' : Shared} {N : List (Option V) → Option (List V) → Prop} {R : V → Prop} {f : Flow} (h : Out C av₀ B names renv x W' s' N R f s'') (h1 : ∀ a, W a → W' a) (h2 : ∀ a, W' a → W a ∨ s.heap.get? a = none) (hc : Chg C W s s') (th : ∀ a, s.heap.get? a ≠ none → s'.heap.get? a ≠ none) :
    Out C av₀ B names renv x W s N R f s'' := by
  have cc : ∀ {s''}, Chg C W' s' s'' → Chg C W s s'' := fun c a o d na g => c a o d (fun z => (h2 a z).elim na fun z => (by rw [z] at g; cases g)) (hc a o d na g)
  cases f with
  | next =>
    obtain ⟨W'', ρ', o', n, i, k1, k2, c⟩ := h
    refine ⟨W'', ρ', o', n, i, fun a z => k1 a (h1 a z), fun a z => ?_, cc c⟩
    rcases k2 a z with z | z
    · exact h2 a z
    · refine .inr ?_
      cases q : s.heap.get? a with
      | none => rfl
      | some o => exact absurd z (th a (by rw [q]; simp))
  | ret v =>
    obtain ⟨d, r, p, q, c⟩ := h
    exact ⟨d, r, p, q, cc c⟩
  | brk => exact h
  | cont => exact h
end

section
variable {C : Cx} {av₀ B W : Addr → Prop} {A : Around} {s : Shared} {n : Nat} {names : List Str} {renv : Env} {ρ : List (Option V)} {o : Option (List V)} {x : Nat} {N : List (Option V) → Option (List V) → Prop} {R : V → Prop}

theorem out_next {s' : Shared} {ρ' : List (Option V)} {o' : Option (List V)} (q : N ρ' o') (i : SI C B names renv x W s' ρ' o') (c : Chg C W s s') : Out C av₀ B names renv x W s N R .next s' :=
  ⟨W, ρ', o', q, i, fun _ z => z, fun _ z => .inl z, c⟩

theorem SI.dirty (i : SI C B names renv x W s ρ o) (h : ∀ a, av₀ a → B a) : EnvOk C names renv av₀ s.heap (dirty x o ρ) := by
  have e0 : EnvOk C names renv av₀ s.heap ρ := i.env.less fun a z => .inl (h a z)
  cases o with
  | none => exact e0
  | some us =>
    obtain ⟨m, hm, xn, fa, vs, h1, h2, h3, h4, h5, h6, h7⟩ := i.ns
    refine ⟨e0.kind, e0.glob, e0.blt, fun j d q => ?_, e0.there⟩
    simp only [Mine.dirty] at q
    rw [lk_st] at q
    split at q
    · rename_i z
      cases q
      refine ⟨xn, .ref fa, z.1 ▸ h1, .inl ⟨h2, m, hm, h3⟩, ?_⟩
      simp only [Rep]
      exact ⟨fa, vs, rfl, fun z => i.wb _ h4 (h _ z), h6, h7.less fun a z => .inl (h a z)⟩
    · exact e0.vars j d q

noncomputable def ES (C : Cx) (n : Nat) (av₀ B : Addr → Prop) (names : List Str) (renv : Env) (x : Nat) (ρ : List (Option V)) (o : Option (List V)) (st : PySem.Stmt) (N : List (Option V) → Option (List V) → Prop) (R : V → Prop) : Prop :=
  ∀ (A : Around) (s : Shared) (W : Addr → Prop), Room n A → SI C B names renv x W s ρ o → wpAny (model C.prog C.w) A (exec st renv) (Out C av₀ B names renv x W s N R) NoE s
noncomputable def ESs (C : Cx) (n : Nat) (av₀ B : Addr → Prop) (names : List Str) (renv : Env) (x : Nat) (ρ : List (Option V)) (o : Option (List V)) (sts : List PySem.Stmt) (N : List (Option V) → Option (List V) → Prop) (R : V → Prop) : Prop :=
  ∀ (A : Around) (s : Shared) (W : Addr → Prop), Room n A → SI C B names renv x W s ρ o → wpAny (model C.prog C.w) A (execs sts renv) (Out C av₀ B names renv x W s N R) NoE s

theorem es_nil (q : N ρ o) : ESs C n av₀ B names renv x ρ o [] N R := fun A s W rm i => wpAny_execs_nil (out_next q i (Chg.refl C W s))

theorem there_next {W' : Addr → Prop} {s' : Shared} {ρ' : List (Option V)} {o' : Option (List V)} (i' : SI C B names renv x W' s' ρ' o') (k1 : ∀ a, W a → W' a) (c : Chg C W s s') : ∀ a, s.heap.get? a ≠ none → s'.heap.get? a ≠ none := fun a g => by
  by_cases hw : W a
  · exact i'.wt a (k1 a hw)
  · exact c.there i'.st hw g

theorem es_cons {st : PySem.Stmt} {sts : List PySem.Stmt} {N' : List (Option V) → Option (List V) → Prop} (h : ES C n av₀ B names renv x ρ o st N' R) (k : ∀ ρ' o', N' ρ' o' → ESs C n av₀ B names renv x ρ' o' sts N R) : ESs C n av₀ B names renv x ρ o (st :: sts) N R := fun A s W rm i => by
  refine wpAny_execs_cons (wpAny_mono (h A s W rm i) (fun f s' p => ?_) fun _ _ e => e)
  cases f with
  | next =>
    obtain ⟨W', ρ', o', q, i', k1, k2, c⟩ := p
    exact wpAny_mono (k ρ' o' q A s' W' rm i') (fun f s'' p => p.trans k1 k2 c (there_next i' k1 c)) fun _ _ e => e
  | ret v => exact p
  | brk => exact p.elim
  | cont => exact p.elim

/-- one value in a frame, then more -/
theorem si_then {e : PySem.Expr} {Q1 : V → Prop} {P : Value → Shared → Prop} (h : Ev C n names renv ρ e Q1) (rm : Room n A) (i : SI C B names renv x W s ρ o)
    (k : ∀ v s₁ d, Q1 d → Rep C (fun a => B a ∨ W a) s₁.heap d v → SI C B names renv x W s₁ ρ o → Step C s s₁ → P v s₁) :
    wpAny (model C.prog C.w) A (eval e renv) P NoE s :=
  wp_then h rm i.st i.av i.env fun v s₁ d q r x' y _ _ => k v s₁ d q r (i.step y x') y

theorem es_ret {e : PySem.Expr} {pos : Pos} (h : Ev C n names renv (dirty x o ρ) e R) (h0 : ∀ a, av₀ a → B a) (hD : ∀ a, C.D = some a → av₀ a) : ES C n av₀ B names renv x ρ o (.Return (some e) pos) N R := fun A s W rm i =>
  wpAny_Return_some (wp_then h rm i.st ⟨hD, fun a z => i.base a (h0 a z)⟩ (i.dirty h0) fun v s₁ d q r x' y _ _ => ⟨d, q, r, x', Chg.step y⟩)

theorem loc_is {kinds : Kinds} {y : Nat} {nm : Str} (h : chkLoc kinds names y nm = true) : names[y]? = some nm ∧ kinds.lookup nm = some .local ∧ chkVar kinds names y nm = true := by
  simp only [chkLoc, Bool.and_eq_true, beq_iff_eq] at h
  refine ⟨?_, h.2, h.1⟩
  have := h.1
  simp only [chkVar, Bool.and_eq_true, beq_iff_eq] at this
  exact this.1

theorem noComp_swaps {e : PySem.Expr} {t : Option PySem.Expr} {l : Nat} (h : isComp e = false) : swapsWith e t l renv = pure false := by
  cases e <;> first | rfl | exact Bool.noConfusion h

theorem es_asg {kinds : Kinds} {y : Nat} {nm : Str} {p pos : Pos} {e : PySem.Expr} (hk : renv.scope.names = kinds) (hn : names.Nodup) (hy : chkLoc kinds names y nm = true) (hyx : y ≠ x) (hc : isComp e = false)
    (h : Ev C n names renv ρ e fun v => lay (st' ρ y (some v)) fun ρ' => N ρ' o) : ES C n av₀ B names renv x ρ o (.Assign [.Name nm p] e pos) N R := fun A s W rm i => by
  rw [lay_fn] at h
  obtain ⟨h1, h2, _⟩ := loc_is hy
  refine wpAny_Assign_Name (si_then h rm i fun v s₁ d q r i₁ y₁ => ?_) (noComp_swaps hc)
  exact i₁.store hn h1 (by rw [Env.kindOf, hk]; exact h2) hyx r fun s₂ i₂ c => out_next q i₂ (Chg.trans (Chg.step y₁) c)

theorem es_if {t : PySem.Expr} {xs ys : List PySem.Stmt} {pos : Pos} {wa wb : Prop} (h : EvT C n names renv ρ t fun c => ifb 0 c wa wb) (ha : wa → ESs C n av₀ B names renv x ρ o xs N R) (hb : wb → ESs C n av₀ B names renv x ρ o ys N R) :
    ES C n av₀ B names renv x ρ o (.If t xs ys pos) N R := fun A s W rm i => by
  rw [ifb_fn] at h
  refine wpAny_If (wpAny_mono (h A s _ rm i.st i.av i.env) (fun c s₁ p => ?_) fun _ _ e => e)
  obtain ⟨q, x', y⟩ := p
  have i₁ := i.step y x'
  cases c with
  | true =>
    simp only [if_true] at q ⊢
    exact wpAny_mono (ha q A s₁ W rm i₁) (fun f s' p => p.trans (fun _ z => z) (fun _ z => .inl z) (Chg.step y) fun a g => y.there g) fun _ _ e => e
  | false =>
    simp only [Bool.false_eq_true, if_false] at q ⊢
    exact wpAny_mono (hb q A s₁ W rm i₁) (fun f s' p => p.trans (fun _ z => z) (fun _ z => .inl z) (Chg.step y) fun a g => y.there g) fun _ _ e => e

theorem es_aug {kinds : Kinds} {y : Nat} {nm : Str} {p pos : Pos} {e : PySem.Expr} {u : V} (hk : renv.scope.names = kinds) (hn : names.Nodup) (hy : chkLoc kinds names y nm = true) (hyx : y ≠ x) (hu : lk ρ y = some u)
    (h : Ev C n names renv ρ e fun v => augop u v fun r => lay (st' ρ y (some r)) fun ρ' => N ρ' o) : ES C n av₀ B names renv x ρ o (.AugAssign (.Name nm p) .Add e pos) N R := fun A s W rm i => by
  rw [lay_fn] at h
  obtain ⟨h1, h2, _⟩ := loc_is hy
  obtain ⟨nm', uv, e1, e2, e3⟩ := i.env.vars y u hu
  rw [h1] at e1; cases e1
  refine wpAny_AugAssign_Name (ld_bound e2 i.env.kind (si_then h rm i fun v s₁ d q r i₁ y₁ => ?_))
  have r0 := e3.step i.av y₁
  cases u <;> (first | exact False.elim q | skip) <;> cases d <;> (first | exact False.elim q | skip)
  · obtain ⟨t0, rfl⟩ := r0
    obtain ⟨t1, rfl⟩ := r
    refine P.iadd_int (SI.store (i₁.step (s' := { s₁ with toks := s₁.toks + 1 }) (Step.all fun _ _ g => g) (i₁.st.all (fun _ _ g => g) rfl rfl)) hn h1 (by rw [Env.kindOf, hk]; exact h2) hyx (by exact Exists.intro _ rfl) fun s₂ i₂ c => out_next q i₂ (Chg.trans (Chg.step y₁) (Chg.trans (s' := { s₁ with toks := s₁.toks + 1 }) (fun _ _ _ _ g => g) c)))
  · obtain ⟨t0, rfl⟩ := r0
    obtain ⟨t1, rfl⟩ := r
    refine PyProof.Rows.iadd_str (fun t' tk => SI.store (i₁.step (s' := { s₁ with toks := tk }) (Step.all fun _ _ g => g) (i₁.st.all (fun _ _ g => g) rfl rfl)) hn h1 (by rw [Env.kindOf, hk]; exact h2) hyx (by rw [mkS_append]; simp only [Rep]; exact ⟨_, rfl⟩) fun s₂ i₂ c => out_next q.2 i₂ (Chg.trans (Chg.step y₁) (Chg.trans (s' := { s₁ with toks := tk }) (fun _ _ _ _ g => g) c))) (by rw [mkS_length, mkS_length, sizeLine_eq]; exact q.1)

/-! operands of a new list -/
noncomputable def OV (C : Cx) (n : Nat) (B : Addr → Prop) (names : List Str) (renv : Env) (x : Nat) (ρ : List (Option V)) (o : Option (List V)) (e : PySem.Expr) (Q : List V → Prop) : Prop :=
  ∀ (A : Around) (s : Shared) (W : Addr → Prop), Room n A → SI C B names renv x W s ρ o → wpAny (model C.prog C.w) A (eval e renv) (fun v s' => ∃ us fa vs, Q us ∧ v = .ref fa ∧ LstAt s'.heap fa vs ∧ RepL C (fun a => B a ∨ W a) s'.heap us vs ∧ C.D ≠ some fa ∧ St C s' ∧ Step C s s') NoE s
noncomputable def OF (C : Cx) (n : Nat) (B : Addr → Prop) (names : List Str) (renv : Env) (x : Nat) (ρ : List (Option V)) (o : Option (List V)) (e : PySem.Expr) (Q : List V → Prop) : Prop :=
  ∀ (A : Around) (s : Shared) (W : Addr → Prop), Room n A → SI C B names renv x W s ρ o → wpAny (model C.prog C.w) A (eval e renv) (fun v s' => ∃ us fa vs, Q us ∧ v = .ref fa ∧ s.heap.get? fa = none ∧ LstAt s'.heap fa vs ∧ RepL C (fun a => (B a ∨ a = fa) ∨ W a) s'.heap us vs ∧ St C s' ∧ Step C s s') NoE s

theorem OF.ov {e : PySem.Expr} {Q : List V → Prop} (h : OF C n B names renv x ρ o e Q) : OV C n B names renv x ρ o e Q := fun A s W rm i =>
  wpAny_mono (h A s W rm i) (fun v s' p => by
    obtain ⟨us, fa, vs, q, e, g, l, r, x', y⟩ := p
    exact ⟨us, fa, vs, q, e, l, r.less fun a z => z.elim (fun z => .inl (.inl z)) .inr, fun z => i.base _ (i.deck _ z) g, x', y⟩) fun _ _ e => e

theorem ov_val {e : PySem.Expr} {Q : List V → Prop} (h : Ev C n names renv ρ e fun v => lstQ v Q) : OV C n B names renv x ρ o e Q := fun A s W rm i => si_then h rm i fun v s₁ d q r i₁ y₁ => by
  cases d <;> (first | exact False.elim q | skip)
  obtain ⟨fa, vs, rfl, nf, l, rl⟩ := r
  exact ⟨_, fa, vs, q, rfl, l, rl, fun z => nf (.inl (i.deck _ z)), i₁.st, y₁⟩

theorem ov_acc {kinds : Kinds} {nm : Str} {pos : Pos} {us : List V} {Q : List V → Prop} (hk : renv.scope.names = kinds) (hc : chkVar kinds names x nm = true) (q : Q us) : OV C n B names renv x ρ (some us) (.Name nm pos) Q := fun A s W rm i => by
  obtain ⟨m, hm, xn, fa, vs, h1, h2, h3, h4, h5, h6, h7⟩ := i.ns
  simp only [chkVar, Bool.and_eq_true, beq_iff_eq] at hc
  rw [hc.1] at h1; cases h1
  exact wpAny_Name (wpAny_loadName_local i.env.kind h2 hm h3 ⟨us, fa, vs, q, rfl, h6, h7, i.wd _ h4, i.st, Step.refl C s⟩) (isVar_debug hc.2)

theorem of_add {l r : PySem.Expr} {pos : Pos} {Q : List V → Prop} {wa wb : (List V → Prop) → Prop} (ia : ∀ Q, wa Q → OV C n B names renv x ρ o l Q) (ib : ∀ Q, wb Q → OV C n B names renv x ρ o r Q)
    (q : wa fun us => wb fun ws => us.length + ws.length ≤ lim ∧ Q (us ++ ws)) : OF C n B names renv x ρ o (.BinOp l .Add r pos) Q := fun A s W rm i => by
  refine wpAny_BinOp (wpAny_mono (ia _ q A s W rm i) (fun v s₁ p => ?_) fun _ _ e => e)
  obtain ⟨us, f1, vs, q₁, rfl, l₁, r₁, d₁, x₁, y₁⟩ := p
  have i₁ := i.step y₁ x₁
  refine wpAny_mono (ib _ q₁ A s₁ W rm i₁) (fun v s₂ p => ?_) fun _ _ e => e
  obtain ⟨ws, f2, vs2, q₂, rfl, l₂, r₂, d₂, x₂, y₂⟩ := p
  obtain ⟨k1, g1⟩ := l₁
  obtain ⟨k2, g2⟩ := l₂
  have rl := r₁.step i₁.av y₂
  have e1 := rl.length
  have e2 := r₂.length
  refine PySem.P.add_list (n := k1) (n2 := k2) (y₂.keep _ _ d₁ g1) g2 ?_ (by rw [sizeLine_eq, List.size_toArray, List.size_toArray, e1, e2]; exact q₂.1)
  rw [List.append_toArray]
  have kp := keep_push s₂.heap { cls := .type "list", data := .seq (vs ++ vs2).toArray }
  refine ⟨us ++ ws, s₂.heap.objs.size, vs ++ vs2, q₂.2, rfl, ?_, ⟨_, Heap.get?_push_size _ rfl⟩, ?_, x₂.all kp rfl rfl, (y₁.trans y₂).trans (Step.all kp)⟩
  · cases g : s.heap.get? s₂.heap.objs.size with
    | none => rfl
    | some o => exact absurd (new_none (Nat.le_refl _)) ((y₁.trans y₂).there (a := s₂.heap.objs.size) (by rw [g]; simp))
  · refine RepL.move (fun b o nb g => ⟨fun z => ?_, kp b o g⟩) _ (rl.append r₂)
    rcases z with (z | z) | z
    · exact nb (.inl z)
    · rw [z, new_none (Nat.le_refl _)] at g; cases g
    · exact nb (.inr z)

theorem of_nil {pos : Pos} {Q : List V → Prop} (q : Q []) : OF C n B names renv x ρ o (.List [] pos) Q := fun A s W rm i => by
  refine wpAny_List_spliced (spliced_nil ⟨by simp, ?_⟩)
  have kp := keep_push s.heap { cls := .type "list", data := .seq ([] : List Value).toArray }
  exact ⟨[], s.heap.objs.size, [], q, rfl, new_none (Nat.le_refl _), ⟨_, Heap.get?_push_size _ rfl⟩, RepL.nil, i.st.all kp rfl rfl, Step.all kp⟩

theorem es_own {kinds : Kinds} {nm : Str} {p pos : Pos} {e : PySem.Expr} (hk : renv.scope.names = kinds) (hn : names.Nodup) (hy : chkLoc kinds names x nm = true) (hc : isComp e = false)
    (h : OF C n B names renv x ρ o e fun us => N ρ (some us)) : ES C n av₀ B names renv x ρ o (.Assign [.Name nm p] e pos) N R := fun A s W rm i => by
  obtain ⟨h1, h2, _⟩ := loc_is hy
  refine wpAny_Assign_Name (wpAny_mono (h A s W rm i) (fun v s₁ p => ?_) fun _ _ e => e) (noComp_swaps hc)
  obtain ⟨us, fa, vs, q, rfl, g, l, r, x₁, y₁⟩ := p
  have nb : ¬ B fa := fun z => i.base _ z g
  have i₁ : SI C (fun a => B a ∨ a = fa) names renv x W s₁ ρ o := i.grow y₁ x₁ (fun a z => .inl z) (fun a z => z.elim .inl fun z => .inr (z ▸ g)) fun a z => z.elim (fun z => y₁.there (i.base a z)) fun z => by obtain ⟨k, g⟩ := l; rw [z, g]; simp
  refine i₁.own nb i.deck ?_ h1 (by rw [Env.kindOf, hk]; exact h2) hn l r (fun nm c hcc z => i.env.there.2 nm c hcc (z ▸ g)) fun s₂ i₂ c => ?_
  · cases g' : C.h₀.get? fa with
    | none => rfl
    | some o => have := i.st.keep fa o g'; rw [g] at this; cases this
  · exact ⟨_, _, _, q, i₂, fun a z => .inl z, fun a z => z.elim .inl fun z => .inr (z ▸ g), Chg.trans (Chg.step y₁) c⟩
end

section
variable {C : Cx} {av₀ B W : Addr → Prop} {A : Around} {s : Shared} {n : Nat} {names : List Str} {renv : Env} {ρ : List (Option V)} {o : Option (List V)} {x : Nat} {N : List (Option V) → Option (List V) → Prop} {R : V → Prop}

theorem mapSeq_append_plain (its ys : Array Value) (n : Nat) : ∃ n', Obj.mapSeq (fun xs => xs ++ ys) { cls := .type "list", data := .seq its n } = { cls := .type "list", data := .seq (its ++ ys) n' } := ⟨_, rfl⟩

/-- the accumulator's list is changed in place -/
theorem SI.grown {us us' : List V} {h' : Heap} {xn : Str} {m : Str → Option Value} {fa : Addr} {vs' : List Value} (i : SI C B names renv x W s ρ (some us)) (hm : s.heap.Ns renv.locals m) (h1 : names[x]? = some xn) (h2 : renv.kindOf xn = some .local) (h3 : m xn = some (.ref fa)) (h4 : W fa) (h5 : fa ≠ renv.locals)
    (sb : Heap.SameBut fa s.heap h') (hl : LstAt h' fa vs') (r : RepL C (fun a => B a ∨ W a) s.heap us' vs') : SI C B names renv x W { s with heap := h' } ρ (some us') := by
  have k : Keeps (· = fa) s { s with heap := h' } := fun b o nb g => (sb.2 b nb).trans g
  have eqf : ∀ a, a = fa → W a := fun a z => by rw [z]; exact h4
  have tf : h'.get? fa ≠ none := by obtain ⟨n, g⟩ := hl; rw [g]; simp
  have th : ∀ a, s.heap.get? a ≠ none → h'.get? a ≠ none := fun a g => if z : a = fa then z ▸ tf else k.there z g
  exact { st := i.st.keeps k (fun a z => i.w0 _ (eqf a z)) (fun a z => i.wd _ (eqf a z)) rfl rfl, deck := i.deck, base := fun a z => th a (i.base a z), wl := i.wl, wb := i.wb, w0 := i.w0, wd := i.wd, wt := fun a z => th a (i.wt a z), cells := i.cells,
          env := i.env.keeps k (fun a z => .inr (eqf a z)) (fun z => h5 z.symm) (fun nm c g z => i.cells nm c g (eqf c z)), acc := i.acc,
          ns := ⟨m, Ns.keep hm fun o g => k _ _ (fun z => h5 z.symm) g, xn, fa, vs', h1, h2, h3, h4, h5, hl, RepL.move (fun b o nb g => ⟨nb, k b o (fun z => nb (.inr (eqf b z))) g⟩) _ r⟩ }

theorem es_append {kinds : Kinds} {nm : Str} {pn p pos spos : Pos} {e : PySem.Expr} {us : List V} (hk : renv.scope.names = kinds) (hl : (p.endLine == pos.line) = true) (hy : chkLoc kinds names x nm = true) (hs : notStarred e = true) (hz : us.length ≤ lim)
    (h : Ev C n names renv ρ e fun v => N ρ (some (us ++ [v]))) : ES C n av₀ B names renv x ρ (some us) (.Expr (.Call (.Attribute (.Name nm pn) "append" p) [e] [] pos) spos) N R := fun A s W rm i => by
  obtain ⟨h1, h2, h3⟩ := loc_is hy
  obtain ⟨m, hm, xn, fa, vs, e1, e2, e3, e4, e5, e6, e7⟩ := id i.ns
  rw [h1] at e1; cases e1
  have hint : interactive renv = false := by unfold interactive; rw [i.env.kind]; rfl
  refine wpAny_Expr_any ?_ hint rfl
  simp only [chkVar, Bool.and_eq_true, beq_iff_eq] at h3
  refine wpAny_Call_method (T := "list") (id := "list.append") rfl (by rw [backTo_one hs]; rfl) hl F.plainAttrs_list F.slot_list_append F.type_list_append (wpAny_Name (wpAny_loadName_local i.env.kind e2 hm e3 ⟨?_, ?_, ?_⟩) (isVar_debug h3.2))
  · obtain ⟨k, g⟩ := e6; exact ⟨_, g, rfl⟩
  · rintro a ⟨⟩; obtain ⟨k, g⟩ := e6; exact ⟨_, g, rfl⟩
  rw [backTo_one hs]
  refine PySem.P.append_list (si_then h rm i fun v s₁ d q r i₁ y₁ => ?_)
  obtain ⟨k, g⟩ := e6
  have g1 := y₁.keep _ _ (i.wd _ e4) g
  have r1 := e7.step i.av y₁
  have el := r1.length
  refine ⟨vs.toArray, k, size_lim (by omega), g1, ?_⟩
  have hl' : LstAt (s₁.heap.update fa (Obj.mapSeq fun xs => xs.push v)) fa (vs ++ [v]) := ⟨k + 1, by
    rw [Heap.get?_update_self _ g1 (by rw [Obj.mapSeq_push_plain]; rfl), Obj.mapSeq_push_plain]; simp⟩
  have i₂ := i₁.grown (Ns.keep hm fun o g => y₁.keep _ _ (i.wd _ i.wl) g) h1 e2 e3 e4 e5 (Heap.SameBut.update ..) hl' (r1.append (RepL.one r))
  refine out_next q i₂ (Chg.trans (Chg.step y₁) fun a o d na g => ?_)
  exact ((Heap.SameBut.update s₁.heap fa _).2 a fun z => na (z ▸ e4)).trans g

theorem es_extend {kinds : Kinds} {nm : Str} {pn p pos spos : Pos} {e : PySem.Expr} {us : List V} (hk : renv.scope.names = kinds) (hl : (p.endLine == pos.line) = true) (hy : chkLoc kinds names x nm = true) (hs : notStarred e = true)
    (h : Ev C n names renv ρ e fun v => lstQ v fun ws => us.length + ws.length ≤ lim ∧ N ρ (some (us ++ ws))) : ES C n av₀ B names renv x ρ (some us) (.Expr (.Call (.Attribute (.Name nm pn) "extend" p) [e] [] pos) spos) N R := fun A s W rm i => by
  obtain ⟨h1, h2, h3⟩ := loc_is hy
  obtain ⟨m, hm, xn, fa, vs, e1, e2, e3, e4, e5, e6, e7⟩ := id i.ns
  rw [h1] at e1; cases e1
  have hint : interactive renv = false := by unfold interactive; rw [i.env.kind]; rfl
  refine wpAny_Expr_any ?_ hint rfl
  simp only [chkVar, Bool.and_eq_true, beq_iff_eq] at h3
  refine wpAny_Call_method (T := "list") (id := "list.extend") rfl (by rw [backTo_one hs]; rfl) hl F.plainAttrs_list F.slot_list_extend F.type_list_extend (wpAny_Name (wpAny_loadName_local i.env.kind e2 hm e3 ⟨?_, ?_, ?_⟩) (isVar_debug h3.2))
  · obtain ⟨k, g⟩ := e6; exact ⟨_, g, rfl⟩
  · rintro a ⟨⟩; obtain ⟨k, g⟩ := e6; exact ⟨_, g, rfl⟩
  rw [backTo_one hs]
  refine PySem.P.extend_list (si_then h rm i fun v s₁ d q r i₁ y₁ => ?_)
  obtain ⟨k, g⟩ := e6
  have g1 := y₁.keep _ _ (i.wd _ e4) g
  have r1 := e7.step i.av y₁
  have el := r1.length
  cases d <;> (first | exact False.elim q | skip)
  rename_i ws
  obtain ⟨fb, vs2, rfl, nfb, ⟨k2, g2⟩, r2⟩ := r
  have el2 := r2.length
  obtain ⟨qz, q⟩ := q
  have sz : vs.toArray.size + vs2.toArray.size ≤ sizeLine := by rw [sizeLine_eq, List.size_toArray, List.size_toArray, el, el2]; exact qz
  refine ⟨fb, vs.toArray, vs2.toArray, k, k2, by omega, by omega, ?_, rfl, g1, g2, ?_⟩
  · have : Builtin.List.listTooLong (vs.toArray.size + vs2.toArray.size) = false := by
      unfold Builtin.List.listTooLong
      simp only [decide_eq_false_iff_not]
      omega
    rw [this]; simp
  obtain ⟨k', hk'⟩ := mapSeq_append_plain vs.toArray vs2.toArray k
  have hl' : LstAt (s₁.heap.update fa (Obj.mapSeq fun xs => xs ++ vs2.toArray)) fa (vs ++ vs2) := ⟨k', by
    rw [Heap.get?_update_self _ g1 (by rw [hk']; rfl), hk']; simp⟩
  have i₂ := i₁.grown (Ns.keep hm fun o g => y₁.keep _ _ (i.wd _ i.wl) g) h1 e2 e3 e4 e5 (Heap.SameBut.update ..) hl' (r1.append r2)
  refine out_next q i₂ (Chg.trans (Chg.step y₁) fun a o d na g => ?_)
  exact ((Heap.SameBut.update s₁.heap fa _).2 a fun z => na (z ▸ e4)).trans g

theorem evalThenUse_ListComp (elt gens sc pos) (use : Value → Sem Unit) : evalThenUse (.ListComp elt gens sc pos) renv use = (do
    let _ ← comprehension (.ListComp elt gens sc pos) sc renv (firstIterPos gens pos) (newList []) (firstAsync gens) (firstIter gens renv) (some use)
    pure ()) := rfl

/-- a comprehension that is stored at once -/
theorem es_comp {kinds : Kinds} {kind : Kd} {tgt : Tgt} {t elt xe ie : PySem.Expr} {sc : Scope} {pos p spos : Pos} {caps : List Nat} {cs : List V} {ext : List Str} {wa : (V → Prop) → Prop} {we : List (Option V) → (V → Prop) → Prop} {y : Nat} {nm : Str}
    (O : C.Ok) (hk : renv.scope.names = kinds) (hn : names.Nodup) (hy : chkLoc kinds names y nm = true) (hyx : y ≠ x) (hline : (p.line == pos.line) = true) (hown : (sc.names.any fun (z, k) => z == nm && (k == .local || k == .cell)) = false)
    (hx : itExpr kinds kind xe = some ie) (hs : notStarred ie = true) (hset : noSet xe = true) (ia : ∀ Q, wa Q → Ev C n names renv ρ ie Q)
    (hcs : capsOf ρ caps = some cs)
    (q : wa fun v => itemsOf kind v fun vs => MapV (fun v Q' => match bindT tgt v (cs.map some ++ List.replicate tgt.size none) with
      | some ρ' => we ρ' Q'
      | none => False) vs fun rs => lay (st' ρ y (some (.lst rs))) fun ρ' => N ρ' o)
    (ie' : ∀ cenv ρ' Q', cenv.scope.names = relNames kinds sc.names → we ρ' Q' → Ev C n (caps.filterMap (names[·]?) ++ ext) cenv ρ' elt Q')
    (hsc : chkScope kinds (caps.filterMap (names[·]?)) sc = true) (hca : (caps.all (fun c => (names[c]?).any fun nm => kinds.lookup nm == some .cell)) = true)
    (htgt : chkTgt (relNames kinds sc.names) (caps.filterMap (names[·]?) ++ ext) tgt t = true) (hen : enumTgt kind tgt = true) (hnd : (caps.filterMap (names[·]?) ++ ext).Nodup) :
    ES C n av₀ B names renv x ρ o (.Assign [.Name nm p] (.ListComp elt [⟨t, xe, [], 0⟩] sc pos) spos) N R := fun A s W rm i => by
  rw [MapV.eq, lay_fn] at q
  obtain ⟨h1, h2, _⟩ := loc_is hy
  have hkl : renv.kindOf nm = some .local := by rw [Env.kindOf, hk]; exact h2
  have hb : renv.blockKind = .function := by unfold Env.blockKind; rw [i.env.kind]; rfl
  have hsw : swapsWith (.ListComp elt [⟨t, xe, [], 0⟩] sc pos) (some (.Name nm p)) spos.line renv = pure true := by
    show (pure (renv.blockKind == .function && renv.kindOf nm == some .local && p.line == pos.line && !(sc.names.any fun (z, k) => z == nm && (k == .local || k == .cell))) : Sem Bool) = pure true
    rw [hb, hkl, hline, hown]; rfl
  rw [exec_Assign_Name_used _ _ _ _ hsw]
  refine wpAny_bind (wpAny_standAt (wpAny_bind ?_))
  rw [evalThenUse_ListComp]
  obtain ⟨cl, hcl, core⟩ := comp_core (pos := pos) O hk hx hs ia hcs q ie' hsc hca htgt hen hnd rm i.st i.av i.env
  obtain ⟨k1, k2, k3, k4, k5⟩ := chkScope_is hsc
  refine wpAny_bind (wpAny_mono (wpAny_comprehension_free (use := some (assign (.Name nm p) renv)) (g := ⟨t, xe, [], 0⟩) (gs := []) (Q := fun _ s' => Out C av₀ B names renv x W s N R .next s') rfl (fun y => by cases xe <;> first | rfl | exact Bool.noConfusion hset) hcl k1 k3 (core ?_))
    (fun _ s' p => wpAny_pure (wpAny_pure p)) fun _ _ e => e)
  intro D L s' rs vs m qr gD gL ne ns lD rl x' y'
  show wpAny _ A (assign (.Name nm p) renv (.ref D)) _ NoE s'
  have tD : s'.heap.get? D ≠ none := by obtain ⟨k, g⟩ := lD; rw [g]; simp
  have tL : s'.heap.get? L ≠ none := by obtain ⟨o, _, _, ho, _⟩ := ns; rw [ho]; simp
  have nbL : ¬ B L := fun z => i.base _ z gL
  have nwL : ¬ W L := fun z => i.wt _ z gL
  have i₁ : SI C (fun a => B a ∨ a = L) names renv x W s' ρ o := i.grow y' x' (fun a z => .inl z) (fun a z => z.elim .inl fun z => .inr (z ▸ gL)) fun a z => z.elim (fun z => y'.there (i.base a z)) fun z => z ▸ tL
  refine wpAny_assign_Name (i₁.store (d := .lst rs) hn h1 hkl hyx ?_ fun s₂ i₂ c => ?_)
  · simp only [Rep]
    refine ⟨D, vs, rfl, fun z => ?_, lD, rl.less fun a z => ?_⟩
    · rcases z with (z | z) | z
      · exact i.base _ z gD
      · exact ne z
      · exact i.wt _ z gD
    · rcases z with (z | z) | z
      · exact .inl (.inl z)
      · exact .inr (.inl z)
      · exact .inl (.inr z)
  · have dL : C.D ≠ some L := fun z => nbL (i.deck _ z)
    have ns2 : s₂.heap.Ns L m := Ns.keep ns fun o g => c _ _ dL nwL g
    refine ⟨m, ns2, fun h' sb => ?_⟩
    have kL : Keeps (· = L) s₂ { s₂ with heap := h' } := fun b o nb g => (sb.2 b nb).trans g
    have h0L : C.h₀.get? L = none := by
      cases g' : C.h₀.get? L with
      | none => rfl
      | some o => have := i.st.keep L o g'; rw [gL] at this; cases this
    have i₃ : SI C B names renv x W { s₂ with heap := h' } (st' ρ y (some (.lst rs))) o := i₂.drop kL rfl rfl (fun a z => .inl z) i.deck (fun a z => ⟨.inr z, fun w => nbL ((z : a = L) ▸ w)⟩) (fun a z => by rw [(z : a = L)]; exact h0L) fun nm c hc z => i.env.there.2 nm c hc (by rw [(z : c = L)]; exact gL)
    refine out_next qr i₃ fun a o d na g => ?_
    refine kL a o (fun z => ?_) (c a o d na (y'.keep a o d g))
    rw [(z : a = L), gL] at g; cases g
end

section
variable {C : Cx} {av₀ B W : Addr → Prop} {A : Around} {s : Shared} {n : Nat} {names : List Str} {renv : Env} {ρ : List (Option V)} {o : Option (List V)} {x : Nat} {N : List (Option V) → Option (List V) → Prop} {R : V → Prop}

theorem ItOk.there {av : Addr → Prop} {h : Heap} {kind : Kd} {I J : Addr} {ds : List V} (it : ItOk C av h kind I J ds) : h.get? I ≠ none ∧ h.get? J ≠ none := by
  cases kind with
  | items => obtain ⟨e, _, _, _, ⟨o, ho, _⟩, _⟩ := it; rw [e, ho]; exact ⟨by simp, by simp⟩
  | range => obtain ⟨e, _, hr, _⟩ := it; rw [e, hr]; exact ⟨by simp, by simp⟩
  | enum => obtain ⟨_, _, _, _, _, _, he, ⟨o, ho, _⟩, _⟩ := it; rw [he, ho]; exact ⟨by simp, by simp⟩

theorem bindMany_lk {x : Nat} : ∀ {ys : List Nat} {ds : List V} {ρ ρ' : List (Option V)}, bindMany ys ds ρ = some ρ' → x ∉ ys → lk ρ' x = lk ρ x
  | [], [], _, _, h, _ => by simp only [bindMany, Option.some.injEq] at h; rw [h]
  | [], _ :: _, _, _, h, _ => by simp [bindMany] at h
  | _ :: _, [], _, _, h, _ => by simp [bindMany] at h
  | y :: ys, d :: ds, ρ, ρ', h, hx => by
    simp only [bindMany] at h
    have hne : ¬ (x = y ∧ y < ρ.length) := fun z => hx (by rw [z.1]; exact List.mem_cons_self)
    rw [bindMany_lk h fun z => hx (List.mem_cons_of_mem _ z), lk_st, if_neg hne]
theorem bindT_lk {tgt : Tgt} {d : V} {ρ' : List (Option V)} (h : bindT tgt d ρ = some ρ') (hx : x ∉ tgt.places) : lk ρ' x = lk ρ x := by
  cases tgt with
  | one y =>
    simp only [bindT, Option.some.injEq] at h
    have hne : ¬ (x = y ∧ y < ρ.length) := fun z => hx (by rw [z.1]; exact List.mem_cons_self)
    rw [← h, lk_st, if_neg hne]
  | many ys =>
    cases d <;> simp only [bindT] at h <;> (first | (cases h; done) | exact bindMany_lk h hx)
theorem tgtNot_is {tgt : Tgt} (h : tgtNot x tgt = true) : x ∉ tgt.places := by
  cases tgt with
  | one y => simp [tgtNot] at h; simp [Tgt.places]; exact fun z => h z.symm
  | many ys =>
    simp only [tgtNot, List.all_eq_true] at h
    intro z
    have := h x z
    simp at this

theorem es_for {kinds : Kinds} {kind : Kd} {tgt : Tgt} {t xe ie : PySem.Expr} {body : List PySem.Stmt} {pos : Pos} {wa : (V → Prop) → Prop} {wbody : List (Option V) → Option (List V) → (List (Option V) → Option (List V) → Prop) → Prop}
    (O : C.Ok) (hk : renv.scope.names = kinds) (hn : names.Nodup) (hx : itExpr kinds kind xe = some ie) (hs : notStarred ie = true) (hset : noSet xe = true) (ia : ∀ Q, wa Q → Ev C n names renv ρ ie Q)
    (q : wa fun v => itemsOf kind v fun vs => LoopV (fun v ρ' o' N' => match bindT tgt v ρ' with
        | some ρ'' => wbody ρ'' o' N'
        | none => False) vs ρ o N)
    (ib : ∀ B' ρ' o' N', (∀ a, av₀ a → B' a) → wbody ρ' o' N' → ESs C n av₀ B' names renv x ρ' o' body N' R)
    (htgt : chkTgt kinds names tgt t = true) (hen : enumTgt kind tgt = true) (hna : tgtNot x tgt = true) (h0 : ∀ a, av₀ a → B a) :
    ES C n av₀ B names renv x ρ o (.For t xe body [] pos) N R := fun A s W rm i => by
  rw [LoopV.eq] at q
  refine wpAny_For (wpAny_mono (it_start O hk hx hs ia q rm i.st i.av i.env fun I J s₁ ds qd hz it nI nJ dI dJ tI tJ x₁ y₁ => ?_) (fun v s₁ p => p) fun _ _ e => e)
    (fun y => by cases xe <;> first | rfl | exact Bool.noConfusion hset)
  let P : Addr → Prop := fun b => b = I ∨ b = J
  let B' : Addr → Prop := fun b => B b ∨ P b
  have nP : ∀ b, P b → s.heap.get? b = none := fun b z => by rcases z with z | z <;> rw [z] <;> assumption
  have dP : ∀ b, P b → C.D ≠ some b := fun b z => by rcases z with z | z <;> rw [z] <;> assumption
  have h0P : ∀ b, P b → C.h₀.get? b = none := fun b z => by
    cases g : C.h₀.get? b with
    | none => rfl
    | some o => have := i.st.keep b o g; rw [nP b z] at this; cases this
  have nB : ∀ b, P b → ¬ B b := fun b z w => i.base b w (nP b z)
  have ncel : ∀ nm c, renv.cells.lookup nm = some c → ¬ P c := fun nm c g z => i.env.there.2 nm c g (nP _ z)
  have i₁ : SI C B' names renv x W s₁ ρ o := i.grow y₁ x₁ (fun a z => .inl z) (fun a z => z.elim .inl fun z => .inr (nP a z)) fun a z => z.elim (fun z => y₁.there (i.base a z)) fun z => by rcases z with z | z <;> rw [z] <;> assumption
  have it₁ : ItOk C (fun a => B' a ∨ W a) s₁.heap kind I J ds := by
    have e : (fun a => B' a ∨ W a) = fun b => (B b ∨ W b) ∨ b = I ∨ b = J := by
      funext b
      apply propext
      constructor
      · rintro ((z | z) | z)
        · exact .inl (.inl z)
        · exact .inr z
        · exact .inl (.inr z)
      · rintro ((z | z) | z)
        · exact .inl (.inl z)
        · exact .inr z
        · exact .inl (.inr z)
    rw [e]; exact it
  let Inv : Nat → Shared → Prop := fun k s₅ => ∃ (rest : List V) (W₅ : Addr → Prop) (ρ₅ : List (Option V)) (o₅ : Option (List V)), k = rest.length ∧ ItOk C (fun a => B' a ∨ W₅ a) s₅.heap kind I J rest ∧ SI C B' names renv x W₅ s₅ ρ₅ o₅ ∧
    loopW (fun v ρ' o' N' => match bindT tgt v ρ' with
        | some ρ'' => wbody ρ'' o' N'
        | none => False) rest ρ₅ o₅ N ∧ (∀ a, W a → W₅ a) ∧ (∀ a, W₅ a → W a ∨ s.heap.get? a = none) ∧ Chg C (fun a => W a ∨ P a) s s₅
  have th : ∀ {s₅ W₅ ρ₅ o₅}, SI C B' names renv x W₅ s₅ ρ₅ o₅ → (∀ a, W a → W₅ a) → Chg C (fun a => W a ∨ P a) s s₅ → ∀ a, s.heap.get? a ≠ none → s₅.heap.get? a ≠ none := fun i' k c a g => by
    by_cases hw : W a
    · exact i'.wt a (k a hw)
    · exact c.there i'.st (fun z => z.elim hw fun z => g (nP a z)) g
  have conv : ∀ {s₅ s₆ W₅}, Chg C (fun a => W a ∨ P a) s s₅ → (∀ a, W₅ a → W a ∨ s.heap.get? a = none) → Chg C W₅ s₅ s₆ → Chg C (fun a => W a ∨ P a) s s₆ := fun c k c' a o d na g =>
    c' a o d (fun z => (k a z).elim (fun z => na (.inl z)) fun z => (by rw [z] at g; cases g)) (c a o d na g)
  have back : ∀ {s₅}, Chg C (fun a => W a ∨ P a) s s₅ → Chg C W s s₅ := fun c a o d na g => c a o d (fun z => z.elim na fun z => (by rw [nP a z] at g; cases g)) g
  refine codeAny_forLoop_any Inv ?_ ds.length ⟨ds, W, ρ, o, rfl, it₁, i₁, qd, fun _ z => z, fun _ z => .inl z, Chg.more (Chg.step y₁) fun a (z : False) => z.elim⟩
  rintro k s₅ ⟨rest, W₅, ρ₅, o₅, rfl, it₅, i₅, q₅, g1, g2, c₅⟩
  have oI : Own C (fun a => B' a ∨ W₅ a) I := ⟨.inl (.inr (.inl rfl)), h0P _ (.inl rfl), dI⟩
  have oJ : Own C (fun a => B' a ∨ W₅ a) J := ⟨.inl (.inr (.inr rfl)), h0P _ (.inr rfl), dJ⟩
  cases rest with
  | nil =>
    refine wpAny_mono (it_end (P := fun r s₆ => r = none ∧ Out C av₀ B names renv x W s N R .next s₆) rm.hd it₅ oI oJ i₅.st fun s₆ x₆ k₆ => ⟨rfl, ?_⟩) (fun r s₆ p => ?_) fun _ _ e => noE e
    · have i₆ : SI C B names renv x W₅ s₆ ρ₅ o₅ := i₅.drop k₆ (x₆.gens.trans i₅.st.gens.symm) (x₆.os.trans i₅.st.os.symm) (fun a z => .inl z) i.deck (fun a z => ⟨.inr z, nB a z⟩) h0P ncel
      exact ⟨W₅, ρ₅, o₅, q₅, i₆, g1, g2, back (c₅.trans (Chg.keeps k₆ fun a z => .inr z))⟩
    · obtain ⟨rfl, p⟩ := p
      exact wpAny_execs_nil p
  | cons d rest =>
    simp only [loopW] at q₅
    cases hb : bindT tgt d ρ₅ with
    | none => rw [hb] at q₅; exact q₅.elim
    | some ρ' =>
      rw [hb] at q₅
      refine wpAny_mono (it_next (P := fun v s₁' => wpAny (model C.prog C.w) A (assign t renv v) (fun _ s₂ => wpAny (model C.prog C.w) A (execs body renv) (fun f s₃ => match f with
            | .next => ∃ m, m < (d :: rest).length ∧ Inv m s₃
            | .cont => False
            | .brk => False
            | .ret v => Out C av₀ B names renv x W s N R (.ret v) s₃) NoE s₂) NoE s₁') it₅ oI oJ i₅.av i₅.st htgt hb (fun z => ?_) fun v s₆ it₆ r₆ x₆ k₆ => ?_) (fun r s₁' p => ?_) fun _ _ e => noE e
      rotate_right
      · obtain ⟨v, rfl, p⟩ := p
        refine wpAny_mono p (fun _ s₂ p => wpAny_mono p (fun _ s₃ p => wpAny_mono p (fun f s₄ p => ?_) fun _ _ e => noE e) fun _ _ e => noE e) fun _ _ e => noE e
        cases f with
        | next => exact p
        | cont => exact p.elim
        | brk => exact p.elim
        | ret v => exact p
      · subst z
        cases tgt with
        | one => simp [enumTgt] at hen
        | many ys => exact ⟨ys, rfl⟩
      · obtain ⟨t1, t2⟩ := it₆.there
        have i₆ : SI C B' names renv x W₅ s₆ ρ₅ o₅ := i₅.touch k₆ (x₆.gens.trans i₅.st.gens.symm) (x₆.os.trans i₅.st.os.symm) (fun a z => .inr z) h0P dP (fun a z => by rcases z with z | z <;> rw [z] <;> assumption) ncel
        have c₆ : Chg C (fun a => W a ∨ P a) s s₆ := c₅.trans (Chg.keeps k₆ fun a z => .inr z)
        obtain ⟨m, hm, _⟩ := id i₆.ns
        refine bind_tgt hk rm.hd (.inr i₆.wl) (i₆.w0 _ i₆.wl) hn htgt hb i₆.st i₆.env hm r₆ fun s₇ m₇ x₇ e₇ k₇ ns₇ t₇ u₇ => ?_
        have i₇ : SI C B' names renv x W₅ s₇ ρ' o₅ := i₆.bound hm x₇ e₇ k₇ ns₇ (fun nm h => u₇ x nm h (tgtNot_is hna)) ((bindT_lk hb (tgtNot_is hna)).trans i₆.acc)
        have eqL : ∀ a, a = renv.locals → W₅ a := fun a z => by rw [z]; exact i₆.wl
        have it₇ : ItOk C (fun a => B' a ∨ W₅ a) s₇.heap kind I J rest := it₆.keeps k₇ (fun z => i₆.wb _ (eqL _ z) (.inr (.inl rfl))) (fun z => i₆.wb _ (eqL _ z) (.inr (.inr rfl))) fun a z => .inr (eqL a z)
        have c₇ : Chg C (fun a => W a ∨ P a) s s₇ := conv c₆ g2 (Chg.keeps k₇ eqL)
        refine wpAny_mono (ib B' ρ' o₅ _ (fun a z => .inl (h0 a z)) q₅ A s₇ W₅ rm i₇) (fun f s₈ p => ?_) fun _ _ e => e
        cases f with
        | cont => exact p.elim
        | brk => exact p.elim
        | ret v =>
          obtain ⟨d', r, rp, st, c⟩ := p
          exact ⟨d', r, rp, st, back (conv c₇ g2 c)⟩
        | next =>
          obtain ⟨W₈, ρ₈, o₈, q₈, i₈, k1, k2, c₈⟩ := p
          refine ⟨rest.length, Nat.lt_succ_self _, rest, W₈, ρ₈, o₈, rfl, ?_, i₈, q₈, fun a z => k1 a (g1 a z), fun a z => ?_, conv c₇ g2 c₈⟩
          · have w1 : ItOk C (fun a => B' a ∨ W₈ a) s₇.heap kind I J rest := it₇.more (Step.refl C s₇) dI dJ (fun a z => .inl (.inl (i.deck a z))) fun a z => by
              rcases z with z | z
              · exact .inl (.inl z)
              · exact (k2 a z).imp .inr id
            exact w1.chg c₈ (fun z => i₇.wb _ z (.inr (.inl rfl))) (fun z => i₇.wb _ z (.inr (.inr rfl))) dI dJ (fun a z => .inl (.inl (i.deck a z))) fun a z => .inr (k1 a z)
          · rcases k2 a z with z | z
            · exact g2 a z
            · refine .inr ?_
              cases g : s.heap.get? a with
              | none => rfl
              | some o => exact absurd z (th i₇ g1 c₇ a (by rw [g]; simp))

theorem es_while {t : PySem.Expr} {body : List PySem.Stmt} {pos : Pos} {wt : List (Option V) → (Bool → Prop) → Prop} {wbody : List (Option V) → Option (List V) → (List (Option V) → Option (List V) → Prop) → Prop} (I : Nat → List (Option V) → Option (List V) → Prop)
    (k0 : Nat) (q0 : I k0 ρ o) (it : ∀ ρ' Q, wt ρ' Q → EvT C n names renv ρ' t Q) (ib : ∀ ρ' o' N', wbody ρ' o' N' → ESs C n av₀ B names renv x ρ' o' body N' R)
    (q : ∀ k ρ' o', I k ρ' o' → wt ρ' fun c => ifb 0 c (wbody ρ' o' (fun ρ'' o'' => ∃ m, m < k ∧ I m ρ'' o'')) (N ρ' o')) :
    ES C n av₀ B names renv x ρ o (.While t body [] pos) N R := fun A s W rm i => by
  rw [ifb_fn] at q
  refine wpAny_While (codeAny_whileLoop (fun k s₅ => ∃ W₅ ρ₅ o₅, I k ρ₅ o₅ ∧ SI C B names renv x W₅ s₅ ρ₅ o₅ ∧ (∀ a, W a → W₅ a) ∧ (∀ a, W₅ a → W a ∨ s.heap.get? a = none) ∧ Chg C W s s₅) ?_ k0 ⟨W, ρ, o, q0, i, fun _ z => z, fun _ z => .inl z, Chg.refl C W s⟩)
  rintro k s₅ ⟨W₅, ρ₅, o₅, q₅, i₅, g1, g2, c₅⟩
  refine wpAny_mono (it _ _ (q k ρ₅ o₅ q₅) A s₅ _ rm i₅.st i₅.av i₅.env) (fun c s₆ p => ?_) fun _ _ e => noE e
  obtain ⟨q₆, x₆, y₆⟩ := p
  have i₆ := i₅.step y₆ x₆
  have c₆ : Chg C W s s₆ := c₅.trans (Chg.step y₆)
  have th := there_next i₆ g1 c₆
  cases c with
  | false =>
    simp only [Bool.false_eq_true, if_false] at q₆ ⊢
    exact wpAny_execs_nil ⟨W₅, ρ₅, o₅, q₆, i₆, g1, g2, c₆⟩
  | true =>
    simp only [if_true] at q₆ ⊢
    refine wpAny_mono (ib _ _ _ q₆ A s₆ W₅ rm i₆) (fun f s₇ p => ?_) fun _ _ e => noE e
    have p := p.trans g1 g2 c₆ th
    cases f with
    | next => 
      obtain ⟨W', ρ', o', ⟨m, hm, qm⟩, i', k1, k2, c'⟩ := p
      exact ⟨m, hm, W', ρ', o', qm, i', k1, k2, c'⟩
    | cont => exact p.elim
    | brk => exact p.elim
    | ret v => exact p
end

section
variable {C : Cx} {av₀ B W : Addr → Prop} {A : Around} {s : Shared} {n : Nat} {names : List Str} {renv : Env} {ρ : List (Option V)} {o : Option (List V)} {x : Nat} {N : List (Option V) → Option (List V) → Prop} {R : V → Prop}

theorem star_any {x1 : PySem.Expr} (h : notStarred x1 = true) : (match x1 with
    | .Starred .. => true
    | _ => false) = false := by
  cases x1 <;> first | rfl | exact Bool.noConfusion h

theorem swapped_is {kinds : Kinds} {n1 n2 : Str} {p1 p2 tp vp : Pos} {k k' : Nat} {x1 x2 : PySem.Expr} (hk : renv.scope.names = kinds) (hf : renv.scope.kind = .function) (h1 : kinds.lookup n1 = some .local) (h2 : kinds.lookup n2 = some .local) (hne : n1 ≠ n2) (hl : p1.line = p2.line)
    (s1 : notStarred x1 = true) (s2 : notStarred x2 = true) (hfs : ([x1, x2].all (foldedForSure 8)) = false) (hca : ([x1, x2].all (constantsAlone 8)) = false) :
    swappedStores [.Tuple [.Name n1 p1, .Name n2 p2] k tp] (.Tuple [x1, x2] k' vp) renv = pure (some [n1, n2]) := by
  have hb : renv.blockKind = .function := by unfold Env.blockKind; rw [hf]; rfl
  have k1 : renv.kindOf n1 = some .local := by rw [Env.kindOf, hk]; exact h1
  have k2 : renv.kindOf n2 = some .local := by rw [Env.kindOf, hk]; exact h2
  have hne' : (n2 == n1) = false := by simpa using fun z => hne z.symm
  have er : ([n1, n2] : List Str).eraseDups.length = 2 := by
    simp [List.eraseDups_cons, hne', List.filter_cons]
  unfold swappedStores
  dsimp only
  refine (if_neg ?_).trans ((if_neg ?_).trans ?_)
  · rw [hb]; simp
  · intro h
    rw [List.any_cons, List.any_cons, List.any_nil, Bool.or_false, Bool.or_eq_true] at h
    rcases h with h | h
    · cases x1 <;> first | exact Bool.noConfusion s1 | exact Bool.noConfusion h
    · cases x2 <;> first | exact Bool.noConfusion s2 | exact Bool.noConfusion h
  · have nm : (List.filterMap (fun (y : PySem.Expr) => match y with
      | .Name id pos => if (renv.kindOf id == some NameKind.local && pos.line == ((Option.map (fun (x : PySem.Expr) => x.pos.line) [PySem.Expr.Name n1 p1, .Name n2 p2].head?).getD 0)) = true then some id else none
      | _ => none) [PySem.Expr.Name n1 p1, .Name n2 p2]) = [n1, n2] := by
      have e1 : ((Option.map (fun (x : PySem.Expr) => x.pos.line) [PySem.Expr.Name n1 p1, .Name n2 p2].head?).getD 0) = p1.line := rfl
      rw [e1]
      simp [k1, k2, hl]
    refine (congrArg (fun (nms : List Str) => (if (nms.length != 2 || nms.eraseDups.length != nms.length) = true then pure none else if ([x1, x2].all (foldedForSure 8)) = true then pure none else (if ([x1, x2].all (constantsAlone 8)) = true then (unsupported "assign.tuple-of-constant-expressions:order-of-the-stores" >>= fun (_ : Unit) => pure (some nms)) else pure (some nms)) : Sem (Option (List Str)))) nm).trans ?_
    show (if (([n1, n2] : List Str).length != 2 || ([n1, n2] : List Str).eraseDups.length != ([n1, n2] : List Str).length) = true then pure none else _ : Sem (Option (List Str))) = _
    rw [if_neg (by rw [er]; simp), hfs, hca]
    rfl

theorem st_comm : ∀ {ρ : List (Option V)} {y z : Nat} {v w : Option V}, y ≠ z → st' (st' ρ z w) y v = st' (st' ρ y v) z w
  | [], _, _, _, _, _ => rfl
  | _ :: _, 0, 0, _, _, h => absurd rfl h
  | _ :: _, 0, _ + 1, _, _, _ => rfl
  | _ :: _, _ + 1, 0, _, _, _ => rfl
  | _ :: r, y + 1, z + 1, _, _, h => congrArg (_ :: ·) (st_comm fun q => h (congrArg (· + 1) q))

theorem bindName_ok {nm : Str} {v : Value} {P : Unit → Shared → Prop} {E : Value → Shared → Prop} {M : Model} (h : wpAny M A (storeName renv nm v) P E s) : wpAny M A (bindName renv nm v) P E s := wpAny_bindName h

theorem es_asg2 {kinds : Kinds} {y z : Nat} {n1 n2 : Str} {p1 p2 tp vp pos : Pos} {k k' : Nat} {x1 x2 : PySem.Expr} {wa wb : (V → Prop) → Prop} (hk : renv.scope.names = kinds) (hn : names.Nodup) (hy : chkLoc kinds names y n1 = true) (hz : chkLoc kinds names z n2 = true) (hne : n1 ≠ n2) (hl : p1.line = p2.line)
    (s1 : notStarred x1 = true) (s2 : notStarred x2 = true) (hfs : ([x1, x2].all (foldedForSure 8)) = false) (hca : ([x1, x2].all (constantsAlone 8)) = false) (hyx : y ≠ x) (hzx : z ≠ x)
    (ia : ∀ Q, wa Q → Ev C n names renv ρ x1 Q) (ib : ∀ Q, wb Q → Ev C n names renv ρ x2 Q) (q : wa fun v => wb fun w => lay (st' (st' ρ y (some v)) z (some w)) fun ρ' => N ρ' o) :
    ES C n av₀ B names renv x ρ o (.Assign [.Tuple [.Name n1 p1, .Name n2 p2] k tp] (.Tuple [x1, x2] k' vp) pos) N R := fun A s W rm i => by
  rw [lay_fn] at q
  obtain ⟨h1, h2, _⟩ := loc_is hy
  obtain ⟨h3, h4, _⟩ := loc_is hz
  have hyz : y ≠ z := fun w => by rw [w, h3] at h1; cases h1; exact hne rfl
  refine Assign_Tuple_swapped (names := [n1, n2]) ?_ rfl (swapped_is hk i.env.kind h2 h4 hne hl s1 s2 hfs hca)
  have ev : Ev C n names renv ρ (.Tuple [x1, x2] k' vp) fun d => ∃ v w, d = .tup [v, w] ∧ N (st' (st' ρ y (some v)) z (some w)) o :=
    ev_tup (evL_cons (wb := fun Q' => wb fun w => Q' [w]) s1 ia (fun Q' q' => evL_cons (wb := fun Q'' => Q'' []) s2 ib (fun _ q'' => evL_nil q'') q') (by
      have := q
      revert this
      exact fun q => by
        refine (?_ : wa fun v => wb fun w => ∃ v' w', V.tup [v, w] = .tup [v', w'] ∧ N (st' (st' ρ y (some v')) z (some w')) o)
        have e : (fun v => wb fun w => ∃ v' w', V.tup [v, w] = .tup [v', w'] ∧ N (st' (st' ρ y (some v')) z (some w')) o) = fun v => wb fun w => N (st' (st' ρ y (some v)) z (some w)) o := by
          funext v
          congr 1
          funext w
          apply propext
          constructor
          · rintro ⟨v', w', e, r⟩; cases e; exact r
          · exact fun r => ⟨v, w, rfl, r⟩
        rw [e]; exact q)) (by simp)
  refine si_then ev rm i fun t s₁ d q r i₁ y₁ => ?_
  obtain ⟨v, w, rfl, q⟩ := q
  obtain ⟨a, vs, rfl, na, tt, v1, vs', rfl, r1, v2, vs'', rfl, r2, rfl⟩ := r
  refine unpackItems_tuple (items := #[v1, v2]) rm.hd tt.isTup fun h' he => ?_
  have kp : ∀ b o, s₁.heap.get? b = some o → h'.get? b = some o := fun b o g => he b o (Nat.ne_of_lt (Heap.lt_size g)) g
  have i₂ : SI C B names renv x W { s₁ with heap := h' } ρ o := i₁.step (Step.all kp) (i₁.st.all kp rfl rfl)
  refine wpAny_assignInOrder_more (bindName_ok (i₂.store hn h3 (by rw [Env.kindOf, hk]; exact h4) hzx (r2.keep kp) fun s₃ i₃ c₃ => ?_))
  have r1' : Rep C (fun a => B a ∨ W a) s₃.heap v v1 := (Rep.keep (h' := h') kp r1).chg (s := { s₁ with heap := h' }) c₃ (fun a z => .inl (i.deck a z)) fun a z => .inr z
  refine wpAny_assignInOrder_more (bindName_ok (i₃.store hn h1 (by rw [Env.kindOf, hk]; exact h2) hyx r1' fun s₄ i₄ c₄ => wpAny_assignInOrder_none ?_))
  rw [st_comm hyz] at i₄
  exact out_next q i₄ (Chg.trans (Chg.step y₁) (Chg.trans (s' := { s₁ with heap := h' }) (fun a o _ _ g => kp a o g) (c₃.trans c₄)))

theorem es_own2 {kinds : Kinds} {y : Nat} {n1 n2 : Str} {p1 p2 tp vp pl pos : Pos} {k k' : Nat} {x2 : PySem.Expr} (hk : renv.scope.names = kinds) (hn : names.Nodup) (hx : chkLoc kinds names x n1 = true) (hy : chkLoc kinds names y n2 = true) (hne : n1 ≠ n2) (hl : p1.line = p2.line)
    (s2 : notStarred x2 = true) (hyx : y ≠ x) (h : Ev C n names renv ρ x2 fun w => lay (st' ρ y (some w)) fun ρ' => N ρ' (some [])) :
    ES C n av₀ B names renv x ρ o (.Assign [.Tuple [.Name n1 p1, .Name n2 p2] k tp] (.Tuple [.List [] pl, x2] k' vp) pos) N R := fun A s W rm i => by
  rw [lay_fn] at h
  obtain ⟨h1, h2, _⟩ := loc_is hx
  obtain ⟨h3, h4, _⟩ := loc_is hy
  refine Assign_Tuple_swapped (names := [n1, n2]) ?_ rfl (swapped_is hk i.env.kind h2 h4 hne hl rfl s2 (by rw [List.all_cons]; rfl) (by rw [List.all_cons]; rfl))
  refine wpAny_Tuple_spliced ?_
  rw [starEach_cons (e := .List [] pl) rfl, starEach_cons s2]
  refine spliced_cons (x := eval (.List [] pl) renv) (wpAny_List_spliced (spliced_nil ⟨by simp, ?_⟩))
  have kp := keep_push s.heap { cls := .type "list", data := .seq ([] : List Value).toArray }
  generalize hfa : s.heap.objs.size = fa
  have gf : s.heap.get? fa = none := new_none (Nat.le_of_eq hfa)
  let s₁ : Shared := { s with heap := s.heap.push { cls := .type "list", data := .seq ([] : List Value).toArray } }
  have l₁ : LstAt s₁.heap fa [] := ⟨_, by rw [← hfa]; exact Heap.get?_push_size _ rfl⟩
  have y₁ : Step C s s₁ := Step.all kp
  have nb : ¬ B fa := fun z => i.base _ z gf
  have nw : ¬ W fa := fun z => i.wt _ z gf
  have df : C.D ≠ some fa := fun z => nb (i.deck _ z)
  have i₁ : SI C (fun a => B a ∨ a = fa) names renv x W s₁ ρ o := i.grow y₁ (i.st.all kp rfl rfl) (fun a z => .inl z) (fun a z => z.elim .inl fun z => .inr (z ▸ gf)) fun a z => z.elim (fun z => y₁.there (i.base a z)) fun z => by obtain ⟨k, g⟩ := l₁; rw [z, g]; simp
  refine spliced_cons (x := eval x2 renv) (si_then (s := s₁) h rm i₁ fun w s₂ d q r i₂ y₂ => spliced_nil ⟨by simp [sizeLine_eq], ?_⟩)
  have kp2 := keep_push s₂.heap { cls := .type "tuple", data := .seq [.ref fa, w].toArray }
  have tt : IsTup (s₂.heap.push { cls := .type "tuple", data := .seq [.ref fa, w].toArray }) s₂.heap.objs.size #[.ref fa, w] := ⟨_, Heap.get?_push_size _ rfl, rfl, _, rfl⟩
  refine unpackItems_tuple (items := #[.ref fa, w]) rm.hd tt fun h' he => ?_
  have kp3 : ∀ b o, s₂.heap.get? b = some o → h'.get? b = some o := fun b o g => he b o (Nat.ne_of_lt (Heap.lt_size (kp2 b o g))) (kp2 b o g)
  have i₃ : SI C (fun a => B a ∨ a = fa) names renv x W { s₂ with heap := h' } ρ o := i₂.step (Step.all kp3) (i₂.st.all kp3 rfl rfl)
  refine wpAny_assignInOrder_more (bindName_ok (i₃.store hn h3 (by rw [Env.kindOf, hk]; exact h4) hyx (r.keep kp3) fun s₄ i₄ c₄ => ?_))
  have l₄ : LstAt s₄.heap fa [] := ((l₁.keep fun o g => y₂.keep _ _ df g).keep fun o g => kp3 _ _ g).keep fun o g => c₄ _ _ df nw g
  have h0f : C.h₀.get? fa = none := by
    cases g' : C.h₀.get? fa with
    | none => rfl
    | some o => have := i.st.keep fa o g'; rw [gf] at this; cases this
  refine wpAny_assignInOrder_more (bindName_ok (i₄.own nb i.deck h0f h1 (by rw [Env.kindOf, hk]; exact h2) hn l₄ RepL.nil (fun nm c hcc z => i.env.there.2 nm c hcc (z ▸ gf)) fun s₅ i₅ c₅ => wpAny_assignInOrder_none ?_))
  exact ⟨_, _, _, q, i₅, fun a z => .inl z, fun a z => z.elim .inl fun z => .inr (z ▸ gf), Chg.trans (Chg.step y₁) (Chg.trans (Chg.step y₂) (Chg.trans (s' := { s₂ with heap := h' }) (fun a o _ _ g => kp3 a o g) (c₄.trans c₅)))⟩
end

section
variable {fns : List Str} {kinds : Kinds} {names : List Str} {acc : Nat} {st : PySem.Stmt}

theorem c_ret {v v' : Option PySem.Expr} {p : Pos} (h : v = v') : PySem.Stmt.Return v p = .Return v' p := by rw [h]
theorem c_asg {t t' : List PySem.Expr} {v v' : PySem.Expr} {p : Pos} (h : t = t') (g : v = v') : PySem.Stmt.Assign t v p = .Assign t' v' p := by rw [h, g]
theorem c_aug {t t' v : PySem.Expr} {o o' : Operator} {p : Pos} (h : t = t') (g : o = o') : PySem.Stmt.AugAssign t o v p = .AugAssign t' o' v p := by rw [h, g]
theorem c_for {t i : PySem.Expr} {a b b' : List PySem.Stmt} {p : Pos} (h : b = b') : PySem.Stmt.For t i a b p = .For t i a b' p := by rw [h]
theorem c_while {t : PySem.Expr} {a b b' : List PySem.Stmt} {p : Pos} (h : b = b') : PySem.Stmt.While t a b p = .While t a b' p := by rw [h]
theorem c_exp {t t' : PySem.Expr} {p : Pos} (h : t = t') : PySem.Stmt.Expr t p = .Expr t' p := by rw [h]
theorem c_tup {t t' : List PySem.Expr} {k : Nat} {p : Pos} (h : t = t') : PySem.Expr.Tuple t k p = .Tuple t' k p := by rw [h]
theorem c_lst {t t' : List PySem.Expr} {p : Pos} (h : t = t') : PySem.Expr.List t p = .List t' p := by rw [h]
theorem c_two {a a' b b' : PySem.Expr} (h : a = a') (g : b = b') : [a, b] = [a', b'] := by rw [h, g]
theorem c_one {a a' : PySem.Expr} (h : a = a') : [a] = [a'] := by rw [h]
theorem b_names (h : bindsN st = true) : st = .Assign [.Name (nmE (x0 (tsS st))) (x0 (tsS st)).pos] (svS st) st.pos :=
  (etaS_at (an h).1 rfl).trans (c_asg ((one_is default (an (an h).2).1).trans (c_one (e_nm (an (an h).2).2))) rfl)
theorem b_two (h : binds2 st = true) : st = .Assign [.Tuple [.Name (nmE (x0 (ks (x0 (tsS st))))) (x0 (ks (x0 (tsS st)))).pos, .Name (nmE (x1 (ks (x0 (tsS st))))) (x1 (ks (x0 (tsS st)))).pos] (kE (x0 (tsS st))) (x0 (tsS st)).pos] (.Tuple [x0 (ks (svS st)), x1 (ks (svS st))] (kE (svS st)) (svS st).pos) st.pos :=
  have a := (an (an h).2).2
  have b := (an (an a).2).2
  have c := (an (an b).2).2
  (etaS_at (an h).1 rfl).trans (c_asg ((one_is default (an (an h).2).1).trans (c_one ((e_tuple (an a).1).trans (c_tup ((two_is default (an (an a).2).1).trans (c_two (e_nm (an c).1) (e_nm (an c).2)))))))
    ((e_tuple (an b).1).trans (c_tup (two_is default (an (an b).2).1))))
theorem b_meth {m : Str} (h : methS m st = true) : st = .Expr (.Call (.Attribute (.Name (nmE (k0 (k0 (svS st)))) (k0 (k0 (svS st))).pos) m (k0 (svS st)).pos) [x0 (ks (svS st))] [] (svS st).pos) st.pos ∧ ((k0 (svS st)).pos.endLine == (svS st).pos.line) = true :=
  have a := (an h).2
  ⟨(etaS_at (an h).1 rfl).trans (c_exp ((e_meth (an a).1).1.trans (c_call (c_attr (e_nm (an (an a).2).2) rfl) (one_is default (an (an a).2).1) rfl))), (e_meth (an a).1).2⟩

theorem j_ret {e} (h : chkS fns kinds names acc (.ret e) st = true) : st = .Return (some (xo (rvS st))) st.pos ∧ chkE fns kinds names e (xo (rvS st)) = true :=
  ⟨(etaS_at (an (an h).1).1 rfl).trans (c_ret (some_is default (an (an h).1).2)), (an h).2⟩
theorem j_asg {y e} (h : chkS fns kinds names acc (.asg y e) st = true) : st = .Assign [.Name (nmE (x0 (tsS st))) (x0 (tsS st)).pos] (svS st) st.pos ∧ chkLoc kinds names y (nmE (x0 (tsS st))) = true ∧ chkE fns kinds names e (svS st) = true ∧
    (tq 9 (svS st) = true → ((x0 (tsS st)).pos.line == (svS st).pos.line) = true ∧ ((scE (svS st)).names.any fun (m, k) => m == nmE (x0 (tsS st)) && (k == .local || k == .cell)) = false) :=
  ⟨b_names (an h).1, (an (an h).2).1, (an (an (an h).2).2).1, fun z => (Bool.or_eq_true_iff.mp (an (an (an h).2).2).2).elim (fun w => by rw [z] at w; cases w) fun w => ⟨(an w).1, nb (an w).2⟩⟩
theorem j_asg2 {y z a b} (h : chkS fns kinds names acc (.asg2 y z a b) st = true) : st = .Assign [.Tuple [.Name (nmE (x0 (ks (x0 (tsS st))))) (x0 (ks (x0 (tsS st)))).pos, .Name (nmE (x1 (ks (x0 (tsS st))))) (x1 (ks (x0 (tsS st)))).pos] (kE (x0 (tsS st))) (x0 (tsS st)).pos] (.Tuple [x0 (ks (svS st)), x1 (ks (svS st))] (kE (svS st)) (svS st).pos) st.pos ∧
    (chkLoc kinds names y (nmE (x0 (ks (x0 (tsS st))))) = true ∧ chkLoc kinds names z (nmE (x1 (ks (x0 (tsS st))))) = true ∧ nmE (x0 (ks (x0 (tsS st)))) ≠ nmE (x1 (ks (x0 (tsS st)))) ∧ (x0 (ks (x0 (tsS st)))).pos.line = (x1 (ks (x0 (tsS st)))).pos.line) ∧
    (([x0 (ks (svS st)), x1 (ks (svS st))].all (foldedForSure 8)) = false ∧ ([x0 (ks (svS st)), x1 (ks (svS st))].all (constantsAlone 8)) = false) ∧ chkE fns kinds names a (x0 (ks (svS st))) = true ∧ chkE fns kinds names b (x1 (ks (svS st))) = true :=
  have l := (an (an h).2).1
  have r := (an (an h).2).2
  ⟨b_two (an h).1, ⟨(an l).1, (an (an l).2).1, dk (an (an (an l).2).2).1, dk (an (an (an l).2).2).2⟩, ⟨nb (an (an r).1).1, nb (an (an r).1).2⟩, an (an r).2⟩
theorem j_aug {y e} (h : chkS fns kinds names acc (.aug y e) st = true) : st = .AugAssign (.Name (nmE (stS st)) (stS st).pos) .Add (svS st) st.pos ∧ chkLoc kinds names y (nmE (stS st)) = true ∧ chkE fns kinds names e (svS st) = true :=
  ⟨(etaS_at (an (an h).1).1 rfl).trans (c_aug (e_nm (an (an (an h).1).2).2) (dk (an (an (an h).1).2).1)), an (an h).2⟩
theorem j_ife {t a b} (h : chkS fns kinds names acc (.ife t a b) st = true) : st = .If (svS st) (b1S st) (b2S st) st.pos ∧ chkT fns kinds names t (svS st) = true ∧ chkSs fns kinds names acc a (b1S st) = true ∧ chkSs fns kinds names acc b (b2S st) = true :=
  ⟨etaS_at (an h).1 rfl, (an (an h).2).1, an (an (an h).2).2⟩
theorem j_for {tgt kind it body} (h : chkS fns kinds names acc (.for' tgt kind it body) st = true) : st = .For (stS st) (svS st) (b1S st) [] st.pos ∧ itExpr kinds kind (svS st) = some (xo (itExpr kinds kind (svS st))) ∧ (enumTgt kind tgt = true ∧ tgtNot acc tgt = true ∧ chkTgt kinds names tgt (stS st) = true) ∧
    chkE fns kinds names it (xo (itExpr kinds kind (svS st))) = true ∧ chkSs fns kinds names acc body (b1S st) = true :=
  have a := (an (an h).2).1
  ⟨(etaS_at (an (an h).1).1 rfl).trans (c_for (nil_is (an (an (an h).1).2).1)), some_is default (an (an (an h).1).2).2, ⟨(an a).1, an (an a).2⟩, an (an (an h).2).2⟩
theorem j_while {t body} (h : chkS fns kinds names acc (.while' t body) st = true) : st = .While (svS st) (b1S st) [] st.pos ∧ chkT fns kinds names t (svS st) = true ∧ chkSs fns kinds names acc body (b1S st) = true :=
  ⟨(etaS_at (an (an h).1).1 rfl).trans (c_while (nil_is (an (an h).1).2)), an (an h).2⟩
theorem j_own {e} (h : chkS fns kinds names acc (.own e) st = true) : st = .Assign [.Name (nmE (x0 (tsS st))) (x0 (tsS st)).pos] (svS st) st.pos ∧ (chkLoc kinds names acc (nmE (x0 (tsS st))) = true ∧ isComp (svS st) = false ∧ ownTop e = true) ∧ chkE fns kinds names e (svS st) = true :=
  have a := (an (an h).2).1
  ⟨b_names (an h).1, ⟨(an a).1, nb (an (an a).2).1, (an (an a).2).2⟩, (an (an h).2).2⟩
theorem j_own2 {y b} (h : chkS fns kinds names acc (.own2 y b) st = true) : st = .Assign [.Tuple [.Name (nmE (x0 (ks (x0 (tsS st))))) (x0 (ks (x0 (tsS st)))).pos, .Name (nmE (x1 (ks (x0 (tsS st))))) (x1 (ks (x0 (tsS st)))).pos] (kE (x0 (tsS st))) (x0 (tsS st)).pos] (.Tuple [.List [] (x0 (ks (svS st))).pos, x1 (ks (svS st))] (kE (svS st)) (svS st).pos) st.pos ∧
    (chkLoc kinds names acc (nmE (x0 (ks (x0 (tsS st))))) = true ∧ chkLoc kinds names y (nmE (x1 (ks (x0 (tsS st))))) = true ∧ nmE (x0 (ks (x0 (tsS st)))) ≠ nmE (x1 (ks (x0 (tsS st)))) ∧ (x0 (ks (x0 (tsS st)))).pos.line = (x1 (ks (x0 (tsS st)))).pos.line) ∧ chkE fns kinds names b (x1 (ks (svS st))) = true :=
  have l := (an (an h).2).1
  have c := (an (an h).1).2
  ⟨(b_two (an (an h).1).1).trans (c_asg rfl (c_tup (c_two ((e_list (an c).1).trans (c_lst (nil_is (an c).2))) rfl))), ⟨(an l).1, (an (an l).2).1, dk (an (an (an l).2).2).1, dk (an (an (an l).2).2).2⟩, (an (an h).2).2⟩
theorem j_append {e} (h : chkS fns kinds names acc (.append e) st = true) : chkLoc kinds names acc (nmE (k0 (k0 (svS st)))) = true ∧ chkE fns kinds names e (x0 (ks (svS st))) = true := an (an h).2
theorem j_extend {e} (h : chkS fns kinds names acc (.extend e) st = true) : chkLoc kinds names acc (nmE (k0 (k0 (svS st)))) = true ∧ chkE fns kinds names e (x0 (ks (svS st))) = true := an (an h).2
theorem js_nil {xs} (h : chkSs fns kinds names acc [] xs = true) : xs = [] := nil_is h
theorem js_cons {e es} {xs : List PySem.Stmt} (h : chkSs fns kinds names acc (e :: es) xs = true) : xs = xs.headD default :: xs.tail ∧ chkS fns kinds names acc e (xs.headD default) = true ∧ chkSs fns kinds names acc es xs.tail = true := by
  cases xs with
  | nil => cases h
  | cons y ys => exact ⟨rfl, an (an h).2⟩
end

section
variable {C : Cx} {n : Nat}
theorem OV.at {B : Addr → Prop} {names : List Str} {renv : Env} {x : Nat} {ρ : List (Option V)} {o : Option (List V)} {e e' : PySem.Expr} {Q : List V → Prop} (h : OV C n B names renv x ρ o e' Q) (g : e = e') : OV C n B names renv x ρ o e Q := by rw [g]; exact h
theorem OF.at {B : Addr → Prop} {names : List Str} {renv : Env} {x : Nat} {ρ : List (Option V)} {o : Option (List V)} {e e' : PySem.Expr} {Q : List V → Prop} (h : OF C n B names renv x ρ o e' Q) (g : e = e') : OF C n B names renv x ρ o e Q := by rw [g]; exact h
theorem ES.at {av₀ B : Addr → Prop} {names : List Str} {renv : Env} {x : Nat} {ρ : List (Option V)} {o : Option (List V)} {e e' : PySem.Stmt} {N R} (h : ES C n av₀ B names renv x ρ o e' N R) (g : e = e') : ES C n av₀ B names renv x ρ o e N R := by rw [g]; exact h
theorem ESs.at {av₀ B : Addr → Prop} {names : List Str} {renv : Env} {x : Nat} {ρ : List (Option V)} {o : Option (List V)} {e e' : List PySem.Stmt} {N R} (h : ESs C n av₀ B names renv x ρ o e' N R) (g : e = e') : ESs C n av₀ B names renv x ρ o e N R := by rw [g]; exact h

theorem sound_O (O : C.Ok) {B : Addr → Prop} {x : Nat} {o : Option (List V)} : ∀ (e : E) {kinds : Kinds} {names : List Str} {renv : Env} {ρ : List (Option V)} {y : PySem.Expr} {Q : List V → Prop}, renv.scope.names = kinds → chkE C.fns kinds names e y = true → wpO (Call C n) x o e ρ Q → OV C n B names renv x ρ o y Q
  | .bin .add a b, kinds, names, renv, ρ, y, Q, hk, h, q => (of_add (fun _ => sound_O O a hk (i_bin h).2.1) (fun _ => sound_O O b hk (i_bin h).2.2) q).ov.at (i_bin h).1
  | .bin .mul a b, kinds, names, renv, ρ, y, Q, hk, h, q => ov_val (sound_E O _ hk h q)
  | .bin .sub a b, kinds, names, renv, ρ, y, Q, hk, h, q => ov_val (sound_E O _ hk h q)
  | .var v, kinds, names, renv, ρ, y, Q, hk, h, q => by
    refine OV.at ?_ (i_var h).1
    have q : if v = x then onSome o Q else onSome (lk ρ v) fun v => lstQ v Q := q
    by_cases hv : v = x
    · rw [if_pos hv] at q
      cases o with
      | none => exact q.elim
      | some us => exact ov_acc hk (hv ▸ (i_var h).2) q
    · rw [if_neg hv] at q
      obtain ⟨d, hd, g⟩ := ofSome q
      exact ov_val (ev_var (i_var h).2 hd g)
  | .none, _, _, _, _, _, _, hk, h, q => ov_val (sound_E O _ hk h q)
  | .bool _, _, _, _, _, _, _, hk, h, q => ov_val (sound_E O _ hk h q)
  | .int _, _, _, _, _, _, _, hk, h, q => ov_val (sound_E O _ hk h q)
  | .str _, _, _, _, _, _, _, hk, h, q => ov_val (sound_E O _ hk h q)
  | .fn _, _, _, _, _, _, _, hk, h, q => ov_val (sound_E O _ hk h q)
  | .tup _, _, _, _, _, _, _, hk, h, q => ov_val (sound_E O _ hk h q)
  | .lst _, _, _, _, _, _, _, hk, h, q => ov_val (sound_E O _ hk h q)
  | .sub _ _, _, _, _, _, _, _, hk, h, q => ov_val (sound_E O _ hk h q)
  | .upto _ _, _, _, _, _, _, _, hk, h, q => ov_val (sound_E O _ hk h q)
  | .from' _ _, _, _, _, _, _, _, hk, h, q => ov_val (sound_E O _ hk h q)
  | .cut _ _ _, _, _, _, _, _, _, hk, h, q => ov_val (sound_E O _ hk h q)
  | .cmp _ _ _, _, _, _, _, _, _, hk, h, q => ov_val (sound_E O _ hk h q)
  | .ite _ _ _, _, _, _, _, _, _, hk, h, q => ov_val (sound_E O _ hk h q)
  | .dict _ _, _, _, _, _, _, _, hk, h, q => ov_val (sound_E O _ hk h q)
  | .comp _ _ _ _ _, _, _, _, _, _, _, hk, h, q => ov_val (sound_E O _ hk h q)
  | .call _ _, _, _, _, _, _, _, hk, h, q => ov_val (sound_E O _ hk h q)
  | .callv _ _, _, _, _, _, _, _, hk, h, q => ov_val (sound_E O _ hk h q)
  | .len _, _, _, _, _, _, _, hk, h, q => ov_val (sound_E O _ hk h q)
  | .txt _, _, _, _, _, _, _, hk, h, q => ov_val (sound_E O _ hk h q)
  | .join _ _, _, _, _, _, _, _, hk, h, q => ov_val (sound_E O _ hk h q)
  | .get1 _ _, _, _, _, _, _, _, hk, h, q => ov_val (sound_E O _ hk h q)
  | .get2 _ _ _, _, _, _, _, _, _, hk, h, q => ov_val (sound_E O _ hk h q)
  | .find _ _ _, _, _, _, _, _, _, hk, h, q => ov_val (sound_E O _ hk h q)
  | .alnum _, _, _, _, _, _, _, hk, h, q => ov_val (sound_E O _ hk h q)

mutual
theorem sound_S (O : C.Ok) {av₀ : Addr → Prop} (hD : ∀ a, C.D = some a → av₀ a) {kinds : Kinds} {names : List Str} {renv : Env} {x : Nat} (hk : renv.scope.names = kinds) (hn : names.Nodup) : ∀ (st : S) {B : Addr → Prop} {ρ : List (Option V)} {o : Option (List V)} {y : PySem.Stmt} {N : List (Option V) → Option (List V) → Prop} {R : V → Prop},
    (∀ a, av₀ a → B a) → chkS C.fns kinds names x st y = true → wpS (Call C n) x st ρ o N R → ES C n av₀ B names renv x ρ o y N R
  | .ret e, B, ρ, o, y, N, R, h0, h, q => (es_ret (sound_E O e hk (j_ret h).2 q) h0 hD).at (j_ret h).1
  | .asg v e, B, ρ, o, y, N, R, h0, h, q => by
    refine ES.at ?_ (j_asg h).1
    rcases chk_comp (j_asg h).2.2.1 with hc | ⟨elt, tgt, kind, it, caps, rfl⟩
    · exact es_asg hk hn (j_asg h).2.1 q.1 hc (sound_E O e hk (j_asg h).2.2.1 q.2)
    · have c := i_comp (j_asg h).2.2.1
      obtain ⟨cs, hc, g⟩ := ofSome (o := capsOf ρ caps) q.2
      have l := (j_asg h).2.2.2 (an (an (j_asg h).2.2.1).1).1
      rw [c.1]
      exact es_comp O hk hn (j_asg h).2.1 q.1 l.1 l.2 c.2.1 (chk_shape c.2.2.2.1).1 (noSet_it c.2.1 (chk_shape c.2.2.2.1).2.1) (fun _ => sound_E O it hk c.2.2.2.1) hc g (fun cenv ρ' Q' hk' q' => sound_E O elt hk' c.2.2.2.2 q') c.2.2.1.2.2.1 c.2.2.1.2.1 c.2.2.1.2.2.2.1 c.2.2.1.1 c.2.2.1.2.2.2.2
  | .asg2 y z a b, B, ρ, o, st, N, R, h0, h, q =>
    have j := j_asg2 h
    (es_asg2 hk hn j.2.1.1 j.2.1.2.1 j.2.1.2.2.1 j.2.1.2.2.2 (chk_shape j.2.2.2.1).1 (chk_shape j.2.2.2.2).1 j.2.2.1.1 j.2.2.1.2 q.1.1 q.1.2 (fun _ => sound_E O a hk j.2.2.2.1) (fun _ => sound_E O b hk j.2.2.2.2) q.2).at j.1
  | .aug v e, B, ρ, o, y, N, R, h0, h, q => (ofSome (o := lk ρ v) q.2).elim fun _ g => (es_aug hk hn (j_aug h).2.1 q.1 g.1 (sound_E O e hk (j_aug h).2.2 g.2)).at (j_aug h).1
  | .ife t a b, B, ρ, o, y, N, R, h0, h, q => (es_if (sound_T O t hk (j_ife h).2.1 q) (sound_Ss O hD hk hn a h0 (j_ife h).2.2.1) (sound_Ss O hD hk hn b h0 (j_ife h).2.2.2)).at (j_ife h).1
  | .for' tgt kind it body, B, ρ, o, y, N, R, h0, h, q =>
    have j := j_for h
    (es_for (wbody := fun ρ' o' N' => wpSs (Call C n) x body ρ' o' N' R) O hk hn j.2.1 (chk_shape j.2.2.2.1).1 (noSet_it j.2.1 (chk_shape j.2.2.2.1).2.1) (fun _ => sound_E O it hk j.2.2.2.1) q (fun B' ρ' o' N' h0' q' => sound_Ss O hD hk hn body h0' j.2.2.2.2 q') j.2.2.1.2.2 j.2.2.1.1 j.2.2.1.2.1 h0).at j.1
  | .while' t body, B, ρ, o, y, N, R, h0, h, q => by
    obtain ⟨I, ⟨k, q0⟩, q⟩ := q
    exact (es_while (wt := fun ρ' Q => wpT (Call C n) t ρ' Q) (wbody := fun ρ' o' N' => wpSs (Call C n) x body ρ' o' N' R) I k q0 (fun ρ' Q q' => sound_T O t hk (j_while h).2.1 q') (fun ρ' o' N' q' => sound_Ss O hD hk hn body h0 (j_while h).2.2 q') q).at (j_while h).1
  | .own e, B, ρ, o, y, N, R, h0, h, q => (es_own hk hn (j_own h).2.1.1 (j_own h).2.1.2.1 (match e, (j_own h).2.1.2.2, (j_own h).2.2, (show wpO (Call C n) x o e ρ (fun us => N ρ (some us)) from q) with
    | .bin .add a b, _, h2, q => (of_add (fun _ => sound_O O _ hk (i_bin h2).2.1) (fun _ => sound_O O _ hk (i_bin h2).2.2) q).at (i_bin h2).1
    | .lst [], _, h2, q => (of_nil q).at ((i_lst h2).1.trans (c_lst (i_nil (i_lst h2).2.2))))).at (j_own h).1
  | .own2 y b, B, ρ, o, st, N, R, h0, h, q =>
    have j := j_own2 h
    (es_own2 hk hn j.2.1.1 j.2.1.2.1 j.2.1.2.2.1 j.2.1.2.2.2 (chk_shape j.2.2).1 q.1 (sound_E O b hk j.2.2 q.2)).at j.1
  | .append e, B, ρ, some us, y, N, R, h0, h, q => (es_append hk (b_meth (an h).1).2 (j_append h).1 (chk_shape (j_append h).2).1 q.1 (sound_E O e hk (j_append h).2 q.2)).at (b_meth (an h).1).1
  | .append e, B, ρ, none, y, N, R, h0, h, q => q.elim
  | .extend e, B, ρ, some us, y, N, R, h0, h, q => (es_extend hk (b_meth (an h).1).2 (j_extend h).1 (chk_shape (j_extend h).2).1 (sound_E O e hk (j_extend h).2 q)).at (b_meth (an h).1).1
  | .extend e, B, ρ, none, y, N, R, h0, h, q => q.elim
theorem sound_Ss (O : C.Ok) {av₀ : Addr → Prop} (hD : ∀ a, C.D = some a → av₀ a) {kinds : Kinds} {names : List Str} {renv : Env} {x : Nat} (hk : renv.scope.names = kinds) (hn : names.Nodup) : ∀ (sts : List S) {B : Addr → Prop} {ρ : List (Option V)} {o : Option (List V)} {ys : List PySem.Stmt} {N : List (Option V) → Option (List V) → Prop} {R : V → Prop},
    (∀ a, av₀ a → B a) → chkSs C.fns kinds names x sts ys = true → wpSs (Call C n) x sts ρ o N R → ESs C n av₀ B names renv x ρ o ys N R
  | [], B, ρ, o, ys, N, R, h0, h, q => (es_nil q).at (js_nil h)
  | st :: sts, B, ρ, o, ys, N, R, h0, h, q => (es_cons (sound_S O hD hk hn st h0 (js_cons h).2.1 q) fun ρ' o' q' => sound_Ss O hD hk hn sts h0 (js_cons h).2.2 q').at (js_cons h).1
end
end

theorem zip_lookup : ∀ {ns : List Str} {vs : List Value} {n : Str}, ns.length = vs.length → n ∈ ns → ((ns.zip vs).lookup n).isSome = true
  | [], _, _, _, h => by simp at h
  | a :: ns, [], _, h, _ => by simp at h
  | a :: ns, v :: vs, n, h, hm => by
    simp only [List.zip_cons_cons, List.lookup_cons]
    by_cases e : (n == a) = true
    · simp [e]
    · simp only [Bool.not_eq_true] at e
      simp only [e]
      rcases List.mem_cons.mp hm with rfl | hm
      · simp at e
      · exact zip_lookup (by simpa using h) hm

theorem zip_filterMap : ∀ {ns : List Str} {vs : List Value} (pre : List (Str × Value)), ns.length = vs.length → ns.Nodup → (∀ n ∈ ns, pre.lookup n = none) →
    (ns.filterMap fun n => ((pre ++ ns.zip vs).lookup n).map (n, ·)) = ns.zip vs
  | [], vs, pre, h, _, _ => by cases vs <;> rfl
  | a :: ns, [], _, h, _, _ => by simp at h
  | a :: ns, v :: vs, pre, h, hn, hp => by
    obtain ⟨h1, h2⟩ := List.nodup_cons.mp hn
    have e1 : (pre ++ (a, v) :: ns.zip vs).lookup a = some v := by
      rw [List.lookup_append, hp a List.mem_cons_self]
      simp [List.lookup_cons]
    have e2 := zip_filterMap (pre ++ [(a, v)]) (by simpa using h) h2 fun n hm => by
      rw [List.lookup_append, hp n (List.mem_cons_of_mem _ hm)]
      have : (n == a) = false := by simpa using fun z : n = a => h1 (z ▸ hm)
      simp [List.lookup_cons, this]
    simp only [List.zip_cons_cons, List.filterMap_cons, e1, Option.map_some]
    congr 1
    simpa using e2

theorem bindArgs_plain {fd : FuncData} {ns : List Str} {vs : List Value} (h1 : fd.params.posonlyargs = []) (h2 : fd.params.args.map (·.arg) = ns) (h3 : fd.params.kwonlyargs = []) (h4 : fd.params.vararg = none) (h5 : fd.params.kwarg = none)
    (h6 : fd.defaults = .none) (hl : ns.length = vs.length) (hn : ns.Nodup) : bindArgs fd ⟨vs, []⟩ = pure (ns.zip vs) := by
  have hm : (ns.filter fun n => ((ns.zip vs).lookup n).isNone) = [] := by
    rw [List.filter_eq_nil_iff]
    intro n hm
    have := zip_lookup hl hm
    simp only [Option.isNone_iff_eq_none]
    intro z
    rw [z] at this; cases this
  have hf := zip_filterMap (vs := vs) [] hl hn fun _ _ => rfl
  simp only [List.nil_append] at hf
  have hs : seqItems? Value.none = pure none := rfl
  unfold bindArgs
  simp only [h1, h2, h3, h4, h5, h6, hs, List.map_nil, List.nil_append, List.append_nil]
  have ht : List.take vs.length ns = ns := List.take_of_length_le (Nat.le_of_eq hl)
  simp only [pure_bind, List.forIn_nil, Option.getD_none, List.length_nil, Nat.zero_sub, List.drop_nil, List.zip_nil_right, Nat.sub_zero, List.take_length, hl, hf, ht, hm, List.isEmpty_nil, Nat.lt_irrefl, decide_false]
  rfl

/-- a function of the text, with its body -/
structure DefIs (C : Cx) (f : Nat) (fr : Fun) (sc : Scope) (body : List PySem.Stmt) : Prop where
  idx : C.fns[f]? = some fr.name
  is : ∃ a o pm code doc params, C.mg fr.name = some (.ref a) ∧ C.h₀.get? a = some o ∧ o.data = .func (docDef fr.name params body sc pm code doc) ∧ C.h₀.CodeRec code fr.name ∧ chkHead fr fr.name params sc = true
/-- a function of the text that the small text matches -/
structure DefAt (C : Cx) (f : Nat) (fr : Fun) : Prop where
  is : ∃ sc body, DefIs C f fr sc body ∧ chkSs C.fns sc.names fr.names fr.acc fr.body body = true

theorem lk_start : ∀ {args : List V} {k i : Nat} {d : V}, lk (args.map some ++ List.replicate k none) i = some d → args[i]? = some d := lk_caps
theorem lk_beyond : ∀ {args : List V} {k i : Nat}, args.length ≤ i → lk (args.map some ++ List.replicate k none) i = none := fun {args k i} h => by
  cases q : lk (args.map some ++ List.replicate k none) i with
  | none => rfl
  | some d =>
    have := lk_caps q
    rw [List.getElem?_eq_none h] at this; cases this

theorem bindL_get {kindOf : Str → Option NameKind} {nm : Str} : ∀ {ns : List Str} {vs : List Value} {m : Str → Option Value} {i : Nat} {v : Value}, ns.Nodup → ns[i]? = some nm → vs[i]? = some v → kindOf nm = some .local → bindL kindOf (ns.zip vs) m nm = some v := by
  have out : ∀ (bs : List (Str × Value)) (m : Str → Option Value), nm ∉ bs.map (·.1) → bindL kindOf bs m nm = m nm := by
    intro bs
    induction bs with
    | nil => intro m _; rfl
    | cons b bs ih =>
      obtain ⟨n, v⟩ := b
      intro m h
      simp only [List.map_cons, List.mem_cons, not_or] at h
      unfold bindL
      rw [ih _ h.2]
      split
      · simp [h.1]
      · rfl
  intro ns
  induction ns with
  | nil => intro vs m i v _ h; simp at h
  | cons a ns ih =>
    intro vs m i v hn h1 h2 hk
    cases vs with
    | nil => simp at h2
    | cons w vs =>
      obtain ⟨n1, n2⟩ := List.nodup_cons.mp hn
      simp only [List.zip_cons_cons]
      unfold bindL
      cases i with
      | zero =>
        simp at h1 h2
        subst h1; subst h2
        rw [out _ _ fun z => n1 (by
          obtain ⟨b, hb, e⟩ := List.mem_map.mp z
          have := (List.of_mem_zip hb).1
          rw [e] at this; exact this)]
        simp [hk]
      | succ i => exact ih n2 (by simpa using h1) (by simpa using h2) hk
theorem bindC_get {kindOf : Str → Option NameKind} {nm : Str} : ∀ {ns : List Str} {vs : List Value} {m : Str → Option Value} {i : Nat} {v : Value}, ns.Nodup → ns[i]? = some nm → vs[i]? = some v → kindOf nm = some .cell → bindC kindOf (ns.zip vs) m nm = some v := by
  have out : ∀ (bs : List (Str × Value)) (m : Str → Option Value), nm ∉ bs.map (·.1) → bindC kindOf bs m nm = m nm := by
    intro bs
    induction bs with
    | nil => intro m _; rfl
    | cons b bs ih =>
      obtain ⟨n, v⟩ := b
      intro m h
      simp only [List.map_cons, List.mem_cons, not_or] at h
      unfold bindC
      rw [ih _ h.2]
      split
      · rfl
      · simp [h.1]
  intro ns
  induction ns with
  | nil => intro vs m i v _ h; simp at h
  | cons a ns ih =>
    intro vs m i v hn h1 h2 hk
    cases vs with
    | nil => simp at h2
    | cons w vs =>
      obtain ⟨n1, n2⟩ := List.nodup_cons.mp hn
      simp only [List.zip_cons_cons]
      unfold bindC
      cases i with
      | zero =>
        simp at h1 h2
        subst h1; subst h2
        rw [out _ _ fun z => n1 (by
          obtain ⟨b, hb, e⟩ := List.mem_map.mp z
          have := (List.of_mem_zip hb).1
          rw [e] at this; exact this)]
        simp [hk]
      | succ i => exact ih n2 (by simpa using h1) (by simpa using h2) hk
theorem cells_some {nm : Str} : ∀ {names : List (Str × NameKind)} {k : Nat} {acc : List (Str × Addr)}, (names.lookup nm = some .cell ∨ (acc.lookup nm).isSome = true) → ((cellsFrom k names acc).lookup nm).isSome = true
  | [], k, acc, h => by
    rcases h with h | h
    · simp at h
    · exact h
  | (x, kd) :: names, k, acc, h => by
    unfold cellsFrom
    by_cases hx : (nm == x) = true
    · by_cases hc : (kd == NameKind.cell) = true
      · rw [if_pos hc]
        refine cells_some (.inr ?_)
        simp [List.lookup_cons, hx]
      · rw [if_neg hc]
        rcases h with h | h
        · simp only [List.lookup_cons, hx, Option.some.injEq] at h
          subst h; simp at hc
        · exact cells_some (.inr h)
    · have hx : (nm == x) = false := by simpa using hx
      by_cases hc : (kd == NameKind.cell) = true
      · rw [if_pos hc]
        refine cells_some ?_
        rcases h with h | h
        · simp only [List.lookup_cons, hx] at h; exact .inl h
        · exact .inr (by simp only [List.lookup_cons, hx]; exact h)
      · rw [if_neg hc]
        refine cells_some ?_
        rcases h with h | h
        · simp only [List.lookup_cons, hx] at h; exact .inl h
        · exact .inr h

theorem head_is {fr : Fun} {name : Str} {params : Arguments} {sc : Scope} (h : chkHead fr name params sc = true) : params.args.map (·.arg) = fr.params ∧ params.posonlyargs = [] ∧ params.vararg = none ∧ params.kwonlyargs = [] ∧ params.kwarg = none ∧
    sc.kind = .function ∧ sc.isGenerator = false ∧ sc.isCoroutine = false ∧ fr.params <+: fr.names ∧ fr.names.Nodup ∧ ∀ p ∈ fr.params, sc.names.lookup p = some .local ∨ sc.names.lookup p = some .cell := by
  simp only [chkHead, Bool.and_eq_true, Bool.not_eq_true', decide_eq_true_eq, List.all_eq_true, Bool.or_eq_true, beq_iff_eq, List.isEmpty_iff, Option.isNone_iff_eq_none] at h
  obtain ⟨⟨⟨⟨⟨⟨⟨⟨⟨⟨⟨⟨⟨⟨h1, h2⟩, h3⟩, h4⟩, h5⟩, h6⟩, h7⟩, h8⟩, h9⟩, h10⟩, h11⟩, h12⟩, h13⟩, h14⟩, h15⟩ := h
  exact ⟨h2, h3, h4, h5, h7, by simpa using h9, h10, h11, List.isPrefixOf_iff_prefix.mp h12, h13, h15⟩

section
variable {C : Cx} {n : Nat}
theorem call_frame (hlim : C.h₀.NoLimit) {f : Nat} {fr : Fun} {sc : Scope} {body : List PySem.Stmt} {args : List V} {Q : V → Prop} (d : DefIs C f fr sc body) (hlen : args.length = fr.params.length) (hacc : fr.params.length ≤ fr.acc)
    (h : ∀ (av : Addr → Prop) (renv : Env), (∀ a, C.D = some a → av a) → renv.scope.names = sc.names → ESs C n av av fr.names renv fr.acc (args.map some ++ List.replicate (fr.names.length - args.length) none) none body (fun _ _ => Q .none) Q) : Call C (n + 1) f args Q := by
  obtain ⟨a, o, pm, code, doc, params, hm, ho, hd, hcd, hh⟩ := d.is
  obtain ⟨k1, k2, k3, k4, k5, k6, k7, k8, k9, k10, k11⟩ := head_is hh
  refine ⟨fr.name, .ref a, d.idx, hm, fun A s av vs rm x av' r => ?_⟩
  have el := r.length
  have hnp : fr.params.Nodup := k10.sublist k9.sublist
  refine call_cells_ret (rm.d (by omega)) (x.keep _ _ ho) hd (hlim.keeps x.keep) (hcd.keeps x.keep) (bindArgs_plain (fd := docDef fr.name params body sc pm code doc) k2 k1 k4 k3 k5 rfl (by omega) hnp) (fun b hb => ?_) (fun h₁ tk F X => ?_) k8 k7 k6
  · have hmem : b.1 ∈ fr.params := (List.of_mem_zip (show (b.1, b.2) ∈ fr.params.zip vs from hb)).1
    rcases k11 _ hmem with z | z
    · exact .inl z
    · exact .inr ⟨z, cells_some (.inl z)⟩
  · generalize hL : s.heap.objs.size = L at F X ⊢
    have gL : s.heap.get? L = none := new_none (Nat.le_of_eq hL)
    have tL : h₁.get? L ≠ none := by obtain ⟨o, _, _, ho, _⟩ := F.ns; rw [ho]; simp
    let s₁ : Shared := { s with heap := h₁, toks := tk }
    let renv := envOfC fr.name sc L a code
    have x₁ : St C s₁ := x.all F.keep rfl rfl
    have y₁ : Step C s s₁ := Step.all F.keep
    have i : SI C av fr.names renv fr.acc (· = L) s₁ (args.map some ++ List.replicate (fr.names.length - args.length) none) none := by
      refine { st := x₁, deck := av'.deck, base := fun b z => y₁.there (av'.there b z), wl := rfl, wb := fun b z w => av'.there b w (by rw [(z : b = L)]; exact gL), w0 := fun b z => by rw [(z : b = L)]; exact new_h0 x (Nat.le_of_eq hL), wd := fun b z => by rw [(z : b = L)]; exact new_deck x (Nat.le_of_eq hL), wt := fun b z => by rw [(z : b = L)]; exact tL, cells := fun nm c g z => ?_, env := ?_, acc := lk_beyond (by omega), ns := ⟨_, F.ns, trivial⟩ }
      · have := X.above nm c (PySem.mem_of_lookup g)
        exact Nat.lt_irrefl _ ((z : c = L) ▸ this)
      · refine ⟨k6, rfl, rfl, fun j dv g => ?_, tL, fun nm c g => ?_⟩
        · have ga := lk_start g
          obtain ⟨v, gv, rv⟩ := r.get ga
          have hj : j < fr.params.length := by rw [← hlen]; exact (List.getElem?_eq_some_iff.mp ga).1
          obtain ⟨t, ht⟩ := k9
          have gn : fr.names[j]? = some fr.params[j] := by rw [← ht, List.getElem?_append_left hj]; exact List.getElem?_eq_getElem hj
          have gp : fr.params[j]? = some fr.params[j] := List.getElem?_eq_getElem hj
          refine ⟨fr.params[j], v, gn, ?_, ?_⟩
          · rcases k11 _ (List.getElem_mem hj) with z | z
            · exact .inl ⟨z, _, F.ns, bindL_get hnp gp gv z⟩
            · obtain ⟨c, hc⟩ := Option.isSome_iff_exists.mp (cells_some (k := L + 1) (acc := []) (.inl z))
              refine .inr ⟨z, c, hc, ?_⟩
              have hcell := X.cell _ c hc
              rw [bindC_get hnp gp gv z] at hcell
              exact hcell
          · refine Rep.move (fun b o nb g => ⟨fun z => z.elim nb fun z => ?_, F.keep b o g⟩) _ rv
            rw [(z : b = L), gL] at g; cases g
        · obtain ⟨o, ho, _⟩ := X.cell nm c g
          show h₁.get? c ≠ none
          rw [ho]; simp
    refine wpAny_mono (h av renv av'.deck rfl _ s₁ _ (rm.deeper _) i) (fun fl s' p => ?_) fun _ _ e => e
    have cc : ∀ {s'}, St C s' → Chg C (· = L) s₁ s' → Step C s s' := fun st c => Chg.isStep (Chg.trans (Chg.step y₁) c) (fun b z => by rw [(z : b = L)]; exact gL) st
    cases fl with
    | next =>
      obtain ⟨W', ρ', o', q', i', _, _, c⟩ := p
      exact ⟨.none, rfl, .none, q', by first | exact rfl | exact Exists.intro _ rfl | simp [Rep], i'.st, cc i'.st c⟩
    | ret v =>
      obtain ⟨dv, q', rp, st, c⟩ := p
      exact ⟨v, rfl, dv, q', rp, st, cc st c⟩
    | brk => exact p.elim
    | cont => exact p.elim

theorem call_rule (O : C.Ok) (hlim : C.h₀.NoLimit) {f : Nat} {fr : Fun} {args : List V} {Q : V → Prop} (d : DefAt C f fr) (hlen : args.length = fr.params.length) (hacc : fr.params.length ≤ fr.acc)
    (q : wpSs (Call C n) fr.acc fr.body (args.map some ++ List.replicate (fr.names.length - args.length) none) none (fun _ _ => Q .none) Q) : Call C (n + 1) f args Q := by
  obtain ⟨sc, body, di, hb⟩ := d.is
  have hnd : fr.names.Nodup := by
    obtain ⟨a, o, pm, code, doc, params, hm, ho, hd, hcd, hh⟩ := di.is
    exact (head_is hh).2.2.2.2.2.2.2.2.2.1
  exact call_frame hlim di hlen hacc fun av renv hD hk => sound_Ss O hD hk hnd fr.body (fun _ z => z) hb q

theorem Call.mono {m : Nat} {f : Nat} {args : List V} {Q Q' : V → Prop} (h : Call C n f args Q) (hm : n ≤ m) (k : ∀ v, Q v → Q' v) : Call C m f args Q' := by
  obtain ⟨nm, fv, h1, h2, hc⟩ := h
  refine ⟨nm, fv, h1, h2, fun A s av vs rm x a r => codeAny_mono (hc A s av vs (rm.le hm) x a r) fun r s' p => ?_⟩
  obtain ⟨v, e, d, q, p⟩ := p
  exact ⟨v, e, d, k d q, p⟩
end

noncomputable def s0 (l : List PySem.Stmt) : PySem.Stmt := l.headD default
noncomputable def s1 (l : List PySem.Stmt) : PySem.Stmt := l.tail.headD default
theorem c_if {t t' : PySem.Expr} {a a' b b' : List PySem.Stmt} {p : Pos} (h : t = t') (g : a = a') (k : b = b') : PySem.Stmt.If t a b p = .If t' a' b' p := by rw [h, g, k]
theorem c_cmp {l l' : PySem.Expr} {os : List CmpOp} {rs rs' : List PySem.Expr} {p : Pos} (h : l = l') (g : rs = rs') : PySem.Expr.Compare l os rs p = .Compare l' os rs' p := by rw [h, g]
theorem c_bin {l l' r r' : PySem.Expr} {o : Operator} {p : Pos} (h : l = l') (g : r = r') : PySem.Expr.BinOp l o r p = .BinOp l' o r' p := by rw [h, g]
theorem c_some {a b : PySem.Expr} (h : a = b) : some a = some b := by rw [h]
theorem c_one' {a b : PySem.Stmt} (h : a = b) : [a] = [b] := by rw [h]
theorem c_two' {a b c d : PySem.Stmt} (h : a = b) (g : c = d) : [a, c] = [b, d] := by rw [h, g]
theorem e_ret {s : PySem.Stmt} (h : sq 0 s = true) (g : (rvS s).isSome = true) : s = .Return (some (xo (rvS s))) s.pos := (etaS_at h rfl).trans (c_ret (some_is default g))
/-- the text of the draw -/
noncomputable def isOf1 (kinds : Kinds) (s : PySem.Stmt) : Bool := (sq 5 s && ((b2S s).isEmpty && (one (b1S s) && (tq 6 (svS s) && (decide (opsE (svS s) = [.Eq]) && one (ks (svS s))))))) &&
  (((tq 3 (x0 (ks (svS s))) && (ks (x0 (ks (svS s)))).isEmpty) && (tq 1 (k0 (svS s)) && chkVar kinds ["deck", "many"] 0 (nmE (k0 (svS s))))) &&
  ((sq 0 (s0 (b1S s)) && (rvS (s0 (b1S s))).isSome) && (tq 0 (xo (rvS (s0 (b1S s)))) && decide (cE (xo (rvS (s0 (b1S s)))) = .int 0))))
theorem isOf1_is {kinds : Kinds} {s : PySem.Stmt} (h : isOf1 kinds s = true) : s = .If (.Compare (.Name (nmE (k0 (svS s))) (k0 (svS s)).pos) [.Eq] [.List [] (x0 (ks (svS s))).pos] (svS s).pos) [.Return (some (.Constant (.int 0) (kE (xo (rvS (s0 (b1S s))))) (xo (rvS (s0 (b1S s)))).pos)) (s0 (b1S s)).pos] [] s.pos ∧ chkVar kinds ["deck", "many"] 0 (nmE (k0 (svS s))) = true :=
  have a := (an (an h).1).2
  have b := (an (an a).2).2
  have c := (an (an h).2).1
  have d := (an (an h).2).2
  ⟨(etaS_at (an (an h).1).1 rfl).trans (c_if ((e_cmp (an b).1 (dk (an (an b).2).1) (an (an b).2).2).trans (c_cmp (e_nm (an (an c).2).1) (c_one ((e_list (an (an c).1).1).trans (c_lst (nil_is (an (an c).1).2))))))
    ((one_is default (an (an a).2).1).trans (c_one' ((e_ret (an (an d).1).1 (an (an d).1).2).trans (c_ret (c_some (e_const (an (an d).2).1 (dk (an (an d).2).2))))))) (nil_is (an a).1)), (an (an c).2).2⟩
noncomputable def isOf2 (kinds : Kinds) (s : PySem.Stmt) : Bool := (sq 0 s && ((rvS s).isSome && (tq 5 (xo (rvS s)) && decide (opE (xo (rvS s)) = .Mod)))) &&
  ((meth "pop" (k0 (xo (rvS s))) && ((ks (k0 (xo (rvS s)))).isEmpty && tq 1 (k0 (k0 (k0 (xo (rvS s))))))) && (tq 1 (k1 (xo (rvS s))) && (chkVar kinds ["deck", "many"] 0 (nmE (k0 (k0 (k0 (xo (rvS s)))))) && chkVar kinds ["deck", "many"] 1 (nmE (k1 (xo (rvS s)))))))
theorem isOf2_is {kinds : Kinds} {s : PySem.Stmt} (h : isOf2 kinds s = true) : s = .Return (some (.BinOp (.Call (.Attribute (.Name (nmE (k0 (k0 (k0 (xo (rvS s)))))) (k0 (k0 (k0 (xo (rvS s))))).pos) "pop" (k0 (k0 (xo (rvS s)))).pos) [] [] (k0 (xo (rvS s))).pos) .Mod (.Name (nmE (k1 (xo (rvS s)))) (k1 (xo (rvS s))).pos) (xo (rvS s)).pos)) s.pos ∧
    chkVar kinds ["deck", "many"] 0 (nmE (k0 (k0 (k0 (xo (rvS s)))))) = true ∧ ((k0 (k0 (xo (rvS s)))).pos.endLine == (k0 (xo (rvS s))).pos.line) = true ∧ chkVar kinds ["deck", "many"] 1 (nmE (k1 (xo (rvS s)))) = true :=
  have a := (an (an h).1).2
  have b := (an (an h).2).1
  have c := (an (an h).2).2
  have m := e_meth (an b).1
  ⟨(e_ret (an (an h).1).1 (an a).1).trans (c_ret (c_some ((e_bin (an (an a).2).1 (dk (an (an a).2).2)).trans (c_bin (m.1.trans (c_call (c_attr (e_nm (an (an b).2).2) rfl) (nil_is (an (an b).2).1) rfl)) (e_nm (an c).1))))), (an (an c).2).1, m.2, (an (an c).2).2⟩
noncomputable def isLawOf (kinds : Kinds) (body : List PySem.Stmt) : Bool := two body && (isOf1 kinds (s0 body) && isOf2 kinds (s1 body))

theorem intsAre_get {vs : List Value} {ns : List Int} (h : IntsAre vs ns) : ∀ {i : Nat} {v : Value}, vs[i]? = some v → ∃ n t, v = .int n t := by
  induction h with
  | nil => intro i v h; cases h
  | cons n t r ih =>
    intro i v h
    cases i with
    | zero => cases h; exact ⟨n, t, rfl⟩
    | succ i => exact ih h
theorem intsAre_dropLast {vs : List Value} {ns : List Int} (h : IntsAre vs ns) : ∃ ms, IntsAre vs.dropLast ms := by
  induction h with
  | nil => exact ⟨[], .nil⟩
  | cons n t h ih =>
    cases h with
    | nil => exact ⟨[], .nil⟩
    | cons n' t' r => exact ih.elim fun ms k => ⟨n :: ms, .cons n t k⟩

section
variable {C : Cx} {av : Addr → Prop} {A : Around} {s : Shared} {n : Nat} {names : List Str} {renv : Env} {ρ : List (Option V)} {Q : V → Prop}

theorem repInts (h : Heap) {vs : List Value} {ns : List Int} (k : IntsAre vs ns) : RepL C (fun _ => False) h (ns.map .int) vs := by
  induction k with
  | nil => exact RepL.nil
  | cons n t r ih => exact RepL.cons ⟨t, rfl⟩ ih

theorem erase_last (vs : List Value) (k : Nat) : Obj.mapSeq (fun xs => xs.eraseIdxIfInBounds (vs.toArray.size - 1)) { cls := .type "list", data := .seq vs.toArray k } = { cls := .type "list", data := .seq vs.dropLast.toArray (if (vs.dropLast.toArray.size == vs.toArray.size) = true then k else k + 1) } := by
  have e : vs.toArray.eraseIdxIfInBounds (vs.toArray.size - 1) = vs.dropLast.toArray := by
    apply Array.ext'
    simp [List.eraseIdx_eq_dropLast]
  simp only [Obj.mapSeq, e]

noncomputable abbrev nmDeck : List Str := ["deck", "many"]

theorem lawOf_body (O : C.Ok) {kinds : Kinds} {av : Addr → Prop} {body : List PySem.Stmt} {m : Int} (hm : 0 < m) (q : ∀ k : Int, 0 ≤ k → k < m → Q (.int k)) (hD : ∀ a, C.D = some a → av a) (hb : isLawOf kinds body = true) (hk : renv.scope.names = kinds) :
    ESs C n av av nmDeck renv 99 [some .deck, some (.int m)] none body (fun _ _ => Q .none) Q := by
  obtain ⟨f1, h1⟩ := isOf1_is (an (an hb).2).1
  obtain ⟨f2, h2, h3, h4⟩ := isOf2_is (an (an hb).2).2
  refine ESs.at ?_ ((two_is default (an hb).1).trans (c_two' f1 f2))
  intro A s W rm i
  have hu : A.units + 1 < cLine := by have := rm.c; omega
  refine wpAny_execs_cons (wpAny_If (wpAny_isTrue_Compare1 (si_then (Q1 := fun d => d = .deck) (ev_var h1 rfl rfl) rm i fun v s₁ d q₁ r₁ i₁ y₁ => ?_) (noSet_marks rfl)))
  subst q₁
  refine si_then (Q1 := fun d => d = .lst []) (ev_lst (evL_nil rfl) (by simp)) rm i₁ fun w s₂ d q₂ r₂ i₂ y₂ => ?_
  subst q₂
  obtain ⟨D, hDD, rfl⟩ := r₁
  obtain ⟨vs, ns, l, ia, hz⟩ := i₂.st.deck D hDD
  have r₁' : Rep C (fun _ => False) s₂.heap (.lst (ns.map .int)) (.ref D) := by
    simp only [Rep]
    exact ⟨D, vs, rfl, id, l, repInts s₂.heap ia⟩
  have r₂' : Rep C (fun _ => False) s₂.heap (.lst []) w := r₂.less fun _ z => z.elim
  have el : vs.length = ns.length := by simpa using (repInts (C := C) s₂.heap ia).length
  refine (rc_of (b := (ns.map V.int).isEmpty) rfl r₁' r₂' hu).1 _ _ _ _ (wpAny_truthy_bool ?_)
  have c₂ : Chg C W s s₂ := Chg.trans (Chg.step y₁) (Chg.step y₂)
  cases hne : (ns.map V.int).isEmpty with
  | true =>
    simp only [if_true]
    exact wpAny_execs_cons (wpAny_Return_some (wpAny_Constant_int ⟨.int 0, q 0 (Int.le_refl _) hm, by first | exact rfl | exact Exists.intro _ rfl | simp [Rep], i₂.st.all (fun _ _ g => g) rfl rfl, c₂⟩))
  | false =>
    simp only [Bool.false_eq_true, if_false]
    refine wpAny_execs_nil ?_
    have nev : vs ≠ [] := fun z => by
      rw [z] at el
      have : ns = [] := List.eq_nil_of_length_eq_zero el.symm
      rw [this] at hne; simp at hne
    refine wpAny_execs_cons (wpAny_Return_some (wpAny_BinOp ?_))
    refine wpAny_Call_method (T := "list") (id := "list.pop") rfl rfl h3 F.plainAttrs_list F.slot_list_pop F.type_list_pop ?_
    -- the deck's name again, in the same state
    obtain ⟨nm', v', e1, e2, e3⟩ := i₂.env.vars 0 .deck rfl
    simp only [chkVar, Bool.and_eq_true, beq_iff_eq] at h2
    rw [h2.1] at e1; cases e1
    obtain ⟨D', hDD', rfl⟩ := e3
    rw [hDD] at hDD'; cases hDD'
    refine wpAny_Name (ld_bound e2 i₂.env.kind ⟨?_, ?_, ?_⟩) (isVar_debug h2.2)
    · obtain ⟨k, g⟩ := l; exact ⟨_, g, rfl⟩
    · rintro a ⟨⟩; obtain ⟨k, g⟩ := l; exact ⟨_, g, rfl⟩
    obtain ⟨kk, g⟩ := l
    obtain ⟨y, hy⟩ : ∃ y, vs[vs.length - 1]? = some y := ⟨vs[vs.length - 1]'(by have := List.length_pos_iff.mpr nev; omega), List.getElem?_eq_getElem _⟩
    obtain ⟨yn, yt, rfl⟩ := intsAre_get ia hy
    refine PySem.P.pop_list (items := vs.toArray) (n := kk) (pos := (k0 (xo (rvS (s1 body)))).pos) g (by simpa using hy) ?_ (by rw [sizeLine_eq, List.size_toArray]; omega)
    let s₃ : Shared := { s₂ with heap := s₂.heap.update D (Obj.mapSeq fun xs => xs.eraseIdxIfInBounds (vs.toArray.size - 1)) }
    have g3 : s₃.heap.get? D = some { cls := .type "list", data := .seq vs.dropLast.toArray (if (vs.dropLast.toArray.size == vs.toArray.size) = true then kk else kk + 1) } := by
      show (s₂.heap.update D _).get? D = _
      rw [Heap.get?_update_self _ g (by rw [erase_last]; rfl), erase_last]
    have kD : Keeps (· = D) s₂ s₃ := fun b o nb g => ((Heap.SameBut.update s₂.heap D _).2 b nb).trans g
    have y₃ : Step C s₂ s₃ := ⟨fun a o na g => kD a o (fun z => na (by rw [(z : a = D)]; exact hDD)) g, fun a z _ => by rw [hDD] at z; cases z; rw [g3]; simp⟩
    have x₃ : St C s₃ := by
      refine ⟨fun a o e => kD a o (fun z => ?_) (i₂.st.keep a o e), fun a z => ?_, i₂.st.gens, i₂.st.os⟩
      · rw [(z : a = D), O.deck D hDD] at e; cases e
      · rw [hDD] at z; cases z
        obtain ⟨ms, im⟩ := intsAre_dropLast ia
        exact ⟨vs.dropLast, ms, ⟨_, g3⟩, im, by simp; omega⟩
    have i₃ := i₂.step y₃ x₃
    refine si_then (Q1 := fun d => d = .int m) (s := s₃) (ev_var h4 rfl rfl) rm i₃ fun w s₄ d q₄ r₄ i₄ y₄ => ?_
    subst q₄
    obtain ⟨t4, rfl⟩ := r₄
    refine mod_int (Int.ne_of_gt hm) ?_
    refine ⟨.int (yn.fmod m), q _ (Int.fmod_nonneg_of_pos _ hm) (Int.fmod_lt_of_pos _ hm), by first | exact rfl | exact Exists.intro _ rfl | simp [Rep], i₄.st.all (fun _ _ g => g) rfl rfl, ?_⟩
    exact c₂.trans (Chg.trans (Chg.step y₃) (Chg.trans (Chg.step y₄) fun _ _ _ _ g => g))

/-- the draw -/
theorem lawOf (O : C.Ok) {f : Nat} {fr : Fun} {sc : Scope} {body : List PySem.Stmt} {m : Int} (hlim : C.h₀.NoLimit) (d : DefIs C f fr sc body) (hp : fr.params = nmDeck) (hna : fr.names = nmDeck) (hac : fr.acc = 99) (hb : isLawOf sc.names body = true) (hm : 0 < m) (q : ∀ k : Int, 0 ≤ k → k < m → Q (.int k)) :
    Call C (n + 1) f [.deck, .int m] Q :=
  call_frame hlim d (by rw [hp]; rfl) (by rw [hp, hac]; decide) fun av renv hD hk => by
    rw [hna, hac]
    exact lawOf_body O hm q hD hb hk
end

/-- a call, closed -/
structure Cal (C : Cx) (n f : Nat) (args : List V) (Q : V → Prop) : Prop where
  is : Call C n f args Q
theorem Cal.eq (C : Cx) (n : Nat) : Cal C n = Call C n := by
  funext f args Q
  exact propext ⟨fun h => h.is, fun h => ⟨h⟩⟩
theorem Cal.mono {C : Cx} {n m : Nat} {f : Nat} {args : List V} {Q Q' : V → Prop} (h : Cal C n f args Q) (hm : n ≤ m) (k : ∀ v, Q v → Q' v) : Cal C m f args Q' := ⟨h.is.mono hm k⟩

/-! bounds of lengths, made of pieces -/
theorem list_is {α : Type} (d : α) (l : List α) : l = (List.range l.length).map (fun i => l.getD i d) := List.ext_getElem (by simp) fun i h1 h2 => by simp [List.getD, List.getElem?_eq_getElem h1]
theorem lb_app {α : Type} {a b : List α} {m n : Nat} (h : a.length ≤ m) (k : b.length ≤ n) : (a ++ b).length ≤ m + n := by rw [List.length_append]; exact Nat.add_le_add h k
theorem lb_map {α β : Type} {a : List α} {f : α → β} {m : Nat} (h : a.length ≤ m) : (a.map f).length ≤ m := by rw [List.length_map]; exact h
theorem lb_cons {α : Type} {a : List α} {x : α} {m : Nat} (h : a.length ≤ m) : (x :: a).length ≤ m + 1 := Nat.succ_le_succ h
theorem lb_mul {α β : Type} {a : List α} {b : List β} {m c : Nat} (h : a.length ≤ (b.length + 1) * c) (k : b.length ≤ m) : a.length ≤ (m + 1) * c := Nat.le_trans h (Nat.mul_le_mul_right c (Nat.succ_le_succ k))
theorem lb_nil {α : Type} : ([] : List α).length ≤ 0 := Nat.le_refl 0
theorem lb_add {a b m n : Nat} (h : a ≤ m) (k : b ≤ n) : a + b ≤ m + n := Nat.add_le_add h k
theorem lb_refl {n : Nat} : n ≤ n := Nat.le_refl n
theorem le_lit {n m : Nat} (h : Nat.ble n m = true) : n ≤ m := Nat.le_of_ble_eq_true h
theorem le_add {n a b : Nat} (h : Nat.ble a b = true) : n + a ≤ n + b := Nat.add_le_add_left (Nat.le_of_ble_eq_true h) n
theorem sd_lit {n m k : Nat} (h : n ≤ m) (e : Nat.ble m k = true) : n ≤ k := Nat.le_trans h (Nat.le_of_ble_eq_true e)
/-! lists, cut into pieces -/
noncomputable def Fl {α : Type} (a : List α) (ps : List (List α)) : Prop := a = ps.flatten
theorem fl_nil {α : Type} : Fl ([] : List α) [] := rfl
theorem fl_cons {α : Type} {x : α} {l : List α} {ps : List (List α)} (h : Fl l ps) : Fl (x :: l) ([x] :: ps) := by rw [Fl, h]; rfl
theorem fl_app {α : Type} {a b : List α} {ps qs : List (List α)} (h : Fl a ps) (k : Fl b qs) : Fl (a ++ b) (ps ++ qs) := by rw [Fl, h, k, List.flatten_append]
theorem fl_map_nil {α β : Type} {f : α → β} : Fl (([] : List α).map f) [] := rfl
theorem fl_map_cons {α β : Type} {f : α → β} {x : α} {l : List α} {ps : List (List β)} (h : Fl (l.map f) ps) : Fl ((x :: l).map f) ([f x] :: ps) := fl_cons h
theorem fl_map_app {α β : Type} {f : α → β} {a b : List α} {ps qs : List (List β)} (h : Fl (a.map f) ps) (k : Fl (b.map f) qs) : Fl ((a ++ b).map f) (ps ++ qs) := by rw [List.map_append]; exact fl_app h k
theorem fl_atom {α : Type} {a : List α} : Fl a [a] := (List.append_nil a).symm
theorem fl_eq {α : Type} {a b : List α} {ps qs : List (List α)} (h : Fl a ps) (k : Fl b qs) (e : ps = qs) : a = b := by rw [h, k, e]
theorem lst_eq {a b : List V} (h : a = b) : V.lst a = V.lst b := congrArg V.lst h
theorem str_eq {a b : List Nat} (h : a = b) : V.str a = V.str b := congrArg V.str h
theorem joined_one {s a : List Nat} {m : Nat} (h : a.length ≤ m) : (joined s [a]).length ≤ m := h
theorem joined_two {s a b : List Nat} {r : List (List Nat)} {m n : Nat} (h : a.length ≤ m) (k : (joined s (b :: r)).length ≤ n) : (joined s (a :: b :: r)).length ≤ m + s.length + n := by
  show (a ++ s ++ joined s (b :: r)).length ≤ _
  exact lb_app (lb_app h (Nat.le_refl _)) k
local macro_rules | `(tactic| k_extra "lb") => `(tactic| with_reducible first
  | (apply lb_mul; assumption; k_extra "lb")
  | assumption
  | exact lb_nil
  | (apply lb_app <;> k_extra "lb")
  | (apply lb_map; k_extra "lb")
  | (apply joined_one; k_extra "lb")
  | (apply joined_two <;> k_extra "lb")
  | (apply lb_cons; k_extra "lb")
  | (apply lb_add <;> k_extra "lb")
  | exact lb_refl)
local macro_rules | `(tactic| k_extra "le") => `(tactic| first
  | exact le_lit rfl
  | assumption
  | exact le_add rfl
  | omega)
local macro_rules | `(tactic| k_extra "fl") => `(tactic| first
  | exact fl_nil
  | exact fl_map_nil
  | with_reducible (apply fl_app <;> k_extra "fl")
  | with_reducible (apply fl_cons; k_extra "fl")
  | with_reducible (apply fl_map_app <;> k_extra "fl")
  | with_reducible (apply fl_map_cons; k_extra "fl")
  | exact fl_atom)
local macro_rules | `(tactic| k_extra "side") => `(tactic| first
  | exact trivial
  | exact le_lit rfl
  | decide
  | ((with_reducible apply sd_lit); (· k_extra "lb"); rfl)
  | omega
  | (simp [lim, joined] <;> omega))
local macro_rules | `(tactic| k_extra "ands") => `(tactic| (
  (first
    | refine (?_ : _ ∧ _ ∧ _ ∧ _ ∧ _ ∧ _ ∧ _ ∧ _)
    | refine (?_ : _ ∧ _ ∧ _ ∧ _ ∧ _ ∧ _)
    | refine (?_ : _ ∧ _ ∧ _ ∧ _ ∧ _)
    | refine (?_ : _ ∧ _ ∧ _ ∧ _)
    | refine (?_ : _ ∧ _ ∧ _)
    | refine (?_ : _ ∧ _));
  (repeat ((with_reducible refine And.intro ?_ ?_); (· k_extra "side")))))
local macro_rules | `(tactic| k_extra "go") => `(tactic| repeat (first
  | k_extra "ands"
  | refine LoopV.mk ?_
  | refine MapV.mk ?_))







/-! cutting a text -/
noncomputable def alw (c : Nat) : Bool := alnumC c || c == 95
noncomputable def pairs : List (List Nat) := [[58, 61], [61, 62], [60, 62], [46, 46]]
noncomputable def Stop (r : List Nat) : Prop := ∀ c r', r = c :: r' → alw c = false ∧ c < 128
inductive Cut : List Nat → List (List Nat) → Prop
  | nil : Cut [] []
  | blank {c : Nat} {r : List Nat} {ts : List (List Nat)} : (c = 32 ∨ c = 10) → Cut r ts → Cut (c :: r) ts
  | word {c : Nat} {w r : List Nat} {ts : List (List Nat)} : alnumC c = true → (∀ x ∈ w, alw x = true) → Stop r → Cut r ts → Cut (c :: w ++ r) ((c :: w) :: ts)
  | pair {a b : Nat} {r : List Nat} {ts : List (List Nat)} : [a, b] ∈ pairs → Cut r ts → Cut (a :: b :: r) ([a, b] :: ts)
  | quote {w r : List Nat} {ts : List (List Nat)} : (∀ x ∈ w, x ≠ 34) → Cut r ts → Cut (34 :: (w ++ 34 :: r)) ((34 :: w ++ [34]) :: ts)
  | one {c : Nat} {r : List Nat} {ts : List (List Nat)} : (c < 128 ∧ alnumC c = false ∧ c ≠ 34 ∧ c ≠ 32 ∧ c ≠ 10) → (c :: r).take 2 ∉ pairs → Cut r ts → Cut (c :: r) ([c] :: ts)

theorem alnum_lt {c : Nat} (h : alnumC c = true) : c < 128 := by
  simp only [alnumC, Bool.or_eq_true, Bool.and_eq_true, decide_eq_true_eq] at h
  omega
theorem alw_lt {c : Nat} (h : alw c = true) : c < 128 := by
  simp only [alw, Bool.or_eq_true, beq_iff_eq] at h
  rcases h with h | h
  · exact alnum_lt h
  · omega

section
variable {C : Cx} {n : Nat}

theorem get_at {x r : List Nat} {i c : Nat} (h : x.drop i = c :: r) : x[((i : Nat) : Int).toNat]? = some c ∧ i < x.length ∧ x.drop (i + 1) = r := by
  have h1 := congrArg List.head? h
  have h2 := congrArg List.tail h
  have h3 := congrArg List.length h
  simp at h1 h2 h3
  exact ⟨by simpa using h1, by omega, by simpa using h2⟩
theorem drop_at {x a r : List Nat} {i : Nat} (h : x.drop i = a ++ r) : x.drop (i + a.length) = r ∧ (x.take (i + a.length)).drop i = a ∧ i + a.length ≤ x.length ∨ x.length < i := by
  by_cases hi : x.length < i
  · exact .inr hi
  · refine .inl ⟨?_, ?_, ?_⟩
    · rw [← List.drop_drop, h]; simp
    · rw [List.drop_take, h]; simp
    · have := congrArg List.length h
      simp at this; omega

theorem ix {i l : Nat} (h : i ≤ l) (hl : l ≤ 16000000) : (0 : Int) ≤ (i : Int) ∧ (i : Int) ≤ lim := ⟨Int.natCast_nonneg i, Int.ofNat_le.mpr (Nat.le_trans h (Nat.le_trans hl (Nat.le_of_ble_eq_true (Eq.refl true))))⟩
theorem ix2 {i l : Nat} (h : i ≤ l) (hl : l ≤ 16000000) : (0 : Int) ≤ (i : Int) ∧ (i : Int) ≤ (i : Int) + 2 ∧ (i : Int) ≤ (l : Int) ∧ (i : Int) + 2 ≤ lim ∧ l ≤ lim := by
  have hl' : lim = 16777216 := rfl
  exact ⟨by omega, by omega, by omega, by omega, by omega⟩
theorem two_at {x y : List Nat} {i : Nat} (h : x.drop i = y) : (x.take ((i : Int) + 2).toNat).drop ((i : Int)).toNat = y.take 2 := by
  have e1 : ((i : Int) + 2).toNat = i + 2 := rfl
  have e2 : ((i : Int)).toNat = i := rfl
  rw [e1, e2, List.drop_take, h, Nat.add_sub_cancel_left]
theorem ne34 {c : Nat} (h : c ≠ 34) : ¬ decide ([c] = [34]) = true := by simpa using h
theorem drop_at2 {x a r : List Nat} {i : Nat} (h : x.drop i = a ++ r) (hi : i ≤ x.length) : x.drop (i + a.length) = r ∧ (x.take (i + a.length)).drop i = a ∧ i + a.length ≤ x.length := (drop_at h).resolve_right (Nat.not_lt.mpr hi)

/-- the end of a turn -/
theorem cut_tail {x : List Nat} {c i j : Nat} {r : List Nat} {done : List (List Nat)} {N : List (Option V) → Option (List V) → Prop} {Q : V → Prop} (hx : x.length ≤ 16000000) (h : x.drop i = c :: r) (hij : i ≤ j) (hj : j ≤ x.length) (hd : done.length ≤ lim)
    (q : N [some (.str x), none, some (.int (j : Int)), some (.int (j : Int))] (some ((if c = 32 ∨ c = 10 then done else done ++ [(x.take j).drop i]).map V.str))) :
    wpSs (Cal C n) 1 [.ife (.of (.cmp .notIn (.sub (.var 0) (.var 2)) (.str [32, 10]))) [.append (.cut (.var 0) (.var 2) (.var 3))] [], .asg 2 (.var 3)]
      [some (.str x), none, some (.int (i : Int)), some (.int (j : Int))] (some (done.map V.str)) N Q := by
  obtain ⟨h1, h2, h3⟩ := get_at h
  have hl : lim = 16777216 := rfl
  (conv => whnf)
  refine ⟨⟨by omega, by omega⟩, ?_⟩
  rw [h1]
  (conv => whnf)
  by_cases hb : c = 32 ∨ c = 10
  · rw [ifb_neg (by simp; omega)]
    (conv => whnf)
    refine ⟨by decide, ?_⟩
    rw [if_pos hb] at q
    exact q
  · rw [ifb_pos (by simp; omega)]
    (conv => whnf)
    refine ⟨by simpa using hd, ?_⟩
    (conv => whnf)
    refine ⟨⟨by omega, by omega, by omega, by omega, by omega⟩, ?_⟩
    (conv => whnf)
    refine ⟨by decide, ?_⟩
    (conv => whnf)
    rw [if_neg hb] at q
    simpa [st'] using q

noncomputable def CutI (x : List Nat) (ts : List (List Nat)) (k : Nat) (ρ : List (Option V)) (o : Option (List V)) : Prop :=
  ∃ (i : Nat) (e : Option V) (us done : List (List Nat)), ρ = [some (.str x), none, some (.int (i : Int)), e] ∧ o = some (done.map V.str) ∧ Cut (x.drop i) us ∧ done ++ us = ts ∧ i ≤ x.length ∧ k = x.length - i

theorem lt_true {a b : Nat} (h : a < b) : decide ((a : Int) < (b : Int)) = true := by simpa using h
theorem lt_false {a b : Nat} (h : ¬ a < b) : decide ((a : Int) < (b : Int)) = false := by simpa using h

theorem cut_body {x : List Nat} {ts : List (List Nat)} {Q : V → Prop} (hc : Cut x ts) (hx : x.length ≤ 16000000) (ht : ts.length ≤ lim) (q : Q (.lst (ts.map .str))) :
    wpSs (Cal C n) 1 b74 [some (.str x), none, none, none] none (fun _ _ => Q .none) Q := by
  have hl : lim = 16777216 := rfl
  (conv => whnf)
  refine ⟨by decide, ?_⟩
  (conv => whnf)
  refine ⟨CutI x ts, ⟨x.length, 0, none, ts, [], rfl, rfl, hc, rfl, Nat.zero_le _, rfl⟩, ?_⟩
  rintro k _ _ ⟨i, e, us, done, rfl, rfl, hcut, hts, hi, rfl⟩
  have hd : done.length ≤ lim := by rw [← hts, List.length_append] at ht; omega
  (conv => whnf)
  refine ⟨by omega, ?_⟩
  (conv => whnf)
  by_cases hlt : i < x.length
  · rw [ifb_pos (lt_true hlt)]
    -- where the turn ends
    have step : ∀ (j : Nat) (c : Nat) (r : List Nat) (us' : List (List Nat)), x.drop i = c :: r → i < j → j ≤ x.length → Cut (x.drop j) us' → us = (if c = 32 ∨ c = 10 then us' else ((x.take j).drop i) :: us') →
        wpSs (Cal C n) 1 [.ife (.of (.cmp .notIn (.sub (.var 0) (.var 2)) (.str [32, 10]))) [.append (.cut (.var 0) (.var 2) (.var 3))] [], .asg 2 (.var 3)]
          [some (.str x), none, some (.int (i : Int)), some (.int (j : Int))] (some (done.map V.str)) (fun ρ'' o'' => ∃ m, m < x.length - i ∧ CutI x ts m ρ'' o'') Q := fun j c r us' h hij hj hc' hus =>
      cut_tail hx h (Nat.le_of_lt hij) hj hd ⟨x.length - j, by omega, j, _, us', _, rfl, rfl, hc', by
        rw [← hts, hus]
        split <;> simp, hj, rfl⟩
    (conv => whnf)
    refine ⟨by decide, ?_⟩
    (conv => whnf)
    have b0 := ix hi hx
    have hi1 : i < i + 1 := Nat.lt_succ_self i
    generalize hdr : x.drop i = y at hcut
    cases hcut with
    | nil => have := congrArg List.length hdr; simp at this; omega
    | @blank c r ts' hc' hr =>
      obtain ⟨g1, g2, g3⟩ := get_at hdr
      refine ⟨b0, ?_⟩
      rw [g1]
      (conv => whnf)
      refine ifb_f (ne34 (by rcases hc' with rfl | rfl <;> decide)) ?_
      (conv => whnf)
      refine ⟨b0, ?_⟩
      rw [g1]
      (conv => whnf)
      refine ⟨by rcases hc' with rfl | rfl <;> decide, ?_⟩
      (conv => whnf)
      refine ifb_f (by rcases hc' with rfl | rfl <;> decide) ?_
      (conv => whnf)
      refine ⟨ix2 hi hx, ?_⟩
      have hp2 := two_at hdr
      (conv => whnf)
      rw [hp2]
      refine ifb_f (by
        simp only [decide_eq_true_eq]
        rcases hc' with rfl | rfl <;> cases r <;> simp) ?_
      (conv => whnf)
      exact step (i + 1) c r us hdr hi1 g2 (by rw [g3]; exact hr) (by rw [if_pos hc'])
    | @word c w r ts' hc' hw hs hr =>
      have hdr' : x.drop i = c :: (w ++ r) := hdr
      obtain ⟨g1, g2, g3⟩ := get_at hdr'
      have c34 : c ≠ 34 := fun z => by subst z; simp [alnumC] at hc'
      have cb : ¬ (c = 32 ∨ c = 10) := fun z => by rcases z with z | z <;> subst z <;> simp [alnumC] at hc'
      refine ⟨b0, ?_⟩
      rw [g1]
      (conv => whnf)
      refine ifb_f (ne34 c34) ?_
      (conv => whnf)
      refine ⟨b0, ?_⟩
      rw [g1]
      (conv => whnf)
      refine ⟨alnum_lt hc', ?_⟩
      (conv => whnf)
      refine ifb_t hc' ?_
      (conv => whnf)
      obtain ⟨d1, d2, d3⟩ := drop_at2 (a := c :: w) hdr hi
      have hlen : (c :: w).length = w.length + 1 := rfl
      rw [hlen] at d1 d2 d3
      refine ⟨fun k ρ o => ∃ j : Nat, ρ = [some (.str x), none, some (.int (i : Int)), some (.int (j : Int))] ∧ o = some (done.map V.str) ∧ i < j ∧ j ≤ i + (w.length + 1) ∧ k = i + (w.length + 1) - j, ⟨_, i + 1, rfl, rfl, by omega, by omega, rfl⟩, ?_⟩
      rintro k _ _ ⟨j, rfl, rfl, hj1, hj2, rfl⟩
      have fin : j = i + (w.length + 1) → wpSs (Cal C n) 1 [.ife (.of (.cmp .notIn (.sub (.var 0) (.var 2)) (.str [32, 10]))) [.append (.cut (.var 0) (.var 2) (.var 3))] [], .asg 2 (.var 3)]
          [some (.str x), none, some (.int (i : Int)), some (.int (j : Int))] (some (done.map V.str)) (fun ρ'' o'' => ∃ m, m < x.length - i ∧ CutI x ts m ρ'' o'') Q := fun e =>
        step j c (w ++ r) ts' hdr' hj1 (by omega) (by rw [e, d1]; exact hr) (by rw [if_neg cb, e, d2])
      (conv => whnf)
      refine ⟨by omega, ?_⟩
      (conv => whnf)
      by_cases hjl : j < x.length
      · rw [ifb_pos (lt_true hjl)]
        (conv => whnf)
        refine ⟨ix (Nat.le_of_lt hjl) hx, ?_⟩
        have gj : ∀ d, (c :: w ++ r)[j - i]? = some d → x[((j : Nat) : Int).toNat]? = some d := fun d h => by
          have : (x.drop i)[j - i]? = some d := by rw [hdr]; exact h
          rw [List.getElem?_drop] at this
          have e : i + (j - i) = j := by omega
          rw [e] at this
          simpa using this
        by_cases hje : j < i + (w.length + 1)
        · -- a sign of the word
          have hw' : j - i - 1 < w.length := by omega
          have gd' : ∀ (m : Nat) (hm : m < w.length), (c :: w ++ r)[m + 1]? = some w[m] := fun m hm => by
            rw [List.cons_append, List.getElem?_cons_succ, List.getElem?_append_left hm]
            exact List.getElem?_eq_getElem hm
          have gd2 := gd' (j - i - 1) hw'
          rw [show j - i - 1 + 1 = j - i by omega] at gd2
          have gd := gj _ gd2
          have ha := hw _ (List.getElem_mem hw')
          rw [gd]
          (conv => whnf)
          refine ⟨alw_lt ha, ?_⟩
          (conv => whnf)
          have body : wpSs (Cal C n) 1 [S.aug 3 (E.int 1)] [some (.str x), none, some (.int (i : Int)), some (.int (j : Int))] (some (done.map V.str)) (fun ρ'' o'' => ∃ m, m < i + (w.length + 1) - j ∧ ∃ j : Nat, ρ'' = [some (.str x), none, some (.int (i : Int)), some (.int (j : Int))] ∧ o'' = some (done.map V.str) ∧ i < j ∧ j ≤ i + (w.length + 1) ∧ m = i + (w.length + 1) - j) Q := by
            (conv => whnf)
            refine ⟨by decide, ?_⟩
            (conv => whnf)
            exact ⟨_, by omega, j + 1, rfl, rfl, by omega, by omega, rfl⟩
          by_cases hal : alnumC w[j - i - 1] = true
          · rw [ifb_pos hal]
            exact body
          · rw [ifb_neg hal]
            (conv => whnf)
            refine ⟨ix (Nat.le_of_lt hjl) hx, ?_⟩
            rw [gd]
            (conv => whnf)
            have h95 : w[j - i - 1] = 95 := by
              simp only [alw, Bool.or_eq_true, beq_iff_eq] at ha
              exact ha.resolve_left hal
            rw [ifb_pos (by simp [h95])]
            exact body
        · have hjeq : j = i + (w.length + 1) := by omega
          cases r with
          | nil =>
            have := congrArg List.length d1
            simp at this
            omega
          | cons d r' =>
            have hs' := hs d r' rfl
            have gd := gj d (by
              have e : j - i = (c :: w).length := by simp; omega
              rw [e, List.getElem?_append_right (Nat.le_refl _)]
              simp)
            rw [gd]
            (conv => whnf)
            refine ⟨hs'.2, ?_⟩
            (conv => whnf)
            have hna : ¬ alnumC d = true := fun z => by have := hs'.1; simp [alw, z] at this
            have hn95 : d ≠ 95 := fun z => by have := hs'.1; simp [alw, z] at this
            rw [ifb_neg hna]
            (conv => whnf)
            refine ⟨ix (Nat.le_of_lt hjl) hx, ?_⟩
            rw [gd]
            (conv => whnf)
            rw [ifb_neg (by simp; exact hn95)]
            exact fin hjeq
      · rw [ifb_neg (by rw [lt_false hjl]; simp)]
        exact fin (by omega)
    | @pair a b r ts' hp hr =>
      obtain ⟨g1, g2, g3⟩ := get_at hdr
      have ha : (a = 58 ∨ a = 61 ∨ a = 60 ∨ a = 46) ∧ [a, b] ∈ pairs := by
        refine ⟨?_, hp⟩
        simp only [pairs, List.mem_cons, List.cons.injEq, List.not_mem_nil, or_false] at hp
        omega
      have cb : ¬ (a = 32 ∨ a = 10) := by omega
      refine ⟨b0, ?_⟩
      rw [g1]
      (conv => whnf)
      refine ifb_f (ne34 (by rcases ha.1 with rfl | rfl | rfl | rfl <;> decide)) ?_
      (conv => whnf)
      refine ⟨b0, ?_⟩
      rw [g1]
      (conv => whnf)
      refine ⟨by rcases ha.1 with rfl | rfl | rfl | rfl <;> decide, ?_⟩
      (conv => whnf)
      refine ifb_f (by rcases ha.1 with rfl | rfl | rfl | rfl <;> decide) ?_
      (conv => whnf)
      refine ⟨ix2 hi hx, ?_⟩
      have hp2 := two_at hdr
      (conv => whnf)
      rw [hp2]
      refine ifb_t (by simpa [pairs] using hp) ?_
      (conv => whnf)
      refine ⟨by decide, ?_⟩
      (conv => whnf)
      obtain ⟨d1, d2, d3⟩ := drop_at2 (a := [a, b]) (r := r) hdr hi
      exact step (i + 2) a (b :: r) ts' hdr (Nat.lt_add_of_pos_right (by decide)) d3 (by rw [show i + 2 = i + [a, b].length from rfl, d1]; exact hr) (by rw [if_neg cb, show i + 2 = i + [a, b].length from rfl, d2])
    | @quote w r ts' hw hr =>
      obtain ⟨g1, g2, g3⟩ := get_at hdr
      refine ⟨b0, ?_⟩
      rw [g1]
      (conv => whnf)
      refine ⟨by decide, ?_⟩
      (conv => whnf)
      refine ⟨trivial, ?_⟩
      (conv => whnf)
      refine ⟨⟨by omega, by omega⟩, ?_⟩
      intro k hk
      have hdr2 : x.drop i = (34 :: w ++ [34]) ++ r := by rw [hdr]; simp
      have e0 : ((i : Int) + 1).toNat = i + 1 := by omega
      have gx : ∀ m, x[i + 1 + m]? = (w ++ 34 :: r)[m]? := fun m => by
        rw [← g3, List.getElem?_drop]
      have h34 : x[i + 1 + w.length]? = some 34 := by
        rw [gx, List.getElem?_append_right (Nat.le_refl _)]; simp
      have hlt34 := (List.getElem?_eq_some_iff.mp h34).1
      have hno : ∀ m, m < w.length → x[i + 1 + m]? ≠ some 34 := fun m hm z => by
        rw [gx, List.getElem?_append_left hm, List.getElem?_eq_getElem hm] at z
        exact hw _ (List.getElem_mem hm) (by simpa using z)
      have hkj : k = ((i + 1 + w.length : Nat) : Int) := by
        have hk' : Found x 34 ((i : Int) + 1).toNat k := hk
        rw [e0] at hk'
        rcases hk' with ⟨_, h⟩ | ⟨j, rfl, hj1, hj2, hj3⟩
        · exact absurd h34 (h _ (by omega) hlt34)
        · have : j = i + 1 + w.length := by
            rcases Nat.lt_trichotomy j (i + 1 + w.length) with z | z | z
            · have := hno (j - (i + 1)) (by omega)
              rw [show i + 1 + (j - (i + 1)) = j by omega] at this
              exact absurd hj2 this
            · exact z
            · exact absurd h34 (hj3 _ (by omega) z)
          rw [this]
      subst hkj
      (conv => whnf)
      rcases drop_at hdr2 with ⟨d1, d2, d3⟩ | d
      · have el : (34 :: w ++ [34]).length = w.length + 2 := by simp
        rw [el] at d1 d2 d3
        refine step (i + 1 + w.length + 1) 34 (w ++ 34 :: r) ts' hdr (by omega) (by omega) ?_ ?_
        · rw [show i + 1 + w.length + 1 = i + (w.length + 2) by omega, d1]; exact hr
        · rw [if_neg (by decide), show i + 1 + w.length + 1 = i + (w.length + 2) by omega, d2]
      · omega
    | @one c r ts' hc' hp hr =>
      obtain ⟨g1, g2, g3⟩ := get_at hdr
      obtain ⟨c1, c2, c3, c4, c5⟩ := hc'
      have cb : ¬ (c = 32 ∨ c = 10) := by omega
      refine ⟨b0, ?_⟩
      rw [g1]
      (conv => whnf)
      refine ifb_f (ne34 c3) ?_
      (conv => whnf)
      refine ⟨b0, ?_⟩
      rw [g1]
      (conv => whnf)
      refine ⟨c1, ?_⟩
      (conv => whnf)
      refine ifb_f (by rw [c2]; simp) ?_
      (conv => whnf)
      refine ⟨ix2 hi hx, ?_⟩
      have hp2 := two_at hdr
      (conv => whnf)
      rw [hp2]
      refine ifb_f (by simpa [pairs] using hp) ?_
      (conv => whnf)
      obtain ⟨d1, d2, d3⟩ := drop_at2 (a := [c]) (r := r) hdr hi
      exact step (i + 1) c r ts' hdr hi1 d3 (by rw [g3]; exact hr) (by rw [if_neg cb, show i + 1 = i + [c].length from rfl, d2])
  · rw [ifb_neg (by rw [lt_false hlt]; simp)]
    (conv => whnf)
    have : x.drop i = [] := List.drop_eq_nil_iff.mpr (Nat.le_of_not_lt hlt)
    rw [this] at hcut
    cases hcut
    rw [List.append_nil] at hts
    rw [← hts] at q
    exact q
end

/-! pieces of a text -/
noncomputable def Td (c : Bool) (a : List Nat) (ts : List (List Nat)) : Prop := ∀ r us, (c = false → Stop r) → Cut r us → Cut (a ++ r) (ts ++ us)
noncomputable def Stp (b : List Nat) : Prop := ∃ c b', b = c :: b' ∧ alw c = false ∧ c < 128
theorem Stp.stop {b r : List Nat} (h : Stp b) : Stop (b ++ r) := by
  obtain ⟨c, b', rfl, h1, h2⟩ := h
  intro d r' e
  simp only [List.cons_append, List.cons.injEq] at e
  rw [← e.1]; exact ⟨h1, h2⟩
theorem Stp.app {b r : List Nat} (h : Stp b) : Stp (b ++ r) := by
  obtain ⟨c, b', rfl, h1, h2⟩ := h
  exact ⟨c, b' ++ r, rfl, h1, h2⟩
theorem Td.weak {c : Bool} {a : List Nat} {ts : List (List Nat)} (h : Td c a ts) : Td false a ts := fun r us s k => h r us (fun _ => s rfl) k
theorem Td.app {c c' : Bool} {a b : List Nat} {ts us : List (List Nat)} (h : Td c a ts) (k : Td c' b us) (s : c = true ∨ Stp b) : Td c' (a ++ b) (ts ++ us) := fun r ws st hc => by
  rw [List.append_assoc, List.append_assoc]
  refine h _ _ (fun z => ?_) (k r ws st hc)
  rcases s with s | s
  · rw [z] at s; cases s
  · exact s.stop
theorem Td.cast {c : Bool} {a a' : List Nat} {ts ts' : List (List Nat)} (h : Td c a ts) (e1 : a = a') (e2 : ts = ts') : Td c a' ts' := by rw [← e1, ← e2]; exact h
theorem Td.nil : Td true [] [] := fun r us _ h => h
theorem Td.whole {c : Bool} {a : List Nat} {ts : List (List Nat)} (h : Td c a ts) : Cut a ts := by
  have := h [] [] (fun _ => fun c r e => by cases e) .nil
  simpa using this

noncomputable def litGo : Nat → List Nat → Option (List (List Nat) × Bool)
  | 0, _ => none
  | _ + 1, [] => some ([], true)
  | n + 1, c :: r =>
    if c = 32 ∨ c = 10 then litGo n r
    else if alnumC c = true then
      match r.dropWhile alw with
      | [] => some ([c :: r.takeWhile alw], false)
      | d :: r' => if d < 128 then (match litGo n (d :: r') with
          | some (ts, b) => some ((c :: r.takeWhile alw) :: ts, b)
          | none => none) else none
    else if c = 34 then none
    else match r with
      | [] => if c < 128 ∧ c ≠ 58 ∧ c ≠ 61 ∧ c ≠ 60 ∧ c ≠ 46 then some ([[c]], true) else none
      | b :: r' => if [c, b] ∈ pairs then (match litGo n r' with
            | some (ts, q) => some ([c, b] :: ts, q)
            | none => none)
          else if c < 128 then (match litGo n (b :: r') with
            | some (ts, q) => some ([c] :: ts, q)
            | none => none) else none

theorem takeWhile_alw (r : List Nat) : ∀ x ∈ r.takeWhile alw, alw x = true := by
  induction r with
  | nil => simp
  | cons a r ih =>
    intro x hx
    rw [List.takeWhile_cons] at hx
    by_cases h : alw a = true
    · rw [if_pos h] at hx
      rcases List.mem_cons.mp hx with rfl | hx
      · exact h
      · exact ih x hx
    · rw [if_neg h] at hx; simp at hx
theorem dropWhile_head (r : List Nat) {d : Nat} {r' : List Nat} (h : r.dropWhile alw = d :: r') : alw d = false := by
  induction r with
  | nil => simp at h
  | cons a r ih =>
    rw [List.dropWhile_cons] at h
    by_cases ha : alw a = true
    · rw [if_pos ha] at h; exact ih h
    · rw [if_neg ha] at h
      cases h
      simpa using ha

theorem litGo_ok : ∀ (n : Nat) (a : List Nat) (ts : List (List Nat)) (b : Bool), litGo n a = some (ts, b) → Td b a ts
  | 0, _, _, _, h => by simp [litGo] at h
  | n + 1, [], ts, b, h => by
    simp only [litGo, Option.some.injEq, Prod.mk.injEq] at h
    obtain ⟨rfl, rfl⟩ := h
    exact Td.nil
  | n + 1, c :: r, ts, b, h => by
    unfold litGo at h
    split at h
    · rename_i hb
      intro r' us s k
      exact .blank hb (litGo_ok n r ts b h r' us s k)
    · rename_i hb
      split at h
      · rename_i ha
        have e : r = r.takeWhile alw ++ r.dropWhile alw := List.takeWhile_append_dropWhile.symm
        split at h
        · rename_i hd
          simp only [Option.some.injEq, Prod.mk.injEq] at h
          obtain ⟨rfl, rfl⟩ := h
          intro r' us s k
          rw [hd, List.append_nil] at e
          have e2 : c :: r ++ r' = c :: r.takeWhile alw ++ r' := by rw [← e]
          rw [e2]
          exact .word ha (takeWhile_alw r) (s rfl) k
        · rename_i d r'' hd
          split at h
          · rename_i hd128
            split at h
            · rename_i ts' b' hl
              simp only [Option.some.injEq, Prod.mk.injEq] at h
              obtain ⟨rfl, rfl⟩ := h
              intro r' us s k
              rw [hd] at e
              have e2 : c :: r ++ r' = c :: r.takeWhile alw ++ (d :: r'' ++ r') := by
                have e3 : r.takeWhile alw ++ (d :: r'' ++ r') = (r.takeWhile alw ++ d :: r'') ++ r' := by simp
                rw [List.cons_append, List.cons_append, e3, ← e]
              rw [e2]
              refine .word ha (takeWhile_alw r) ?_ (litGo_ok n _ _ _ hl r' us s k)
              intro x y z
              cases z
              exact ⟨dropWhile_head r hd, hd128⟩
            · cases h
          · cases h
      · rename_i ha
        split at h
        · cases h
        · rename_i h34
          split at h
          · split at h
            · rename_i hc
              simp only [Option.some.injEq, Prod.mk.injEq] at h
              obtain ⟨rfl, rfl⟩ := h
              intro r' us s k
              refine .one ⟨hc.1, by simpa using ha, h34, by omega, by omega⟩ ?_ k
              intro z
              cases r' with
              | nil => simp [pairs] at z
              | cons y ys =>
                simp only [List.nil_append, List.take_succ_cons, List.take_zero, pairs, List.mem_cons, List.cons.injEq, List.not_mem_nil, or_false] at z
                omega
            · cases h
          · rename_i b' r''
            split at h
            · rename_i hp
              split at h
              · rename_i ts' q hl
                simp only [Option.some.injEq, Prod.mk.injEq] at h
                obtain ⟨rfl, rfl⟩ := h
                intro r' us s k
                exact .pair hp (litGo_ok n _ _ _ hl r' us s k)
              · cases h
            · rename_i hp
              split at h
              · rename_i hc
                split at h
                · rename_i ts' q hl
                  simp only [Option.some.injEq, Prod.mk.injEq] at h
                  obtain ⟨rfl, rfl⟩ := h
                  intro r' us s k
                  exact .one ⟨hc, by simpa using ha, h34, by omega, by omega⟩ (by simpa using hp) (litGo_ok n _ _ _ hl r' us s k)
                · cases h
              · cases h

/-- a good token -/
noncomputable def GT (t : List Nat) : Prop := Td false t [t] ∧ t.length ≤ 12 ∧ t ≠ []
theorem gt_lit {t : List Nat} (h : (litGo 20 t == some ([t], true) || litGo 20 t == some ([t], false)) && decide (t.length ≤ 12) && !t.isEmpty = true) : GT t := by
  simp only [Bool.and_eq_true, Bool.or_eq_true, beq_iff_eq, decide_eq_true_eq, Bool.not_eq_true', List.isEmpty_eq_false_iff] at h
  obtain ⟨⟨h1, h2⟩, h3⟩ := h
  refine ⟨?_, h2, by simpa using h3⟩
  rcases h1 with h1 | h1
  · exact (litGo_ok _ _ _ _ h1).weak
  · exact litGo_ok _ _ _ _ h1
theorem gt_plus : GT [34, 43, 34] := by
  refine ⟨fun r us s k => ?_, by decide, by decide⟩
  exact .quote (w := [43]) (by simp) k

theorem joined_td : ∀ {ts : List (List Nat)}, ts ≠ [] → (∀ t ∈ ts, GT t) → Td false (joined [32] ts) ts
  | [], h, _ => absurd rfl h
  | [t], _, h => (h t List.mem_cons_self).1
  | t :: u :: r, _, h => by
    have h1 := (h t List.mem_cons_self).1
    have h2 := joined_td (ts := u :: r) (by simp) fun x hx => h x (List.mem_cons_of_mem _ hx)
    have h3 : Td true [32] [] := litGo_ok 5 _ _ _ rfl
    exact ((h1.app h3 (.inr ⟨32, [], rfl, rfl, by decide⟩)).app h2 (.inl rfl)).cast (by simp [joined]) (by simp)
theorem joined_len {sep : List Nat} {k : Nat} : ∀ {ts : List (List Nat)}, (∀ t ∈ ts, t.length ≤ k) → (joined sep ts).length ≤ ts.length * (k + sep.length)
  | [], _ => by simp [joined]
  | [t], h => by
    have := h t List.mem_cons_self
    simp only [joined, List.length_cons, List.length_nil, Nat.zero_add, Nat.one_mul]
    omega
  | t :: u :: r, h => by
    have h1 := h t List.mem_cons_self
    have h2 := joined_len (sep := sep) (ts := u :: r) fun x hx => h x (List.mem_cons_of_mem _ hx)
    simp only [joined, List.length_append, List.length_cons] at h2 ⊢
    have e : (r.length + 1 + 1) * (k + sep.length) = (r.length + 1) * (k + sep.length) + (k + sep.length) := by
      rw [Nat.add_mul (r.length + 1) 1]; simp
    omega

theorem strsOf_map : ∀ ts : List (List Nat), strsOf (ts.map V.str) = some ts
  | [] => rfl
  | t :: ts => by simp [strsOf, strsOf_map ts]

theorem digits_ok : ∀ k < 50, (litGo 20 (digits (k : Nat)) == some ([digits (k : Nat)], false)) && decide ((digits (k : Nat)).length ≤ 12) && !(digits (k : Nat)).isEmpty = true := by decide +kernel

/-- what the contracts stand on -/
structure Lib (C : Cx) : Prop where
  O : C.Ok
  lim : C.h₀.NoLimit
  at' : ∀ (f : Nat) (fr : Fun), funs[f]? = some fr → fr.body ≠ [] → DefAt C f fr
  draw : ∀ (n : Nat) (m : Int) (Q : V → Prop), 0 < m → (∀ k : Int, 0 ≤ k → k < m → Q (.int k)) → Cal C (n + 1) 45 [.deck, .int m] Q

noncomputable abbrev Ret (C : Cx) (n f : Nat) (args : List V) (r : V) : Prop := Cal C n f args fun v => v = r
noncomputable abbrev tv (ts : List (List Nat)) : V := .lst (ts.map .str)

section
variable {C : Cx} {n m f : Nat} {args : List V} {Q : V → Prop}
theorem Cal.ret {r : V} (h : Ret C n f args r) (hm : n ≤ m) (q : Q r) : Cal C m f args Q := h.mono hm fun v e => by rw [e]; exact q
theorem Cal.up {Q' : V → Prop} (h : Cal C n f args Q') (hm : n ≤ m) (q : ∀ v, Q' v → Q v) : Cal C m f args Q := h.mono hm q

theorem Lib.enter (L : Lib C) {fr : Fun} (h : funs[f]? = some fr) (hb : fr.body ≠ []) (hl : args.length = fr.params.length) (ha : fr.params.length ≤ fr.acc)
    (q : lay (args.map some ++ List.replicate (fr.names.length - args.length) none) fun ρ => wpSs (Cal C n) fr.acc fr.body ρ none (fun _ _ => Q .none) Q) : Cal C (n + 1) f args Q :=
  ⟨call_rule L.O L.lim (L.at' f fr h hb) hl ha (by rw [lay_eq, Cal.eq] at q; exact q)⟩
noncomputable def below : Nat → Int → (Int → Prop) → Prop
  | 0, _, _ => True
  | n + 1, i, P => P i ∧ below n (i + 1) P
theorem below_all : ∀ (n : Nat) (i : Int) (P : Int → Prop), below n i P → ∀ k, i ≤ k → k < i + n → P k
  | 0, i, P, _, k, h, g => absurd (Int.lt_of_lt_of_le g (by rw [Int.ofNat_zero, Int.add_zero]; exact h)) (Int.lt_irrefl _)
  | n + 1, i, P, q, k, h, g => by
    by_cases e : i = k
    · exact e ▸ q.1
    · exact below_all n (i + 1) P q.2 k (Int.add_one_le_of_lt (Int.lt_iff_le_and_ne.mpr ⟨h, e⟩)) (by rw [Int.add_assoc, Int.add_comm 1]; exact g)
theorem Lib.draw2 (L : Lib C) (q : Q (.int 0) ∧ Q (.int 1)) : Cal C (n + 1) 45 [.deck, .int 2] Q := L.draw n 2 Q (by decide) (below_all 2 0 (fun k => Q (.int k)) ⟨q.1, q.2, trivial⟩)
theorem Lib.draw3 (L : Lib C) (q : Q (.int 0) ∧ Q (.int 1) ∧ Q (.int 2)) : Cal C (n + 1) 45 [.deck, .int 3] Q := L.draw n 3 Q (by decide) (below_all 3 0 (fun k => Q (.int k)) ⟨q.1, q.2.1, q.2.2, trivial⟩)
theorem Lib.draw4 (L : Lib C) (q : Q (.int 0) ∧ Q (.int 1) ∧ Q (.int 2) ∧ Q (.int 3)) : Cal C (n + 1) 45 [.deck, .int 4] Q := L.draw n 4 Q (by decide) (below_all 4 0 (fun k => Q (.int k)) ⟨q.1, q.2.1, q.2.2.1, q.2.2.2, trivial⟩)
theorem Lib.draw5 (L : Lib C) (q : Q (.int 0) ∧ Q (.int 1) ∧ Q (.int 2) ∧ Q (.int 3) ∧ Q (.int 4)) : Cal C (n + 1) 45 [.deck, .int 5] Q := L.draw n 5 Q (by decide) (below_all 5 0 (fun k => Q (.int k)) ⟨q.1, q.2.1, q.2.2.1, q.2.2.2.1, q.2.2.2.2, trivial⟩)
theorem Lib.draw6 (L : Lib C) (q : Q (.int 0) ∧ Q (.int 1) ∧ Q (.int 2) ∧ Q (.int 3) ∧ Q (.int 4) ∧ Q (.int 5)) : Cal C (n + 1) 45 [.deck, .int 6] Q := L.draw n 6 Q (by decide) (below_all 6 0 (fun k => Q (.int k)) ⟨q.1, q.2.1, q.2.2.1, q.2.2.2.1, q.2.2.2.2.1, q.2.2.2.2.2, trivial⟩)
end


theorem gt_dig {t : List Nat} (h : (litGo 20 t == some ([t], false)) && decide (t.length ≤ 12) && !t.isEmpty = true) : GT t := gt_lit (by
  simp only [Bool.and_eq_true] at h ⊢
  exact ⟨⟨by rw [h.1.1]; simp, h.1.2⟩, h.2⟩)

theorem joined_app {sep : List Nat} : ∀ {a b : List (List Nat)}, a ≠ [] → b ≠ [] → joined sep (a ++ b) = joined sep a ++ sep ++ joined sep b
  | [], _, h, _ => absurd rfl h
  | [x], [], _, h => absurd rfl h
  | [x], y :: b, _, _ => rfl
  | x :: y :: a, b, _, h => by
    have := joined_app (sep := sep) (a := y :: a) (b := b) (by simp) h
    simp only [List.cons_append] at this ⊢
    simp only [joined]
    rw [this]
    simp [List.append_assoc]
theorem lit_ok {a : List Nat} {ts : List (List Nat)} {b : Bool} (h : litGo 60 a = some (ts, b)) : Td b a ts := litGo_ok _ _ _ _ h
/-- the tokens of a written piece, laid out -/
noncomputable def nfB {α : Type} (b : Bool) (k : Bool → α) : α := match b with
  | true => k true
  | false => k false
noncomputable def nfL {α : Type} : List Nat → (List Nat → α) → α
  | [], k => k []
  | c :: r, k => nfL r fun r' => k (c :: r')
noncomputable def nfT {α : Type} : List (List Nat) → (List (List Nat) → α) → α
  | [], k => k []
  | t :: r, k => nfL t fun t' => nfT r fun r' => k (t' :: r')
theorem nfL_eq {α : Type} : ∀ (a : List Nat) (k : List Nat → α), nfL a k = k a
  | [], _ => rfl
  | c :: r, k => nfL_eq r _
theorem nfT_eq {α : Type} : ∀ (a : List (List Nat)) (k : List (List Nat) → α), nfT a k = k a
  | [], _ => rfl
  | t :: r, k => by rw [nfT, nfL_eq, nfT_eq r]
noncomputable def litF (a : List Nat) : Option (List (List Nat) × Bool) := match litGo 60 a with
  | some (ts, b) => nfB b fun b' => nfT ts fun ts' => some (ts', b')
  | none => none
theorem lit_ok2 {a : List Nat} {ts : List (List Nat)} {b : Bool} (h : litF a = some (ts, b)) : Td b a ts := lit_ok (by
  unfold litF at h
  split at h
  · rename_i ts' b' e
    rw [e, ← h]
    cases b' <;> simp only [nfB, nfT_eq]
  · cases h)


/-- an expression that is shown by its own tokens -/
noncomputable def IsE (C : Cx) (k : Nat) (v : V) : Prop := ∃ xs t r, v = .tup xs ∧ Ret C k 60 [.tup xs] (tv (t :: r)) ∧ Td false (joined [32] (t :: r)) (t :: r) ∧ (∀ x ∈ t :: r, x.length ≤ 12) ∧ r.length ≤ 4 * k
theorem IsE.up {C : Cx} {k m : Nat} {v : V} (h : IsE C k v) (hm : k ≤ m) : IsE C m v := by
  obtain ⟨xs, t, r, e, q, g1, g2, g3⟩ := h
  exact ⟨xs, t, r, e, q.ret hm rfl, g1, g2, Nat.le_trans g3 (Nat.mul_le_mul_left 4 hm)⟩

section
variable {C : Cx} (L : Lib C)
include L

theorem e_name {t : List Nat} (h : GT t) : IsE C 1 (.tup [.str [110, 97, 109, 101], .str t]) := by
  refine ⟨_, t, [], rfl, ?_, h.1, by simpa using h.2.1, by simp⟩
  ((refine Lib.enter (by assumption) rfl (fun h => nomatch h) rfl (by decide) ?_); k_extra "go")
  all_goals rfl
theorem e_int {k : Int} (h0 : 0 ≤ k) (h1 : k < 50) : IsE C 1 (.tup [.str [105, 110, 116], .int k]) := by
  have hg : GT (digits k) := by
    obtain ⟨m, rfl⟩ := Int.eq_ofNat_of_zero_le h0
    exact gt_dig (digits_ok m (by omega))
  refine ⟨_, digits k, [], rfl, ?_, hg.1, by simpa using hg.2.1, by simp⟩
  ((refine Lib.enter (by assumption) rfl (fun h => nomatch h) rfl (by decide) ?_); k_extra "go")
  all_goals rfl
/-- an expression is drawn -/
theorem c_expr : Cal C 2 46 [.deck] (IsE C 1) := by
  ((refine Lib.enter (by assumption) rfl (fun h => nomatch h) rfl (by decide) ?_); k_extra "go")
  refine L.draw2 ⟨?_, ?_⟩
  · k_extra "go"
    refine L.draw2 ⟨?_, ?_⟩
    · k_extra "go"
      exact e_name L (gt_lit (Eq.refl true))
    · k_extra "go"
      exact e_name L (gt_lit (Eq.refl true))
  · k_extra "go"
    refine L.draw 0 50 _ (by decide) fun k h0 h1 => ?_
    k_extra "go"
    exact e_int L h0 h1

/-- 1 .. an expression -/
theorem e_range1 {w : V} (h : IsE C 1 w) : IsE C 2 (.tup [.str [114, 97, 110, 103, 101], .tup [.str [105, 110, 116], .int 1], w]) := by
  obtain ⟨xs, t, r, rfl, q, g1, g2, g3⟩ := h
  have one : Td false [49] [[49]] := lit_ok rfl
  refine ⟨_, [49], [46, 46] :: t :: r, rfl, ?_, ?_, ?_, ?_⟩
  · ((refine Lib.enter (by assumption) rfl (fun h => nomatch h) rfl (by decide) ?_); k_extra "go")
    ((refine Lib.enter (by assumption) rfl (fun h => nomatch h) rfl (by decide) ?_); k_extra "go")
    refine q.ret (by k_extra "le") ?_
    k_extra "go"
    all_goals rfl
  · refine ((((one.app (lit_ok (a := [32, 46, 46, 32]) rfl) (.inr ⟨32, _, rfl, rfl, by decide⟩)).app g1 (.inl rfl))).cast ?_ ?_) <;> simp [joined]
  · intro x hx
    simp only [List.mem_cons] at hx
    rcases hx with rfl | rfl | rfl | hx
    · decide
    · decide
    · exact g2 _ List.mem_cons_self
    · exact g2 _ (List.mem_cons_of_mem _ hx)
  · simp only [List.length_cons]; omega
end

noncomputable def LK : List (List Nat) := [[111, 98, 106, 101, 99, 116], [110, 117, 109, 98, 101, 114], [116, 121, 112, 101, 100, 101, 99, 108], [102, 116, 121, 112, 101], [115, 117, 98, 116, 121, 112, 101], [115, 117, 98, 112, 114, 111, 103], [97, 98, 115, 116, 114, 97, 99, 116], [115, 117, 98, 98, 111, 100, 121], [112, 97, 99, 107, 97, 103, 101], [112, 97, 99, 107, 98, 111, 100, 121], [116, 97, 115, 107, 98, 111, 100, 121], [114, 101, 110, 97, 109, 101], [101, 120, 99, 101, 112, 116, 105, 111, 110], [103, 101, 110, 101, 114, 105, 99], [102, 111, 98, 106, 101, 99, 116], [102, 115, 117, 98], [102, 112, 97, 99, 107], [105, 110, 115, 116, 97, 110, 99, 101], [119, 105, 116, 104], [117, 115, 101], [117, 115, 101, 116, 121, 112, 101], [112, 114, 97, 103, 109, 97], [116, 97, 115, 107], [112, 114, 111, 116, 101, 99, 116, 101, 100], [112, 114, 111, 116, 98, 111, 100, 121], [101, 110, 116, 114, 121], [99, 111, 109, 112, 111, 110, 101, 110, 116], [101, 110, 116, 114, 121, 98, 111, 100, 121], [117, 110, 105, 116], [115, 104, 111, 119], [97, 115, 115, 111, 99, 115], [110, 117, 108, 108]]
noncomputable def LV : List V := [.fn 18, .fn 19, .fn 20, .fn 20, .fn 21, .fn 22, .fn 22, .fn 23, .fn 24, .fn 25, .fn 25, .fn 26, .fn 27, .fn 28, .fn 29, .fn 30, .fn 32, .fn 33, .fn 34, .fn 34, .fn 34, .fn 35, .fn 37, .fn 38, .fn 39, .fn 40, .fn 41, .fn 42, .fn 43, .fn 75, .fn 76, .fn 77]
/-- the listers -/
noncomputable def LD : V := .dict LK LV

/-- a blank ahead -/
theorem sp {c : Bool} {b : List Nat} : c = true ∨ Stp (32 :: b) := .inr ⟨32, b, rfl, rfl, by decide⟩
theorem cl {b : List Nat} : true = true ∨ Stp b := .inl rfl

section
variable {C : Cx} (L : Lib C)

noncomputable def SmallT (ts : List (List Nat)) : Prop := ∀ x ∈ ts, x.length ≤ 12
theorem SmallT.app {a b : List (List Nat)} (h : SmallT a) (k : SmallT b) : SmallT (a ++ b) := fun x hx => (List.mem_append.mp hx).elim (h x) (k x)
theorem SmallT.cons {a : List Nat} {b : List (List Nat)} (h : a.length ≤ 12) (k : SmallT b) : SmallT (a :: b) := fun x hx => (List.mem_cons.mp hx).elim (fun z => z ▸ h) (k x)
theorem SmallT.nil : SmallT [] := fun x hx => by simp at hx
theorem SmallT.join {ts : List (List Nat)} (h : SmallT ts) : (joined [32] ts).length ≤ ts.length * 13 := joined_len h

include L
theorem c_show {k : Nat} {v : V} {t : List Nat} {r : List (List Nat)} (q : Ret C k 60 [v] (tv (t :: r))) (hs : SmallT (t :: r)) (hr : r.length ≤ 1000) : Ret C (k + 1) 75 [v] (.str (joined [32] (t :: r))) := by
  ((refine Lib.enter (by assumption) rfl (fun h => nomatch h) rfl (by decide) ?_); k_extra "go")
  refine q.ret (by k_extra "le") ?_
  k_extra "go"
  have := hs.join
  (conv => whnf)
  simp only [strsOf_map]
  simp only [List.length_cons] at this
  exact ⟨by omega, trivial⟩
theorem c_shows {k : Nat} {v : V} {t : List Nat} {r : List (List Nat)} (q : Ret C k 61 [v] (tv (t :: r))) (hs : SmallT (t :: r)) (hr : r.length ≤ 1000) : Ret C (k + 1) 76 [v] (.str (joined [32] (t :: r))) := by
  ((refine Lib.enter (by assumption) rfl (fun h => nomatch h) rfl (by decide) ?_); k_extra "go")
  refine q.ret (by k_extra "le") ?_
  k_extra "go"
  have := hs.join
  (conv => whnf)
  simp only [strsOf_map]
  simp only [List.length_cons] at this
  exact ⟨by omega, trivial⟩

/-- a type mark with what stands behind it -/
noncomputable def IsK (C : Cx) (v : V) : Prop := ∃ xs t r a, v = .tup (.str [115, 117, 98] :: xs) ∧ Ret C 6 60 [v] (tv (t :: r)) ∧ Ret C 8 0 [LD, v] (.str a) ∧ Td false a (t :: r) ∧ a.length ≤ 400 ∧ r.length ≤ 30

/-- actuals -/
noncomputable def IsP (C : Cx) (v : V) : Prop := ∃ p ps t r, v = .lst (p :: ps) ∧ Ret C 4 61 [v] (tv (t :: r)) ∧ Td false (joined [32] (t :: r)) (t :: r) ∧ SmallT (t :: r) ∧ r.length ≤ 20

theorem p_two {e e' : V} {nm : List Nat} (h : IsE C 1 e) (h' : IsE C 1 e') (g : GT nm) : IsP C (.lst [.tup [.none, e], .tup [.lst [.tup [.str [110, 97, 109, 101], .str nm]], e']]) := by
  obtain ⟨xs, t, r, rfl, q, g1, g2, g3⟩ := h
  obtain ⟨xs', t', r', rfl, q', g1', g2', g3'⟩ := h'
  refine ⟨_, _, t, r ++ [44] :: nm :: [61, 62] :: t' :: r', rfl, ?_, ?_, ?_, ?_⟩
  · ((refine Lib.enter (by assumption) rfl (fun h => nomatch h) rfl (by decide) ?_); k_extra "go")
    refine q.ret (by k_extra "le") ?_
    k_extra "go"
    obtain ⟨_, _, _, e, qn, _⟩ := e_name L g
    ((refine Lib.enter (by assumption) rfl (fun h => nomatch h) rfl (by decide) ?_); k_extra "go")
    refine q'.ret (by k_extra "le") ?_
    k_extra "go"
    show _ = _
    simp
  · have e : t :: (r ++ [44] :: nm :: [61, 62] :: t' :: r') = (t :: r) ++ ([44] :: nm :: [61, 62] :: t' :: r') := rfl
    refine ((((g1.app ((lit_ok2 (a := [32, 44, 32]) rfl)) sp).app g.1 cl).app ((lit_ok2 (a := [32, 61, 62, 32]) rfl)) sp).app g1' cl).cast ?_ ?_
    · rw [e, joined_app (by simp) (by simp)]; simp [joined]
    · simp
  · refine SmallT.cons (g2 _ List.mem_cons_self) (SmallT.app (fun x hx => g2 x (List.mem_cons_of_mem _ hx)) (SmallT.cons (by decide) (SmallT.cons g.2.1 (SmallT.cons (by decide) g2'))))
  · simp only [List.length_append, List.length_cons]; omega

theorem p_one {e : V} (h : IsE C 1 e) : IsP C (.lst [.tup [.none, e]]) := by
  obtain ⟨xs, t, r, rfl, q, g1, g2, g3⟩ := h
  refine ⟨_, _, t, r, rfl, ?_, g1, g2, by omega⟩
  ((refine Lib.enter (by assumption) rfl (fun h => nomatch h) rfl (by decide) ?_); k_extra "go")
  refine q.ret (by k_extra "le") ?_
  k_extra "go"
  all_goals rfl
theorem p_key : IsP C (.lst [.tup [.lst [.tup [.str [110, 97, 109, 101], .str [107, 101, 121]]], .tup [.str [110, 97, 109, 101], .str [100, 97, 121]]]]) := by
  refine ⟨_, _, [107, 101, 121], [[61, 62], [100, 97, 121]], rfl, ?_, lit_ok rfl, by unfold SmallT; decide, by decide⟩
  ((refine Lib.enter (by assumption) rfl (fun h => nomatch h) rfl (by decide) ?_); k_extra "go")
  ((refine Lib.enter (by assumption) rfl (fun h => nomatch h) rfl (by decide) ?_); k_extra "go")
  ((refine Lib.enter (by assumption) rfl (fun h => nomatch h) rfl (by decide) ?_); k_extra "go")
  all_goals rfl

/-- a mark is drawn -/
theorem c_mark : Cal C 2 47 [.deck] (fun v => IsE C 1 v) := by
  ((refine Lib.enter (by assumption) rfl (fun h => nomatch h) rfl (by decide) ?_); k_extra "go")
  refine L.draw2 ⟨?_, ?_⟩
  · k_extra "go"
    exact e_name L (gt_lit (Eq.refl true))
  · k_extra "go"
    exact e_name L (gt_lit (Eq.refl true))

/-- a value, or none -/
noncomputable def IsV (C : Cx) (v : V) : Prop := v = .none ∨ IsE C 1 v
theorem c_value : Cal C 3 49 [.deck] (IsV C) := by
  ((refine Lib.enter (by assumption) rfl (fun h => nomatch h) rfl (by decide) ?_); k_extra "go")
  refine L.draw2 ⟨?_, ?_⟩
  · k_extra "go"
    exact .inl rfl
  · k_extra "go"
    exact (c_expr L).up (by k_extra "le") fun v h => .inr h

theorem k_plain {m : V} (h : IsE C 1 m) : IsK C (.tup [.str [115, 117, 98], m, .none]) := by
  obtain ⟨xs, t, r, rfl, q, g1, g2, g3⟩ := h
  have l1 := (show SmallT (t :: r) from g2).join
  simp only [List.length_cons] at l1
  refine ⟨_, t, r, joined [32] (t :: r), rfl, ?_, ?_, g1, by omega, by omega⟩
  · ((refine Lib.enter (by assumption) rfl (fun h => nomatch h) rfl (by decide) ?_); k_extra "go")
    refine q.ret (by k_extra "le") ?_
    k_extra "go"
    all_goals rfl
  · ((refine Lib.enter (by assumption) rfl (fun h => nomatch h) rfl (by decide) ?_); k_extra "go")
    refine (c_show L q g2 (by omega)).ret (by k_extra "le") ?_
    k_extra "go"
    all_goals rfl
theorem k_range {m e : V} (h : IsE C 1 m) (h' : IsE C 2 e) : IsK C (.tup [.str [115, 117, 98], m, .tup [.str [114, 97, 110, 103, 101], e]]) := by
  obtain ⟨xs, t, r, rfl, q, g1, g2, g3⟩ := h
  obtain ⟨xs', t', r', rfl, q', g1', g2', g3'⟩ := h'
  have l1 := (show SmallT (t :: r) from g2).join
  have l2 := (show SmallT (t' :: r') from g2').join
  simp only [List.length_cons] at l1 l2
  refine ⟨_, t, r ++ [114, 97, 110, 103, 101] :: t' :: r', joined [32] (t :: r) ++ [32, 114, 97, 110, 103, 101, 32] ++ joined [32] (t' :: r'), rfl, ?_, ?_, ?_, ?_, ?_⟩
  · ((refine Lib.enter (by assumption) rfl (fun h => nomatch h) rfl (by decide) ?_); k_extra "go")
    refine q.ret (by k_extra "le") ?_
    k_extra "go"
    refine q'.ret (by k_extra "le") ?_
    k_extra "go"
    show _ = _
    simp
  · ((refine Lib.enter (by assumption) rfl (fun h => nomatch h) rfl (by decide) ?_); k_extra "go")
    refine (c_show L q g2 (by omega)).ret (by k_extra "le") ?_
    k_extra "go"
    refine (c_show L q' g2' (by omega)).ret (by k_extra "le") ?_
    k_extra "go"
    all_goals rfl
  · exact ((g1.app ((lit_ok2 (a := [32, 114, 97, 110, 103, 101, 32]) rfl)) sp).app g1' cl).cast rfl (by (first | rfl | ((first | refine lst_eq ?_ | refine str_eq ?_ | skip); (with_reducible apply fl_eq); (· k_extra "fl"); (· k_extra "fl"); rfl)))
  · simp only [List.length_append, List.length_cons, List.length_nil]; omega
  · simp only [List.length_append, List.length_cons]; omega
theorem k_apply {m e : V} (h : IsE C 1 m) (h' : IsP C e) : IsK C (.tup [.str [115, 117, 98], m, .tup [.str [97, 112, 112, 108, 121], e]]) := by
  obtain ⟨xs, t, r, rfl, q, g1, g2, g3⟩ := h
  obtain ⟨p, ps, t', r', rfl, q', g1', g2', g3'⟩ := h'
  have l1 := (show SmallT (t :: r) from g2).join
  have l2 := (show SmallT (t' :: r') from g2').join
  simp only [List.length_cons] at l1 l2
  refine ⟨_, t, r ++ [40] :: t' :: r' ++ [[41]], joined [32] (t :: r) ++ [40] ++ joined [32] (t' :: r') ++ [41], rfl, ?_, ?_, ?_, ?_, ?_⟩
  · ((refine Lib.enter (by assumption) rfl (fun h => nomatch h) rfl (by decide) ?_); k_extra "go")
    refine q.ret (by k_extra "le") ?_
    k_extra "go"
    refine q'.ret (by k_extra "le") ?_
    k_extra "go"
    show _ = _
    simp
  · ((refine Lib.enter (by assumption) rfl (fun h => nomatch h) rfl (by decide) ?_); k_extra "go")
    refine (c_show L q g2 (by omega)).ret (by k_extra "le") ?_
    k_extra "go"
    refine (c_shows L q' g2' (by omega)).ret (by k_extra "le") ?_
    k_extra "go"
    all_goals rfl
  · refine (((g1.app ((lit_ok2 (a := [40]) rfl)) (.inr ⟨40, _, rfl, rfl, by decide⟩)).app g1' cl).app ((lit_ok2 (a := [41]) rfl)) (.inr ⟨41, _, rfl, rfl, by decide⟩)).weak.cast rfl (by (first | rfl | ((first | refine lst_eq ?_ | refine str_eq ?_ | skip); (with_reducible apply fl_eq); (· k_extra "fl"); (· k_extra "fl"); rfl)))
  · simp only [List.length_append, List.length_cons, List.length_nil]; omega
  · simp only [List.length_append, List.length_cons, List.length_nil]; omega

theorem c_kind : Cal C 4 48 [.deck] (IsK C) := by
  ((refine Lib.enter (by assumption) rfl (fun h => nomatch h) rfl (by decide) ?_); k_extra "go")
  refine (c_mark L).up (by k_extra "le") fun m hm => ?_
  k_extra "go"
  refine L.draw4 ⟨?_, ?_, ?_, ?_⟩
  · k_extra "go"
    exact k_plain L hm
  · k_extra "go"
    refine (c_expr L).up (by k_extra "le") fun e he => ?_
    k_extra "go"
    exact k_range L hm (e_range1 L he)
  · k_extra "go"
    refine (c_expr L).up (by k_extra "le") fun e he => ?_
    k_extra "go"
    refine (c_expr L).up (by k_extra "le") fun e' he' => ?_
    k_extra "go"
    exact k_apply L hm (p_two L he he' (gt_lit (Eq.refl true)))
  · k_extra "go"
    exact k_plain L hm
end

noncomputable def stpB : List Nat → Bool
  | c :: _ => !alw c && decide (c < 128)
  | [] => false
theorem stp_lit {a : List Nat} (h : stpB a = true) : Stp a := by
  cases a with
  | nil => simp [stpB] at h
  | cons c r =>
    simp only [stpB, Bool.and_eq_true, Bool.not_eq_true', decide_eq_true_eq] at h
    exact ⟨c, r, rfl, h.1, h.2⟩
theorem td_app1 {c' : Bool} {a b : List Nat} {ts us : List (List Nat)} (k : Td c' b us) (h : Td true a ts) : Td c' (a ++ b) (ts ++ us) := h.app k (.inl rfl)
theorem td_app2 {c c' : Bool} {a b : List Nat} {ts us : List (List Nat)} (k : Td c' b us) (h : Td c a ts) (s : Stp b) : Td c' (a ++ b) (ts ++ us) := h.app k (.inr s)


/-- what may stand behind a word -/
noncomputable def Tail (a : List Nat) (ts : List (List Nat)) : Prop := ∀ b us, Td false b us → Td false (b ++ a) (us ++ ts)
theorem td_tail {c : Bool} {a b : List Nat} {ts us : List (List Nat)} (k : Tail b us) (h : Td c a ts) : Td false (a ++ b) (ts ++ us) := k _ _ h.weak
theorem td_nilr {c : Bool} {a : List Nat} {ts : List (List Nat)} (h : Td c a ts) : Td c (a ++ []) ts := h.cast (by simp) rfl
theorem td_top {c : Bool} {a : List Nat} {ts : List (List Nat)} (h : Td c a ts) : Td false a ts := h.weak
theorem td_join1 {c : Bool} {sep a : List Nat} {ts : List (List Nat)} (h : Td c a ts) : Td c (joined sep [a]) ts := h
theorem td_join2 {c : Bool} {sep a b : List Nat} {r : List (List Nat)} {ts : List (List Nat)} (h : Td c (a ++ sep ++ joined sep (b :: r)) ts) : Td c (joined sep (a :: b :: r)) ts := h
local macro_rules | `(tactic| k_extra "stp") => `(tactic| first
  | with_reducible (apply Stp.app; k_extra "stp")
  | assumption
  | exact stp_lit rfl)
local macro_rules | `(tactic| k_extra "td") => `(tactic| first
  | with_reducible assumption
  | with_reducible (apply td_nilr; k_extra "td")
  | with_reducible (apply td_tail; assumption; k_extra "td")
  | ((with_reducible apply td_app1) <;> k_extra "td")
  | ((with_reducible apply td_app2); (· k_extra "td"); (· k_extra "td"); k_extra "stp")
  | exact lit_ok2 rfl
  | ((with_reducible apply td_join2); k_extra "td")
  | ((with_reducible apply td_join1); k_extra "td"))

section
variable {C : Cx} (L : Lib C)

/-- names -/
noncomputable def IsN (C : Cx) (v : V) : Prop := ∃ s ss t r a, v = .lst (.str s :: ss) ∧ Ret C 4 62 [v] (tv (t :: r)) ∧ Ret C 4 5 [v] (.str a) ∧ Td false a (t :: r) ∧ a.length ≤ 40 ∧ r.length ≤ 4

include L
theorem n_one {a : List Nat} (h : GT a) : IsN C (.lst [.str a]) := by
  refine ⟨_, _, _, _, _, rfl, ?_, ?_, h.1, ?_, ?_⟩
  · ((refine Lib.enter (by assumption) rfl (fun h => nomatch h) rfl (by decide) ?_); k_extra "go")
    all_goals rfl
  · have := h.2.1
    ((refine Lib.enter (by assumption) rfl (fun h => nomatch h) rfl (by decide) ?_); k_extra "go")
    all_goals (all_goals first | rfl | (show _ = _; (first | rfl | ((first | refine lst_eq ?_ | refine str_eq ?_ | skip); (with_reducible apply fl_eq); (· k_extra "fl"); (· k_extra "fl"); rfl))) | (simp [joined]; done))
  · have := h.2.1; omega
  · simp
theorem n_two {a b : List Nat} (h : GT a) (g : GT b) : IsN C (.lst [.str a, .str b]) := by
  have h2 := h.2.1
  have g2 := g.2.1
  refine ⟨_, _, a, [[44], b], a ++ [44, 32] ++ b, rfl, ?_, ?_, ?_, ?_, ?_⟩
  · ((refine Lib.enter (by assumption) rfl (fun h => nomatch h) rfl (by decide) ?_); k_extra "go")
    all_goals rfl
  · ((refine Lib.enter (by assumption) rfl (fun h => nomatch h) rfl (by decide) ?_); k_extra "go")
    all_goals (all_goals first | rfl | (show _ = _; (first | rfl | ((first | refine lst_eq ?_ | refine str_eq ?_ | skip); (with_reducible apply fl_eq); (· k_extra "fl"); (· k_extra "fl"); rfl))) | (simp [joined]; done))
  · exact ((h.1.app ((lit_ok2 (a := [44, 32]) rfl)) (.inr ⟨44, _, rfl, rfl, by decide⟩)).app g.1 cl).cast rfl (by (first | rfl | ((first | refine lst_eq ?_ | refine str_eq ?_ | skip); (with_reducible apply fl_eq); (· k_extra "fl"); (· k_extra "fl"); rfl)))
  · simp; omega
  · simp
end

noncomputable def loopBody : List S → List S
  | .for' _ _ _ b :: _ => b
  | _ :: r => loopBody r
  | [] => []
theorem tail_nil : Tail [] [] := fun b us h => h.cast (by (first | rfl | ((first | refine lst_eq ?_ | refine str_eq ?_ | skip); (with_reducible apply fl_eq); (· k_extra "fl"); (· k_extra "fl"); rfl))) (by (first | rfl | ((first | refine lst_eq ?_ | refine str_eq ?_ | skip); (with_reducible apply fl_eq); (· k_extra "fl"); (· k_extra "fl"); rfl)))
theorem tail_of {c : Bool} {a : List Nat} {ts : List (List Nat)} (h : Td c a ts) (s : Stp a) : Tail a ts := fun b us k => (k.app h (.inr s)).weak


noncomputable def IsPs (C : Cx) (v : V) : Prop := ∃ a ts, Ret C 5 64 [v] (tv ts) ∧ Ret C 6 6 [LD, v] (.str a) ∧ Tail a ts ∧ a.length ≤ 1000 ∧ ts.length ≤ 90
noncomputable abbrev mIn : List Nat := [105, 110]
noncomputable abbrev mOut : List Nat := [111, 117, 116]
noncomputable abbrev mInout : List Nat := [105, 110, 111, 117, 116]
noncomputable abbrev mAccess : List Nat := [97, 99, 99, 101, 115, 115]
noncomputable def IsPar (C : Cx) (p : V) : Prop := ∃ names mode mark d, p = .tup [names, .str mode, mark, d] ∧ IsN C names ∧ IsE C 1 mark ∧ ((mode = mIn ∧ IsE C 1 d) ∨ ((mode = mIn ∨ mode = mOut ∨ mode = mInout ∨ mode = mAccess) ∧ d = .none))

section
variable {C : Cx} (L : Lib C)
include L
theorem ps_nil : IsPs C (.lst []) := by
  refine ⟨[], [], ?_, ?_, tail_nil, by simp, by simp⟩
  · ((refine Lib.enter (by assumption) rfl (fun h => nomatch h) rfl (by decide) ?_); k_extra "go")
    (all_goals first | rfl | (show _ = _; (first | rfl | ((first | refine lst_eq ?_ | refine str_eq ?_ | skip); (with_reducible apply fl_eq); (· k_extra "fl"); (· k_extra "fl"); rfl))) | (simp [joined]; done))
  · ((refine Lib.enter (by assumption) rfl (fun h => nomatch h) rfl (by decide) ?_); k_extra "go")
    (all_goals first | rfl | (show _ = _; (first | rfl | ((first | refine lst_eq ?_ | refine str_eq ?_ | skip); (with_reducible apply fl_eq); (· k_extra "fl"); (· k_extra "fl"); rfl))) | (simp [joined]; done))
/-- the facts of a shown expression -/
theorem sh {k : Nat} {v : V} {t : List Nat} {r : List (List Nat)} (q : Ret C k 60 [v] (tv (t :: r))) (hs : SmallT (t :: r)) (hr : r.length ≤ 100) : Ret C (k + 1) 75 [v] (.str (joined [32] (t :: r))) ∧ (joined [32] (t :: r)).length ≤ (r.length + 1) * 13 :=
  ⟨c_show L q hs (by omega), by have := hs.join; simpa using this⟩

theorem wv_none : Ret C 2 63 [.none] (tv []) := by
  ((refine Lib.enter (by assumption) rfl (fun h => nomatch h) rfl (by decide) ?_); k_extra "go")
  (all_goals first | rfl | (show _ = _; (first | rfl | ((first | refine lst_eq ?_ | refine str_eq ?_ | skip); (with_reducible apply fl_eq); (· k_extra "fl"); (· k_extra "fl"); rfl))) | (simp [joined]; done))
theorem wv_some {k : Nat} {v : V} {t : List Nat} {r : List (List Nat)} {xs : List V} (e : v = .tup xs) (q : Ret C k 60 [v] (tv (t :: r))) (hr : r.length ≤ 100) : Ret C (k + 1) 63 [v] (tv ([58, 61] :: t :: r)) := by
  subst e
  ((refine Lib.enter (by assumption) rfl (fun h => nomatch h) rfl (by decide) ?_); k_extra "go")
  (all_goals (k_extra "go"; repeat (refine Cal.ret (by assumption) (by k_extra "le") ?_; k_extra "go")))
  (all_goals first | rfl | (show _ = _; (first | rfl | ((first | refine lst_eq ?_ | refine str_eq ?_ | skip); (with_reducible apply fl_eq); (· k_extra "fl"); (· k_extra "fl"); rfl))) | (simp [joined]; done))
theorem bv_none : Ret C 2 7 [LD, .none] (.str []) := by
  ((refine Lib.enter (by assumption) rfl (fun h => nomatch h) rfl (by decide) ?_); k_extra "go")
  (all_goals first | rfl | (show _ = _; (first | rfl | ((first | refine lst_eq ?_ | refine str_eq ?_ | skip); (with_reducible apply fl_eq); (· k_extra "fl"); (· k_extra "fl"); rfl))) | (simp [joined]; done))
theorem bv_some {k : Nat} {v : V} {t : List Nat} {r : List (List Nat)} {xs : List V} (e : v = .tup xs) (q : Ret C k 60 [v] (tv (t :: r))) (hs : SmallT (t :: r)) (hr : r.length ≤ 100) : Ret C (k + 2) 7 [LD, v] (.str ([32, 58, 61, 32] ++ joined [32] (t :: r))) := by
  subst e
  obtain ⟨q2, l2⟩ := sh L q hs hr
  ((refine Lib.enter (by assumption) rfl (fun h => nomatch h) rfl (by decide) ?_); k_extra "go")
  (all_goals (k_extra "go"; repeat (refine Cal.ret (by assumption) (by k_extra "le") ?_; k_extra "go")))
  (all_goals first | rfl | (show _ = _; (first | rfl | ((first | refine lst_eq ?_ | refine str_eq ?_ | skip); (with_reducible apply fl_eq); (· k_extra "fl"); (· k_extra "fl"); rfl))) | (simp [joined]; done))

omit L in
theorem ps_mk {v : V} {a : List Nat} {ts : List (List Nat)} (h1 : Ret C 6 6 [LD, v] (.str a)) (h2 : Td false a ts) (h3 : Ret C 5 64 [v] (tv ts)) (h4 : stpB a = true) (h5 : a.length ≤ 1000 ∧ ts.length ≤ 90) : IsPs C v :=
  ⟨a, ts, h3, h1, tail_of h2 (stp_lit h4), h5.1, h5.2⟩

omit L in
noncomputable def ParTk (C : Cx) (names : V) (mode : List Nat) (mark d : V) (x : List Nat) (us : List (List Nat)) : Prop :=
  (∀ (v : V) (us0 : List V) (x7 : Option V) (N : List (Option V) → Option (List V) → Prop) (R : V → Prop), us0.length ≤ 10 → (∀ y7, N [some LD, some v, none, some names, some (.str mode), some mark, some d, y7] (some (us0 ++ [.str x]))) →
    wpSs (Cal C 5) 2 (loopBody b6) [some LD, some v, none, some names, some (.str mode), some mark, some d, x7] (some us0) N R) ∧
  (∀ (v : V) (row : List V) (sg : List Nat) (x6 : Option V) (N : List (Option V) → Option (List V) → Prop) (R : V → Prop), (row = [] ∧ sg = [40] ∨ row ≠ [] ∧ sg = [59]) → row.length ≤ 1000 →
    (∀ y6, N [some v, some (.lst (row ++ .str sg :: us.map .str)), some names, some (.str mode), some mark, some d, y6] none) →
    wpSs (Cal C 4) 99 (loopBody b64) [some v, some (.lst row), some names, some (.str mode), some mark, some d, x6] none N R) ∧
  Td false x us ∧ x.length ≤ 250 ∧ us.length ≤ 25
omit L in
theorem par_mk {names : V} {mode : List Nat} {mark d : V} {x : List Nat} {us : List (List Nat)}
    (h1 : ∀ (v : V) (us0 : List V) (x7 : Option V) (N : List (Option V) → Option (List V) → Prop) (R : V → Prop), us0.length ≤ 10 → (∀ y7, N [some LD, some v, none, some names, some (.str mode), some mark, some d, y7] (some (us0 ++ [.str x]))) →
      wpSs (Cal C 5) 2 (loopBody b6) [some LD, some v, none, some names, some (.str mode), some mark, some d, x7] (some us0) N R)
    (h3 : Td false x us)
    (h2 : ∀ (v : V) (row : List V) (sg : List Nat) (x6 : Option V) (N : List (Option V) → Option (List V) → Prop) (R : V → Prop), (row = [] ∧ sg = [40] ∨ row ≠ [] ∧ sg = [59]) → row.length ≤ 1000 →
      (∀ y6, N [some v, some (.lst (row ++ .str sg :: us.map .str)), some names, some (.str mode), some mark, some d, y6] none) →
      wpSs (Cal C 4) 99 (loopBody b64) [some v, some (.lst row), some names, some (.str mode), some mark, some d, x6] none N R)
    (h4 : x.length ≤ 250 ∧ us.length ≤ 25) : ∃ x us, ParTk C names mode mark d x us := ⟨x, us, h1, h2, h3, h4.1, h4.2⟩

set_option maxHeartbeats 4000000 in
theorem par_step {p : V} (h : IsPar C p) : ∃ names mode mark d, p = .tup [names, .str mode, mark, d] ∧ ∃ x us, ParTk C names mode mark d x us := by
  obtain ⟨names, mode, mark, d, rfl, hn, hm, hd⟩ := h
  refine ⟨names, mode, mark, d, rfl, ?_⟩
  obtain ⟨s, ss, t, r, a, rfl, n1, n2, n3, n4, n5⟩ := hn
  obtain ⟨xs, t', r', rfl, q, g1, g2, g3⟩ := hm
  obtain ⟨q2, l2⟩ := sh L q g2 (by omega)
  have w0 := wv_none L
  rcases hd with ⟨rfl, hd⟩ | ⟨rfl | rfl | rfl | rfl, rfl⟩
  (obtain ⟨xs', t3, r3, rfl, q', g1', g2', g3'⟩ := hd
   obtain ⟨q2', l2'⟩ := sh L q' g2' (by omega)
   have w' := wv_some L rfl q' (by omega))
  all_goals (
    apply par_mk
    · intro v us0 x7 N R hz hN
      (all_goals (k_extra "go"; repeat (refine Cal.ret (by assumption) (by k_extra "le") ?_; k_extra "go")))
      exact hN _
    · (apply td_top; k_extra "td")
    · intro v row sg x6 N R hs hz hN
      rcases hs with ⟨hs, hg⟩ | ⟨hs, hg⟩ <;> subst hg
      · subst hs
        (all_goals (k_extra "go"; repeat (refine Cal.ret (by assumption) (by k_extra "le") ?_; k_extra "go")))
        refine Eq.mp (congrArg (fun z => N [some v, some (V.lst z), _, _, _, _, _] none) ?_) (hN _)
        (first | rfl | ((first | refine lst_eq ?_ | refine str_eq ?_ | skip); (with_reducible apply fl_eq); (· k_extra "fl"); (· k_extra "fl"); rfl))
      · k_extra "go"
        refine ifb_f (by simpa using hs) ?_
        (all_goals (k_extra "go"; repeat (refine Cal.ret (by assumption) (by k_extra "le") ?_; k_extra "go")))
        refine Eq.mp (congrArg (fun z => N [some v, some (V.lst z), _, _, _, _, _] none) ?_) (hN _)
        (first | rfl | ((first | refine lst_eq ?_ | refine str_eq ?_ | skip); (with_reducible apply fl_eq); (· k_extra "fl"); (· k_extra "fl"); rfl))
    · refine ⟨?_, ?_⟩ <;> ((with_reducible apply sd_lit); (· k_extra "lb"); rfl))

theorem ps_one {p : V} (h : IsPar C p) : IsPs C (.lst [p]) := by
  obtain ⟨names, mode, mark, d, rfl, x, us, h1, h2, h3, h4, h5⟩ := par_step L h
  refine ps_mk (a := [32, 40] ++ joined [59, 32] [x] ++ [41]) (ts := [[40]] ++ us ++ [[41]]) ?_ ?_ ?_ rfl ?_
  · (refine Lib.enter (by assumption) rfl (fun h => nomatch h) rfl (by decide) ?_)
    (repeat k_extra "ands")
    refine LoopV.mk (h1 _ [] _ _ _ (by simp) fun y7 => ?_)
    k_extra "go"
    (all_goals first | rfl | (show _ = _; (first | rfl | ((first | refine lst_eq ?_ | refine str_eq ?_ | skip); (with_reducible apply fl_eq); (· k_extra "fl"); (· k_extra "fl"); rfl))) | (simp [joined]; done))
  · exact ((((lit_ok2 (a := [32, 40]) rfl).app h3 (.inl rfl)).app (lit_ok2 (a := [41]) rfl) (.inr (stp_lit (Eq.refl true)))).weak).cast rfl (by (first | rfl | ((first | refine lst_eq ?_ | refine str_eq ?_ | skip); (with_reducible apply fl_eq); (· k_extra "fl"); (· k_extra "fl"); rfl)))
  · (refine Lib.enter (by assumption) rfl (fun h => nomatch h) rfl (by decide) ?_)
    (repeat k_extra "ands")
    refine LoopV.mk (h2 _ [] [40] _ _ _ (.inl ⟨rfl, rfl⟩) (by simp) fun y6 => ?_)
    k_extra "go"
    (all_goals first | rfl | (show _ = _; (first | rfl | ((first | refine lst_eq ?_ | refine str_eq ?_ | skip); (with_reducible apply fl_eq); (· k_extra "fl"); (· k_extra "fl"); rfl))) | (simp [joined]; done))
  · refine ⟨?_, ?_⟩ <;> ((with_reducible apply sd_lit); (· k_extra "lb"); rfl)

theorem ps_two {p p' : V} (h : IsPar C p) (h' : IsPar C p') : IsPs C (.lst [p, p']) := by
  obtain ⟨names, mode, mark, d, rfl, x, us, h1, h2, h3, h4, h5⟩ := par_step L h
  obtain ⟨names', mode', mark', d', rfl, x', us', h1', h2', h3', h4', h5'⟩ := par_step L h'
  refine ps_mk (a := [32, 40] ++ joined [59, 32] [x, x'] ++ [41]) (ts := [[40]] ++ us ++ [[59]] ++ us' ++ [[41]]) ?_ ?_ ?_ rfl ?_
  · (refine Lib.enter (by assumption) rfl (fun h => nomatch h) rfl (by decide) ?_)
    (repeat k_extra "ands")
    refine LoopV.mk (h1 _ [] _ _ _ (by simp) fun y7 => ?_)
    refine h1' _ _ _ _ _ (by simp) fun y7 => ?_
    k_extra "go"
    (all_goals first | rfl | (show _ = _; (first | rfl | ((first | refine lst_eq ?_ | refine str_eq ?_ | skip); (with_reducible apply fl_eq); (· k_extra "fl"); (· k_extra "fl"); rfl))) | (simp [joined]; done))
  · have e : Td false (joined [59, 32] [x, x']) (us ++ [[59]] ++ us') := by
      show Td false (x ++ [59, 32] ++ x') _
      exact ((h3.app (lit_ok2 (a := [59, 32]) rfl) (.inr (stp_lit (Eq.refl true)))).app h3' (.inl rfl)).cast rfl (by (first | rfl | ((first | refine lst_eq ?_ | refine str_eq ?_ | skip); (with_reducible apply fl_eq); (· k_extra "fl"); (· k_extra "fl"); rfl)))
    exact ((((lit_ok2 (a := [32, 40]) rfl).app e (.inl rfl)).app (lit_ok2 (a := [41]) rfl) (.inr (stp_lit (Eq.refl true)))).weak).cast rfl (by (first | rfl | ((first | refine lst_eq ?_ | refine str_eq ?_ | skip); (with_reducible apply fl_eq); (· k_extra "fl"); (· k_extra "fl"); rfl)))
  · (refine Lib.enter (by assumption) rfl (fun h => nomatch h) rfl (by decide) ?_)
    (repeat k_extra "ands")
    refine LoopV.mk (h2 _ [] [40] _ _ _ (.inl ⟨rfl, rfl⟩) (by simp) fun y6 => ?_)
    refine h2' _ _ [59] _ _ _ (.inr ⟨by simp, rfl⟩) (by simp; omega) fun y6 => ?_
    k_extra "go"
    (all_goals first | rfl | (show _ = _; (first | rfl | ((first | refine lst_eq ?_ | refine str_eq ?_ | skip); (with_reducible apply fl_eq); (· k_extra "fl"); (· k_extra "fl"); rfl))) | (simp [joined]; done))
  · refine ⟨?_, ?_⟩ <;> ((with_reducible apply sd_lit); (· k_extra "lb"); rfl)

/-- one parameter is drawn -/
theorem par_in {names mark d : V} (h1 : IsN C names) (h2 : IsE C 1 mark) (h3 : IsV C d) : IsPar C (.tup [names, .str mIn, mark, d]) := by
  rcases h3 with rfl | h3
  · exact ⟨_, _, _, _, rfl, h1, h2, .inr ⟨.inl rfl, rfl⟩⟩
  · exact ⟨_, _, _, _, rfl, h1, h2, .inl ⟨rfl, h3⟩⟩
end

section
variable {C : Cx} (L : Lib C)
include L

theorem par_body {N : List (Option V) → Option (List V) → Prop} {R : V → Prop} {us : List V} {x2 x3 : Option V} (hz : us.length ≤ 10) (hN : ∀ p x3, IsPar C p → N [some .deck, none, x2, x3] (some (us ++ [p]))) :
    wpSs (Cal C 4) 1 (loopBody b50) [some .deck, none, x2, x3] (some us) N R := by
  have np := n_one L (a := [112]) (gt_lit (Eq.refl true))
  have npq := n_two L (a := [112]) (b := [113]) (gt_lit (Eq.refl true)) (gt_lit (Eq.refl true))
  k_extra "go"
  refine L.draw4 ⟨?_, ?_, ?_, ?_⟩
  · k_extra "go"
    refine L.draw2 ⟨?_, ?_⟩
    · k_extra "go"
      refine (c_mark L).up (by k_extra "le") fun m hm => ?_
      k_extra "go"
      refine (c_value L).up (by k_extra "le") fun d hd => ?_
      k_extra "go"
      exact hN _ _ (par_in L np hm hd)
    · k_extra "go"
      refine (c_mark L).up (by k_extra "le") fun m hm => ?_
      k_extra "go"
      refine (c_value L).up (by k_extra "le") fun d hd => ?_
      k_extra "go"
      exact hN _ _ (par_in L npq hm hd)
  · k_extra "go"
    refine L.draw2 ⟨?_, ?_⟩
    · k_extra "go"
      refine (c_mark L).up (by k_extra "le") fun m hm => ?_
      k_extra "go"
      exact hN _ _ ⟨_, _, _, _, rfl, np, hm, .inr ⟨.inr (.inl rfl), rfl⟩⟩
    · k_extra "go"
      refine (c_mark L).up (by k_extra "le") fun m hm => ?_
      k_extra "go"
      exact hN _ _ ⟨_, _, _, _, rfl, npq, hm, .inr ⟨.inr (.inl rfl), rfl⟩⟩
  · k_extra "go"
    refine L.draw2 ⟨?_, ?_⟩
    · k_extra "go"
      refine (c_mark L).up (by k_extra "le") fun m hm => ?_
      k_extra "go"
      exact hN _ _ ⟨_, _, _, _, rfl, np, hm, .inr ⟨.inr (.inr (.inl rfl)), rfl⟩⟩
    · k_extra "go"
      refine (c_mark L).up (by k_extra "le") fun m hm => ?_
      k_extra "go"
      exact hN _ _ ⟨_, _, _, _, rfl, npq, hm, .inr ⟨.inr (.inr (.inl rfl)), rfl⟩⟩
  · k_extra "go"
    refine L.draw2 ⟨?_, ?_⟩
    · k_extra "go"
      refine (c_mark L).up (by k_extra "le") fun m hm => ?_
      k_extra "go"
      exact hN _ _ ⟨_, _, _, _, rfl, np, hm, .inr ⟨.inr (.inr (.inr rfl)), rfl⟩⟩
    · k_extra "go"
      refine (c_mark L).up (by k_extra "le") fun m hm => ?_
      k_extra "go"
      exact hN _ _ ⟨_, _, _, _, rfl, npq, hm, .inr ⟨.inr (.inr (.inr rfl)), rfl⟩⟩

theorem c_params : Cal C 5 50 [.deck] (IsPs C) := by
  have step : ∀ {N : List (Option V) → Option (List V) → Prop} {R : V → Prop} {us : List V} {x2 x3 : Option V}, us.length ≤ 10 → (∀ p x3, IsPar C p → N [some .deck, none, x2, x3] (some (us ++ [p]))) →
    wpSs (Cal C 4) 1 (loopBody b50) [some .deck, none, x2, x3] (some us) N R := fun hz hN => par_body L hz hN
  (refine Lib.enter (by assumption) rfl (fun h => nomatch h) rfl (by decide) ?_)
  k_extra "go"
  refine L.draw3 ⟨?_, ?_, ?_⟩
  · k_extra "go"
    exact ps_nil L
  · (repeat k_extra "ands")
    refine LoopV.mk (step (us := []) (by simp) fun p x3 hp => ?_)
    k_extra "go"
    exact ps_one L hp
  · (repeat k_extra "ands")
    refine LoopV.mk (step (us := []) (by simp) fun p x3 hp => ?_)
    refine step (us := [p]) (by simp) fun p' x3 hp' => ?_
    k_extra "go"
    exact ps_two L hp hp'

/-- a spec -/
noncomputable def IsS (C : Cx) (v : V) : Prop := ∃ kw nm ps ret t r a, v = .tup [.str kw, .str nm, ps, ret] ∧ GT nm ∧ Ret C 7 65 [v] (tv (t :: r)) ∧ Ret C 8 17 [LD, v] (.str a) ∧ Td false a (t :: r) ∧ a.length ≤ 1300 ∧ r.length ≤ 130
omit L in
theorem s_mk {kw nm : List Nat} {ps ret : V} {t a : List Nat} {r : List (List Nat)} (h0 : GT nm) (h1 : Ret C 8 17 [LD, .tup [.str kw, .str nm, ps, ret]] (.str a)) (h2 : Td false a (t :: r)) (h3 : Ret C 7 65 [.tup [.str kw, .str nm, ps, ret]] (tv (t :: r))) (h5 : a.length ≤ 1300 ∧ r.length ≤ 130) :
    IsS C (.tup [.str kw, .str nm, ps, ret]) := ⟨_, _, _, _, _, _, _, rfl, h0, h3, h1, h2, h5.1, h5.2⟩

theorem s_proc {ps : V} (h : IsPs C ps) : IsS C (.tup [.str [112, 114, 111, 99, 101, 100, 117, 114, 101], .str [114, 117, 110], ps, .none]) := by
  obtain ⟨a, ts, w1, w2, tl, l1, l2⟩ := h
  have e : Td false [112, 114, 111, 99, 101, 100, 117, 114, 101, 32, 114, 117, 110] [[112, 114, 111, 99, 101, 100, 117, 114, 101], [114, 117, 110]] := (lit_ok2 (a := [112, 114, 111, 99, 101, 100, 117, 114, 101, 32, 114, 117, 110]) rfl)
  have tt := tl _ _ e
  refine s_mk (gt_lit (Eq.refl true)) (a := [112, 114, 111, 99, 101, 100, 117, 114, 101] ++ [32] ++ [114, 117, 110] ++ a) (t := [112, 114, 111, 99, 101, 100, 117, 114, 101]) (r := [114, 117, 110] :: ts) ?_ ?_ ?_ ?_
  · (((refine Lib.enter (by assumption) rfl (fun h => nomatch h) rfl (by decide) ?_); k_extra "go"); (all_goals (k_extra "go"; repeat (refine Cal.ret (by assumption) (by k_extra "le") ?_; k_extra "go"))); (all_goals first | rfl | (show _ = _; (first | rfl | ((first | refine lst_eq ?_ | refine str_eq ?_ | skip); (with_reducible apply fl_eq); (· k_extra "fl"); (· k_extra "fl"); rfl))) | (simp [joined]; done)))
  · exact tt.cast (by (first | rfl | ((first | refine lst_eq ?_ | refine str_eq ?_ | skip); (with_reducible apply fl_eq); (· k_extra "fl"); (· k_extra "fl"); rfl))) (by (first | rfl | ((first | refine lst_eq ?_ | refine str_eq ?_ | skip); (with_reducible apply fl_eq); (· k_extra "fl"); (· k_extra "fl"); rfl)))
  · (((refine Lib.enter (by assumption) rfl (fun h => nomatch h) rfl (by decide) ?_); k_extra "go"); (all_goals (k_extra "go"; repeat (refine Cal.ret (by assumption) (by k_extra "le") ?_; k_extra "go"))); (all_goals first | rfl | (show _ = _; (first | rfl | ((first | refine lst_eq ?_ | refine str_eq ?_ | skip); (with_reducible apply fl_eq); (· k_extra "fl"); (· k_extra "fl"); rfl))) | (simp [joined]; done)))
  · refine ⟨?_, ?_⟩ <;> ((with_reducible apply sd_lit); (· k_extra "lb"); rfl)
theorem s_func {ps m : V} {nm : List Nat} (h : IsPs C ps) (hm : IsE C 1 m) (g : GT nm) : IsS C (.tup [.str [102, 117, 110, 99, 116, 105, 111, 110], .str nm, ps, m]) := by
  obtain ⟨a, ts, w1, w2, tl, l1, l2⟩ := h
  obtain ⟨xs, t, r, rfl, q, g1, g2, g3⟩ := hm
  obtain ⟨q2, k2⟩ := sh L q g2 (by omega)
  have e : Td false ([102, 117, 110, 99, 116, 105, 111, 110] ++ [32] ++ nm) [[102, 117, 110, 99, 116, 105, 111, 110], nm] := ((((lit_ok2 (a := [102, 117, 110, 99, 116, 105, 111, 110]) rfl)).app ((lit_ok2 (a := [32]) rfl)) sp).app g.1 cl).cast rfl (by (first | rfl | ((first | refine lst_eq ?_ | refine str_eq ?_ | skip); (with_reducible apply fl_eq); (· k_extra "fl"); (· k_extra "fl"); rfl)))
  have tt := tl _ _ e
  have gl := g.2.1
  refine s_mk g (a := [102, 117, 110, 99, 116, 105, 111, 110] ++ [32] ++ nm ++ a ++ ([32, 114, 101, 116, 117, 114, 110, 32] ++ joined [32] (t :: r))) (t := [102, 117, 110, 99, 116, 105, 111, 110]) (r := nm :: ts ++ [114, 101, 116, 117, 114, 110] :: t :: r) ?_ ?_ ?_ ?_
  · (((refine Lib.enter (by assumption) rfl (fun h => nomatch h) rfl (by decide) ?_); k_extra "go"); (all_goals (k_extra "go"; repeat (refine Cal.ret (by assumption) (by k_extra "le") ?_; k_extra "go"))); (all_goals first | rfl | (show _ = _; (first | rfl | ((first | refine lst_eq ?_ | refine str_eq ?_ | skip); (with_reducible apply fl_eq); (· k_extra "fl"); (· k_extra "fl"); rfl))) | (simp [joined]; done)))
  · exact (tt.app (td_app1 g1 (lit_ok2 (a := [32, 114, 101, 116, 117, 114, 110, 32]) rfl)) sp).cast rfl (by (first | rfl | ((first | refine lst_eq ?_ | refine str_eq ?_ | skip); (with_reducible apply fl_eq); (· k_extra "fl"); (· k_extra "fl"); rfl)))
  · (((refine Lib.enter (by assumption) rfl (fun h => nomatch h) rfl (by decide) ?_); k_extra "go"); (all_goals (k_extra "go"; repeat (refine Cal.ret (by assumption) (by k_extra "le") ?_; k_extra "go"))); (all_goals first | rfl | (show _ = _; (first | rfl | ((first | refine lst_eq ?_ | refine str_eq ?_ | skip); (with_reducible apply fl_eq); (· k_extra "fl"); (· k_extra "fl"); rfl))) | (simp [joined]; done)))
  · refine ⟨?_, ?_⟩ <;> ((with_reducible apply sd_lit); (· k_extra "lb"); rfl)
theorem c_spec : Cal C 6 51 [.deck] (IsS C) := by
  ((refine Lib.enter (by assumption) rfl (fun h => nomatch h) rfl (by decide) ?_); k_extra "go")
  refine L.draw2 ⟨?_, ?_⟩
  · k_extra "go"
    refine (c_params L).up (by k_extra "le") fun ps h => ?_
    k_extra "go"
    exact s_proc L h
  · k_extra "go"
    refine L.draw2 ⟨?_, ?_⟩
    · k_extra "go"
      refine (c_mark L).up (by k_extra "le") fun m hm => ?_
      k_extra "go"
      refine (c_mark L).up (by k_extra "le") fun m' hm' => ?_
      k_extra "go"
      exact s_func L (ps_one L (par_in L (n_one L (gt_lit (Eq.refl true))) hm (.inl rfl))) hm' (gt_lit (Eq.refl true))
    · k_extra "go"
      refine (c_mark L).up (by k_extra "le") fun m hm => ?_
      k_extra "go"
      refine (c_mark L).up (by k_extra "le") fun m' hm' => ?_
      k_extra "go"
      exact s_func L (ps_one L (par_in L (n_one L (gt_lit (Eq.refl true))) hm (.inl rfl))) hm' gt_plus
end

/-- rows, each cut by itself -/
inductive RowsTk : List (List Nat) → List (List Nat) → Prop
  | nil : RowsTk [] []
  | cons {a : List Nat} {ts : List (List Nat)} {rows us : List (List Nat)} : Td false a ts → RowsTk rows us → RowsTk (a :: rows) (ts ++ us)
theorem RowsTk.app {rows us : List (List Nat)} (h : RowsTk rows us) {rows' us' : List (List Nat)} (k : RowsTk rows' us') : RowsTk (rows ++ rows') (us ++ us') := by
  induction h with
  | nil => exact k
  | cons h1 _ ih => rw [List.cons_append, List.append_assoc]; exact .cons h1 ih
theorem RowsTk.one {a : List Nat} {ts : List (List Nat)} (h : Td false a ts) : RowsTk [a] ts := by
  have := RowsTk.cons h .nil
  rwa [List.append_nil] at this
theorem RowsTk.cast {rows us rows' us' : List (List Nat)} (h : RowsTk rows us) (e1 : rows = rows') (e2 : us = us') : RowsTk rows' us' := by rw [← e1, ← e2]; exact h
theorem RowsTk.td : ∀ {rows us : List (List Nat)}, RowsTk rows us → Td false (joined [10] rows) us
  | _, _, .nil => Td.nil.weak
  | _, _, .cons h .nil => by rw [List.append_nil]; exact h
  | _, _, .cons (a := a) (ts := ts) h (.cons (a := b) (ts := us) (rows := rows) (us := ws) h' r) => by
    have ih := RowsTk.td (.cons h' r)
    exact ((h.app ((lit_ok2 (a := [10]) rfl)) (.inr ⟨10, [], rfl, rfl, by decide⟩)).app ih cl).cast (by simp [joined]) (by simp)

/-- a declaration that is listed and cut back -/
noncomputable def DeclOK (C : Cx) (n R T : Nat) (v : V) : Prop := ∃ word rest f rows ts, v = .tup (.str word :: rest) ∧ dlook LK LV word = some (.fn f) ∧ Ret C n f [LD, v] (tv rows) ∧ Ret C n 73 [v] (tv ts) ∧ RowsTk rows ts ∧ rows.length ≤ R ∧ (∀ x ∈ rows, x.length ≤ 3000) ∧ ts.length ≤ T

theorem d_mk {C : Cx} {word : List Nat} {rest : List V} {f : Nat} {a : List Nat} {ts : List (List Nat)} (hf : dlook LK LV word = some (.fn f)) (h1 : Ret C 16 f [LD, .tup (.str word :: rest)] (tv [a])) (h2 : Td false a ts) (h3 : Ret C 16 73 [.tup (.str word :: rest)] (tv ts)) (h4 : a.length ≤ 3000 ∧ ts.length ≤ 400) :
    DeclOK C 16 1 400 (.tup (.str word :: rest)) :=
  ⟨word, rest, f, [a], ts, rfl, hf, h1, h3, .one h2, by simp, by simpa using h4.1, h4.2⟩



section
variable {C : Cx} (L : Lib C)
include L

theorem kd {v : V} {a : List Nat} {xs : List V} (e : v = .tup (.str [115, 117, 98] :: xs)) (q : Ret C 8 0 [LD, v] (.str a)) : Ret C 9 9 [LD, v] (.str a) := by
  subst e
  (((refine Lib.enter (by assumption) rfl (fun h => nomatch h) rfl (by decide) ?_); k_extra "go"); (all_goals (k_extra "go"; repeat (refine Cal.ret (by assumption) (by k_extra "le") ?_; k_extra "go"))); (all_goals first | rfl | (show _ = _; (first | rfl | ((first | refine lst_eq ?_ | refine str_eq ?_ | skip); (with_reducible apply fl_eq); (· k_extra "fl"); (· k_extra "fl"); rfl))) | (simp [joined]; done)))

/-- a value's facts -/
theorem vfacts {d : V} (h : IsV C d) : ∃ a ts, Ret C 3 63 [d] (tv ts) ∧ Ret C 4 7 [LD, d] (.str a) ∧ Tail a ts ∧ a.length ≤ 100 ∧ ts.length ≤ 10 := by
  rcases h with rfl | h
  · exact ⟨[], [], (wv_none L).ret (by k_extra "le") rfl, (bv_none L).ret (by k_extra "le") rfl, tail_nil, by simp, by simp⟩
  · obtain ⟨xs, t, r, rfl, q, g1, g2, g3⟩ := h
    have l := (show SmallT (t :: r) from g2).join
    refine ⟨_, _, (wv_some L rfl q (by omega)).ret (by k_extra "le") rfl, (bv_some L rfl q g2 (by omega)).ret (by k_extra "le") rfl, tail_of (td_app1 g1 (lit_ok2 (a := [32, 58, 61, 32]) rfl)) (stp_lit (Eq.refl true)), ?_, ?_⟩
    · simp at l ⊢; omega
    · simp; omega

theorem d_object {names kind d : V} {c : Bool} (hn : IsN C names) (hk : IsK C kind) (hd : IsV C d) : DeclOK C 16 1 400 (.tup [.str [111, 98, 106, 101, 99, 116], .int 0, names, .bool c, kind, d]) := by
  obtain ⟨s, ss, t, r, a, rfl, n1, n2, n3, n4, n5⟩ := hn
  obtain ⟨xs, t', r', a', rfl, k1, k2, k3, k4, k5⟩ := hk
  have k6 := kd L rfl k2
  obtain ⟨b, us, v1, v2, v3, v4, v5⟩ := vfacts L hd
  cases c
  · (apply d_mk; ((· rfl); (· (((refine Lib.enter (by assumption) rfl (fun h => nomatch h) rfl (by decide) ?_); k_extra "go"); (all_goals (k_extra "go"; repeat (refine Cal.ret (by assumption) (by k_extra "le") ?_; k_extra "go"))); (all_goals first | rfl | (show _ = _; (first | rfl | ((first | refine lst_eq ?_ | refine str_eq ?_ | skip); (with_reducible apply fl_eq); (· k_extra "fl"); (· k_extra "fl"); rfl))) | (simp [joined]; done)))); (· (apply td_top; k_extra "td")); (· (((refine Lib.enter (by assumption) rfl (fun h => nomatch h) rfl (by decide) ?_); k_extra "go"); (all_goals (k_extra "go"; repeat (refine Cal.ret (by assumption) (by k_extra "le") ?_; k_extra "go"))); (all_goals first | rfl | (show _ = _; (first | rfl | ((first | refine lst_eq ?_ | refine str_eq ?_ | skip); (with_reducible apply fl_eq); (· k_extra "fl"); (· k_extra "fl"); rfl))) | (simp [joined]; done)))); (refine ⟨?_, ?_⟩ <;> ((with_reducible apply sd_lit); (· k_extra "lb"); rfl))))
  · (apply d_mk; ((· rfl); (· (((refine Lib.enter (by assumption) rfl (fun h => nomatch h) rfl (by decide) ?_); k_extra "go"); (all_goals (k_extra "go"; repeat (refine Cal.ret (by assumption) (by k_extra "le") ?_; k_extra "go"))); (all_goals first | rfl | (show _ = _; (first | rfl | ((first | refine lst_eq ?_ | refine str_eq ?_ | skip); (with_reducible apply fl_eq); (· k_extra "fl"); (· k_extra "fl"); rfl))) | (simp [joined]; done)))); (· (apply td_top; k_extra "td")); (· (((refine Lib.enter (by assumption) rfl (fun h => nomatch h) rfl (by decide) ?_); k_extra "go"); (all_goals (k_extra "go"; repeat (refine Cal.ret (by assumption) (by k_extra "le") ?_; k_extra "go"))); (all_goals first | rfl | (show _ = _; (first | rfl | ((first | refine lst_eq ?_ | refine str_eq ?_ | skip); (with_reducible apply fl_eq); (· k_extra "fl"); (· k_extra "fl"); rfl))) | (simp [joined]; done)))); (refine ⟨?_, ?_⟩ <;> ((with_reducible apply sd_lit); (· k_extra "lb"); rfl))))
end

section
variable {C : Cx} (L : Lib C)
include L

theorem e_sel {x y : List Nat} (h : GT x) (g : GT y) : IsE C 2 (.tup [.str [115, 101, 108, 101, 99, 116], .tup [.str [110, 97, 109, 101], .str x], .str y]) := by
  have h1 := h.2.1
  have g1 := g.2.1
  refine ⟨_, x, [[46], y], rfl, ?_, ?_, ?_, by simp⟩
  · ((refine Lib.enter (by assumption) rfl (fun h => nomatch h) rfl (by decide) ?_); k_extra "go")
    ((refine Lib.enter (by assumption) rfl (fun h => nomatch h) rfl (by decide) ?_); k_extra "go")
    (all_goals first | rfl | (show _ = _; (first | rfl | ((first | refine lst_eq ?_ | refine str_eq ?_ | skip); (with_reducible apply fl_eq); (· k_extra "fl"); (· k_extra "fl"); rfl))) | (simp [joined]; done))
  · exact ((h.1.app ((lit_ok2 (a := [32, 46, 32]) rfl)) sp).app g.1 cl).cast (by simp [joined]) (by simp)
  · intro z hz
    simp only [List.mem_cons, List.not_mem_nil, or_false] at hz
    rcases hz with rfl | rfl | rfl
    · exact h1
    · decide
    · exact g1

/-- actuals, in any form -/
theorem acts {d : V} (h : d = .lst [] ∨ d = .str [98, 111, 120] ∨ IsP C d) : ∃ a ts, Ret C 6 68 [d] (tv ts) ∧ Ret C 7 31 [LD, d] (.str a) ∧ Tail a ts ∧ a.length ≤ 400 ∧ ts.length ≤ 40 := by
  rcases h with rfl | rfl | h
  · refine ⟨[], [], ?_, ?_, tail_nil, by simp, by simp⟩
    · (((refine Lib.enter (by assumption) rfl (fun h => nomatch h) rfl (by decide) ?_); k_extra "go"); (all_goals (k_extra "go"; repeat (refine Cal.ret (by assumption) (by k_extra "le") ?_; k_extra "go"))); (all_goals first | rfl | (show _ = _; (first | rfl | ((first | refine lst_eq ?_ | refine str_eq ?_ | skip); (with_reducible apply fl_eq); (· k_extra "fl"); (· k_extra "fl"); rfl))) | (simp [joined]; done)))
    · (((refine Lib.enter (by assumption) rfl (fun h => nomatch h) rfl (by decide) ?_); k_extra "go"); (all_goals (k_extra "go"; repeat (refine Cal.ret (by assumption) (by k_extra "le") ?_; k_extra "go"))); (all_goals first | rfl | (show _ = _; (first | rfl | ((first | refine lst_eq ?_ | refine str_eq ?_ | skip); (with_reducible apply fl_eq); (· k_extra "fl"); (· k_extra "fl"); rfl))) | (simp [joined]; done)))
  · refine ⟨_, _, ?_, ?_, tail_of ((lit_ok2 (a := [32, 40, 60, 62, 41]) rfl)) (stp_lit (Eq.refl true)), by decide, by decide⟩
    · (((refine Lib.enter (by assumption) rfl (fun h => nomatch h) rfl (by decide) ?_); k_extra "go"); (all_goals (k_extra "go"; repeat (refine Cal.ret (by assumption) (by k_extra "le") ?_; k_extra "go"))); (all_goals first | rfl | (show _ = _; (first | rfl | ((first | refine lst_eq ?_ | refine str_eq ?_ | skip); (with_reducible apply fl_eq); (· k_extra "fl"); (· k_extra "fl"); rfl))) | (simp [joined]; done)))
    · (((refine Lib.enter (by assumption) rfl (fun h => nomatch h) rfl (by decide) ?_); k_extra "go"); (all_goals (k_extra "go"; repeat (refine Cal.ret (by assumption) (by k_extra "le") ?_; k_extra "go"))); (all_goals first | rfl | (show _ = _; (first | rfl | ((first | refine lst_eq ?_ | refine str_eq ?_ | skip); (with_reducible apply fl_eq); (· k_extra "fl"); (· k_extra "fl"); rfl))) | (simp [joined]; done)))
  · obtain ⟨p, ps, t, r, rfl, q, g1, g2, g3⟩ := h
    have l := (show SmallT (t :: r) from g2).join
    have q2 := c_shows L q g2 (by omega)
    simp only [List.length_cons] at l
    refine ⟨[32, 40] ++ joined [32] (t :: r) ++ [41], [40] :: (t :: r) ++ [[41]], ?_, ?_, tail_of (c := true) (((td_app1 g1 (lit_ok2 (a := [32, 40]) rfl)).app ((lit_ok2 (a := [41]) rfl)) (.inr (stp_lit (Eq.refl true)))).cast rfl (by (first | rfl | ((first | refine lst_eq ?_ | refine str_eq ?_ | skip); (with_reducible apply fl_eq); (· k_extra "fl"); (· k_extra "fl"); rfl)))) (stp_lit (Eq.refl true)), ?_, ?_⟩
    · (((refine Lib.enter (by assumption) rfl (fun h => nomatch h) rfl (by decide) ?_); k_extra "go"); (all_goals (k_extra "go"; repeat (refine Cal.ret (by assumption) (by k_extra "le") ?_; k_extra "go"))); (all_goals first | rfl | (show _ = _; (first | rfl | ((first | refine lst_eq ?_ | refine str_eq ?_ | skip); (with_reducible apply fl_eq); (· k_extra "fl"); (· k_extra "fl"); rfl))) | (simp [joined]; done)))
    · (((refine Lib.enter (by assumption) rfl (fun h => nomatch h) rfl (by decide) ?_); k_extra "go"); (all_goals (k_extra "go"; repeat (refine Cal.ret (by assumption) (by k_extra "le") ?_; k_extra "go"))); (all_goals first | rfl | (show _ = _; (first | rfl | ((first | refine lst_eq ?_ | refine str_eq ?_ | skip); (with_reducible apply fl_eq); (· k_extra "fl"); (· k_extra "fl"); rfl))) | (simp [joined]; done)))
    · simp at l ⊢; omega
    · simp; omega

theorem d_component {names kind d : V} (hn : IsN C names) (hk : IsK C kind) (hd : IsV C d) : DeclOK C 16 1 400 (.tup [.str [99, 111, 109, 112, 111, 110, 101, 110, 116], .int 0, names, kind, d]) := by
  obtain ⟨s, ss, t, r, a, rfl, n1, n2, n3, n4, n5⟩ := hn
  obtain ⟨xs, t', r', a', rfl, k1, k2, k3, k4, k5⟩ := hk
  have k6 := kd L rfl k2
  obtain ⟨b, us, v1, v2, v3, v4, v5⟩ := vfacts L hd
  (apply d_mk; ((· rfl); (· (((refine Lib.enter (by assumption) rfl (fun h => nomatch h) rfl (by decide) ?_); k_extra "go"); (all_goals (k_extra "go"; repeat (refine Cal.ret (by assumption) (by k_extra "le") ?_; k_extra "go"))); (all_goals first | rfl | (show _ = _; (first | rfl | ((first | refine lst_eq ?_ | refine str_eq ?_ | skip); (with_reducible apply fl_eq); (· k_extra "fl"); (· k_extra "fl"); rfl))) | (simp [joined]; done)))); (· (apply td_top; k_extra "td")); (· (((refine Lib.enter (by assumption) rfl (fun h => nomatch h) rfl (by decide) ?_); k_extra "go"); (all_goals (k_extra "go"; repeat (refine Cal.ret (by assumption) (by k_extra "le") ?_; k_extra "go"))); (all_goals first | rfl | (show _ = _; (first | rfl | ((first | refine lst_eq ?_ | refine str_eq ?_ | skip); (with_reducible apply fl_eq); (· k_extra "fl"); (· k_extra "fl"); rfl))) | (simp [joined]; done)))); (refine ⟨?_, ?_⟩ <;> ((with_reducible apply sd_lit); (· k_extra "lb"); rfl))))
theorem d_subprog {spec : V} (h : IsS C spec) : DeclOK C 16 1 400 (.tup [.str [115, 117, 98, 112, 114, 111, 103], .int 0, spec]) := by
  obtain ⟨kw, nm, ps, ret, t, r, a, rfl, g, w1, w2, w3, w4, w5⟩ := h
  (apply d_mk; ((· rfl); (· (((refine Lib.enter (by assumption) rfl (fun h => nomatch h) rfl (by decide) ?_); k_extra "go"); (all_goals (k_extra "go"; repeat (refine Cal.ret (by assumption) (by k_extra "le") ?_; k_extra "go"))); (all_goals first | rfl | (show _ = _; (first | rfl | ((first | refine lst_eq ?_ | refine str_eq ?_ | skip); (with_reducible apply fl_eq); (· k_extra "fl"); (· k_extra "fl"); rfl))) | (simp [joined]; done)))); (· (apply td_top; k_extra "td")); (· (((refine Lib.enter (by assumption) rfl (fun h => nomatch h) rfl (by decide) ?_); k_extra "go"); (all_goals (k_extra "go"; repeat (refine Cal.ret (by assumption) (by k_extra "le") ?_; k_extra "go"))); (all_goals first | rfl | (show _ = _; (first | rfl | ((first | refine lst_eq ?_ | refine str_eq ?_ | skip); (with_reducible apply fl_eq); (· k_extra "fl"); (· k_extra "fl"); rfl))) | (simp [joined]; done)))); (refine ⟨?_, ?_⟩ <;> ((with_reducible apply sd_lit); (· k_extra "lb"); rfl))))
theorem d_abstract {spec : V} (h : IsS C spec) : DeclOK C 16 1 400 (.tup [.str [97, 98, 115, 116, 114, 97, 99, 116], .int 0, spec]) := by
  obtain ⟨kw, nm, ps, ret, t, r, a, rfl, g, w1, w2, w3, w4, w5⟩ := h
  (apply d_mk; ((· rfl); (· (((refine Lib.enter (by assumption) rfl (fun h => nomatch h) rfl (by decide) ?_); k_extra "go"); (all_goals (k_extra "go"; repeat (refine Cal.ret (by assumption) (by k_extra "le") ?_; k_extra "go"))); (all_goals first | rfl | (show _ = _; (first | rfl | ((first | refine lst_eq ?_ | refine str_eq ?_ | skip); (with_reducible apply fl_eq); (· k_extra "fl"); (· k_extra "fl"); rfl))) | (simp [joined]; done)))); (· (apply td_top; k_extra "td")); (· (((refine Lib.enter (by assumption) rfl (fun h => nomatch h) rfl (by decide) ?_); k_extra "go"); (all_goals (k_extra "go"; repeat (refine Cal.ret (by assumption) (by k_extra "le") ?_; k_extra "go"))); (all_goals first | rfl | (show _ = _; (first | rfl | ((first | refine lst_eq ?_ | refine str_eq ?_ | skip); (with_reducible apply fl_eq); (· k_extra "fl"); (· k_extra "fl"); rfl))) | (simp [joined]; done)))); (refine ⟨?_, ?_⟩ <;> ((with_reducible apply sd_lit); (· k_extra "lb"); rfl))))
theorem d_instance {sort : List Nat} {d : V} (g : GT sort) (h : d = .lst [] ∨ d = .str [98, 111, 120] ∨ IsP C d) : DeclOK C 16 1 400 (.tup [.str [105, 110, 115, 116, 97, 110, 99, 101], .int 0, .str sort, .str [109, 97, 100, 101], .tup [.str [115, 101, 108, 101, 99, 116], .tup [.str [110, 97, 109, 101], .str [108, 105, 98]], .str [109, 97, 107, 101, 114]], d]) := by
  obtain ⟨a, ts, a1, a2, a3, a4, a5⟩ := acts L h
  obtain ⟨xs, t, r, e, q, g1, g2, g3⟩ := e_sel L (x := [108, 105, 98]) (y := [109, 97, 107, 101, 114]) (gt_lit (Eq.refl true)) (gt_lit (Eq.refl true))
  cases e
  obtain ⟨q2, l2⟩ := sh L q g2 (by omega)
  have s1 := g.1
  have s2 := g.2.1
  (apply d_mk; ((· rfl); (· (((refine Lib.enter (by assumption) rfl (fun h => nomatch h) rfl (by decide) ?_); k_extra "go"); (all_goals (k_extra "go"; repeat (refine Cal.ret (by assumption) (by k_extra "le") ?_; k_extra "go"))); (all_goals first | rfl | (show _ = _; (first | rfl | ((first | refine lst_eq ?_ | refine str_eq ?_ | skip); (with_reducible apply fl_eq); (· k_extra "fl"); (· k_extra "fl"); rfl))) | (simp [joined]; done)))); (· (apply td_top; k_extra "td")); (· (((refine Lib.enter (by assumption) rfl (fun h => nomatch h) rfl (by decide) ?_); k_extra "go"); (all_goals (k_extra "go"; repeat (refine Cal.ret (by assumption) (by k_extra "le") ?_; k_extra "go"))); (all_goals first | rfl | (show _ = _; (first | rfl | ((first | refine lst_eq ?_ | refine str_eq ?_ | skip); (with_reducible apply fl_eq); (· k_extra "fl"); (· k_extra "fl"); rfl))) | (simp [joined]; done)))); (refine ⟨?_, ?_⟩ <;> ((with_reducible apply sd_lit); (· k_extra "lb"); rfl))))
theorem d_subtype {kind : V} (hk : IsK C kind) : DeclOK C 16 1 400 (.tup [.str [115, 117, 98, 116, 121, 112, 101], .int 0, .str [115, 104, 111, 114, 116], kind]) := by
  obtain ⟨xs, t', r', a', rfl, k1, k2, k3, k4, k5⟩ := hk
  (apply d_mk; ((· rfl); (· (((refine Lib.enter (by assumption) rfl (fun h => nomatch h) rfl (by decide) ?_); k_extra "go"); (all_goals (k_extra "go"; repeat (refine Cal.ret (by assumption) (by k_extra "le") ?_; k_extra "go"))); (all_goals first | rfl | (show _ = _; (first | rfl | ((first | refine lst_eq ?_ | refine str_eq ?_ | skip); (with_reducible apply fl_eq); (· k_extra "fl"); (· k_extra "fl"); rfl))) | (simp [joined]; done)))); (· (apply td_top; k_extra "td")); (· (((refine Lib.enter (by assumption) rfl (fun h => nomatch h) rfl (by decide) ?_); k_extra "go"); (all_goals (k_extra "go"; repeat (refine Cal.ret (by assumption) (by k_extra "le") ?_; k_extra "go"))); (all_goals first | rfl | (show _ = _; (first | rfl | ((first | refine lst_eq ?_ | refine str_eq ?_ | skip); (with_reducible apply fl_eq); (· k_extra "fl"); (· k_extra "fl"); rfl))) | (simp [joined]; done)))); (refine ⟨?_, ?_⟩ <;> ((with_reducible apply sd_lit); (· k_extra "lb"); rfl))))
theorem d_exception : DeclOK C 16 1 400 (.tup [.str [101, 120, 99, 101, 112, 116, 105, 111, 110], .int 0, .lst [.str [111, 111, 112, 115], .str [108, 97, 116, 101]]]) := by
  obtain ⟨s, ss, t, r, a, e, n1, n2, n3, n4, n5⟩ := n_two L (a := [111, 111, 112, 115]) (b := [108, 97, 116, 101]) (gt_lit (Eq.refl true)) (gt_lit (Eq.refl true))
  cases e
  (apply d_mk; ((· rfl); (· (((refine Lib.enter (by assumption) rfl (fun h => nomatch h) rfl (by decide) ?_); k_extra "go"); (all_goals (k_extra "go"; repeat (refine Cal.ret (by assumption) (by k_extra "le") ?_; k_extra "go"))); (all_goals first | rfl | (show _ = _; (first | rfl | ((first | refine lst_eq ?_ | refine str_eq ?_ | skip); (with_reducible apply fl_eq); (· k_extra "fl"); (· k_extra "fl"); rfl))) | (simp [joined]; done)))); (· (apply td_top; k_extra "td")); (· (((refine Lib.enter (by assumption) rfl (fun h => nomatch h) rfl (by decide) ?_); k_extra "go"); (all_goals (k_extra "go"; repeat (refine Cal.ret (by assumption) (by k_extra "le") ?_; k_extra "go"))); (all_goals first | rfl | (show _ = _; (first | rfl | ((first | refine lst_eq ?_ | refine str_eq ?_ | skip); (with_reducible apply fl_eq); (· k_extra "fl"); (· k_extra "fl"); rfl))) | (simp [joined]; done)))); (refine ⟨?_, ?_⟩ <;> ((with_reducible apply sd_lit); (· k_extra "lb"); rfl))))
theorem d_number {v : V} (h : IsE C 1 v) : DeclOK C 16 1 400 (.tup [.str [110, 117, 109, 98, 101, 114], .int 0, .lst [.str [109, 111, 115, 116]], v]) := by
  obtain ⟨s, ss, t, r, a, e, n1, n2, n3, n4, n5⟩ := n_one L (a := [109, 111, 115, 116]) (gt_lit (Eq.refl true))
  cases e
  obtain ⟨xs, t', r', rfl, q, g1, g2, g3⟩ := h
  obtain ⟨q2, l2⟩ := sh L q g2 (by omega)
  (apply d_mk; ((· rfl); (· (((refine Lib.enter (by assumption) rfl (fun h => nomatch h) rfl (by decide) ?_); k_extra "go"); (all_goals (k_extra "go"; repeat (refine Cal.ret (by assumption) (by k_extra "le") ?_; k_extra "go"))); (all_goals first | rfl | (show _ = _; (first | rfl | ((first | refine lst_eq ?_ | refine str_eq ?_ | skip); (with_reducible apply fl_eq); (· k_extra "fl"); (· k_extra "fl"); rfl))) | (simp [joined]; done)))); (· (apply td_top; k_extra "td")); (· (((refine Lib.enter (by assumption) rfl (fun h => nomatch h) rfl (by decide) ?_); k_extra "go"); (all_goals (k_extra "go"; repeat (refine Cal.ret (by assumption) (by k_extra "le") ?_; k_extra "go"))); (all_goals first | rfl | (show _ = _; (first | rfl | ((first | refine lst_eq ?_ | refine str_eq ?_ | skip); (with_reducible apply fl_eq); (· k_extra "fl"); (· k_extra "fl"); rfl))) | (simp [joined]; done)))); (refine ⟨?_, ?_⟩ <;> ((with_reducible apply sd_lit); (· k_extra "lb"); rfl))))
theorem d_pragma {d : V} (h : d = .lst [] ∨ d = .str [98, 111, 120] ∨ IsP C d) : DeclOK C 16 1 400 (.tup [.str [112, 114, 97, 103, 109, 97], .int 0, .str [105, 110, 108, 105, 110, 101], d]) := by
  obtain ⟨a, ts, a1, a2, a3, a4, a5⟩ := acts L h
  (apply d_mk; ((· rfl); (· (((refine Lib.enter (by assumption) rfl (fun h => nomatch h) rfl (by decide) ?_); k_extra "go"); (all_goals (k_extra "go"; repeat (refine Cal.ret (by assumption) (by k_extra "le") ?_; k_extra "go"))); (all_goals first | rfl | (show _ = _; (first | rfl | ((first | refine lst_eq ?_ | refine str_eq ?_ | skip); (with_reducible apply fl_eq); (· k_extra "fl"); (· k_extra "fl"); rfl))) | (simp [joined]; done)))); (· (apply td_top; k_extra "td")); (· (((refine Lib.enter (by assumption) rfl (fun h => nomatch h) rfl (by decide) ?_); k_extra "go"); (all_goals (k_extra "go"; repeat (refine Cal.ret (by assumption) (by k_extra "le") ?_; k_extra "go"))); (all_goals first | rfl | (show _ = _; (first | rfl | ((first | refine lst_eq ?_ | refine str_eq ?_ | skip); (with_reducible apply fl_eq); (· k_extra "fl"); (· k_extra "fl"); rfl))) | (simp [joined]; done)))); (refine ⟨?_, ?_⟩ <;> ((with_reducible apply sd_lit); (· k_extra "lb"); rfl))))
theorem d_rename_obj : DeclOK C 16 1 400 (.tup [.str [114, 101, 110, 97, 109, 101], .int 0, .str [111, 98, 106, 101, 99, 116], .str [111, 116, 104, 101, 114], .tup [.str [110, 97, 109, 101], .str [116]], .tup [.str [115, 101, 108, 101, 99, 116], .tup [.str [110, 97, 109, 101], .str [108, 105, 98]], .str [111, 108, 100]]]) := by
  obtain ⟨xs, t, r, e, q, g1, g2, g3⟩ := e_sel L (x := [108, 105, 98]) (y := [111, 108, 100]) (gt_lit (Eq.refl true)) (gt_lit (Eq.refl true))
  cases e
  obtain ⟨q2, l2⟩ := sh L q g2 (by omega)
  have p : Ret C 1 60 [.tup [.str [110, 97, 109, 101], .str [116]]] (tv [[116]]) := by (((refine Lib.enter (by assumption) rfl (fun h => nomatch h) rfl (by decide) ?_); k_extra "go"); (all_goals (k_extra "go"; repeat (refine Cal.ret (by assumption) (by k_extra "le") ?_; k_extra "go"))); (all_goals first | rfl | (show _ = _; (first | rfl | ((first | refine lst_eq ?_ | refine str_eq ?_ | skip); (with_reducible apply fl_eq); (· k_extra "fl"); (· k_extra "fl"); rfl))) | (simp [joined]; done)))
  have p2 : Ret C 2 75 [.tup [.str [110, 97, 109, 101], .str [116]]] (.str [116]) := by (((refine Lib.enter (by assumption) rfl (fun h => nomatch h) rfl (by decide) ?_); k_extra "go"); (all_goals (k_extra "go"; repeat (refine Cal.ret (by assumption) (by k_extra "le") ?_; k_extra "go"))); (all_goals first | rfl | (show _ = _; (first | rfl | ((first | refine lst_eq ?_ | refine str_eq ?_ | skip); (with_reducible apply fl_eq); (· k_extra "fl"); (· k_extra "fl"); rfl))) | (simp [joined]; done)))
  (apply d_mk; ((· rfl); (· (((refine Lib.enter (by assumption) rfl (fun h => nomatch h) rfl (by decide) ?_); k_extra "go"); (all_goals (k_extra "go"; repeat (refine Cal.ret (by assumption) (by k_extra "le") ?_; k_extra "go"))); (all_goals first | rfl | (show _ = _; (first | rfl | ((first | refine lst_eq ?_ | refine str_eq ?_ | skip); (with_reducible apply fl_eq); (· k_extra "fl"); (· k_extra "fl"); rfl))) | (simp [joined]; done)))); (· (apply td_top; k_extra "td")); (· (((refine Lib.enter (by assumption) rfl (fun h => nomatch h) rfl (by decide) ?_); k_extra "go"); (all_goals (k_extra "go"; repeat (refine Cal.ret (by assumption) (by k_extra "le") ?_; k_extra "go"))); (all_goals first | rfl | (show _ = _; (first | rfl | ((first | refine lst_eq ?_ | refine str_eq ?_ | skip); (with_reducible apply fl_eq); (· k_extra "fl"); (· k_extra "fl"); rfl))) | (simp [joined]; done)))); (refine ⟨?_, ?_⟩ <;> ((with_reducible apply sd_lit); (· k_extra "lb"); rfl))))
theorem d_rename_exc : DeclOK C 16 1 400 (.tup [.str [114, 101, 110, 97, 109, 101], .int 0, .str [101, 120, 99, 101, 112, 116, 105, 111, 110], .str [111, 116, 104, 101, 114], .none, .tup [.str [115, 101, 108, 101, 99, 116], .tup [.str [110, 97, 109, 101], .str [108, 105, 98]], .str [111, 108, 100]]]) := by
  obtain ⟨xs, t, r, e, q, g1, g2, g3⟩ := e_sel L (x := [108, 105, 98]) (y := [111, 108, 100]) (gt_lit (Eq.refl true)) (gt_lit (Eq.refl true))
  cases e
  obtain ⟨q2, l2⟩ := sh L q g2 (by omega)
  (apply d_mk; ((· rfl); (· (((refine Lib.enter (by assumption) rfl (fun h => nomatch h) rfl (by decide) ?_); k_extra "go"); (all_goals (k_extra "go"; repeat (refine Cal.ret (by assumption) (by k_extra "le") ?_; k_extra "go"))); (all_goals first | rfl | (show _ = _; (first | rfl | ((first | refine lst_eq ?_ | refine str_eq ?_ | skip); (with_reducible apply fl_eq); (· k_extra "fl"); (· k_extra "fl"); rfl))) | (simp [joined]; done)))); (· (apply td_top; k_extra "td")); (· (((refine Lib.enter (by assumption) rfl (fun h => nomatch h) rfl (by decide) ?_); k_extra "go"); (all_goals (k_extra "go"; repeat (refine Cal.ret (by assumption) (by k_extra "le") ?_; k_extra "go"))); (all_goals first | rfl | (show _ = _; (first | rfl | ((first | refine lst_eq ?_ | refine str_eq ?_ | skip); (with_reducible apply fl_eq); (· k_extra "fl"); (· k_extra "fl"); rfl))) | (simp [joined]; done)))); (refine ⟨?_, ?_⟩ <;> ((with_reducible apply sd_lit); (· k_extra "lb"); rfl))))
theorem d_rename_pack : DeclOK C 16 1 400 (.tup [.str [114, 101, 110, 97, 109, 101], .int 0, .str [112, 97, 99, 107, 97, 103, 101], .str [111, 116, 104, 101, 114], .none, .tup [.str [115, 101, 108, 101, 99, 116], .tup [.str [110, 97, 109, 101], .str [108, 105, 98]], .str [111, 108, 100]]]) := by
  obtain ⟨xs, t, r, e, q, g1, g2, g3⟩ := e_sel L (x := [108, 105, 98]) (y := [111, 108, 100]) (gt_lit (Eq.refl true)) (gt_lit (Eq.refl true))
  cases e
  obtain ⟨q2, l2⟩ := sh L q g2 (by omega)
  (apply d_mk; ((· rfl); (· (((refine Lib.enter (by assumption) rfl (fun h => nomatch h) rfl (by decide) ?_); k_extra "go"); (all_goals (k_extra "go"; repeat (refine Cal.ret (by assumption) (by k_extra "le") ?_; k_extra "go"))); (all_goals first | rfl | (show _ = _; (first | rfl | ((first | refine lst_eq ?_ | refine str_eq ?_ | skip); (with_reducible apply fl_eq); (· k_extra "fl"); (· k_extra "fl"); rfl))) | (simp [joined]; done)))); (· (apply td_top; k_extra "td")); (· (((refine Lib.enter (by assumption) rfl (fun h => nomatch h) rfl (by decide) ?_); k_extra "go"); (all_goals (k_extra "go"; repeat (refine Cal.ret (by assumption) (by k_extra "le") ?_; k_extra "go"))); (all_goals first | rfl | (show _ = _; (first | rfl | ((first | refine lst_eq ?_ | refine str_eq ?_ | skip); (with_reducible apply fl_eq); (· k_extra "fl"); (· k_extra "fl"); rfl))) | (simp [joined]; done)))); (refine ⟨?_, ?_⟩ <;> ((with_reducible apply sd_lit); (· k_extra "lb"); rfl))))
theorem d_rename_sub {nm : List Nat} {spec : V} (h : IsS C spec) : GT nm → DeclOK C 16 1 400 (.tup [.str [114, 101, 110, 97, 109, 101], .int 0, .str [115, 117, 98, 112, 114, 111, 103], .str nm, spec, .tup [.str [115, 101, 108, 101, 99, 116], .tup [.str [110, 97, 109, 101], .str [108, 105, 98]], .str [111, 108, 100]]]) := fun gn => by
  have gl := gn.2.1
  obtain ⟨kw, nm', ps, ret, t', r', a, rfl, g, w1, w2, w3, w4, w5⟩ := h
  obtain ⟨xs, t, r, e, q, g1, g2, g3⟩ := e_sel L (x := [108, 105, 98]) (y := [111, 108, 100]) (gt_lit (Eq.refl true)) (gt_lit (Eq.refl true))
  cases e
  obtain ⟨q2, l2⟩ := sh L q g2 (by omega)
  (apply d_mk; ((· rfl); (· (((refine Lib.enter (by assumption) rfl (fun h => nomatch h) rfl (by decide) ?_); k_extra "go"); (all_goals (k_extra "go"; repeat (refine Cal.ret (by assumption) (by k_extra "le") ?_; k_extra "go"))); (all_goals first | rfl | (show _ = _; (first | rfl | ((first | refine lst_eq ?_ | refine str_eq ?_ | skip); (with_reducible apply fl_eq); (· k_extra "fl"); (· k_extra "fl"); rfl))) | (simp [joined]; done)))); (· (apply td_top; k_extra "td")); (· (((refine Lib.enter (by assumption) rfl (fun h => nomatch h) rfl (by decide) ?_); k_extra "go"); (all_goals (k_extra "go"; repeat (refine Cal.ret (by assumption) (by k_extra "le") ?_; k_extra "go"))); (all_goals first | rfl | (show _ = _; (first | rfl | ((first | refine lst_eq ?_ | refine str_eq ?_ | skip); (with_reducible apply fl_eq); (· k_extra "fl"); (· k_extra "fl"); rfl))) | (simp [joined]; done)))); (refine ⟨?_, ?_⟩ <;> ((with_reducible apply sd_lit); (· k_extra "lb"); rfl))))
end

section
variable {C : Cx} (L : Lib C)
include L

theorem d_use1 {kw : List Nat} {e : V} (hk : kw = [119, 105, 116, 104] ∨ kw = [117, 115, 101] ∨ kw = [117, 115, 101, 116, 121, 112, 101]) (h : IsE C 2 e) : DeclOK C 16 1 400 (.tup [.str kw, .int 0, .lst [e]]) := by
  obtain ⟨xs, t, r, rfl, q, g1, g2, g3⟩ := h
  obtain ⟨q2, l2⟩ := sh L q g2 (by omega)
  have n1 : Ret C 4 5 [.lst [.str (joined [32] (t :: r))]] (.str (joined [32] (t :: r))) := by (((refine Lib.enter (by assumption) rfl (fun h => nomatch h) rfl (by decide) ?_); k_extra "go"); (all_goals (k_extra "go"; repeat (refine Cal.ret (by assumption) (by k_extra "le") ?_; k_extra "go"))); (all_goals first | rfl | (show _ = _; (first | rfl | ((first | refine lst_eq ?_ | refine str_eq ?_ | skip); (with_reducible apply fl_eq); (· k_extra "fl"); (· k_extra "fl"); rfl))) | (simp [joined]; done)))
  rcases hk with rfl | rfl | rfl
  · (apply d_mk; ((· rfl); (· (((refine Lib.enter (by assumption) rfl (fun h => nomatch h) rfl (by decide) ?_); k_extra "go"); (all_goals (k_extra "go"; repeat (refine Cal.ret (by assumption) (by k_extra "le") ?_; k_extra "go"))); (all_goals first | rfl | (show _ = _; (first | rfl | ((first | refine lst_eq ?_ | refine str_eq ?_ | skip); (with_reducible apply fl_eq); (· k_extra "fl"); (· k_extra "fl"); rfl))) | (simp [joined]; done)))); (· (apply td_top; k_extra "td")); (· (((refine Lib.enter (by assumption) rfl (fun h => nomatch h) rfl (by decide) ?_); k_extra "go"); (all_goals (k_extra "go"; repeat (refine Cal.ret (by assumption) (by k_extra "le") ?_; k_extra "go"))); (all_goals first | rfl | (show _ = _; (first | rfl | ((first | refine lst_eq ?_ | refine str_eq ?_ | skip); (with_reducible apply fl_eq); (· k_extra "fl"); (· k_extra "fl"); rfl))) | (simp [joined]; done)))); (refine ⟨?_, ?_⟩ <;> ((with_reducible apply sd_lit); (· k_extra "lb"); rfl))))
  · (apply d_mk; ((· rfl); (· (((refine Lib.enter (by assumption) rfl (fun h => nomatch h) rfl (by decide) ?_); k_extra "go"); (all_goals (k_extra "go"; repeat (refine Cal.ret (by assumption) (by k_extra "le") ?_; k_extra "go"))); (all_goals first | rfl | (show _ = _; (first | rfl | ((first | refine lst_eq ?_ | refine str_eq ?_ | skip); (with_reducible apply fl_eq); (· k_extra "fl"); (· k_extra "fl"); rfl))) | (simp [joined]; done)))); (· (apply td_top; k_extra "td")); (· (((refine Lib.enter (by assumption) rfl (fun h => nomatch h) rfl (by decide) ?_); k_extra "go"); (all_goals (k_extra "go"; repeat (refine Cal.ret (by assumption) (by k_extra "le") ?_; k_extra "go"))); (all_goals first | rfl | (show _ = _; (first | rfl | ((first | refine lst_eq ?_ | refine str_eq ?_ | skip); (with_reducible apply fl_eq); (· k_extra "fl"); (· k_extra "fl"); rfl))) | (simp [joined]; done)))); (refine ⟨?_, ?_⟩ <;> ((with_reducible apply sd_lit); (· k_extra "lb"); rfl))))
  · (apply d_mk; ((· rfl); (· (((refine Lib.enter (by assumption) rfl (fun h => nomatch h) rfl (by decide) ?_); k_extra "go"); (all_goals (k_extra "go"; repeat (refine Cal.ret (by assumption) (by k_extra "le") ?_; k_extra "go"))); (all_goals first | rfl | (show _ = _; (first | rfl | ((first | refine lst_eq ?_ | refine str_eq ?_ | skip); (with_reducible apply fl_eq); (· k_extra "fl"); (· k_extra "fl"); rfl))) | (simp [joined]; done)))); (· (apply td_top; k_extra "td")); (· (((refine Lib.enter (by assumption) rfl (fun h => nomatch h) rfl (by decide) ?_); k_extra "go"); (all_goals (k_extra "go"; repeat (refine Cal.ret (by assumption) (by k_extra "le") ?_; k_extra "go"))); (all_goals first | rfl | (show _ = _; (first | rfl | ((first | refine lst_eq ?_ | refine str_eq ?_ | skip); (with_reducible apply fl_eq); (· k_extra "fl"); (· k_extra "fl"); rfl))) | (simp [joined]; done)))); (refine ⟨?_, ?_⟩ <;> ((with_reducible apply sd_lit); (· k_extra "lb"); rfl))))
theorem d_use2 {kw : List Nat} {e e' : V} (hk : kw = [119, 105, 116, 104] ∨ kw = [117, 115, 101] ∨ kw = [117, 115, 101, 116, 121, 112, 101]) (h : IsE C 2 e) (h' : IsE C 2 e') : DeclOK C 16 1 400 (.tup [.str kw, .int 0, .lst [e, e']]) := by
  obtain ⟨xs, t, r, rfl, q, g1, g2, g3⟩ := h
  obtain ⟨q2, l2⟩ := sh L q g2 (by omega)
  obtain ⟨ys, u, v, rfl, p, f1, f2, f3⟩ := h'
  obtain ⟨p2, k2⟩ := sh L p f2 (by omega)
  have n1 : Ret C 4 5 [.lst [.str (joined [32] (t :: r)), .str (joined [32] (u :: v))]] (.str (joined [32] (t :: r) ++ [44, 32] ++ joined [32] (u :: v))) := by (((refine Lib.enter (by assumption) rfl (fun h => nomatch h) rfl (by decide) ?_); k_extra "go"); (all_goals (k_extra "go"; repeat (refine Cal.ret (by assumption) (by k_extra "le") ?_; k_extra "go"))); (all_goals first | rfl | (show _ = _; (first | rfl | ((first | refine lst_eq ?_ | refine str_eq ?_ | skip); (with_reducible apply fl_eq); (· k_extra "fl"); (· k_extra "fl"); rfl))) | (simp [joined]; done)))
  rcases hk with rfl | rfl | rfl
  · (apply d_mk; ((· rfl); (· (((refine Lib.enter (by assumption) rfl (fun h => nomatch h) rfl (by decide) ?_); k_extra "go"); (all_goals (k_extra "go"; repeat (refine Cal.ret (by assumption) (by k_extra "le") ?_; k_extra "go"))); (all_goals first | rfl | (show _ = _; (first | rfl | ((first | refine lst_eq ?_ | refine str_eq ?_ | skip); (with_reducible apply fl_eq); (· k_extra "fl"); (· k_extra "fl"); rfl))) | (simp [joined]; done)))); (· (apply td_top; k_extra "td")); (· (((refine Lib.enter (by assumption) rfl (fun h => nomatch h) rfl (by decide) ?_); k_extra "go"); (all_goals (k_extra "go"; repeat (refine Cal.ret (by assumption) (by k_extra "le") ?_; k_extra "go"))); (all_goals first | rfl | (show _ = _; (first | rfl | ((first | refine lst_eq ?_ | refine str_eq ?_ | skip); (with_reducible apply fl_eq); (· k_extra "fl"); (· k_extra "fl"); rfl))) | (simp [joined]; done)))); (refine ⟨?_, ?_⟩ <;> ((with_reducible apply sd_lit); (· k_extra "lb"); rfl))))
  · (apply d_mk; ((· rfl); (· (((refine Lib.enter (by assumption) rfl (fun h => nomatch h) rfl (by decide) ?_); k_extra "go"); (all_goals (k_extra "go"; repeat (refine Cal.ret (by assumption) (by k_extra "le") ?_; k_extra "go"))); (all_goals first | rfl | (show _ = _; (first | rfl | ((first | refine lst_eq ?_ | refine str_eq ?_ | skip); (with_reducible apply fl_eq); (· k_extra "fl"); (· k_extra "fl"); rfl))) | (simp [joined]; done)))); (· (apply td_top; k_extra "td")); (· (((refine Lib.enter (by assumption) rfl (fun h => nomatch h) rfl (by decide) ?_); k_extra "go"); (all_goals (k_extra "go"; repeat (refine Cal.ret (by assumption) (by k_extra "le") ?_; k_extra "go"))); (all_goals first | rfl | (show _ = _; (first | rfl | ((first | refine lst_eq ?_ | refine str_eq ?_ | skip); (with_reducible apply fl_eq); (· k_extra "fl"); (· k_extra "fl"); rfl))) | (simp [joined]; done)))); (refine ⟨?_, ?_⟩ <;> ((with_reducible apply sd_lit); (· k_extra "lb"); rfl))))
  · (apply d_mk; ((· rfl); (· (((refine Lib.enter (by assumption) rfl (fun h => nomatch h) rfl (by decide) ?_); k_extra "go"); (all_goals (k_extra "go"; repeat (refine Cal.ret (by assumption) (by k_extra "le") ?_; k_extra "go"))); (all_goals first | rfl | (show _ = _; (first | rfl | ((first | refine lst_eq ?_ | refine str_eq ?_ | skip); (with_reducible apply fl_eq); (· k_extra "fl"); (· k_extra "fl"); rfl))) | (simp [joined]; done)))); (· (apply td_top; k_extra "td")); (· (((refine Lib.enter (by assumption) rfl (fun h => nomatch h) rfl (by decide) ?_); k_extra "go"); (all_goals (k_extra "go"; repeat (refine Cal.ret (by assumption) (by k_extra "le") ?_; k_extra "go"))); (all_goals first | rfl | (show _ = _; (first | rfl | ((first | refine lst_eq ?_ | refine str_eq ?_ | skip); (with_reducible apply fl_eq); (· k_extra "fl"); (· k_extra "fl"); rfl))) | (simp [joined]; done)))); (refine ⟨?_, ?_⟩ <;> ((with_reducible apply sd_lit); (· k_extra "lb"); rfl))))

/-- what may stand in an entry's brackets -/
noncomputable def IsF (C : Cx) (v : V) : Prop := v = .none ∨ ∃ xs t r a, v = .tup xs ∧ Ret C 6 60 [v] (tv (t :: r)) ∧ Ret C 8 0 [LD, v] (.str a) ∧ Td false a (t :: r) ∧ a.length ≤ 400 ∧ r.length ≤ 30
theorem e_one_four : IsE C 2 (.tup [.str [114, 97, 110, 103, 101], .tup [.str [105, 110, 116], .int 1], .tup [.str [105, 110, 116], .int 4]]) := e_range1 L (e_int L (by decide) (by decide))
theorem f_range : IsF C (.tup [.str [114, 97, 110, 103, 101], .tup [.str [105, 110, 116], .int 1], .tup [.str [105, 110, 116], .int 4]]) := by
  obtain ⟨xs, t, r, e, q, g1, g2, g3⟩ := e_one_four L
  obtain ⟨q2, l2⟩ := sh L (e ▸ q) g2 (by omega)
  cases e
  refine .inr ⟨_, t, r, joined [32] (t :: r), rfl, q.ret (by k_extra "le") rfl, ?_, g1, by omega, by omega⟩
  (((refine Lib.enter (by assumption) rfl (fun h => nomatch h) rfl (by decide) ?_); k_extra "go"); (all_goals (k_extra "go"; repeat (refine Cal.ret (by assumption) (by k_extra "le") ?_; k_extra "go"))); (all_goals first | rfl | (show _ = _; (first | rfl | ((first | refine lst_eq ?_ | refine str_eq ?_ | skip); (with_reducible apply fl_eq); (· k_extra "fl"); (· k_extra "fl"); rfl))) | (simp [joined]; done)))
theorem f_sub {v : V} (h : IsK C v) : IsF C v := by
  obtain ⟨xs, t, r, a, rfl, q, q2, g1, g2, g3⟩ := h
  exact .inr ⟨_, t, r, a, rfl, q, q2, g1, g2, g3⟩

theorem d_entry {fam ps : V} (hf : IsF C fam) (hp : IsPs C ps) : DeclOK C 16 1 400 (.tup [.str [101, 110, 116, 114, 121], .int 0, .str [112, 117, 116], fam, ps]) := by
  obtain ⟨a, ts, w1, w2, tl, l1, l2⟩ := hp
  have ew : ∀ {us}, Ret C 14 72 [.tup [.str [101, 110, 116, 114, 121], .int 0, .str [112, 117, 116], fam, ps]] (tv us) → Ret C 15 73 [.tup [.str [101, 110, 116, 114, 121], .int 0, .str [112, 117, 116], fam, ps]] (tv us) := fun h => by
    ((refine Lib.enter (by assumption) rfl (fun h => nomatch h) rfl (by decide) ?_); k_extra "go")
    exact h.ret (by k_extra "le") rfl
  rcases hf with rfl | ⟨xs, t, r, b, rfl, q, q2, g1, g2, g3⟩
  · apply d_mk
    · rfl
    · (((refine Lib.enter (by assumption) rfl (fun h => nomatch h) rfl (by decide) ?_); k_extra "go"); (all_goals (k_extra "go"; repeat (refine Cal.ret (by assumption) (by k_extra "le") ?_; k_extra "go"))); (all_goals first | rfl | (show _ = _; (first | rfl | ((first | refine lst_eq ?_ | refine str_eq ?_ | skip); (with_reducible apply fl_eq); (· k_extra "fl"); (· k_extra "fl"); rfl))) | (simp [joined]; done)))
    · (apply td_top; k_extra "td")
    · refine (ew ?_).ret (by k_extra "le") rfl
      (((refine Lib.enter (by assumption) rfl (fun h => nomatch h) rfl (by decide) ?_); k_extra "go"); (all_goals (k_extra "go"; repeat (refine Cal.ret (by assumption) (by k_extra "le") ?_; k_extra "go"))); (all_goals first | rfl | (show _ = _; (first | rfl | ((first | refine lst_eq ?_ | refine str_eq ?_ | skip); (with_reducible apply fl_eq); (· k_extra "fl"); (· k_extra "fl"); rfl))) | (simp [joined]; done)))
    · refine ⟨?_, ?_⟩ <;> ((with_reducible apply sd_lit); (· k_extra "lb"); rfl)
  · apply d_mk
    · rfl
    · (((refine Lib.enter (by assumption) rfl (fun h => nomatch h) rfl (by decide) ?_); k_extra "go"); (all_goals (k_extra "go"; repeat (refine Cal.ret (by assumption) (by k_extra "le") ?_; k_extra "go"))); (all_goals first | rfl | (show _ = _; (first | rfl | ((first | refine lst_eq ?_ | refine str_eq ?_ | skip); (with_reducible apply fl_eq); (· k_extra "fl"); (· k_extra "fl"); rfl))) | (simp [joined]; done)))
    · (apply td_top; k_extra "td")
    · refine (ew ?_).ret (by k_extra "le") rfl
      (((refine Lib.enter (by assumption) rfl (fun h => nomatch h) rfl (by decide) ?_); k_extra "go"); (all_goals (k_extra "go"; repeat (refine Cal.ret (by assumption) (by k_extra "le") ?_; k_extra "go"))); (all_goals first | rfl | (show _ = _; (first | rfl | ((first | refine lst_eq ?_ | refine str_eq ?_ | skip); (with_reducible apply fl_eq); (· k_extra "fl"); (· k_extra "fl"); rfl))) | (simp [joined]; done)))
    · refine ⟨?_, ?_⟩ <;> ((with_reducible apply sd_lit); (· k_extra "lb"); rfl)
theorem c_entry : Cal C 6 53 [.deck] (DeclOK C 16 1 400) := by
  ((refine Lib.enter (by assumption) rfl (fun h => nomatch h) rfl (by decide) ?_); k_extra "go")
  refine L.draw3 ⟨?_, ?_, ?_⟩
  · k_extra "go"
    refine (c_params L).up (by k_extra "le") fun ps h => ?_
    k_extra "go"
    exact d_entry L (.inl rfl) h
  · k_extra "go"
    refine (c_params L).up (by k_extra "le") fun ps h => ?_
    k_extra "go"
    exact d_entry L (f_range L) h
  · k_extra "go"
    refine (c_params L).up (by k_extra "le") fun ps h => ?_
    k_extra "go"
    exact d_entry L (f_sub L (k_plain L (e_name L (gt_lit (Eq.refl true))))) h

/-- discriminants -/
noncomputable def IsD (C : Cx) (v : V) : Prop := ∃ a ts, Ret C 8 66 [v] (tv ts) ∧ Ret C 11 10 [LD, v] (.str a) ∧ Tail a ts ∧ a.length ≤ 1200 ∧ ts.length ≤ 150
theorem dd_none : IsD C .none := by
  refine ⟨[], [], ?_, ?_, tail_nil, by simp, by simp⟩
  · (((refine Lib.enter (by assumption) rfl (fun h => nomatch h) rfl (by decide) ?_); k_extra "go"); (all_goals (k_extra "go"; repeat (refine Cal.ret (by assumption) (by k_extra "le") ?_; k_extra "go"))); (all_goals first | rfl | (show _ = _; (first | rfl | ((first | refine lst_eq ?_ | refine str_eq ?_ | skip); (with_reducible apply fl_eq); (· k_extra "fl"); (· k_extra "fl"); rfl))) | (simp [joined]; done)))
  · (((refine Lib.enter (by assumption) rfl (fun h => nomatch h) rfl (by decide) ?_); k_extra "go"); (all_goals (k_extra "go"; repeat (refine Cal.ret (by assumption) (by k_extra "le") ?_; k_extra "go"))); (all_goals first | rfl | (show _ = _; (first | rfl | ((first | refine lst_eq ?_ | refine str_eq ?_ | skip); (with_reducible apply fl_eq); (· k_extra "fl"); (· k_extra "fl"); rfl))) | (simp [joined]; done)))
theorem dd_box : IsD C (.str [98, 111, 120]) := by
  refine ⟨_, _, ?_, ?_, tail_of ((lit_ok2 (a := [32, 40, 60, 62, 41]) rfl)) (stp_lit (Eq.refl true)), by decide, by decide⟩
  · (((refine Lib.enter (by assumption) rfl (fun h => nomatch h) rfl (by decide) ?_); k_extra "go"); (all_goals (k_extra "go"; repeat (refine Cal.ret (by assumption) (by k_extra "le") ?_; k_extra "go"))); (all_goals first | rfl | (show _ = _; (first | rfl | ((first | refine lst_eq ?_ | refine str_eq ?_ | skip); (with_reducible apply fl_eq); (· k_extra "fl"); (· k_extra "fl"); rfl))) | (simp [joined]; done)))
  · (((refine Lib.enter (by assumption) rfl (fun h => nomatch h) rfl (by decide) ?_); k_extra "go"); (all_goals (k_extra "go"; repeat (refine Cal.ret (by assumption) (by k_extra "le") ?_; k_extra "go"))); (all_goals first | rfl | (show _ = _; (first | rfl | ((first | refine lst_eq ?_ | refine str_eq ?_ | skip); (with_reducible apply fl_eq); (· k_extra "fl"); (· k_extra "fl"); rfl))) | (simp [joined]; done)))
omit L in
theorem dd_mk {v : V} {a : List Nat} {ts : List (List Nat)} (h1 : Ret C 11 10 [LD, v] (.str a)) (h2 : Td false a ts) (h3 : Ret C 8 66 [v] (tv ts)) (h4 : stpB a = true) (h5 : a.length ≤ 1200 ∧ ts.length ≤ 150) : IsD C v :=
  ⟨a, ts, h3, h1, tail_of h2 (stp_lit h4), h5.1, h5.2⟩
theorem dd_one {n k d : V} (hn : IsN C n) (hk : IsK C k) (hd : IsV C d) : IsD C (.lst [.tup [n, k, d]]) := by
  obtain ⟨s, ss, t, r, a, rfl, n1, n2, n3, n4, n5⟩ := hn
  obtain ⟨xs, t', r', a', rfl, k1, k2, k3, k4, k5⟩ := hk
  have k6 := kd L rfl k2
  obtain ⟨b, us, v1, v2, v3, v4, v5⟩ := vfacts L hd
  apply dd_mk
  · (((refine Lib.enter (by assumption) rfl (fun h => nomatch h) rfl (by decide) ?_); k_extra "go"); (all_goals (k_extra "go"; repeat (refine Cal.ret (by assumption) (by k_extra "le") ?_; k_extra "go"))); (all_goals first | rfl | (show _ = _; (first | rfl | ((first | refine lst_eq ?_ | refine str_eq ?_ | skip); (with_reducible apply fl_eq); (· k_extra "fl"); (· k_extra "fl"); rfl))) | (simp [joined]; done)))
  · (apply td_top; k_extra "td")
  · (((refine Lib.enter (by assumption) rfl (fun h => nomatch h) rfl (by decide) ?_); k_extra "go"); (all_goals (k_extra "go"; repeat (refine Cal.ret (by assumption) (by k_extra "le") ?_; k_extra "go"))); (all_goals first | rfl | (show _ = _; (first | rfl | ((first | refine lst_eq ?_ | refine str_eq ?_ | skip); (with_reducible apply fl_eq); (· k_extra "fl"); (· k_extra "fl"); rfl))) | (simp [joined]; done)))
  · rfl
  · refine ⟨?_, ?_⟩ <;> ((with_reducible apply sd_lit); (· k_extra "lb"); rfl)
theorem dd_two {n k d m l e : V} (hn : IsN C n) (hk : IsK C k) (hd : IsV C d) (hm : IsN C m) (hl : IsK C l) (he : IsV C e) : IsD C (.lst [.tup [n, k, d], .tup [m, l, e]]) := by
  obtain ⟨s, ss, t, r, a, rfl, n1, n2, n3, n4, n5⟩ := hn
  obtain ⟨xs, t', r', a', rfl, k1, k2, k3, k4, k5⟩ := hk
  have k6 := kd L rfl k2
  obtain ⟨b, us, v1, v2, v3, v4, v5⟩ := vfacts L hd
  obtain ⟨s', ss', u, w, c, rfl, m1, m2, m3, m4, m5⟩ := hm
  obtain ⟨ys, u', w', c', rfl, l1, l2, l3, l4, l5⟩ := hl
  have l6 := kd L rfl l2
  obtain ⟨b', us', e1, e2, e3, e4, e5⟩ := vfacts L he
  apply dd_mk
  · (((refine Lib.enter (by assumption) rfl (fun h => nomatch h) rfl (by decide) ?_); k_extra "go"); (all_goals (k_extra "go"; repeat (refine Cal.ret (by assumption) (by k_extra "le") ?_; k_extra "go"))); (all_goals first | rfl | (show _ = _; (first | rfl | ((first | refine lst_eq ?_ | refine str_eq ?_ | skip); (with_reducible apply fl_eq); (· k_extra "fl"); (· k_extra "fl"); rfl))) | (simp [joined]; done)))
  · (apply td_top; k_extra "td")
  · (((refine Lib.enter (by assumption) rfl (fun h => nomatch h) rfl (by decide) ?_); k_extra "go"); (all_goals (k_extra "go"; repeat (refine Cal.ret (by assumption) (by k_extra "le") ?_; k_extra "go"))); (all_goals first | rfl | (show _ = _; (first | rfl | ((first | refine lst_eq ?_ | refine str_eq ?_ | skip); (with_reducible apply fl_eq); (· k_extra "fl"); (· k_extra "fl"); rfl))) | (simp [joined]; done)))
  · rfl
  · refine ⟨?_, ?_⟩ <;> ((with_reducible apply sd_lit); (· k_extra "lb"); rfl)
theorem c_discs : Cal C 6 52 [.deck] (IsD C) := by
  have kt := k_plain L (e_name L (t := [116]) (gt_lit (Eq.refl true)))
  have nde := n_two L (a := [100]) (b := [101]) (gt_lit (Eq.refl true)) (gt_lit (Eq.refl true))
  have nf := n_one L (a := [102]) (gt_lit (Eq.refl true))
  ((refine Lib.enter (by assumption) rfl (fun h => nomatch h) rfl (by decide) ?_); k_extra "go")
  refine L.draw4 ⟨?_, ?_, ?_, ?_⟩
  · k_extra "go"
    exact dd_none L
  · k_extra "go"
    exact dd_box L
  · k_extra "go"
    refine (c_mark L).up (by k_extra "le") fun m hm => ?_
    k_extra "go"
    refine (c_value L).up (by k_extra "le") fun d hd => ?_
    k_extra "go"
    exact dd_one L nde (k_plain L hm) hd
  · k_extra "go"
    refine (c_mark L).up (by k_extra "le") fun m hm => ?_
    k_extra "go"
    refine (c_value L).up (by k_extra "le") fun d hd => ?_
    k_extra "go"
    exact dd_two L nde (k_plain L hm) hd nf kt (.inl rfl)

/-- statements with handlers -/
noncomputable def IsH (C : Cx) (v : V) : Prop := ∃ st hs rows ts, v = .tup [.lst st, .lst hs] ∧ st ≠ [] ∧ Ret C 12 4 [LD, .lst st, .lst hs] (tv rows) ∧ Ret C 8 67 [.lst st, .lst hs] (tv ts) ∧ RowsTk rows ts ∧ rows.length ≤ 12 ∧ (∀ x ∈ rows, x.length ≤ 3000) ∧ ts.length ≤ 60
omit L in
theorem h_mk {st hs : List V} {rows ts : List (List Nat)} (h0 : st ≠ []) (h1 : Ret C 12 4 [LD, .lst st, .lst hs] (tv rows)) (h2 : Ret C 8 67 [.lst st, .lst hs] (tv ts)) (h3 : RowsTk rows ts) (h4 : rows.length ≤ 12 ∧ ts.length ≤ 60) (h5 : ∀ x ∈ rows, x.length ≤ 3000) : IsH C (.tup [.lst st, .lst hs]) :=
  ⟨st, hs, rows, ts, rfl, h0, h1, h2, h3, h4.1, h5, h4.2⟩

theorem h_one : IsH C (.tup [.lst [.tup [.str [110, 117, 108, 108], .int 0]], .lst []]) := by
  refine h_mk (rows := [[98, 101, 103, 105, 110], [110, 117, 108, 108, 59]]) (ts := [[98, 101, 103, 105, 110], [110, 117, 108, 108], [59]]) (by simp) ?_ ?_ ?_ (by decide) (by decide)
  · ((repeat (((refine Lib.enter (by assumption) rfl (fun h => nomatch h) rfl (by decide) ?_); k_extra "go"))); (all_goals first | rfl | (show _ = _; (first | rfl | ((first | refine lst_eq ?_ | refine str_eq ?_ | skip); (with_reducible apply fl_eq); (· k_extra "fl"); (· k_extra "fl"); rfl))) | (simp [joined]; done)))
  · ((repeat (((refine Lib.enter (by assumption) rfl (fun h => nomatch h) rfl (by decide) ?_); k_extra "go"))); (all_goals first | rfl | (show _ = _; (first | rfl | ((first | refine lst_eq ?_ | refine str_eq ?_ | skip); (with_reducible apply fl_eq); (· k_extra "fl"); (· k_extra "fl"); rfl))) | (simp [joined]; done)))
  · exact .cons ((lit_ok2 (a := [98, 101, 103, 105, 110]) rfl)) (.one ((lit_ok2 (a := [110, 117, 108, 108, 59]) rfl)).weak)
theorem h_two : IsH C (.tup [.lst [.tup [.str [110, 117, 108, 108], .int 0], .tup [.str [110, 117, 108, 108], .int 0]], .lst [.tup [.lst [.tup [.str [111, 116, 104, 101, 114, 115]]], .lst [.tup [.str [110, 117, 108, 108], .int 0]]]]]) := by
  refine h_mk (rows := [[98, 101, 103, 105, 110], [110, 117, 108, 108, 59], [110, 117, 108, 108, 59], [101, 120, 99, 101, 112, 116, 105, 111, 110], [119, 104, 101, 110, 32, 111, 116, 104, 101, 114, 115, 32, 61, 62], [110, 117, 108, 108, 59]]) (ts := [[98, 101, 103, 105, 110], [110, 117, 108, 108], [59], [110, 117, 108, 108], [59], [101, 120, 99, 101, 112, 116, 105, 111, 110], [119, 104, 101, 110], [111, 116, 104, 101, 114, 115], [61, 62], [110, 117, 108, 108], [59]]) (by simp) ?_ ?_ ?_ (by decide) (by decide)
  · ((repeat (((refine Lib.enter (by assumption) rfl (fun h => nomatch h) rfl (by decide) ?_); k_extra "go"))); (all_goals first | rfl | (show _ = _; (first | rfl | ((first | refine lst_eq ?_ | refine str_eq ?_ | skip); (with_reducible apply fl_eq); (· k_extra "fl"); (· k_extra "fl"); rfl))) | (simp [joined]; done)))
  · ((repeat (((refine Lib.enter (by assumption) rfl (fun h => nomatch h) rfl (by decide) ?_); k_extra "go"))); (all_goals first | rfl | (show _ = _; (first | rfl | ((first | refine lst_eq ?_ | refine str_eq ?_ | skip); (with_reducible apply fl_eq); (· k_extra "fl"); (· k_extra "fl"); rfl))) | (simp [joined]; done)))
  · exact .cons ((lit_ok2 (a := [98, 101, 103, 105, 110]) rfl)) (.cons ((lit_ok2 (a := [110, 117, 108, 108, 59]) rfl)).weak (.cons ((lit_ok2 (a := [110, 117, 108, 108, 59]) rfl)).weak (.cons ((lit_ok2 (a := [101, 120, 99, 101, 112, 116, 105, 111, 110]) rfl)) (.cons ((lit_ok2 (a := [119, 104, 101, 110, 32, 111, 116, 104, 101, 114, 115, 32, 61, 62]) rfl)).weak (.one ((lit_ok2 (a := [110, 117, 108, 108, 59]) rfl)).weak)))))
theorem h_three : IsH C (.tup [.lst [.tup [.str [110, 117, 108, 108], .int 0], .tup [.str [110, 117, 108, 108], .int 0]], .lst [.tup [.lst [.tup [.str [110, 97, 109, 101], .str [111, 111, 112, 115]], .tup [.str [110, 97, 109, 101], .str [108, 97, 116, 101]]], .lst [.tup [.str [110, 117, 108, 108], .int 0]]], .tup [.lst [.tup [.str [111, 116, 104, 101, 114, 115]]], .lst [.tup [.str [110, 117, 108, 108], .int 0]]]]]) := by
  refine h_mk (rows := [[98, 101, 103, 105, 110], [110, 117, 108, 108, 59], [110, 117, 108, 108, 59], [101, 120, 99, 101, 112, 116, 105, 111, 110], [119, 104, 101, 110, 32, 111, 111, 112, 115, 32, 124, 32, 108, 97, 116, 101, 32, 61, 62], [110, 117, 108, 108, 59], [119, 104, 101, 110, 32, 111, 116, 104, 101, 114, 115, 32, 61, 62], [110, 117, 108, 108, 59]]) (ts := [[98, 101, 103, 105, 110], [110, 117, 108, 108], [59], [110, 117, 108, 108], [59], [101, 120, 99, 101, 112, 116, 105, 111, 110], [119, 104, 101, 110], [111, 111, 112, 115], [124], [108, 97, 116, 101], [61, 62], [110, 117, 108, 108], [59], [119, 104, 101, 110], [111, 116, 104, 101, 114, 115], [61, 62], [110, 117, 108, 108], [59]]) (by simp) ?_ ?_ ?_ (by decide) (by decide)
  · ((repeat (((refine Lib.enter (by assumption) rfl (fun h => nomatch h) rfl (by decide) ?_); k_extra "go"))); (all_goals first | rfl | (show _ = _; (first | rfl | ((first | refine lst_eq ?_ | refine str_eq ?_ | skip); (with_reducible apply fl_eq); (· k_extra "fl"); (· k_extra "fl"); rfl))) | (simp [joined]; done)))
  · ((repeat (((refine Lib.enter (by assumption) rfl (fun h => nomatch h) rfl (by decide) ?_); k_extra "go"))); (all_goals first | rfl | (show _ = _; (first | rfl | ((first | refine lst_eq ?_ | refine str_eq ?_ | skip); (with_reducible apply fl_eq); (· k_extra "fl"); (· k_extra "fl"); rfl))) | (simp [joined]; done)))
  · exact .cons ((lit_ok2 (a := [98, 101, 103, 105, 110]) rfl)) (.cons ((lit_ok2 (a := [110, 117, 108, 108, 59]) rfl)).weak (.cons ((lit_ok2 (a := [110, 117, 108, 108, 59]) rfl)).weak (.cons ((lit_ok2 (a := [101, 120, 99, 101, 112, 116, 105, 111, 110]) rfl)) (.cons ((lit_ok2 (a := [119, 104, 101, 110, 32, 111, 111, 112, 115, 32, 124, 32, 108, 97, 116, 101, 32, 61, 62]) rfl)).weak (.cons ((lit_ok2 (a := [110, 117, 108, 108, 59]) rfl)).weak (.cons ((lit_ok2 (a := [119, 104, 101, 110, 32, 111, 116, 104, 101, 114, 115, 32, 61, 62]) rfl)).weak (.one ((lit_ok2 (a := [110, 117, 108, 108, 59]) rfl)).weak)))))))
theorem c_handled : Cal C 3 54 [.deck] (IsH C) := by
  ((refine Lib.enter (by assumption) rfl (fun h => nomatch h) rfl (by decide) ?_); k_extra "go")
  refine L.draw2 ⟨?_, ?_⟩
  · k_extra "go"
    exact h_one L
  · k_extra "go"
    refine L.draw2 ⟨?_, ?_⟩
    · k_extra "go"
      exact h_three L
    · k_extra "go"
      exact h_two L
end

/-- a declaration with its rows and its tokens -/
noncomputable def DeclIs (C : Cx) (n w : Nat) (v : V) (rows ts : List (List Nat)) : Prop := ∃ word rest f, v = .tup (.str word :: rest) ∧ dlook LK LV word = some (.fn f) ∧ Ret C n f [LD, v] (tv rows) ∧ Ret C n w [v] (tv ts) ∧ RowsTk rows ts ∧ (∀ x ∈ rows, x.length ≤ 3000)
inductive DsIs (C : Cx) (n w : Nat) : List V → List (List Nat) → List (List Nat) → Prop
  | nil : DsIs C n w [] [] []
  | cons {d : V} {ds : List V} {rows ts rows' ts' : List (List Nat)} : DeclIs C n w d rows ts → DsIs C n w ds rows' ts' → DsIs C n w (d :: ds) (rows ++ rows') (ts ++ ts')
theorem DsIs.tk {C : Cx} {n w : Nat} {ds : List V} {rows ts : List (List Nat)} (h : DsIs C n w ds rows ts) : RowsTk rows ts ∧ ∀ x ∈ rows, x.length ≤ 3000 := by
  induction h with
  | nil => exact ⟨.nil, by simp⟩
  | cons h1 _ ih =>
    obtain ⟨_, _, _, _, _, _, _, h2, h3⟩ := h1
    exact ⟨h2.app ih.1, fun x hx => (List.mem_append.mp hx).elim (h3 x) (ih.2 x)⟩

section
variable {C : Cx} (L : Lib C)
include L

theorem lr_loop {n w : Nat} {ds : List V} {rows ts : List (List Nat)} (h : DsIs C n w ds rows ts) : ∀ (us : List V) (v : V) (x3 : Option V) (N : List (Option V) → Option (List V) → Prop) (R : V → Prop), us.length + rows.length ≤ 100000 → (∀ x3, N [some LD, some v, none, x3] (some (us ++ rows.map V.str))) →
    loopW (fun v' ρ' o' N' => match bindT (.one 3) v' ρ' with
      | some ρ'' => wpSs (Cal C n) 2 (loopBody b2) ρ'' o' N' R
      | none => False) ds [some LD, some v, none, x3] (some us) N := by
  induction h with
  | nil =>
    intro us v x3 N R hz hN
    have := hN x3
    simpa [loopW] using this
  | @cons d ds rows ts rows' ts' h1 _ ih =>
    intro us v x3 N R hz hN
    obtain ⟨word, rest, f, rfl, hf, q1, q2, q3, q4⟩ := h1
    show wpSs (Cal C n) 2 (loopBody b2) [some LD, some v, none, some (V.tup (.str word :: rest))] (some us) _ R
    simp only [List.length_append] at hz
    (conv => whnf)
    refine And.intro (by k_extra "side") ?_
    (conv => whnf)
    rw [hf]
    (conv => whnf)
    refine q1.ret (by k_extra "le") ?_
    (conv => whnf)
    refine And.intro (by simp [lim]; omega) ?_
    refine ih _ v _ N R (by simp; omega) fun x3 => ?_
    have := hN x3
    simpa using this

theorem lr {n w : Nat} {ds : List V} {rows ts : List (List Nat)} (h : DsIs C n w ds rows ts) (h1 : rows.length ≤ 50000) (h2 : ds.length ≤ 10) : Ret C (n + 1) 2 [LD, .lst ds] (tv rows) := by
  (refine Lib.enter (by assumption) rfl (fun h => nomatch h) rfl (by decide) ?_)
  (conv => whnf)
  refine And.intro (by k_extra "side") ?_
  refine LoopV.mk (lr_loop L h [] (.lst ds) none _ _ (by simp; omega) fun x3 => ?_)
  (conv => whnf)
  simp

theorem wa_loop {n : Nat} {ds : List V} {rows ts : List (List Nat)} (h : DsIs C n 73 ds rows ts) : ∀ (us : List V) (v : V) (x2 : Option V) (N : List (Option V) → Option (List V) → Prop) (R : V → Prop), us.length + ts.length ≤ 1000000 → (∀ x2, N [some v, some (.lst (us ++ ts.map V.str)), x2] none) →
    loopW (fun v' ρ' o' N' => match bindT (.one 2) v' ρ' with
      | some ρ'' => wpSs (Cal C n) 99 (loopBody b69) ρ'' o' N' R
      | none => False) ds [some v, some (.lst us), x2] none N := by
  induction h with
  | nil =>
    intro us v x3 N R hz hN
    have := hN x3
    simpa [loopW] using this
  | @cons d ds rows ts rows' ts' h1 _ ih =>
    intro us v x3 N R hz hN
    obtain ⟨word, rest, f, rfl, hf, q1, q2, q3, q4⟩ := h1
    show wpSs (Cal C n) 99 (loopBody b69) [some v, some (.lst us), some (V.tup (.str word :: rest))] none _ R
    simp only [List.length_append] at hz
    (conv => whnf)
    refine And.intro (by k_extra "side") ?_
    (conv => whnf)
    refine q2.ret (by k_extra "le") ?_
    (conv => whnf)
    refine And.intro (by simp [lim]; omega) ?_
    refine ih _ v _ N R (by simp; omega) fun x3 => ?_
    have := hN x3
    simpa using this
theorem wa {n : Nat} {ds : List V} {rows ts : List (List Nat)} (h : DsIs C n 73 ds rows ts) (h1 : ts.length ≤ 500000) (h2 : ds.length ≤ 10) : Ret C (n + 1) 69 [.lst ds] (tv ts) := by
  (refine Lib.enter (by assumption) rfl (fun h => nomatch h) rfl (by decide) ?_)
  (conv => whnf)
  refine And.intro (by k_extra "side") ?_
  (conv => whnf)
  refine And.intro (by k_extra "side") ?_
  refine LoopV.mk (wa_loop L h [] (.lst ds) none _ _ (by simp; omega) fun x3 => ?_)
  (conv => whnf)
  simp
end

/-- a list of declarations -/
noncomputable def DsOK (C : Cx) (n R T : Nat) (v : V) : Prop := ∃ ds rows ts, v = .lst ds ∧ DsIs C n 73 ds rows ts ∧ rows.length ≤ R ∧ ts.length ≤ T ∧ ds.length ≤ 3
theorem DeclOK.is {C : Cx} {n R T : Nat} {v : V} (h : DeclOK C n R T v) : ∃ rows ts, DeclIs C n 73 v rows ts ∧ rows.length ≤ R ∧ ts.length ≤ T := by
  obtain ⟨word, rest, f, rows, ts, e, hf, q1, q2, k, l1, l2, l3⟩ := h
  exact ⟨rows, ts, ⟨word, rest, f, e, hf, q1, q2, k, l2⟩, l1, l3⟩
theorem DeclOK.up {C : Cx} {n m R T R' T' : Nat} {v : V} (h : DeclOK C n R T v) (h1 : n ≤ m) (h2 : R ≤ R') (h3 : T ≤ T') : DeclOK C m R' T' v := by
  obtain ⟨word, rest, f, rows, ts, e, hf, q1, q2, k, l1, l2, l3⟩ := h
  exact ⟨word, rest, f, rows, ts, e, hf, q1.ret h1 rfl, q2.ret h1 rfl, k, Nat.le_trans l1 h2, l2, Nat.le_trans l3 h3⟩
theorem dn_mk {C : Cx} {n R T : Nat} {word : List Nat} {rest : List V} {f : Nat} {rows ts : List (List Nat)} (hf : dlook LK LV word = some (.fn f)) (h1 : Ret C n f [LD, .tup (.str word :: rest)] (tv rows)) (h2 : RowsTk rows ts) (h3 : Ret C n 73 [.tup (.str word :: rest)] (tv ts)) (h4 : rows.length ≤ R ∧ ts.length ≤ T) (h5 : ∀ x ∈ rows, x.length ≤ 3000) :
    DeclOK C n R T (.tup (.str word :: rest)) := ⟨word, rest, f, rows, ts, rfl, hf, h1, h3, h2, h4.1, h5, h4.2⟩
theorem ds_nil {C : Cx} {n R T : Nat} : DsOK C n R T (.lst []) := ⟨[], [], [], rfl, .nil, by simp, by simp, by simp⟩
theorem ds_one {C : Cx} {n R T : Nat} {v : V} (h : DeclOK C n R T v) : DsOK C n R T (.lst [v]) := by
  obtain ⟨rows, ts, k, l1, l2⟩ := h.is
  exact ⟨[v], _, _, rfl, .cons k .nil, by simpa using l1, by simpa using l2, by simp⟩
theorem ds_two {C : Cx} {n R T : Nat} {v w : V} (h : DeclOK C n R T v) (h' : DeclOK C n R T w) : DsOK C n (2 * R) (2 * T) (.lst [v, w]) := by
  obtain ⟨rows, ts, k, l1, l2⟩ := h.is
  obtain ⟨rows', ts', k', l1', l2'⟩ := h'.is
  exact ⟨[v, w], _, _, rfl, .cons k (.cons k' .nil), by simp; omega, by simp; omega, by simp⟩
theorem DsOK.up {C : Cx} {n R T R' T' : Nat} {v : V} (h : DsOK C n R T v) (h2 : R ≤ R') (h3 : T ≤ T') : DsOK C n R' T' v := by
  obtain ⟨ds, rows, ts, e, k, l1, l2, l3⟩ := h
  exact ⟨ds, rows, ts, e, k, Nat.le_trans l1 h2, Nat.le_trans l2 h3, l3⟩

theorem all_app {a b : List (List Nat)} (h : ∀ x ∈ a, x.length ≤ 3000) (k : ∀ x ∈ b, x.length ≤ 3000) : ∀ x ∈ a ++ b, x.length ≤ 3000 := fun x hx => (List.mem_append.mp hx).elim (h x) (k x)
theorem all_cons {a : List Nat} {b : List (List Nat)} (h : a.length ≤ 3000) (k : ∀ x ∈ b, x.length ≤ 3000) : ∀ x ∈ a :: b, x.length ≤ 3000 := fun x hx => (List.mem_cons.mp hx).elim (fun z => z ▸ h) (k x)
theorem all_nil : ∀ x ∈ ([] : List (List Nat)), x.length ≤ 3000 := by simp

section
variable {C : Cx} (L : Lib C)
include L

/-- the facts of a list of declarations -/
theorem dsf {n R T : Nat} {v : V} (h : DsOK C n R T v) (hR : R ≤ 2000) (hT : T ≤ 50000) : (v = .lst [] ∧ Ret C (n + 1) 2 [LD, v] (tv []) ∧ Ret C (n + 1) 69 [v] (tv [])) ∨ ∃ d ds rows ts, v = .lst (d :: ds) ∧ Ret C (n + 1) 2 [LD, v] (tv rows) ∧ Ret C (n + 1) 69 [v] (tv ts) ∧ RowsTk rows ts ∧ (∀ x ∈ rows, x.length ≤ 3000) ∧ rows.length ≤ R ∧ ts.length ≤ T := by
  obtain ⟨ds, rows, ts, rfl, k, l1, l2, l3⟩ := h
  have q1 := lr L k (by omega) (by omega)
  have q2 := wa L k (by omega) (by omega)
  obtain ⟨t1, t2⟩ := k.tk
  cases ds with
  | nil => cases k; exact .inl ⟨rfl, q1, q2⟩
  | cons d ds => exact .inr ⟨d, ds, rows, ts, rfl, q1, q2, t1, t2, l1, l2⟩



theorem d_package {n R T : Nat} {v w : V} (hv : DsOK C n R T v) (hw : DsOK C n R T w) (hR : R ≤ 2000) (hT : T ≤ 50000) : DeclOK C (n + 6) (2 * R + 40) (2 * T + 900) (.tup [.str [112, 97, 99, 107, 97, 103, 101], .int 0, .str [98, 111, 120, 95, 111, 102], v, w]) := by
  have h1 := (lit_ok2 (a := [112, 97, 99, 107, 97, 103, 101, 32, 98, 111, 120, 95, 111, 102, 32, 105, 115]) rfl)
  have h2 := (lit_ok2 (a := [112, 114, 105, 118, 97, 116, 101]) rfl)
  have h3 := (lit_ok2 (a := [101, 110, 100, 32, 98, 111, 120, 95, 111, 102, 59]) rfl)
  rcases dsf L hv hR hT with ⟨rfl, v1, v2⟩ | ⟨d, ds, rows, ts, rfl, v1, v2, v3, v4, v5, v6⟩ <;> rcases dsf L hw hR hT with ⟨rfl, w1, w2⟩ | ⟨d', ds', rows', ts', rfl, w1, w2, w3, w4, w5, w6⟩
  · refine dn_mk (f := 24) (rows := [[112, 97, 99, 107, 97, 103, 101, 32, 98, 111, 120, 95, 111, 102, 32, 105, 115], [101, 110, 100, 32, 98, 111, 120, 95, 111, 102, 59]]) (ts := [[112, 97, 99, 107, 97, 103, 101], [98, 111, 120, 95, 111, 102], [105, 115], [101, 110, 100], [98, 111, 120, 95, 111, 102], [59]]) rfl ?_ ((RowsTk.cons h1 (.one h3.weak)).cast (by (first | rfl | ((first | refine lst_eq ?_ | refine str_eq ?_ | skip); (with_reducible apply fl_eq); (· k_extra "fl"); (· k_extra "fl"); rfl))) (by (first | rfl | ((first | refine lst_eq ?_ | refine str_eq ?_ | skip); (with_reducible apply fl_eq); (· k_extra "fl"); (· k_extra "fl"); rfl)))) ?_ (by (refine ⟨?_, ?_⟩ <;> ((apply Nat.le_trans); (· k_extra "lb"); omega))) (all_cons (by decide) (all_cons (by decide) all_nil))
    · (((refine Lib.enter (by assumption) rfl (fun h => nomatch h) rfl (by decide) ?_); k_extra "go"); (all_goals (k_extra "go"; repeat (refine Cal.ret (by assumption) (by k_extra "le") ?_; k_extra "go"))); (all_goals first | rfl | (show _ = _; (first | rfl | ((first | refine lst_eq ?_ | refine str_eq ?_ | skip); (with_reducible apply fl_eq); (· k_extra "fl"); (· k_extra "fl"); rfl))) | (simp [joined]; done)))
    · (((refine Lib.enter (by assumption) rfl (fun h => nomatch h) rfl (by decide) ?_); k_extra "go"); (((refine Lib.enter (by assumption) rfl (fun h => nomatch h) rfl (by decide) ?_); k_extra "go"); (all_goals (k_extra "go"; repeat (refine Cal.ret (by assumption) (by k_extra "le") ?_; k_extra "go"))); (all_goals first | rfl | (show _ = _; (first | rfl | ((first | refine lst_eq ?_ | refine str_eq ?_ | skip); (with_reducible apply fl_eq); (· k_extra "fl"); (· k_extra "fl"); rfl))) | (simp [joined]; done))))
  · refine dn_mk (f := 24) (rows := [112, 97, 99, 107, 97, 103, 101, 32, 98, 111, 120, 95, 111, 102, 32, 105, 115] :: [112, 114, 105, 118, 97, 116, 101] :: rows' ++ [[101, 110, 100, 32, 98, 111, 120, 95, 111, 102, 59]]) (ts := [112, 97, 99, 107, 97, 103, 101] :: [98, 111, 120, 95, 111, 102] :: [105, 115] :: [112, 114, 105, 118, 97, 116, 101] :: ts' ++ [[101, 110, 100], [98, 111, 120, 95, 111, 102], [59]]) rfl ?_ (((RowsTk.cons h1 (.cons h2 w3)).app (.one h3.weak)).cast (by (first | rfl | ((first | refine lst_eq ?_ | refine str_eq ?_ | skip); (with_reducible apply fl_eq); (· k_extra "fl"); (· k_extra "fl"); rfl))) (by (first | rfl | ((first | refine lst_eq ?_ | refine str_eq ?_ | skip); (with_reducible apply fl_eq); (· k_extra "fl"); (· k_extra "fl"); rfl)))) ?_ (by (refine ⟨?_, ?_⟩ <;> ((apply Nat.le_trans); (· k_extra "lb"); omega))) (all_app (all_cons (by decide) (all_cons (by decide) w4)) (all_cons (by decide) all_nil))
    · (((refine Lib.enter (by assumption) rfl (fun h => nomatch h) rfl (by decide) ?_); k_extra "go"); (all_goals (k_extra "go"; repeat (refine Cal.ret (by assumption) (by k_extra "le") ?_; k_extra "go"))); (all_goals first | rfl | (show _ = _; (first | rfl | ((first | refine lst_eq ?_ | refine str_eq ?_ | skip); (with_reducible apply fl_eq); (· k_extra "fl"); (· k_extra "fl"); rfl))) | (simp [joined]; done)))
    · (((refine Lib.enter (by assumption) rfl (fun h => nomatch h) rfl (by decide) ?_); k_extra "go"); (((refine Lib.enter (by assumption) rfl (fun h => nomatch h) rfl (by decide) ?_); k_extra "go"); (all_goals (k_extra "go"; repeat (refine Cal.ret (by assumption) (by k_extra "le") ?_; k_extra "go"))); (all_goals first | rfl | (show _ = _; (first | rfl | ((first | refine lst_eq ?_ | refine str_eq ?_ | skip); (with_reducible apply fl_eq); (· k_extra "fl"); (· k_extra "fl"); rfl))) | (simp [joined]; done))))
  · refine dn_mk (f := 24) (rows := [112, 97, 99, 107, 97, 103, 101, 32, 98, 111, 120, 95, 111, 102, 32, 105, 115] :: rows ++ [[101, 110, 100, 32, 98, 111, 120, 95, 111, 102, 59]]) (ts := [112, 97, 99, 107, 97, 103, 101] :: [98, 111, 120, 95, 111, 102] :: [105, 115] :: ts ++ [[101, 110, 100], [98, 111, 120, 95, 111, 102], [59]]) rfl ?_ (((RowsTk.cons h1 v3).app (.one h3.weak)).cast (by (first | rfl | ((first | refine lst_eq ?_ | refine str_eq ?_ | skip); (with_reducible apply fl_eq); (· k_extra "fl"); (· k_extra "fl"); rfl))) (by (first | rfl | ((first | refine lst_eq ?_ | refine str_eq ?_ | skip); (with_reducible apply fl_eq); (· k_extra "fl"); (· k_extra "fl"); rfl)))) ?_ (by (refine ⟨?_, ?_⟩ <;> ((apply Nat.le_trans); (· k_extra "lb"); omega))) (all_app (all_cons (by decide) v4) (all_cons (by decide) all_nil))
    · (((refine Lib.enter (by assumption) rfl (fun h => nomatch h) rfl (by decide) ?_); k_extra "go"); (all_goals (k_extra "go"; repeat (refine Cal.ret (by assumption) (by k_extra "le") ?_; k_extra "go"))); (all_goals first | rfl | (show _ = _; (first | rfl | ((first | refine lst_eq ?_ | refine str_eq ?_ | skip); (with_reducible apply fl_eq); (· k_extra "fl"); (· k_extra "fl"); rfl))) | (simp [joined]; done)))
    · (((refine Lib.enter (by assumption) rfl (fun h => nomatch h) rfl (by decide) ?_); k_extra "go"); (((refine Lib.enter (by assumption) rfl (fun h => nomatch h) rfl (by decide) ?_); k_extra "go"); (all_goals (k_extra "go"; repeat (refine Cal.ret (by assumption) (by k_extra "le") ?_; k_extra "go"))); (all_goals first | rfl | (show _ = _; (first | rfl | ((first | refine lst_eq ?_ | refine str_eq ?_ | skip); (with_reducible apply fl_eq); (· k_extra "fl"); (· k_extra "fl"); rfl))) | (simp [joined]; done))))
  · refine dn_mk (f := 24) (rows := [112, 97, 99, 107, 97, 103, 101, 32, 98, 111, 120, 95, 111, 102, 32, 105, 115] :: rows ++ [112, 114, 105, 118, 97, 116, 101] :: rows' ++ [[101, 110, 100, 32, 98, 111, 120, 95, 111, 102, 59]]) (ts := [112, 97, 99, 107, 97, 103, 101] :: [98, 111, 120, 95, 111, 102] :: [105, 115] :: ts ++ [112, 114, 105, 118, 97, 116, 101] :: ts' ++ [[101, 110, 100], [98, 111, 120, 95, 111, 102], [59]]) rfl ?_ ((((RowsTk.cons h1 v3).app (.cons h2 w3)).app (.one h3.weak)).cast (by (first | rfl | ((first | refine lst_eq ?_ | refine str_eq ?_ | skip); (with_reducible apply fl_eq); (· k_extra "fl"); (· k_extra "fl"); rfl))) (by (first | rfl | ((first | refine lst_eq ?_ | refine str_eq ?_ | skip); (with_reducible apply fl_eq); (· k_extra "fl"); (· k_extra "fl"); rfl)))) ?_ (by (refine ⟨?_, ?_⟩ <;> ((apply Nat.le_trans); (· k_extra "lb"); omega))) (all_app (all_app (all_cons (by decide) v4) (all_cons (by decide) w4)) (all_cons (by decide) all_nil))
    · (((refine Lib.enter (by assumption) rfl (fun h => nomatch h) rfl (by decide) ?_); k_extra "go"); (all_goals (k_extra "go"; repeat (refine Cal.ret (by assumption) (by k_extra "le") ?_; k_extra "go"))); (all_goals first | rfl | (show _ = _; (first | rfl | ((first | refine lst_eq ?_ | refine str_eq ?_ | skip); (with_reducible apply fl_eq); (· k_extra "fl"); (· k_extra "fl"); rfl))) | (simp [joined]; done)))
    · (((refine Lib.enter (by assumption) rfl (fun h => nomatch h) rfl (by decide) ?_); k_extra "go"); (((refine Lib.enter (by assumption) rfl (fun h => nomatch h) rfl (by decide) ?_); k_extra "go"); (all_goals (k_extra "go"; repeat (refine Cal.ret (by assumption) (by k_extra "le") ?_; k_extra "go"))); (all_goals first | rfl | (show _ = _; (first | rfl | ((first | refine lst_eq ?_ | refine str_eq ?_ | skip); (with_reducible apply fl_eq); (· k_extra "fl"); (· k_extra "fl"); rfl))) | (simp [joined]; done))))

theorem d_package2 {n R T : Nat} {v w : V} (hv : DsOK C n R T v) (hw : DsOK C n R T w) (hR : R ≤ 2000) (hT : T ≤ 50000) : DeclOK C (n + 6) (2 * R + 40) (2 * T + 900) (.tup [.str [112, 97, 99, 107, 97, 103, 101], .int 0, .str [109, 97, 100, 101, 95, 111, 102], v, w]) := by
  have h1 := (lit_ok2 (a := [112, 97, 99, 107, 97, 103, 101, 32, 109, 97, 100, 101, 95, 111, 102, 32, 105, 115]) rfl)
  have h2 := (lit_ok2 (a := [112, 114, 105, 118, 97, 116, 101]) rfl)
  have h3 := (lit_ok2 (a := [101, 110, 100, 32, 109, 97, 100, 101, 95, 111, 102, 59]) rfl)
  rcases dsf L hv hR hT with ⟨rfl, v1, v2⟩ | ⟨d, ds, rows, ts, rfl, v1, v2, v3, v4, v5, v6⟩ <;> rcases dsf L hw hR hT with ⟨rfl, w1, w2⟩ | ⟨d', ds', rows', ts', rfl, w1, w2, w3, w4, w5, w6⟩
  · refine dn_mk (f := 24) (rows := [[112, 97, 99, 107, 97, 103, 101, 32, 109, 97, 100, 101, 95, 111, 102, 32, 105, 115], [101, 110, 100, 32, 109, 97, 100, 101, 95, 111, 102, 59]]) (ts := [[112, 97, 99, 107, 97, 103, 101], [109, 97, 100, 101, 95, 111, 102], [105, 115], [101, 110, 100], [109, 97, 100, 101, 95, 111, 102], [59]]) rfl ?_ ((RowsTk.cons h1 (.one h3.weak)).cast (by (first | rfl | ((first | refine lst_eq ?_ | refine str_eq ?_ | skip); (with_reducible apply fl_eq); (· k_extra "fl"); (· k_extra "fl"); rfl))) (by (first | rfl | ((first | refine lst_eq ?_ | refine str_eq ?_ | skip); (with_reducible apply fl_eq); (· k_extra "fl"); (· k_extra "fl"); rfl)))) ?_ (by (refine ⟨?_, ?_⟩ <;> ((apply Nat.le_trans); (· k_extra "lb"); omega))) (all_cons (by decide) (all_cons (by decide) all_nil))
    · (((refine Lib.enter (by assumption) rfl (fun h => nomatch h) rfl (by decide) ?_); k_extra "go"); (all_goals (k_extra "go"; repeat (refine Cal.ret (by assumption) (by k_extra "le") ?_; k_extra "go"))); (all_goals first | rfl | (show _ = _; (first | rfl | ((first | refine lst_eq ?_ | refine str_eq ?_ | skip); (with_reducible apply fl_eq); (· k_extra "fl"); (· k_extra "fl"); rfl))) | (simp [joined]; done)))
    · (((refine Lib.enter (by assumption) rfl (fun h => nomatch h) rfl (by decide) ?_); k_extra "go"); (((refine Lib.enter (by assumption) rfl (fun h => nomatch h) rfl (by decide) ?_); k_extra "go"); (all_goals (k_extra "go"; repeat (refine Cal.ret (by assumption) (by k_extra "le") ?_; k_extra "go"))); (all_goals first | rfl | (show _ = _; (first | rfl | ((first | refine lst_eq ?_ | refine str_eq ?_ | skip); (with_reducible apply fl_eq); (· k_extra "fl"); (· k_extra "fl"); rfl))) | (simp [joined]; done))))
  · refine dn_mk (f := 24) (rows := [112, 97, 99, 107, 97, 103, 101, 32, 109, 97, 100, 101, 95, 111, 102, 32, 105, 115] :: [112, 114, 105, 118, 97, 116, 101] :: rows' ++ [[101, 110, 100, 32, 109, 97, 100, 101, 95, 111, 102, 59]]) (ts := [112, 97, 99, 107, 97, 103, 101] :: [109, 97, 100, 101, 95, 111, 102] :: [105, 115] :: [112, 114, 105, 118, 97, 116, 101] :: ts' ++ [[101, 110, 100], [109, 97, 100, 101, 95, 111, 102], [59]]) rfl ?_ (((RowsTk.cons h1 (.cons h2 w3)).app (.one h3.weak)).cast (by (first | rfl | ((first | refine lst_eq ?_ | refine str_eq ?_ | skip); (with_reducible apply fl_eq); (· k_extra "fl"); (· k_extra "fl"); rfl))) (by (first | rfl | ((first | refine lst_eq ?_ | refine str_eq ?_ | skip); (with_reducible apply fl_eq); (· k_extra "fl"); (· k_extra "fl"); rfl)))) ?_ (by (refine ⟨?_, ?_⟩ <;> ((apply Nat.le_trans); (· k_extra "lb"); omega))) (all_app (all_cons (by decide) (all_cons (by decide) w4)) (all_cons (by decide) all_nil))
    · (((refine Lib.enter (by assumption) rfl (fun h => nomatch h) rfl (by decide) ?_); k_extra "go"); (all_goals (k_extra "go"; repeat (refine Cal.ret (by assumption) (by k_extra "le") ?_; k_extra "go"))); (all_goals first | rfl | (show _ = _; (first | rfl | ((first | refine lst_eq ?_ | refine str_eq ?_ | skip); (with_reducible apply fl_eq); (· k_extra "fl"); (· k_extra "fl"); rfl))) | (simp [joined]; done)))
    · (((refine Lib.enter (by assumption) rfl (fun h => nomatch h) rfl (by decide) ?_); k_extra "go"); (((refine Lib.enter (by assumption) rfl (fun h => nomatch h) rfl (by decide) ?_); k_extra "go"); (all_goals (k_extra "go"; repeat (refine Cal.ret (by assumption) (by k_extra "le") ?_; k_extra "go"))); (all_goals first | rfl | (show _ = _; (first | rfl | ((first | refine lst_eq ?_ | refine str_eq ?_ | skip); (with_reducible apply fl_eq); (· k_extra "fl"); (· k_extra "fl"); rfl))) | (simp [joined]; done))))
  · refine dn_mk (f := 24) (rows := [112, 97, 99, 107, 97, 103, 101, 32, 109, 97, 100, 101, 95, 111, 102, 32, 105, 115] :: rows ++ [[101, 110, 100, 32, 109, 97, 100, 101, 95, 111, 102, 59]]) (ts := [112, 97, 99, 107, 97, 103, 101] :: [109, 97, 100, 101, 95, 111, 102] :: [105, 115] :: ts ++ [[101, 110, 100], [109, 97, 100, 101, 95, 111, 102], [59]]) rfl ?_ (((RowsTk.cons h1 v3).app (.one h3.weak)).cast (by (first | rfl | ((first | refine lst_eq ?_ | refine str_eq ?_ | skip); (with_reducible apply fl_eq); (· k_extra "fl"); (· k_extra "fl"); rfl))) (by (first | rfl | ((first | refine lst_eq ?_ | refine str_eq ?_ | skip); (with_reducible apply fl_eq); (· k_extra "fl"); (· k_extra "fl"); rfl)))) ?_ (by (refine ⟨?_, ?_⟩ <;> ((apply Nat.le_trans); (· k_extra "lb"); omega))) (all_app (all_cons (by decide) v4) (all_cons (by decide) all_nil))
    · (((refine Lib.enter (by assumption) rfl (fun h => nomatch h) rfl (by decide) ?_); k_extra "go"); (all_goals (k_extra "go"; repeat (refine Cal.ret (by assumption) (by k_extra "le") ?_; k_extra "go"))); (all_goals first | rfl | (show _ = _; (first | rfl | ((first | refine lst_eq ?_ | refine str_eq ?_ | skip); (with_reducible apply fl_eq); (· k_extra "fl"); (· k_extra "fl"); rfl))) | (simp [joined]; done)))
    · (((refine Lib.enter (by assumption) rfl (fun h => nomatch h) rfl (by decide) ?_); k_extra "go"); (((refine Lib.enter (by assumption) rfl (fun h => nomatch h) rfl (by decide) ?_); k_extra "go"); (all_goals (k_extra "go"; repeat (refine Cal.ret (by assumption) (by k_extra "le") ?_; k_extra "go"))); (all_goals first | rfl | (show _ = _; (first | rfl | ((first | refine lst_eq ?_ | refine str_eq ?_ | skip); (with_reducible apply fl_eq); (· k_extra "fl"); (· k_extra "fl"); rfl))) | (simp [joined]; done))))
  · refine dn_mk (f := 24) (rows := [112, 97, 99, 107, 97, 103, 101, 32, 109, 97, 100, 101, 95, 111, 102, 32, 105, 115] :: rows ++ [112, 114, 105, 118, 97, 116, 101] :: rows' ++ [[101, 110, 100, 32, 109, 97, 100, 101, 95, 111, 102, 59]]) (ts := [112, 97, 99, 107, 97, 103, 101] :: [109, 97, 100, 101, 95, 111, 102] :: [105, 115] :: ts ++ [112, 114, 105, 118, 97, 116, 101] :: ts' ++ [[101, 110, 100], [109, 97, 100, 101, 95, 111, 102], [59]]) rfl ?_ ((((RowsTk.cons h1 v3).app (.cons h2 w3)).app (.one h3.weak)).cast (by (first | rfl | ((first | refine lst_eq ?_ | refine str_eq ?_ | skip); (with_reducible apply fl_eq); (· k_extra "fl"); (· k_extra "fl"); rfl))) (by (first | rfl | ((first | refine lst_eq ?_ | refine str_eq ?_ | skip); (with_reducible apply fl_eq); (· k_extra "fl"); (· k_extra "fl"); rfl)))) ?_ (by (refine ⟨?_, ?_⟩ <;> ((apply Nat.le_trans); (· k_extra "lb"); omega))) (all_app (all_app (all_cons (by decide) v4) (all_cons (by decide) w4)) (all_cons (by decide) all_nil))
    · (((refine Lib.enter (by assumption) rfl (fun h => nomatch h) rfl (by decide) ?_); k_extra "go"); (all_goals (k_extra "go"; repeat (refine Cal.ret (by assumption) (by k_extra "le") ?_; k_extra "go"))); (all_goals first | rfl | (show _ = _; (first | rfl | ((first | refine lst_eq ?_ | refine str_eq ?_ | skip); (with_reducible apply fl_eq); (· k_extra "fl"); (· k_extra "fl"); rfl))) | (simp [joined]; done)))
    · (((refine Lib.enter (by assumption) rfl (fun h => nomatch h) rfl (by decide) ?_); k_extra "go"); (((refine Lib.enter (by assumption) rfl (fun h => nomatch h) rfl (by decide) ?_); k_extra "go"); (all_goals (k_extra "go"; repeat (refine Cal.ret (by assumption) (by k_extra "le") ?_; k_extra "go"))); (all_goals first | rfl | (show _ = _; (first | rfl | ((first | refine lst_eq ?_ | refine str_eq ?_ | skip); (with_reducible apply fl_eq); (· k_extra "fl"); (· k_extra "fl"); rfl))) | (simp [joined]; done))))
end

section
variable {C : Cx} (L : Lib C)
include L

theorem dsg {n R T : Nat} {v : V} (h : DsOK C n R T v) (hR : R ≤ 2000) (hT : T ≤ 50000) : ∃ ds rows ts, v = .lst ds ∧ Ret C (n + 1) 2 [LD, v] (tv rows) ∧ Ret C (n + 1) 69 [v] (tv ts) ∧ RowsTk rows ts ∧ (∀ x ∈ rows, x.length ≤ 3000) ∧ rows.length ≤ R ∧ ts.length ≤ T := by
  obtain ⟨ds, rows, ts, rfl, k, l1, l2, l3⟩ := h
  have q1 := lr L k (by omega) (by omega)
  have q2 := wa L k (by omega) (by omega)
  obtain ⟨t1, t2⟩ := k.tk
  exact ⟨ds, rows, ts, rfl, q1, q2, t1, t2, l1, l2⟩


theorem d_packbody {n R T : Nat} {v w : V} (hv : DsOK C n R T v) (hw : IsH C w) (hR : R ≤ 2000) (hT : T ≤ 50000) (hn : 12 ≤ n) : ∃ st hs, w = .tup [.lst st, .lst hs] ∧ DeclOK C (n + 6) (2 * R + 40) (2 * T + 900) (.tup [.str [112, 97, 99, 107, 98, 111, 100, 121], .int 0, .str [98, 111, 120, 95, 111, 102], v, .lst st, .lst hs]) := by
  have h1 := (lit_ok2 (a := [112, 97, 99, 107, 97, 103, 101, 32, 98, 111, 100, 121, 32, 98, 111, 120, 95, 111, 102, 32, 105, 115]) rfl)
  have h3 := (lit_ok2 (a := [101, 110, 100, 32, 98, 111, 120, 95, 111, 102, 59]) rfl)
  obtain ⟨ds, rows, ts, rfl, v1, v2, v3, v4, v5, v6⟩ := dsg L hv hR hT
  obtain ⟨st, hs, rows', ts', rfl, w0, w1, w2, w3, w4, w5, w6⟩ := hw
  refine ⟨st, hs, rfl, ?_⟩
  cases st with
  | nil => exact absurd rfl w0
  | cons s ss =>
    refine dn_mk (f := 25) (rows := [112, 97, 99, 107, 97, 103, 101, 32, 98, 111, 100, 121, 32, 98, 111, 120, 95, 111, 102, 32, 105, 115] :: rows ++ rows' ++ [[101, 110, 100, 32, 98, 111, 120, 95, 111, 102, 59]]) (ts := [112, 97, 99, 107, 97, 103, 101] :: [98, 111, 100, 121] :: [98, 111, 120, 95, 111, 102] :: [105, 115] :: ts ++ ts' ++ [[101, 110, 100], [98, 111, 120, 95, 111, 102], [59]]) rfl ?_ ((((RowsTk.cons h1 v3).app w3).app (.one h3.weak)).cast (by (first | rfl | ((first | refine lst_eq ?_ | refine str_eq ?_ | skip); (with_reducible apply fl_eq); (· k_extra "fl"); (· k_extra "fl"); rfl))) (by (first | rfl | ((first | refine lst_eq ?_ | refine str_eq ?_ | skip); (with_reducible apply fl_eq); (· k_extra "fl"); (· k_extra "fl"); rfl)))) ?_ (by (refine ⟨?_, ?_⟩ <;> ((apply Nat.le_trans); (· k_extra "lb"); omega))) (all_app (all_app (all_cons (by decide) v4) w5) (all_cons (by decide) all_nil))
    · (((refine Lib.enter (by assumption) rfl (fun h => nomatch h) rfl (by decide) ?_); k_extra "go"); (all_goals (k_extra "go"; repeat (refine Cal.ret (by assumption) (by k_extra "le") ?_; k_extra "go"))); (all_goals first | rfl | (show _ = _; (first | rfl | ((first | refine lst_eq ?_ | refine str_eq ?_ | skip); (with_reducible apply fl_eq); (· k_extra "fl"); (· k_extra "fl"); rfl))) | (simp [joined]; done)))
    · (((refine Lib.enter (by assumption) rfl (fun h => nomatch h) rfl (by decide) ?_); k_extra "go"); (((refine Lib.enter (by assumption) rfl (fun h => nomatch h) rfl (by decide) ?_); k_extra "go"); (all_goals (k_extra "go"; repeat (refine Cal.ret (by assumption) (by k_extra "le") ?_; k_extra "go"))); (all_goals first | rfl | (show _ = _; (first | rfl | ((first | refine lst_eq ?_ | refine str_eq ?_ | skip); (with_reducible apply fl_eq); (· k_extra "fl"); (· k_extra "fl"); rfl))) | (simp [joined]; done))))

theorem d_taskbody {n R T : Nat} {v w : V} (hv : DsOK C n R T v) (hw : IsH C w) (hR : R ≤ 2000) (hT : T ≤ 50000) (hn : 12 ≤ n) : ∃ st hs, w = .tup [.lst st, .lst hs] ∧ DeclOK C (n + 6) (2 * R + 40) (2 * T + 900) (.tup [.str [116, 97, 115, 107, 98, 111, 100, 121], .int 0, .str [119, 111, 114, 107, 101, 114], v, .lst st, .lst hs]) := by
  have h1 := (lit_ok2 (a := [116, 97, 115, 107, 32, 98, 111, 100, 121, 32, 119, 111, 114, 107, 101, 114, 32, 105, 115]) rfl)
  have h3 := (lit_ok2 (a := [101, 110, 100, 32, 119, 111, 114, 107, 101, 114, 59]) rfl)
  obtain ⟨ds, rows, ts, rfl, v1, v2, v3, v4, v5, v6⟩ := dsg L hv hR hT
  obtain ⟨st, hs, rows', ts', rfl, w0, w1, w2, w3, w4, w5, w6⟩ := hw
  refine ⟨st, hs, rfl, ?_⟩
  cases st with
  | nil => exact absurd rfl w0
  | cons s ss =>
    refine dn_mk (f := 25) (rows := [116, 97, 115, 107, 32, 98, 111, 100, 121, 32, 119, 111, 114, 107, 101, 114, 32, 105, 115] :: rows ++ rows' ++ [[101, 110, 100, 32, 119, 111, 114, 107, 101, 114, 59]]) (ts := [116, 97, 115, 107] :: [98, 111, 100, 121] :: [119, 111, 114, 107, 101, 114] :: [105, 115] :: ts ++ ts' ++ [[101, 110, 100], [119, 111, 114, 107, 101, 114], [59]]) rfl ?_ ((((RowsTk.cons h1 v3).app w3).app (.one h3.weak)).cast (by (first | rfl | ((first | refine lst_eq ?_ | refine str_eq ?_ | skip); (with_reducible apply fl_eq); (· k_extra "fl"); (· k_extra "fl"); rfl))) (by (first | rfl | ((first | refine lst_eq ?_ | refine str_eq ?_ | skip); (with_reducible apply fl_eq); (· k_extra "fl"); (· k_extra "fl"); rfl)))) ?_ (by (refine ⟨?_, ?_⟩ <;> ((apply Nat.le_trans); (· k_extra "lb"); omega))) (all_app (all_app (all_cons (by decide) v4) w5) (all_cons (by decide) all_nil))
    · (((refine Lib.enter (by assumption) rfl (fun h => nomatch h) rfl (by decide) ?_); k_extra "go"); (all_goals (k_extra "go"; repeat (refine Cal.ret (by assumption) (by k_extra "le") ?_; k_extra "go"))); (all_goals first | rfl | (show _ = _; (first | rfl | ((first | refine lst_eq ?_ | refine str_eq ?_ | skip); (with_reducible apply fl_eq); (· k_extra "fl"); (· k_extra "fl"); rfl))) | (simp [joined]; done)))
    · (((refine Lib.enter (by assumption) rfl (fun h => nomatch h) rfl (by decide) ?_); k_extra "go"); (((refine Lib.enter (by assumption) rfl (fun h => nomatch h) rfl (by decide) ?_); k_extra "go"); (all_goals (k_extra "go"; repeat (refine Cal.ret (by assumption) (by k_extra "le") ?_; k_extra "go"))); (all_goals first | rfl | (show _ = _; (first | rfl | ((first | refine lst_eq ?_ | refine str_eq ?_ | skip); (with_reducible apply fl_eq); (· k_extra "fl"); (· k_extra "fl"); rfl))) | (simp [joined]; done))))

theorem d_packbody0 {n R T : Nat} {v : V} (hv : DsOK C n R T v) (hR : R ≤ 2000) (hT : T ≤ 50000) : DeclOK C (n + 6) (2 * R + 40) (2 * T + 900) (.tup [.str [112, 97, 99, 107, 98, 111, 100, 121], .int 0, .str [98, 111, 120, 95, 111, 102], v, .lst [], .lst []]) := by
  have h1 := (lit_ok2 (a := [112, 97, 99, 107, 97, 103, 101, 32, 98, 111, 100, 121, 32, 98, 111, 120, 95, 111, 102, 32, 105, 115]) rfl)
  have h3 := (lit_ok2 (a := [101, 110, 100, 32, 98, 111, 120, 95, 111, 102, 59]) rfl)
  obtain ⟨ds, rows, ts, rfl, v1, v2, v3, v4, v5, v6⟩ := dsg L hv hR hT
  refine dn_mk (f := 25) (rows := [112, 97, 99, 107, 97, 103, 101, 32, 98, 111, 100, 121, 32, 98, 111, 120, 95, 111, 102, 32, 105, 115] :: rows ++ [[101, 110, 100, 32, 98, 111, 120, 95, 111, 102, 59]]) (ts := [112, 97, 99, 107, 97, 103, 101] :: [98, 111, 100, 121] :: [98, 111, 120, 95, 111, 102] :: [105, 115] :: ts ++ [[101, 110, 100], [98, 111, 120, 95, 111, 102], [59]]) rfl ?_ (((RowsTk.cons h1 v3).app (.one h3.weak)).cast (by (first | rfl | ((first | refine lst_eq ?_ | refine str_eq ?_ | skip); (with_reducible apply fl_eq); (· k_extra "fl"); (· k_extra "fl"); rfl))) (by (first | rfl | ((first | refine lst_eq ?_ | refine str_eq ?_ | skip); (with_reducible apply fl_eq); (· k_extra "fl"); (· k_extra "fl"); rfl)))) ?_ (by (refine ⟨?_, ?_⟩ <;> ((apply Nat.le_trans); (· k_extra "lb"); omega))) (all_app (all_cons (by decide) v4) (all_cons (by decide) all_nil))
  · (((refine Lib.enter (by assumption) rfl (fun h => nomatch h) rfl (by decide) ?_); k_extra "go"); (all_goals (k_extra "go"; repeat (refine Cal.ret (by assumption) (by k_extra "le") ?_; k_extra "go"))); (all_goals first | rfl | (show _ = _; (first | rfl | ((first | refine lst_eq ?_ | refine str_eq ?_ | skip); (with_reducible apply fl_eq); (· k_extra "fl"); (· k_extra "fl"); rfl))) | (simp [joined]; done)))
  · (((refine Lib.enter (by assumption) rfl (fun h => nomatch h) rfl (by decide) ?_); k_extra "go"); (((refine Lib.enter (by assumption) rfl (fun h => nomatch h) rfl (by decide) ?_); k_extra "go"); (all_goals (k_extra "go"; repeat (refine Cal.ret (by assumption) (by k_extra "le") ?_; k_extra "go"))); (all_goals first | rfl | (show _ = _; (first | rfl | ((first | refine lst_eq ?_ | refine str_eq ?_ | skip); (with_reducible apply fl_eq); (· k_extra "fl"); (· k_extra "fl"); rfl))) | (simp [joined]; done))))

theorem d_subbody {n R T : Nat} {sp v w : V} (hs : IsS C sp) (hv : DsOK C n R T v) (hw : IsH C w) (hR : R ≤ 2000) (hT : T ≤ 50000) (hn : 12 ≤ n) : ∃ st hs, w = .tup [.lst st, .lst hs] ∧ DeclOK C (n + 6) (2 * R + 40) (2 * T + 900) (.tup [.str [115, 117, 98, 98, 111, 100, 121], .int 0, sp, v, .lst st, .lst hs]) := by
  obtain ⟨kw, nm, ps, ret, t, r, a, rfl, g, s1, s2, s3, s4, s5⟩ := hs
  obtain ⟨ds, rows, ts, rfl, v1, v2, v3, v4, v5, v6⟩ := dsg L hv hR hT
  obtain ⟨st, hs, rows', ts', rfl, w0, w1, w2, w3, w4, w5, w6⟩ := hw
  refine ⟨st, hs, rfl, ?_⟩
  have gl := g.2.1
  have h1 : Td false (a ++ [32, 105, 115]) (t :: r ++ [[105, 115]]) := s3.app ((lit_ok2 (a := [32, 105, 115]) rfl)) sp
  have g1 := g.1
  have h3 : Td false ([101, 110, 100, 32] ++ nm ++ [59]) ([[101, 110, 100]] ++ [nm] ++ [[59]]) := by (apply td_top; k_extra "td")
  refine dn_mk (f := 23) (rows := (a ++ [32, 105, 115]) :: rows ++ rows' ++ [[101, 110, 100, 32] ++ nm ++ [59]]) (ts := (t :: r ++ [[105, 115]]) ++ ts ++ ts' ++ [[101, 110, 100], nm, [59]]) rfl ?_ ((((RowsTk.cons h1 v3).app w3).app (.one h3)).cast (by (first | rfl | ((first | refine lst_eq ?_ | refine str_eq ?_ | skip); (with_reducible apply fl_eq); (· k_extra "fl"); (· k_extra "fl"); rfl))) (by (first | rfl | ((first | refine lst_eq ?_ | refine str_eq ?_ | skip); (with_reducible apply fl_eq); (· k_extra "fl"); (· k_extra "fl"); rfl)))) ?_ (by (refine ⟨?_, ?_⟩ <;> ((apply Nat.le_trans); (· k_extra "lb"); omega))) (all_app (all_app (all_cons (by ((with_reducible apply sd_lit); (· k_extra "lb"); rfl)) v4) w5) (all_cons (by ((with_reducible apply sd_lit); (· k_extra "lb"); rfl)) all_nil))
  · (((refine Lib.enter (by assumption) rfl (fun h => nomatch h) rfl (by decide) ?_); k_extra "go"); (all_goals (k_extra "go"; repeat (refine Cal.ret (by assumption) (by k_extra "le") ?_; k_extra "go"))); (all_goals first | rfl | (show _ = _; (first | rfl | ((first | refine lst_eq ?_ | refine str_eq ?_ | skip); (with_reducible apply fl_eq); (· k_extra "fl"); (· k_extra "fl"); rfl))) | (simp [joined]; done)))
  · (((refine Lib.enter (by assumption) rfl (fun h => nomatch h) rfl (by decide) ?_); k_extra "go"); (((refine Lib.enter (by assumption) rfl (fun h => nomatch h) rfl (by decide) ?_); k_extra "go"); (all_goals (k_extra "go"; repeat (refine Cal.ret (by assumption) (by k_extra "le") ?_; k_extra "go"))); (all_goals first | rfl | (show _ = _; (first | rfl | ((first | refine lst_eq ?_ | refine str_eq ?_ | skip); (with_reducible apply fl_eq); (· k_extra "fl"); (· k_extra "fl"); rfl))) | (simp [joined]; done))))

theorem d_protbody {n R T : Nat} {v : V} (hv : DsOK C n R T v) (hR : R ≤ 2000) (hT : T ≤ 50000) : DeclOK C (n + 6) (R + 40) (T + 900) (.tup [.str [112, 114, 111, 116, 98, 111, 100, 121], .int 0, .str [103, 97, 116, 101], v]) := by
  have h1 := (lit_ok2 (a := [112, 114, 111, 116, 101, 99, 116, 101, 100, 32, 98, 111, 100, 121, 32, 103, 97, 116, 101, 32, 105, 115]) rfl)
  have h3 := (lit_ok2 (a := [101, 110, 100, 32, 103, 97, 116, 101, 59]) rfl)
  obtain ⟨ds, rows, ts, rfl, v1, v2, v3, v4, v5, v6⟩ := dsg L hv hR hT
  refine dn_mk (f := 39) (rows := [112, 114, 111, 116, 101, 99, 116, 101, 100, 32, 98, 111, 100, 121, 32, 103, 97, 116, 101, 32, 105, 115] :: rows ++ [[101, 110, 100, 32, 103, 97, 116, 101, 59]]) (ts := [112, 114, 111, 116, 101, 99, 116, 101, 100] :: [98, 111, 100, 121] :: [103, 97, 116, 101] :: [105, 115] :: ts ++ [[101, 110, 100], [103, 97, 116, 101], [59]]) rfl ?_ (((RowsTk.cons h1 v3).app (.one h3.weak)).cast (by (first | rfl | ((first | refine lst_eq ?_ | refine str_eq ?_ | skip); (with_reducible apply fl_eq); (· k_extra "fl"); (· k_extra "fl"); rfl))) (by (first | rfl | ((first | refine lst_eq ?_ | refine str_eq ?_ | skip); (with_reducible apply fl_eq); (· k_extra "fl"); (· k_extra "fl"); rfl)))) ?_ (by (refine ⟨?_, ?_⟩ <;> ((apply Nat.le_trans); (· k_extra "lb"); omega))) (all_app (all_cons (by decide) v4) (all_cons (by decide) all_nil))
  · (((refine Lib.enter (by assumption) rfl (fun h => nomatch h) rfl (by decide) ?_); k_extra "go"); (all_goals (k_extra "go"; repeat (refine Cal.ret (by assumption) (by k_extra "le") ?_; k_extra "go"))); (all_goals first | rfl | (show _ = _; (first | rfl | ((first | refine lst_eq ?_ | refine str_eq ?_ | skip); (with_reducible apply fl_eq); (· k_extra "fl"); (· k_extra "fl"); rfl))) | (simp [joined]; done)))
  · (((refine Lib.enter (by assumption) rfl (fun h => nomatch h) rfl (by decide) ?_); k_extra "go"); (((refine Lib.enter (by assumption) rfl (fun h => nomatch h) rfl (by decide) ?_); k_extra "go"); (all_goals (k_extra "go"; repeat (refine Cal.ret (by assumption) (by k_extra "le") ?_; k_extra "go"))); (all_goals first | rfl | (show _ = _; (first | rfl | ((first | refine lst_eq ?_ | refine str_eq ?_ | skip); (with_reducible apply fl_eq); (· k_extra "fl"); (· k_extra "fl"); rfl))) | (simp [joined]; done))))

theorem d_task_true {n R T : Nat} {dd v : V} (hd : IsD C dd) (hv : DsOK C n R T v) (hR : R ≤ 2000) (hT : T ≤ 50000) (hn : 12 ≤ n) : DeclOK C (n + 6) (2 * R + 40) (2 * T + 900) (.tup [.str [116, 97, 115, 107], .int 0, .str [119, 111, 114, 107, 101, 114], .bool true, dd, v]) := by
  obtain ⟨a, us, d1, d2, d3, d4, d5⟩ := hd
  have h0 : Td false [116, 97, 115, 107, 32, 116, 121, 112, 101, 32, 119, 111, 114, 107, 101, 114] _ := (lit_ok2 (a := [116, 97, 115, 107, 32, 116, 121, 112, 101, 32, 119, 111, 114, 107, 101, 114]) rfl)
  have h1 := d3 _ _ h0
  have h2 := h1.app ((lit_ok2 (a := [32, 105, 115]) rfl)) sp
  have h3 := h1.app ((lit_ok2 (a := [59]) rfl)) (.inr (stp_lit (Eq.refl true)))
  have h4 := (lit_ok2 (a := [101, 110, 100, 32, 119, 111, 114, 107, 101, 114, 59]) rfl)
  rcases dsf L hv hR hT with ⟨rfl, v1, v2⟩ | ⟨d, ds, rows, ts, rfl, v1, v2, v3, v4, v5, v6⟩
  · refine dn_mk (f := 37) (rows := [[116, 97, 115, 107, 32, 116, 121, 112, 101, 32, 119, 111, 114, 107, 101, 114] ++ a ++ [59]]) (ts := [116, 97, 115, 107] :: [116, 121, 112, 101] :: [119, 111, 114, 107, 101, 114] :: us ++ [[59]]) rfl ?_ ((RowsTk.one h3.weak).cast (by (first | rfl | ((first | refine lst_eq ?_ | refine str_eq ?_ | skip); (with_reducible apply fl_eq); (· k_extra "fl"); (· k_extra "fl"); rfl))) (by (first | rfl | ((first | refine lst_eq ?_ | refine str_eq ?_ | skip); (with_reducible apply fl_eq); (· k_extra "fl"); (· k_extra "fl"); rfl)))) ?_ (by (refine ⟨?_, ?_⟩ <;> ((apply Nat.le_trans); (· k_extra "lb"); omega))) (all_cons (by ((with_reducible apply sd_lit); (· k_extra "lb"); rfl)) all_nil)
    · (((refine Lib.enter (by assumption) rfl (fun h => nomatch h) rfl (by decide) ?_); k_extra "go"); (all_goals (k_extra "go"; repeat (refine Cal.ret (by assumption) (by k_extra "le") ?_; k_extra "go"))); (all_goals first | rfl | (show _ = _; (first | rfl | ((first | refine lst_eq ?_ | refine str_eq ?_ | skip); (with_reducible apply fl_eq); (· k_extra "fl"); (· k_extra "fl"); rfl))) | (simp [joined]; done)))
    · (((refine Lib.enter (by assumption) rfl (fun h => nomatch h) rfl (by decide) ?_); k_extra "go"); (((refine Lib.enter (by assumption) rfl (fun h => nomatch h) rfl (by decide) ?_); k_extra "go"); (all_goals (k_extra "go"; repeat (refine Cal.ret (by assumption) (by k_extra "le") ?_; k_extra "go"))); (all_goals first | rfl | (show _ = _; (first | rfl | ((first | refine lst_eq ?_ | refine str_eq ?_ | skip); (with_reducible apply fl_eq); (· k_extra "fl"); (· k_extra "fl"); rfl))) | (simp [joined]; done))))
  · refine dn_mk (f := 37) (rows := ([116, 97, 115, 107, 32, 116, 121, 112, 101, 32, 119, 111, 114, 107, 101, 114] ++ a ++ [32, 105, 115]) :: rows ++ [[101, 110, 100, 32, 119, 111, 114, 107, 101, 114, 59]]) (ts := [116, 97, 115, 107] :: [116, 121, 112, 101] :: [119, 111, 114, 107, 101, 114] :: us ++ [[105, 115]] ++ ts ++ [[101, 110, 100], [119, 111, 114, 107, 101, 114], [59]]) rfl ?_ (((RowsTk.cons h2 v3).app (.one h4.weak)).cast (by (first | rfl | ((first | refine lst_eq ?_ | refine str_eq ?_ | skip); (with_reducible apply fl_eq); (· k_extra "fl"); (· k_extra "fl"); rfl))) (by (first | rfl | ((first | refine lst_eq ?_ | refine str_eq ?_ | skip); (with_reducible apply fl_eq); (· k_extra "fl"); (· k_extra "fl"); rfl)))) ?_ (by (refine ⟨?_, ?_⟩ <;> ((apply Nat.le_trans); (· k_extra "lb"); omega))) (all_app (all_cons (by ((with_reducible apply sd_lit); (· k_extra "lb"); rfl)) v4) (all_cons (by decide) all_nil))
    · (((refine Lib.enter (by assumption) rfl (fun h => nomatch h) rfl (by decide) ?_); k_extra "go"); (all_goals (k_extra "go"; repeat (refine Cal.ret (by assumption) (by k_extra "le") ?_; k_extra "go"))); (all_goals first | rfl | (show _ = _; (first | rfl | ((first | refine lst_eq ?_ | refine str_eq ?_ | skip); (with_reducible apply fl_eq); (· k_extra "fl"); (· k_extra "fl"); rfl))) | (simp [joined]; done)))
    · (((refine Lib.enter (by assumption) rfl (fun h => nomatch h) rfl (by decide) ?_); k_extra "go"); (((refine Lib.enter (by assumption) rfl (fun h => nomatch h) rfl (by decide) ?_); k_extra "go"); (all_goals (k_extra "go"; repeat (refine Cal.ret (by assumption) (by k_extra "le") ?_; k_extra "go"))); (all_goals first | rfl | (show _ = _; (first | rfl | ((first | refine lst_eq ?_ | refine str_eq ?_ | skip); (with_reducible apply fl_eq); (· k_extra "fl"); (· k_extra "fl"); rfl))) | (simp [joined]; done))))

theorem d_task_false {n R T : Nat} {dd v : V} (hd : IsD C dd) (hv : DsOK C n R T v) (hR : R ≤ 2000) (hT : T ≤ 50000) (hn : 12 ≤ n) : DeclOK C (n + 6) (2 * R + 40) (2 * T + 900) (.tup [.str [116, 97, 115, 107], .int 0, .str [119, 111, 114, 107, 101, 114], .bool false, dd, v]) := by
  obtain ⟨a, us, d1, d2, d3, d4, d5⟩ := hd
  have h0 : Td false [116, 97, 115, 107, 32, 119, 111, 114, 107, 101, 114] _ := (lit_ok2 (a := [116, 97, 115, 107, 32, 119, 111, 114, 107, 101, 114]) rfl)
  have h1 := d3 _ _ h0
  have h2 := h1.app ((lit_ok2 (a := [32, 105, 115]) rfl)) sp
  have h3 := h1.app ((lit_ok2 (a := [59]) rfl)) (.inr (stp_lit (Eq.refl true)))
  have h4 := (lit_ok2 (a := [101, 110, 100, 32, 119, 111, 114, 107, 101, 114, 59]) rfl)
  rcases dsf L hv hR hT with ⟨rfl, v1, v2⟩ | ⟨d, ds, rows, ts, rfl, v1, v2, v3, v4, v5, v6⟩
  · refine dn_mk (f := 37) (rows := [[116, 97, 115, 107, 32, 119, 111, 114, 107, 101, 114] ++ a ++ [59]]) (ts := [116, 97, 115, 107] :: [119, 111, 114, 107, 101, 114] :: us ++ [[59]]) rfl ?_ ((RowsTk.one h3.weak).cast (by (first | rfl | ((first | refine lst_eq ?_ | refine str_eq ?_ | skip); (with_reducible apply fl_eq); (· k_extra "fl"); (· k_extra "fl"); rfl))) (by (first | rfl | ((first | refine lst_eq ?_ | refine str_eq ?_ | skip); (with_reducible apply fl_eq); (· k_extra "fl"); (· k_extra "fl"); rfl)))) ?_ (by (refine ⟨?_, ?_⟩ <;> ((apply Nat.le_trans); (· k_extra "lb"); omega))) (all_cons (by ((with_reducible apply sd_lit); (· k_extra "lb"); rfl)) all_nil)
    · (((refine Lib.enter (by assumption) rfl (fun h => nomatch h) rfl (by decide) ?_); k_extra "go"); (all_goals (k_extra "go"; repeat (refine Cal.ret (by assumption) (by k_extra "le") ?_; k_extra "go"))); (all_goals first | rfl | (show _ = _; (first | rfl | ((first | refine lst_eq ?_ | refine str_eq ?_ | skip); (with_reducible apply fl_eq); (· k_extra "fl"); (· k_extra "fl"); rfl))) | (simp [joined]; done)))
    · (((refine Lib.enter (by assumption) rfl (fun h => nomatch h) rfl (by decide) ?_); k_extra "go"); (((refine Lib.enter (by assumption) rfl (fun h => nomatch h) rfl (by decide) ?_); k_extra "go"); (all_goals (k_extra "go"; repeat (refine Cal.ret (by assumption) (by k_extra "le") ?_; k_extra "go"))); (all_goals first | rfl | (show _ = _; (first | rfl | ((first | refine lst_eq ?_ | refine str_eq ?_ | skip); (with_reducible apply fl_eq); (· k_extra "fl"); (· k_extra "fl"); rfl))) | (simp [joined]; done))))
  · refine dn_mk (f := 37) (rows := ([116, 97, 115, 107, 32, 119, 111, 114, 107, 101, 114] ++ a ++ [32, 105, 115]) :: rows ++ [[101, 110, 100, 32, 119, 111, 114, 107, 101, 114, 59]]) (ts := [116, 97, 115, 107] :: [119, 111, 114, 107, 101, 114] :: us ++ [[105, 115]] ++ ts ++ [[101, 110, 100], [119, 111, 114, 107, 101, 114], [59]]) rfl ?_ (((RowsTk.cons h2 v3).app (.one h4.weak)).cast (by (first | rfl | ((first | refine lst_eq ?_ | refine str_eq ?_ | skip); (with_reducible apply fl_eq); (· k_extra "fl"); (· k_extra "fl"); rfl))) (by (first | rfl | ((first | refine lst_eq ?_ | refine str_eq ?_ | skip); (with_reducible apply fl_eq); (· k_extra "fl"); (· k_extra "fl"); rfl)))) ?_ (by (refine ⟨?_, ?_⟩ <;> ((apply Nat.le_trans); (· k_extra "lb"); omega))) (all_app (all_cons (by ((with_reducible apply sd_lit); (· k_extra "lb"); rfl)) v4) (all_cons (by decide) all_nil))
    · (((refine Lib.enter (by assumption) rfl (fun h => nomatch h) rfl (by decide) ?_); k_extra "go"); (all_goals (k_extra "go"; repeat (refine Cal.ret (by assumption) (by k_extra "le") ?_; k_extra "go"))); (all_goals first | rfl | (show _ = _; (first | rfl | ((first | refine lst_eq ?_ | refine str_eq ?_ | skip); (with_reducible apply fl_eq); (· k_extra "fl"); (· k_extra "fl"); rfl))) | (simp [joined]; done)))
    · (((refine Lib.enter (by assumption) rfl (fun h => nomatch h) rfl (by decide) ?_); k_extra "go"); (((refine Lib.enter (by assumption) rfl (fun h => nomatch h) rfl (by decide) ?_); k_extra "go"); (all_goals (k_extra "go"; repeat (refine Cal.ret (by assumption) (by k_extra "le") ?_; k_extra "go"))); (all_goals first | rfl | (show _ = _; (first | rfl | ((first | refine lst_eq ?_ | refine str_eq ?_ | skip); (with_reducible apply fl_eq); (· k_extra "fl"); (· k_extra "fl"); rfl))) | (simp [joined]; done))))

theorem d_prot_true {n R T : Nat} {dd v w : V} (hd : IsD C dd) (hv : DsOK C n R T v) (hw : DsOK C n R T w) (hR : R ≤ 2000) (hT : T ≤ 50000) (hn : 12 ≤ n) : DeclOK C (n + 6) (2 * R + 40) (2 * T + 900) (.tup [.str [112, 114, 111, 116, 101, 99, 116, 101, 100], .int 0, .str [103, 97, 116, 101], .bool true, dd, v, w]) := by
  obtain ⟨a, us, d1, d2, d3, d4, d5⟩ := hd
  have h0 : Td false [112, 114, 111, 116, 101, 99, 116, 101, 100, 32, 116, 121, 112, 101, 32, 103, 97, 116, 101] _ := (lit_ok2 (a := [112, 114, 111, 116, 101, 99, 116, 101, 100, 32, 116, 121, 112, 101, 32, 103, 97, 116, 101]) rfl)
  have h1 := d3 _ _ h0
  have h2 := h1.app ((lit_ok2 (a := [32, 105, 115]) rfl)) sp
  have h3 := (lit_ok2 (a := [112, 114, 105, 118, 97, 116, 101]) rfl)
  have h4 := (lit_ok2 (a := [101, 110, 100, 32, 103, 97, 116, 101, 59]) rfl)
  obtain ⟨ds, rows, ts, rfl, v1, v2, v3, v4, v5, v6⟩ := dsg L hv hR hT
  rcases dsf L hw hR hT with ⟨rfl, w1, w2⟩ | ⟨d', ds', rows', ts', rfl, w1, w2, w3, w4, w5, w6⟩
  · refine dn_mk (f := 38) (rows := ([112, 114, 111, 116, 101, 99, 116, 101, 100, 32, 116, 121, 112, 101, 32, 103, 97, 116, 101] ++ a ++ [32, 105, 115]) :: rows ++ [[101, 110, 100, 32, 103, 97, 116, 101, 59]]) (ts := [112, 114, 111, 116, 101, 99, 116, 101, 100] :: [116, 121, 112, 101] :: [103, 97, 116, 101] :: us ++ [[105, 115]] ++ ts ++ [[101, 110, 100], [103, 97, 116, 101], [59]]) rfl ?_ (((RowsTk.cons h2 v3).app (.one h4.weak)).cast (by (first | rfl | ((first | refine lst_eq ?_ | refine str_eq ?_ | skip); (with_reducible apply fl_eq); (· k_extra "fl"); (· k_extra "fl"); rfl))) (by (first | rfl | ((first | refine lst_eq ?_ | refine str_eq ?_ | skip); (with_reducible apply fl_eq); (· k_extra "fl"); (· k_extra "fl"); rfl)))) ?_ (by (refine ⟨?_, ?_⟩ <;> ((apply Nat.le_trans); (· k_extra "lb"); omega))) (all_app (all_cons (by ((with_reducible apply sd_lit); (· k_extra "lb"); rfl)) v4) (all_cons (by decide) all_nil))
    · (((refine Lib.enter (by assumption) rfl (fun h => nomatch h) rfl (by decide) ?_); k_extra "go"); (all_goals (k_extra "go"; repeat (refine Cal.ret (by assumption) (by k_extra "le") ?_; k_extra "go"))); (all_goals first | rfl | (show _ = _; (first | rfl | ((first | refine lst_eq ?_ | refine str_eq ?_ | skip); (with_reducible apply fl_eq); (· k_extra "fl"); (· k_extra "fl"); rfl))) | (simp [joined]; done)))
    · (((refine Lib.enter (by assumption) rfl (fun h => nomatch h) rfl (by decide) ?_); k_extra "go"); (((refine Lib.enter (by assumption) rfl (fun h => nomatch h) rfl (by decide) ?_); k_extra "go"); (all_goals (k_extra "go"; repeat (refine Cal.ret (by assumption) (by k_extra "le") ?_; k_extra "go"))); (all_goals first | rfl | (show _ = _; (first | rfl | ((first | refine lst_eq ?_ | refine str_eq ?_ | skip); (with_reducible apply fl_eq); (· k_extra "fl"); (· k_extra "fl"); rfl))) | (simp [joined]; done))))
  · refine dn_mk (f := 38) (rows := ([112, 114, 111, 116, 101, 99, 116, 101, 100, 32, 116, 121, 112, 101, 32, 103, 97, 116, 101] ++ a ++ [32, 105, 115]) :: rows ++ [112, 114, 105, 118, 97, 116, 101] :: rows' ++ [[101, 110, 100, 32, 103, 97, 116, 101, 59]]) (ts := [112, 114, 111, 116, 101, 99, 116, 101, 100] :: [116, 121, 112, 101] :: [103, 97, 116, 101] :: us ++ [[105, 115]] ++ ts ++ [112, 114, 105, 118, 97, 116, 101] :: ts' ++ [[101, 110, 100], [103, 97, 116, 101], [59]]) rfl ?_ ((((RowsTk.cons h2 v3).app (.cons h3 w3)).app (.one h4.weak)).cast (by (first | rfl | ((first | refine lst_eq ?_ | refine str_eq ?_ | skip); (with_reducible apply fl_eq); (· k_extra "fl"); (· k_extra "fl"); rfl))) (by (first | rfl | ((first | refine lst_eq ?_ | refine str_eq ?_ | skip); (with_reducible apply fl_eq); (· k_extra "fl"); (· k_extra "fl"); rfl)))) ?_ (by (refine ⟨?_, ?_⟩ <;> ((apply Nat.le_trans); (· k_extra "lb"); omega))) (all_app (all_app (all_cons (by ((with_reducible apply sd_lit); (· k_extra "lb"); rfl)) v4) (all_cons (by decide) w4)) (all_cons (by decide) all_nil))
    · (((refine Lib.enter (by assumption) rfl (fun h => nomatch h) rfl (by decide) ?_); k_extra "go"); (all_goals (k_extra "go"; repeat (refine Cal.ret (by assumption) (by k_extra "le") ?_; k_extra "go"))); (all_goals first | rfl | (show _ = _; (first | rfl | ((first | refine lst_eq ?_ | refine str_eq ?_ | skip); (with_reducible apply fl_eq); (· k_extra "fl"); (· k_extra "fl"); rfl))) | (simp [joined]; done)))
    · (((refine Lib.enter (by assumption) rfl (fun h => nomatch h) rfl (by decide) ?_); k_extra "go"); (((refine Lib.enter (by assumption) rfl (fun h => nomatch h) rfl (by decide) ?_); k_extra "go"); (all_goals (k_extra "go"; repeat (refine Cal.ret (by assumption) (by k_extra "le") ?_; k_extra "go"))); (all_goals first | rfl | (show _ = _; (first | rfl | ((first | refine lst_eq ?_ | refine str_eq ?_ | skip); (with_reducible apply fl_eq); (· k_extra "fl"); (· k_extra "fl"); rfl))) | (simp [joined]; done))))

theorem d_prot_false {n R T : Nat} {dd v w : V} (hd : IsD C dd) (hv : DsOK C n R T v) (hw : DsOK C n R T w) (hR : R ≤ 2000) (hT : T ≤ 50000) (hn : 12 ≤ n) : DeclOK C (n + 6) (2 * R + 40) (2 * T + 900) (.tup [.str [112, 114, 111, 116, 101, 99, 116, 101, 100], .int 0, .str [103, 97, 116, 101], .bool false, dd, v, w]) := by
  obtain ⟨a, us, d1, d2, d3, d4, d5⟩ := hd
  have h0 : Td false [112, 114, 111, 116, 101, 99, 116, 101, 100, 32, 103, 97, 116, 101] _ := (lit_ok2 (a := [112, 114, 111, 116, 101, 99, 116, 101, 100, 32, 103, 97, 116, 101]) rfl)
  have h1 := d3 _ _ h0
  have h2 := h1.app ((lit_ok2 (a := [32, 105, 115]) rfl)) sp
  have h3 := (lit_ok2 (a := [112, 114, 105, 118, 97, 116, 101]) rfl)
  have h4 := (lit_ok2 (a := [101, 110, 100, 32, 103, 97, 116, 101, 59]) rfl)
  obtain ⟨ds, rows, ts, rfl, v1, v2, v3, v4, v5, v6⟩ := dsg L hv hR hT
  rcases dsf L hw hR hT with ⟨rfl, w1, w2⟩ | ⟨d', ds', rows', ts', rfl, w1, w2, w3, w4, w5, w6⟩
  · refine dn_mk (f := 38) (rows := ([112, 114, 111, 116, 101, 99, 116, 101, 100, 32, 103, 97, 116, 101] ++ a ++ [32, 105, 115]) :: rows ++ [[101, 110, 100, 32, 103, 97, 116, 101, 59]]) (ts := [112, 114, 111, 116, 101, 99, 116, 101, 100] :: [103, 97, 116, 101] :: us ++ [[105, 115]] ++ ts ++ [[101, 110, 100], [103, 97, 116, 101], [59]]) rfl ?_ (((RowsTk.cons h2 v3).app (.one h4.weak)).cast (by (first | rfl | ((first | refine lst_eq ?_ | refine str_eq ?_ | skip); (with_reducible apply fl_eq); (· k_extra "fl"); (· k_extra "fl"); rfl))) (by (first | rfl | ((first | refine lst_eq ?_ | refine str_eq ?_ | skip); (with_reducible apply fl_eq); (· k_extra "fl"); (· k_extra "fl"); rfl)))) ?_ (by (refine ⟨?_, ?_⟩ <;> ((apply Nat.le_trans); (· k_extra "lb"); omega))) (all_app (all_cons (by ((with_reducible apply sd_lit); (· k_extra "lb"); rfl)) v4) (all_cons (by decide) all_nil))
    · (((refine Lib.enter (by assumption) rfl (fun h => nomatch h) rfl (by decide) ?_); k_extra "go"); (all_goals (k_extra "go"; repeat (refine Cal.ret (by assumption) (by k_extra "le") ?_; k_extra "go"))); (all_goals first | rfl | (show _ = _; (first | rfl | ((first | refine lst_eq ?_ | refine str_eq ?_ | skip); (with_reducible apply fl_eq); (· k_extra "fl"); (· k_extra "fl"); rfl))) | (simp [joined]; done)))
    · (((refine Lib.enter (by assumption) rfl (fun h => nomatch h) rfl (by decide) ?_); k_extra "go"); (((refine Lib.enter (by assumption) rfl (fun h => nomatch h) rfl (by decide) ?_); k_extra "go"); (all_goals (k_extra "go"; repeat (refine Cal.ret (by assumption) (by k_extra "le") ?_; k_extra "go"))); (all_goals first | rfl | (show _ = _; (first | rfl | ((first | refine lst_eq ?_ | refine str_eq ?_ | skip); (with_reducible apply fl_eq); (· k_extra "fl"); (· k_extra "fl"); rfl))) | (simp [joined]; done))))
  · refine dn_mk (f := 38) (rows := ([112, 114, 111, 116, 101, 99, 116, 101, 100, 32, 103, 97, 116, 101] ++ a ++ [32, 105, 115]) :: rows ++ [112, 114, 105, 118, 97, 116, 101] :: rows' ++ [[101, 110, 100, 32, 103, 97, 116, 101, 59]]) (ts := [112, 114, 111, 116, 101, 99, 116, 101, 100] :: [103, 97, 116, 101] :: us ++ [[105, 115]] ++ ts ++ [112, 114, 105, 118, 97, 116, 101] :: ts' ++ [[101, 110, 100], [103, 97, 116, 101], [59]]) rfl ?_ ((((RowsTk.cons h2 v3).app (.cons h3 w3)).app (.one h4.weak)).cast (by (first | rfl | ((first | refine lst_eq ?_ | refine str_eq ?_ | skip); (with_reducible apply fl_eq); (· k_extra "fl"); (· k_extra "fl"); rfl))) (by (first | rfl | ((first | refine lst_eq ?_ | refine str_eq ?_ | skip); (with_reducible apply fl_eq); (· k_extra "fl"); (· k_extra "fl"); rfl)))) ?_ (by (refine ⟨?_, ?_⟩ <;> ((apply Nat.le_trans); (· k_extra "lb"); omega))) (all_app (all_app (all_cons (by ((with_reducible apply sd_lit); (· k_extra "lb"); rfl)) v4) (all_cons (by decide) w4)) (all_cons (by decide) all_nil))
    · (((refine Lib.enter (by assumption) rfl (fun h => nomatch h) rfl (by decide) ?_); k_extra "go"); (all_goals (k_extra "go"; repeat (refine Cal.ret (by assumption) (by k_extra "le") ?_; k_extra "go"))); (all_goals first | rfl | (show _ = _; (first | rfl | ((first | refine lst_eq ?_ | refine str_eq ?_ | skip); (with_reducible apply fl_eq); (· k_extra "fl"); (· k_extra "fl"); rfl))) | (simp [joined]; done)))
    · (((refine Lib.enter (by assumption) rfl (fun h => nomatch h) rfl (by decide) ?_); k_extra "go"); (((refine Lib.enter (by assumption) rfl (fun h => nomatch h) rfl (by decide) ?_); k_extra "go"); (all_goals (k_extra "go"; repeat (refine Cal.ret (by assumption) (by k_extra "le") ?_; k_extra "go"))); (all_goals first | rfl | (show _ = _; (first | rfl | ((first | refine lst_eq ?_ | refine str_eq ?_ | skip); (with_reducible apply fl_eq); (· k_extra "fl"); (· k_extra "fl"); rfl))) | (simp [joined]; done))))
end

/-- a formal -/
noncomputable def FormOK (C : Cx) (v : V) : Prop := ∃ rows ts, DeclIs C 16 70 v rows ts ∧ rows.length ≤ 1 ∧ ts.length ≤ 400
theorem f_mk {C : Cx} {word : List Nat} {rest : List V} {f : Nat} {a : List Nat} {ts : List (List Nat)} (hf : dlook LK LV word = some (.fn f)) (h1 : Ret C 16 f [LD, .tup (.str word :: rest)] (tv [a])) (h2 : Td false a ts) (h3 : Ret C 16 70 [.tup (.str word :: rest)] (tv ts)) (h4 : a.length ≤ 3000 ∧ ts.length ≤ 400) :
    FormOK C (.tup (.str word :: rest)) :=
  ⟨[a], ts, ⟨word, rest, f, rfl, hf, h1, h3, .one h2, by simpa using h4.1⟩, by simp, h4.2⟩

section
variable {C : Cx} (L : Lib C)
include L

theorem fo_in {names mark d : V} (hn : IsN C names) (hm : IsE C 1 mark) (hd : IsV C d) : FormOK C (.tup [.str [102, 111, 98, 106, 101, 99, 116], .int 0, names, .str [105, 110], mark, d]) := by
  obtain ⟨s, ss, t, r, a, rfl, n1, n2, n3, n4, n5⟩ := hn
  obtain ⟨xs, t', r', rfl, q, g1, g2, g3⟩ := hm
  obtain ⟨q2, l2⟩ := sh L q g2 (by omega)
  obtain ⟨b, us, v1, v2, v3, v4, v5⟩ := vfacts L hd
  (apply f_mk; ((· rfl); (· (((refine Lib.enter (by assumption) rfl (fun h => nomatch h) rfl (by decide) ?_); k_extra "go"); (all_goals (k_extra "go"; repeat (refine Cal.ret (by assumption) (by k_extra "le") ?_; k_extra "go"))); (all_goals first | rfl | (show _ = _; (first | rfl | ((first | refine lst_eq ?_ | refine str_eq ?_ | skip); (with_reducible apply fl_eq); (· k_extra "fl"); (· k_extra "fl"); rfl))) | (simp [joined]; done)))); (· (apply td_top; k_extra "td")); (· (((refine Lib.enter (by assumption) rfl (fun h => nomatch h) rfl (by decide) ?_); k_extra "go"); (all_goals (k_extra "go"; repeat (refine Cal.ret (by assumption) (by k_extra "le") ?_; k_extra "go"))); (all_goals first | rfl | (show _ = _; (first | rfl | ((first | refine lst_eq ?_ | refine str_eq ?_ | skip); (with_reducible apply fl_eq); (· k_extra "fl"); (· k_extra "fl"); rfl))) | (simp [joined]; done)))); (refine ⟨?_, ?_⟩ <;> ((with_reducible apply sd_lit); (· k_extra "lb"); rfl))))
theorem fo_inout {names mark d : V} (hn : IsN C names) (hm : IsE C 1 mark) (hd : IsV C d) : FormOK C (.tup [.str [102, 111, 98, 106, 101, 99, 116], .int 0, names, .str [105, 110, 111, 117, 116], mark, d]) := by
  obtain ⟨s, ss, t, r, a, rfl, n1, n2, n3, n4, n5⟩ := hn
  obtain ⟨xs, t', r', rfl, q, g1, g2, g3⟩ := hm
  obtain ⟨q2, l2⟩ := sh L q g2 (by omega)
  obtain ⟨b, us, v1, v2, v3, v4, v5⟩ := vfacts L hd
  (apply f_mk; ((· rfl); (· (((refine Lib.enter (by assumption) rfl (fun h => nomatch h) rfl (by decide) ?_); k_extra "go"); (all_goals (k_extra "go"; repeat (refine Cal.ret (by assumption) (by k_extra "le") ?_; k_extra "go"))); (all_goals first | rfl | (show _ = _; (first | rfl | ((first | refine lst_eq ?_ | refine str_eq ?_ | skip); (with_reducible apply fl_eq); (· k_extra "fl"); (· k_extra "fl"); rfl))) | (simp [joined]; done)))); (· (apply td_top; k_extra "td")); (· (((refine Lib.enter (by assumption) rfl (fun h => nomatch h) rfl (by decide) ?_); k_extra "go"); (all_goals (k_extra "go"; repeat (refine Cal.ret (by assumption) (by k_extra "le") ?_; k_extra "go"))); (all_goals first | rfl | (show _ = _; (first | rfl | ((first | refine lst_eq ?_ | refine str_eq ?_ | skip); (with_reducible apply fl_eq); (· k_extra "fl"); (· k_extra "fl"); rfl))) | (simp [joined]; done)))); (refine ⟨?_, ?_⟩ <;> ((with_reducible apply sd_lit); (· k_extra "lb"); rfl))))
theorem ft_0 : FormOK C (.tup [.str [102, 116, 121, 112, 101], .int 0, .str [105, 116, 101, 109], .none, .tup [.str [112, 114, 105, 118, 97, 116, 101], .bool false, .bool false, .bool false]]) := by
  refine f_mk (f := 20) (a := [116, 121, 112, 101, 32, 105, 116, 101, 109, 32, 105, 115, 32, 112, 114, 105, 118, 97, 116, 101, 59]) (ts := [[116, 121, 112, 101], [105, 116, 101, 109], [105, 115], [112, 114, 105, 118, 97, 116, 101], [59]]) rfl ?_ ((lit_ok2 (a := [116, 121, 112, 101, 32, 105, 116, 101, 109, 32, 105, 115, 32, 112, 114, 105, 118, 97, 116, 101, 59]) rfl)).weak ?_ (by decide)
  · ((repeat (((refine Lib.enter (by assumption) rfl (fun h => nomatch h) rfl (by decide) ?_); k_extra "go"))); (all_goals first | rfl | (show _ = _; (first | rfl | ((first | refine lst_eq ?_ | refine str_eq ?_ | skip); (with_reducible apply fl_eq); (· k_extra "fl"); (· k_extra "fl"); rfl))) | (simp [joined]; done)))
  · ((repeat (((refine Lib.enter (by assumption) rfl (fun h => nomatch h) rfl (by decide) ?_); k_extra "go"))); (all_goals first | rfl | (show _ = _; (first | rfl | ((first | refine lst_eq ?_ | refine str_eq ?_ | skip); (with_reducible apply fl_eq); (· k_extra "fl"); (· k_extra "fl"); rfl))) | (simp [joined]; done)))
theorem ft_1 : FormOK C (.tup [.str [102, 116, 121, 112, 101], .int 0, .str [105, 116, 101, 109], .none, .tup [.str [100, 105, 115, 99, 114, 101, 116, 101]]]) := by
  refine f_mk (f := 20) (a := [116, 121, 112, 101, 32, 105, 116, 101, 109, 32, 105, 115, 32, 40, 60, 62, 41, 59]) (ts := [[116, 121, 112, 101], [105, 116, 101, 109], [105, 115], [40], [60, 62], [41], [59]]) rfl ?_ ((lit_ok2 (a := [116, 121, 112, 101, 32, 105, 116, 101, 109, 32, 105, 115, 32, 40, 60, 62, 41, 59]) rfl)).weak ?_ (by decide)
  · ((repeat (((refine Lib.enter (by assumption) rfl (fun h => nomatch h) rfl (by decide) ?_); k_extra "go"))); (all_goals first | rfl | (show _ = _; (first | rfl | ((first | refine lst_eq ?_ | refine str_eq ?_ | skip); (with_reducible apply fl_eq); (· k_extra "fl"); (· k_extra "fl"); rfl))) | (simp [joined]; done)))
  · ((repeat (((refine Lib.enter (by assumption) rfl (fun h => nomatch h) rfl (by decide) ?_); k_extra "go"))); (all_goals first | rfl | (show _ = _; (first | rfl | ((first | refine lst_eq ?_ | refine str_eq ?_ | skip); (with_reducible apply fl_eq); (· k_extra "fl"); (· k_extra "fl"); rfl))) | (simp [joined]; done)))
theorem ft_2 : FormOK C (.tup [.str [102, 116, 121, 112, 101], .int 0, .str [105, 116, 101, 109], .none, .tup [.str [97, 110, 121, 114, 97, 110, 103, 101]]]) := by
  refine f_mk (f := 20) (a := [116, 121, 112, 101, 32, 105, 116, 101, 109, 32, 105, 115, 32, 114, 97, 110, 103, 101, 32, 60, 62, 59]) (ts := [[116, 121, 112, 101], [105, 116, 101, 109], [105, 115], [114, 97, 110, 103, 101], [60, 62], [59]]) rfl ?_ ((lit_ok2 (a := [116, 121, 112, 101, 32, 105, 116, 101, 109, 32, 105, 115, 32, 114, 97, 110, 103, 101, 32, 60, 62, 59]) rfl)).weak ?_ (by decide)
  · ((repeat (((refine Lib.enter (by assumption) rfl (fun h => nomatch h) rfl (by decide) ?_); k_extra "go"))); (all_goals first | rfl | (show _ = _; (first | rfl | ((first | refine lst_eq ?_ | refine str_eq ?_ | skip); (with_reducible apply fl_eq); (· k_extra "fl"); (· k_extra "fl"); rfl))) | (simp [joined]; done)))
  · ((repeat (((refine Lib.enter (by assumption) rfl (fun h => nomatch h) rfl (by decide) ?_); k_extra "go"))); (all_goals first | rfl | (show _ = _; (first | rfl | ((first | refine lst_eq ?_ | refine str_eq ?_ | skip); (with_reducible apply fl_eq); (· k_extra "fl"); (· k_extra "fl"); rfl))) | (simp [joined]; done)))
theorem ft_3 : FormOK C (.tup [.str [102, 116, 121, 112, 101], .int 0, .str [105, 116, 101, 109], .none, .tup [.str [97, 110, 121, 109, 111, 100]]]) := by
  refine f_mk (f := 20) (a := [116, 121, 112, 101, 32, 105, 116, 101, 109, 32, 105, 115, 32, 109, 111, 100, 32, 60, 62, 59]) (ts := [[116, 121, 112, 101], [105, 116, 101, 109], [105, 115], [109, 111, 100], [60, 62], [59]]) rfl ?_ ((lit_ok2 (a := [116, 121, 112, 101, 32, 105, 116, 101, 109, 32, 105, 115, 32, 109, 111, 100, 32, 60, 62, 59]) rfl)).weak ?_ (by decide)
  · ((repeat (((refine Lib.enter (by assumption) rfl (fun h => nomatch h) rfl (by decide) ?_); k_extra "go"))); (all_goals first | rfl | (show _ = _; (first | rfl | ((first | refine lst_eq ?_ | refine str_eq ?_ | skip); (with_reducible apply fl_eq); (· k_extra "fl"); (· k_extra "fl"); rfl))) | (simp [joined]; done)))
  · ((repeat (((refine Lib.enter (by assumption) rfl (fun h => nomatch h) rfl (by decide) ?_); k_extra "go"))); (all_goals first | rfl | (show _ = _; (first | rfl | ((first | refine lst_eq ?_ | refine str_eq ?_ | skip); (with_reducible apply fl_eq); (· k_extra "fl"); (· k_extra "fl"); rfl))) | (simp [joined]; done)))
theorem ft_4 : FormOK C (.tup [.str [102, 116, 121, 112, 101], .int 0, .str [105, 116, 101, 109], .none, .tup [.str [97, 110, 121, 100, 101, 108, 116, 97]]]) := by
  refine f_mk (f := 20) (a := [116, 121, 112, 101, 32, 105, 116, 101, 109, 32, 105, 115, 32, 100, 101, 108, 116, 97, 32, 60, 62, 59]) (ts := [[116, 121, 112, 101], [105, 116, 101, 109], [105, 115], [100, 101, 108, 116, 97], [60, 62], [59]]) rfl ?_ ((lit_ok2 (a := [116, 121, 112, 101, 32, 105, 116, 101, 109, 32, 105, 115, 32, 100, 101, 108, 116, 97, 32, 60, 62, 59]) rfl)).weak ?_ (by decide)
  · ((repeat (((refine Lib.enter (by assumption) rfl (fun h => nomatch h) rfl (by decide) ?_); k_extra "go"))); (all_goals first | rfl | (show _ = _; (first | rfl | ((first | refine lst_eq ?_ | refine str_eq ?_ | skip); (with_reducible apply fl_eq); (· k_extra "fl"); (· k_extra "fl"); rfl))) | (simp [joined]; done)))
  · ((repeat (((refine Lib.enter (by assumption) rfl (fun h => nomatch h) rfl (by decide) ?_); k_extra "go"))); (all_goals first | rfl | (show _ = _; (first | rfl | ((first | refine lst_eq ?_ | refine str_eq ?_ | skip); (with_reducible apply fl_eq); (· k_extra "fl"); (· k_extra "fl"); rfl))) | (simp [joined]; done)))
theorem ft_5 : FormOK C (.tup [.str [102, 116, 121, 112, 101], .int 0, .str [105, 116, 101, 109], .none, .tup [.str [112, 114, 105, 118, 97, 116, 101], .bool true, .bool true, .bool true]]) := by
  refine f_mk (f := 20) (a := [116, 121, 112, 101, 32, 105, 116, 101, 109, 32, 105, 115, 32, 97, 98, 115, 116, 114, 97, 99, 116, 32, 116, 97, 103, 103, 101, 100, 32, 108, 105, 109, 105, 116, 101, 100, 32, 112, 114, 105, 118, 97, 116, 101, 59]) (ts := [[116, 121, 112, 101], [105, 116, 101, 109], [105, 115], [97, 98, 115, 116, 114, 97, 99, 116], [116, 97, 103, 103, 101, 100], [108, 105, 109, 105, 116, 101, 100], [112, 114, 105, 118, 97, 116, 101], [59]]) rfl ?_ ((lit_ok2 (a := [116, 121, 112, 101, 32, 105, 116, 101, 109, 32, 105, 115, 32, 97, 98, 115, 116, 114, 97, 99, 116, 32, 116, 97, 103, 103, 101, 100, 32, 108, 105, 109, 105, 116, 101, 100, 32, 112, 114, 105, 118, 97, 116, 101, 59]) rfl)).weak ?_ (by decide)
  · ((repeat (((refine Lib.enter (by assumption) rfl (fun h => nomatch h) rfl (by decide) ?_); k_extra "go"))); (all_goals first | rfl | (show _ = _; (first | rfl | ((first | refine lst_eq ?_ | refine str_eq ?_ | skip); (with_reducible apply fl_eq); (· k_extra "fl"); (· k_extra "fl"); rfl))) | (simp [joined]; done)))
  · ((repeat (((refine Lib.enter (by assumption) rfl (fun h => nomatch h) rfl (by decide) ?_); k_extra "go"))); (all_goals first | rfl | (show _ = _; (first | rfl | ((first | refine lst_eq ?_ | refine str_eq ?_ | skip); (with_reducible apply fl_eq); (· k_extra "fl"); (· k_extra "fl"); rfl))) | (simp [joined]; done)))
theorem fs_0 {spec : V} (h : IsS C spec) : FormOK C (.tup [.str [102, 115, 117, 98], .int 0, spec, .none]) := by
  obtain ⟨kw, nm, ps, ret, t, r, a, rfl, g, w1, w2, w3, w4, w5⟩ := h
  (apply f_mk; ((· rfl); (· (((refine Lib.enter (by assumption) rfl (fun h => nomatch h) rfl (by decide) ?_); k_extra "go"); (all_goals (k_extra "go"; repeat (refine Cal.ret (by assumption) (by k_extra "le") ?_; k_extra "go"))); (all_goals first | rfl | (show _ = _; (first | rfl | ((first | refine lst_eq ?_ | refine str_eq ?_ | skip); (with_reducible apply fl_eq); (· k_extra "fl"); (· k_extra "fl"); rfl))) | (simp [joined]; done)))); (· (apply td_top; k_extra "td")); (· (((refine Lib.enter (by assumption) rfl (fun h => nomatch h) rfl (by decide) ?_); k_extra "go"); (all_goals (k_extra "go"; repeat (refine Cal.ret (by assumption) (by k_extra "le") ?_; k_extra "go"))); (all_goals first | rfl | (show _ = _; (first | rfl | ((first | refine lst_eq ?_ | refine str_eq ?_ | skip); (with_reducible apply fl_eq); (· k_extra "fl"); (· k_extra "fl"); rfl))) | (simp [joined]; done)))); (refine ⟨?_, ?_⟩ <;> ((with_reducible apply sd_lit); (· k_extra "lb"); rfl))))
theorem fs_1 {spec : V} (h : IsS C spec) : FormOK C (.tup [.str [102, 115, 117, 98], .int 0, spec, .str [98, 111, 120]]) := by
  obtain ⟨kw, nm, ps, ret, t, r, a, rfl, g, w1, w2, w3, w4, w5⟩ := h
  (apply f_mk; ((· rfl); (· (((refine Lib.enter (by assumption) rfl (fun h => nomatch h) rfl (by decide) ?_); k_extra "go"); (all_goals (k_extra "go"; repeat (refine Cal.ret (by assumption) (by k_extra "le") ?_; k_extra "go"))); (all_goals first | rfl | (show _ = _; (first | rfl | ((first | refine lst_eq ?_ | refine str_eq ?_ | skip); (with_reducible apply fl_eq); (· k_extra "fl"); (· k_extra "fl"); rfl))) | (simp [joined]; done)))); (· (apply td_top; k_extra "td")); (· (((refine Lib.enter (by assumption) rfl (fun h => nomatch h) rfl (by decide) ?_); k_extra "go"); (all_goals (k_extra "go"; repeat (refine Cal.ret (by assumption) (by k_extra "le") ?_; k_extra "go"))); (all_goals first | rfl | (show _ = _; (first | rfl | ((first | refine lst_eq ?_ | refine str_eq ?_ | skip); (with_reducible apply fl_eq); (· k_extra "fl"); (· k_extra "fl"); rfl))) | (simp [joined]; done)))); (refine ⟨?_, ?_⟩ <;> ((with_reducible apply sd_lit); (· k_extra "lb"); rfl))))
theorem fs_2 {spec : V} (h : IsS C spec) : FormOK C (.tup [.str [102, 115, 117, 98], .int 0, spec, .tup [.str [110, 97, 109, 101], .str [101, 113]]]) := by
  obtain ⟨kw, nm, ps, ret, t, r, a, rfl, g, w1, w2, w3, w4, w5⟩ := h
  have p : Ret C 1 60 [.tup [.str [110, 97, 109, 101], .str [101, 113]]] (tv [[101, 113]]) := by (((refine Lib.enter (by assumption) rfl (fun h => nomatch h) rfl (by decide) ?_); k_extra "go"); (all_goals (k_extra "go"; repeat (refine Cal.ret (by assumption) (by k_extra "le") ?_; k_extra "go"))); (all_goals first | rfl | (show _ = _; (first | rfl | ((first | refine lst_eq ?_ | refine str_eq ?_ | skip); (with_reducible apply fl_eq); (· k_extra "fl"); (· k_extra "fl"); rfl))) | (simp [joined]; done)))
  have p2 : Ret C 2 75 [.tup [.str [110, 97, 109, 101], .str [101, 113]]] (.str [101, 113]) := by (((refine Lib.enter (by assumption) rfl (fun h => nomatch h) rfl (by decide) ?_); k_extra "go"); (all_goals (k_extra "go"; repeat (refine Cal.ret (by assumption) (by k_extra "le") ?_; k_extra "go"))); (all_goals first | rfl | (show _ = _; (first | rfl | ((first | refine lst_eq ?_ | refine str_eq ?_ | skip); (with_reducible apply fl_eq); (· k_extra "fl"); (· k_extra "fl"); rfl))) | (simp [joined]; done)))
  (apply f_mk; ((· rfl); (· (((refine Lib.enter (by assumption) rfl (fun h => nomatch h) rfl (by decide) ?_); k_extra "go"); (all_goals (k_extra "go"; repeat (refine Cal.ret (by assumption) (by k_extra "le") ?_; k_extra "go"))); (all_goals first | rfl | (show _ = _; (first | rfl | ((first | refine lst_eq ?_ | refine str_eq ?_ | skip); (with_reducible apply fl_eq); (· k_extra "fl"); (· k_extra "fl"); rfl))) | (simp [joined]; done)))); (· (apply td_top; k_extra "td")); (· (((refine Lib.enter (by assumption) rfl (fun h => nomatch h) rfl (by decide) ?_); k_extra "go"); (all_goals (k_extra "go"; repeat (refine Cal.ret (by assumption) (by k_extra "le") ?_; k_extra "go"))); (all_goals first | rfl | (show _ = _; (first | rfl | ((first | refine lst_eq ?_ | refine str_eq ?_ | skip); (with_reducible apply fl_eq); (· k_extra "fl"); (· k_extra "fl"); rfl))) | (simp [joined]; done)))); (refine ⟨?_, ?_⟩ <;> ((with_reducible apply sd_lit); (· k_extra "lb"); rfl))))
set_option maxRecDepth 4000 in
theorem fp {d : V} (h : d = .lst [] ∨ d = .str [98, 111, 120] ∨ IsP C d) : FormOK C (.tup [.str [102, 112, 97, 99, 107], .int 0, .str [105, 110, 110, 101, 114], .tup [.str [115, 101, 108, 101, 99, 116], .tup [.str [110, 97, 109, 101], .str [108, 105, 98]], .str [109, 97, 112, 115]], d]) := by
  obtain ⟨a, ts, a1, a2, a3, a4, a5⟩ := acts L h
  obtain ⟨xs, t, r, e, q, g1, g2, g3⟩ := e_sel L (x := [108, 105, 98]) (y := [109, 97, 112, 115]) (gt_lit (Eq.refl true)) (gt_lit (Eq.refl true))
  cases e
  obtain ⟨q2, l2⟩ := sh L q g2 (by omega)
  (apply f_mk; ((· rfl); (· (((refine Lib.enter (by assumption) rfl (fun h => nomatch h) rfl (by decide) ?_); k_extra "go"); (all_goals (k_extra "go"; repeat (refine Cal.ret (by assumption) (by k_extra "le") ?_; k_extra "go"))); (all_goals first | rfl | (show _ = _; (first | rfl | ((first | refine lst_eq ?_ | refine str_eq ?_ | skip); (with_reducible apply fl_eq); (· k_extra "fl"); (· k_extra "fl"); rfl))) | (simp [joined]; done)))); (· (apply td_top; k_extra "td")); (· (((refine Lib.enter (by assumption) rfl (fun h => nomatch h) rfl (by decide) ?_); k_extra "go"); (all_goals (k_extra "go"; repeat (refine Cal.ret (by assumption) (by k_extra "le") ?_; k_extra "go"))); (all_goals first | rfl | (show _ = _; (first | rfl | ((first | refine lst_eq ?_ | refine str_eq ?_ | skip); (with_reducible apply fl_eq); (· k_extra "fl"); (· k_extra "fl"); rfl))) | (simp [joined]; done)))); (refine ⟨?_, ?_⟩ <;> ((with_reducible apply sd_lit); (· k_extra "lb"); rfl))))

theorem c_formal : Cal C 7 57 [.deck] (FormOK C) := by
  have n1 := n_one L (a := [115, 105, 122, 101]) (gt_lit (Eq.refl true))
  have n2 := n_two L (a := [115, 105, 122, 101]) (b := [100, 101, 112, 116, 104]) (gt_lit (Eq.refl true)) (gt_lit (Eq.refl true))
  ((refine Lib.enter (by assumption) rfl (fun h => nomatch h) rfl (by decide) ?_); k_extra "go")
  refine L.draw5 ⟨?_, ?_, ?_, ?_, ?_⟩
  · k_extra "go"
    refine L.draw2 ⟨?_, ?_⟩
    · k_extra "go"
      refine L.draw2 ⟨?_, ?_⟩
      · k_extra "go"
        refine (c_mark L).up (by k_extra "le") fun m hm => ?_
        k_extra "go"
        refine (c_value L).up (by k_extra "le") fun d hd => ?_
        k_extra "go"
        exact fo_in L n1 hm hd
      · k_extra "go"
        refine (c_mark L).up (by k_extra "le") fun m hm => ?_
        k_extra "go"
        refine (c_value L).up (by k_extra "le") fun d hd => ?_
        k_extra "go"
        exact fo_in L n2 hm hd
    · k_extra "go"
      refine L.draw2 ⟨?_, ?_⟩
      · k_extra "go"
        refine (c_mark L).up (by k_extra "le") fun m hm => ?_
        k_extra "go"
        exact fo_inout L n1 hm (.inl rfl)
      · k_extra "go"
        refine (c_mark L).up (by k_extra "le") fun m hm => ?_
        k_extra "go"
        exact fo_inout L n2 hm (.inl rfl)
  · k_extra "go"
    refine L.draw6 ⟨?_, ?_, ?_, ?_, ?_, ?_⟩
    · k_extra "go"
      exact ft_0 L
    · k_extra "go"
      exact ft_1 L
    · k_extra "go"
      exact ft_2 L
    · k_extra "go"
      exact ft_3 L
    · k_extra "go"
      exact ft_4 L
    · k_extra "go"
      exact ft_5 L
  · k_extra "go"
    refine (c_spec L).up (by k_extra "le") fun sp hs => ?_
    k_extra "go"
    refine L.draw3 ⟨?_, ?_, ?_⟩
    · k_extra "go"
      exact fs_0 L hs
    · k_extra "go"
      exact fs_1 L hs
    · k_extra "go"
      exact fs_2 L hs
  · k_extra "go"
    refine L.draw3 ⟨?_, ?_, ?_⟩
    · k_extra "go"
      exact fp L (.inr (.inl rfl))
    · k_extra "go"
      exact fp L (.inl rfl)
    · k_extra "go"
      exact fp L (.inr (.inr (p_key L)))
  · k_extra "go"
    refine L.draw3 ⟨?_, ?_, ?_⟩
    · k_extra "go"
      exact fp L (.inr (.inl rfl))
    · k_extra "go"
      exact fp L (.inl rfl)
    · k_extra "go"
      exact fp L (.inr (.inr (p_key L)))

theorem wf_loop {n : Nat} {ds : List V} {rows ts : List (List Nat)} (h : DsIs C n 70 ds rows ts) : ∀ (us : List V) (v v1 v2 : Option V) (x4 x5 : Option V) (N : List (Option V) → Option (List V) → Prop) (R : V → Prop), us.length + ts.length ≤ 1000000 → (∀ x4, N [v, v1, v2, some (.lst (us ++ ts.map V.str)), x4, x5] none) →
    loopW (fun v' ρ' o' N' => match bindT (.one 4) v' ρ' with
      | some ρ'' => wpSs (Cal C n) 99 [.asg 3 (.bin .add (.var 3) (.call 70 [(.var 4)]))] ρ'' o' N' R
      | none => False) ds [v, v1, v2, some (.lst us), x4, x5] none N := by
  induction h with
  | nil =>
    intro us v v1 v2 x4 x5 N R hz hN
    have := hN x4
    simpa [loopW] using this
  | @cons d ds rows ts rows' ts' h1 _ ih =>
    intro us v v1 v2 x4 x5 N R hz hN
    obtain ⟨word, rest, f, rfl, hf, q1, q2, q3, q4⟩ := h1
    show wpSs (Cal C n) 99 [.asg 3 (.bin .add (.var 3) (.call 70 [(.var 4)]))] [v, v1, v2, some (.lst us), some (V.tup (.str word :: rest)), x5] none _ R
    simp only [List.length_append] at hz
    (conv => whnf)
    refine And.intro (by k_extra "side") ?_
    (conv => whnf)
    refine q2.ret (by k_extra "le") ?_
    (conv => whnf)
    refine And.intro (by simp [lim]; omega) ?_
    refine ih _ v v1 v2 _ x5 N R (by simp; omega) fun x3 => ?_
    have := hN x3
    simpa using this

noncomputable def FormsOK (C : Cx) (v : V) : Prop := ∃ ds rows ts, v = .lst ds ∧ DsIs C 16 70 ds rows ts ∧ rows.length ≤ 3 ∧ ts.length ≤ 1200 ∧ ds.length ≤ 3

theorem d_generic {n R T : Nat} {fs d : V} (hf : FormsOK C fs) (hd : DeclOK C n R T d) (hR : R ≤ 2000) (hT : T ≤ 50000) (hn : 16 ≤ n) : DeclOK C (n + 6) (R + 40) (T + 1300) (.tup [.str [103, 101, 110, 101, 114, 105, 99], .int 0, fs, d]) := by
  have h1 := (lit_ok2 (a := [103, 101, 110, 101, 114, 105, 99]) rfl)
  obtain ⟨ds, rows, ts, rfl, k, l1, l2, l3⟩ := hf
  obtain ⟨rows', ts', k', l1', l2'⟩ := hd.is
  have q1 := lr L k (by omega) (by omega)
  obtain ⟨t1, t2⟩ := k.tk
  have kk := DsIs.cons k' (DsIs.nil (C := C) (n := n) (w := 73))
  rw [List.append_nil, List.append_nil] at kk
  have p1 := lr L kk (by omega) (by simp)
  obtain ⟨u1, u2⟩ := kk.tk
  obtain ⟨word, rest, f, rfl, hf', m1, m2, m3, m4⟩ := k'
  have k2 : DsIs C (n + 4) 70 ds rows ts := by
    clear q1 t1 t2 l1 l2 l3
    induction k with
    | nil => exact .nil
    | cons a _ ih =>
      obtain ⟨w, rr, ff, e1, e2, e3, e4, e5, e6⟩ := a
      exact .cons ⟨w, rr, ff, e1, e2, e3.ret (by k_extra "le") rfl, e4.ret (by k_extra "le") rfl, e5, e6⟩ ih
  refine dn_mk (f := 28) (rows := [103, 101, 110, 101, 114, 105, 99] :: rows ++ rows') (ts := [103, 101, 110, 101, 114, 105, 99] :: ts ++ ts') rfl ?_ (((RowsTk.cons h1 t1).app u1).cast (by (first | rfl | ((first | refine lst_eq ?_ | refine str_eq ?_ | skip); (with_reducible apply fl_eq); (· k_extra "fl"); (· k_extra "fl"); rfl))) (by (first | rfl | ((first | refine lst_eq ?_ | refine str_eq ?_ | skip); (with_reducible apply fl_eq); (· k_extra "fl"); (· k_extra "fl"); rfl)))) ?_ (by (refine ⟨?_, ?_⟩ <;> ((apply Nat.le_trans); (· k_extra "lb"); omega))) (all_app (all_cons (by decide) t2) u2)
  · (((refine Lib.enter (by assumption) rfl (fun h => nomatch h) rfl (by decide) ?_); k_extra "go"); (all_goals (k_extra "go"; repeat (refine Cal.ret (by assumption) (by k_extra "le") ?_; k_extra "go"))); (all_goals first | rfl | (show _ = _; (first | rfl | ((first | refine lst_eq ?_ | refine str_eq ?_ | skip); (with_reducible apply fl_eq); (· k_extra "fl"); (· k_extra "fl"); rfl))) | (simp [joined]; done)))
  · ((refine Lib.enter (by assumption) rfl (fun h => nomatch h) rfl (by decide) ?_); k_extra "go")
    (refine Lib.enter (by assumption) rfl (fun h => nomatch h) rfl (by decide) ?_)
    (repeat k_extra "ands")
    refine LoopV.mk (wf_loop L k2 [.str [103, 101, 110, 101, 114, 105, 99]] _ _ _ _ _ _ _ (by simp; omega) fun x4 => ?_)
    k_extra "go"
    refine m2.ret (by k_extra "le") ?_
    k_extra "go"
    (all_goals first | rfl | (show _ = _; (first | rfl | ((first | refine lst_eq ?_ | refine str_eq ?_ | skip); (with_reducible apply fl_eq); (· k_extra "fl"); (· k_extra "fl"); rfl))) | (simp [joined]; done))

theorem d_ebody {n R T : Nat} {fam ps e v w : V} (hf : fam = .none ∨ fam = .tup [.str [105], .tup [.str [114, 97, 110, 103, 101], .tup [.str [105, 110, 116], .int 1], .tup [.str [105, 110, 116], .int 4]]]) (hp : IsPs C ps) (he : IsE C 1 e) (hv : DsOK C n R T v) (hw : IsH C w) (hR : R ≤ 2000) (hT : T ≤ 50000) (hn : 12 ≤ n) :
    ∃ st hs, w = .tup [.lst st, .lst hs] ∧ DeclOK C (n + 6) (R + 40) (T + 900) (.tup [.str [101, 110, 116, 114, 121, 98, 111, 100, 121], .int 0, .str [112, 117, 116], fam, ps, e, v, .lst st, .lst hs]) := by
  obtain ⟨a, us, w1, w2, tl, l1, l2⟩ := hp
  obtain ⟨xs, t, r, rfl, q, g1, g2, g3⟩ := he
  obtain ⟨q2, l3⟩ := sh L q g2 (by omega)
  obtain ⟨ds, rows, ts, rfl, v1, v2, v3, v4, v5, v6⟩ := dsg L hv hR hT
  obtain ⟨st, hs, rows', ts', rfl, h0, h1, h2, h3, h4, h5, h6⟩ := hw
  refine ⟨st, hs, rfl, ?_⟩
  have e3 := (lit_ok2 (a := [101, 110, 100, 32, 112, 117, 116, 59]) rfl)
  rcases hf with rfl | rfl
  · have t0 : Td false [101, 110, 116, 114, 121, 32, 112, 117, 116] _ := (lit_ok2 (a := [101, 110, 116, 114, 121, 32, 112, 117, 116]) rfl)
    have t1 := (((tl _ _ t0).app ((lit_ok2 (a := [32, 119, 104, 101, 110, 32]) rfl)) sp).app g1 cl).app ((lit_ok2 (a := [32, 105, 115]) rfl)) sp
    refine dn_mk (f := 42) (rows := ([101, 110, 116, 114, 121, 32, 112, 117, 116] ++ a ++ [32, 119, 104, 101, 110, 32] ++ joined [32] (t :: r) ++ [32, 105, 115]) :: rows ++ rows' ++ [[101, 110, 100, 32, 112, 117, 116, 59]]) (ts := [101, 110, 116, 114, 121] :: [112, 117, 116] :: us ++ [119, 104, 101, 110] :: t :: r ++ [[105, 115]] ++ ts ++ ts' ++ [[101, 110, 100], [112, 117, 116], [59]]) rfl ?_ ((((RowsTk.cons t1 v3).app h3).app (.one e3.weak)).cast (by (first | rfl | ((first | refine lst_eq ?_ | refine str_eq ?_ | skip); (with_reducible apply fl_eq); (· k_extra "fl"); (· k_extra "fl"); rfl))) (by (first | rfl | ((first | refine lst_eq ?_ | refine str_eq ?_ | skip); (with_reducible apply fl_eq); (· k_extra "fl"); (· k_extra "fl"); rfl)))) ?_ (by (refine ⟨?_, ?_⟩ <;> ((apply Nat.le_trans); (· k_extra "lb"); omega))) (all_app (all_app (all_cons (by ((with_reducible apply sd_lit); (· k_extra "lb"); rfl)) v4) h5) (all_cons (by decide) all_nil))
    · (((refine Lib.enter (by assumption) rfl (fun h => nomatch h) rfl (by decide) ?_); k_extra "go"); (all_goals (k_extra "go"; repeat (refine Cal.ret (by assumption) (by k_extra "le") ?_; k_extra "go"))); (all_goals first | rfl | (show _ = _; (first | rfl | ((first | refine lst_eq ?_ | refine str_eq ?_ | skip); (with_reducible apply fl_eq); (· k_extra "fl"); (· k_extra "fl"); rfl))) | (simp [joined]; done)))
    · (((refine Lib.enter (by assumption) rfl (fun h => nomatch h) rfl (by decide) ?_); k_extra "go"); (((refine Lib.enter (by assumption) rfl (fun h => nomatch h) rfl (by decide) ?_); k_extra "go"); (all_goals (k_extra "go"; repeat (refine Cal.ret (by assumption) (by k_extra "le") ?_; k_extra "go"))); (all_goals first | rfl | (show _ = _; (first | rfl | ((first | refine lst_eq ?_ | refine str_eq ?_ | skip); (with_reducible apply fl_eq); (· k_extra "fl"); (· k_extra "fl"); rfl))) | (simp [joined]; done))))
  · have p : Ret C 3 60 [.tup [.str [114, 97, 110, 103, 101], .tup [.str [105, 110, 116], .int 1], .tup [.str [105, 110, 116], .int 4]]] (tv [[49], [46, 46], [52]]) := by ((repeat (((refine Lib.enter (by assumption) rfl (fun h => nomatch h) rfl (by decide) ?_); k_extra "go"))); (all_goals first | rfl | (show _ = _; (first | rfl | ((first | refine lst_eq ?_ | refine str_eq ?_ | skip); (with_reducible apply fl_eq); (· k_extra "fl"); (· k_extra "fl"); rfl))) | (simp [joined]; done)))
    have p2 : Ret C 5 0 [LD, .tup [.str [114, 97, 110, 103, 101], .tup [.str [105, 110, 116], .int 1], .tup [.str [105, 110, 116], .int 4]]] (.str [49, 32, 46, 46, 32, 52]) := by ((repeat (((refine Lib.enter (by assumption) rfl (fun h => nomatch h) rfl (by decide) ?_); k_extra "go"))); (all_goals first | rfl | (show _ = _; (first | rfl | ((first | refine lst_eq ?_ | refine str_eq ?_ | skip); (with_reducible apply fl_eq); (· k_extra "fl"); (· k_extra "fl"); rfl))) | (simp [joined]; done)))
    have t0 : Td true [101, 110, 116, 114, 121, 32, 112, 117, 116, 32, 40, 102, 111, 114, 32, 105, 32, 105, 110, 32, 49, 32, 46, 46, 32, 52, 41] _ := (lit_ok2 (a := [101, 110, 116, 114, 121, 32, 112, 117, 116, 32, 40, 102, 111, 114, 32, 105, 32, 105, 110, 32, 49, 32, 46, 46, 32, 52, 41]) rfl)
    have t1 := (((tl _ _ t0.weak).app ((lit_ok2 (a := [32, 119, 104, 101, 110, 32]) rfl)) sp).app g1 cl).app ((lit_ok2 (a := [32, 105, 115]) rfl)) sp
    refine dn_mk (f := 42) (rows := ([101, 110, 116, 114, 121, 32, 112, 117, 116, 32, 40, 102, 111, 114, 32, 105, 32, 105, 110, 32, 49, 32, 46, 46, 32, 52, 41] ++ a ++ [32, 119, 104, 101, 110, 32] ++ joined [32] (t :: r) ++ [32, 105, 115]) :: rows ++ rows' ++ [[101, 110, 100, 32, 112, 117, 116, 59]]) (ts := [101, 110, 116, 114, 121] :: [112, 117, 116] :: [40] :: [102, 111, 114] :: [105] :: [105, 110] :: [49] :: [46, 46] :: [52] :: [41] :: us ++ [119, 104, 101, 110] :: t :: r ++ [[105, 115]] ++ ts ++ ts' ++ [[101, 110, 100], [112, 117, 116], [59]]) rfl ?_ ((((RowsTk.cons t1 v3).app h3).app (.one e3.weak)).cast (by (first | rfl | ((first | refine lst_eq ?_ | refine str_eq ?_ | skip); (with_reducible apply fl_eq); (· k_extra "fl"); (· k_extra "fl"); rfl))) (by (first | rfl | ((first | refine lst_eq ?_ | refine str_eq ?_ | skip); (with_reducible apply fl_eq); (· k_extra "fl"); (· k_extra "fl"); rfl)))) ?_ (by (refine ⟨?_, ?_⟩ <;> ((apply Nat.le_trans); (· k_extra "lb"); omega))) (all_app (all_app (all_cons (by ((with_reducible apply sd_lit); (· k_extra "lb"); rfl)) v4) h5) (all_cons (by decide) all_nil))
    · (((refine Lib.enter (by assumption) rfl (fun h => nomatch h) rfl (by decide) ?_); k_extra "go"); (all_goals (k_extra "go"; repeat (refine Cal.ret (by assumption) (by k_extra "le") ?_; k_extra "go"))); (all_goals first | rfl | (show _ = _; (first | rfl | ((first | refine lst_eq ?_ | refine str_eq ?_ | skip); (with_reducible apply fl_eq); (· k_extra "fl"); (· k_extra "fl"); rfl))) | (simp [joined]; done)))
    · (((refine Lib.enter (by assumption) rfl (fun h => nomatch h) rfl (by decide) ?_); k_extra "go"); (((refine Lib.enter (by assumption) rfl (fun h => nomatch h) rfl (by decide) ?_); k_extra "go"); (all_goals (k_extra "go"; repeat (refine Cal.ret (by assumption) (by k_extra "le") ?_; k_extra "go"))); (all_goals first | rfl | (show _ = _; (first | rfl | ((first | refine lst_eq ?_ | refine str_eq ?_ | skip); (with_reducible apply fl_eq); (· k_extra "fl"); (· k_extra "fl"); rfl))) | (simp [joined]; done))))
end

section
variable {C : Cx} (L : Lib C)
include L

/-- the plain ways -/
theorem c_simple {k : Nat} {dp w : Int} {N : List (Option V) → Option (List V) → Prop} {P : V → Prop} (hk : 8 ≤ k) (h0 : 0 ≤ w) (h1 : w ≤ 8) (hP : ∀ v, DeclOK C 16 1 400 v → P v) :
    wpSs (Cal C (k + 1)) 99 (b59.drop 1) [some .deck, some (.int dp), some (.int w), none, none, none, none] none N P := by
  have na := n_one L (a := [97]) (gt_lit (Eq.refl true))
  have nab := n_two L (a := [97]) (b := [98]) (gt_lit (Eq.refl true)) (gt_lit (Eq.refl true))
  have elib := (e_name L (t := [108, 105, 98]) (gt_lit (Eq.refl true))).up (show 1 ≤ 2 by omega)
  have esel := e_sel L (x := [108, 105, 98]) (y := [109, 97, 112, 115]) (gt_lit (Eq.refl true)) (gt_lit (Eq.refl true))
  obtain rfl | rfl | rfl | rfl | rfl | rfl | rfl | rfl | rfl : w = 0 ∨ w = 1 ∨ w = 2 ∨ w = 3 ∨ w = 4 ∨ w = 5 ∨ w = 6 ∨ w = 7 ∨ w = 8 := below_all 9 0 (fun w => w = 0 ∨ w = 1 ∨ w = 2 ∨ w = 3 ∨ w = 4 ∨ w = 5 ∨ w = 6 ∨ w = 7 ∨ w = 8) ⟨.inl rfl, .inr (.inl rfl), .inr (.inr (.inl rfl)), .inr (.inr (.inr (.inl rfl))), .inr (.inr (.inr (.inr (.inl rfl)))), .inr (.inr (.inr (.inr (.inr (.inl rfl))))), .inr (.inr (.inr (.inr (.inr (.inr (.inl rfl)))))), .inr (.inr (.inr (.inr (.inr (.inr (.inr (.inl rfl))))))), .inr (.inr (.inr (.inr (.inr (.inr (.inr (.inr (rfl)))))))), trivial⟩ w h0 (Int.lt_add_one_of_le h1)
  · k_extra "go"
    refine L.draw2 ⟨?_, ?_⟩
    · k_extra "go"
      refine L.draw2 ⟨?_, ?_⟩
      · k_extra "go"
        refine (c_kind L).up (by k_extra "le") fun kd hk => ?_
        k_extra "go"
        refine (c_value L).up (by k_extra "le") fun d hd => ?_
        k_extra "go"
        exact hP _ (d_object L na hk hd)
      · k_extra "go"
        refine (c_kind L).up (by k_extra "le") fun kd hk => ?_
        k_extra "go"
        refine (c_value L).up (by k_extra "le") fun d hd => ?_
        k_extra "go"
        exact hP _ (d_object L na hk hd)
    · k_extra "go"
      refine L.draw2 ⟨?_, ?_⟩
      · k_extra "go"
        refine (c_kind L).up (by k_extra "le") fun kd hk => ?_
        k_extra "go"
        refine (c_value L).up (by k_extra "le") fun d hd => ?_
        k_extra "go"
        exact hP _ (d_object L nab hk hd)
      · k_extra "go"
        refine (c_kind L).up (by k_extra "le") fun kd hk => ?_
        k_extra "go"
        refine (c_value L).up (by k_extra "le") fun d hd => ?_
        k_extra "go"
        exact hP _ (d_object L nab hk hd)
  · k_extra "go"
    refine L.draw2 ⟨?_, ?_⟩
    · k_extra "go"
      refine (c_spec L).up (by k_extra "le") fun sp hs => ?_
      k_extra "go"
      exact hP _ (d_subprog L hs)
    · k_extra "go"
      refine (c_spec L).up (by k_extra "le") fun sp hs => ?_
      k_extra "go"
      exact hP _ (d_abstract L hs)
  · k_extra "go"
    refine L.draw3 ⟨?_, ?_, ?_⟩
    all_goals
      k_extra "go"
      refine L.draw2 ⟨?_, ?_⟩
      · k_extra "go"
        exact hP _ (d_instance L (gt_lit (Eq.refl true)) (.inl rfl))
      · k_extra "go"
        refine (c_expr L).up (by k_extra "le") fun e he => ?_
        k_extra "go"
        refine (c_expr L).up (by k_extra "le") fun e' he' => ?_
        k_extra "go"
        exact hP _ (d_instance L (gt_lit (Eq.refl true)) (.inr (.inr (p_two L he he' (gt_lit (Eq.refl true))))))
  · k_extra "go"
    refine L.draw4 ⟨?_, ?_, ?_, ?_⟩
    · k_extra "go"
      refine (c_spec L).up (by k_extra "le") fun sp hs => ?_
      k_extra "go"
      exact hP _ (d_rename_obj L)
    · k_extra "go"
      refine (c_spec L).up (by k_extra "le") fun sp hs => ?_
      k_extra "go"
      exact hP _ (d_rename_exc L)
    · k_extra "go"
      refine (c_spec L).up (by k_extra "le") fun sp hs => ?_
      k_extra "go"
      exact hP _ (d_rename_pack L)
    · k_extra "go"
      refine (c_spec L).up (by k_extra "le") fun sp hs => ?_
      have hs' := hs
      obtain ⟨kw, nm, ps, ret, t, r, a, rfl, g, _⟩ := hs'
      k_extra "go"
      exact hP _ (d_rename_sub L hs g)
  · k_extra "go"
    refine (c_expr L).up (by k_extra "le") fun e he => ?_
    k_extra "go"
    refine L.draw2 ⟨?_, ?_⟩
    · k_extra "go"
      exact hP _ (d_exception L)
    · k_extra "go"
      exact hP _ (d_number L he)
  · k_extra "go"
    refine L.draw2 ⟨?_, ?_⟩
    · k_extra "go"
      refine L.draw2 ⟨?_, ?_⟩
      · k_extra "go"
        exact hP _ (d_use2 L (.inr (.inl rfl)) elib esel)
      · k_extra "go"
        exact hP _ (d_use1 L (.inr (.inl rfl)) esel)
    · k_extra "go"
      refine L.draw2 ⟨?_, ?_⟩
      · k_extra "go"
        exact hP _ (d_use2 L (.inr (.inr rfl)) elib esel)
      · k_extra "go"
        exact hP _ (d_use1 L (.inr (.inr rfl)) esel)
  · k_extra "go"
    refine L.draw2 ⟨?_, ?_⟩
    · k_extra "go"
      exact hP _ (d_pragma L (.inl rfl))
    · k_extra "go"
      exact hP _ (d_pragma L (.inr (.inr (p_one L (e_name L (gt_lit (Eq.refl true)))))))
  · k_extra "go"
    refine (c_kind L).up (by k_extra "le") fun kd hk => ?_
    k_extra "go"
    exact hP _ (d_subtype L hk)
  · k_extra "go"
    exact (c_entry L).up (by k_extra "le") fun v hv => hP _ hv

/-- a declaration at the bottom -/
theorem c_decl2 : Cal C 10 59 [.deck, .int 2] (DeclOK C 16 1 400) := by
  ((refine Lib.enter (by assumption) rfl (fun h => nomatch h) rfl (by decide) ?_); k_extra "go")
  refine L.draw 8 9 _ (by decide) fun w h0 h1 => ?_
  k_extra "go"
  exact c_simple L (k := 8) (by omega) h0 (by omega) fun v hv => hv

theorem it_body {N : List (Option V) → Option (List V) → Prop} {R : V → Prop} {us : List V} {b : Bool} {x3 x4 : Option V} (hz : us.length ≤ 10) (hN : ∀ v x4, DeclOK C 16 1 400 v → N [some .deck, some (.bool b), none, x3, x4] (some (us ++ [v]))) :
    wpSs (Cal C 8) 2 (loopBody b56) [some .deck, some (.bool b), none, x3, x4] (some us) N R := by
  have nck := n_two L (a := [99]) (b := [107]) (gt_lit (Eq.refl true)) (gt_lit (Eq.refl true))
  cases b
  · k_extra "go"
    refine L.draw2 ⟨?_, ?_⟩
    · k_extra "go"
      refine (c_spec L).up (by k_extra "le") fun sp hs => ?_
      k_extra "go"
      exact hN _ _ (d_subprog L hs)
    · k_extra "go"
      refine (c_entry L).up (by k_extra "le") fun v hv => ?_
      k_extra "go"
      exact hN _ _ hv
  · k_extra "go"
    refine L.draw3 ⟨?_, ?_, ?_⟩
    · k_extra "go"
      refine (c_spec L).up (by k_extra "le") fun sp hs => ?_
      k_extra "go"
      exact hN _ _ (d_subprog L hs)
    · k_extra "go"
      refine (c_entry L).up (by k_extra "le") fun v hv => ?_
      k_extra "go"
      exact hN _ _ hv
    · k_extra "go"
      refine (c_kind L).up (by k_extra "le") fun kd hk => ?_
      k_extra "go"
      refine (c_value L).up (by k_extra "le") fun d hd => ?_
      k_extra "go"
      exact hN _ _ (d_component L nck hk hd)
theorem c_items {b : Bool} : Cal C 9 56 [.deck, .bool b] (DsOK C 16 2 800) := by
  (refine Lib.enter (by assumption) rfl (fun h => nomatch h) rfl (by decide) ?_)
  k_extra "go"
  refine L.draw3 ⟨?_, ?_, ?_⟩
  · k_extra "go"
    exact ds_nil
  · (repeat k_extra "ands")
    refine LoopV.mk (it_body L (us := []) (by simp) fun v x4 hv => ?_)
    k_extra "go"
    exact (ds_one hv).up (by k_extra "le") (by omega)
  · (repeat k_extra "ands")
    refine LoopV.mk (it_body L (us := []) (by simp) fun v x4 hv => ?_)
    refine it_body L (us := [v]) (by simp) fun v' x4 hv' => ?_
    k_extra "go"
    exact ds_two hv hv'

theorem c_many {k n R T : Nat} {dp : Int} (hd : Cal C k 59 [.deck, .int (dp + 1)] (DeclOK C n R T)) (hk : 1 ≤ k) : Cal C (k + 1) 55 [.deck, .int dp] (DsOK C n (2 * R) (2 * T)) := by
  obtain ⟨k, rfl⟩ : ∃ j, k = j + 1 := ⟨k - 1, by omega⟩
  ((refine Lib.enter (by assumption) rfl (fun h => nomatch h) rfl (by decide) ?_); k_extra "go")
  refine L.draw3 ⟨?_, ?_, ?_⟩
  · k_extra "go"
    exact ds_nil
  · k_extra "go"
    refine hd.up (by k_extra "le") fun v hv => ?_
    k_extra "go"
    exact (ds_one hv).up (by k_extra "le") (by omega)
  · k_extra "go"
    refine hd.up (by k_extra "le") fun v hv => ?_
    k_extra "go"
    refine hd.up (by k_extra "le") fun v' hv' => ?_
    k_extra "go"
    exact ds_two hv hv'
end

section
variable {C : Cx} (L : Lib C)
include L

theorem DsOK.lift {n m R T : Nat} {v : V} (h : DsOK C n R T v) (hm : n ≤ m) : DsOK C m R T v := by
  obtain ⟨ds, rows, ts, e, k, l1, l2, l3⟩ := h
  refine ⟨ds, rows, ts, e, ?_, l1, l2, l3⟩
  clear l1 l2 l3 e
  induction k with
  | nil => exact .nil
  | cons a _ ih =>
    obtain ⟨w, rr, ff, e1, e2, e3, e4, e5, e6⟩ := a
    exact .cons ⟨w, rr, ff, e1, e2, e3.ret hm rfl, e4.ret hm rfl, e5, e6⟩ ih

/-- the entries of a task -/
theorem c_task0 {k n R T : Nat} {dp : Int} (hk : 9 ≤ k) (hn : 16 ≤ n) (h2 : 2 ≤ R) (h3 : 800 ≤ T) (hR : R ≤ 800) (hT : T ≤ 20000) : Cal C (k + 1) 58 [.deck, .int dp, .int 0] (DeclOK C (n + 12) (2 * R + 130) (2 * T + 3000)) := by
  have fin : ∀ b dd v, IsD C dd → DsOK C 16 2 800 v → DeclOK C (n + 12) (2 * R + 130) (2 * T + 3000) (.tup [.str [116, 97, 115, 107], .int 0, .str [119, 111, 114, 107, 101, 114], .bool b, dd, v]) := fun b dd v hd hv => by
    have hv' := DsOK.lift L hv hn
    cases b
    · exact (d_task_false L hd (hv'.up h2 h3) (by omega) (by omega) (by omega)).up (by k_extra "le") (by omega) (by omega)
    · exact (d_task_true L hd (hv'.up h2 h3) (by omega) (by omega) (by omega)).up (by k_extra "le") (by omega) (by omega)
  obtain ⟨k, rfl⟩ : ∃ j, k = j + 1 := ⟨k - 1, by omega⟩
  ((refine Lib.enter (by assumption) rfl (fun h => nomatch h) rfl (by decide) ?_); k_extra "go")
  refine L.draw2 ⟨?_, ?_⟩
  all_goals
    k_extra "go"
    refine (c_discs L).up (by k_extra "le") fun dd hd => ?_
    k_extra "go"
    refine L.draw3 ⟨?_, ?_, ?_⟩
    · k_extra "go"
      exact fin _ _ _ hd ds_nil
    · k_extra "go"
      refine (c_entry L).up (by k_extra "le") fun v hv => ?_
      k_extra "go"
      exact fin _ _ _ hd ((ds_one hv).up (by k_extra "le") (by omega))
    · k_extra "go"
      refine (c_entry L).up (by k_extra "le") fun v hv => ?_
      k_extra "go"
      refine (c_entry L).up (by k_extra "le") fun v' hv' => ?_
      k_extra "go"
      exact fin _ _ _ hd (ds_two hv hv')

theorem c_task1 {k n R T : Nat} {dp : Int} (hm : Cal C k 55 [.deck, .int dp] (DsOK C n R T)) (hk : 9 ≤ k) (hn : 16 ≤ n) (hR : R ≤ 800) (hT : T ≤ 20000) : Cal C (k + 1) 58 [.deck, .int dp, .int 1] (DeclOK C (n + 12) (2 * R + 130) (2 * T + 3000)) := by
  obtain ⟨k, rfl⟩ : ∃ j, k = j + 1 := ⟨k - 1, by omega⟩
  ((refine Lib.enter (by assumption) rfl (fun h => nomatch h) rfl (by decide) ?_); k_extra "go")
  refine hm.up (by k_extra "le") fun v hv => ?_
  k_extra "go"
  refine (c_handled L).up (by k_extra "le") fun w hw => ?_
  obtain ⟨st, hs, rfl, hd⟩ := d_taskbody L hv hw (by omega) (by omega) (by omega)
  k_extra "go"
  exact hd.up (by k_extra "le") (by omega) (by omega)

theorem c_task2 {k n R T : Nat} {dp : Int} (hk : 9 ≤ k) (hn : 16 ≤ n) (h2 : 2 ≤ R) (h3 : 800 ≤ T) (hR : R ≤ 800) (hT : T ≤ 20000) : Cal C (k + 1) 58 [.deck, .int dp, .int 2] (DeclOK C (n + 12) (2 * R + 130) (2 * T + 3000)) := by
  have fin : ∀ b dd v w, IsD C dd → DsOK C 16 2 800 v → DsOK C 16 2 800 w → DeclOK C (n + 12) (2 * R + 130) (2 * T + 3000) (.tup [.str [112, 114, 111, 116, 101, 99, 116, 101, 100], .int 0, .str [103, 97, 116, 101], .bool b, dd, v, w]) := fun b dd v w hd hv hw => by
    have hv' := (DsOK.lift L hv hn).up h2 h3
    have hw' := (DsOK.lift L hw hn).up h2 h3
    cases b
    · exact (d_prot_false L hd hv' hw' (by omega) (by omega) (by omega)).up (by k_extra "le") (by omega) (by omega)
    · exact (d_prot_true L hd hv' hw' (by omega) (by omega) (by omega)).up (by k_extra "le") (by omega) (by omega)
  obtain ⟨k, rfl⟩ : ∃ j, k = j + 1 := ⟨k - 1, by omega⟩
  ((refine Lib.enter (by assumption) rfl (fun h => nomatch h) rfl (by decide) ?_); k_extra "go")
  refine L.draw2 ⟨?_, ?_⟩
  all_goals
    k_extra "go"
    refine (c_discs L).up (by k_extra "le") fun dd hd => ?_
    k_extra "go"
    refine (c_items L).up (by k_extra "le") fun v hv => ?_
    k_extra "go"
    refine (c_items L).up (by k_extra "le") fun w hw => ?_
    k_extra "go"
    exact fin _ _ _ _ hd hv hw

theorem c_task3 {k n R T : Nat} {dp : Int} (hm : Cal C k 55 [.deck, .int dp] (DsOK C n R T)) (hk : 9 ≤ k) (hn : 16 ≤ n) (hR : R ≤ 800) (hT : T ≤ 20000) : Cal C (k + 1) 58 [.deck, .int dp, .int 3] (DeclOK C (n + 12) (2 * R + 130) (2 * T + 3000)) := by
  have one : ∀ v, DeclOK C (n + 6) (R + 40) (T + 900) v → DeclOK C (n + 12) (2 * R + 130) (2 * T + 3000) (.tup [.str [112, 114, 111, 116, 98, 111, 100, 121], .int 0, .str [103, 97, 116, 101], .lst [v]]) := fun v hv =>
    (d_protbody L (ds_one hv) (by omega) (by omega)).up (by k_extra "le") (by omega) (by omega)
  have two : ∀ v w, DeclOK C (n + 6) (R + 40) (T + 900) v → DeclOK C (n + 6) (R + 40) (T + 900) w → DeclOK C (n + 12) (2 * R + 130) (2 * T + 3000) (.tup [.str [112, 114, 111, 116, 98, 111, 100, 121], .int 0, .str [103, 97, 116, 101], .lst [v, w]]) := fun v w hv hw =>
    (d_protbody L (ds_two hv hw) (by omega) (by omega)).up (by k_extra "le") (by omega) (by omega)
  obtain ⟨k, rfl⟩ : ∃ j, k = j + 1 := ⟨k - 1, by omega⟩
  ((refine Lib.enter (by assumption) rfl (fun h => nomatch h) rfl (by decide) ?_); k_extra "go")
  refine L.draw2 ⟨?_, ?_⟩
  · k_extra "go"
    refine (c_params L).up (by k_extra "le") fun ps hp => ?_
    k_extra "go"
    refine (c_expr L).up (by k_extra "le") fun e he => ?_
    k_extra "go"
    refine hm.up (by k_extra "le") fun v hv => ?_
    k_extra "go"
    refine (c_handled L).up (by k_extra "le") fun w hw => ?_
    obtain ⟨st, hs, rfl, hd⟩ := d_ebody L (.inl rfl) hp he hv hw (by omega) (by omega) (by omega)
    k_extra "go"
    refine (c_spec L).up (by k_extra "le") fun sp hsp => ?_
    have hsub := (d_subprog L hsp).up (show 16 ≤ n + 6 by omega) (show 1 ≤ R + 40 by omega) (show 400 ≤ T + 900 by omega)
    k_extra "go"
    refine L.draw2 ⟨?_, ?_⟩
    · k_extra "go"
      exact one _ hd
    · k_extra "go"
      exact two _ _ hd hsub
  · k_extra "go"
    refine (c_params L).up (by k_extra "le") fun ps hp => ?_
    k_extra "go"
    refine (c_expr L).up (by k_extra "le") fun e he => ?_
    k_extra "go"
    refine hm.up (by k_extra "le") fun v hv => ?_
    k_extra "go"
    refine (c_handled L).up (by k_extra "le") fun w hw => ?_
    obtain ⟨st, hs, rfl, hd⟩ := d_ebody L (.inr rfl) hp he hv hw (by omega) (by omega) (by omega)
    k_extra "go"
    refine (c_spec L).up (by k_extra "le") fun sp hsp => ?_
    have hsub := (d_subprog L hsp).up (show 16 ≤ n + 6 by omega) (show 1 ≤ R + 40 by omega) (show 400 ≤ T + 900 by omega)
    k_extra "go"
    refine L.draw2 ⟨?_, ?_⟩
    · k_extra "go"
      exact one _ hd
    · k_extra "go"
      exact two _ _ hd hsub

theorem DsIs.nil70 {n : Nat} : DsIs C n 70 [] [] [] := .nil
theorem fs_nil : FormsOK C (.lst []) := ⟨[], [], [], rfl, .nil, by simp, by simp, by simp⟩
theorem fs_cons {v : V} {ds : List V} (h : FormOK C v) (k : ∃ rows ts, DsIs C 16 70 ds rows ts ∧ rows.length ≤ 2 ∧ ts.length ≤ 800 ∧ ds.length ≤ 2) : FormsOK C (.lst (v :: ds)) := by
  obtain ⟨rows, ts, a, l1, l2⟩ := h
  obtain ⟨rows', ts', a', l1', l2', l3'⟩ := k
  exact ⟨_, _, _, rfl, .cons a a', by simp; omega, by simp; omega, by simp; omega⟩
theorem fs_one {v : V} (h : FormOK C v) : FormsOK C (.lst [v]) := fs_cons L h ⟨[], [], .nil, by simp, by simp, by simp⟩
theorem fs_two {v w : V} (h : FormOK C v) (h' : FormOK C w) : FormsOK C (.lst [v, w]) := by
  obtain ⟨rows, ts, a, l1, l2⟩ := h'
  exact fs_cons L h ⟨_, _, .cons a .nil, by simp; omega, by simp; omega, by simp⟩
theorem fs_three {v w u : V} (h : FormOK C v) (h' : FormOK C w) (h'' : FormOK C u) : FormsOK C (.lst [v, w, u]) := by
  obtain ⟨rows, ts, a, l1, l2⟩ := h'
  obtain ⟨rows', ts', a', l1', l2'⟩ := h''
  exact fs_cons L h ⟨_, _, .cons a (.cons a' .nil), by simp; omega, by simp; omega, by simp⟩

/-- the tail of a generic -/
theorem c_gen {k n R T : Nat} {dp w : Int} {N : List (Option V) → Option (List V) → Prop} {fs : V} {x2 x3 x4 x5 : Option V} (hm : Cal C k 55 [.deck, .int dp] (DsOK C n R T)) (hf : FormsOK C fs) (hk : 9 ≤ k) (hn : 16 ≤ n) (hR : R ≤ 800) (hT : T ≤ 20000) :
    wpSs (Cal C (k + 1)) 99 [.ret (.tup [(.str [103, 101, 110, 101, 114, 105, 99]), (.int 0), (.var 6), (.ite (.of (.cmp .eq (.call 45 [(.var 0), (.int 2)]) (.int 0))) (.tup [(.str [115, 117, 98, 112, 114, 111, 103]), (.int 0), (.call 51 [(.var 0)])]) (.tup [(.str [112, 97, 99, 107, 97, 103, 101]), (.int 0), (.str [109, 97, 100, 101, 95, 111, 102]), (.call 55 [(.var 0), (.var 1)]), (.lst [])]))])] [some .deck, some (.int dp), x2, x3, x4, x5, some fs] none N (DeclOK C (n + 12) (2 * R + 130) (2 * T + 3000)) := by
  k_extra "go"
  refine L.draw2 ⟨?_, ?_⟩
  · k_extra "go"
    refine (c_spec L).up (by k_extra "le") fun sp hsp => ?_
    have hsub := (d_subprog L hsp).up (show 16 ≤ n by omega) (show 1 ≤ R + 1 by omega) (show 400 ≤ T + 400 by omega)
    k_extra "go"
    exact (d_generic L hf hsub (by omega) (by omega) hn).up (by k_extra "le") (by omega) (by omega)
  · k_extra "go"
    refine hm.up (by k_extra "le") fun v hv => ?_
    k_extra "go"
    exact (d_generic L hf (d_package2 L hv (ds_nil (R := R) (T := T)) (by omega) (by omega)) (by omega) (by omega) (by omega)).up (by k_extra "le") (by omega) (by omega)

set_option maxHeartbeats 4000000 in
/-- a declaration above -/
theorem c_decl {k n R T : Nat} {dp : Int} (hdp : dp = 0 ∨ dp = 1) (hm : Cal C k 55 [.deck, .int dp] (DsOK C n R T)) (hk : 9 ≤ k) (hn : 16 ≤ n) (h2 : 2 ≤ R) (h3 : 800 ≤ T) (hR : R ≤ 800) (hT : T ≤ 20000) : Cal C (k + 2) 59 [.deck, .int dp] (DeclOK C (n + 12) (2 * R + 130) (2 * T + 3000)) := by
  have t0 := c_task0 L (dp := dp) hk hn h2 h3 hR hT
  have t1 := c_task1 L hm hk hn hR hT
  have t2 := c_task2 L (dp := dp) hk hn h2 h3 hR hT
  have t3 := c_task3 L hm hk hn hR hT
  have task : Cal C (k + 1) 45 [.deck, .int 4] (fun v => Cal C (k + 1) 58 [.deck, .int dp, v] (DeclOK C (n + 12) (2 * R + 130) (2 * T + 3000))) := L.draw4 ⟨t0, t1, t2, t3⟩
  obtain ⟨k, rfl⟩ : ∃ j, k = j + 1 := ⟨k - 1, by omega⟩
  rcases hdp with rfl | rfl
  all_goals
    ((refine Lib.enter (by assumption) rfl (fun h => nomatch h) rfl (by decide) ?_); k_extra "go")
    refine L.draw _ 17 _ (by decide) fun w h0 h1 => ?_
    by_cases hw : w ≤ 8
    · k_extra "go"
      exact c_simple L (k := k + 1) (by omega) h0 hw fun v hv => hv.up (by k_extra "le") (by omega) (by omega)
    · obtain rfl | rfl | rfl | rfl | rfl | rfl | rfl | rfl : w = 9 ∨ w = 10 ∨ w = 11 ∨ w = 12 ∨ w = 13 ∨ w = 14 ∨ w = 15 ∨ w = 16 := below_all 8 9 (fun w => w = 9 ∨ w = 10 ∨ w = 11 ∨ w = 12 ∨ w = 13 ∨ w = 14 ∨ w = 15 ∨ w = 16) ⟨.inl rfl, .inr (.inl rfl), .inr (.inr (.inl rfl)), .inr (.inr (.inr (.inl rfl))), .inr (.inr (.inr (.inr (.inl rfl)))), .inr (.inr (.inr (.inr (.inr (.inl rfl))))), .inr (.inr (.inr (.inr (.inr (.inr (.inl rfl)))))), .inr (.inr (.inr (.inr (.inr (.inr (.inr (rfl))))))), trivial⟩ w (Int.lt_of_not_ge hw) h1
      · k_extra "go"
        refine hm.up (by k_extra "le") fun v hv => ?_
        k_extra "go"
        refine hm.up (by k_extra "le") fun v' hv' => ?_
        k_extra "go"
        exact (d_package L hv hv' (by omega) (by omega)).up (by k_extra "le") (by omega) (by omega)
      · k_extra "go"
        refine hm.up (by k_extra "le") fun v hv => ?_
        k_extra "go"
        refine hm.up (by k_extra "le") fun v' hv' => ?_
        k_extra "go"
        exact (d_package L hv hv' (by omega) (by omega)).up (by k_extra "le") (by omega) (by omega)
      · k_extra "go"
        refine hm.up (by k_extra "le") fun v hv => ?_
        k_extra "go"
        refine L.draw2 ⟨?_, ?_⟩
        · k_extra "go"
          exact (d_packbody0 L hv (by omega) (by omega)).up (by k_extra "le") (by omega) (by omega)
        · k_extra "go"
          refine (c_handled L).up (by k_extra "le") fun w hw => ?_
          obtain ⟨st, hs, rfl, hd⟩ := d_packbody L hv hw (by omega) (by omega) (by omega)
          k_extra "go"
          exact hd.up (by k_extra "le") (by omega) (by omega)
      · k_extra "go"
        refine (c_spec L).up (by k_extra "le") fun sp hsp => ?_
        k_extra "go"
        refine hm.up (by k_extra "le") fun v hv => ?_
        k_extra "go"
        refine (c_handled L).up (by k_extra "le") fun w hw => ?_
        obtain ⟨st, hs, rfl, hd⟩ := d_subbody L hsp hv hw (by omega) (by omega) (by omega)
        k_extra "go"
        exact hd.up (by k_extra "le") (by omega) (by omega)
      · k_extra "go"
        refine L.draw4 ⟨?_, ?_, ?_, ?_⟩
        · k_extra "go"
          exact c_gen L (dp := _) (k := k + 1) (w := 0) (N := fun _ _ => True) hm (fs_nil L) (by omega) hn hR hT
        · k_extra "go"
          refine (c_formal L).up (by k_extra "le") fun f1 hf1 => ?_
          k_extra "go"
          exact c_gen L (dp := _) (k := k + 1) (w := 0) (N := fun _ _ => True) hm (fs_one L hf1) (by omega) hn hR hT
        · k_extra "go"
          refine (c_formal L).up (by k_extra "le") fun f1 hf1 => ?_
          k_extra "go"
          refine (c_formal L).up (by k_extra "le") fun f2 hf2 => ?_
          k_extra "go"
          exact c_gen L (dp := _) (k := k + 1) (w := 0) (N := fun _ _ => True) hm (fs_two L hf1 hf2) (by omega) hn hR hT
        · k_extra "go"
          refine (c_formal L).up (by k_extra "le") fun f1 hf1 => ?_
          k_extra "go"
          refine (c_formal L).up (by k_extra "le") fun f2 hf2 => ?_
          k_extra "go"
          refine (c_formal L).up (by k_extra "le") fun f3 hf3 => ?_
          k_extra "go"
          exact c_gen L (dp := _) (k := k + 1) (w := 0) (N := fun _ _ => True) hm (fs_three L hf1 hf2 hf3) (by omega) hn hR hT
      · k_extra "go"
        exact task.up (by k_extra "le") fun v hv => hv
      · k_extra "go"
        exact task.up (by k_extra "le") fun v hv => hv
      · k_extra "go"
        exact task.up (by k_extra "le") fun v hv => hv

theorem c_decl1 : Cal C 13 59 [.deck, .int 1] (DeclOK C 28 134 4600) :=
  (c_decl L (k := 11) (.inr rfl) (c_many L (dp := 1) (c_decl2 L) (by omega)) (by omega) (n := 16) (by omega) (by omega) (by omega) (by omega) (by omega)).up (by k_extra "le") fun v h => h
theorem c_decl0 : Cal C 16 59 [.deck, .int 0] (DeclOK C 40 670 22000) :=
  (c_decl L (k := 14) (.inl rfl) (c_many L (dp := 0) (c_decl1 L) (by omega)) (by omega) (n := 28) (by omega) (by omega) (by omega) (by omega) (by omega)).up (by k_extra "le") fun v h => h.up (by k_extra "le") (by omega) (by omega)
end

set_option maxRecDepth 10000 in
theorem display22 (k0 v0 k1 v1 k2 v2 k3 v3 k4 v4 k5 v5 k6 v6 k7 v7 k8 v8 k9 v9 k10 v10 k11 v11 k12 v12 k13 v13 k14 v14 k15 v15 k16 v16 k17 v17 k18 v18 k19 v19 k20 v20 k21 v21 : Sem Value) : dictDisplay [(some k0, v0), (some k1, v1), (some k2, v2), (some k3, v3), (some k4, v4), (some k5, v5), (some k6, v6), (some k7, v7), (some k8, v8), (some k9, v9), (some k10, v10), (some k11, v11), (some k12, v12), (some k13, v13), (some k14, v14), (some k15, v15), (some k16, v16), (some k17, v17), (some k18, v18), (some k19, v19), (some k20, v20), (some k21, v21)] = (do
    let d ← subDict [(k0, v0), (k1, v1), (k2, v2), (k3, v3), (k4, v4), (k5, v5), (k6, v6), (k7, v7), (k8, v8), (k9, v9), (k10, v10), (k11, v11), (k12, v12), (k13, v13), (k14, v14), (k15, v15), (k16, v16)]
    let sub ← holding [.ref d] (subDict [(k17, v17), (k18, v18), (k19, v19), (k20, v20), (k21, v21)])
    (holding [.ref d, .ref sub] (mergeMapping d (.ref sub) false)).onRaise fun x => do let _ ← holding [.ref d, x] (runValue (.builtin "proto.let_go" {}))
    pure (.ref d)) := by
  unfold dictDisplay
  simp [List.forIn_cons, List.forIn_nil]

section
variable {prog : Program} {w : World} {K : Type} [DecidableEq K] {knd : KeyKind prog w K} {A : Around} {E : Value → Shared → Prop} {s : Shared}

theorem pairs_get {es : List DictEntry} {kvs : List (K × Value)} (h : Pairs knd es kvs) : ∀ {i : Nat} {e : DictEntry}, es[i]? = some e → ∃ k, kvs[i]? = some (k, e.val) ∧ knd.is k e.key = true := by
  induction h with
  | nil => intro i e h; cases h
  | cons h1 h2 _ ih =>
    intro i e h
    cases i with
    | zero => cases h; exact ⟨_, by rw [h2]; rfl, h1⟩
    | succ i => exact ih h

/-- a new pair is put in -/
theorem dictPut_new {d : Addr} {kvs : List (K × Value)} {k : K} {key v : Value} {Q : Unit → Shared → Prop} (hkey : knd.is k key = true) (hm : s.heap.DictOf knd d kvs) (hnew : k ∉ kvs.map (·.1))
    (hsz : kvs.length ≤ sizeLine) (hQ : ∀ h', h'.DictOf knd d (kvs ++ [(k, v)]) → Heap.SameBut d s.heap h' → Q () { s with heap := h' }) :
    wpAny (model prog w) A (dictPut d (knd.hash k) key v) Q E s := by
  obtain ⟨o, es, ep, ho, hc, hd, hk, hp, hn⟩ := hm
  have hes : es.size ≤ sizeLine := by
    have e1 := hp.length
    have e2 : es.toList.length = es.size := by simp
    omega
  unfold dictPut
  refine wpAny_bind (wpAny_dictFind_of hkey ho hd hk ?_)
  have hidx : (es.findIdx? fun e => knd.is k e.key) = kvs.findIdx? fun kv => decide (kv.1 = k) := by
    rw [← hp.findIdx k]; obtain ⟨l⟩ := es; simp
  cases hi : es.findIdx? fun e => knd.is k e.key with
  | some i =>
    have := any_of_findIdx_some (hidx ▸ hi)
    rw [List.any_eq_true] at this
    obtain ⟨kv, h1, h2⟩ := this
    exact absurd (List.mem_map.mpr ⟨kv, h1, of_decide_eq_true h2⟩) hnew
  | none =>
    refine wpAny_updateDictKeys (hz := hes) ho hd (hQ _ ⟨_, _, ep + 1, Heap.get?_update_self _ ho (Obj.isFreed_of_dict (Obj.data_mapDictKeys hd _)), hc.mapDictKeys _, Obj.data_mapDictKeys hd _, hk.push hkey _, ?_, ?_⟩ (Heap.SameBut.update ..))
    · have := hp.append hkey (knd.hash k) v
      obtain ⟨l⟩ := es
      simpa using this
    · rw [List.map_append, List.nodup_append]
      refine ⟨hn, by simp, ?_⟩
      intro a ha b hb
      simp only [List.map_cons, List.map_nil, List.mem_singleton] at hb
      subst hb
      exact fun e => hnew (e ▸ ha)

/-- a dict is put behind another -/
theorem merge_new {d a : Addr} {kvs more : List (K × Value)} {Q : Unit → Shared → Prop} (hm : s.heap.DictOf knd d kvs) (ha : s.heap.DictOf knd a more) (hda : a ≠ d) (h0 : kvs ≠ []) (hs : (a == sysModules) = false)
    (hn : ((kvs ++ more).map (·.1)).Nodup) (hsz : kvs.length + more.length ≤ sizeLine)
    (hQ : ∀ h', h'.DictOf knd d (kvs ++ more) → Heap.SameBut d s.heap h' → Q () { s with heap := h' }) :
    wpAny (model prog w) A (mergeMapping d (.ref a) false) Q E s := by
  unfold mergeMapping
  refine wpAny_bind (wpAny_isInstance ha.typeIs isSubtype_dict_dict ?_)
  show wpAny _ _ (specialOf (.ref a) "__iter__" >>= _) _ _ s
  refine wpAny_bind (wpAny_specialOf ha.typeIs F.slot_dict_iter.lookup ?_)
  refine wpAny_bind (wpAny_pure ?_)
  have ee : ((some (Value.builtin "dict.__iter__") : Option Value) == some (.builtin "dict.__iter__")) = true := by simp
  rw [ee]
  dsimp only
  rw [if_neg (by rw [hs]; simp)]
  obtain ⟨o, es, ep, ho, hc, hd, hk, hp, hnn⟩ := id hm
  obtain ⟨o2, es2, ep2, ho2, hc2, hd2, hk2, hp2, hn2⟩ := id ha
  refine wpAny_bind (wpAny_dictEntries ho hd ?_)
  have hne : es.isEmpty = false := by
    have e1 := hp.length
    cases kvs with
    | nil => exact absurd rfl h0
    | cons x xs =>
      obtain ⟨l⟩ := es
      cases l with
      | nil => simp at e1
      | cons => rfl
  rw [if_neg (by rw [hne]; simp)]
  refine wpAny_bind (wpAny_dictEntries ho2 hd2 (wpAny_bind (wpAny_dictEpoch ho2 hd2 (wpAny_bind ?_))))
  have el : es2.size = more.length := by
    have e1 := hp2.length
    have e2 : es2.toList.length = es2.size := by simp
    omega
  refine wpAny_forIn_list _ (fun rest _ s' => ∃ (i : Nat) (h' : Heap), rest = List.range' i (es2.size - i) ∧ i ≤ es2.size ∧ s' = { s with heap := h' } ∧ h'.DictOf knd d (kvs ++ more.take i) ∧ Heap.SameBut d s.heap h') _ ?_ ?_ _ _
    ⟨0, s.heap, by rw [List.range_eq_range', Nat.sub_zero], Nat.zero_le _, rfl, by simpa using hm, Heap.SameBut.refl _ _⟩
  · rintro x rest b s' ⟨i, h', hr, hi, rfl, hdo, hsb⟩
    have hx : x = i ∧ i < es2.size ∧ rest = List.range' (i + 1) (es2.size - (i + 1)) := by
      rcases Nat.lt_or_ge i es2.size with z | z
      · have e : es2.size - i = (es2.size - (i + 1)) + 1 := by omega
        rw [e, List.range'_succ] at hr
        injection hr with h1 h2
        exact ⟨h1, z, h2⟩
      · have e : es2.size - i = 0 := by omega
        rw [e] at hr
        cases hr
    obtain ⟨rfl, hlt, rfl⟩ := hx
    have ho2' : h'.get? a = some o2 := (hsb.2 a hda).trans ho2
    have ge : es2[x]? = some es2[x] := Array.getElem?_eq_getElem hlt
    obtain ⟨k, hk1, hk3⟩ := pairs_get hp2 (i := x) (e := es2[x]) (by rw [← ge]; simp)
    obtain ⟨k', hk4, hk5⟩ := hk2 es2[x] (Array.getElem_mem hlt)
    have hkk : k' = k := knd.inj _ _ _ hk4 hk3
    subst hkk
    refine wpAny_bind (wpAny_dictEntries (s := { s with heap := h' }) ho2' hd2 ?_)
    rw [ge]
    dsimp only
    refine wpAny_bind (wpAny_holding ?_)
    rw [if_neg (by simp)]
    rw [hk5]
    have hnew : k' ∉ (kvs ++ more.take x).map (·.1) := by
      intro hmem
      have e : more = more.take x ++ (k', es2[x].val) :: more.drop (x + 1) := by
        have := List.take_append_drop x more
        rw [List.drop_eq_getElem_cons (by omega)] at this
        have h2 : more[x]'(by omega) = (k', es2[x].val) := by
          have := List.getElem?_eq_getElem (l := more) (i := x) (by omega)
          rw [hk1] at this
          simpa using this.symm
        rw [h2] at this
        exact this.symm
      rw [e, ← List.append_assoc, List.map_append, List.nodup_append] at hn
      exact hn.2.2 k' hmem k' (by simp) rfl
    refine dictPut_new (s := { s with heap := h' }) hk3 hdo hnew (by simp; omega) fun h'' hdo' hsb' => ?_
    refine wpAny_bind (wpAny_dictEpoch (s := { s with heap := h'' }) ((hsb'.2 a hda).trans ho2') hd2 ?_)
    rw [if_neg (by simp)]
    refine wpAny_pure ⟨x + 1, h'', rfl, hlt, rfl, ?_, hsb.trans hsb'⟩
    have e : more.take (x + 1) = more.take x ++ [(k', es2[x].val)] := by
      rw [List.take_add_one, hk1]; rfl
    rw [e, ← List.append_assoc]; exact hdo'
  · rintro b s' ⟨i, h', hr, hi, rfl, hdo, hsb⟩
    have hie : i = es2.size := by
      rcases Nat.lt_or_ge i es2.size with z | z
      · have e : es2.size - i = (es2.size - (i + 1)) + 1 := by omega
        rw [e, List.range'_succ] at hr
        cases hr
      · omega
    rw [hie, el, List.take_length] at hdo
    exact wpAny_pure (hQ h' hdo hsb)
end

section
variable {C : Cx} {A : Around} {s : Shared}

/-- a pair of a display: a text, and a value that costs nothing -/
noncomputable def PairOk (C : Cx) (A : Around) (kv : Sem Value × Sem Value) (x : Str × Value) : Prop :=
  (∀ (s : Shared) (P : Value → Shared → Prop) (E : Value → Shared → Prop), (∀ t, P (.str x.1 t) { s with toks := s.toks + 1 }) → wpAny (model C.prog C.w) A kv.1 P E s) ∧
  (∀ (s : Shared) (P : Value → Shared → Prop) (E : Value → Shared → Prop), St C s → P x.2 s → wpAny (model C.prog C.w) A kv.2 P E s)
inductive PairsOk (C : Cx) (A : Around) : List (Sem Value × Sem Value) → List (Str × Value) → Prop
  | nil : PairsOk C A [] []
  | cons {kv : Sem Value × Sem Value} {x : Str × Value} {ps : List (Sem Value × Sem Value)} {xs : List (Str × Value)} : PairOk C A kv x → PairsOk C A ps xs → PairsOk C A (kv :: ps) (x :: xs)
theorem PairsOk.length {ps : List (Sem Value × Sem Value)} {xs : List (Str × Value)} (h : PairsOk C A ps xs) : ps.length = xs.length := by
  induction h with
  | nil => rfl
  | cons _ _ ih => simp [ih]

theorem St.sameBut {d : Addr} {h' : Heap} {tk : Nat} (x : St C s) (hs : Heap.SameBut d s.heap h') (h0 : C.h₀.get? d = none) (hD : C.D ≠ some d) : St C { s with heap := h', toks := tk } :=
  x.keeps (s' := { s with heap := h', toks := tk }) (P := (· = d)) (fun b o nb g => (hs.2 b nb).trans g) (fun b z => by rw [(z : b = d)]; exact h0) (fun b z => by rw [(z : b = d)]; exact hD) rfl rfl

theorem long_loop {d : Addr} (h0 : C.h₀.get? d = none) (hD : C.D ≠ some d) {ps : List (Sem Value × Sem Value)} {xs : List (Str × Value)} (h : PairsOk C A ps xs) : ∀ (acc : List (Str × Value)) (s : Shared) (Q : PUnit → Shared → Prop) (E : Value → Shared → Prop), St C s → s.heap.DictOf (strKind C.prog C.w) d acc → ((acc ++ xs).map (·.1)).Nodup → acc.length + xs.length ≤ 1000 →
    (∀ h' tk, h'.DictOf (strKind C.prog C.w) d (acc ++ xs) → Heap.SameBut d s.heap h' → Q PUnit.unit { s with heap := h', toks := tk }) →
    wpAny (model C.prog C.w) A (forIn ps PUnit.unit fun (x : Sem Value × Sem Value) (_ : PUnit) => (do
      let kv ← x.1
      let vv ← holding [kv] x.2
      holding [kv, vv] (dictSet d kv vv)
      pure (ForInStep.yield PUnit.unit) : Sem (ForInStep PUnit))) Q E s := by
  induction h with
  | nil =>
    intro acc s Q E x hm hn hz hQ
    rw [List.forIn_nil]
    exact wpAny_pure (by simpa using hQ s.heap s.toks (by simpa using hm) (Heap.SameBut.refl _ _))
  | @cons kv y ps xs hp _ ih =>
    intro acc s Q E x hm hn hz hQ
    rw [List.forIn_cons]
    have hfresh : ¬ (acc.any fun z => decide (z.1 = y.1)) = true := by
      rw [List.any_eq_true]; rintro ⟨z, hz, he⟩
      rw [List.map_append, List.map_cons, List.nodup_append] at hn
      exact hn.2.2 z.1 (List.mem_map.mpr ⟨z, hz, rfl⟩) y.1 List.mem_cons_self (of_decide_eq_true he)
    simp only [List.length_cons] at hz
    refine wpAny_bind (wpAny_bind (hp.1 _ _ _ fun t => wpAny_bind (wpAny_holding (hp.2 _ _ _ (x.all (s' := { s with toks := s.toks + 1 }) (fun _ _ g => g) rfl rfl) (wpAny_bind (wpAny_holding
      (wpAny_dictSet_pairs (knd := strKind C.prog C.w) (s := { s with toks := s.toks + 1 }) (k := y.1) (strKind_is C.prog C.w y.1 _) hm (fun h₁ hm₁ hs₁ => wpAny_pure ?_) (by rw [sizeLine_eq]; omega))))))))
    rw [stored, if_neg hfresh] at hm₁
    have x₁ : St C { s with heap := h₁, toks := s.toks + 1 + 1 } := x.sameBut hs₁ h0 hD
    refine ih (acc ++ [(y.1, y.2)]) { s with heap := h₁, toks := s.toks + 1 + 1 } Q E x₁ hm₁ (by simpa using hn) (by simp; omega) fun h' tk hm' hs' => ?_
    exact hQ h' tk (by simpa using hm') (hs₁.trans hs')

theorem evalPairs_ok {ps : List (Sem Value × Sem Value)} {xs : List (Str × Value)} (h : PairsOk C A ps xs) : ∀ (s : Shared) (Q : List (Value × Value) → Shared → Prop) (E : Value → Shared → Prop), St C s →
    (∀ vs tk, Carries (strKind C.prog C.w) vs xs → Q vs { s with toks := tk }) → wpAny (model C.prog C.w) A (evalPairs ps) Q E s := by
  induction h with
  | nil => intro s Q E x hQ; exact evalPairs_nil (hQ [] s.toks trivial)
  | @cons kv y ps xs hp _ ih =>
    intro s Q E x hQ
    obtain ⟨k, v⟩ := kv
    have x1 : St C { s with toks := s.toks + 1 } := x.all (fun _ _ g => g) rfl rfl
    refine evalPairs_cons (hp.1 _ _ _ fun t => hp.2 _ _ _ x1 (ih _ _ _ x1 fun vs tk hc => ?_))
    exact hQ _ tk ⟨strKind_is C.prog C.w y.1 _, rfl, hc⟩

theorem subDict_short {ps : List (Sem Value × Sem Value)} {xs : List (Str × Value)} {Q : Addr → Shared → Prop} {E : Value → Shared → Prop} (h : PairsOk C A ps xs) (x : St C s) (hn : (xs.map (·.1)).Nodup) (hl : ps.length ≤ 15)
    (hQ : ∀ h' tk, h'.DictOf (strKind C.prog C.w) s.heap.objs.size xs → (∀ b o, s.heap.get? b = some o → h'.get? b = some o) → Q s.heap.objs.size { s with heap := h', toks := tk }) :
    wpAny (model C.prog C.w) A (subDict ps) Q E s := by
  have kp := keep_push s.heap { cls := .type "dict", data := .dict #[] }
  refine wpAny_subDict (knd := strKind C.prog C.w) hl (evalPairs_ok h _ _ _ (x.all (s' := { s with heap := s.heap.push { cls := .type "dict", data := .dict #[] } }) kp rfl rfl) fun vs tk hc => ⟨xs, hc, Heap.DictOf.new _, fun h' hm hs => ?_⟩)
  rw [merged_nil_of_nodup xs hn] at hm
  exact hQ h' _ hm fun b o g => (hs.2 b (Nat.ne_of_lt (Heap.lt_size g))).trans (kp b o g)

theorem subDict_long {ps : List (Sem Value × Sem Value)} {xs : List (Str × Value)} {Q : Addr → Shared → Prop} {E : Value → Shared → Prop} (h : PairsOk C A ps xs) (x : St C s) (hn : (xs.map (·.1)).Nodup) (hl : 15 < ps.length) (hz : xs.length ≤ 900)
    (hQ : ∀ h' tk, h'.DictOf (strKind C.prog C.w) s.heap.objs.size xs → (∀ b o, s.heap.get? b = some o → h'.get? b = some o) → Q s.heap.objs.size { s with heap := h', toks := tk }) :
    wpAny (model C.prog C.w) A (subDict ps) Q E s := by
  have kp := keep_push s.heap { cls := .type "dict", data := .dict #[] }
  unfold subDict
  refine wpAny_bind (wpAny_alloc ?_)
  refine wpAny_bind (wpAny_holding ?_)
  rw [if_neg (by omega)]
  refine wpAny_bind (wpAny_rule ?_)
  refine wpAny_bind ?_
  refine long_loop (d := s.heap.objs.size) (new_h0 x (Nat.le_refl _)) (new_deck x (Nat.le_refl _)) h [] _ _ _ (x.all (s' := { s with heap := s.heap.push { cls := .type "dict", data := .dict #[] } }) kp rfl rfl) (Heap.DictOf.new _) (by simpa using hn) (by simp; omega) fun h' tk hm hs => ?_
  refine wpAny_pure (wpAny_pure (hQ h' tk (by simpa using hm) fun b o g => (hs.2 b (Nat.ne_of_lt (Heap.lt_size g))).trans (kp b o g)))
end

theorem display22' (ps : List (Sem Value × Sem Value)) (h : ps.length = 22) : dictDisplay (ps.map fun p => (some p.1, p.2)) = (do
    let d ← subDict (ps.take 17)
    let sub ← holding [.ref d] (subDict (ps.drop 17))
    (holding [.ref d, .ref sub] (mergeMapping d (.ref sub) false)).onRaise fun x => do let _ ← holding [.ref d, x] (runValue (.builtin "proto.let_go" {}))
    pure (.ref d)) := by
  have e : ps = (List.range ps.length).map (fun i => ps.getD i (pure .none, pure .none)) := list_is _ ps
  rw [h] at e
  rw [e]
  exact display22 _ _ _ _ _ _ _ _ _ _ _ _ _ _ _ _ _ _ _ _ _ _ _ _ _ _ _ _ _ _ _ _ _ _ _ _ _ _ _ _ _ _ _ _

noncomputable def DK : List (List Nat) := LK.take 22
noncomputable def DF : List Nat := [18, 19, 20, 20, 21, 22, 22, 23, 24, 25, 25, 26, 27, 28, 29, 30, 32, 33, 34, 34, 34, 35]

section
variable {C : Cx} {A : Around} {s : Shared} {renv : Env}

/-- the pairs of the display -/
theorem pairs_of (O : C.Ok) (hf : renv.scope.kind = .function) (hg : renv.globals = mainGlobals) {kinds : Kinds} (hk : renv.scope.names = kinds) {names : List Str} {pos : Pos} : ∀ (ks : List (List Nat)) (fs : List Nat) (xs : List (Option PySem.Expr)) (es : List PySem.Expr), keyOk ks xs = true → chkL C.fns kinds names (fs.map .fn) es = true → ks.length = fs.length →
    ∃ rv, PairsOk C A (mkPairs renv pos xs es) ((ks.map mkS).zip rv) ∧ rv.length = ks.length ∧ ∀ av h, RepL C av h (fs.map .fn) rv
  | [], [], xs, es, h1, h2, h3 => by
    rw [keyOk_nil h1]
    exact ⟨[], .nil, rfl, fun av h => RepL.nil⟩
  | [], _ :: _, xs, es, h1, h2, h3 => by simp at h3
  | _ :: _, [], xs, es, h1, h2, h3 => by simp at h3
  | k :: ks, f :: fs, xs, es, h1, h2, h3 => by
    obtain ⟨c, p, r, rfl, h1'⟩ := keyOk_cons h1
    obtain ⟨y, ys, rfl⟩ : ∃ y ys, es = y :: ys := ⟨_, _, (i_cons (e := .fn f) (es := fs.map .fn) h2).1⟩
    have hy : chkE C.fns kinds names (.fn f) y = true := (i_cons (e := .fn f) (es := fs.map .fn) h2).2.1
    have h2' : chkL C.fns kinds names (fs.map .fn) ys = true := (i_cons (e := .fn f) (es := fs.map .fn) h2).2.2
    obtain ⟨ey, hf1, hf2⟩ := i_fn hy
    rw [ey]
    obtain ⟨rv, q1, q2, q3⟩ := pairs_of O hf hg hk ks fs r ys h1' h2' (by simpa using h3)
    obtain ⟨a, o, fd, hm, _⟩ := O.fn f _ hf1
    refine ⟨.ref a :: rv, .cons ⟨fun s P E hP => (by show wpAny _ _ (eval (.Constant (.str (mkS k)) c p) renv) _ _ _; exact wpAny_Constant_str (hP _)), fun s P E x hP => ?_⟩ q1, by simp [q2], fun av h => RepL.cons ?_ (q3 av h)⟩
    · refine wpAny_bind (Name_function_global hf (by rw [Env.kindOf, hk]; exact (isGlob_is hf2).1) (loadGlobal_global (mg := C.mg) (by rw [hg]; exact O.g.keeps x.keep) hm (wpAny_bind (wpAny_standAt (wpAny_pure hP)))) (isGlob_is hf2).2)
    · simp only [Rep]
      exact ⟨_, hf1, hm⟩

theorem PairsOk.take {ps : List (Sem Value × Sem Value)} {xs : List (Str × Value)} (h : PairsOk C A ps xs) : ∀ n, PairsOk C A (ps.take n) (xs.take n) := by
  induction h with
  | nil => intro n; simp; exact .nil
  | cons h1 _ ih => intro n; cases n with
    | zero => exact .nil
    | succ n => exact .cons h1 (ih n)
theorem PairsOk.drop {ps : List (Sem Value × Sem Value)} {xs : List (Str × Value)} (h : PairsOk C A ps xs) : ∀ n, PairsOk C A (ps.drop n) (xs.drop n) := by
  induction h with
  | nil => intro n; simp; exact .nil
  | cons h1 h2 ih => intro n; cases n with
    | zero => exact .cons h1 h2
    | succ n => exact ih n

theorem DK_nodup : (DK.map mkS).Nodup := by
  have h : DK.Nodup := by decide
  exact List.Pairwise.map mkS (fun a b hab z => hab (mkS_inj z)) h

theorem zip_keys {ks : List (List Nat)} {rv : List Value} (h : rv.length = ks.length) : ((ks.map mkS).zip rv).map (·.1) = ks.map mkS := by
  rw [List.map_fst_zip]; simp [h]

/-- the display of the listers -/
theorem dl_eval (O : C.Ok) (hf : renv.scope.kind = .function) (hg : renv.globals = mainGlobals) {kinds : Kinds} (hk : renv.scope.names = kinds) {names : List Str} {pos : Pos} {xs : List (Option PySem.Expr)} {es : List PySem.Expr} {P : Value → Shared → Prop} {E : Value → Shared → Prop}
    (h1 : keyOk DK xs = true) (h2 : chkL C.fns kinds names (DF.map .fn) es = true) (x : St C s)
    (hP : ∀ h' tk rv, rv.length = DK.length → (∀ av h, RepL C av h (DF.map .fn) rv) → h'.DictOf (strKind C.prog C.w) s.heap.objs.size ((DK.map mkS).zip rv) → (∀ b o, s.heap.get? b = some o → h'.get? b = some o) → P (.ref s.heap.objs.size) { s with heap := h', toks := tk }) :
    wpAny (model C.prog C.w) A (eval (.Dict xs es pos) renv) P E s := by
  have hel : es.length = DK.length := by rw [l_length h2]; rfl
  obtain ⟨rv, q1, q2, q3⟩ := pairs_of (A := A) (pos := pos) O hf hg hk DK DF xs es h1 h2 rfl
  rw [arm_eval_Dict, pairs_shape DK xs es h1 hel, display22' _ (by rw [pairs_length DK xs es h1 hel]; rfl)]
  have hk22 : ((DK.map mkS).zip rv).map (·.1) = DK.map mkS := zip_keys q2
  have hz : ((DK.map mkS).zip rv).length = 22 := by rw [List.length_zip, List.length_map, q2]; rfl
  have ht : ((((DK.map mkS).zip rv).take 17).map (·.1)).Nodup := by rw [List.map_take, hk22]; exact DK_nodup.sublist (List.take_sublist _ _)
  have hdn : ((((DK.map mkS).zip rv).drop 17).map (·.1)).Nodup := by rw [List.map_drop, hk22]; exact DK_nodup.sublist (List.drop_sublist _ _)
  have hlen := q1.length
  refine wpAny_bind (wpAny_standAt (wpAny_bind (subDict_long (q1.take 17) x ht (by rw [List.length_take, hlen, hz]; decide) (by rw [List.length_take, hz]; decide) fun h₁ tk₁ m₁ k₁ => ?_)))
  have x₁ : St C { s with heap := h₁, toks := tk₁ } := x.all k₁ rfl rfl
  refine wpAny_bind (wpAny_holding (subDict_short (s := { s with heap := h₁, toks := tk₁ }) (q1.drop 17) x₁ hdn (by rw [List.length_drop, hlen, hz]; decide) fun h₂ tk₂ m₂ k₂ => ?_))
  have m₁' : h₂.DictOf (strKind C.prog C.w) s.heap.objs.size (((DK.map mkS).zip rv).take 17) := dictOf_move m₁ fun o g => k₂ _ o g
  have hlt : s.heap.objs.size < h₁.objs.size := by obtain ⟨o, _, _, ho, _⟩ := m₁; exact Heap.lt_size ho
  have ne : h₁.objs.size ≠ s.heap.objs.size := Nat.ne_of_gt hlt
  have hsys : (h₁.objs.size == sysModules) = false := by
    have := size_big O x₁
    have this : 3 < h₁.objs.size := this
    show (h₁.objs.size == 1) = false
    simp; omega
  refine wpAny_bind (wpAny_onRaise (wpAny_holding (merge_new (s := { s with heap := h₂, toks := tk₂ }) m₁' m₂ ne (fun z => ?_) hsys ?_ ?_ fun h₃ m₃ s₃ => wpAny_pure ?_)))
  · have := congrArg List.length z
    rw [List.length_take, hz] at this
    simp at this
  · rw [List.take_append_drop, hk22]; exact DK_nodup
  · rw [List.length_take, List.length_drop, hz, sizeLine_eq]; decide
  · rw [List.take_append_drop] at m₃
    exact hP h₃ tk₂ rv q2 q3 m₃ fun b o g => (s₃.2 b (Nat.ne_of_lt (Heap.lt_size g))).trans (k₂ b o (k₁ b o g))
end

noncomputable def isDL (fns : List Str) (kinds : Kinds) (body : List PySem.Stmt) : Bool := (one body && (sq 0 (s0 body) && ((rvS (s0 body)).isSome && tq 8 (xo (rvS (s0 body)))))) && (keyOk DK (dkE (xo (rvS (s0 body)))) && chkL fns kinds [] (DF.map .fn) (ks (xo (rvS (s0 body)))))
theorem isDL_is {fns : List Str} {kinds : Kinds} {body : List PySem.Stmt} (h : isDL fns kinds body = true) : body = [.Return (some (.Dict (dkE (xo (rvS (s0 body)))) (ks (xo (rvS (s0 body)))) (xo (rvS (s0 body))).pos)) (s0 body).pos] ∧ keyOk DK (dkE (xo (rvS (s0 body)))) = true ∧ chkL fns kinds [] (DF.map .fn) (ks (xo (rvS (s0 body)))) = true :=
  have a := (an (an h).1).2
  ⟨(one_is default (an (an h).1).1).trans (c_one' ((e_ret (an a).1 (an (an a).2).1).trans (c_ret (c_some (eta_at (an (an a).2).2 rfl))))), an (an h).2⟩

section
variable {C : Cx}

/-- what the call of declaration_listers leaves -/
noncomputable def DLPost (C : Cx) (s : Shared) (r : Result) (s' : Shared) : Prop := ∃ a rv, r = .ok (.ret (.ref a)) ∧ s.heap.get? a = none ∧ C.D ≠ some a ∧ (a == sysModules) = false ∧ s'.heap.DictOf (strKind C.prog C.w) a ((DK.map mkS).zip rv) ∧ rv.length = DK.length ∧ (∀ av h, RepL C av h (DF.map .fn) rv) ∧ St C s' ∧ Step C s s'

theorem dl_call (O : C.Ok) (hlim : C.h₀.NoLimit) {f n : Nat} {fr : Fun} {sc : Scope} {body : List PySem.Stmt} (d : DefIs C f fr sc body) (hp : fr.params = []) (hb : isDL C.fns sc.names body = true) :
    ∃ fv, C.mg fr.name = some fv ∧ ∀ (A : Around) (s : Shared), Room (n + 1) A → St C s → codeAny (model C.prog C.w) A (.call fv ⟨[], []⟩) (DLPost C s) s := by
  obtain ⟨a, o, pm, code, doc, params, hm, ho, hd, hcd, hh⟩ := d.is
  obtain ⟨k1, k2, k3, k4, k5, k6, k7, k8, k9, k10, k11⟩ := head_is hh
  refine ⟨.ref a, hm, fun A s rm x => ?_⟩
  refine call_cells_ret (rm.d (by omega)) (x.keep _ _ ho) hd (hlim.keeps x.keep) (hcd.keeps x.keep) (bindArgs_plain (ns := []) (vs := []) (fd := docDef fr.name params body sc pm code doc) k2 (by rw [← hp]; exact k1) k4 k3 k5 rfl rfl List.nodup_nil) (fun b hb => by simp at hb) (fun h₁ tk F X => ?_) k8 k7 k6
  obtain ⟨e, h1, h2⟩ := isDL_is hb
  have x₁ : St C { s with heap := h₁, toks := tk } := x.all F.keep rfl rfl
  show wpAny _ _ (execs body _) _ _ _
  rw [e]
  refine wpAny_execs_cons (wpAny_Return_some (dl_eval (s := { s with heap := h₁, toks := tk }) O k6 rfl rfl h1 h2 x₁ fun h' tk' rv q1 q2 q3 q4 => ?_))
  have kk : ∀ b o, s.heap.get? b = some o → h'.get? b = some o := fun b o g => q4 b o (F.keep b o g)
  have hle : s.heap.objs.size ≤ h₁.objs.size := by
    have hL := F.ns.lt
    exact Nat.le_of_lt hL
  have := size_big O x
  refine ⟨h₁.objs.size, rv, rfl, new_none hle, new_deck x hle, ?_, q3, q1, q2, x.all kk rfl rfl, Step.all kk⟩
  show (h₁.objs.size == 1) = false
  simp; omega
end

noncomputable def UK : List (List Nat) := [[116, 97, 115, 107], [112, 114, 111, 116, 101, 99, 116, 101, 100], [112, 114, 111, 116, 98, 111, 100, 121], [101, 110, 116, 114, 121], [99, 111, 109, 112, 111, 110, 101, 110, 116], [101, 110, 116, 114, 121, 98, 111, 100, 121], [117, 110, 105, 116]]
noncomputable def UV : List V := [.fn 37, .fn 38, .fn 39, .fn 40, .fn 41, .fn 42, .fn 43]

theorem cmp_tv {Q : V → Prop} (ts : List (List Nat)) (q : Q (.bool true)) : cmpop .eq (tv ts) (tv ts) Q := by
  have e : veq (tv ts) (tv ts) = some true := by
    cases ts with
    | nil => rfl
    | cons t r =>
      show veqStrs ((t :: r).map .str) ((t :: r).map .str) = _
      rw [veqStrs, strsOf_map]; simp
  show onSome (veq (tv ts) (tv ts)) _
  rw [e]
  exact q

/-- the last two statements of the law -/
noncomputable def lawEnd : List S := [
  .asg 6 (.call 2 [.var 3, .lst [.tup [.str [117, 110, 105, 116], .int 0, .var 1, .var 2]]]),
  .ret (.cmp .eq (.call 74 [.join [10] (.var 6)]) (.bin .add (.call 69 [.var 1]) (.call 73 [.var 2])))]

section
variable {C : Cx} (L : Lib C)
include L

theorem c_units : Cal C 1 44 [] (fun v => v = .dict UK UV) := by
  ((refine Lib.enter (by assumption) rfl (fun h => nomatch h) rfl (by decide) ?_); k_extra "go")
  all_goals rfl
theorem c_cut {n : Nat} {x : List Nat} {ts : List (List Nat)} (h : Cut x ts) (hx : x.length ≤ 16000000) (ht : ts.length ≤ lim) : Ret C (n + 1) 74 [.str x] (tv ts) := by
  (refine Lib.enter (by assumption) rfl (fun h => nomatch h) rfl (by decide) ?_)
  exact cut_body h hx ht rfl

theorem c_end {ctx tree : V} {x4 x5 : Option V} {N : List (Option V) → Option (List V) → Prop} {Q : V → Prop} (hc : DsOK C 16 4 1600 ctx) (ht : DeclOK C 40 670 22000 tree) (q : Q (.bool true)) :
    wpSs (Cal C 60) 99 lawEnd [some .deck, some ctx, some tree, some LD, x4, x5, none] none N Q := by
  obtain ⟨dc, rc, tc, rfl, c2, c3, c4, c5, c6, c7⟩ := dsg L hc (by omega) (by omega)
  obtain ⟨rt, tt, k', l1, l2⟩ := ht.is
  have kk := DsIs.cons k' (DsIs.nil (C := C) (n := 40) (w := 73))
  rw [List.append_nil, List.append_nil] at kk
  have p1 := lr L kk (by omega) (by simp)
  obtain ⟨u1, u2⟩ := kk.tk
  obtain ⟨word, rest, f, rfl, hf', m1, m2, m3, m4⟩ := k'
  have h43 : Ret C 43 43 [LD, .tup [.str [117, 110, 105, 116], .int 0, .lst dc, .tup (.str word :: rest)]] (tv (rc ++ rt)) := by
    (((refine Lib.enter (by assumption) rfl (fun h => nomatch h) rfl (by decide) ?_); k_extra "go"); (all_goals (k_extra "go"; repeat (refine Cal.ret (by assumption) (by k_extra "le") ?_; k_extra "go"))); (all_goals first | rfl | (show _ = _; (first | rfl | ((first | refine lst_eq ?_ | refine str_eq ?_ | skip); (with_reducible apply fl_eq); (· k_extra "fl"); (· k_extra "fl"); rfl))) | (simp [joined]; done)))
  have h2 : Ret C 45 2 [LD, .lst [.tup [.str [117, 110, 105, 116], .int 0, .lst dc, .tup (.str word :: rest)]]] (tv (rc ++ rt)) := by
    (((refine Lib.enter (by assumption) rfl (fun h => nomatch h) rfl (by decide) ?_); k_extra "go"); (all_goals (k_extra "go"; repeat (refine Cal.ret (by assumption) (by k_extra "le") ?_; k_extra "go"))); (all_goals first | rfl | (show _ = _; (first | rfl | ((first | refine lst_eq ?_ | refine str_eq ?_ | skip); (with_reducible apply fl_eq); (· k_extra "fl"); (· k_extra "fl"); rfl))) | (simp [joined]; done)))
  have rk := c4.app u1
  have hl : ∀ x ∈ rc ++ rt, x.length ≤ 3000 := all_app c5 u2
  have hj : (joined [10] (rc ++ rt)).length ≤ (rc ++ rt).length * 3001 := joined_len hl
  have hj2 : (joined [10] (rc ++ rt)).length ≤ 16000000 := by
    simp only [List.length_append] at hj ⊢
    have : (rc.length + rt.length) * 3001 ≤ 700 * 3001 := Nat.mul_le_mul_right _ (by omega)
    omega
  have hcut := c_cut L (n := 1) rk.td.whole hj2 (by simp [lim]; omega)
  k_extra "go"
  refine h2.ret (by omega) ?_
  k_extra "go"
  (conv => whnf)
  simp only [strsOf_map]
  refine And.intro (by simpa using hj2) ?_
  refine hcut.ret (by omega) ?_
  (conv => whnf)
  refine c3.ret (by omega) ?_
  (conv => whnf)
  refine m2.ret (by omega) ?_
  refine And.intro (by simp [lim]; omega) ?_
  have e : V.lst (List.map V.str tc ++ List.map V.str tt) = tv (tc ++ tt) := by simp
  show cmpop .eq (tv (tc ++ tt)) (V.lst (List.map V.str tc ++ List.map V.str tt)) _
  rw [e]
  exact cmp_tv _ q
end

section
variable {C : Cx} {B W : Addr → Prop} {A : Around} {s : Shared} {n : Nat} {names : List Str} {renv : Env} {ρ : List (Option V)} {x : Nat} {m : Str → Option Value}

/-- a name that stands for nothing gets a value -/
theorem SI.other {j : Nat} {nm : Str} {v : Value} {P : Unit → Shared → Prop} {E : Value → Shared → Prop} (i : SI C B names renv x W s ρ none) (hn : names.Nodup) (hj : names[j]? = some nm) (hk : renv.kindOf nm = some .local) (hl : lk ρ j = none) (hm : s.heap.Ns renv.locals m)
    (k : ∀ s', SI C B names renv x W s' ρ none → (s'.heap.Ns renv.locals fun y => if y = nm then some v else m y) → Chg C W s s' → P () s') :
    wpAny (model C.prog C.w) A (storeName renv nm v) P E s := by
  refine wpAny_storeName_local hk hm (fun h' hm' hs => ?_) (fn_store i.env.kind)
  let s' : Shared := { s with heap := h', toks := s.toks + 1 }
  have k' : Keeps (· = renv.locals) s s' := fun a o na g => (hs.2 a na).trans g
  have tL : h'.get? renv.locals ≠ none := by obtain ⟨o, _, _, ho, _⟩ := hm'; rw [ho]; simp
  have th : ∀ a, s.heap.get? a ≠ none → h'.get? a ≠ none := fun a g => if z : a = renv.locals then z ▸ tL else k'.there z g
  have eqL : ∀ a, a = renv.locals → W a := fun a z => by rw [z]; exact i.wl
  have x' : St C s' := i.st.keeps k' (fun a z => i.w0 _ (eqL a z)) (fun a z => i.wd _ (eqL a z)) rfl rfl
  refine k s' { st := x', deck := i.deck, base := fun a z => th a (i.base a z), wl := i.wl, wb := i.wb, w0 := i.w0, wd := i.wd, wt := fun a z => th a (i.wt a z), cells := i.cells, env := ?_, acc := i.acc, ns := ⟨_, hm', trivial⟩ } hm' fun a o d na g => k' a o (fun z => na (eqL a z)) g
  refine ⟨i.env.kind, i.env.glob, i.env.blt, fun j' d q => ?_, tL, fun nm c g => th c (i.env.there.2 nm c g)⟩
  obtain ⟨nm', v', a1, a2, a3⟩ := i.env.vars j' d q
  have hne : nm' ≠ nm := fun z => by
    have : j' = j := nodup_idx hn a1 (z ▸ hj)
    rw [this, hl] at q; cases q
  refine ⟨nm', v', a1, ?_, Rep.move (fun b o nb g => ⟨nb, k' b o (fun z => nb (.inr (eqL b z))) g⟩) _ a3⟩
  rcases a2 with ⟨kk, m1, hn1, hm2⟩ | ⟨kk, c, hc, o, ho, hd⟩
  · have := ns_unique hn1 hm
    subst this
    exact .inl ⟨kk, _, hm', by rw [if_neg hne]; exact hm2⟩
  · exact .inr ⟨kk, c, hc, o, k' _ _ (fun z => i.cells nm' c hc (eqL c z)) ho, hd⟩

/-- a name gets a value, with the frame's map -/
theorem SI.storeM {y : Nat} {nm : Str} {d : V} {v : Value} {P : Unit → Shared → Prop} {E : Value → Shared → Prop} (i : SI C B names renv x W s ρ none) (hn : names.Nodup) (hy : names[y]? = some nm) (hk : renv.kindOf nm = some .local) (hyx : y ≠ x)
    (r : Rep C (fun a => B a ∨ W a) s.heap d v) (hm : s.heap.Ns renv.locals m)
    (k : ∀ s', SI C B names renv x W s' (st' ρ y (some d)) none → (s'.heap.Ns renv.locals fun z => if z = nm then some v else m z) → Chg C W s s' → P () s') :
    wpAny (model C.prog C.w) A (storeName renv nm v) P E s := by
  refine st_name i.st i.env (.inr i.wl) (i.w0 _ i.wl) hn hy hk hm r fun s' x' e' k' hm' t' => k s' (i.bound hm x' e' k' hm' (fun nm' h => by
    have hne : nm' ≠ nm := fun z => hyx (nodup_idx hn hy (z ▸ h))
    exact if_neg hne) ?_) hm' (Chg.keeps k' fun a z => by have z : a = renv.locals := z; rw [z]; exact i.wl)
  rw [lk_st, if_neg fun z => hyx z.1.symm]
  exact i.acc

/-- the dict under construction gets a pair -/
theorem SI.put {a : Addr} {kvs : List (Str × Value)} {k : Str} {key v : Value} {P : Unit → Shared → Prop} {E : Value → Shared → Prop} (i : SI C B names renv x W s ρ none) (hB : B a) (h0 : C.h₀.get? a = none) (hD : C.D ≠ some a) (hc : ∀ nm c, renv.cells.lookup nm = some c → c ≠ a) (hm : s.heap.Ns renv.locals m)
    (hkey : (strKind C.prog C.w).is k key = true) (hd : s.heap.DictOf (strKind C.prog C.w) a kvs) (hnew : k ∉ kvs.map (·.1)) (hz : kvs.length ≤ 1000)
    (q : ∀ s', SI C B names renv x W s' ρ none → s'.heap.Ns renv.locals m → s'.heap.DictOf (strKind C.prog C.w) a (kvs ++ [(k, v)]) → Keeps (· = a) s s' → P () s') :
    wpAny (model C.prog C.w) A (setItem (.ref a) key v) P E s := by
  refine wpAny_setItem_pairs hkey hd (fun h' hd' hs => ?_) (by rw [sizeLine_eq]; omega)
  have hfresh : ¬ (kvs.any fun z => decide (z.1 = k)) = true := by
    rw [List.any_eq_true]; rintro ⟨z, hz, he⟩
    exact hnew (List.mem_map.mpr ⟨z, hz, of_decide_eq_true he⟩)
  rw [stored, if_neg hfresh] at hd'
  let s' : Shared := { s with heap := h', toks := s.toks + 1 }
  have kk : Keeps (· = a) s s' := fun b o nb g => (hs.2 b nb).trans g
  have ta : h'.get? a ≠ none := by obtain ⟨o, _, _, ho, _⟩ := hd'; rw [ho]; simp
  have nL : renv.locals ≠ a := fun z => i.wb _ i.wl (z ▸ hB)
  refine q s' (i.touch kk rfl rfl (fun b z => by rw [(z : b = a)]; exact hB) (fun b z => by rw [(z : b = a)]; exact h0) (fun b z => by rw [(z : b = a)]; exact hD) (fun b z => by rw [(z : b = a)]; exact ta) fun nm c g z => hc nm c g z) ?_ hd' kk
  exact Ns.keep hm fun o g => kk _ _ (fun z => nL z) g
end

/-- the listers, half filled -/
noncomputable def Half (C : Cx) (h : Heap) (a : Addr) (ks : List (List Nat)) (fs : List Nat) : Prop := ∃ rv, rv.length = ks.length ∧ (∀ av h', RepL C av h' (fs.map .fn) rv) ∧ h.DictOf (strKind C.prog C.w) a ((ks.map mkS).zip rv)
theorem Half.keep {C : Cx} {h h' : Heap} {a : Addr} {ks : List (List Nat)} {fs : List Nat} (x : Half C h a ks fs) (k : ∀ o, h.get? a = some o → h'.get? a = some o) : Half C h' a ks fs :=
  let ⟨rv, l, r, d⟩ := x; ⟨rv, l, r, dictOf_move d k⟩

/-- the law's frame while the listers are filled -/
structure LS (C : Cx) (B W : Addr → Prop) (names : List Str) (renv : Env) (ls : Str) (a : Addr) (s : Shared) (ρ : List (Option V)) (ks : List (List Nat)) (fs : List Nat) : Prop where
  i : SI C B names renv 99 W s ρ none
  m : ∃ m, s.heap.Ns renv.locals m ∧ m ls = some (.ref a)
  d : Half C s.heap a ks fs

section
variable {C : Cx} {B W : Addr → Prop} {A : Around} {s : Shared} {n : Nat} {names : List Str} {renv : Env} {ρ : List (Option V)} {ls : Str} {a : Addr} {ks : List (List Nat)} {fs : List Nat}

theorem LS.step {s' : Shared} (x : LS C B W names renv ls a s ρ ks fs) (hD : C.D ≠ some a) (y : Step C s s') (x' : St C s') : LS C B W names renv ls a s' ρ ks fs :=
  ⟨x.i.step y x', let ⟨m, h1, h2⟩ := x.m; ⟨m, Ns.keep h1 fun o g => y.keep _ _ (x.i.wd _ x.i.wl) g, h2⟩, x.d.keep fun o g => y.keep _ _ hD g⟩

/-- listers[k] = f -/
theorem put_stmt {ie ve : PySem.Expr} {p1 p2 pos : Pos} {k : List Nat} {f : Nat} {Q : Flow → Shared → Prop} (x : LS C B W names renv ls a s ρ ks fs) (rm : Room n A) (hB : B a) (h0 : C.h₀.get? a = none) (hD : C.D ≠ some a) (hc : ∀ nm c, renv.cells.lookup nm = some c → c ≠ a)
    (hl : renv.kindOf ls = some .local) (hdb : (ls == ("__debug__" : Str)) = false) (hv : Ev C n names renv ρ ve fun d => d = .fn f) (hi : Ev C n names renv ρ ie fun d => d = .str k) (hsw : isComp ve = false) (hk : k ∉ ks) (hz : ks.length ≤ 900)
    (q : ∀ s', LS C B W names renv ls a s' ρ (ks ++ [k]) (fs ++ [f]) → Chg C (· = a) s s' → Q .next s') :
    wpAny (model C.prog C.w) A (exec (.Assign [.Subscript (.Name ls p1) ie p2] ve pos) renv) Q NoE s := by
  refine wpAny_Assign_Subscript (si_then hv rm x.i fun v s₁ d q₁ r₁ i₁ y₁ => ?_) (noComp_swaps hsw)
  subst q₁
  have x₁ := x.step hD y₁ i₁.st
  obtain ⟨m, hm, ml⟩ := x₁.m
  refine wpAny_Name (wpAny_loadName_local i₁.env.kind hl hm ml ?_) hdb
  refine si_then hi rm i₁ fun w s₂ d q₂ r₂ i₂ y₂ => ?_
  subst q₂
  have x₂ := x₁.step hD y₂ i₂.st
  obtain ⟨t, rfl⟩ := r₂
  obtain ⟨m₂, hm₂, ml₂⟩ := x₂.m
  obtain ⟨rv, l, r, d⟩ := x₂.d
  have hkeys : ((ks.map mkS).zip rv).map (·.1) = ks.map mkS := zip_keys l
  refine SI.put i₂ hB h0 hD hc hm₂ (strKind_is C.prog C.w (mkS k) t) d ?_ (by rw [List.length_zip, List.length_map, l]; omega) fun s₃ i₃ hm₃ d₃ k₃ => q s₃ ⟨i₃, ⟨m₂, hm₃, ml₂⟩, rv ++ [v], by simp [l], fun av h => ?_, ?_⟩ (Chg.trans (Chg.step y₁) (Chg.trans (Chg.step y₂) (Chg.keeps k₃ fun _ z => z)))
  · rw [hkeys]
    intro z
    obtain ⟨k', h1, h2⟩ := List.mem_map.mp z
    exact hk (mkS_inj h2 ▸ h1)
  · have r₁' : Rep C av h (.fn f) v := by simp only [Rep] at r₁ ⊢; exact r₁
    rw [List.map_append]
    exact (r av h).append (RepL.one r₁')
  · have e : ((ks ++ [k]).map mkS).zip (rv ++ [v]) = (ks.map mkS).zip rv ++ [(mkS k, v)] := by
      rw [List.map_append, List.zip_append (by simp [l])]; rfl
    rw [e]; exact d₃
end

theorem strOf_is {k : Str} {v : Value} {prog : Program} {w : World} (h : (PySem.strKind prog w).is k v = true) : ∃ t, v = .str k t := by
  cases v <;> (first | (exfalso; revert h; simp [PySem.strKind, Value.isStrOf]; done) | skip)
  rename_i x t
  have : x = k := by
    have h' : Value.isStrOf k (.str x t) = true := h
    simp [Value.isStrOf, Value.isStr] at h'
    exact h'
  exact ⟨t, by rw [this]⟩

noncomputable def UF : List Nat := [37, 38, 39, 40, 41, 42, 43]

theorem uk_at : ∀ j, j < 7 → ∃ kk f, UK[j]? = some kk ∧ UF[j]? = some f ∧ dlook UK UV kk = some (.fn f) ∧ kk ∉ UK.take j
  | 0, _ => ⟨_, _, rfl, rfl, rfl, by decide⟩
  | 1, _ => ⟨_, _, rfl, rfl, rfl, by decide⟩
  | 2, _ => ⟨_, _, rfl, rfl, rfl, by decide⟩
  | 3, _ => ⟨_, _, rfl, rfl, rfl, by decide⟩
  | 4, _ => ⟨_, _, rfl, rfl, rfl, by decide⟩
  | 5, _ => ⟨_, _, rfl, rfl, rfl, by decide⟩
  | 6, _ => ⟨_, _, rfl, rfl, rfl, by decide⟩
  | n + 7, h => absurd h (Nat.not_lt.mpr (Nat.le_add_left 7 n))

section
variable {C : Cx} {B W : Addr → Prop} {A : Around} {s : Shared} {n : Nat} {names : List Str} {renv : Env} {ls : Str} {a : Addr} {ks : List (List Nat)} {fs : List Nat}

theorem LS.drop {I : Addr} {ρ : List (Option V)} (x : LS C (fun b => B b ∨ b = I) W names renv ls a s ρ ks fs) (nb : ¬ B I) (hB : ∀ a, C.D = some a → B a) (h0 : C.h₀.get? I = none) (hc : ∀ nm c, renv.cells.lookup nm = some c → c ≠ I) : LS C B W names renv ls a s ρ ks fs :=
  ⟨x.i.drop (P := (· = I)) (Keeps.refl _ _) rfl rfl (fun a z => .inl z) hB (fun a z => ⟨.inr z, fun w => nb ((z : a = I) ▸ w)⟩) (fun a z => by rw [(z : a = I)]; exact h0) (fun nm c g z => hc nm c g z), x.m, x.d⟩

set_option maxHeartbeats 1000000 in
theorem fill_loop {wd ld wd2 ld2 wd3 : Str} {p p' p1 p2 p3 p4 p5 p6 p7 p8 : Pos} {d0 d1 d2 w6 : Option V} {Q : Flow → Shared → Prop} {kinds : Kinds} (hkk : renv.scope.names = kinds) (hn : names.Nodup)
    (x : LS C B W names renv ls a s [d0, d1, d2, none, some (.dict UK UV), none, w6] ks fs) (rm : Room n A) (hB : B a) (h0 : C.h₀.get? a = none) (hD : C.D ≠ some a) (hc : ∀ nm c, renv.cells.lookup nm = some c → c ≠ a)
    (hl : renv.kindOf ls = some .local) (hdb : (ls == ("__debug__" : Str)) = false)
    (hwd : chkLoc kinds names 5 wd = true) (hld : chkVar kinds names 4 ld = true) (hwd2 : chkVar kinds names 5 wd2 = true) (hwd3 : chkVar kinds names 5 wd3 = true) (hld2 : chkVar kinds names 4 ld2 = true) (hne : ls ≠ wd)
    (O : C.Ok) (hks : ∀ k ∈ UK, k ∉ ks) (hz : ks.length ≤ 100)
    (q : ∀ s' w5, LS C B W names renv ls a s' [d0, d1, d2, none, some (.dict UK UV), w5, w6] (ks ++ UK) (fs ++ UF) → Q .next s') :
    wpAny (model C.prog C.w) A (exec (.For (.Name wd p) (.Name ld p') [.Assign [.Subscript (.Name ls p1) (.Name wd2 p2) p3] (.Subscript (.Name ld2 p4) (.Name wd3 p5) p6) p7] [] p8) renv) Q NoE s := by
  obtain ⟨w1, w2, _⟩ := loc_is hwd
  have hwk : renv.kindOf wd = some .local := by rw [Env.kindOf, hkk]; exact w2
  refine wpAny_For (si_then (Q1 := fun d => d = .dict UK UV) (ev_var hld rfl rfl) rm x.i fun v s₁ d q₁ r₁ i₁ y₁ => ?_) (fun y => rfl)
  subst q₁
  have x₁ := x.step hD y₁ i₁.st
  obtain ⟨ℓ, rv, rfl, ⟨nav, nsys⟩, dl, ll, rl⟩ := r₁
  obtain ⟨o, es, ep, ho, hc1, hd1, hk1, hp1, hn1⟩ := dl
  have da : ∀ {h : Heap}, (∀ o, s₁.heap.get? ℓ = some o → h.get? ℓ = some o) → h.DictAt (PySem.strKind C.prog C.w) ℓ ((UK.map mkS).zip rv) ep := fun k => ⟨o, es, k o ho, hc1, hd1, hk1, hp1, hn1⟩
  have hlen : ((UK.map mkS).zip rv).length = 7 := by
    have := rl.length
    rw [List.length_zip, List.length_map, this]; rfl
  refine wpAny_pyIter_dict nsys (da fun _ g => g) ?_
  generalize hI : s₁.heap.objs.size = I
  have gI : s₁.heap.get? I = none := new_none (Nat.le_of_eq hI)
  have h0I : C.h₀.get? I = none := new_h0 i₁.st (Nat.le_of_eq hI)
  have hDI : C.D ≠ some I := new_deck i₁.st (Nat.le_of_eq hI)
  have nbI : ¬ B I := fun z => i₁.base _ z gI
  have nwI : ¬ W I := fun z => i₁.wt _ z gI
  have hcI : ∀ nm c, renv.cells.lookup nm = some c → c ≠ I := fun nm c g z => i₁.env.there.2 nm c g (z ▸ gI)
  have nℓI : ℓ ≠ I := fun z => by rw [z, gI] at ho; cases ho
  have naI : a ≠ I := fun z => nbI (z ▸ hB)
  have nℓa : ℓ ≠ a := fun z => nav (.inl (z ▸ hB))
  have nℓD : C.D ≠ some ℓ := fun z => nav (.inl (i₁.deck _ z))
  have kp := keep_push s₁.heap { cls := .type "dict_keyiterator", data := .fields #[.ref ℓ, .int 0 0, .int ((UK.map mkS).zip rv).length 0, .int ep 0] }
  let s₂ : Shared := { s₁ with heap := s₁.heap.push { cls := .type "dict_keyiterator", data := .fields #[.ref ℓ, .int 0 0, .int ((UK.map mkS).zip rv).length 0, .int ep 0] } }
  have it₂ : s₂.heap.IsKeyIter I ℓ 0 ((UK.map mkS).zip rv).length ep := ⟨_, by rw [← hI]; exact Heap.get?_push_size _ rfl, rfl, rfl⟩
  have tI : s₂.heap.get? I ≠ none := by obtain ⟨o, ho, _⟩ := it₂; rw [ho]; simp
  have x₂ : LS C (fun b => B b ∨ b = I) W names renv ls a s₂ [d0, d1, d2, none, some (.dict UK UV), none, w6] ks fs :=
    ⟨i₁.grow (Step.all kp) (i₁.st.all kp rfl rfl) (fun b z => .inl z) (fun b z => z.imp id fun z => by rw [z]; exact gI) (fun b z => z.elim (fun z => some_keep kp (i₁.base b z)) fun z => by rw [z]; exact tI), let ⟨m, h1, h2⟩ := x₁.m; ⟨m, h1.keeps kp, h2⟩, x₁.d.keep fun o g => kp _ _ g⟩
  refine codeAny_forLoop_any (fun k s₅ => ∃ (j : Nat) (w5 : Option V), k = 7 - j ∧ j ≤ 7 ∧ s₅.heap.IsKeyIter I ℓ j ((UK.map mkS).zip rv).length ep ∧ (∀ o, s₁.heap.get? ℓ = some o → s₅.heap.get? ℓ = some o) ∧
    LS C (fun b => B b ∨ b = I) W names renv ls a s₅ [d0, d1, d2, none, some (.dict UK UV), w5, w6] (ks ++ UK.take j) (fs ++ UF.take j)) ?_ 7 ⟨0, none, rfl, by omega, it₂, fun o g => kp _ _ g, by rw [List.take_zero, List.take_zero, List.append_nil, List.append_nil]; exact x₂⟩
  rintro k s₅ ⟨j, w5, rfl, hj, it₅, k₅, x₅⟩
  rcases Nat.lt_or_ge j 7 with hlt | hge
  · obtain ⟨kk, f, hkk', hf1, hf2, hnt⟩ := uk_at j hlt
    have hzk : ∃ vv, ((UK.map mkS).zip rv)[j]? = some (mkS kk, vv) := by
      have h1 : (UK.map mkS)[j]? = some (mkS kk) := by rw [List.getElem?_map, hkk']; rfl
      have h2 : j < rv.length := by have := rl.length; rw [this]; exact hlt
      exact ⟨rv[j], by rw [List.getElem?_zip_eq_some]; exact ⟨h1, List.getElem?_eq_getElem h2⟩⟩
    obtain ⟨vv, hzk⟩ := hzk
    refine wpAny_pyNext_dict_item it₅ (da k₅) hzk fun key h' hkey it' sb => ?_
    obtain ⟨t, rfl⟩ := strOf_is hkey
    have kI : Keeps (· = I) s₅ { s₅ with heap := h' } := fun b o nb g => (sb.2 b nb).trans g
    have tI' : h'.get? I ≠ none := by obtain ⟨o, ho, _⟩ := it'; rw [ho]; simp
    have nLI : renv.locals ≠ I := fun z => nwI (z ▸ x.i.wl)
    have i₆ := x₅.i.touch (P := (· = I)) kI rfl rfl (fun b z => .inr z) (fun b z => by rw [(z : b = I)]; exact h0I) (fun b z => by rw [(z : b = I)]; exact hDI) (fun b z => by rw [(z : b = I)]; exact tI') (fun nm c g z => hcI nm c g z)
    obtain ⟨m₅, hm₅, ml₅⟩ := x₅.m
    have hm₆ : h'.Ns renv.locals m₅ := Ns.keep hm₅ fun o g => kI _ _ (fun z => nLI z) g
    show wpAny (model C.prog C.w) A (letOwnedTupleGo (.Name wd p) (.ref I) (.str (mkS kk) t)) _ _ _
    rw [go_name]
    refine wpAny_pure (wpAny_assign_Name (SI.storeM (s := { s₅ with heap := h' }) (y := 5) (d := .str kk) i₆ hn w1 hwk (by decide) ⟨t, rfl⟩ hm₆ fun s₇ i₇ hm₇ c₇ => ?_))
    have nwa : ¬ W a := fun z => x.i.wb _ z hB
    have nwℓ : ¬ W ℓ := fun z => nav (.inr z)
    have it₇ : s₇.heap.IsKeyIter I ℓ (j + 1) ((UK.map mkS).zip rv).length ep := by
      obtain ⟨o, ho, r⟩ := it'
      exact ⟨o, c₇ _ _ hDI nwI ho, r⟩
    have k₇ : ∀ o, s₁.heap.get? ℓ = some o → s₇.heap.get? ℓ = some o := fun o g => c₇ _ _ nℓD nwℓ (kI _ _ (fun z => nℓI z) (k₅ o g))
    have x₇ : LS C (fun b => B b ∨ b = I) W names renv ls a s₇ [d0, d1, d2, none, some (.dict UK UV), some (.str kk), w6] (ks ++ UK.take j) (fs ++ UF.take j) :=
      ⟨i₇, ⟨_, hm₇, by rw [if_neg hne]; exact ml₅⟩, (x₅.d.keep fun o g => kI _ _ (fun z => naI z) g).keep fun o g => c₇ _ _ hD nwa g⟩
    have hnk : kk ∉ ks ++ UK.take j := by
      intro z
      rcases List.mem_append.mp z with z | z
      · exact hks kk (List.mem_of_getElem? hkk') z
      · exact hnt z
    refine wpAny_execs_cons (wpAny_mono (put_stmt (n := n) (k := kk) (f := f) x₇ rm (.inl hB) h0 hD hc hl hdb
      (ev_sub (wa := fun Q => Q (.dict UK UV)) (wb := fun Q => Q (.str kk)) (fun Q q => ev_var hld2 rfl q) (fun Q q => ev_var hwd3 rfl q) rfl (by simp only [idx, hf2]))
      (ev_var hwd2 rfl rfl) rfl hnk (by rw [List.length_append, List.length_take]; omega)
      (Q := fun fl s₈ => fl = .next ∧ ∃ m, m < 7 - j ∧ (fun k s₅ => ∃ (j : Nat) (w5 : Option V), k = 7 - j ∧ j ≤ 7 ∧ s₅.heap.IsKeyIter I ℓ j ((UK.map mkS).zip rv).length ep ∧ (∀ o, s₁.heap.get? ℓ = some o → s₅.heap.get? ℓ = some o) ∧
    LS C (fun b => B b ∨ b = I) W names renv ls a s₅ [d0, d1, d2, none, some (.dict UK UV), w5, w6] (ks ++ UK.take j) (fs ++ UF.take j)) m s₈) fun s₈ x₈ c₈ => ⟨rfl, 7 - (j + 1), by omega, j + 1, some (.str kk), rfl, by omega, ?_, fun o g => c₈ _ _ nℓD nℓa (k₇ o g), ?_⟩) (fun fl s₈ h => ?_) fun _ _ e => noE e)
    · obtain ⟨o, ho, r⟩ := it₇
      exact ⟨o, c₈ _ _ hDI (fun z => naI z.symm) ho, r⟩
    · have e1 : ks ++ UK.take (j + 1) = (ks ++ UK.take j) ++ [kk] := by rw [List.take_add_one, hkk', List.append_assoc]; rfl
      have e2 : fs ++ UF.take (j + 1) = (fs ++ UF.take j) ++ [f] := by rw [List.take_add_one, hf1, List.append_assoc]; rfl
      rw [e1, e2]; exact x₈
    · obtain ⟨rfl, h⟩ := h
      exact wpAny_execs_nil h
  · have hj7 : j = 7 := by omega
    subst hj7
    refine wpAny_pyNext_dict_end rm.hd it₅ (da k₅) (List.getElem?_eq_none (by omega)) fun h' he => wpAny_execs_nil ?_
    have kI : Keeps (· = I) s₅ { s₅ with heap := h' } := fun b o nb g => he b o nb g
    have nLI : renv.locals ≠ I := fun z => nwI (z ▸ x.i.wl)
    refine q _ w5 ⟨x₅.i.drop (P := (· = I)) kI rfl rfl (fun a z => .inl z) x.i.deck (fun b z => ⟨.inr z, fun w => nbI ((z : b = I) ▸ w)⟩) (fun b z => by rw [(z : b = I)]; exact h0I) (fun nm c g z => hcI nm c g z), ?_, x₅.d.keep fun o g => kI _ _ (fun z => naI z) g⟩
    obtain ⟨m, h1, h2⟩ := x₅.m
    exact ⟨m, Ns.keep h1 fun o g => kI _ _ (fun z => nLI z) g, h2⟩
end

/-- the law's second and third statement -/
noncomputable def lawStart : List S := [
  .asg 1 (.upto (.lst [.tup [.str [119, 105, 116, 104], .int 0, .lst [.tup [.str [110, 97, 109, 101], .str [108, 105, 98]]]], .tup [.str [117, 115, 101], .int 0, .lst [.tup [.str [110, 97, 109, 101], .str [108, 105, 98]], .tup [.str [110, 97, 109, 101], .str [116, 101, 120, 116, 95, 105, 111]]]]]) (.call 45 [.var 0, .int 3])),
  .asg 2 (.call 59 [.var 0, .int 0])]

section
variable {C : Cx} (L : Lib C)
include L
theorem c_start {Q : V → Prop} : wpSs (Cal C 60) 99 lawStart [some .deck, none, none, none, none, none, none] none (fun ρ o => ∃ ctx tree, DsOK C 16 4 1600 ctx ∧ DeclOK C 40 670 22000 tree ∧ ρ = [some .deck, some ctx, some tree, none, none, none, none] ∧ o = none) Q := by
  have elib := (e_name L (t := [108, 105, 98]) (gt_lit rfl)).up (show 1 ≤ 2 by omega)
  have etio := (e_name L (t := [116, 101, 120, 116, 95, 105, 111]) (gt_lit rfl)).up (show 1 ≤ 2 by omega)
  have w1 := d_use1 L (kw := [119, 105, 116, 104]) (.inl rfl) elib
  have w2 := d_use2 L (kw := [117, 115, 101]) (.inr (.inl rfl)) elib etio
  k_extra "go"
  refine L.draw3 ⟨?_, ?_, ?_⟩
  · k_extra "go"
    refine (c_decl0 L).up (by omega) fun tree ht => ?_
    exact ⟨_, tree, ds_nil, ht, rfl, rfl⟩
  · k_extra "go"
    refine (c_decl0 L).up (by omega) fun tree ht => ?_
    exact ⟨_, tree, (ds_one w1).up (by omega) (by omega), ht, rfl, rfl⟩
  · k_extra "go"
    refine (c_decl0 L).up (by omega) fun tree ht => ?_
    exact ⟨_, tree, (ds_two w1 w2).up (by omega) (by omega), ht, rfl, rfl⟩
end

noncomputable abbrev lawNames : List Str := ["deck", "context", "tree", "listers", "laid", "word", "rows"]

section
variable {C : Cx} (L : Lib C) {A : Around} {s : Shared} {renv : Env} {B W : Addr → Prop}
include L

theorem law_first {kinds : Kinds} {s2 s3 : PySem.Stmt} {rest : List PySem.Stmt} {P : Flow → Shared → Prop} (hk : renv.scope.names = kinds) (hS : chkSs C.fns kinds lawNames 99 lawStart [s2, s3] = true)
    (rm : Room 60 A) (hD : ∀ a, C.D = some a → B a) (i : SI C B lawNames renv 99 W s [some .deck, none, none, none, none, none, none] none)
    (k : ∀ ctx tree W₂ s₂, DsOK C 16 4 1600 ctx → DeclOK C 40 670 22000 tree → SI C B lawNames renv 99 W₂ s₂ [some .deck, some ctx, some tree, none, none, none, none] none → wpAny (model C.prog C.w) A (execs rest renv) P NoE s₂) :
    wpAny (model C.prog C.w) A (execs (s2 :: s3 :: rest) renv) P NoE s := by
  have hn : lawNames.Nodup := by decide
  have hs2 : chkS C.fns kinds lawNames 99 _ s2 = true := (js_cons hS).2.1
  have hs3 : chkS C.fns kinds lawNames 99 _ s3 = true := (js_cons (js_cons hS).2.2).2.1
  have hw := c_start L (Q := fun _ => False)
  rw [Cal.eq] at hw
  refine wpAny_execs_cons (wpAny_mono (sound_S (n := 60) (av₀ := B) L.O hD hk hn _ (B := B) (fun _ z => z) hs2 hw A s W rm i) (fun f s₁ p => ?_) fun _ _ e => e)
  cases f with
  | ret v => obtain ⟨d, q, _⟩ := p; exact q.elim
  | brk => exact p.elim
  | cont => exact p.elim
  | next =>
  obtain ⟨W₁, ρ₁, o₁, hw₁, i₁, _, _, _⟩ := p
  refine wpAny_execs_cons (wpAny_mono (sound_S (n := 60) (av₀ := B) L.O hD hk hn _ (B := B) (fun _ z => z) hs3 hw₁ A s₁ W₁ rm i₁) (fun f s₂ p => ?_) fun _ _ e => e)
  cases f with
  | ret v => obtain ⟨d, q, _⟩ := p; exact q.elim
  | brk => exact p.elim
  | cont => exact p.elim
  | next =>
  obtain ⟨W₂, ρ₂, o₂, ⟨ctx, tree, hctx, htree, rfl, rfl⟩, i₂, _, _, _⟩ := p
  exact k ctx tree W₂ s₂ hctx htree i₂

omit L in
theorem law_listers (O : C.Ok) {kinds : Kinds} {rest : List PySem.Stmt} {P : Flow → Shared → Prop} {ls dl : Str} {q1 q2 q3 q4 : Pos} {ctx tree : V} (hk : renv.scope.names = kinds) (hls : chkLoc kinds lawNames 3 ls = true) (hdl : isGlob kinds dl = true)
    (hdc : ∃ fv, C.mg dl = some fv ∧ (∃ a o fd, fv = .ref a ∧ C.h₀.get? a = some o ∧ o.data = .func fd) ∧ ∀ (A : Around) (s : Shared), Room 60 A → St C s → codeAny (model C.prog C.w) A (.call fv ⟨[], []⟩) (DLPost C s) s)
    (rm : Room 60 A) (i₂ : SI C B lawNames renv 99 W s [some .deck, some ctx, some tree, none, none, none, none] none)
    (k : ∀ a s₅, C.D ≠ some a → ¬ B a → ¬ W a → C.h₀.get? a = none → (∀ nm c, renv.cells.lookup nm = some c → c ≠ a) → (a == sysModules) = false → LS C (fun b => B b ∨ b = a) W lawNames renv ls a s₅ [some .deck, some ctx, some tree, none, none, none, none] DK DF →
      wpAny (model C.prog C.w) A (execs rest renv) P NoE s₅) :
    wpAny (model C.prog C.w) A (execs (.Assign [.Name ls q1] (.Call (.Name dl q2) [] [] q3) q4 :: rest) renv) P NoE s := by
  have hn : lawNames.Nodup := by decide
  obtain ⟨l1, l2, l3⟩ := loc_is hls
  have hlk : renv.kindOf ls = some .local := by rw [Env.kindOf, hk]; exact l2
  obtain ⟨fv, hfv, ⟨af, of, fdf, rfl, hof, hdf⟩, hcall⟩ := hdc
  refine wpAny_execs_cons (wpAny_Assign_Name (wpAny_Call_NameR (ld_glob O i₂.st i₂.env (by rw [Env.kindOf, hk]; exact (isGlob_is hdl).1) (isGlob_is hdl).2 hfv (callWith_function (o := of) (fd := fdf) (args_of (es := []) (Q := fun vs => vs = []) (evL_nil rfl) rm i₂.st i₂.av i₂.env (fun vs s₃ ds q₃ r₃ x₃ y₃ a₃ ev₃ => ⟨⟨x₃.keep _ _ hof, hdf⟩, wpAny_call ?_⟩) rfl)))) rfl)
  subst q₃
  obtain rfl := r₃
  have i₃ := i₂.step y₃ x₃
  refine codeAny_mono (hcall A s₃ rm x₃) fun r s₄ p => ?_
  obtain ⟨a, rv, rfl, ga, da, sa, dd, lr, rr, x₄, y₄⟩ := p
  have nB : ¬ B a := fun z => i₃.base _ z ga
  have ta : s₄.heap.get? a ≠ none := by obtain ⟨o, _, _, ho, _⟩ := dd; rw [ho]; simp
  have h0a : C.h₀.get? a = none := by
    cases g : C.h₀.get? a with
    | none => rfl
    | some o => have := x₃.keep a o g; rw [ga] at this; cases this
  have hca : ∀ nm c, renv.cells.lookup nm = some c → c ≠ a := fun nm c g z => i₃.env.there.2 nm c g (z ▸ ga)
  have i₄ : SI C (fun b => B b ∨ b = a) lawNames renv 99 W s₄ [some .deck, some ctx, some tree, none, none, none, none] none :=
    i₃.grow y₄ x₄ (fun b z => .inl z) (fun b z => z.imp id fun z => by rw [z]; exact ga) fun b z => z.elim (fun z => y₄.there (i₃.base b z)) fun z => by rw [z]; exact ta
  obtain ⟨m₄, hm₄, _⟩ := id i₄.ns
  refine SI.other i₄ hn l1 hlk rfl hm₄ fun s₅ i₅ hm₅ c₅ => ?_
  have nWa : ¬ W a := fun z => i₃.wt _ z ga
  have x5 : LS C (fun b => B b ∨ b = a) W lawNames renv ls a s₅ [some .deck, some ctx, some tree, none, none, none, none] DK DF :=
    ⟨i₅, ⟨_, hm₅, if_pos rfl⟩, rv, lr, rr, dictOf_move dd fun o g => c₅ _ _ da nWa g⟩
  exact k a s₅ da nB nWa h0a hca sa x5

theorem law_rest {kinds : Kinds} {s2 s3 s5 s10 s11 : PySem.Stmt} {ls dl wd ld wd2 ld2 wd3 f1 f2 f3 : Str} {q1 q2 q3 q4 q5 q6 q7 q8 q9 q10 q11 q12 r1 r2 r3 r4 r5 t1 t2 t3 t4 t5 u1 u2 u3 u4 u5 v1 v2 : Pos} {c1 c2 c3 : Nat}
    (hk : renv.scope.names = kinds) (hS : chkSs C.fns kinds lawNames 99 lawStart [s2, s3] = true) (hls : chkLoc kinds lawNames 3 ls = true) (hdl : isGlob kinds dl = true)
    (hdc : ∃ fv, C.mg dl = some fv ∧ (∃ a o fd, fv = .ref a ∧ C.h₀.get? a = some o ∧ o.data = .func fd) ∧ ∀ (A : Around) (s : Shared), Room 60 A → St C s → codeAny (model C.prog C.w) A (.call fv ⟨[], []⟩) (DLPost C s) s)
    (h5 : chkS C.fns kinds lawNames 99 (.asg 4 (.call 44 [])) s5 = true)
    (hwd : chkLoc kinds lawNames 5 wd = true) (hld : chkVar kinds lawNames 4 ld = true) (hwd2 : chkVar kinds lawNames 5 wd2 = true) (hwd3 : chkVar kinds lawNames 5 wd3 = true) (hld2 : chkVar kinds lawNames 4 ld2 = true)
    (hf1 : chkE C.fns kinds lawNames (.fn 75) (.Name f1 t4) = true) (hf2 : chkE C.fns kinds lawNames (.fn 76) (.Name f2 u4) = true) (hf3 : chkE C.fns kinds lawNames (.fn 77) (.Name f3 r4) = true)
    (hE : chkSs C.fns kinds lawNames 99 lawEnd [s10, s11] = true)
    (rm : Room 60 A) (hB : ∀ b, B b ↔ C.D = some b) (i : SI C B lawNames renv 99 W s [some .deck, none, none, none, none, none, none] none) :
    wpAny (model C.prog C.w) A (execs [s2, s3, .Assign [.Name ls q1] (.Call (.Name dl q2) [] [] q3) q4, s5,
      .For (.Name wd q5) (.Name ld q6) [.Assign [.Subscript (.Name ls q7) (.Name wd2 q8) q9] (.Subscript (.Name ld2 q10) (.Name wd3 q11) q12) r1] [] r2,
      .Assign [.Subscript (.Name ls t1) (.Constant (.str (mkS [115, 104, 111, 119])) c1 t2) t3] (.Name f1 t4) t5,
      .Assign [.Subscript (.Name ls u1) (.Constant (.str (mkS [97, 115, 115, 111, 99, 115])) c2 u2) u3] (.Name f2 u4) u5,
      .Assign [.Subscript (.Name ls r3) (.Constant (.str (mkS [110, 117, 108, 108])) c3 v1) v2] (.Name f3 r4) r5, s10, s11] renv)
      (fun f s' => ∃ v, f = .ret v ∧ v = .bool true ∧ St C s') NoE s := by
  have hn : lawNames.Nodup := by decide
  have hD : ∀ a, C.D = some a → B a := fun a z => (hB a).mpr z
  obtain ⟨l1, l2, l3⟩ := loc_is hls
  have hlk : renv.kindOf ls = some .local := by rw [Env.kindOf, hk]; exact l2
  have hldb : (ls == ("__debug__" : Str)) = false := by
    simp only [chkVar, Bool.and_eq_true] at l3
    exact isVar_debug l3.2
  refine law_first L hk hS rm hD i fun ctx tree W₂ s₂ hctx htree i₂ => ?_
  refine law_listers L.O hk hls hdl hdc rm i₂ fun a s₅ da nB nWa h0a hca sa x5 => ?_
  have i₅ := x5.i
  have hm₅ := x5.m
  -- the second dict
  obtain ⟨e5, h51, h52, _⟩ := j_asg h5
  obtain ⟨k1, k2, k3⟩ := loc_is h51
  have hu := Ev.at (sound_E (Q := fun d => d = .dict UK UV) L.O _ hk h52 ((c_units L).mono (by omega) fun v e => e).is : Ev C 60 lawNames renv [some .deck, some ctx, some tree, none, none, none, none] _ _) (i_call h52).1.symm
  rw [e5, (i_call h52).1]
  refine wpAny_execs_cons (wpAny_Assign_Name (si_then hu rm i₅ fun v s₆ d q₆ r₆ i₆ y₆ => ?_) rfl)
  subst q₆
  have x6 := x5.step da y₆ i₆.st
  obtain ⟨m₆, hm₆, ml₆⟩ := x6.m
  have hne5 : ls ≠ nmE (x0 (tsS s5)) := fun z => by
    have : (3 : Nat) = 4 := nodup_idx hn l1 (z ▸ k1)
    cases this
  refine SI.storeM i₆ hn k1 (by rw [Env.kindOf, hk]; exact k2) (by decide) r₆ hm₆ fun s₇ i₇ hm₇ c₇ => ?_
  have x7 : LS C (fun b => B b ∨ b = a) W₂ lawNames renv ls a s₇ [some .deck, some ctx, some tree, none, some (.dict UK UV), none, none] DK DF :=
    ⟨i₇, ⟨_, hm₇, by rw [if_neg hne5]; exact ml₆⟩, x6.d.keep fun o g => c₇ _ _ da nWa g⟩
  obtain ⟨w1, w2, _⟩ := loc_is hwd
  have hnew : ls ≠ wd := fun z => by
    have : (3 : Nat) = 5 := nodup_idx hn l1 (z ▸ w1)
    cases this
  refine wpAny_execs_cons (fill_loop hk hn x7 rm (.inr rfl) h0a da hca hlk hldb hwd hld hwd2 hwd3 hld2 hnew L.O (by decide) (by decide) fun s₈ w5 x8 => ?_)
  refine wpAny_execs_cons (put_stmt (n := 60) x8 rm (.inr rfl) h0a da hca hlk hldb (sound_E L.O _ hk hf1 rfl) (ev_str rfl) rfl (by decide) (by decide) fun s₉ x9 _ => ?_)
  refine wpAny_execs_cons (put_stmt (n := 60) x9 rm (.inr rfl) h0a da hca hlk hldb (sound_E L.O _ hk hf2 rfl) (ev_str rfl) rfl (by decide) (by decide) fun s₁₀ x10 _ => ?_)
  refine wpAny_execs_cons (put_stmt (n := 60) x10 rm (.inr rfl) h0a da hca hlk hldb (sound_E L.O _ hk hf3 rfl) (ev_str rfl) rfl (by decide) (by decide) fun s₁₁ x11 _ => ?_)
  -- the dict is a value now
  obtain ⟨m₁₁, hm₁₁, ml₁₁⟩ := x11.m
  obtain ⟨rv', lr', rr', dd'⟩ := x11.d
  have i₁₂ := x11.i.drop (B := B) (P := (· = a)) (Keeps.refl _ _) rfl rfl (fun b z => .inl z) hD (fun b z => ⟨.inr z, fun w => nB ((z : b = a) ▸ w)⟩) (fun b z => by rw [(z : b = a)]; exact h0a) (fun nm c g z => hca nm c g z)
  have hrep : Rep C (fun b => B b ∨ W₂ b) s₁₁.heap LD (.ref a) := by
    have e1 : LK = (((DK ++ UK) ++ [[115, 104, 111, 119]]) ++ [[97, 115, 115, 111, 99, 115]]) ++ [[110, 117, 108, 108]] := by decide
    have e2 : LV = ((((DF ++ UF) ++ [75]) ++ [76]) ++ [77]).map .fn := by rfl
    show Rep C (fun b => B b ∨ W₂ b) s₁₁.heap (.dict LK LV) (.ref a)
    simp only [Rep]
    refine ⟨a, rv', rfl, ⟨fun z => z.elim nB nWa, sa⟩, by rw [e1]; exact dd', by decide, ?_⟩
    rw [e2]; exact rr' _ _
  have i₁₃ : SI C B lawNames renv 99 W₂ s₁₁ [some .deck, some ctx, some tree, some LD, some (.dict UK UV), w5, none] none := by
    refine { i₁₂ with env := ?_, acc := rfl }
    refine ⟨i₁₂.env.kind, i₁₂.env.glob, i₁₂.env.blt, fun j d q => ?_, i₁₂.env.there⟩
    by_cases hj : j = 3
    · subst hj
      cases q
      exact ⟨ls, .ref a, l1, .inl ⟨hlk, m₁₁, hm₁₁, ml₁₁⟩, hrep⟩
    · refine i₁₂.env.vars j d ?_
      rw [← q]
      match j, hj with
      | 0, _ => rfl
      | 1, _ => rfl
      | 2, _ => rfl
      | 3, h => exact absurd rfl h
      | 4, _ => rfl
      | 5, _ => rfl
      | 6, _ => rfl
      | _ + 7, _ => rfl
  have hend := c_end L (x4 := some (.dict UK UV)) (x5 := w5) (N := fun _ _ => False) (Q := fun d => d = .bool true) hctx htree rfl
  rw [Cal.eq] at hend
  refine wpAny_mono (sound_Ss (n := 60) (av₀ := B) L.O hD hk hn lawEnd (B := B) (fun _ z => z) hE hend A s₁₁ W₂ rm i₁₃) (fun f s' p => ?_) fun _ _ e => e
  cases f with
  | ret v =>
    obtain ⟨d, rfl, r, st, _⟩ := p
    exact ⟨v, rfl, r, st⟩
  | brk => exact p.elim
  | cont => exact p.elim
  | next => obtain ⟨_, _, _, q, _⟩ := p; exact q.elim
end

theorem ints_all : ∀ {vs : List Value}, (∀ v ∈ vs, ∃ n t, v = .int n t) → ∃ ns, IntsAre vs ns
  | [], _ => ⟨[], .nil⟩
  | v :: vs, h => by
    obtain ⟨n, t, rfl⟩ := h v List.mem_cons_self
    obtain ⟨ns, k⟩ := ints_all fun w hw => h w (List.mem_cons_of_mem _ hw)
    exact ⟨n :: ns, .cons n t k⟩
theorem ints_mem {vs : List Value} {ns : List Int} (h : IntsAre vs ns) : ∀ v ∈ vs, ∃ n t, v = .int n t := by
  induction h with
  | nil => intro v h; cases h
  | cons n t r ih => exact fun v h => (List.mem_cons.mp h).elim (fun e => ⟨n, t, e⟩) (ih v)

section
variable {prog : Program} {w : World} {A : Around} {s : Shared} {renv : Env} {mg mb m : Str → Option Value}

/-- the deck is laid -/
theorem deck_eval {sc : Str} {p1 p2 p3 p4 p5 p6 p7 p8 p9 p10 : Pos} {c1 c2 : Nat} {l : Addr} {vs : List Value} {ns : List Int} {P : Value → Shared → Prop} {E : Value → Shared → Prop}
    (hf : renv.scope.kind = .function) (hg : renv.globals = mainGlobals) (hb : renv.builtins = builtinsNs) (hmg : s.heap.Ns mainGlobals mg) (hmb : s.heap.Ns builtinsNs mb) (h1 : mg "list" = none) (h2 : mb "list" = some (.type "list"))
    (hk : renv.kindOf "list" = some .globalImplicit) (hs : renv.kindOf sc = some .local) (hsd : (sc == ("__debug__" : Str)) = false) (hm : s.heap.Ns renv.locals m) (hv : m sc = some (.ref l)) (hl : s.heap.IsList l vs.toArray) (hi : IntsAre vs ns) (hz : vs.length ≤ 1000)
    (q : ∀ h' tk D us ms, LstAt h' D us → IntsAre us ms → us.length ≤ 64 → s.heap.objs.size ≤ D → (∀ b o, s.heap.get? b = some o → h'.get? b = some o) → P (.ref D) { s with heap := h', toks := tk }) :
    wpAny (model prog w) A (eval (.Subscript (.Call (.Name "list" p1) [.Subscript (.Name sc p2) (.Slice none (some (.Constant (.int 40) c1 p3)) none p4) p5] [] p6) (.Slice none none (some (.UnaryOp .USub (.Constant (.int 1) c2 p7) p8)) p9) p10) renv) P E s := by
  refine Subscript_ (wpAny_Call_NameR (Name_function_global hf hk (loadGlobal_builtin (mg := mg) (mb := mb) (by rw [hg]; exact hmg) h1 (by rw [hb]; exact hmb) h2 (PySem.callWith_type (by rfl) ?_)) rfl))
  refine evalArgs_plain (spliced_cons (x := eval _ renv) (Subscript_ (wpAny_Name (wpAny_loadName_local hf hs hm hv ?_) hsd)))
  refine wpAny_Slice (wpAny_evalPart_none (wpAny_evalPart_some (wpAny_Constant_int (wpAny_evalPart_none ?_))))
  obtain ⟨o, ho, hc, nn, hd⟩ := id hl
  have kp1 := keep_push s.heap { cls := .type "slice", data := .fields #[.none, .int 40 s.toks, .none] }
  have hl1 : (s.heap.push { cls := .type "slice", data := .fields #[.none, .int 40 s.toks, .none] }).IsList l vs.toArray := ⟨o, kp1 _ _ ho, hc, nn, hd⟩
  refine tail_any (T := "list") ⟨o, kp1 _ _ ho, hc⟩ slot_list_getitem.lookup (wpAny_getItem_list_slice (vl := .none) (vu := .int 40 s.toks) (vs := .none) (lo := none) (hi := some 40) (st := none) hl1 ⟨_, Heap.get?_push_size _ rfl, rfl, rfl⟩ .none (.int 40 s.toks) .none (by simp) ?_ ?_) rfl
  rotate_left
  · rw [List.size_toArray, sizeLine_eq]; omega
  rw [pick_upto (by decide)]
  refine spliced_nil ?_
  generalize hs2 : (s.heap.push { cls := .type "slice", data := .fields #[.none, .int 40 s.toks, .none] }).push { cls := .type "list", data := .seq (vs.take (40 : Int).toNat).toArray } = H2
  have g2 : H2.get? (s.heap.push { cls := .type "slice", data := .fields #[.none, .int 40 s.toks, .none] }).objs.size = some { cls := .type "list", data := .seq (vs.take (40 : Int).toNat).toArray } := by rw [← hs2]; exact Heap.get?_push_size _ rfl
  have kp2 : ∀ b o, s.heap.get? b = some o → H2.get? b = some o := fun b o g => by rw [← hs2]; exact keep_push _ _ _ _ (kp1 b o g)
  refine call_list_seq (s := { s with heap := H2, toks := s.toks + 1 }) _ (.inl rfl) g2 rfl rfl (fun h₃ c₃ k₃ d₃ => ?_) (by rw [List.size_toArray, List.length_take, sizeLine_eq]; omega)
  refine wpAny_Slice (wpAny_evalPart_none (wpAny_evalPart_none (wpAny_evalPart_some (wpAny_UnaryOp (wpAny_Constant_int (PySem.P.neg_int (wpAny_mono (E := fun _ _ => False) ?_ (fun _ _ z => z) fun _ _ z => z.elim)))))))
  have hL3 : h₃.IsList H2.objs.size (vs.take (40 : Int).toNat).toArray := ⟨_, d₃, rfl, c₃, rfl⟩
  have kp4 := keep_push h₃ { cls := .type "slice", data := .fields #[.none, .none, .int (-1) (s.toks + 1 + 1)] }
  have hL4 : (h₃.push { cls := .type "slice", data := .fields #[.none, .none, .int (-1) (s.toks + 1 + 1)] }).IsList H2.objs.size (vs.take (40 : Int).toNat).toArray := ⟨_, kp4 _ _ d₃, rfl, c₃, rfl⟩
  refine tail_any (T := "list") ⟨_, kp4 _ _ d₃, rfl⟩ slot_list_getitem.lookup (wpAny_getItem_list_slice (vl := .none) (vu := .none) (vs := .int (-1) (s.toks + 1 + 1)) (lo := none) (hi := none) (st := some (-1)) hL4 ⟨_, Heap.get?_push_size _ rfl, rfl, rfl⟩ .none .none (.int (-1) (s.toks + 1 + 1)) (by simp) ?_ ?_) rfl
  rotate_left
  · rw [List.size_toArray, List.length_take, sizeLine_eq]; omega
  rw [krv_pick]
  have hall : ∀ v ∈ (vs.take (40 : Int).toNat).reverse, ∃ n t, v = .int n t := fun v hv => ints_mem hi v (List.mem_of_mem_take (List.mem_reverse.mp hv))
  obtain ⟨ms, hms⟩ := ints_all hall
  have kk : ∀ b o, s.heap.get? b = some o → ((h₃.push { cls := .type "slice", data := .fields #[.none, .none, .int (-1) (s.toks + 1 + 1)] }).push { cls := .type "list", data := .seq (vs.take (40 : Int).toNat).toArray.toList.reverse.toArray }).get? b = some o := fun b o g => keep_push _ _ _ _ (kp4 b o (k₃ b o (kp2 b o g)))
  refine q _ _ _ (vs.take (40 : Int).toNat).reverse ms ⟨_, Heap.get?_push_size _ rfl⟩ hms (by rw [List.length_reverse, List.length_take]; have e : (40 : Int).toNat = 40 := rfl; omega) ?_ kk
  have a1 : s.heap.objs.size ≤ H2.objs.size := by rw [← hs2, Heap.size_push, Heap.size_push]; omega
  have a2 : H2.objs.size < h₃.objs.size := Heap.lt_size d₃
  simp only [Heap.size_push]
  exact Nat.le_of_lt (Nat.lt_succ_of_lt (Nat.lt_of_le_of_lt a1 a2))
end

noncomputable abbrev Rec := Str × Arguments × List PySem.Stmt × Scope
/-- every function of the small text has its def -/
noncomputable def chkRec (fr : Fun) (d : Rec) : Bool := d.1 == fr.name && chkHead fr fr.name d.2.1 d.2.2.2 &&
  (if fr.name == ("_law_of" : Str) then isLawOf d.2.2.2.names d.2.2.1 else if fr.name == ("declaration_listers" : Str) then isDL fnames d.2.2.2.names d.2.2.1 else
    chkSs fnames d.2.2.2.names fr.names fr.acc fr.body d.2.2.1)
noncomputable def chkRecs (ds : List Rec) : Bool := funs.all fun fr => ds.any (fun d => d.1 == fr.name) && (fr.name == ("law" : Str) || ds.any (chkRec fr))

/-- what the start gives -/
structure Base (mg mb : Str → Option Value) (h : Heap) (ds : List Rec) : Prop where
  g : h.Ns mainGlobals mg
  b : h.Ns builtinsNs mb
  lim : h.NoLimit
  fn : ∀ d ∈ ds, ∃ a o pm code doc, mg d.1 = some (.ref a) ∧ h.get? a = some o ∧ o.data = .func (docDef d.1 d.2.1 d.2.2.1 d.2.2.2 pm code doc) ∧ h.CodeRec code d.1
  len : mg "len" = none ∧ mb "len" = some (.builtin "len")
  str : mg "str" = none ∧ mb "str" = some (.type "str")
  list : mg "list" = none ∧ mb "list" = some (.type "list")
  range : mg "range" = none ∧ mb "range" = some (.type "range")
  enum : mg "enumerate" = none ∧ mb "enumerate" = some (.type "enumerate")

theorem Base.def {C : Cx} {ds : List Rec} (B : Base C.mg C.mb C.h₀ ds) (hf : C.fns = fnames) (hc : chkRecs ds = true) {f : Nat} {fr : Fun} (h : funs[f]? = some fr) (hl : fr.name ≠ ("law" : Str)) : ∃ d ∈ ds, DefIs C f fr d.2.2.2 d.2.2.1 ∧ chkRec fr d = true := by
  simp only [chkRecs, List.all_eq_true] at hc
  have := hc fr (List.mem_of_getElem? h)
  simp only [Bool.and_eq_true, Bool.or_eq_true, beq_iff_eq, List.any_eq_true] at this
  rcases this.2 with z | ⟨d, hd, hk⟩
  · exact absurd z hl
  · refine ⟨d, hd, ?_, hk⟩
    have hk' := hk
    simp only [chkRec, Bool.and_eq_true, beq_iff_eq] at hk'
    obtain ⟨⟨e1, e2⟩, _⟩ := hk'
    obtain ⟨a, o, pm, code, doc, k1, k2, k3, k4⟩ := B.fn d hd
    rw [e1] at k1 k3 k4
    refine ⟨?_, a, o, pm, code, doc, d.2.1, k1, k2, k3, k4, e2⟩
    rw [hf, fnames, List.getElem?_map, h]; rfl

theorem byHand : (funs.all fun fr => (fr.name != ("law" : Str) && fr.name != ("_law_of" : Str) && fr.name != ("declaration_listers" : Str)) || fr.body.isEmpty) = true := by decide +kernel

theorem mkOk {C : Cx} {ds : List Rec} (B : Base C.mg C.mb C.h₀ ds) (hf : C.fns = fnames) (hc : chkRecs ds = true) (hD : ∀ a, C.D = some a → C.h₀.get? a = none) : C.Ok where
  g := B.g
  b := B.b
  len := B.len
  str := B.str
  list := B.list
  range := B.range
  enum := B.enum
  deck := hD
  fn := fun f nm h => by
    rw [hf, fnames, List.getElem?_map] at h
    cases hq : funs[f]? with
    | none => rw [hq] at h; cases h
    | some fr =>
      rw [hq] at h
      simp only [Option.map_some, Option.some.injEq] at h
      simp only [chkRecs, List.all_eq_true] at hc
      have := hc fr (List.mem_of_getElem? hq)
      simp only [Bool.and_eq_true, beq_iff_eq, List.any_eq_true] at this
      obtain ⟨⟨d, hd, e⟩, _⟩ := this
      obtain ⟨a, o, pm, code, doc, k1, k2, k3, k4⟩ := B.fn d hd
      rw [e, h] at k1
      exact ⟨a, o, _, k1, k2, k3⟩

theorem mkLib {C : Cx} {ds : List Rec} (B : Base C.mg C.mb C.h₀ ds) (hf : C.fns = fnames) (hc : chkRecs ds = true) (hD : ∀ a, C.D = some a → C.h₀.get? a = none) : Lib C where
  O := mkOk B hf hc hD
  lim := B.lim
  at' := fun f fr h hb => by
    have hh := byHand
    simp only [List.all_eq_true] at hh
    have := hh fr (List.mem_of_getElem? h)
    simp only [Bool.or_eq_true, Bool.and_eq_true, bne_iff_ne, List.isEmpty_iff] at this
    rcases this with ⟨⟨n1, n2⟩, n3⟩ | z
    · obtain ⟨d, hd, di, hk⟩ := B.def hf hc h n1
      refine ⟨d.2.2.2, d.2.2.1, di, ?_⟩
      simp only [chkRec, Bool.and_eq_true] at hk
      have h2 := hk.2
      rw [if_neg (by simpa using n2), if_neg (by simpa using n3)] at h2
      rw [hf]; exact h2
    · exact absurd z hb
  draw := fun n m Q hm q => by
    obtain ⟨d, hd, di, hk⟩ := B.def hf hc (f := 45) (fr := ⟨"_law_of", ["deck", "many"], ["deck", "many"], 99, []⟩) rfl (by decide)
    simp only [chkRec, Bool.and_eq_true] at hk
    have h2 := hk.2
    rw [if_pos (by decide)] at h2
    exact ⟨lawOf (mkOk B hf hc hD) B.lim di rfl rfl rfl h2 hm q⟩

section
variable {prog : Program} {w : World} {A : Around} {s : Shared} {renv : Env} {mg mb m : Str → Option Value} {h : Heap} {ds : List Rec}

/-- the frame behind the first statement -/
theorem law_frame {D : Addr} {us : List Value} {ms : List Int} {h' : Heap} {tk : Nat} (hf : renv.scope.kind = .function) (hg : renv.globals = mainGlobals) (hb : renv.builtins = builtinsNs)
    (k1 : ∀ b o, h.get? b = some o → s.heap.get? b = some o) (hm : s.heap.Ns renv.locals m) (hL0 : h.get? renv.locals = none) (hcl : ∀ nm, renv.cells.lookup nm = none)
    (lD : LstAt h' D us) (ims : IntsAre us ms) (hz : us.length ≤ 64) (hle : s.heap.objs.size ≤ D) (kp : ∀ b o, s.heap.get? b = some o → h'.get? b = some o) :
    SI ⟨prog, w, mg, mb, h, some D, fnames, s.gens, s.os⟩ (fun b => some D = some b) lawNames renv 99 (fun b => b = renv.locals) { s with heap := h', toks := tk } [none, none, none, none, none, none, none] none := by
  have tL : s.heap.get? renv.locals ≠ none := by obtain ⟨o, _, _, ho, _⟩ := hm; rw [ho]; simp
  have hlt : renv.locals < s.heap.objs.size := hm.lt
  have ne : D ≠ renv.locals := fun z => by rw [z] at hle; exact Nat.lt_irrefl _ (Nat.lt_of_lt_of_le hlt hle)
  have none7 : ∀ i, lk [none, none, none, none, none, none, none] i = (none : Option V) := fun i => by
    match i with
    | 0 => rfl
    | 1 => rfl
    | 2 => rfl
    | 3 => rfl
    | 4 => rfl
    | 5 => rfl
    | 6 => rfl
    | _ + 7 => rfl
  refine { st := ⟨fun a o e => kp a o (k1 a o e), fun a z => ?_, rfl, rfl⟩, deck := fun a z => z, base := fun a z => ?_, wl := rfl, wb := fun a z q => ?_, w0 := fun a z => ?_, wd := fun a z q => ?_, wt := fun a z => ?_, cells := fun nm c g => ?_, env := ⟨hf, hg, hb, fun i d q => ?_, some_keep kp tL, fun nm c g => ?_⟩, acc := none7 99, ns := ⟨m, hm.keeps kp, trivial⟩ }
  · cases z; exact ⟨us, ms, lD, ims, hz⟩
  · cases z; obtain ⟨n, g⟩ := lD; show h'.get? D ≠ none; rw [g]; simp
  · cases q; exact ne z
  · have z : a = renv.locals := z
    rw [z]; exact hL0
  · have z : a = renv.locals := z
    have q : some D = some a := q
    cases q; exact ne z
  · have z : a = renv.locals := z
    rw [z]; exact some_keep kp tL
  · rw [hcl nm] at g; cases g
  · rw [none7 i] at q; cases q
  · rw [hcl nm] at g; cases g
end

noncomputable def isTail (e : PySem.Expr) : Bool := (tq 13 e && ((o1 e).isNone && ((o2 e).isNone && (o3 e).isSome))) && (tq 11 (xo (o3 e)) && (decide (uopE (xo (o3 e)) = .USub) && (tq 0 (k0 (xo (o3 e))) && decide (cE (k0 (xo (o3 e))) = .int 1))))
theorem isTail_is {e : PySem.Expr} (h : isTail e = true) : e = .Slice none none (some (.UnaryOp .USub (.Constant (.int 1) (kE (k0 (xo (o3 e)))) (k0 (xo (o3 e))).pos) (xo (o3 e)).pos)) e.pos :=
  have a := (an (an h).1).2
  have b := (an h).2
  (e_slice (an (an h).1).1).trans (c_slice (none_is (an a).1) (none_is (an (an a).2).1) ((some_is default (an (an a).2).2).trans (c_some ((e_un (an b).1 (dk (an (an b).2).1)).trans (c_un (e_const (an (an (an b).2).2).1 (dk (an (an (an b).2).2).2)))))))
noncomputable def isHead (kinds : Kinds) (e : PySem.Expr) : Bool := (calls e && (decide (nmE (k0 e) = "list") && one (ks e))) && ((isGlob kinds "list" && decide (kinds.lookup ("script" : Str) = some .local)) && ((tq 4 (x0 (ks e)) && (tq 1 (k0 (x0 (ks e))) && decide (nmE (k0 (x0 (ks e))) = "script"))) &&
  ((tq 13 (k1 (x0 (ks e))) && ((o1 (k1 (x0 (ks e)))).isNone && ((o3 (k1 (x0 (ks e)))).isNone && (o2 (k1 (x0 (ks e)))).isSome))) && (tq 0 (xo (o2 (k1 (x0 (ks e))))) && decide (cE (xo (o2 (k1 (x0 (ks e))))) = .int 40)))))
theorem isHead_is {kinds : Kinds} {e : PySem.Expr} (h : isHead kinds e = true) : e = .Call (.Name "list" (k0 e).pos) [.Subscript (.Name "script" (k0 (x0 (ks e))).pos) (.Slice none (some (.Constant (.int 40) (kE (xo (o2 (k1 (x0 (ks e)))))) (xo (o2 (k1 (x0 (ks e))))).pos)) none (k1 (x0 (ks e))).pos) (x0 (ks e)).pos] [] e.pos ∧ isGlob kinds "list" = true ∧ kinds.lookup ("script" : Str) = some .local :=
  have a := (an (an h).1).2
  have g := (an (an h).2).1
  have b := (an (an (an h).2).2).1
  have c := (an (an (an h).2).2).2
  have d := (an (an c).1).2
  ⟨(e_calls (an (an h).1).1).trans (c_call (by rw [dk (an a).1]) ((one_is default (an a).2).trans (c_one ((e_sub (an b).1).trans (c_sub ((e_nm (an (an b).2).1).trans (by rw [dk (an (an b).2).2]))
    ((e_slice (an (an c).1).1).trans (c_slice (none_is (an d).1) ((some_is default (an (an d).2).2).trans (c_some (e_const (an (an c).2).1 (dk (an (an c).2).2)))) (none_is (an (an d).2).1))))))) rfl), (an g).1, dk (an g).2⟩
noncomputable def isDlCall (kinds : Kinds) (e : PySem.Expr) : Bool := (calls e && (decide (nmE (k0 e) = "declaration_listers") && (ks e).isEmpty)) && isGlob kinds "declaration_listers"
theorem isDlCall_is {kinds : Kinds} {e : PySem.Expr} (h : isDlCall kinds e = true) : e = .Call (.Name "declaration_listers" (k0 e).pos) [] [] e.pos ∧ isGlob kinds "declaration_listers" = true :=
  ⟨(e_calls (an (an h).1).1).trans (c_call (by rw [dk (an (an (an h).1).2).1]) (nil_is (an (an (an h).1).2).2) rfl), (an h).2⟩
noncomputable def isFill (kinds : Kinds) (ls : Str) (s : PySem.Stmt) : Bool := ((sq 3 s && ((b2S s).isEmpty && (one (b1S s) && (tq 1 (stS s) && tq 1 (svS s))))) && (sq 1 (s0 (b1S s)) && (one (tsS (s0 (b1S s))) && ((tq 4 (x0 (tsS (s0 (b1S s)))) && (tq 1 (k0 (x0 (tsS (s0 (b1S s))))) && tq 1 (k1 (x0 (tsS (s0 (b1S s))))))) && (tq 4 (svS (s0 (b1S s))) && (tq 1 (k0 (svS (s0 (b1S s)))) && tq 1 (k1 (svS (s0 (b1S s)))))))))) &&
  (decide (nmE (k0 (x0 (tsS (s0 (b1S s))))) = ls) && (chkLoc kinds lawNames 5 (nmE (stS s)) && (chkVar kinds lawNames 4 (nmE (svS s)) && (chkVar kinds lawNames 5 (nmE (k1 (x0 (tsS (s0 (b1S s)))))) && (chkVar kinds lawNames 4 (nmE (k0 (svS (s0 (b1S s))))) && chkVar kinds lawNames 5 (nmE (k1 (svS (s0 (b1S s))))))))))
theorem c_forall {t t' i i' : PySem.Expr} {a a' b b' : List PySem.Stmt} {p : Pos} (h1 : t = t') (h2 : i = i') (h3 : a = a') (h4 : b = b') : PySem.Stmt.For t i a b p = .For t' i' a' b' p := by rw [h1, h2, h3, h4]
theorem isFill_is {kinds : Kinds} {ls : Str} {s : PySem.Stmt} (h : isFill kinds ls s = true) : s = .For (.Name (nmE (stS s)) (stS s).pos) (.Name (nmE (svS s)) (svS s).pos) [.Assign [.Subscript (.Name ls (k0 (x0 (tsS (s0 (b1S s))))).pos) (.Name (nmE (k1 (x0 (tsS (s0 (b1S s)))))) (k1 (x0 (tsS (s0 (b1S s))))).pos) (x0 (tsS (s0 (b1S s)))).pos] (.Subscript (.Name (nmE (k0 (svS (s0 (b1S s))))) (k0 (svS (s0 (b1S s)))).pos) (.Name (nmE (k1 (svS (s0 (b1S s))))) (k1 (svS (s0 (b1S s)))).pos) (svS (s0 (b1S s))).pos) (s0 (b1S s)).pos] [] s.pos ∧
    chkLoc kinds lawNames 5 (nmE (stS s)) = true ∧ chkVar kinds lawNames 4 (nmE (svS s)) = true ∧ chkVar kinds lawNames 5 (nmE (k1 (x0 (tsS (s0 (b1S s)))))) = true ∧ chkVar kinds lawNames 4 (nmE (k0 (svS (s0 (b1S s))))) = true ∧ chkVar kinds lawNames 5 (nmE (k1 (svS (s0 (b1S s))))) = true :=
  have a := (an (an (an h).1).1).2
  have b := (an (an h).1).2
  have t := (an (an (an b).2).2).1
  have v := (an (an (an b).2).2).2
  have c := (an h).2
  have d := (an (an c).2).2
  ⟨(etaS_at (an (an (an h).1).1).1 rfl).trans (c_forall (e_nm (an (an (an a).2).2).1) (e_nm (an (an (an a).2).2).2)
    ((one_is default (an (an a).2).1).trans (c_one' ((etaS_at (an b).1 rfl).trans (c_asg ((one_is default (an (an b).2).1).trans (c_one ((e_sub (an t).1).trans (c_sub ((e_nm (an (an t).2).1).trans (by rw [dk (an c).1])) (e_nm (an (an t).2).2)))))
      ((e_sub (an v).1).trans (c_sub (e_nm (an (an v).2).1) (e_nm (an (an v).2).2))))))) (nil_is (an a).1)),
    (an (an c).2).1, (an d).1, (an (an d).2).1, an (an (an d).2).2⟩
noncomputable def isPut (kinds : Kinds) (ls : Str) (k : List Nat) (f : Nat) (s : PySem.Stmt) : Bool := (sq 1 s && (one (tsS s) && ((tq 4 (x0 (tsS s)) && (tq 1 (k0 (x0 (tsS s))) && tq 0 (k1 (x0 (tsS s))))) && tq 1 (svS s)))) && (decide (nmE (k0 (x0 (tsS s))) = ls) && (decide (cE (k1 (x0 (tsS s))) = .str (mkS k)) && chkE fnames kinds lawNames (.fn f) (svS s)))
theorem isPut_is {kinds : Kinds} {ls : Str} {k : List Nat} {f : Nat} {s : PySem.Stmt} (h : isPut kinds ls k f s = true) : s = .Assign [.Subscript (.Name ls (k0 (x0 (tsS s))).pos) (.Constant (.str (mkS k)) (kE (k1 (x0 (tsS s)))) (k1 (x0 (tsS s))).pos) (x0 (tsS s)).pos] (.Name (nmE (svS s)) (svS s).pos) s.pos ∧ chkE fnames kinds lawNames (.fn f) (.Name (nmE (svS s)) (svS s).pos) = true :=
  have a := (an (an h).1).2
  have b := (an (an a).2).1
  have c := (an h).2
  have n := e_nm (an (an a).2).2
  ⟨(etaS_at (an (an h).1).1 rfl).trans (c_asg ((one_is default (an a).1).trans (c_one ((e_sub (an b).1).trans (c_sub ((e_nm (an (an b).2).1).trans (by rw [dk (an c).1])) (e_const (an (an b).2).2 (dk (an (an c).2).1)))))) n),
    (congrArg (chkE fnames kinds lawNames (.fn f)) n).symm.trans (an (an c).2).2⟩
noncomputable def isS1 (kinds : Kinds) (s : PySem.Stmt) : Bool := (bindsN s && tq 4 (svS s)) && (chkLoc kinds lawNames 0 (nmE (x0 (tsS s))) && (isHead kinds (k0 (svS s)) && isTail (k1 (svS s))))
noncomputable def bs (body : List PySem.Stmt) (i : Nat) : PySem.Stmt := body.getD i default
noncomputable def isS4 (kinds : Kinds) (s : PySem.Stmt) : Bool := bindsN s && (chkLoc kinds lawNames 3 (nmE (x0 (tsS s))) && isDlCall kinds (svS s))
noncomputable def isLaw (kinds : Kinds) (b : List PySem.Stmt) : Bool := Nat.beq b.length 11 && (((isS1 kinds (bs b 0) && chkSs fnames kinds lawNames 99 lawStart [bs b 1, bs b 2]) && (chkS fnames kinds lawNames 99 (.asg 4 (.call 44 [])) (bs b 4) && chkSs fnames kinds lawNames 99 lawEnd [bs b 9, bs b 10])) &&
  ((isS4 kinds (bs b 3) && isFill kinds (nmE (x0 (tsS (bs b 3)))) (bs b 5)) && (isPut kinds (nmE (x0 (tsS (bs b 3)))) [115, 104, 111, 119] 75 (bs b 6) && (isPut kinds (nmE (x0 (tsS (bs b 3)))) [97, 115, 115, 111, 99, 115] 76 (bs b 7) && isPut kinds (nmE (x0 (tsS (bs b 3)))) [110, 117, 108, 108] 77 (bs b 8)))))

section
variable {prog : Program} {w : World} {A : Around} {s : Shared} {renv : Env} {mg mb m : Str → Option Value} {h : Heap} {ds : List Rec}

theorem law_body {body : List PySem.Stmt} {l : Addr} {vs : List Value} {ns : List Int} (B : Base mg mb h ds) (hc : chkRecs ds = true) (hb : isLaw renv.scope.names body = true)
    (hf : renv.scope.kind = .function) (hg : renv.globals = mainGlobals) (hbl : renv.builtins = builtinsNs) (k1 : ∀ b o, h.get? b = some o → s.heap.get? b = some o) (hm : s.heap.Ns renv.locals m) (hL0 : h.get? renv.locals = none) (hcl : ∀ nm, renv.cells.lookup nm = none)
    (hv : m "script" = some (.ref l)) (hl : s.heap.IsList l vs.toArray) (hi : IntsAre vs ns) (hz : vs.length ≤ 1000) (rm : Room 60 A) :
    wpAny (model prog w) A (execs body renv) (fun f s' => f = .ret (.bool true) ∧ (∀ b o, h.get? b = some o → s'.heap.get? b = some o) ∧ s'.gens = s.gens ∧ s'.os = s.os) NoE s := by
  have hb2 := (an hb).2
  have eb : body = [bs body 0, bs body 1, bs body 2, bs body 3, bs body 4, bs body 5, bs body 6, bs body 7, bs body 8, bs body 9, bs body 10] := (list_is default body).trans (by rw [Nat.eq_of_beq_eq_true (an hb).1]; rfl)
  rw [eb]
  generalize bs body 0 = s1, bs body 1 = s2, bs body 2 = s3, bs body 3 = s4, bs body 4 = s5, bs body 5 = s6, bs body 6 = s7, bs body 7 = s8, bs body 8 = s9, bs body 9 = s10, bs body 10 = s11 at hb2
  clear eb hb
  have h1 := (an (an (an hb2).1).1).1
  have b1 := (an (an (an hb2).1).1).2
  have b5 := (an (an (an hb2).1).2).1
  have g4 := (an (an (an hb2).1).2).2
  have h4 := (an (an (an hb2).2).1).1
  have gf := (an (an (an hb2).2).1).2
  have gp := (an (an hb2).2).2
  clear hb2
  have a1 := (an (an h1).2).1
  obtain ⟨eh, a3, a5⟩ := isHead_is (an (an (an h1).2).2).1
  have es1 := (b_names (an (an h1).1).1).trans (c_asg rfl ((e_sub (an (an h1).1).2).trans (c_sub eh (isTail_is (an (an (an h1).2).2).2))))
  have b2 := (an (an h4).2).1
  obtain ⟨ed, b4⟩ := isDlCall_is (an (an h4).2).2
  have es4 := (b_names (an h4).1).trans (c_asg rfl ed)
  obtain ⟨es6, e1, e2, e4, e5, e6⟩ := isFill_is gf
  obtain ⟨es7, g1⟩ := isPut_is (an gp).1
  obtain ⟨es8, g2⟩ := isPut_is (an (an gp).2).1
  obtain ⟨es9, g3⟩ := isPut_is (an (an gp).2).2
  rw [es1, es4, es6, es7, es8, es9]
  obtain ⟨l1, l2, l3⟩ := loc_is a1
  refine wpAny_execs_cons (wpAny_Assign_Name (deck_eval hf hg hbl (B.g.keeps k1) (B.b.keeps k1) B.list.1 B.list.2 (isGlob_is a3).1 a5 (by decide) hm hv hl hi hz fun h' tk D us ms lD ims hz' hle kp => ?_) rfl)
  let C : Cx := ⟨prog, w, mg, mb, h, some D, fnames, s.gens, s.os⟩
  have i := law_frame (prog := prog) (w := w) (mg := mg) (mb := mb) (tk := tk) hf hg hbl k1 hm hL0 hcl lD ims hz' hle kp
  have hD0 : ∀ a, C.D = some a → C.h₀.get? a = none := fun a z => by
    cases z
    show h.get? D = none
    cases g : h.get? D with
    | none => rfl
    | some o => have := k1 D o g; rw [new_none hle] at this; cases this
  have L : Lib C := mkLib (C := C) B rfl hc hD0
  refine SI.storeM (C := C) (y := 0) (d := .deck) i (by decide) l1 l2 (by decide) (by simp only [Rep]; exact ⟨D, rfl, rfl⟩) (hm.keeps kp) fun s₃ i₃ hm₃ c₃ => ?_
  obtain ⟨d, hd, di, hk⟩ := Base.def (C := C) B rfl hc (f := 36) (fr := ⟨"declaration_listers", [], [], 99, []⟩) rfl (by decide)
  simp only [chkRec, Bool.and_eq_true] at hk
  have h2 := hk.2
  rw [if_neg (by decide), if_pos (by decide)] at h2
  obtain ⟨fv, hfv, hcall⟩ := dl_call (C := C) (n := 59) L.O L.lim di rfl h2
  obtain ⟨af, of, fdf, q1, q2, q3⟩ := L.O.fn 36 "declaration_listers" rfl
  have hfe : fv = .ref af := by rw [q1] at hfv; exact (Option.some.inj hfv).symm
  refine wpAny_mono (law_rest (C := C) L rfl b1 b2 b4 ⟨fv, hfv, ⟨af, of, fdf, hfe, q2, q3⟩, hcall⟩ b5 e1 e2 e4 e6 e5 g1 g2 g3 g4 rm (fun b => Iff.rfl) i₃) (fun f s' p => ?_) fun _ _ e => e
  obtain ⟨v, rfl, rfl, st⟩ := p
  exact ⟨rfl, st.keep, st.gens, st.os⟩
end

/-! the top: defs and texts for __name__ -/
noncomputable def triple (x : Pos × Value) : List Value := [rawInt x.1.line, rawInt x.1.col, x.2]
noncomputable def posOff (p : Pos) (x : Pos) : Bool := !(x.line == p.line && x.col == p.col)
theorem among_none {p : Pos} : ∀ (l : List (Pos × Value)), (∀ x ∈ l, posOff p x.1 = true) → codeAmong p (l.flatMap triple) = none
  | [], _ => rfl
  | x :: l, h => by
    have h1 := h x List.mem_cons_self
    have h2 := among_none l fun y hy => h y (List.mem_cons_of_mem _ hy)
    simp only [posOff, Bool.not_eq_true'] at h1
    show codeAmong p (.int (x.1.line : Int) 0 :: .int (x.1.col : Int) 0 :: x.2 :: l.flatMap triple) = none
    unfold codeAmong
    have e : ((x.1.line : Int) == (p.line : Int) && (x.1.col : Int) == (p.col : Int)) = false := by
      rw [← h1]
      congr 1
      · rw [Bool.eq_iff_iff, beq_iff_eq, beq_iff_eq]; omega
      · rw [Bool.eq_iff_iff, beq_iff_eq, beq_iff_eq]; omega
    rw [e]
    exact h2

noncomputable def DefMade (N : Nat) (mg : Str → Option Value) (h : Heap) (d : DefItem) : Prop :=
  ∃ a c' pm doc, N ≤ a ∧ N ≤ c' ∧ mg d.name = some (.ref a) ∧ h.get? a = some { cls := .type "function", data := .func (docDef d.name d.params d.body d.scope pm (.ref c') doc) } ∧ h.CodeRec (.ref c') d.name

/-- what stands in the middle of the top -/
structure TI (h₀ : Heap) (mg₀ : Str → Option Value) (c Pl : Addr) (h : Heap) (mg : Str → Option Value) (ps : Array Value) (done : List DefItem) : Prop where
  main : h.Main mg c Pl ps
  keep : ∀ b o, b ≠ Pl → b ≠ mainGlobals → h₀.get? b = some o → h.get? b = some o
  made : ∀ d ∈ done, DefMade h₀.objs.size mg h d
  others : ∀ x, x ∉ done.map (·.name) → x ≠ ("__name__" : Str) → mg x = mg₀ x
  named : ∀ d ∈ done, d.name ≠ ("__name__" : Str)
  places : ∃ l : List (Pos × Value), ps.toList = l.flatMap triple ∧ ∀ x ∈ l, ∃ d ∈ done, x.1 = d.pos
  grows : h₀.objs.size ≤ h.objs.size
  lowP : Pl < h₀.objs.size
  lowG : mainGlobals < h₀.objs.size

noncomputable def plainArgs (a : Arguments) : Bool := a.posonlyargs.isEmpty && a.vararg.isNone && a.kwonlyargs.isEmpty && a.kw_defaults.isEmpty && a.kwarg.isNone && a.defaults.isEmpty && a.args.all fun x => x.annotation.isNone
theorem ann_none : ∀ (l : List Arg) (e : Env), (l.all fun x => x.annotation.isNone) = true → annotationsOf l e = []
  | [], _, _ => rfl
  | ⟨nm, an, p⟩ :: l, e, h => by
    simp only [List.all_cons, Bool.and_eq_true, Option.isNone_iff_eq_none] at h
    obtain ⟨rfl, h2⟩ := h
    exact ann_none l e (by simpa using h2)
theorem plain_args {a : Arguments} (h : plainArgs a = true) : a.kwonlyargs = [] ∧ a.kw_defaults = [] ∧ a.defaults = [] ∧ ∀ e, annTrees a none e = [] := by
  obtain ⟨po, ar, va, ko, kd, kw, df⟩ := a
  simp only [plainArgs, Bool.and_eq_true, List.isEmpty_iff, Option.isNone_iff_eq_none] at h
  obtain ⟨⟨⟨⟨⟨⟨rfl, rfl⟩, rfl⟩, rfl⟩, rfl⟩, rfl⟩, h7⟩ := h
  refine ⟨rfl, rfl, rfl, fun e => ?_⟩
  show annotationsOf (ar ++ [] ++ [] ++ [] ++ []) e ++ [] = []
  simp only [List.append_nil]
  exact ann_none ar e h7

/-- a statement of such a top -/
inductive TopSt (names : List (Str × NameKind)) : Stmt → Option DefItem → Prop
  | df {name : Str} {params : Arguments} {body : List Stmt} {scope : Scope} {pos : Pos} : plainArgs params = true → (∀ x ∈ scope.names, x.2 ≠ .free) → names.lookup name = some .local → name ≠ ("__builtins__" : Str) → name ≠ ("__name__" : Str) →
      TopSt names (.FunctionDef name params body [] none [] scope none name pos) (some ⟨name, params, body, scope, pos⟩)
  | nm {p : Pos} {t : Str} {k : Nat} {q pos : Pos} : names.lookup ("__name__" : Str) = some .local → TopSt names (.Assign [.Name ("__name__" : Str) p] (.Constant (.str t) k q) pos) none
inductive TopSts (names : List (Str × NameKind)) : List Stmt → List DefItem → Prop
  | nil : TopSts names [] []
  | df {st : Stmt} {d : DefItem} {sts : List Stmt} {ds : List DefItem} : TopSt names st (some d) → TopSts names sts ds → TopSts names (st :: sts) (d :: ds)
  | nm {st : Stmt} {sts : List Stmt} {ds : List DefItem} : TopSt names st none → TopSts names sts ds → TopSts names (st :: sts) ds

section
variable {M : Model} {A : Around} {E : Value → Shared → Prop} {prog : Program} {c Pl F : Addr} {h₀ : Heap} {mg₀ : Str → Option Value} {Q : Flow → Shared → Prop}

theorem DefMade.keep {N : Nat} {mg mg' : Str → Option Value} {h h' : Heap} {d : DefItem} (x : DefMade N mg h d) (hm : mg' d.name = mg d.name) (hk : ∀ b o, N ≤ b → h.get? b = some o → h'.get? b = some o) : DefMade N mg' h' d := by
  obtain ⟨a, c', pm, doc, h1, h2, h3, h4, h5⟩ := x
  exact ⟨a, c', pm, doc, h1, h2, hm.trans h3, hk _ _ h1 h4, h5.at fun o => hk _ o h2⟩

/-- what the walk over a rest of the top gives -/
noncomputable def Walks (M : Model) (A : Around) (E : Value → Shared → Prop) (prog : Program) (c Pl F : Addr) (h₀ : Heap) (mg₀ : Str → Option Value) (Q : Flow → Shared → Prop) (sts : List Stmt) (ds : List DefItem) : Prop :=
  ∀ (done : List DefItem) (s : Shared) (mg : Str → Option Value) (ps : Array Value), (done.reverse ++ ds).Pairwise (fun a b => a.name ≠ b.name ∧ posOff b.pos a.pos = true) → TI h₀ mg₀ c Pl s.heap mg ps done →
    (∀ h' mg' ps' tk, TI h₀ mg₀ c Pl h' mg' ps' (ds.reverse ++ done) → Q .next { s with heap := h', toks := tk }) →
    wpAny M A (execs sts (mainEnv prog c F)) Q E s
theorem walk_df (hmod : prog.main.scope.kind = .module) {name : Str} {params : Arguments} {body : List Stmt} {scope : Scope} {pos : Pos} {sts : List Stmt} {ds : List DefItem} (h1 : plainArgs params = true) (h2 : ∀ x ∈ scope.names, x.2 ≠ .free)
    (h3 : prog.main.scope.names.lookup name = some .local) (h4 : name ≠ ("__builtins__" : Str)) (h5 : name ≠ ("__name__" : Str)) (ih : Walks M A E prog c Pl F h₀ mg₀ Q sts ds) :
    Walks M A E prog c Pl F h₀ mg₀ Q (.FunctionDef name params body [] none [] scope none name pos :: sts) (⟨name, params, body, scope, pos⟩ :: ds) := by
  intro done s mg ps hp X k
  obtain ⟨e1, e2, e3, e4⟩ := plain_args h1
  have hp0 := hp
  rw [List.pairwise_append] at hp
  obtain ⟨_, _, hcross⟩ := hp
  have hoff : ∀ d ∈ done, d.name ≠ name ∧ posOff pos d.pos = true := fun d hd => hcross d (List.mem_reverse.mpr hd) _ List.mem_cons_self
  have hq : qualnameIn { scope := prog.main.scope, locals := mainGlobals, globals := mainGlobals, cells := [] } name name = name := by
    unfold qualnameIn
    split
    · rfl
    · show (Str.ofString "" : Str) ++ name = name
      apply Str.ext'
      rw [Str.cps_append, show (Str.ofString "").cps = #[] from by decide +kernel]
      simp
  refine wpAny_execs_cons (wpAny_defStmt0 (mg := mg) (Pl := Pl) (ps := ps) e1 e2 (by rw [e3]; intro e he; cases he) (e4 _) h2 h3 hq X.main (fun a c' doc dV vs h' tk ha hm hf hcv hD hcd keep => ?_) h4 hmod ?_)
  · have hdv : dV = .none := by
      rw [e3] at hcv
      rcases hD with ⟨_, e⟩ | ⟨hne, _⟩
      · exact e
      · cases vs with
        | nil => exact absurd rfl hne
        | cons v vs => exact hcv.elim
    subst hdv
    have haN : h₀.objs.size ≤ a := Nat.le_trans X.grows ha
    have keep' : ∀ b o, h₀.objs.size ≤ b → s.heap.get? b = some o → h'.get? b = some o := fun b o hb => keep b o (Nat.ne_of_gt (Nat.lt_of_lt_of_le X.lowP hb)) (Nat.ne_of_gt (Nat.lt_of_lt_of_le X.lowG hb))
    refine ih (⟨name, params, body, scope, pos⟩ :: done) _ _ _ (by simpa using hp0) ⟨hm, fun b o hb hg e => keep b o hb hg (X.keep b o hb hg e), ?_, ?_, ?_, ?_, Nat.le_trans haN (Nat.le_of_lt (Heap.lt_size hf)), X.lowP, X.lowG⟩ (fun h'' mg' ps' tk' Y => k h'' mg' ps' tk' (by simpa using Y))
    · intro d hd
      rcases List.mem_cons.mp hd with rfl | hd
      · exact ⟨a, c', _, doc, haN, Nat.le_trans X.grows hcd.1, if_pos rfl, hf, hcd.2⟩
      · exact (X.made d hd).keep (if_neg (hoff d hd).1) keep'
    · intro x hx hn
      simp only [List.map_cons, List.mem_cons, not_or] at hx
      show (if x = name then _ else mg x) = _
      rw [if_neg hx.1]
      exact X.others x hx.2 hn
    · intro d hd
      rcases List.mem_cons.mp hd with rfl | hd
      · exact h5
      · exact X.named d hd
    · obtain ⟨l, el, hl⟩ := X.places
      refine ⟨l ++ [(pos, .ref c')], by simp [el, triple], fun x hx => ?_⟩
      rcases List.mem_append.mp hx with hx | hx
      · obtain ⟨d, hd, e⟩ := hl x hx
        exact ⟨d, List.mem_cons_of_mem _ hd, e⟩
      · simp only [List.mem_singleton] at hx
        subst hx
        exact ⟨_, List.mem_cons_self, rfl⟩
  · obtain ⟨l, el, hl⟩ := X.places
    rw [el]
    refine among_none l fun x hx => ?_
    obtain ⟨d, hd, e⟩ := hl x hx
    rw [e]; exact (hoff d hd).2
theorem walk_nm (hmod : prog.main.scope.kind = .module) {p : Pos} {t : Str} {kk : Nat} {q pos : Pos} {sts : List Stmt} {ds : List DefItem} (h3 : prog.main.scope.names.lookup ("__name__" : Str) = some .local) (ih : Walks M A E prog c Pl F h₀ mg₀ Q sts ds) :
    Walks M A E prog c Pl F h₀ mg₀ Q (.Assign [.Name ("__name__" : Str) p] (.Constant (.str t) kk q) pos :: sts) ds := by
  intro done s mg ps hp X k
  refine wpAny_execs_cons (wpAny_Assign_Name (wpAny_eval_const rfl fun v tk hv => ?_) rfl)
  refine wpAny_storeName_local (env := mainEnv prog c F) h3 X.main.g (fun h' hg' hs' => ?_)
    (by show (prog.main.scope.kind == .class || (prog.main.scope.kind == .module && mainGlobals != mainGlobals)) = false; rw [hmod]; rfl)
  obtain ⟨bm, o, hbm, hne0, hneG, hneP, hbo, hrest⟩ := X.main.bmod
  refine ih done _ (fun y => if y = ("__name__" : Str) then some v else mg y) ps hp ⟨⟨hg', X.main.code.sameBut hs' (Nat.ne_of_gt X.main.low.1) (Nat.ne_of_gt X.main.low.2), X.main.low, ⟨bm, o, ?_, hne0, hneG, hneP, (hs'.2 _ hneG).trans hbo, hrest⟩⟩,
    fun b o hb hg e => (hs'.2 _ hg).trans (X.keep b o hb hg e), fun d hd => (X.made d hd).keep (if_neg (X.named d hd)) fun b o hb e => (hs'.2 _ (Nat.ne_of_gt (Nat.lt_of_lt_of_le X.lowG hb))).trans e, fun x hx hn => ?_, X.named, X.places, Nat.le_trans X.grows (Nat.le_of_eq hs'.1.symm), X.lowP, X.lowG⟩ (fun h'' mg' ps' tk' Y => k h'' mg' ps' tk' Y)
  · show (if ("__builtins__" : Str) = ("__name__" : Str) then _ else mg _) = _
    rw [if_neg (by decide)]; exact hbm
  · show (if x = ("__name__" : Str) then _ else mg x) = _
    rw [if_neg hn]
    exact X.others x hx hn
theorem top_walk (hmod : prog.main.scope.kind = .module) {sts : List Stmt} {ds : List DefItem} (h : TopSts prog.main.scope.names sts ds) : Walks M A E prog c Pl F h₀ mg₀ Q sts ds := by
  induction h with
  | nil => exact fun done s mg ps _ X k => wpAny_execs_nil (k s.heap mg ps s.toks X)
  | df h1 _ ih =>
    cases h1 with
    | df h1 h2 h3 h4 h5 => exact walk_df hmod h1 h2 h3 h4 h5 ih
  | nm h1 _ ih =>
    cases h1 with
    | nm h3 => exact walk_nm hmod h3 ih
end

/-- a tree that ends well is run to its end by the scheduler -/
theorem reach_through {prog : Program} {w : World} {t : Sem Fin} {s : Shared} {R : Shared → Prop} (hreg : s.asleep)
    (h : wpAny (model prog w) callerA t (fun fin s' => ∃ f, fin = .done f ∧ R s' ∧ s'.gens = #[]) (fun _ _ => False) s) :
    ∃ n σ th, schedN (denote table) prog w n (.single s ⟨t, .builtin "claim.caller" {}, default, []⟩) = .running (.single σ th) ∧ through th = true ∧ R σ ∧ σ.gens = #[] ∧ σ.heap.life = s.heap.life := by
  obtain ⟨n, s', σ, p', leaf, hr, hfo, hl⟩ := wp_reaches (M := model prog w) (h _ default caller_in)
  rcases hl with ⟨a, rfl, f, rfl, hR, hg⟩ | ⟨e, _, hF⟩
  rotate_left
  · exact hF.elim
  obtain rfl := Shared.eq_of_forget_eq hfo hg
  have h2 := wp_of_wpAny_done (R := fun r s' => True ∧ leftWithCleanup s'.gens = false) caller_in
    (wpAny_mono h (fun fin s' ⟨f, e, _, hg⟩ => ⟨f, e, trivial, by rw [hg]; simp [leftWithCleanup]⟩) fun _ _ x => x.elim) default
  obtain ⟨m, r, s2, hm, _⟩ := (wp_iff_halts (M := model prog w) _ (fun _ _ => True) _ _).mp h2
  obtain ⟨s3, h3, _, hc⟩ := runNI_real (denote table) prog w hm (outcomeOf_ends r)
  have hseq : Sequential (denote table) prog w s ⟨t, .builtin "claim.caller" {}, default, []⟩ := by
    refine ⟨hc, fun k s4 e => ?_⟩
    have a1 := runN_mono (denote table) prog w k m _ _ _ _ e
    have a2 := runN_mono (denote table) prog w m k _ _ _ _ h3
    rw [Nat.add_comm] at a2
    rw [a1] at a2
    cases r <;> cases a2
  refine ⟨n, σ, _, (schedN_eq_runN (denote table) prog w _ _ hreg hseq n).trans (congrArg Run.lift hr), rfl, hR, hg, runN_life_running hr⟩

/-- after an opening without imports -/
theorem opening_left {p : Program} {w : World} (hb : (opening p).main.body = []) (hmore : (opening p).main.more = []) :
    (∃ s, AfterRun (opening p) w s) ∧ ∀ s, AfterRun (opening p) w s → (∃ mb mg c Pl, BootLeft s.heap mb mg c Pl) ∧ s.gens = #[] ∧ s.asleep := by
  have h := AfterImport.of_body (prog := opening p) (w := w) (P := fun s => (∃ mb mg c Pl, BootLeft s.heap mb mg c Pl) ∧ s.gens = #[]) (out := #[]) (fun hp tk mb mg c Pl F B => by
    rw [hb]
    refine codeAny_body rfl rfl (wpAny_mono (E := fun _ _ => False) (wpAny_execs_nil (Q := fun f s' => f = .next ∧ s' = ⟨hp, #[], {}, tk, (start (opening p)).1.os⟩) ⟨rfl, rfl⟩) (fun f s' x => ?_) fun _ _ x => x.elim)
    obtain ⟨rfl, rfl⟩ := x
    exact ⟨⟨_, rfl⟩, .of B (fun b o _ _ e => e) B.g, ⟨⟨mb, mg, c, Pl, B⟩, rfl⟩, rfl⟩) hmore
  exact ⟨h.1, fun s hs => ⟨(h.2 s hs).1, (h.2 s hs).2, AfterImport.life hs⟩⟩

/-- what stands behind the top -/
structure TopLeft (s₀ s₁ : Shared) (mb mg₀ mg : Str → Option Value) (ds : List DefItem) : Prop where
  g : s₁.heap.Ns mainGlobals mg
  keep : ∀ b o, b ≠ mainGlobals → s₀.heap.get? b = some o → s₁.heap.get? b = some o
  made : ∀ d ∈ ds, ∃ a c' pm doc, mg d.name = some (.ref a) ∧ s₁.heap.get? a = some { cls := .type "function", data := .func (docDef d.name d.params d.body d.scope pm (.ref c') doc) } ∧ s₁.heap.CodeRec (.ref c') d.name
  others : ∀ x, x ∉ ds.map (·.name) → x ≠ ("__name__" : Str) → mg x = mg₀ x
  low : sysModules < s₀.heap.objs.size

theorem top_ran {p : Program} {w : World} {s₀ : Shared} {mb mg₀ : Str → Option Value} {c₀ Pl₀ : Addr} {ds : List DefItem} (B : BootLeft s₀.heap mb mg₀ c₀ Pl₀) (hg : s₀.gens = #[]) (hz : s₀.asleep) (hmod : p.main.scope.kind = .module)
    (hann : hasAnns (behindTheImports p) = false) (hdoc : docOf (behindTheImports p) = none) (hs : TopSts p.main.scope.names (behindTheImports p) ds) (hp : ds.Pairwise (fun a b => a.name ≠ b.name ∧ posOff b.pos a.pos = true))
    (hbound : ∀ d ∈ ds, d.name ∈ p.boundNames) (hlaid : ∀ d ∈ ds, d.name ∉ laidNames ∧ d.name ≠ ("__builtins__" : Str)) :
    ∃ s₁ mg, TopRan p w s₀ s₁ ∧ s₁.gens = #[] ∧ s₁.asleep ∧ TopLeft s₀ s₁ mb mg₀ mg ds := by
  have run : wpAny (model p w) callerA (topStub p).cur (fun fin s' => ∃ f, fin = .done f ∧ (s'.os = s₀.os ∧ ∃ mg, TopLeft s₀ s' mb mg₀ mg ds) ∧ s'.gens = #[]) (fun _ _ => False) s₀ := by
    refine wpAny_bind (wpAny_moduleCode fun c Pl h₁ tk hk hc hP hcode => ?_)
    refine wpAny_bind ?_
    unfold newBodyFrame
    refine wpAny_bind (wpAny_nsGet (B.g.keeps hk) (wpAny_alloc ?_))
    refine wpAny_bind (wpAny_run (codeAny_body hann hdoc ?_))
    obtain ⟨bm, o, b1, b2, b3, b4, b5, b6⟩ := B.bmod
    have hbm : bm < s₀.heap.objs.size := Heap.lt_size b5
    have hgl := B.g.lt
    have hsz : s₀.heap.objs.size ≤ h₁.objs.size := Nat.le_of_lt (Nat.lt_of_le_of_lt hc hcode.lt.1)
    have e1 : (h₁.push { cls := .type "frame", slots := #[some (.ref c), some (.ref mainNs), some (.ref mainNs), none, some ((mg₀ "__name__").getD .none), none, some (.ref builtinsNs)] }).objs.size = h₁.objs.size + 1 := Heap.size_push _ _
    refine top_walk (Q := fun f s' => _) (h₀ := h₁.push { cls := .type "frame", slots := #[some (.ref c), some (.ref mainNs), some (.ref mainNs), none, some ((mg₀ "__name__").getD .none), none, some (.ref builtinsNs)] }) (mg₀ := mg₀) (c := c) (Pl := Pl) hmod hs [] _ mg₀ #[] (by simpa using hp) ?_ fun h' mg' ps' tk' X => ?_
    · refine ⟨⟨(B.g.keeps hk).push _, hcode.push _, ⟨Nat.lt_of_lt_of_le hgl hc, Nat.lt_of_lt_of_le hgl hP⟩, ⟨bm, o, b1, b2, b3, Nat.ne_of_lt (Nat.lt_of_lt_of_le hbm hP), Heap.get?_push_of_some _ (hk _ _ b5), b6⟩⟩,
        fun b o _ _ e => e, (fun d hd => nomatch hd), fun x _ _ => rfl, (fun d hd => nomatch hd), ⟨[], rfl, fun x hx => nomatch hx⟩, Nat.le_refl _, ?_, ?_⟩
      · rw [e1]; exact Nat.lt_succ_of_lt hcode.lt.2
      · rw [e1]; exact Nat.lt_succ_of_lt (Nat.lt_of_lt_of_le hgl hsz)
    · refine wpAny_pure ⟨_, rfl, ⟨rfl, mg', X.main.g, fun b o hb e => ?_, fun d hd => ?_, fun x hx hn => ?_, ?_⟩, hg⟩
      · have hlt := Heap.lt_size e
        exact X.keep b o (Nat.ne_of_lt (Nat.lt_of_lt_of_le hlt hP)) hb (Heap.get?_push_of_some _ (hk _ _ e))
      · obtain ⟨a, c', pm, doc, _, _, m1, m2, m3⟩ := X.made d (by simpa using hd)
        exact ⟨a, c', pm, doc, m1, m2, m3⟩
      · exact X.others x (by simpa using hx) hn
      · obtain ⟨mm, hmm, _⟩ := B.noThreading
        exact hmm.lt
  obtain ⟨n, σ, th, hsch, hth, ⟨hos, mg, T⟩, hgens, hlife⟩ := reach_through hz run
  have hst : cStatics ≠ mainGlobals := by decide
  obtain ⟨os, eos, epos, hso, hsr⟩ := B.statics
  have stat : σ.heap.Ns cStatics (fun _ => none) := ⟨os, eos, epos, T.keep _ _ hst hso, hsr⟩
  have bl : σ.heap.Ns builtinsNs mb := by
    obtain ⟨o, es, ep, ho, r⟩ := B.b
    exact ⟨o, es, ep, T.keep _ _ (by decide) ho, r⟩
  refine ⟨σ, mg, ⟨⟨n, th, hsch, hth⟩, hlife, Shared.rest_eq hos, fun b o e hn => T.keep b o (fun z => hn (.inl z)) e, fun key v hv => ?_, fun key => .inl ?_, Pin.keysAreStrs_of_ns T.g, fun x hx => ?_, ?_, ?_, fun x v hv => ?_, fun x hx => ?_⟩, hgens, Shared.asleep_of_life hlife hz, T⟩
  · rw [Pin.staticOf_of_ns stat] at hv; cases hv
  · rw [Pin.staticOf_of_ns stat, Pin.staticOf_of_ns B.statics]
  · rw [Pin.builtinOf_of_ns bl]; exact B.builtins x hx
  · obtain ⟨bm, o, b1, b2, b3, b4, b5, b6, b7, b8⟩ := B.bmod
    refine ⟨bm, o, ?_, T.keep _ _ b3 b5, b6, b7⟩
    rw [Claim2Try.globalOf_of_ns T.g, T.others _ (fun z => ?_) (by decide)]
    · exact b1
    · obtain ⟨d, hd, e⟩ := List.mem_map.mp z
      exact (hlaid d hd).2 e
  · intro g hgm; rw [hgens] at hgm; simp at hgm
  · rw [Claim2Try.globalOf_of_ns T.g] at hv
    by_cases hx : x ∈ ds.map (·.name)
    · obtain ⟨d, hd, e⟩ := List.mem_map.mp hx
      exact .inr (e ▸ hbound d hd)
    · by_cases hn : x = ("__name__" : Str)
      · exact .inl (by rw [hn]; decide)
      · rw [T.others x hx hn] at hv
        by_cases hb : x ∈ bootMainNames
        · exact .inl hb
        · rw [B.others x hb] at hv; cases hv
  · rw [Claim2Try.globalOf_of_ns T.g, Claim2Try.globalOf_of_ns B.g]
    refine T.others x (fun z => ?_) (fun z => ?_)
    · obtain ⟨d, hd, e⟩ := List.mem_map.mp z
      exact (hlaid d hd).1 (e ▸ hx)
    · subst z; revert hx; decide

noncomputable def fdS (names : List (Str × NameKind)) (st : Stmt) : Option DefItem := @PySem.Stmt.casesOn (fun _ => Option DefItem) st (fun name params body decs ret tps scope ts bind pos => cond (((decs.isEmpty && ret.isNone) && (tps.isEmpty && ts.isNone)) && ((decide (bind = name) && (plainArgs params && scope.names.all (fun x => x.2 != .free))) && (decide (names.lookup name = some .local) && (decide (name ≠ ("__builtins__" : Str)) && decide (name ≠ ("__name__" : Str)))))) (some ⟨name, params, body, scope, pos⟩) none) (fun _ _ _ _ _ _ _ _ _ _ => none) (fun _ _ _ _ _ _ _ _ _ _ _ => none) (fun _ _ => none) (fun _ _ => none) (fun _ _ _ => none) (fun _ _ _ _ _ _ _ => none) (fun _ _ _ _ => none) (fun _ _ _ _ _ => none) (fun _ _ _ _ _ => none) (fun _ _ _ _ _ => none) (fun _ _ _ _ => none) (fun _ _ _ _ => none) (fun _ _ _ => none) (fun _ _ _ => none) (fun _ _ _ => none) (fun _ _ _ => none) (fun _ _ _ _ _ => none) (fun _ _ _ _ _ => none) (fun _ _ _ => none) (fun _ _ => none) (fun _ _ _ _ => none) (fun _ _ => none) (fun _ _ => none) (fun _ _ => none) (fun _ => none) (fun _ => none) (fun _ => none)
theorem cond_some {α : Type} {c : Bool} {a b : α} (h : (cond c (some a) none) = some b) : c = true ∧ a = b := by
  cases c with
  | false => cases h
  | true => exact ⟨rfl, Option.some.inj h⟩
theorem fdS_is {names : List (Str × NameKind)} {st : Stmt} {d : DefItem} (h : fdS names st = some d) : TopSt names st (some d) := by
  cases st with
  | FunctionDef name params body decs ret tps scope ts bind pos =>
    obtain ⟨c, rfl⟩ := cond_some (show cond _ (some _) none = some d from h)
    obtain ⟨c1, c2⟩ := an c
    obtain rfl := nil_is (an (an c1).1).1
    obtain rfl := none_is (an (an c1).1).2
    obtain rfl := nil_is (an (an c1).2).1
    obtain rfl := none_is (an (an c1).2).2
    obtain rfl := dk (an (an c2).1).1
    have k := (an (an c2).1).2
    have l := (an c2).2
    exact .df (an k).1 (fun x hx => by simpa using List.all_eq_true.mp (an k).2 x hx) (dk (an l).1) (dk (an (an l).2).1) (dk (an (an l).2).2)
  | _ => exact none_ne h
noncomputable def strC : Const → Option Str
  | .str t => some t
  | _ => none
theorem strC_is {c : Const} {t : Str} (h : strC c = some t) : c = .str t := by
  cases c with
  | str => cases h; rfl
  | _ => cases h
noncomputable def nmS (names : List (Str × NameKind)) (st : Stmt) : Bool := (sq 1 st && (one (tsS st) && (tq 1 (x0 (tsS st)) && decide (nmE (x0 (tsS st)) = "__name__")))) && ((tq 0 (svS st) && (strC (cE (svS st))).isSome) && decide (names.lookup ("__name__" : Str) = some .local))
theorem nmS_is {names : List (Str × NameKind)} {st : Stmt} (h : nmS names st = true) : TopSt names st none := by
  have a := (an (an h).1).2
  have b := (an (an h).2).1
  have e : st = .Assign [.Name "__name__" (x0 (tsS st)).pos] (.Constant (.str ((strC (cE (svS st))).getD Str.empty)) (kE (svS st)) (svS st).pos) st.pos :=
    (etaS_at (an (an h).1).1 rfl).trans (c_asg ((one_is default (an a).1).trans (c_one ((e_nm (an (an a).2).1).trans (by rw [dk (an (an a).2).2])))) (e_const (an b).1 (strC_is (some_is Str.empty (an b).2))))
  rw [e]
  exact .nm (dk (an (an h).2).2)
noncomputable def stItems (names : List (Str × NameKind)) : List Stmt → Option (List DefItem)
  | [] => some []
  | st :: sts => (stItems names sts).elim none fun ds => (fdS names st).elim (cond (nmS names st) (some ds) none) fun d => some (d :: ds)
theorem stItems_ok {names : List (Str × NameKind)} : ∀ {sts : List Stmt} {ds : List DefItem}, stItems names sts = some ds → TopSts names sts ds
  | [], ds, h => by cases h; exact .nil
  | st :: sts, ds, h => by
    cases h2 : stItems names sts with
    | none => rw [stItems, h2] at h; cases h
    | some ds' =>
      cases h1 : fdS names st with
      | none =>
        rw [stItems, h2, h1] at h
        obtain ⟨c, rfl⟩ := cond_some (show cond (nmS names st) (some ds') none = some ds from h)
        exact .nm (nmS_is c) (stItems_ok h2)
      | some d =>
        rw [stItems, h2, h1] at h
        cases h
        exact .df (fdS_is h1) (stItems_ok h2)

noncomputable def theDefs : List DefItem := (stItems PySem.Challenge.pw_pb0022_01.main.scope.names (behindTheImports PySem.Challenge.pw_pb0022_01)).getD []
noncomputable def pairOff (a b : DefItem) : Bool := a.name != b.name && posOff b.pos a.pos
noncomputable def allPairs : List DefItem → Bool
  | [] => true
  | a :: l => l.all (pairOff a) && allPairs l
theorem allPairs_ok : ∀ {l : List DefItem}, allPairs l = true → l.Pairwise (fun a b => a.name ≠ b.name ∧ posOff b.pos a.pos = true)
  | [], _ => .nil
  | a :: l, h => by
    simp only [allPairs, Bool.and_eq_true, List.all_eq_true] at h
    refine .cons (fun b hb => ?_) (allPairs_ok h.2)
    have := h.1 b hb
    simp only [pairOff, Bool.and_eq_true, bne_iff_ne] at this
    exact this
set_option maxRecDepth 100000 in
theorem defs_are : (stItems PySem.Challenge.pw_pb0022_01.main.scope.names (behindTheImports PySem.Challenge.pw_pb0022_01)).isSome = true := by decide +kernel
set_option maxRecDepth 100000 in
theorem defs_apart : allPairs theDefs = true := by decide +kernel
set_option maxRecDepth 100000 in
theorem defs_bound : (theDefs.all fun d => PySem.Challenge.pw_pb0022_01.boundNames.contains d.name && !laidNames.contains d.name && d.name != ("__builtins__" : Str)) = true := by decide +kernel
set_option maxRecDepth 100000 in
theorem opens_none : (opening PySem.Challenge.pw_pb0022_01).main.body = [] := by rfl
set_option maxRecDepth 100000 in
theorem no_anns : hasAnns (behindTheImports PySem.Challenge.pw_pb0022_01) = false := by decide +kernel
set_option maxRecDepth 100000 in
theorem opens_well : opensWell PySem.Challenge.pw_pb0022_01 = true := by decide +kernel
/-! the looks at the law, one by one -/
set_option maxRecDepth 100000 in
set_option maxHeartbeats 40000000 in
theorem said_twin : PySem.W.Fast.tw9446332074065402090 PySem.Challenge.rw_pb0022_01 = true := by
  delta PySem.W.Fast.tw9446332074065402090
  repeat ((with_reducible refine look_both ?_ ?_); rotate_left; (· decide +kernel))
  delta PySem.W.Fast.tw17960256430627541270
  repeat ((with_reducible refine look_both ?_ ?_); rotate_left; (· decide +kernel))
  delta PySem.W.Fast.tw2436336058641802641
  repeat ((with_reducible refine look_both ?_ ?_); rotate_left; (· decide +kernel))
  delta PySem.W.Fast.tw12908688711261696721
  repeat ((with_reducible refine look_both ?_ ?_); rotate_left; (· decide +kernel))
  decide +kernel
theorem well_said : PySem.Challenge.rw_pb0022_01.wellSaid = true :=
  (congrFun PySem.W.Fast.te9446332074065402090 PySem.Challenge.rw_pb0022_01).trans said_twin

abbrev PW : Program := PySem.Challenge.pw_pb0022_01
abbrev RO : OpenRow := PySem.Challenge.rw_pb0022_01.row

/-- what the call may lean on -/
structure Behind (h : Heap) (mb mg : Str → Option Value) (ds : List DefItem) : Prop where
  g : h.Ns mainGlobals mg
  b : h.Ns builtinsNs mb
  builtins : ∀ x : Str, x ≠ ("__name__" : Str) → mb x = bootBuiltins x
  lim : h.NoLimit
  made : ∀ d ∈ ds, ∃ a c' pm doc, mg d.name = some (.ref a) ∧ h.get? a = some { cls := .type "function", data := .func (docDef d.name d.params d.body d.scope pm (.ref c') doc) } ∧ h.CodeRec (.ref c') d.name
  others : ∀ x, x ∉ ds.map (·.name) → x ∉ bootMainNames → mg x = none
theorem Behind.keeps {h h' : Heap} {mb mg : Str → Option Value} {ds : List DefItem} (x : Behind h mb mg ds) (hk : ∀ b o, h.get? b = some o → h'.get? b = some o) : Behind h' mb mg ds :=
  ⟨x.g.keeps hk, x.b.keeps hk, x.builtins, x.lim.keeps hk, fun d hd => let ⟨a, c', pm, doc, h1, h2, h3⟩ := x.made d hd; ⟨a, c', pm, doc, h1, hk _ _ h2, h3.keeps hk⟩, x.others⟩

noncomputable abbrev CallGood : Prop := ∀ (w : World) (s s₁ : Shared) (mb mg : Str → Option Value) (a : Addr) (args : List WData) (vs : List Value) (as : List Addr), Behind s₁.heap mb mg theDefs → mg "law" = some (.ref a) → s₁.gens = #[] →
  RO.toRowW.claim.pre args = true → WData.layableAll args = true → ReadsAllW RO.toRowW.records (classAt s.heap) s₁.heap vs args as → WellAll w.params s₁.heap vs args → (∀ a ∈ as, (a == sysModules) = false) →
  wpAny (model PW w) callerA (PySem.call (.ref a) vs) (fun v s' => GoodWG RO.toRowW.claim (classAt s.heap) (ExcName.means s.heap) args s₁ (.ok (.ret v)) s')
    (fun e s' => GoodWG RO.toRowW.claim (classAt s.heap) (ExcName.means s.heap) args s₁ (.error e) s') s₁

theorem filter_gone (n : Str) {names : List (Str × NameKind)} : ∀ {sts : List Stmt} {ds : List DefItem}, TopSts names sts ds → (∀ d ∈ ds, d.name ≠ n) → sts.filter (fun st => match st with | .FunctionDef m .. => m == n | _ => false) = [] := by
  intro sts ds h
  induction h with
  | nil => intro _; rfl
  | df h1 _ ih =>
    intro hn
    cases h1 with
    | df h1 h2 h3 h4 h5 =>
      rw [List.filter_cons_of_neg (by simpa using hn _ List.mem_cons_self)]
      exact ih fun d hd => hn d (List.mem_cons_of_mem _ hd)
  | nm h1 _ ih =>
    intro hn
    cases h1 with
    | nm h3 => exact ih hn
theorem filter_one {names : List (Str × NameKind)} : ∀ {sts : List Stmt} {ds : List DefItem}, TopSts names sts ds → ds.Pairwise (fun a b => a.name ≠ b.name ∧ posOff b.pos a.pos = true) → ∀ d ∈ ds,
    sts.filter (fun st => match st with | .FunctionDef m .. => m == d.name | _ => false) = [.FunctionDef d.name d.params d.body [] none [] d.scope none d.name d.pos] := by
  intro sts ds h
  induction h with
  | nil => intro _ d hd; cases hd
  | df h1 hr ih =>
    intro hp d hd
    cases h1 with
    | df h1 h2 h3 h4 h5 =>
      cases hp with
      | cons hp1 hp2 =>
        rcases List.mem_cons.mp hd with rfl | hd
        · rw [List.filter_cons_of_pos (by simp)]
          rw [filter_gone _ hr fun e he => (hp1 e he).1.symm]
        · rw [List.filter_cons_of_neg (by simpa using (hp1 d hd).1)]
          exact ih hp2 d hd
  | nm h1 _ ih =>
    intro hp d hd
    cases h1 with
    | nm h3 => exact ih hp d hd
theorem theDef_is {p : Program} {ds : List DefItem} (hb : behindTheImports p = p.main.body) (h : TopSts p.main.scope.names (behindTheImports p) ds) (hp : ds.Pairwise (fun a b => a.name ≠ b.name ∧ posOff b.pos a.pos = true)) {d : DefItem} (hd : d ∈ ds) :
    p.theDef d.name = some (d.params, d.body, d.scope) := by
  have e := filter_one h hp d hd
  rw [hb] at e
  unfold Program.theDef
  exact congrArg (fun l : List Stmt => match l with
    | [.FunctionDef _ args body [] _ [] scope _ _ _] => some (args, body, scope)
    | _ => none) e
theorem topSts_plain {names : List (Str × NameKind)} {sts : List Stmt} {ds : List DefItem} (h : TopSts names sts ds) : ∀ d ∈ ds, plainArgs d.params = true := by
  induction h with
  | nil => intro d hd; cases hd
  | df h1 _ ih =>
    intro d hd
    rcases List.mem_cons.mp hd with rfl | hd
    · cases h1 with
      | df h1 h2 h3 h4 h5 => exact h1
    · exact ih d hd
  | nm _ _ ih => exact ih

theorem pw_sts : TopSts PW.main.scope.names (behindTheImports PW) theDefs := by
  refine stItems_ok ?_
  have h := defs_are
  unfold theDefs
  cases e : stItems PySem.Challenge.pw_pb0022_01.main.scope.names (behindTheImports PySem.Challenge.pw_pb0022_01) with
  | none => rw [e] at h; cases h
  | some ds => rfl
theorem pw_apart : theDefs.Pairwise (fun a b => a.name ≠ b.name ∧ posOff b.pos a.pos = true) := allPairs_ok defs_apart
theorem pw_side : ∀ d ∈ theDefs, d.name ∈ PW.boundNames ∧ d.name ∉ laidNames ∧ d.name ≠ ("__builtins__" : Str) := fun d hd => by
  have h := List.all_eq_true.mp defs_bound d hd
  simp only [Bool.and_eq_true, Bool.not_eq_true', bne_iff_ne, List.contains_iff_mem] at h
  refine ⟨h.1.1, fun z => ?_, h.2⟩
  have := h.1.2
  rw [List.contains_iff_mem.mpr z] at this; cases this

theorem holds_of (call : CallGood) (hlaw : ∃ d ∈ theDefs, d.name = ("law" : Str)) (hpr : RO.toRowW.promised) : PySem.Challenge.rw_pb0022_01.Holds := by
  refine holds_law well_said fun hw => ⟨hw, hpr, ?_⟩
  refine ⟨⟨⟨rfl, rfl, rfl, rfl, rfl, by decide +kernel⟩, opens_well, rfl⟩, hpr.witness, fun w => ⟨(opening_left opens_none rfl).1, fun s hs => ?_⟩⟩
  obtain ⟨⟨mb, mg₀, c₀, Pl₀, B⟩, hg, hz⟩ := (opening_left opens_none rfl).2 s hs
  obtain ⟨s₁, mg, T, hg1, hz1, L⟩ := top_ran (p := PW) (w := w) B hg hz rfl no_anns rfl pw_sts pw_apart (fun d hd => (pw_side d hd).1) fun d hd => (pw_side d hd).2
  have bh : Behind s₁.heap mb mg theDefs := by
    refine ⟨L.g, ?_, B.builtins, ?_, L.made, fun x hx hb => ?_⟩
    · obtain ⟨o, es, ep, ho, r⟩ := B.b
      exact ⟨o, es, ep, L.keep _ _ (by decide) ho, r⟩
    · obtain ⟨o, es, ep, ho, r⟩ := B.statics
      exact ⟨_, ⟨o, es, ep, L.keep _ _ (by decide) ho, r⟩, rfl⟩
    · rw [L.others x hx (fun z => hb (by rw [z]; decide))]
      exact B.others x hb
  obtain ⟨dl, hdl, enl⟩ := hlaw
  refine ⟨s, rfl, hg, s₁, T, ?_, (fun x hx => nomatch hx), (fun x hx => nomatch hx), ?_⟩
  · intro n hn
    obtain rfl : n = ("law" : Str) := List.mem_singleton.mp hn
    obtain ⟨a, c', pm, doc, m1, m2, m3⟩ := L.made dl hdl
    have pl := plain_args (topSts_plain pw_sts dl hdl)
    rw [enl] at m1
    refine ⟨a, _, _, dl.params, dl.body, dl.scope, (Claim2Try.globalOf_of_ns L.g _).trans m1, m2, rfl, enl ▸ theDef_is rfl pw_sts pw_apart hdl, enl, enl, rfl, rfl, rfl, rfl, rfl, rfl, .inl ⟨pl.2.2.1, rfl⟩, [], ?_, .inl ⟨rfl, rfl⟩⟩
    rw [pl.1, pl.2.1]; rfl
  · refine ClaimW.callFrom_of_specG (c := RO.toRowW.claim) hz1 hg1 fun args hpre hlay ord hord => ?_
    obtain ⟨⟨vs, s₂⟩, hlaid⟩ := Option.isSome_iff_exists.mp (layAllW_isSome (P := w.params) (ord := ord) (cl := classAt s₁.heap) (R := RO.toRowW.records) (fun c hc => Bool.noConfusion (hc : false = true)) args RO.toRowW.args s₁ (pre_splitW hpre).1)
    have keeps := layAllW_keeps _ _ _ hlaid
    have hal := layAllW_rest _ _ _ hlaid
    obtain ⟨as, hrd, hin, hold⟩ := reads_layAllW hord _ _ _ hlaid hlay s₂.heap (fun _ _ e => e)
    have L2 : Laid RO.toRowW.records w s₁ s₂ args vs as := ⟨⟨ord, hord, hlaid⟩, hrd, hin, hold, keeps, hal.1.trans hg1, hal.2.2.1⟩
    obtain ⟨a, c', pm, doc, m1, m2, m3⟩ := L.made dl hdl
    rw [enl] at m1
    have low : sysModules < s₁.heap.objs.size := by
      obtain ⟨mm, ⟨o, es, ep, ho, r⟩, _⟩ := B.noThreading
      exact Heap.lt_size (L.keep _ _ (by decide) ho)
    have cc := call w s₁ s₂ mb mg a args vs as (bh.keeps keeps) m1 L2.gens hpre hlay L2.reads L2.well (L2.low low)
    have z : ∀ {r : Result} {s' : Shared}, GoodWG RO.toRowW.claim (classAt s₁.heap) (ExcName.means s₁.heap) args s₂ r s' → RO.toRowW.claim.Ends s₁ args vs s₂ r s' ∧ s'.os = s₁.os ∧ AllBare s'.gens := fun g =>
      g.laid (c := RO.toRowW.claim) rfl rfl (ident_freeW rfl rfl rfl) L2
    refine ⟨vs, s₂, hlaid, wpAny_bind (wpAny_nsGet (L.g.keeps keeps) ?_)⟩
    show wpAny _ _ (match mg "law" with | some f => _ | none => _) _ _ _
    rw [m1]
    exact wpAny_bind (wpAny_mono cc (fun v s' g => wpAny_pure ⟨_, rfl, (z g).1, (z g).2.1, (z g).2.2, fun q => nomatch q⟩) fun e s' g => ⟨(z g).1, (z g).2.1, (z g).2.2, fun q => nomatch q⟩)

noncomputable def recOf (d : DefItem) : Rec := (d.name, d.params, d.body, d.scope)
noncomputable def lawOk (d : DefItem) : Bool := d.name == ("law" : Str) && d.params.args.map (·.arg) == [("script" : Str)] && d.params.posonlyargs.isEmpty && d.params.vararg.isNone && d.params.kwarg.isNone && d.scope.kind == .function && !d.scope.isGenerator && !d.scope.isCoroutine &&
  d.scope.names.lookup ("script" : Str) == some .local && d.scope.names.all (fun x => x.2 != .cell && x.2 != .free) && isLaw d.scope.names d.body
set_option maxRecDepth 100000 in
theorem law_there : theDefs.any lawOk = true := by decide +kernel
set_option maxRecDepth 100000 in
theorem recs_ok : chkRecs (theDefs.map recOf) = true := by decide +kernel
set_option maxRecDepth 100000 in
theorem free_names : (([("len" : Str), "str", "list", "range", "enumerate"] : List Str).all fun x => !(theDefs.map (·.name)).contains x && !bootMainNames.contains x) = true := by decide +kernel

theorem base_behind {h : Heap} {mb mg : Str → Option Value} (x : Behind h mb mg theDefs) : Base mg mb h (theDefs.map recOf) := by
  have fr : ∀ n ∈ ([("len" : Str), "str", "list", "range", "enumerate"] : List Str), mg n = none := fun n hn => by
    have := List.all_eq_true.mp free_names n hn
    simp only [Bool.and_eq_true, Bool.not_eq_true'] at this
    refine x.others n (fun z => ?_) (fun z => ?_)
    · rw [List.contains_iff_mem.mpr z] at this; cases this.1
    · rw [List.contains_iff_mem.mpr z] at this; cases this.2
  refine ⟨x.g, x.b, x.lim, fun d hd => ?_, ⟨fr _ (by decide), (x.builtins _ (by decide)).trans (by decide)⟩, ⟨fr _ (by decide), (x.builtins _ (by decide)).trans (by decide)⟩, ⟨fr _ (by decide), (x.builtins _ (by decide)).trans (by decide)⟩,
    ⟨fr _ (by decide), (x.builtins _ (by decide)).trans (by decide)⟩, ⟨fr _ (by decide), (x.builtins _ (by decide)).trans (by decide)⟩⟩
  obtain ⟨i, hi, rfl⟩ := List.mem_map.mp hd
  obtain ⟨a, c', pm, doc, h1, h2, h3⟩ := x.made i hi
  exact ⟨a, _, pm, _, doc, h1, h2, rfl, h3⟩

theorem cells_none : ∀ (k : Addr) (ns : List (Str × NameKind)), (ns.all fun x => x.2 != .cell && x.2 != .free) = true → cellsFrom k ns [] = [] := by
  intro k ns
  induction ns with
  | nil => intro _; rfl
  | cons x ns ih =>
    intro h
    simp only [List.all_cons, Bool.and_eq_true, bne_iff_ne] at h
    unfold cellsFrom
    have e : (x.2 == NameKind.cell) = false := by simpa using h.1.1
    simp only [e, Bool.false_eq_true, if_false]
    exact ih (by simpa using h.2)

theorem call_good : CallGood := by
  intro w s s₁ mb mg a args vs as bh hm hg hpre hlay hrd hwl hlo
  obtain ⟨d, hd, ok⟩ := List.any_eq_true.mp law_there
  simp only [lawOk, Bool.and_eq_true, beq_iff_eq, List.isEmpty_iff, Option.isNone_iff_eq_none, Bool.not_eq_true'] at ok
  obtain ⟨⟨⟨⟨⟨⟨⟨⟨⟨⟨e1, e2⟩, e3⟩, e4⟩, e5⟩, e6⟩, e7⟩, e8⟩, e9⟩, e10⟩, e11⟩ := ok
  obtain ⟨a', c', pm, doc, m1, m2, m3⟩ := bh.made d hd
  rw [e1, hm] at m1
  cases m1
  have pl := plain_args (topSts_plain pw_sts d hd)
  wrow_args hpre hlay hrd hwl hlo
  rename_i ns _ _ _ _ _ _ _ l vals _ hL _ _ _ hI _ hz _
  refine enter_call (codeAny_mono (?_ : codeAny _ _ _ (GoodW RO.toRowW.claim (classAt s.heap) (ExcName.means s.heap) [ofPy (PyData.list (List.map PyData.int ns))] s₁) _) fun _ _ g => GoodW.toG g)
  refine call_cells_ret (by decide) m2 rfl bh.lim m3 (bindArgs_plain (fd := docDef d.name d.params d.body d.scope pm (.ref c') doc) (ns := [("script" : Str)]) e3 e2 pl.1 e4 e5 rfl rfl (by decide)) (fun x hx => ?_) (fun h₁ tk F X => ?_) e8 e7 e6
  · simp only [List.zip_cons_cons, List.zip_nil_left, List.mem_singleton] at hx
    subst hx
    exact .inl e9
  have hm1 : bindL (envOfC d.name d.scope s₁.heap.objs.size a (.ref c')).kindOf ([("script" : Str)].zip [Value.ref l]) (fun _ => none) "script" = some (.ref l) :=
    bindL_get (i := 0) (by decide) rfl rfl e9
  refine wpAny_mono (law_body (ns := ns) (vs := vals) (m := _) (base_behind bh) recs_ok e11 e6 rfl rfl F.keep F.ns ?_ (fun nm => ?_) hm1 (hL.at fun o e => F.keep l o e) hI ?_ ⟨rfl, by show 1 + claimMargin + 1 + 60 ≤ 900; decide, by show 4 + 3 + 5 * 60 + 40 ≤ 9000; decide⟩) (fun f s' p => ?_) fun e s' p => p.elim
  · cases e : s₁.heap.get? s₁.heap.objs.size with
    | none => exact e
    | some o => exact absurd (Heap.lt_size e) (Nat.lt_irrefl _)
  · show (cellsFrom _ d.scope.names []).lookup nm = none
    rw [cells_none _ _ e10]; rfl
  · rw [hI.length]; omega
  · obtain ⟨rfl, k1, k2, k3⟩ := p
    exact ⟨.inl ⟨.bool true, .bool true, [], rfl, raisesW_false (by wrow_none_raised), .bool true, postW_of (by wrow_shape) (by wtm_val) rfl, unshared_nil⟩, k1, k3, k2.trans hg⟩

theorem law_promised : RO.toRowW.promised := by w_witness2
theorem law_in : ∃ d ∈ theDefs, d.name = ("law" : Str) := by
  obtain ⟨d, hd, ok⟩ := List.any_eq_true.mp law_there
  simp only [lawOk, Bool.and_eq_true, beq_iff_eq] at ok
  exact ⟨d, hd, ok.1.1.1.1.1.1.1.1.1.1⟩

end Mine
theorem PySem.Challenge.cw_pb0022_01_holds : PySem.Challenge.rw_pb0022_01.Holds :=
  Mine.holds_of Mine.call_good Mine.law_in Mine.law_promised
