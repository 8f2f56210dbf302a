import PyProof.Rows.All
import Wide.All
import OpenK.AllK
import Wide.FinOn
import HandS.ForMost
import HandS.Exc
import HandS.Property
import HandS.IsInst
import KE.KDictKeyed
import HandS.Lambda
import HandS.Deep
import HandS.TupAny
import HandS.Style
import HandS.Text
import HandS.Star
import HandS.More
import HandS.SetKeys
import HandS.Zip
import KE.GoesMore
import KE.GoesEnum
import HandS.Comp
import HandS.DictComp
import KE.KDictList
import HandS.IterNext
import HandS.ExcInit
import KE.KUnpackStar
import PyProof.RulesMatchSeq
import PyProof.Rows.MatchSeqLen
import HandS.Words
import KE.KDictWalk
import KE.SortData
import KE.KDictSum
import HandS.SetFor
import HandS.Finally
import HandS.Set
import HandS.SetTxt0
import HandS.Strs
import KE.KDictPairs
import KE.KDictCopyH
import HandS.OwnIter
import KE.KDictDisplayH
import KE.SortCalls
import KE.KEqNest
import HandS.Conv
import HandS.Defaults
import HandS.EndTab
import HandS.EndOwn
import KE.SortKeyHeap
import KE.KSortKey
import HandS.ExcValue
import HandS.ExcField
import HandS.ExcIs
import KE.KExcSuper
import HandS.ExcOwn
import PyProof.EqKinds
import PyProof.FactsAll.dict
import KE.KExcIs
import PyProof.ReprRoads
import HandS.RaiseMore
import PyProof.Rows.CountFlat
import PyProof.CallStr
import HandS.ExcBuiltin
import HandS.TupSets
import PyProof.NeData
import HandS.NamedTupGet
import PyProof.TupleOfStr
import PySem.Challenge.RW_faultorder_k20_machines_of_any_values
/-! MP1 -/
set_option Elab.async false
set_option autoImplicit false
set_option linter.all false
set_option maxRecDepth 100000
namespace MP
open PySem PySem.Spec L2

/-! ## data, objects, stores, results -/
inductive D where
  | non | bl (b : Bool) | int (i : Int) | str (s : Str) | tup (ds : List D) | ptr (n : Nat)
  deriving Inhabited

mutual
def D.same : D → D → Bool
  | .non, .non => true
  | .bl a, .bl b => a == b
  | .int a, .int b => decide (a = b)
  | .str a, .str b => decide (a = b)
  | .tup a, .tup b => D.sames a b
  | .ptr a, .ptr b => decide (a = b)
  | _, _ => false
def D.sames : List D → List D → Bool
  | [], [] => true
  | a :: as, b :: bs => D.same a b && D.sames as bs
  | _, _ => false
end
mutual
theorem D.same_self : ∀ a : D, D.same a a = true
  | .non => by simp [D.same]
  | .bl _ => by simp [D.same]
  | .int _ => by simp [D.same]
  | .str _ => by simp [D.same]
  | .tup a => by simp [D.same, D.sames_self a]
  | .ptr _ => by simp [D.same]
theorem D.sames_self : ∀ a : List D, D.sames a a = true
  | [] => by simp [D.sames]
  | a :: as => by simp [D.sames, D.same_self a, D.sames_self as]
end
mutual
theorem D.of_same : ∀ {a b : D}, D.same a b = true → a = b
  | .non, b, h => by cases b <;> simp [D.same] at h ⊢
  | .bl _, b, h => by cases b <;> simp [D.same] at h ⊢; exact h
  | .int _, b, h => by cases b <;> simp [D.same] at h ⊢; exact h
  | .str _, b, h => by cases b <;> simp [D.same] at h ⊢; exact h
  | .tup as, b, h => by
    cases b <;> simp [D.same] at h ⊢
    exact D.of_sames h
  | .ptr _, b, h => by cases b <;> simp [D.same] at h ⊢; exact h
theorem D.of_sames : ∀ {a b : List D}, D.sames a b = true → a = b
  | [], b, h => by cases b <;> simp [D.sames] at h ⊢
  | a :: as, b, h => by
    cases b with
    | nil => simp [D.sames] at h
    | cons b bs =>
      simp [D.sames] at h
      rw [D.of_same h.1, D.of_sames h.2]
end
instance : DecidableEq D := fun a b => if h : D.same a b = true then .isTrue (D.of_same h) else .isFalse fun e => h (e ▸ D.same_self a)

inductive O where
  | lst (ds : List D)
  | rol (ds : List D)
  | dct (kvs : List (D × D))
  | rod (kvs : List (D × D))
  | ins (c : Str) (fs : List (Str × D))
  | vw (T : String) (n : Nat)
  | dkt (kvs : List (D × D))
  | rkt (kvs : List (D × D))
  | exc (c : Str) (fs : List (Str × D))
  | lam
  deriving DecidableEq, Inhabited

abbrev Sto := List O
abbrev Rho := List (Option D)
structure Exn where
  cls : Str
  fs : List (Str × D)

inductive Rs (α : Type) where
  | ok (a : α) (S : Sto)
  | exn (x : Exn) (S : Sto)
  | bad

def Rs.bind {α β : Type} (r : Rs α) (f : α → Sto → Rs β) : Rs β :=
  match r with
  | .ok a S => f a S
  | .exn x S => .exn x S
  | .bad => .bad

abbrev M (α : Type) := Rho → Sto → Rs α
def M.bind {α β : Type} (m : M α) (f : α → M β) : M β := fun ρ S => (m ρ S).bind fun a S1 => f a ρ S1
def M.ret {α : Type} (a : α) : M α := fun _ S => .ok a S
def M.bad {α : Type} : M α := fun _ _ => .bad

@[simp] theorem Rs.bind_ok {α β : Type} (a : α) (S : Sto) (f : α → Sto → Rs β) : (Rs.ok a S).bind f = f a S := rfl
@[simp] theorem Rs.bind_exn {α β : Type} (x : Exn) (S : Sto) (f : α → Sto → Rs β) : (Rs.exn x S : Rs α).bind f = .exn x S := rfl
@[simp] theorem Rs.bind_bad {α β : Type} (f : α → Sto → Rs β) : (Rs.bad : Rs α).bind f = .bad := rfl

/-! ## how they lie in the abstract heap -/
/-- a text that may stand in the machine -/
def okS (s : Str) : Prop := s.length ≤ sizeLine ∧ PyData.strOk s = true
instance (s : Str) : Decidable (okS s) := inferInstanceAs (Decidable (_ ∧ _))
/-- a pair of texts; a pair of such a pair and a number -/
def D.isP2 : D → Bool
  | .tup [.str _, .str _] => true
  | .tup [.tup [.str _, .str _], .int _] => true
  | _ => false
/-- a tuple that has no dict of its own -/
def ND (K : PySem.W.Frag) (H : Hp) (a : Addr) : Prop := (∃ o vs, H a = some (.frz o (.tup vs)) ∧ o.dict = none) ∨ (∃ o, K.lookup a = some o ∧ o.dict = none)
/-- a tuple; of pairs of texts alone it is known that it has no dict of its own -/
def SqX (K : PySem.W.Frag) (H : Hp) (a : Addr) (ds : List D) (vs : List V) : Prop := SqT K H a vs ∧ (ds.all D.isP2 = true → ND K H a)
instance {K : PySem.W.Frag} {H : Hp} {a : Addr} {ds : List D} {vs : List V} : CoeOut (SqX K H a ds vs) (SqT K H a vs) := ⟨fun h => h.1⟩
mutual
inductive RelD (K : PySem.W.Frag) (io : List Addr) (H : Hp) : D → V → Prop
  | non : RelD K io H .non .non
  | bl (b : Bool) : RelD K io H (.bl b) (.bl b)
  | int (i : Int) : RelD K io H (.int i) (.int i)
  | str (s : Str) : okS s → RelD K io H (.str s) (.str s)
  | tup {a : Addr} {ds : List D} {vs : List V} : SqX K H a ds vs → RelDs K io H ds vs → RelD K io H (.tup ds) (.ref a)
  | ptr {n : Nat} {a : Addr} : io[n]? = some a → RelD K io H (.ptr n) (.ref a)
inductive RelDs (K : PySem.W.Frag) (io : List Addr) (H : Hp) : List D → List V → Prop
  | nil : RelDs K io H [] []
  | cons {d : D} {ds : List D} {v : V} {vs : List V} : RelD K io H d v → RelDs K io H ds vs → RelDs K io H (d :: ds) (v :: vs)
end

abbrev RelC (K : PySem.W.Frag) (io : List Addr) (H : Hp) : Option D → Option V → Prop
  | some d, some v => RelD K io H d v
  | none, _ => True
  | some _, none => False
abbrev RelRho (K : PySem.W.Frag) (io : List Addr) (H : Hp) : List (Option D) → L2.St → Prop := Paired (RelC K io H)
abbrev RelFs (K : PySem.W.Frag) (io : List Addr) (H : Hp) : List (Str × D) → List (Str × V) → Prop := Paired fun p q => p.1 = q.1 ∧ RelD K io H p.2 q.2
def kD : Key → D
  | .inl i => .int i
  | .inr s => .str s
def okK : Key → Prop
  | .inl _ => True
  | .inr x => okS x
abbrev RelKs (K : PySem.W.Frag) (io : List Addr) (H : Hp) : List (D × D) → List (Key × V) → Prop := Paired fun p q => p.1 = kD q.1 ∧ okK q.1 ∧ RelD K io H p.2 q.2

/-- a list that is read, never written -/
def RoL (K : PySem.W.Frag) (H : Hp) (a : Addr) (vs : List V) : Prop :=
  (∃ o, H a = some (.frz o (.lst vs))) ∨ (SqL K (fun _ => none) a vs)
theorem RoL.sq {K : PySem.W.Frag} {H : Hp} {a : Addr} {vs : List V} (h : RoL K H a vs) : SqL K H a vs := by
  rcases h with h | h | h
  · exact .inl (.inr h)
  · rcases h with h | ⟨_, h⟩ <;> cases h
  · exact .inr h
/-- a view of the dict at d -/
def vwO (T : String) (a d : Addr) : HO := .ext fun h => h.get? a = some { cls := .type T, data := .fields #[.ref d] }
/-- where the classes stand -/
structure Cl where
  at' : Str → Option Addr
  hs : NestedKey → Int
  /-- the tables of code objects, each with the name that its code objects bear -/
  tb : List (Addr × Str)
  /-- lambdas whose place is known -/
  pre : List (Nat × Addr) := []
  /-- what lambdas have captured -/
  cap : List (List (Option D) × L2.St) := []
  /-- where the classes of errors stand -/
  er : Str → Option Addr := fun _ => none
  /-- code objects that are known -/
  co : List (Addr × Str) := []
instance : CoeFun Cl fun _ => Str → Option Addr := ⟨Cl.at'⟩
/-! a dict whose keys are tuples -/
mutual
def D.nk : D → Option NestedKey
  | .int i => some (.num i)
  | .str s => some (.text s)
  | .tup ds => (D.nks ds).map .tup
  | _ => none
def D.nks : List D → Option (List NestedKey)
  | [] => some []
  | d :: ds => match D.nk d, D.nks ds with
    | some k, some ks => some (k :: ks)
    | _, _ => none
end
def nkT : D → Option NestedKey
  | .tup ds => match D.nk (.tup ds) with
    | some k => if k.depth ≤ 8 then some k else none
    | none => none
  | _ => none
/-- the object itself -/
def dkO (hs : NestedKey → Int) (a : Addr) (xs : List (NestedKey × Addr × Value)) : HO := .ext fun h => ∃ o es ep, h.get? a = some o ∧ o.ExactDict ∧ o.data = .dict es ep ∧ es.toList = xs.map fun x => ⟨hs x.1, .ref x.2.1, x.2.2⟩
def EntR (K : PySem.W.Frag) (io : List Addr) (H : Hp) (p : D × D) (q : (NestedKey × Addr × Value) × V) : Prop := nkT p.1 = some q.1.1 ∧ RelD K io H p.1 (.ref q.1.2.1) ∧ RelD K io H p.2 q.2 ∧ RelV q.2 q.1.2.2
/-- an exception that was caught, of the class at C, its fields in the dict d -/
def exV (a C : Addr) (d : Option Addr) : HO := .ext fun h => ∃ (oe : Obj) (vs : Array Value), h.get? a = some oe ∧ Zc (.ref C) d oe ∧ oe.data = .fields vs ∧ ∃ T, vs[1]? = some (.ref T)
def XFs (K : PySem.W.Frag) (io : List Addr) (H : Hp) (d : Option Addr) (fs : List (Str × D)) : Prop := (fs = [] ∧ d = none) ∨ ∃ dd ws, d = some dd ∧ H dd = some (.xd ws) ∧ RelFs K io H fs ws
inductive RelO (K : PySem.W.Frag) (cl : Cl) (io : List Addr) (H : Hp) : O → Addr → Prop
  | lst {a : Addr} {ds : List D} {vs : List V} : H a = some (.lst vs) → RelDs K io H ds vs → RelO K cl io H (.lst ds) a
  | rol {a : Addr} {ds : List D} {vs : List V} : RoL K H a vs → RelDs K io H ds vs → RelO K cl io H (.rol ds) a
  | dct {a : Addr} {kvs : List (D × D)} {ws : List (Key × V)} : H a = some (.dK ws) → RelKs K io H kvs ws → RelO K cl io H (.dct kvs) a
  | rod {a : Addr} {kvs : List (D × D)} {ws : List (Key × V)} {ob : Obj} : H a = some (.frz ob (.dK ws)) → RelKs K io H kvs ws → RelO K cl io H (.rod kvs) a
  | vw {a d : Addr} {T : String} {n : Nat} : H a = some (vwO T a d) → io[n]? = some d → RelO K cl io H (.vw T n) a
  | ins {a C dx : Addr} {c : Str} {fs : List (Str × D)} {ws : List (Str × V)} : cl c = some C → H a = some (.ins C dx ws) → RelFs K io H fs ws → RelO K cl io H (.ins c fs) a
  | dkt {a : Addr} {kvs : List (D × D)} {qs : List ((NestedKey × Addr × Value) × V)} : H a = some (dkO cl.hs a (qs.map (·.1))) → Paired (EntR K io H) kvs qs → (kvs.map (·.1)).Nodup → (a == sysModules) = false → kvs.length ≤ sizeLine → RelO K cl io H (.dkt kvs) a
  | rkt {a : Addr} {kvs : List (D × D)} {qs : List ((NestedKey × Addr × Value) × V)} {ob : Obj} : H a = some (.frz ob (dkO cl.hs a (qs.map (·.1)))) → Paired (EntR K io H) kvs qs → (kvs.map (·.1)).Nodup → (a == sysModules) = false → kvs.length ≤ sizeLine → RelO K cl io H (.rkt kvs) a
  | exc {a C : Addr} {c : Str} {fs : List (Str × D)} {d : Option Addr} : cl.er c = some C → H a = some (exV a C d) → XFs K io H d fs → RelO K cl io H (.exc c fs) a
  | lam {a : Addr} : RelO K cl io H .lam a

def O.isRo : O → Bool
  | .rol _ => true
  | .lam => true
  | _ => false
/-- none of the store's objects that may be written stands at c -/
def NoIo (io : List Addr) (S : Sto) (c : Addr) : Prop := ∀ (j : Nat) (o : O), S[j]? = some o → o.isRo = false → io[j]? ≠ some c
/-- a table of code objects: none of these is of the store -/
def TabI (io : List Addr) (S : Sto) (H : Hp) (P : Addr) (q : Str) : Prop := ∃ ps : Array Value, H P = some (.tbl ps) ∧ TriplesOk ps.toList ∧ ∀ (pos : Pos) (cv : Value), PySem.codeAmong pos ps.toList = some cv → ∃ c, cv = .ref c ∧ H c = some (LamX.CodeO c q) ∧ NoIo io S c
theorem TabI.mono {io io' : List Addr} {S S' : Sto} {H H' : Hp} {P : Addr} {q : Str} (t : TabI io S H P q) (e : ∀ ps, H P = some (.tbl ps) → H' P = some (.tbl ps)) (e2 : ∀ c, NoIo io S c → H c = some (LamX.CodeO c q) → H' c = some (LamX.CodeO c q) ∧ NoIo io' S' c) : TabI io' S' H' P q := by
  obtain ⟨ps, h1, h2, h3⟩ := t
  refine ⟨ps, e _ h1, h2, fun pos cv hc => ?_⟩
  obtain ⟨c, e1, k1, k2⟩ := h3 pos cv hc
  obtain ⟨k3, k4⟩ := e2 c k2 k1
  exact ⟨c, e1, k3, k4⟩
theorem TabI.s {io : List Addr} {S : Sto} {H : Hp} {P : Addr} {q : Str} (t : TabI io S H P q) : LamX.TabS H P q := by
  obtain ⟨ps, h1, h2, h3⟩ := t
  refine ⟨ps, h1, h2, fun pos cv hc => ?_⟩
  obtain ⟨c, e1, k1, k2⟩ := h3 pos cv hc
  exact ⟨c, e1, k1⟩
structure Abs (K : PySem.W.Frag) (cl : Cl) (io : List Addr) (S : Sto) (H : Hp) : Prop where
  len : io.length = S.length
  nd : ∀ (i j : Nat) (a : Addr) (o u : O), S[i]? = some o → S[j]? = some u → io[i]? = some a → io[j]? = some a → o.isRo = false → u.isRo = false → i = j
  obj : ∀ (n : Nat) (o : O), S[n]? = some o → ∃ a, io[n]? = some a ∧ RelO K cl io H o a
  tb : ∀ p ∈ cl.tb, TabI io S H p.1 p.2
  pre : ∀ p ∈ cl.pre, io[p.1]? = some p.2
  cap : ∀ p ∈ cl.cap, RelRho K io H p.1 p.2
  co : ∀ p ∈ cl.co, H p.1 = some (LamX.CodeO p.1 p.2) ∧ NoIo io S p.1

def Gr0 (K : PySem.W.Frag) (io : List Addr) (H : Hp) (io' : List Addr) (H' : Hp) : Prop :=
  (∃ t, io' = io ++ t) ∧ (∀ a vs, SqT K H a vs → SqT K H' a vs) ∧ (∀ a, ND K H a → ND K H' a) ∧ ∀ a ws, H a = some (.xd ws) → H' a = some (.xd ws)

theorem Gr0.rfl' {K : PySem.W.Frag} {io : List Addr} {H : Hp} : Gr0 K io H io H := ⟨⟨[], by simp⟩, fun _ _ h => h, fun _ h => h, fun _ _ h => h⟩
theorem Gr0.trans {K : PySem.W.Frag} {io io1 io2 : List Addr} {H H1 H2 : Hp} (g : Gr0 K io H io1 H1) (g' : Gr0 K io1 H1 io2 H2) : Gr0 K io H io2 H2 := by
  obtain ⟨⟨t, e⟩, k, n, x⟩ := g
  obtain ⟨⟨t', e'⟩, k', n', x'⟩ := g'
  exact ⟨⟨t ++ t', by rw [e', e, List.append_assoc]⟩, fun a vs h => k' a vs (k a vs h), fun a h => n' a (n a h), fun a ws h => x' a ws (x a ws h)⟩
theorem SqX.mono0 {K : PySem.W.Frag} {io io' : List Addr} {H H' : Hp} (g : Gr0 K io H io' H') {a : Addr} {ds : List D} {vs : List V} (h : SqX K H a ds vs) : SqX K H' a ds vs := ⟨g.2.1 _ _ h.1, fun e => g.2.2.1 _ (h.2 e)⟩
theorem Gr0.get {K : PySem.W.Frag} {io io' : List Addr} {H H' : Hp} (g : Gr0 K io H io' H') {n : Nat} {a : Addr} (h : io[n]? = some a) : io'[n]? = some a := by
  obtain ⟨⟨t, e⟩, _⟩ := g
  rw [e, List.getElem?_append_left (List.getElem?_eq_some_iff.mp h).1]
  exact h

mutual
theorem RelD.mono0 {K : PySem.W.Frag} {io io' : List Addr} {H H' : Hp} (g : Gr0 K io H io' H') : ∀ {d : D} {v : V}, RelD K io H d v → RelD K io' H' d v
  | _, _, .non => .non
  | _, _, .bl b => .bl b
  | _, _, .int i => .int i
  | _, _, .str s h => .str s h
  | _, _, .tup h r => .tup (h.mono0 g) (RelDs.mono0 g r)
  | _, _, .ptr h => .ptr (g.get h)
theorem RelDs.mono0 {K : PySem.W.Frag} {io io' : List Addr} {H H' : Hp} (g : Gr0 K io H io' H') : ∀ {ds : List D} {vs : List V}, RelDs K io H ds vs → RelDs K io' H' ds vs
  | _, _, .nil => .nil
  | _, _, .cons h t => .cons (RelD.mono0 g h) (RelDs.mono0 g t)
end
theorem RelC.mono0 {K : PySem.W.Frag} {io io' : List Addr} {H H' : Hp} (g : Gr0 K io H io' H') : ∀ {o : Option D} {p : Option V}, RelC K io H o p → RelC K io' H' o p
  | some _, some _, h => RelD.mono0 g h
  | none, _, _ => trivial
theorem RelRho.mono0 {K : PySem.W.Frag} {io io' : List Addr} {H H' : Hp} (g : Gr0 K io H io' H') {ρ : List (Option D)} {σ : L2.St} (r : RelRho K io H ρ σ) : RelRho K io' H' ρ σ := L2.Paired.mapP r (fun _ _ => RelC.mono0 g)
structure Grow (K : PySem.W.Frag) (io : List Addr) (H : Hp) (io' : List Addr) (H' : Hp) : Prop where
  base : Gr0 K io H io' H'
  frz : ∀ a o u, H a = some (.frz o u) → H' a = some (.frz o u)
theorem Grow.rfl' {K : PySem.W.Frag} {io : List Addr} {H : Hp} : Grow K io H io H := ⟨Gr0.rfl', fun _ _ _ h => h⟩
theorem Grow.trans {K : PySem.W.Frag} {io io1 io2 : List Addr} {H H1 H2 : Hp} (g : Grow K io H io1 H1) (g' : Grow K io1 H1 io2 H2) : Grow K io H io2 H2 := ⟨g.base.trans g'.base, fun a o u h => g'.frz a o u (g.frz a o u h)⟩
theorem Grow.get {K : PySem.W.Frag} {io io' : List Addr} {H H' : Hp} (g : Grow K io H io' H') {n : Nat} {a : Addr} (h : io[n]? = some a) : io'[n]? = some a := g.base.get h
theorem Grow.tup {K : PySem.W.Frag} {io io' : List Addr} {H H' : Hp} (g : Grow K io H io' H') {a : Addr} {vs : List V} (h : SqT K H a vs) : SqT K H' a vs := g.base.2.1 _ _ h
theorem RelD.mono {K : PySem.W.Frag} {io io' : List Addr} {H H' : Hp} (g : Grow K io H io' H') {d : D} {v : V} (r : RelD K io H d v) : RelD K io' H' d v := r.mono0 g.base
theorem RelDs.mono {K : PySem.W.Frag} {io io' : List Addr} {H H' : Hp} (g : Grow K io H io' H') {d : List D} {v : List V} (r : RelDs K io H d v) : RelDs K io' H' d v := r.mono0 g.base
theorem RelC.mono {K : PySem.W.Frag} {io io' : List Addr} {H H' : Hp} (g : Grow K io H io' H') : ∀ {o : Option D} {p : Option V}, RelC K io H o p → RelC K io' H' o p := RelC.mono0 g.base
theorem RelRho.mono {K : PySem.W.Frag} {io io' : List Addr} {H H' : Hp} (g : Grow K io H io' H') {ρ : List (Option D)} {σ : L2.St} (r : RelRho K io H ρ σ) : RelRho K io' H' ρ σ := RelRho.mono0 g.base r
theorem RelDs.length {K : PySem.W.Frag} {io : List Addr} {H : Hp} : ∀ {ds : List D} {vs : List V}, RelDs K io H ds vs → ds.length = vs.length
  | _, _, .nil => rfl
  | _, _, .cons _ t => by rw [List.length_cons, List.length_cons, RelDs.length t]
theorem RelDs.get {K : PySem.W.Frag} {io : List Addr} {H : Hp} : ∀ {ds : List D} {vs : List V} {i : Nat} {d : D}, RelDs K io H ds vs → ds[i]? = some d → ∃ v, vs[i]? = some v ∧ RelD K io H d v
  | _, _, 0, _, .cons h _, e => by
    simp only [List.getElem?_cons_zero, Option.some.injEq] at e
    subst e
    exact ⟨_, rfl, h⟩
  | _, _, i + 1, d, .cons _ t, e => by
    simp only [List.getElem?_cons_succ] at e ⊢
    exact RelDs.get t e
  | _, _, _, _, .nil, e => by simp at e
theorem RelDs.app {K : PySem.W.Frag} {io : List Addr} {H : Hp} : ∀ {ds es : List D} {vs ws : List V}, RelDs K io H ds vs → RelDs K io H es ws → RelDs K io H (ds ++ es) (vs ++ ws)
  | _, _, _, _, .nil, h => h
  | _, _, _, _, .cons h t, h' => .cons h (RelDs.app t h')
theorem RelDs.take {K : PySem.W.Frag} {io : List Addr} {H : Hp} : ∀ {ds : List D} {vs : List V} (n : Nat), RelDs K io H ds vs → RelDs K io H (ds.take n) (vs.take n)
  | _, _, 0, _ => by simpa using RelDs.nil
  | _, _, _ + 1, .nil => by simpa using RelDs.nil
  | _, _, n + 1, .cons h t => by simpa using RelDs.cons h (RelDs.take n t)
theorem RelDs.drop {K : PySem.W.Frag} {io : List Addr} {H : Hp} : ∀ {ds : List D} {vs : List V} (n : Nat), RelDs K io H ds vs → RelDs K io H (ds.drop n) (vs.drop n)
  | _, _, 0, h => by simpa using h
  | _, _, _ + 1, .nil => by simpa using RelDs.nil
  | _, _, n + 1, .cons h t => by simpa using RelDs.drop n t
theorem RelDs.set {K : PySem.W.Frag} {io : List Addr} {H : Hp} {d : D} {v : V} (r : RelD K io H d v) : ∀ {ds : List D} {vs : List V} (n : Nat), RelDs K io H ds vs → RelDs K io H (ds.set n d) (vs.set n v)
  | _, _, _, .nil => by simpa using RelDs.nil
  | _, _, 0, .cons h t => by simpa using RelDs.cons r t
  | _, _, n + 1, .cons h t => by simpa using RelDs.cons h (RelDs.set r n t)
theorem RelDs.erase {K : PySem.W.Frag} {io : List Addr} {H : Hp} : ∀ {ds : List D} {vs : List V} (n : Nat), RelDs K io H ds vs → RelDs K io H (ds.eraseIdx n) (vs.eraseIdx n)
  | _, _, _, .nil => by simpa using RelDs.nil
  | _, _, 0, .cons h t => by simpa using t
  | _, _, n + 1, .cons h t => by simpa using RelDs.cons h (RelDs.erase n t)
theorem RelDs.rev {K : PySem.W.Frag} {io : List Addr} {H : Hp} : ∀ {ds : List D} {vs : List V}, RelDs K io H ds vs → RelDs K io H ds.reverse vs.reverse
  | _, _, .nil => by simpa using RelDs.nil
  | _, _, .cons h t => by
    rw [List.reverse_cons, List.reverse_cons]
    exact (RelDs.rev t).app (.cons h .nil)
theorem paired_mono {α β : Type} {F G : α → β → Prop} (f : ∀ a b, F a b → G a b) {l : List α} {r : List β} (p : Paired F l r) : Paired G l r := L2.Paired.mapP p f
theorem XFs.mono {K : PySem.W.Frag} {io io' : List Addr} {H H' : Hp} (g : Gr0 K io H io' H') {d : Option Addr} {fs : List (Str × D)} (h : XFs K io H d fs) : XFs K io' H' d fs :=
  h.imp (fun z => z) fun ⟨dd, ws, e, k, r⟩ => ⟨dd, ws, e, g.2.2.2 _ _ k, paired_mono (fun p q z => ⟨z.1, z.2.mono0 g⟩) r⟩
theorem RelO.mono {K : PySem.W.Frag} {cl : Cl} {io io' : List Addr} {H H' : Hp} (g : Gr0 K io H io' H') {o : O} {a : Addr} (ha : ∀ u, H a = some u → H' a = some u) (r : RelO K cl io H o a) : RelO K cl io' H' o a := by
  cases r with
  | lst h r => exact .lst (ha _ h) (r.mono0 g)
  | rol h r =>
    refine .rol ?_ (r.mono0 g)
    rcases h with ⟨o, h⟩ | h
    · exact .inl ⟨o, ha _ h⟩
    · exact .inr h
  | dct h r => exact .dct (ha _ h) (paired_mono (fun p q z => ⟨z.1, z.2.1, z.2.2.mono0 g⟩) r)
  | rod h r => exact .rod (ha _ h) (paired_mono (fun p q z => ⟨z.1, z.2.1, z.2.2.mono0 g⟩) r)
  | vw h e => exact .vw (ha _ h) (g.get e)
  | ins c h r => exact .ins c (ha _ h) (paired_mono (fun p q z => ⟨z.1, z.2.mono0 g⟩) r)
  | dkt h r n sm z => exact .dkt (ha _ h) (paired_mono (fun p q z => ⟨z.1, z.2.1.mono0 g, z.2.2.1.mono0 g, z.2.2.2⟩) r) n sm z
  | rkt h r n sm z => exact .rkt (ha _ h) (paired_mono (fun p q z => ⟨z.1, z.2.1.mono0 g, z.2.2.1.mono0 g, z.2.2.2⟩) r) n sm z
  | exc c h r => exact .exc c (ha _ h) (r.mono g)
  | lam => exact .lam

/-- what may be written: a mutable thing, a dict that is locked -/
def LkU : HO → Prop
  | .dK _ => True
  | .ext _ => True
  | _ => False
def Wr (o : Option HO) : Prop := Mut o ∨ ∃ ob u, o = some (.frz ob u) ∧ LkU u
theorem sqT_upd {K : PySem.W.Frag} {H : Hp} {p : Addr} {o : HO} (h : H p = none ∨ Wr (H p)) {a : Addr} {vs : List V} (s : SqT K H a vs) : SqT K (upd H p o) a vs := by
  have ne : ∀ u, H a = some u → ¬ Wr (some u) → upd H p o a = some u := fun u e nm => by
    have hne : a ≠ p := by
      rintro rfl
      rcases h with h | h
      · rw [h] at e; cases e
      · rw [e] at h; exact nm h
    rw [upd_ne hne]; exact e
  rcases s with (s | ⟨ob, s⟩) | s
  · exact .inl (.inl (ne _ s fun z => z.elim (fun z => z) fun ⟨_, _, z, _⟩ => nomatch z))
  · exact .inl (.inr ⟨ob, ne _ s fun z => z.elim (fun z => z) fun ⟨_, _, z, m⟩ => by cases z; exact m⟩)
  · exact .inr s
theorem nd_upd {K : PySem.W.Frag} {H : Hp} {p : Addr} {o : HO} (h : H p = none ∨ Wr (H p)) {a : Addr} (s : ND K H a) : ND K (upd H p o) a := by
  rcases s with ⟨ob, vs, s, d⟩ | s
  · refine .inl ⟨ob, vs, ?_, d⟩
    have hne : a ≠ p := by
      rintro rfl
      rcases h with h | h
      · rw [h] at s; cases s
      · rw [s] at h
        rcases h with h | ⟨_, _, z, m⟩
        · exact h
        · cases z; exact m
    rw [upd_ne hne]; exact s
  · exact .inr s
theorem xd_upd {H : Hp} {p : Addr} {o : HO} (h : H p = none ∨ Wr (H p)) {a : Addr} {ws : List (Str × V)} (s : H a = some (.xd ws)) : upd H p o a = some (.xd ws) := by
  have hne : a ≠ p := by
    rintro rfl
    rcases h with h | h
    · rw [h] at s; cases s
    · rw [s] at h
      rcases h with h | ⟨_, _, z, m⟩
      · exact h
      · cases z
  rw [upd_ne hne]; exact s
theorem gr0_upd {K : PySem.W.Frag} {io : List Addr} {H : Hp} {p : Addr} {o : HO} (h : H p = none ∨ Wr (H p)) : Gr0 K io H io (upd H p o) := ⟨⟨[], by simp⟩, fun _ _ s => sqT_upd h s, fun _ s => nd_upd h s, fun _ _ s => xd_upd h s⟩
theorem gr0_new {K : PySem.W.Frag} {io : List Addr} {H : Hp} {p : Addr} {o : HO} (h : H p = none) : Gr0 K io H (io ++ [p]) (upd H p o) := ⟨⟨[p], rfl⟩, fun _ _ s => sqT_upd (.inl h) s, fun _ s => nd_upd (.inl h) s, fun _ _ s => xd_upd (.inl h) s⟩
theorem frz_upd {H : Hp} {p : Addr} {o : HO} (h : H p = none ∨ Mut (H p)) : ∀ a ob u, H a = some (.frz ob u) → upd H p o a = some (.frz ob u) := fun a ob u e => by
  have : a ≠ p := by
    rintro rfl
    rw [e] at h
    rcases h with h | h
    · cases h
    · exact h
  rw [upd_ne this]; exact e
theorem grow_upd {K : PySem.W.Frag} {io : List Addr} {H : Hp} {p : Addr} {o : HO} (h : H p = none ∨ Mut (H p)) : Grow K io H io (upd H p o) := ⟨gr0_upd (h.imp (fun z => z) .inl), frz_upd h⟩
theorem grow_new {K : PySem.W.Frag} {io : List Addr} {H : Hp} {p : Addr} {o : HO} (h : H p = none) : Grow K io H (io ++ [p]) (upd H p o) := ⟨gr0_new h, frz_upd (.inl h)⟩
section
variable {K : PySem.W.Frag} {cl : Cl} {io : List Addr} {S : Sto} {H : Hp}
theorem RelO.wr {o : O} {a : Addr} (r : RelO K cl io H o a) (h : o.isRo = false) : Wr (H a) := by
  cases r with
  | lst h _ => rw [h]; exact .inl trivial
  | rol _ _ => simp [O.isRo] at h
  | lam => simp [O.isRo] at h
  | dct h _ => rw [h]; exact .inl trivial
  | rod h _ => rw [h]; exact .inr ⟨_, _, rfl, trivial⟩
  | rkt h _ _ _ _ => rw [h]; exact .inr ⟨_, _, rfl, trivial⟩
  | vw h _ => rw [h]; exact .inl trivial
  | dkt h _ _ _ _ => rw [h]; exact .inl trivial
  | ins _ h _ => rw [h]; exact .inl trivial
  | exc _ h _ => rw [h]; exact .inl trivial
theorem RelO.ntbl {o : O} {a : Addr} (r : RelO K cl io H o a) (h : o.isRo = false) (ps : Array Value) : H a ≠ some (.tbl ps) := by
  cases r with
  | lst h _ => rw [h]; exact fun z => nomatch z
  | rol _ _ => simp [O.isRo] at h
  | lam => simp [O.isRo] at h
  | dct h _ => rw [h]; exact fun z => nomatch z
  | rod h _ => rw [h]; exact fun z => nomatch z
  | rkt h _ _ _ _ => rw [h]; exact fun z => nomatch z
  | vw h _ => rw [h]; exact fun z => nomatch z
  | dkt h _ _ _ _ => rw [h]; exact fun z => nomatch z
  | ins _ h _ => rw [h]; exact fun z => nomatch z
  | exc _ h _ => rw [h]; exact fun z => nomatch z
theorem RelO.ro {o : O} {a : Addr} {io' : List Addr} {H' : Hp} (r : RelO K cl io H o a) (h : o.isRo = true) (g : Gr0 K io H io' H') (hk : ∀ ob u, H a = some (.frz ob (.lst u)) → H' a = some (.frz ob (.lst u))) : RelO K cl io' H' o a := by
  cases r with
  | lst _ _ => simp [O.isRo] at h
  | rol h r =>
    refine .rol ?_ (r.mono0 g)
    rcases h with ⟨o, h⟩ | h
    · exact .inl ⟨o, hk _ _ h⟩
    · exact .inr h
  | dct _ _ => simp [O.isRo] at h
  | rod _ _ => simp [O.isRo] at h
  | vw _ _ => simp [O.isRo] at h
  | dkt _ _ _ _ _ => simp [O.isRo] at h
  | rkt _ _ _ _ _ => simp [O.isRo] at h
  | ins _ _ _ => simp [O.isRo] at h
  | exc _ _ _ => simp [O.isRo] at h
  | lam => exact .lam
/-- nothing of the store changes where the heap grows by p -/
theorem Abs.tup (A : Abs K cl io S H) {p : Addr} {o : HO} (hp : H p = none) : Abs K cl io S (upd H p o) :=
  ⟨A.len, A.nd, fun n ob e => by
    obtain ⟨a, ha, r⟩ := A.obj n ob e
    refine ⟨a, ha, ?_⟩
    cases hr : ob.isRo with
    | true => exact r.ro hr (gr0_upd (.inl hp)) fun x u hu => by rw [upd_ne (ne_of_none hu hp)]; exact hu
    | false => exact r.mono (gr0_upd (.inl hp)) fun u hu => by rw [upd_ne (ne_of_none hu hp)]; exact hu,
  fun q hq => (A.tb q hq).mono (fun ps e => by rw [upd_ne (ne_of_none e hp)]; exact e) fun c hc e => ⟨by rw [upd_ne (ne_of_none e hp)]; exact e, hc⟩, A.pre, fun q hq => (A.cap q hq).mono0 (gr0_upd (.inl hp)), fun q hq => ⟨by rw [upd_ne (ne_of_none (A.co q hq).1 hp)]; exact (A.co q hq).1, (A.co q hq).2⟩⟩
/-- a new object -/
theorem Abs.new (A : Abs K cl io S H) {p : Addr} {ho : HO} {o : O} (hp : H p = none) (r : RelO K cl (io ++ [p]) (upd H p ho) o p) : Abs K cl (io ++ [p]) (S ++ [o]) (upd H p ho) := by
  have low : ∀ {n : Nat} {ob : O}, (S ++ [o])[n]? = some ob → (n < S.length ∧ S[n]? = some ob) ∨ (n = S.length ∧ ob = o) := fun {n ob} e => by
    by_cases hn : n < S.length
    · rw [List.getElem?_append_left hn] at e
      exact .inl ⟨hn, e⟩
    · have hn' : n = S.length := by
        have := (List.getElem?_eq_some_iff.mp e).1
        simp only [List.length_append, List.length_singleton] at this
        omega
      subst hn'
      rw [List.getElem?_append_right (Nat.le_refl _)] at e
      simp only [Nat.sub_self, List.getElem?_cons_zero, Option.some.injEq] at e
      exact .inr ⟨rfl, e.symm⟩
  have ioO : ∀ {n : Nat}, n < S.length → (io ++ [p])[n]? = io[n]? := fun {n} h => List.getElem?_append_left (by rw [A.len]; exact h)
  have ioN : (io ++ [p])[S.length]? = some p := by
    rw [List.getElem?_append_right (by rw [A.len]; exact Nat.le_refl _), A.len]
    simp
  have notp : ∀ {n : Nat} {ob : O}, S[n]? = some ob → ob.isRo = false → io[n]? ≠ some p := fun {n ob} e hr z => by
    obtain ⟨a, ha, r'⟩ := A.obj n ob e
    rw [z] at ha
    cases ha
    have := r'.wr hr
    rw [hp] at this
    exact this.elim (fun z => z) fun ⟨_, _, z⟩ => nomatch z
  have cc : ∀ (c : Addr) (q : Str), NoIo io S c → H c = some (LamX.CodeO c q) → upd H p ho c = some (LamX.CodeO c q) ∧ NoIo (io ++ [p]) (S ++ [o]) c := fun c q hc e => ⟨by rw [upd_ne (ne_of_none e hp)]; exact e, fun j ob ej hj z => by
    rcases low ej with ⟨lj, fj⟩ | ⟨kj, qj⟩
    · rw [ioO lj] at z
      exact hc j ob fj hj z
    · rw [kj, ioN] at z
      cases z
      rw [hp] at e
      cases e⟩
  refine ⟨by simp [A.len], fun i j a oi oj ei ej ai aj ri rj => ?_, fun n ob e => ?_, fun q hq => (A.tb q hq).mono (fun ps e => by rw [upd_ne (ne_of_none e hp)]; exact e) fun c hc e => cc c _ hc e, fun q hq => by
    have := A.pre q hq
    rw [List.getElem?_append_left (List.getElem?_eq_some_iff.mp this).1]
    exact this, fun q hq => (A.cap q hq).mono0 (gr0_new hp), fun q hq => cc _ _ (A.co q hq).2 (A.co q hq).1⟩
  · rcases low ei with ⟨li, fi⟩ | ⟨ki, qi⟩ <;> rcases low ej with ⟨lj, fj⟩ | ⟨kj, qj⟩
    · rw [ioO li] at ai
      rw [ioO lj] at aj
      exact A.nd i j a oi oj fi fj ai aj ri rj
    · rw [ioO li] at ai
      rw [kj, ioN] at aj
      cases aj
      exact absurd ai (notp fi ri)
    · rw [ioO lj] at aj
      rw [ki, ioN] at ai
      cases ai
      exact absurd aj (notp fj rj)
    · rw [ki, kj]
  · rcases low e with ⟨ln, e⟩ | ⟨rfl, rfl⟩
    · obtain ⟨a, ha, r'⟩ := A.obj n ob e
      refine ⟨a, by rw [ioO ln]; exact ha, ?_⟩
      cases hr : ob.isRo with
      | true => exact r'.ro hr (gr0_new hp) fun x u hu => by rw [upd_ne (ne_of_none hu hp)]; exact hu
      | false => exact r'.mono (gr0_new hp) fun u hu => by rw [upd_ne (ne_of_none hu hp)]; exact hu
    · exact ⟨p, ioN, r⟩
/-- an object changed -/
theorem Abs.put (A : Abs K cl io S H) {n : Nat} {p : Addr} {ho : HO} {o o₀ : O} (hn : io[n]? = some p) (hS : S[n]? = some o₀) (hm : o₀.isRo = false) (hr : o.isRo = false) (r : RelO K cl io (upd H p ho) o p) : Abs K cl io (S.set n o) (upd H p ho) := by
  have mu : Wr (H p) := by
    obtain ⟨a, ha, r'⟩ := A.obj n o₀ hS
    rw [hn] at ha
    cases ha
    exact r'.wr hm
  have low : ∀ {j : Nat} {ob : O}, (S.set n o)[j]? = some ob → (j = n ∧ ob = o) ∨ (j ≠ n ∧ S[j]? = some ob) := fun {j ob} e => by
    by_cases hj : j = n
    · subst hj
      have hl : j < S.length := (List.getElem?_eq_some_iff.mp hS).1
      rw [List.getElem?_set_self hl] at e
      exact .inl ⟨rfl, (Option.some.inj e).symm⟩
    · rw [List.getElem?_set_ne (Ne.symm hj)] at e
      exact .inr ⟨hj, e⟩
  have ntb : ∀ ps, H p ≠ some (.tbl ps) := fun ps z => by
    obtain ⟨a, ha, r'⟩ := A.obj n o₀ hS
    rw [hn] at ha
    cases ha
    exact r'.ntbl hm ps z
  have cc : ∀ (c : Addr) (q : Str), NoIo io S c → H c = some (LamX.CodeO c q) → upd H p ho c = some (LamX.CodeO c q) ∧ NoIo io (S.set n o) c := fun c q hc e => ⟨by
    have : c ≠ p := fun z => hc n o₀ hS hm (by rw [z]; exact hn)
    rw [upd_ne this]; exact e, fun j ob ej hj z => by
      rcases low ej with ⟨kj, qj⟩ | ⟨_, fj⟩
      · rw [kj] at z
        exact hc n o₀ hS hm z
      · exact hc j ob fj hj z⟩
  refine ⟨by simp [A.len], fun i j a oi oj ei ej ai aj ri rj => ?_, fun j ob e => ?_, fun q hq => (A.tb q hq).mono (fun ps e => by
    have : q.1 ≠ p := fun z => ntb ps (by rw [← z]; exact e)
    rw [upd_ne this]; exact e) fun c hc e => cc c _ hc e, A.pre, fun q hq => (A.cap q hq).mono0 (gr0_upd (.inr mu)), fun q hq => cc _ _ (A.co q hq).2 (A.co q hq).1⟩
  · rcases low ei with ⟨ki, qi⟩ | ⟨_, fi⟩ <;> rcases low ej with ⟨kj, qj⟩ | ⟨_, fj⟩
    · rw [ki, kj]
    · subst ki
      exact A.nd _ _ a o₀ oj hS fj ai aj hm rj
    · subst kj
      exact A.nd _ _ a oi o₀ fi hS ai aj ri hm
    · exact A.nd _ _ a oi oj fi fj ai aj ri rj
  · rcases low e with ⟨rfl, rfl⟩ | ⟨hj, e⟩
    · exact ⟨p, hn, r⟩
    · obtain ⟨a, ha, r'⟩ := A.obj j ob e
      refine ⟨a, ha, ?_⟩
      cases hrb : ob.isRo with
      | true =>
        refine r'.ro hrb (gr0_upd (.inr mu)) fun x u hu => ?_
        have : a ≠ p := by
          rintro rfl
          rw [hu] at mu
          exact mu.elim (fun z => z) fun ⟨_, _, z, m⟩ => by cases z; exact m
        rw [upd_ne this]; exact hu
      | false =>
        refine r'.mono (gr0_upd (.inr mu)) fun u hu => ?_
        have : a ≠ p := by
          rintro rfl
          exact hj (A.nd _ _ a ob o₀ e hS ha hn hrb hm)
        rw [upd_ne this]; exact hu
end
end MP
/-! MP2 -/
set_option Elab.async false
set_option autoImplicit false
set_option linter.all false
set_option maxRecDepth 100000
namespace MP
open PySem PySem.Spec L2

theorem RelRho.get {K : PySem.W.Frag} {io : List Addr} {H : Hp} : ∀ {ρ : Rho} {σ : St} {i : Nat} {d : D}, RelRho K io H ρ σ → ρ[i]? = some (some d) → ∃ v, σ[i]? = some (some v) ∧ RelD K io H d v
  | _, _, _, _, .nil, e => by simp at e
  | o :: _, p :: _, 0, d, .cons r _, e => by
    simp only [List.getElem?_cons_zero, Option.some.injEq] at e
    subst e
    cases p with
    | none => exact False.elim r
    | some v => exact ⟨v, rfl, r⟩
  | _, _, i + 1, d, .cons _ t, e => by
    simp only [List.getElem?_cons_succ] at e ⊢
    exact RelRho.get t e
theorem RelRho.set {K : PySem.W.Frag} {io : List Addr} {H : Hp} {d : D} {v : V} (r : RelD K io H d v) : ∀ {ρ : Rho} {σ : St} (i : Nat), RelRho K io H ρ σ → RelRho K io H (ρ.set i (some d)) (σ.set i (some v))
  | _, _, _, .nil => by simpa using Paired.nil
  | _, _, 0, .cons _ t => by simpa using Paired.cons (show RelC K io H (some d) (some v) from r) t
  | _, _, i + 1, .cons h t => by simpa using Paired.cons h (RelRho.set r i t)
theorem RelRho.setN {K : PySem.W.Frag} {io : List Addr} {H : Hp} {w : Option V} : ∀ {ρ : Rho} {σ : St} (i : Nat), RelRho K io H ρ σ → RelRho K io H (ρ.set i none) (σ.set i w)
  | _, _, _, .nil => by simpa using Paired.nil
  | _, _, 0, .cons _ t => by simpa using Paired.cons (show RelC K io H none w from trivial) t
  | _, _, i + 1, .cons h t => by simpa using Paired.cons h (RelRho.setN i t)
theorem RelRho.length {K : PySem.W.Frag} {io : List Addr} {H : Hp} {ρ : Rho} {σ : St} (r : RelRho K io H ρ σ) : ρ.length = σ.length := Paired.length r

def RelX (K : PySem.W.Frag) (cl : Cl) (io : List Addr) (H : Hp) (x : Exn) (c : Value) (d : Option Addr) : Prop :=
  ∃ C, cl.er x.cls = some C ∧ c = .ref C ∧ ((x.fs = [] ∧ d = none) ∨ ∃ dd ws, d = some dd ∧ H dd = some (.xd ws) ∧ RelFs K io H x.fs ws)

/-- the result is fine: it is covered, and an exception is one that is wished for -/
def Good (W : WX) (K : PySem.W.Frag) (cl : Cl) (io : List Addr) (H : Hp) (σ : St) {α : Type} : Rs α → Prop
  | .ok _ _ => True
  | .exn x S' => ∀ io' H' c d, Abs K cl io' S' H' → Grow K io H io' H' → RelX K cl io' H' x c d → W c d σ H'
  | .bad => False
section
variable {W : WX} {K : PySem.W.Frag} {cl : Cl} {io io' : List Addr} {H H' : Hp} {σ : St} {α β : Type}
theorem Good.mono {r : Rs α} (g : Grow K io H io' H') (h : Good W K cl io H σ r) : Good W K cl io' H' σ r := by
  cases r with
  | ok _ _ => trivial
  | exn x S' => exact fun io2 H2 c d a g' r => h io2 H2 c d a (g.trans g') r
  | bad => exact h
theorem Good.fst {r : Rs α} {f : α → Sto → Rs β} (h : Good W K cl io H σ (r.bind f)) : Good W K cl io H σ r := by
  cases r with
  | ok _ _ => trivial
  | exn x S' => exact h
  | bad => exact h
end

section
variable {X : Cx} {cl : Cl} {W : WX}
/-- what is known behind an expression -/
def EvP (X : Cx) (cl : Cl) (pins : List (Addr × Obj)) (σ : St) (io : List Addr) (H : Hp) (r : Rs D) (u : Value) (s' : Shared) : Prop :=
  ∃ d S' io' H' v, r = .ok d S' ∧ Inv X pins σ H' s' ∧ Abs X.K cl io' S' H' ∧ Grow X.K io H io' H' ∧ RelD X.K io' H' d v ∧ RelV v u
theorem EvP.back {pins : List (Addr × Obj)} {σ : St} {io io1 : List Addr} {H H1 : Hp} {r : Rs D} {u : Value} {s' : Shared} (g : Grow X.K io H io1 H1) (h : EvP X cl pins σ io1 H1 r u s') : EvP X cl pins σ io H r u s' := by
  obtain ⟨d, S', io', H', v, e, I, A, g', rd, rv⟩ := h
  exact ⟨d, S', io', H', v, e, I, A, g.trans g', rd, rv⟩
/-- the expression e computes m -/
structure EvE (X : Cx) (cl : Cl) (W : WX) (e : Expr) (m : M D) : Prop where
  run : ∀ (pins : List (Addr × Obj)) (s : Shared) (σ : St) (H : Hp) (io : List Addr) (ρ : Rho) (S : Sto), Inv X pins σ H s → Abs X.K cl io S H → RelRho X.K io H ρ σ → Good W X.K cl io H σ (m ρ S) →
    wpAny (model X.prog X.w) X.A (eval e X.env) (EvP X cl pins σ io H (m ρ S)) X.xe s
def tE (cl : Cl) (K : PySem.W.Frag) (W : WX) (m : M D) : TE := fun σ H Q =>
  ∃ io ρ S, Abs K cl io S H ∧ RelRho K io H ρ σ ∧ Good W K cl io H σ (m ρ S) ∧
    ∀ d S' io' H' v, m ρ S = .ok d S' → Abs K cl io' S' H' → Grow K io H io' H' → RelD K io' H' d v → Q v H'
theorem EvE.pe {e : Expr} {m : M D} (h : EvE X cl W e m) : PE X e (tE cl X.K W m) := by
  refine ⟨fun pins s σ H Q I ⟨io, ρ, S, A, R, G, k⟩ => ?_⟩
  refine thn (h.run pins s σ H io ρ S I A R G) fun u s' ⟨d, S', io', H', v, e, I', A', g, rd, rv⟩ => ?_
  exact ⟨v, H', I', rv, k d S' io' H' v e A' g rd⟩
theorem EvE.of_pe {e : Expr} {m : M D} {t : TE} (h : PE X e t)
    (k : ∀ σ H io ρ S, Abs X.K cl io S H → RelRho X.K io H ρ σ → Good W X.K cl io H σ (m ρ S) → t σ H fun v H' => ∃ d S' io', m ρ S = .ok d S' ∧ Abs X.K cl io' S' H' ∧ Grow X.K io H io' H' ∧ RelD X.K io' H' d v) : EvE X cl W e m := by
  refine ⟨fun pins s σ H io ρ S I A R G => ?_⟩
  refine thn (h.run pins s σ H _ I (k σ H io ρ S A R G)) fun u s' ⟨v, H', I', rv, d, S', io', e, A', g, rd⟩ => ?_
  exact ⟨d, S', io', H', v, e, I', A', g, rd, rv⟩

/-! tests -/
def TvP (X : Cx) (cl : Cl) (pins : List (Addr × Obj)) (σ : St) (io : List Addr) (H : Hp) (r : Rs Bool) (b : Bool) (s' : Shared) : Prop :=
  ∃ S' io' H', r = .ok b S' ∧ Inv X pins σ H' s' ∧ Abs X.K cl io' S' H' ∧ Grow X.K io H io' H'
theorem TvP.back {pins : List (Addr × Obj)} {σ : St} {io io1 : List Addr} {H H1 : Hp} {r : Rs Bool} {u : Bool} {s' : Shared} (g : Grow X.K io H io1 H1) (h : TvP X cl pins σ io1 H1 r u s') : TvP X cl pins σ io H r u s' := by
  obtain ⟨S', io', H', e, I, A, g'⟩ := h
  exact ⟨S', io', H', e, I, A, g.trans g'⟩
/-- as a test, whatever the value's own run is -/
structure EvW (X : Cx) (cl : Cl) (W : WX) (e : Expr) (m : M Bool) : Prop where
  run : ∀ (whole : Sem Value) (pins : List (Addr × Obj)) (s : Shared) (σ : St) (H : Hp) (io : List Addr) (ρ : Rho) (S : Sto), Inv X pins σ H s → Abs X.K cl io S H → RelRho X.K io H ρ σ → Good W X.K cl io H σ (m ρ S) →
    wpAny (model X.prog X.w) X.A (isTrue e X.env whole) (TvP X cl pins σ io H (m ρ S)) X.xe s
structure EvT (X : Cx) (cl : Cl) (W : WX) (e : Expr) (m : M Bool) : Prop where
  run : ∀ (pins : List (Addr × Obj)) (s : Shared) (σ : St) (H : Hp) (io : List Addr) (ρ : Rho) (S : Sto), Inv X pins σ H s → Abs X.K cl io S H → RelRho X.K io H ρ σ → Good W X.K cl io H σ (m ρ S) →
    wpAny (model X.prog X.w) X.A (isTrue e X.env (eval e X.env)) (TvP X cl pins σ io H (m ρ S)) X.xe s
theorem EvW.t {e : Expr} {m : M Bool} (h : EvW X cl W e m) : EvT X cl W e m := ⟨h.run _⟩
def tT (cl : Cl) (K : PySem.W.Frag) (W : WX) (m : M Bool) : TT := fun σ H Q =>
  ∃ io ρ S, Abs K cl io S H ∧ RelRho K io H ρ σ ∧ Good W K cl io H σ (m ρ S) ∧
    ∀ b S' io' H', m ρ S = .ok b S' → Abs K cl io' S' H' → Grow K io H io' H' → Q b H'
theorem EvT.pt {e : Expr} {m : M Bool} (h : EvT X cl W e m) : PT X e (tT cl X.K W m) := by
  refine ⟨fun pins s σ H Q I ⟨io, ρ, S, A, R, G, k⟩ => ?_⟩
  refine thn (h.run pins s σ H io ρ S I A R G) fun u s' ⟨S', io', H', e, I', A', g⟩ => ?_
  exact ⟨H', I', k u S' io' H' e A' g⟩

/-! lists of expressions -/
def AvP (X : Cx) (cl : Cl) (pins : List (Addr × Obj)) (σ : St) (io : List Addr) (H : Hp) (r : Rs (List D)) (us : List Value) (s' : Shared) : Prop :=
  ∃ ds S' io' H' vs, r = .ok ds S' ∧ Inv X pins σ H' s' ∧ Abs X.K cl io' S' H' ∧ Grow X.K io H io' H' ∧ RelDs X.K io' H' ds vs ∧ Vals vs us
structure EvA (X : Cx) (cl : Cl) (W : WX) (es : List Expr) (m : M (List D)) : Prop where
  run : ∀ (pos : Pos) (pins : List (Addr × Obj)) (s : Shared) (σ : St) (H : Hp) (io : List Addr) (ρ : Rho) (S : Sto), Inv X pins σ H s → Abs X.K cl io S H → RelRho X.K io H ρ σ → Good W X.K cl io H σ (m ρ S) →
    wpAny (model X.prog X.w) X.A (spliced (backTo pos (starEach es X.env))) (AvP X cl pins σ io H (m ρ S)) X.xe s
def tA (cl : Cl) (K : PySem.W.Frag) (W : WX) (m : M (List D)) : TA := fun σ H Q =>
  ∃ io ρ S, Abs K cl io S H ∧ RelRho K io H ρ σ ∧ Good W K cl io H σ (m ρ S) ∧
    ∀ ds S' io' H' vs, m ρ S = .ok ds S' → Abs K cl io' S' H' → Grow K io H io' H' → RelDs K io' H' ds vs → Q vs H'
theorem EvA.pa {es : List Expr} {m : M (List D)} (h : EvA X cl W es m) : PA X es (tA cl X.K W m) := by
  refine ⟨fun pos pins s σ H Q I ⟨io, ρ, S, A, R, G, k⟩ => ?_⟩
  refine thn (h.run pos pins s σ H io ρ S I A R G) fun u s' ⟨d, S', io', H', v, e, I', A', g, rd, rv⟩ => ?_
  exact ⟨v, H', I', rv, k d S' io' H' v e A' g rd⟩

/-! ### values in, values out -/
abbrev F1 := D → Sto → Rs D
abbrev F2 := D → D → Sto → Rs D
abbrev FL := List D → Sto → Rs D
/-- an operation of two values -/
def OpS (X : Cx) (cl : Cl) (W : WX) (f : Value → Value → Sem Value) (g : F2) : Prop :=
  ∀ (pins : List (Addr × Obj)) (s : Shared) (σ : St) (H : Hp) (io : List Addr) (S : Sto) (x y : D) (vx vy : V) (u v : Value), Inv X pins σ H s → Abs X.K cl io S H → RelD X.K io H x vx → RelV vx u → RelD X.K io H y vy → RelV vy v →
    Good W X.K cl io H σ (g x y S) → wpAny (model X.prog X.w) X.A (f u v) (EvP X cl pins σ io H (g x y S)) X.xe s
/-- an operation of one value -/
def UnS (X : Cx) (cl : Cl) (W : WX) (f : Value → Sem Value) (g : F1) : Prop :=
  ∀ (pins : List (Addr × Obj)) (s : Shared) (σ : St) (H : Hp) (io : List Addr) (S : Sto) (x : D) (vx : V) (u : Value), Inv X pins σ H s → Abs X.K cl io S H → RelD X.K io H x vx → RelV vx u →
    Good W X.K cl io H σ (g x S) → wpAny (model X.prog X.w) X.A (f u) (EvP X cl pins σ io H (g x S)) X.xe s
/-- a call of a value -/
def CaS (X : Cx) (cl : Cl) (W : WX) (f : Value) (g : FL) : Prop :=
  ∀ (pins : List (Addr × Obj)) (s : Shared) (σ : St) (H : Hp) (io : List Addr) (S : Sto) (xs : List D) (vs : List V) (us : List Value), Inv X pins σ H s → Abs X.K cl io S H → RelDs X.K io H xs vs → Vals vs us →
    Good W X.K cl io H σ (g xs S) → wpAny (model X.prog X.w) X.A (call f us) (EvP X cl pins σ io H (g xs S)) X.xe s

/-! ### one after the other -/
section
variable {pins : List (Addr × Obj)} {s : Shared} {σ : St} {H : Hp} {io : List Addr} {ρ : Rho} {S : Sto} {α β : Type}
/-- a first expression, then what needs its value -/
theorem EvE.bind {e : Expr} {m : M D} (h : EvE X cl W e m) {f : D → Sto → Rs β} {Q : Value → Shared → Prop} (I : Inv X pins σ H s) (A : Abs X.K cl io S H) (R : RelRho X.K io H ρ σ) (G : Good W X.K cl io H σ ((m ρ S).bind f))
    (k : ∀ d S1 io1 H1 v u s1, m ρ S = .ok d S1 → Inv X pins σ H1 s1 → Abs X.K cl io1 S1 H1 → Grow X.K io H io1 H1 → RelRho X.K io1 H1 ρ σ → RelD X.K io1 H1 d v → RelV v u → Good W X.K cl io1 H1 σ (f d S1) → Q u s1) :
    wpAny (model X.prog X.w) X.A (eval e X.env) Q X.xe s := by
  refine thn (h.run pins s σ H io ρ S I A R G.fst) fun u s1 ⟨d, S1, io1, H1, v, e1, I1, A1, g1, rd, rv⟩ => ?_
  refine k d S1 io1 H1 v u s1 e1 I1 A1 g1 (RelRho.mono g1 R) rd rv ?_
  rw [e1] at G
  exact Good.mono g1 G
theorem EvT.bind {e : Expr} {m : M Bool} (h : EvT X cl W e m) {f : Bool → Sto → Rs β} {Q : Bool → Shared → Prop} (I : Inv X pins σ H s) (A : Abs X.K cl io S H) (R : RelRho X.K io H ρ σ) (G : Good W X.K cl io H σ ((m ρ S).bind f))
    (k : ∀ b S1 io1 H1 s1, m ρ S = .ok b S1 → Inv X pins σ H1 s1 → Abs X.K cl io1 S1 H1 → Grow X.K io H io1 H1 → RelRho X.K io1 H1 ρ σ → Good W X.K cl io1 H1 σ (f b S1) → Q b s1) :
    wpAny (model X.prog X.w) X.A (isTrue e X.env (eval e X.env)) Q X.xe s := by
  refine thn (h.run pins s σ H io ρ S I A R G.fst) fun u s1 ⟨S1, io1, H1, e1, I1, A1, g1⟩ => ?_
  refine k u S1 io1 H1 s1 e1 I1 A1 g1 (RelRho.mono g1 R) ?_
  rw [e1] at G
  exact Good.mono g1 G
theorem EvA.bind {es : List Expr} {pos : Pos} {m : M (List D)} (h : EvA X cl W es m) {f : List D → Sto → Rs β} {Q : List Value → Shared → Prop} (I : Inv X pins σ H s) (A : Abs X.K cl io S H) (R : RelRho X.K io H ρ σ) (G : Good W X.K cl io H σ ((m ρ S).bind f))
    (k : ∀ ds S1 io1 H1 vs us s1, m ρ S = .ok ds S1 → Inv X pins σ H1 s1 → Abs X.K cl io1 S1 H1 → Grow X.K io H io1 H1 → RelRho X.K io1 H1 ρ σ → RelDs X.K io1 H1 ds vs → Vals vs us → Good W X.K cl io1 H1 σ (f ds S1) → Q us s1) :
    wpAny (model X.prog X.w) X.A (spliced (backTo pos (starEach es X.env))) Q X.xe s := by
  refine thn (h.run pos pins s σ H io ρ S I A R G.fst) fun u s1 ⟨d, S1, io1, H1, v, e1, I1, A1, g1, rd, rv⟩ => ?_
  refine k d S1 io1 H1 v u s1 e1 I1 A1 g1 (RelRho.mono g1 R) rd rv ?_
  rw [e1] at G
  exact Good.mono g1 G
end
end
end MP
/-! MP3 -/
set_option Elab.async false
set_option autoImplicit false
set_option linter.all false
set_option maxRecDepth 100000
namespace MP
open PySem PySem.Spec L2
open PyProof.Rows hiding St

/-! ## names, constants, tests, operators -/
def mVar (i : Nat) : M D := fun ρ S => match ρ[i]? with
  | some (some d) => .ok d S
  | _ => .bad
def mC (d : D) : M D := fun _ S => .ok d S
def mStr (x : Str) : M D := fun _ S => if okS x then .ok (.str x) S else .bad
def truD (S : Sto) : D → Option Bool
  | .non => some false
  | .bl b => some b
  | .int i => some (i != 0)
  | .str s => some ((s.length : Int) != 0)
  | .tup ds => some (!ds.isEmpty)
  | .ptr n => match S[n]? with
    | some (.lst ds) => some (!ds.isEmpty)
    | some (.rol ds) => some (!ds.isEmpty)
    | some (.dct kvs) => some (!kvs.isEmpty)
    | _ => none
def tru : D → Sto → Rs Bool := fun d S => match truD S d with
  | some b => .ok b S
  | none => .bad
def mTru (m : M D) : M Bool := fun ρ S => (m ρ S).bind tru
/-- a test whose value is a bool already -/
def blOf : D → Sto → Rs Bool
  | .bl b, S => .ok b S
  | _, _ => .bad
def mBl (m : M D) : M Bool := fun ρ S => (m ρ S).bind blOf
def mBin (g : F2) (a b : M D) : M D := fun ρ S => (a ρ S).bind fun x S1 => (b ρ S1).bind fun y S2 => g x y S2
def mUn (g : F1) (a : M D) : M D := fun ρ S => (a ρ S).bind fun x S1 => g x S1
def mIf {α : Type} (t : M Bool) (a b : M α) : M α := fun ρ S => (t ρ S).bind fun c S1 => if c = true then a ρ S1 else b ρ S1
def mNotT (t : M Bool) : M Bool := fun ρ S => (t ρ S).bind fun c S1 => .ok (!c) S1
def mAndT (a b : M Bool) : M Bool := fun ρ S => (a ρ S).bind fun c S1 => if c = true then b ρ S1 else .ok false S1
def mOrT (a b : M Bool) : M Bool := fun ρ S => (a ρ S).bind fun c S1 => if c = true then .ok true S1 else b ρ S1
/-- a and b, a or b as values -/
def mAndV (a b : M D) : M D := fun ρ S => (a ρ S).bind fun x S1 => (tru x S1).bind fun c S2 => if c = true then b ρ S2 else .ok x S2
def mOrV (a b : M D) : M D := fun ρ S => (a ρ S).bind fun x S1 => (tru x S1).bind fun c S2 => if c = true then .ok x S2 else b ρ S2
def mNotV (a : M D) : M D := fun ρ S => (a ρ S).bind fun x S1 => (tru x S1).bind fun c S2 => .ok (.bl (!c)) S2
/-- a op b op' c -/
def mChain (g g' : F2) (a b c : M D) : M D := fun ρ S => (a ρ S).bind fun x S1 => (b ρ S1).bind fun y S2 => (g x y S2).bind fun z S3 => (blOf z S3).bind fun k S4 =>
  if k = true then (c ρ S4).bind fun w S5 => g' y w S5 else .ok (.bl false) S4
def mNil : M (List D) := fun _ S => .ok [] S
def mCons (a : M D) (r : M (List D)) : M (List D) := fun ρ S => (a ρ S).bind fun x S1 => (r ρ S1).bind fun xs S2 => .ok (x :: xs) S2

section
variable {X : Cx} {cl : Cl} {W : WX} {pos : Pos}
theorem tru_rel {K : PySem.W.Frag} {io : List Addr} {S : Sto} {H : Hp} {d : D} {v : V} {b : Bool} (A : Abs K cl io S H) (r : RelD K io H d v) (h : truD S d = some b) : TruV K v H b := by
  cases r with
  | non => simp only [truD, Option.some.injEq] at h; exact h.symm
  | bl c => simp only [truD, Option.some.injEq] at h; exact h.symm
  | int i => simp only [truD, Option.some.injEq] at h; exact h.symm
  | str x hx => simp only [truD, Option.some.injEq] at h; exact ⟨hx.1, h.symm⟩
  | @tup a ds vs q rs =>
    simp only [truD, Option.some.injEq] at h
    refine .inr (.inl ⟨vs, q, ?_⟩)
    rw [← h]
    cases rs <;> rfl
  | @ptr n a q =>
    simp only [truD] at h
    cases e : S[n]? with
    | none => rw [e] at h; cases h
    | some o =>
      obtain ⟨a', qa, r⟩ := A.obj n o e
      rw [q] at qa
      cases qa
      rw [e] at h
      cases r with
      | @lst _ ds vs hH rs =>
        simp only [Option.some.injEq] at h
        refine .inl ⟨vs, SqL.of hH, ?_⟩
        rw [← h]
        cases rs <;> rfl
      | @rol _ ds vs hH rs =>
        simp only [Option.some.injEq] at h
        refine .inl ⟨vs, hH.sq, ?_⟩
        rw [← h]
        cases rs <;> rfl
      | @dct _ kvs ws hH rs =>
        simp only [Option.some.injEq] at h
        refine .inr (.inr ⟨ws, hH, ?_⟩)
        rw [← h]
        cases rs <;> rfl
      | ins _ _ _ => simp at h
      | exc _ _ _ => simp at h
      | lam => simp at h
      | rod _ _ => simp at h
      | vw _ _ => simp at h
      | dkt _ _ _ _ _ => simp at h
      | rkt _ _ _ _ _ => simp at h
/-- the truth of a value -/
theorem tru_run {A₀ : Around} {E : Value → Shared → Prop} {pins : List (Addr × Obj)} {s : Shared} {σ : L2.St} {H : Hp} {io : List Addr} {S : Sto} {d : D} {v : V} {u : Value} (I : Inv X pins σ H s) (A : Abs X.K cl io S H) (rd : RelD X.K io H d v) (rv : RelV v u)
    (G : Good W X.K cl io H σ (tru d S)) : wpAny (model X.prog X.w) X.A (truthy u) (TvP X cl pins σ io H (tru d S)) X.xe s := by
  unfold tru at G ⊢
  cases h : truD S d with
  | none => rw [h] at G; exact False.elim G
  | some b =>
    refine thn (tru_ok pins s σ H v u (fun k H' => H' = H ∧ k = b) I rv ⟨b, tru_rel A rd h, rfl, rfl⟩) fun k s' ⟨H', I', e, ek⟩ => ?_
    subst e; subst ek
    exact ⟨S, io, H', rfl, I', A, Grow.rfl'⟩

theorem ev_var {i : Nat} {x : Str} (hN : X.N[i]? = some x) (hv : Vis X.env.scope x) (hd : (x == ("__debug__" : Str)) = false) (hcd : (x == ("__classdict__" : Str)) = false) : EvE X cl W (.Name x pos) (mVar i) := by
  refine EvE.of_pe (pe_var hN hv hd hcd) fun σ H io ρ S A R G => ?_
  unfold mVar at G ⊢
  cases e : ρ[i]? with
  | none => rw [e] at G; exact False.elim G
  | some o =>
    cases o with
    | none => rw [e] at G; exact False.elim G
    | some d =>
      obtain ⟨v, hv', rd⟩ := R.get e
      exact ⟨v, hv', d, S, io, rfl, A, Grow.rfl', rd⟩
theorem ev_glob {x : Str} {d : D} {v : V} {u : Value} (hg : Gl X x) (hm : X.mg x = some u) (r : RelV v u) (rd : ∀ io H, RelD X.K io H d v) (hd : (x == ("__debug__" : Str)) = false) : EvE X cl W (.Name x pos) (mC d) :=
  EvE.of_pe (pe_glob hg hm r hd) fun σ H io ρ S A R G => ⟨d, S, io, rfl, A, Grow.rfl', rd io H⟩
theorem ev_int {i : Int} {j : Nat} : EvE X cl W (.Constant (.int i) j pos) (mC (.int i)) := EvE.of_pe pe_int fun σ H io ρ S A R G => ⟨_, S, io, rfl, A, Grow.rfl', .int i⟩
theorem ev_bl {b : Bool} {j : Nat} : EvE X cl W (.Constant (.bool b) j pos) (mC (.bl b)) := EvE.of_pe pe_bl fun σ H io ρ S A R G => ⟨_, S, io, rfl, A, Grow.rfl', .bl b⟩
theorem ev_non {j : Nat} : EvE X cl W (.Constant .none j pos) (mC .non) := EvE.of_pe pe_non fun σ H io ρ S A R G => ⟨_, S, io, rfl, A, Grow.rfl', .non⟩
theorem ev_str {x : Str} {j : Nat} : EvE X cl W (.Constant (.str x) j pos) (mStr x) := by
  refine EvE.of_pe pe_str fun σ H io ρ S A R G => ?_
  unfold mStr at G ⊢
  split at G
  · rename_i h
    exact ⟨_, S, io, by rw [if_pos h], A, Grow.rfl', .str x h⟩
  · exact False.elim G
theorem ev_bin {op : Operator} {a b : Expr} {ma mb : M D} {g : F2} (ho : OpS X cl W (binaryOp op) g) (ha : EvE X cl W a ma) (hb : EvE X cl W b mb) : EvE X cl W (.BinOp a op b pos) (mBin g ma mb) := by
  refine ⟨fun pins s σ H io ρ S I A R G => ?_⟩
  refine wpAny_BinOp (ha.bind I A R G fun x S1 io1 H1 vx u s1 e1 I1 A1 g1 R1 rx ru G1 => ?_)
  refine hb.bind I1 A1 R1 G1 fun y S2 io2 H2 vy v s2 e2 I2 A2 g2 R2 ry rv G2 => ?_
  refine thn (ho pins s2 σ H2 io2 S2 x y vx vy u v I2 A2 (rx.mono g2) ru ry rv G2) fun z s3 q => ?_
  have e : mBin g ma mb ρ S = g x y S2 := by unfold mBin; rw [e1, Rs.bind_ok, e2, Rs.bind_ok]
  rw [e]
  exact (q.back g2).back g1
theorem ev_cmp {op : CmpOp} {a b : Expr} {ma mb : M D} {g : F2} (ho : OpS X cl W (compareOp op) g) (ha : EvE X cl W a ma) (hb : EvE X cl W b mb) (hm : behindInMarks op b = false) : EvE X cl W (.Compare a [op] [b] pos) (mBin g ma mb) := by
  refine ⟨fun pins s σ H io ρ S I A R G => ?_⟩
  refine wpAny_Compare1 (ha.bind I A R G fun x S1 io1 H1 vx u s1 e1 I1 A1 g1 R1 rx ru G1 => ?_) hm
  refine hb.bind I1 A1 R1 G1 fun y S2 io2 H2 vy v s2 e2 I2 A2 g2 R2 ry rv G2 => ?_
  refine thn (ho pins s2 σ H2 io2 S2 x y vx vy u v I2 A2 (rx.mono g2) ru ry rv G2) fun z s3 q => ?_
  have e : mBin g ma mb ρ S = g x y S2 := by unfold mBin; rw [e1, Rs.bind_ok, e2, Rs.bind_ok]
  rw [e]
  exact (q.back g2).back g1
/-- what is left behind a value that must be a bool -/
theorem bl_run {Q : Bool → Shared → Prop} {pins : List (Addr × Obj)} {σ : L2.St} {io : List Addr} {H : Hp} {r : Rs D} {u : Value} {s' : Shared} (q : EvP X cl pins σ io H r u s') (G : Good W X.K cl io H σ (r.bind blOf))
    (k : ∀ b S1 io1 H1, r = .ok (.bl b) S1 → Inv X pins σ H1 s' → Abs X.K cl io1 S1 H1 → Grow X.K io H io1 H1 → Q b s') : wpAny (model X.prog X.w) X.A (truthy u) Q X.xe s' := by
  obtain ⟨d, S1, io1, H1, v, e, I1, A1, g1, rd, rv⟩ := q
  rw [e, Rs.bind_ok] at G
  cases rd with
  | bl b =>
    obtain rfl : u = Value.bool b := rv
    exact wpAny_truthy_bool (k b S1 io1 H1 e I1 A1 g1)
  | _ => exact False.elim G
theorem et_cmp {op : CmpOp} {a b : Expr} {ma mb : M D} {g : F2} (ho : OpS X cl W (compareOp op) g) (ha : EvE X cl W a ma) (hb : EvE X cl W b mb) (hm : behindInMarks op b = false) : EvT X cl W (.Compare a [op] [b] pos) (mBl (mBin g ma mb)) := by
  refine ⟨fun pins s σ H io ρ S I A R G => ?_⟩
  have G0 : Good W X.K cl io H σ (mBin g ma mb ρ S) := Good.fst (f := blOf) G
  refine wpAny_isTrue_Compare1 (ha.bind I A R G0 fun x S1 io1 H1 vx u s1 e1 I1 A1 g1 R1 rx ru G1 => ?_) hm
  refine hb.bind I1 A1 R1 G1 fun y S2 io2 H2 vy v s2 e2 I2 A2 g2 R2 ry rv G2 => ?_
  have e : mBin g ma mb ρ S = g x y S2 := by unfold mBin; rw [e1, Rs.bind_ok, e2, Rs.bind_ok]
  refine thn (ho pins s2 σ H2 io2 S2 x y vx vy u v I2 A2 (rx.mono g2) ru ry rv G2) fun z s3 q => ?_
  have q' := (q.back g2).back g1
  rw [← e] at q'
  refine bl_run q' G fun k S3 io3 H3 e3 I3 A3 g3 => ⟨S3, io3, H3, ?_, I3, A3, g3⟩
  unfold mBl
  rw [e3]
  rfl
theorem et_val {e : Expr} {m : M D} (h : EvE X cl W e m) (he : ∀ whole, isTrue e X.env whole = (do let v ← whole; standAt e.pos; holding [v] (truthy v))) : EvT X cl W e (mTru m) := by
  refine ⟨fun pins s σ H io ρ S I A R G => ?_⟩
  refine isTrue_plain (h.bind I A R G fun x S1 io1 H1 vx u s1 e1 I1 A1 g1 R1 rx ru G1 => ?_) (he _)
  have e : mTru m ρ S = tru x S1 := by unfold mTru; rw [e1, Rs.bind_ok]
  refine thn (tru_run (A₀ := X.A) (E := X.xe) I1 A1 rx ru G1) fun b s2 q => ?_
  rw [e]
  exact q.back g1
theorem et_not {a : Expr} {m : M Bool} (h : EvT X cl W a m) : EvT X cl W (.UnaryOp .Not a pos) (mNotT m) := by
  refine ⟨fun pins s σ H io ρ S I A R G => ?_⟩
  refine isTrue_not (h.bind I A R G fun c S1 io1 H1 s1 e1 I1 A1 g1 R1 G1 => ⟨S1, io1, H1, ?_, I1, A1, g1⟩)
  unfold mNotT
  rw [e1, Rs.bind_ok]
theorem ew_and1 {a : Expr} {m : M Bool} (h : EvT X cl W a m) : EvW X cl W (.BoolOp .And [a] pos) m := by
  refine ⟨fun wh pins s σ H io ρ S I A R G => ?_⟩
  refine isTrue_and (thn (h.run pins s σ H io ρ S I A R G) fun c s1 q => ?_)
  cases c with
  | true => exact isTrue_and_nil q
  | false => exact q
theorem ew_or1 {a : Expr} {m : M Bool} (h : EvT X cl W a m) : EvW X cl W (.BoolOp .Or [a] pos) m := by
  refine ⟨fun wh pins s σ H io ρ S I A R G => ?_⟩
  refine isTrue_or (thn (h.run pins s σ H io ρ S I A R G) fun c s1 q => ?_)
  cases c with
  | false => exact isTrue_or_nil q
  | true => exact q
theorem ew_and {a b : Expr} {rest : List Expr} {ma mb : M Bool} (ha : EvT X cl W a ma) (hb : EvW X cl W (.BoolOp .And (b :: rest) pos) mb) : EvW X cl W (.BoolOp .And (a :: b :: rest) pos) (mAndT ma mb) := by
  refine ⟨fun wh pins s σ H io ρ S I A R G => ?_⟩
  refine isTrue_and (ha.bind I A R G fun c S1 io1 H1 s1 e1 I1 A1 g1 R1 G1 => ?_)
  have e : mAndT ma mb ρ S = if c = true then mb ρ S1 else .ok false S1 := by unfold mAndT; rw [e1, Rs.bind_ok]
  rw [e]
  cases c with
  | true =>
    rw [if_pos rfl] at G1 ⊢
    exact thn (hb.run wh pins s1 σ H1 io1 ρ S1 I1 A1 R1 G1) fun b s2 q => q.back g1
  | false => exact ⟨S1, io1, H1, by rw [if_neg Bool.false_ne_true], I1, A1, g1⟩
theorem ew_or {a b : Expr} {rest : List Expr} {ma mb : M Bool} (ha : EvT X cl W a ma) (hb : EvW X cl W (.BoolOp .Or (b :: rest) pos) mb) : EvW X cl W (.BoolOp .Or (a :: b :: rest) pos) (mOrT ma mb) := by
  refine ⟨fun wh pins s σ H io ρ S I A R G => ?_⟩
  refine isTrue_or (ha.bind I A R G fun c S1 io1 H1 s1 e1 I1 A1 g1 R1 G1 => ?_)
  have e : mOrT ma mb ρ S = if c = true then .ok true S1 else mb ρ S1 := by unfold mOrT; rw [e1, Rs.bind_ok]
  rw [e]
  cases c with
  | false =>
    rw [if_neg Bool.false_ne_true] at G1 ⊢
    exact thn (hb.run wh pins s1 σ H1 io1 ρ S1 I1 A1 R1 G1) fun b s2 q => q.back g1
  | true => exact ⟨S1, io1, H1, by rw [if_pos rfl], I1, A1, g1⟩
theorem ev_one {op : BoolOp} {a : Expr} {m : M D} (h : EvE X cl W a m) : EvE X cl W (.BoolOp op [a] pos) m := ⟨fun pins s σ H io ρ S I A R G => BoolOp_one (h.run pins s σ H io ρ S I A R G)⟩
theorem ev_and {a b : Expr} {rest : List Expr} {ma mb : M D} (ha : EvE X cl W a ma) (hb : EvE X cl W (.BoolOp .And (b :: rest) pos) mb) : EvE X cl W (.BoolOp .And (a :: b :: rest) pos) (mAndV ma mb) := by
  refine ⟨fun pins s σ H io ρ S I A R G => ?_⟩
  refine BoolOp_and (ha.bind I A R G fun x S1 io1 H1 vx u s1 e1 I1 A1 g1 R1 rx ru G1 => ?_)
  have e : mAndV ma mb ρ S = (tru x S1).bind fun c S2 => if c = true then mb ρ S2 else .ok x S2 := by unfold mAndV; rw [e1, Rs.bind_ok]
  refine thn (tru_run (A₀ := X.A) (E := X.xe) I1 A1 rx ru (Good.fst G1)) fun c s2 ⟨S2, io2, H2, e2, I2, A2, g2⟩ => ?_
  rw [e, e2, Rs.bind_ok]
  rw [e2, Rs.bind_ok] at G1
  cases c with
  | true =>
    rw [if_pos rfl] at G1
    simp only [if_true]
    exact thn (hb.run pins s2 σ H2 io2 ρ S2 I2 A2 (RelRho.mono g2 R1) (Good.mono g2 G1)) fun b s3 q => (q.back g2).back g1
  | false => exact ⟨x, S2, io2, H2, vx, by simp, I2, A2, g1.trans g2, rx.mono g2, ru⟩
theorem ev_not {a : Expr} {m : M D} (h : EvE X cl W a m) : EvE X cl W (.UnaryOp .Not a pos) (mNotV m) := by
  refine ⟨fun pins s σ H io ρ S I A R G => ?_⟩
  refine UnaryOp_ (h.bind I A R G fun x S1 io1 H1 vx u s1 e1 I1 A1 g1 R1 rx ru G1 => ?_)
  refine not_of (thn (tru_run (A₀ := X.A) (E := X.xe) I1 A1 rx ru (Good.fst G1)) fun c s2 ⟨S2, io2, H2, e2, I2, A2, g2⟩ => ?_)
  refine ⟨.bl (!c), S2, io2, H2, .bl (!c), ?_, I2, A2, g1.trans g2, .bl _, rfl⟩
  unfold mNotV
  rw [e1, Rs.bind_ok, e2, Rs.bind_ok]
theorem ev_un {op : UnaryOp} {a : Expr} {m : M D} {g : F1} (ho : UnS X cl W (unaryOp op) g) (h : EvE X cl W a m) : EvE X cl W (.UnaryOp op a pos) (mUn g m) := by
  refine ⟨fun pins s σ H io ρ S I A R G => ?_⟩
  refine UnaryOp_ (h.bind I A R G fun x S1 io1 H1 vx u s1 e1 I1 A1 g1 R1 rx ru G1 => ?_)
  have e : mUn g m ρ S = g x S1 := by unfold mUn; rw [e1, Rs.bind_ok]
  rw [e]
  exact thn (ho pins s1 σ H1 io1 S1 x vx u I1 A1 rx ru G1) fun z s2 q => q.back g1
theorem ev_if {c a b : Expr} {mc : M Bool} {ma mb : M D} (hc : EvT X cl W c mc) (ha : EvE X cl W a ma) (hb : EvE X cl W b mb) : EvE X cl W (.IfExp c a b pos) (mIf mc ma mb) := by
  refine ⟨fun pins s σ H io ρ S I A R G => ?_⟩
  refine wpAny_IfExp (hc.bind I A R G fun d S1 io1 H1 s1 e1 I1 A1 g1 R1 G1 => ?_)
  have e : mIf mc ma mb ρ S = if d = true then ma ρ S1 else mb ρ S1 := by unfold mIf; rw [e1, Rs.bind_ok]
  rw [e]
  cases d with
  | true =>
    rw [if_pos rfl] at G1 ⊢
    exact thn (ha.run pins s1 σ H1 io1 ρ S1 I1 A1 R1 G1) fun b s2 q => q.back g1
  | false =>
    rw [if_neg Bool.false_ne_true] at G1 ⊢
    exact thn (hb.run pins s1 σ H1 io1 ρ S1 I1 A1 R1 G1) fun b s2 q => q.back g1
theorem ev_chain {op op' : CmpOp} {a b c : Expr} {ma mb mc : M D} {g g' : F2} (ho : OpS X cl W (compareOp op) g) (ho' : OpS X cl W (compareOp op') g') (ha : EvE X cl W a ma) (hb : EvE X cl W b mb) (hc : EvE X cl W c mc)
    (hm : lastMarks [op, op'] [b, c] = false) : EvE X cl W (.Compare a [op, op'] [b, c] pos) (mChain g g' ma mb mc) := by
  refine ⟨fun pins s σ H io ρ S I A R G => ?_⟩
  refine Compare_chain (ha.bind I A R G fun x S1 io1 H1 vx u s1 e1 I1 A1 g1 R1 rx ru G1 => chain_link ?_) hm
  refine hb.bind I1 A1 R1 G1 fun y S2 io2 H2 vy v s2 e2 I2 A2 g2 R2 ry rv G2 => ?_
  have e : mChain g g' ma mb mc ρ S = (g x y S2).bind fun z S3 => (blOf z S3).bind fun k S4 => if k = true then (mc ρ S4).bind fun w S5 => g' y w S5 else .ok (.bl false) S4 := by unfold mChain; rw [e1, Rs.bind_ok, e2, Rs.bind_ok]
  rw [e]
  refine thn (ho pins s2 σ H2 io2 S2 x y vx vy u v I2 A2 (rx.mono g2) ru ry rv G2.fst) fun z s3 ⟨d, S3, io3, H3, vz, e3, I3, A3, g3, rz, rvz⟩ => ?_
  rw [e3, Rs.bind_ok] at G2 ⊢
  cases rz with
  | bl k =>
    obtain rfl : z = Value.bool k := rvz
    refine wpAny_truthy_bool ?_
    have G3 : Good W X.K cl io3 H3 σ (if k = true then (mc ρ S3).bind fun w S5 => g' y w S5 else .ok (.bl false) S3) := Good.mono g3 G2
    show (if k = true then _ else _)
    have gg : Grow X.K io H io3 H3 := (g1.trans g2).trans g3
    cases k with
    | false =>
      refine ite_ff ⟨.bl false, S3, io3, H3, .bl false, by simp [blOf], I3, A3, gg, .bl _, rfl⟩
    | true =>
      rw [if_pos rfl] at G3
      refine ite_tt (chain_last (hc.bind I3 A3 (RelRho.mono g3 R2) G3 fun w S4 io4 H4 vw uw s4 e4 I4 A4 g4 R4 rw' ruw G4 => ?_))
      refine thn (ho' pins s4 σ H4 io4 S4 y w vy vw v uw I4 A4 ((ry.mono g3).mono g4) rv rw' ruw G4) fun z s5 q => ?_
      have e5 : (Rs.bind (blOf (D.bl true) S3) fun k S4 => if k = true then (mc ρ S4).bind fun w S5 => g' y w S5 else Rs.ok (D.bl false) S4) = g' y w S4 := by simp [blOf, e4]
      rw [e5]
      exact (q.back g4).back gg
  | _ => exact False.elim G2

/-! ### lists of expressions, displays -/
theorem ea_nil : EvA X cl W [] mNil := ⟨fun _ pins s σ H io ρ S I A R G => Calls.spliced_nil ⟨[], S, io, H, [], rfl, I, A, Grow.rfl', .nil, .nil⟩⟩
theorem ea_cons {e : Expr} {es : List Expr} {m : M D} {r : M (List D)} (h : EvE X cl W e m) (hr : EvA X cl W es r) (hs : starEach (e :: es) X.env = (false, eval e X.env) :: starEach es X.env) : EvA X cl W (e :: es) (mCons m r) := by
  refine ⟨fun pos pins s σ H io ρ S I A R G => ?_⟩
  rw [hs]
  show wpAny _ _ (spliced ((false, eval e X.env) :: backTo pos (starEach es X.env))) _ _ s
  refine Calls.spliced_cons (h.bind I A R G fun x S1 io1 H1 vx u s1 e1 I1 A1 g1 R1 rx ru G1 => ?_)
  refine hr.bind I1 A1 R1 G1 fun xs S2 io2 H2 vs us s2 e2 I2 A2 g2 R2 rs rus G2 => ?_
  refine ⟨x :: xs, S2, io2, H2, vx :: vs, ?_, I2, A2, g1.trans g2, .cons (rx.mono g2) rs, .cons ru rus⟩
  unfold mCons
  rw [e1, Rs.bind_ok, e2, Rs.bind_ok]
end
end MP
/-! MP4 -/
set_option Elab.async false
set_option autoImplicit false
set_option linter.all false
set_option maxRecDepth 100000
namespace MP
open PySem PySem.Spec L2
open PyProof.Rows hiding St

/-! ## operators by values -/
def newL (ds : List D) : Sto → Rs D := fun S => .ok (.ptr S.length) (S ++ [.lst ds])
def listAt (S : Sto) (n : Nat) : Option (List D) := match S[n]? with
  | some (.lst ds) => some ds
  | some (.rol ds) => some ds
  | _ => none

/-- a dict, locked or not -/
def dctAt (S : Sto) (n : Nat) : Option (List (D × D)) := match S[n]? with
  | some (.dct kvs) => some kvs
  | some (.rod kvs) => some kvs
  | _ => none
section
variable {X : Cx} {cl : Cl} {W : WX} {pins : List (Addr × Obj)} {s : Shared} {σ : L2.St} {H : Hp} {io : List Addr} {S : Sto}
/-- what a rule of the hand layer is asked: the answer by res -/
abbrev AnsV (X : Cx) (cl : Cl) (io : List Addr) (H : Hp) (res : Rs D) : VK := fun v H' => ∃ d S' io', res = .ok d S' ∧ Abs X.K cl io' S' H' ∧ Grow X.K io H io' H' ∧ RelD X.K io' H' d v
theorem AnsV.here {d : D} {v : V} (A : Abs X.K cl io S H) (r : RelD X.K io H d v) : AnsV X cl io H (.ok d S) v H := ⟨d, S, io, rfl, A, Grow.rfl', r⟩
theorem AnsV.lst {ds : List D} {vs : List V} (A : Abs X.K cl io S H) (r : RelDs X.K io H ds vs) : ∀ p, H p = none → AnsV X cl io H (newL ds S) (.ref p) (upd H p (.lst vs)) := fun p hp => by
  have g : Grow X.K io H (io ++ [p]) (upd H p (.lst vs)) := grow_new hp
  refine ⟨_, _, _, rfl, A.new hp (.lst upd_same (r.mono g)), g, .ptr ?_⟩
  rw [List.getElem?_append_right (by rw [A.len]; exact Nat.le_refl _), A.len]
  simp
theorem AnsV.tup {ds : List D} {vs : List V} (A : Abs X.K cl io S H) (r : RelDs X.K io H ds vs) (hn : ds.all D.isP2 = false) : ∀ p, H p = none → AnsV X cl io H (.ok (.tup ds) S) (.ref p) (upd H p (.tup vs)) := fun p hp => by
  have g : Grow X.K io H io (upd H p (.tup vs)) := grow_upd (.inl hp)
  exact ⟨_, _, _, rfl, A.tup hp, g, .tup ⟨SqT.of upd_same, fun e => by rw [hn] at e; cases e⟩ (r.mono g)⟩
/-- a new tuple that has no dict of its own -/
theorem AnsV.tupF {ds : List D} {vs : List V} (A : Abs X.K cl io S H) (r : RelDs X.K io H ds vs) : ∀ (p : Addr) (ob : Obj), H p = none → ob.dict = none → AnsV X cl io H (.ok (.tup ds) S) (.ref p) (upd H p (.frz ob (.tup vs))) := fun p ob hp ho => by
  have g : Grow X.K io H io (upd H p (.frz ob (.tup vs))) := grow_upd (.inl hp)
  exact ⟨_, _, _, rfl, A.tup hp, g, .tup ⟨.inl (.inr ⟨ob, upd_same⟩), fun _ => .inl ⟨ob, vs, upd_same, ho⟩⟩ (r.mono g)⟩
theorem inv_newF {vs : List V} {us : List Value} (I : Inv X pins σ H s) (r : Vals vs us) (hz : vs.length ≤ sizeLine) : Inv X pins σ (upd H s.heap.objs.size (.frz { cls := .type "tuple", data := .seq us.toArray } (.tup vs))) { s with heap := s.heap.push { cls := .type "tuple", data := .seq us.toArray } } :=
  I.laid (t' := s.toks) (fun _ _ e => Heap.get?_push_of_some _ e) (Nat.le_refl _) ⟨Heap.get?_push_size _ rfl, hz, us, r, PyProof.Rows.IsTup.new _ _⟩
def rCatF (K : PySem.W.Frag) : R2 := fun x y H Q => ∃ a b xs ys, x = .ref a ∧ y = .ref b ∧ SqT K H a xs ∧ SqT K H b ys ∧ xs.length + ys.length ≤ sizeLine ∧
  (xs = [] → Q (.ref b) H) ∧ (xs ≠ [] → ys = [] → Q (.ref a) H) ∧ (xs ≠ [] → ys ≠ [] → ∀ p ob, H p = none → ob.dict = none → Q (.ref p) (upd H p (.frz ob (.tup (xs ++ ys)))))
theorem op_catF : OpR X (binaryOp .Add) (rCatF X.K) := by
  intro pins s σ H x y u v Q I rx ry h
  obtain ⟨a, b, xs, ys, rfl, rfl, ha, hb, hz, q0, q1, q2⟩ := h
  cases rx; cases ry
  obtain ⟨is, ra, pa, _⟩ := I.tuple ha
  obtain ⟨js, rb, pb, _⟩ := I.tuple hb
  by_cases hx : xs = []
  · subst hx
    cases ra
    exact cat_tup0 pa pb ⟨.ref b, _, I, rfl, q0 rfl⟩
  · refine HT.cat_tup pa pb (fun z => hx (ra.nil_iff.mp z)) (fun z => ⟨.ref a, _, I, rfl, q1 hx (rb.nil_iff.mp z)⟩) (fun z => ?_) (by rw [← ra.length, ← rb.length]; exact hz)
    exact ⟨.ref s.heap.objs.size, _, inv_newF I (ra.append rb) (by rw [List.length_append]; exact hz), rfl, q2 hx (fun w => z (rb.nil_iff.mpr w)) _ _ (I.hok.fresh (Nat.le_refl _)) rfl⟩
theorem AnsV.put {n : Nat} {p : Addr} {o o₀ : O} {ho : HO} {d : D} {v : V} (A : Abs X.K cl io S H) (hn : io[n]? = some p) (hS : S[n]? = some o₀) (hm : o₀.isRo = false) (hr : o.isRo = false) (mu : Mut (H p)) (r : RelO X.K cl io (upd H p ho) o p)
    (rd : RelD X.K io (upd H p ho) d v) : AnsV X cl io H (.ok d (S.set n o)) v (upd H p ho) := ⟨_, _, _, rfl, A.put hn hS hm hr r, grow_upd (.inr mu), rd⟩
theorem opr_use {f : Value → Value → Sem Value} {r : R2} {x y : V} {u v : Value} {res : Rs D} (h : OpR X f r) (I : Inv X pins σ H s) (ru : RelV x u) (rv : RelV y v) (k : r x y H (AnsV X cl io H res)) :
    wpAny (model X.prog X.w) X.A (f u v) (EvP X cl pins σ io H res) X.xe s := by
  refine thn (h pins s σ H x y u v _ I ru rv k) fun z s' ⟨w, H', I', rw', d, S', io', e, A', g', rd⟩ => ?_
  exact ⟨d, S', io', H', w, e, I', A', g', rd, rw'⟩
theorem ptr_obj {n : Nat} {a : Addr} {o : O} (A : Abs X.K cl io S H) (h : io[n]? = some a) (e : S[n]? = some o) : RelO X.K cl io H o a := by
  obtain ⟨a', h', r⟩ := A.obj n o e
  rw [h] at h'
  cases h'
  exact r
theorem ptr_list {n : Nat} {a : Addr} {ds : List D} (A : Abs X.K cl io S H) (h : io[n]? = some a) (e : listAt S n = some ds) : ∃ vs, SqL X.K H a vs ∧ RelDs X.K io H ds vs := by
  unfold listAt at e
  split at e
  · rename_i zs hz
    cases e
    cases ptr_obj A h hz with
    | lst hH r => exact ⟨_, SqL.of hH, r⟩
  · rename_i zs hz
    cases e
    cases ptr_obj A h hz with
    | rol hH r => exact ⟨_, hH.sq, r⟩
  · cases e
theorem ptr_dct {n : Nat} {a : Addr} {ds : List (D × D)} (A : Abs X.K cl io S H) (h : io[n]? = some a) (e : dctAt S n = some ds) : ∃ ws, Rd H a (.dK ws) ∧ RelKs X.K io H ds ws := by
  unfold dctAt at e
  split at e
  · rename_i zs hz
    cases e
    cases ptr_obj A h hz with
    | dct hH r => exact ⟨_, .inl hH, r⟩
  · rename_i zs hz
    cases e
    cases ptr_obj A h hz with
    | rod hH r => exact ⟨_, .inr ⟨_, hH⟩, r⟩
  · cases e
theorem dg_k {H : Hp} {a : Addr} {ws : List (Key × V)} {k : Key} (e : Rd H a (.dK ws)) : DGet H a (kV k) (valV ws k) := .inl ⟨ws, k, e, rfl, rfl⟩
end

/-! ### arithmetic -/
def addS : F2
  | .int i, .int j, S => .ok (.int (i + j)) S
  | .str a, .str b, S => if a.length + b.length ≤ sizeLine then .ok (.str (a ++ b)) S else .bad
  | .tup a, .tup b, S => if a.length + b.length ≤ sizeLine then .ok (.tup (a ++ b)) S else .bad
  | .ptr n, .ptr m, S => match S[n]?, S[m]? with
    | some (.lst a), some (.lst b) => if a.length + b.length ≤ sizeLine then newL (a ++ b) S else .bad
    | _, _ => .bad
  | _, _, _ => .bad
def subS : F2
  | .int i, .int j, S => .ok (.int (i - j)) S
  | _, _, _ => .bad
def mulS : F2
  | .int i, .int j, S => if (-(2 ^ 64) < i ∧ i < 2 ^ 64) ∨ (-(2 ^ 64) < j ∧ j < 2 ^ 64) then .ok (.int (i * j)) S else .bad
  | _, _, _ => .bad
def modS : F2
  | .int i, .int j, S => if 0 < j then .ok (.int (i % j)) S else .bad
  | _, _, _ => .bad
def fdivS : F2
  | .int i, .int j, S => if 0 < j ∧ j < 1073741824 then .ok (.int (i / j)) S else .bad
  | _, _, _ => .bad
def powS : F2
  | .int i, .int j, S => if 0 ≤ j ∧ j ≤ 1000000 ∧ i.natAbs < 2 ^ 64 then .ok (.int (i ^ j.toNat)) S else .bad
  | _, _, _ => .bad
def negS : F1
  | .int i, S => .ok (.int (-i)) S
  | _, _ => .bad

theorem okS_app {a b : Str} (ha : okS a) (hb : okS b) (h : a.length + b.length ≤ sizeLine) : okS (a ++ b) := by
  refine ⟨?_, ?_⟩
  · show (a.cps ++ b.cps).size ≤ sizeLine
    rw [Array.size_append]
    exact h
  · have h1 := ha.2
    have h2 := hb.2
    unfold PyData.strOk at *
    show (a.cps ++ b.cps).all _ = true
    rw [Array.all_append, h1, h2]
    rfl
section
variable {X : Cx} {cl : Cl} {W : WX}
theorem op_addS : OpS X cl W (binaryOp .Add) addS := by
  intro pins s σ H io S x y vx vy u v I A rx ru ry rv G
  cases rx with
  | int i =>
    cases ry with
    | int j => exact opr_use op_add I ru rv ⟨i, j, rfl, rfl, AnsV.here A (.int _)⟩
    | _ => exact False.elim G
  | str a ha =>
    cases ry with
    | str b hb =>
      simp only [addS] at G ⊢
      split at G
      · rename_i hz
        rw [if_pos hz]
        exact opr_use op_add_str I ru rv ⟨a, b, rfl, rfl, hz, AnsV.here A (.str _ (okS_app ha hb hz))⟩
      · exact False.elim G
    | _ => exact False.elim G
  | @tup p a va ha ra =>
    cases ry with
    | @tup q b vb hb rb =>
      simp only [addS] at G ⊢
      split at G
      · rename_i hz
        rw [if_pos hz]
        have hz' : va.length + vb.length ≤ sizeLine := by rw [← ra.length, ← rb.length]; exact hz
        refine opr_use op_catF I ru rv ⟨p, q, va, vb, rfl, rfl, ha, hb, hz', fun e => ?_, fun _ e => ?_, fun _ _ => AnsV.tupF A (ra.app rb)⟩
        · subst e
          cases ra
          exact AnsV.here A (.tup hb rb)
        · subst e
          cases rb
          rw [List.append_nil]
          exact AnsV.here A (.tup ha ra)
      · exact False.elim G
    | _ => exact False.elim G
  | @ptr n p hn =>
    cases ry with
    | @ptr m q hm =>
      simp only [addS] at G ⊢
      split at G
      · rename_i a b ea eb
        cases ptr_obj A hn ea with
        | lst ha ra =>
          cases ptr_obj A hm eb with
          | lst hb rb =>
            split at G
            · rename_i hz
              rw [if_pos hz]
              exact opr_use op_cat I ru rv ⟨p, q, _, _, rfl, rfl, ha, hb, by rw [← ra.length, ← rb.length]; exact hz, AnsV.lst A (ra.app rb)⟩
            · exact False.elim G
      · exact False.elim G
    | _ => exact False.elim G
  | _ => exact False.elim G
theorem op_mulS : OpS X cl W (binaryOp .Mult) mulS := by
  intro pins s σ H io S x y vx vy u v I A rx ru ry rv G
  cases rx with
  | int i =>
    cases ry with
    | int j =>
      simp only [mulS] at G ⊢
      split at G
      · rename_i hz
        rw [if_pos hz]
        exact opr_use op_mul I ru rv ⟨i, j, rfl, rfl, hz, AnsV.here A (.int _)⟩
      · exact False.elim G
    | _ => exact False.elim G
  | _ => exact False.elim G
theorem op_modS : OpS X cl W (binaryOp .Mod) modS := by
  intro pins s σ H io S x y vx vy u v I A rx ru ry rv G
  cases rx with
  | int i =>
    cases ry with
    | int j =>
      simp only [modS] at G ⊢
      split at G
      · rename_i hz
        rw [if_pos hz]
        exact opr_use op_mod I ru rv ⟨i, j, rfl, rfl, hz, AnsV.here A (.int _)⟩
      · exact False.elim G
    | _ => exact False.elim G
  | _ => exact False.elim G
theorem op_powS : OpS X cl W (binaryOp .Pow) powS := by
  intro pins s σ H io S x y vx vy u v I A rx ru ry rv G
  cases rx with
  | int i =>
    cases ry with
    | int j =>
      simp only [powS] at G ⊢
      split at G
      · rename_i hz
        rw [if_pos hz]
        exact opr_use op_pow I ru rv ⟨i, j, rfl, rfl, hz, AnsV.here A (.int _)⟩
      · exact False.elim G
    | _ => exact False.elim G
  | _ => exact False.elim G
theorem un_negS : UnS X cl W (unaryOp .USub) negS := by
  intro pins s σ H io S x vx u I A rx ru G
  cases rx with
  | int i =>
    refine thn (un_neg pins s σ H (.int i) u (AnsV X cl io H (.ok (.int (-i)) S)) I ru ⟨i, rfl, AnsV.here A (.int _)⟩) fun z s' ⟨w, H', I', rw', d, S', io', e, A', g', rd⟩ => ?_
    exact ⟨d, S', io', H', w, e, I', A', g', rd, rw'⟩
  | _ => exact False.elim G
end

/-! ### order of ints and texts -/
def strLt (a b : Str) : Bool := decide (a.cps.toList < b.cps.toList)
def ltS : F2
  | .int i, .int j, S => .ok (.bl (decide (i < j))) S
  | .str a, .str b, S => .ok (.bl (strLt a b)) S
  | _, _, _ => .bad
def leS : F2
  | .int i, .int j, S => .ok (.bl (decide (i ≤ j))) S
  | .str a, .str b, S => .ok (.bl (!strLt b a)) S
  | _, _, _ => .bad
def gtS : F2
  | .int i, .int j, S => .ok (.bl (decide (j < i))) S
  | .str a, .str b, S => .ok (.bl (strLt b a)) S
  | _, _, _ => .bad
def geS : F2
  | .int i, .int j, S => .ok (.bl (decide (j ≤ i))) S
  | .str a, .str b, S => .ok (.bl (!strLt a b)) S
  | _, _, _ => .bad
section
variable {X : Cx} {cl : Cl} {W : WX}
theorem op_ltS : OpS X cl W (compareOp .Lt) ltS := by
  intro pins s σ H io S x y vx vy u v I A rx ru ry rv G
  cases rx with
  | int i =>
    cases ry with
    | int j => exact opr_use op_lt I ru rv ⟨i, j, rfl, rfl, AnsV.here A (.bl _)⟩
    | _ => exact False.elim G
  | str a ha =>
    cases ry with
    | str b hb => exact opr_use op_lt_str I ru rv ⟨a, b, rfl, rfl, AnsV.here A (.bl _)⟩
    | _ => exact False.elim G
  | _ => exact False.elim G
theorem op_leS : OpS X cl W (compareOp .LtE) leS := by
  intro pins s σ H io S x y vx vy u v I A rx ru ry rv G
  cases rx with
  | int i =>
    cases ry with
    | int j => exact opr_use op_le I ru rv ⟨i, j, rfl, rfl, AnsV.here A (.bl _)⟩
    | _ => exact False.elim G
  | str a ha =>
    cases ry with
    | str b hb => exact opr_use op_le_str I ru rv ⟨a, b, rfl, rfl, AnsV.here A (.bl _)⟩
    | _ => exact False.elim G
  | _ => exact False.elim G
theorem op_gtS : OpS X cl W (compareOp .Gt) gtS := by
  intro pins s σ H io S x y vx vy u v I A rx ru ry rv G
  cases rx with
  | int i =>
    cases ry with
    | int j => exact opr_use op_gt I ru rv ⟨i, j, rfl, rfl, AnsV.here A (.bl _)⟩
    | _ => exact False.elim G
  | str a ha =>
    cases ry with
    | str b hb => exact opr_use op_gt_str I ru rv ⟨a, b, rfl, rfl, AnsV.here A (.bl _)⟩
    | _ => exact False.elim G
  | _ => exact False.elim G
theorem op_geS : OpS X cl W (compareOp .GtE) geS := by
  intro pins s σ H io S x y vx vy u v I A rx ru ry rv G
  cases rx with
  | int i =>
    cases ry with
    | int j => exact opr_use op_ge I ru rv ⟨i, j, rfl, rfl, AnsV.here A (.bl _)⟩
    | _ => exact False.elim G
  | str a ha =>
    cases ry with
    | str b hb => exact opr_use op_ge_str I ru rv ⟨a, b, rfl, rfl, AnsV.here A (.bl _)⟩
    | _ => exact False.elim G
  | _ => exact False.elim G
end

/-! ### equality of data, membership -/
/-- data as they are read: nested at most so deep -/
def view (S : Sto) : Nat → D → Option PyData
  | _, .non => some .none
  | _, .bl b => some (.bool b)
  | _, .int i => some (.int i)
  | _, .str x => some (.str x)
  | k + 1, .tup ds => (ds.mapM (view S k)).map .tuple
  | k + 1, .ptr n => match listAt S n with
    | some ds => (ds.mapM (view S k)).map .list
    | none => none
  | 0, .tup _ => none
  | 0, .ptr _ => none
def eqS : F2 := fun x y S => match view S 60 x, view S 60 y with
  | some p, some q => .ok (.bl (p.eqv q)) S
  | _, _ => .bad
def neS : F2 := fun x y S => match view S 60 x, view S 60 y with
  | some p, some q => .ok (.bl (!p.eqv q)) S
  | _, _ => .bad
def strIn (x z : Str) : Bool := match x.cps.toList with
  | [c] => decide (c ∈ z.cps.toList)
  | _ => !(Builtin.Str.occurrences z x 0 z.length 1).isEmpty
theorem strIn_cases (y z : Str) : (∃ c, y = ⟨#[c]⟩ ∧ strIn y z = decide (c ∈ z.cps.toList)) ∨ strIn y z = !(Builtin.Str.occurrences z y 0 z.length 1).isEmpty := by
  unfold strIn
  split
  · rename_i c hc
    refine .inl ⟨c, ?_, rfl⟩
    cases y with
    | mk a =>
      have : a = #[c] := by rw [← Array.toList_inj]; simpa using hc
      rw [this]
  · exact .inr rfl
def keyD : D → Option Key
  | .int i => some (.inl i)
  | .str x => some (.inr x)
  | _ => none
/-- the value at a key -/
def dget (kvs : List (D × D)) (k : D) : Option D := (kvs.find? fun p => decide (p.1 = k)).map (·.2)
def inB : D → D → Sto → Option Bool
  | x, .str z, _ => match x with
    | .str y => some (strIn y z)
    | _ => none
  | x, .tup ds, S => match view S 59 x, ds.mapM (view S 58) with
    | some p, some qs => some (qs.any fun q => q.eqv p)
    | _, _ => none
  | x, .ptr n, S => match dctAt S n with
    | some kvs => match keyD x with
      | some _ => some (dget kvs x).isSome
      | none => none
    | none => match listAt S n with
      | some ds => match view S 59 x, ds.mapM (view S 58) with
        | some p, some qs => some (qs.any fun q => q.eqv p)
        | _, _ => none
      | none => none
  | _, _, _ => none
def inS : F2 := fun x y S => match inB x y S with
  | some b => .ok (.bl b) S
  | none => .bad
def ninS : F2 := fun x y S => match inB x y S with
  | some b => .ok (.bl (!b)) S
  | none => .bad
def isS : F2
  | x, .non, S => .ok (.bl (decide (x = .non))) S
  | .bl a, .bl b, S => .ok (.bl (decide (a = b))) S
  | _, _, _ => .bad
def isntS : F2
  | x, .non, S => .ok (.bl (!decide (x = .non))) S
  | .bl a, .bl b, S => .ok (.bl (!decide (a = b))) S
  | _, _, _ => .bad

theorem mapM_cons_some {α β : Type} {f : α → Option β} {a : α} {l : List α} {r : List β} (h : (a :: l).mapM f = some r) : ∃ b bs, r = b :: bs ∧ f a = some b ∧ l.mapM f = some bs := by
  rw [List.mapM_cons] at h
  cases ha : f a with
  | none => rw [ha] at h; cases h
  | some b =>
    rw [ha] at h
    cases hl : l.mapM f with
    | none => rw [hl] at h; cases h
    | some bs =>
      rw [hl] at h
      cases h
      exact ⟨b, bs, rfl, rfl, rfl⟩

section
variable {X : Cx} {cl : Cl} {W : WX} {io : List Addr} {S : Sto} {H : Hp}
/-- what the machine reads is the view -/
theorem view_dp (A : Abs X.K cl io S H) : ∀ (k : Nat) (d : D) (v : V) (p : PyData), view S k d = some p → RelD X.K io H d v → Dp X.K H v p ∧ p.canLay0 = true ∧ p.depth ≤ k
  | k, .non, _, p, h, r => by
    cases r
    simp only [view, Option.some.injEq] at h
    subst h
    exact ⟨.non, rfl, Nat.zero_le _⟩
  | k, .bl b, _, p, h, r => by
    cases r
    simp only [view, Option.some.injEq] at h
    subst h
    exact ⟨.bl b, rfl, Nat.zero_le _⟩
  | k, .int i, _, p, h, r => by
    cases r
    simp only [view, Option.some.injEq] at h
    subst h
    exact ⟨.int i, rfl, Nat.zero_le _⟩
  | k, .str x, _, p, h, r => by
    cases r with
    | str _ hx =>
      simp only [view, Option.some.injEq] at h
      subst h
      exact ⟨.str x, hx.2, Nat.zero_le _⟩
  | 0, .tup ds, _, p, h, r => by simp [view] at h
  | 0, .ptr n, _, p, h, r => by simp [view] at h
  | k + 1, .tup ds, _, p, h, r => by
    have all : ∀ (es : List D) (ws : List V) (qs : List PyData), es.mapM (view S k) = some qs → RelDs X.K io H es ws → DpAll X.K H ws qs ∧ PyData.canLayAll0 qs = true ∧ PyData.depthAll qs ≤ k := by
      intro es
      induction es with
      | nil =>
        intro ws qs hq hr
        cases hr
        simp at hq
        subst hq
        exact ⟨.nil, rfl, Nat.zero_le _⟩
      | cons e es ih =>
        intro ws qs hq hr
        cases hr with
        | cons r1 r2 =>
          obtain ⟨b, bs, rfl, h1, h2⟩ := mapM_cons_some hq
          obtain ⟨p1, p2, p3⟩ := view_dp A k e _ b h1 r1
          obtain ⟨q1, q2, q3⟩ := ih _ bs h2 r2
          refine ⟨.cons p1 q1, ?_, ?_⟩
          · show (PyData.canLay0 b && PyData.canLayAll0 bs) = true
            rw [p2, q2]
            rfl
          · show max (PyData.depth b) (PyData.depthAll bs) ≤ k
            omega
    cases r with
    | tup hq rs =>
      simp only [view] at h
      cases hm : ds.mapM (view S k) with
      | none => rw [hm] at h; cases h
      | some qs =>
        rw [hm] at h
        cases h
        obtain ⟨a1, a2, a3⟩ := all ds _ qs hm rs
        exact ⟨.tup hq a1, a2, Nat.succ_le_succ a3⟩
  | k + 1, .ptr n, _, p, h, r => by
    have all : ∀ (es : List D) (ws : List V) (qs : List PyData), es.mapM (view S k) = some qs → RelDs X.K io H es ws → DpAll X.K H ws qs ∧ PyData.canLayAll0 qs = true ∧ PyData.depthAll qs ≤ k := by
      intro es
      induction es with
      | nil =>
        intro ws qs hq hr
        cases hr
        simp at hq
        subst hq
        exact ⟨.nil, rfl, Nat.zero_le _⟩
      | cons e es ih =>
        intro ws qs hq hr
        cases hr with
        | cons r1 r2 =>
          obtain ⟨b, bs, rfl, h1, h2⟩ := mapM_cons_some hq
          obtain ⟨p1, p2, p3⟩ := view_dp A k e _ b h1 r1
          obtain ⟨q1, q2, q3⟩ := ih _ bs h2 r2
          refine ⟨.cons p1 q1, ?_, ?_⟩
          · show (PyData.canLay0 b && PyData.canLayAll0 bs) = true
            rw [p2, q2]
            rfl
          · show max (PyData.depth b) (PyData.depthAll bs) ≤ k
            omega
    cases r with
    | ptr hn =>
      simp only [view] at h
      cases hl : listAt S n with
      | none => rw [hl] at h; cases h
      | some ds =>
        rw [hl] at h
        simp only at h
        obtain ⟨vs, hq, rs⟩ := ptr_list A hn hl
        cases hm : ds.mapM (view S k) with
        | none => rw [hm] at h; cases h
        | some qs =>
          rw [hm] at h
          cases h
          obtain ⟨a1, a2, a3⟩ := all ds _ qs hm rs
          exact ⟨.lst hq a1, a2, Nat.succ_le_succ a3⟩
theorem views_dp (A : Abs X.K cl io S H) (k : Nat) : ∀ (es : List D) (ws : List V) (qs : List PyData), es.mapM (view S k) = some qs → RelDs X.K io H es ws → DpAll X.K H ws qs ∧ PyData.canLayAll0 qs = true ∧ PyData.depthAll qs ≤ k := by
  intro es
  induction es with
  | nil =>
    intro ws qs hq hr
    cases hr
    simp at hq
    subst hq
    exact ⟨.nil, rfl, Nat.zero_le _⟩
  | cons e es ih =>
    intro ws qs hq hr
    cases hr with
    | cons r1 r2 =>
      obtain ⟨b, bs, rfl, h1, h2⟩ := mapM_cons_some hq
      obtain ⟨p1, p2, p3⟩ := view_dp A k e _ b h1 r1
      obtain ⟨q1, q2, q3⟩ := ih _ bs h2 r2
      refine ⟨.cons p1 q1, ?_, ?_⟩
      · show (PyData.canLay0 b && PyData.canLayAll0 bs) = true
        rw [p2, q2]
        rfl
      · show max (PyData.depth b) (PyData.depthAll bs) ≤ k
        omega
theorem shaped_of {p : PyData} (h1 : p.canLay0 = true) (h2 : p.depth ≤ 60) : SeqAt.shaped p = true := by
  unfold SeqAt.shaped
  rw [h1, Bool.true_and]
  exact decide_eq_true (by omega)
theorem op_eqS (hu : X.A.units + 65 < cLine) : OpS X cl W (compareOp .Eq) eqS := by
  intro pins s σ H io S x y vx vy u v I A rx ru ry rv G
  unfold eqS at G ⊢
  split at G
  · rename_i p q hp hq
    obtain ⟨p1, p2, p3⟩ := view_dp A 60 x vx p hp rx
    obtain ⟨q1, q2, q3⟩ := view_dp A 60 y vy q hq ry
    exact opr_use (op_eqD (by omega)) I ru rv ⟨p, q, p1, q1, shaped_of p2 p3, shaped_of q2 q3, AnsV.here A (.bl _)⟩
  · exact False.elim G
theorem op_neS (hu : X.A.units + 65 < cLine) : OpS X cl W (compareOp .NotEq) neS := by
  intro pins s σ H io S x y vx vy u v I A rx ru ry rv G
  unfold neS at G ⊢
  split at G
  · rename_i p q hp hq
    obtain ⟨p1, p2, p3⟩ := view_dp A 60 x vx p hp rx
    obtain ⟨q1, q2, q3⟩ := view_dp A 60 y vy q hq ry
    exact opr_use (op_neD (by omega)) I ru rv ⟨p, q, p1, q1, shaped_of p2 p3, shaped_of q2 q3, AnsV.here A (.bl _)⟩
  · exact False.elim G
theorem keyD_rel {x : D} {v : V} {k : Key} (h : keyD x = some k) (r : RelD X.K io H x v) : x = kD k ∧ v = kV k := by
  cases r with
  | int i => simp only [keyD, Option.some.injEq] at h; subst h; exact ⟨rfl, rfl⟩
  | str z _ => simp only [keyD, Option.some.injEq] at h; subst h; exact ⟨rfl, rfl⟩
  | _ => cases h
theorem keyD_ok {x : D} {v : V} {k : Key} (h : keyD x = some k) (r : RelD X.K io H x v) : okK k := by
  cases r with
  | int i => simp only [keyD, Option.some.injEq] at h; subst h; trivial
  | str z hz => simp only [keyD, Option.some.injEq] at h; subst h; exact hz
  | _ => cases h
theorem kD_inj {a b : Key} (e : kD a = kD b) : a = b := by
  cases a <;> cases b <;> simp [kD] at e ⊢ <;> exact e
/-- look-ups agree -/
theorem relKs_get {kvs : List (D × D)} {ws : List (Key × V)} (r : RelKs X.K io H kvs ws) (k : Key) :
    (dget kvs (kD k) = none ∧ valV ws k = none) ∨ ∃ d v, dget kvs (kD k) = some d ∧ valV ws k = some v ∧ RelD X.K io H d v := by
  induction r with
  | nil => exact .inl ⟨rfl, rfl⟩
  | @cons p q kvs ws h t ih =>
    obtain ⟨h1, _, h2⟩ := h
    by_cases e : q.1 = k
    · refine .inr ⟨p.2, q.2, ?_, valV_pos e, h2⟩
      simp [dget, List.find?_cons, h1, e]
    · have e' : ¬ p.1 = kD k := fun z => e (kD_inj (h1.symm.trans z))
      rw [valV_neg e]
      have : dget (p :: kvs) (kD k) = dget kvs (kD k) := by simp [dget, List.find?_cons, e']
      rw [this]
      exact ih
end
section
variable {X : Cx} {cl : Cl} {W : WX} {io : List Addr} {S : Sto} {H : Hp} {pins : List (Addr × Obj)} {s : Shared} {σ : L2.St}
/-- x in y, x not in y -/
theorem in_run (neg : Bool) (hu : X.A.units + 65 < cLine) {x y : D} {vx vy : V} {u v : Value} {b : Bool} (I : Inv X pins σ H s) (A : Abs X.K cl io S H) (rx : RelD X.K io H x vx) (ru : RelV vx u) (ry : RelD X.K io H y vy) (rv : RelV vy v) (h : inB x y S = some b) :
    wpAny (model X.prog X.w) X.A (compareOp (if neg then .NotIn else .In) u v) (EvP X cl pins σ io H (.ok (.bl (if neg then !b else b)) S)) X.xe s := by
  have data : ∀ {p : PyData} {qs : List PyData} {lst : Bool}, Dp X.K H vx p → p.canLay0 = true → p.depth ≤ 59 → Dp X.K H vy (if lst then .list qs else .tuple qs) → PyData.canLayAll0 qs = true → (qs.any fun q => q.eqv p) = b →
      wpAny (model X.prog X.w) X.A (compareOp (if neg then .NotIn else .In) u v) (EvP X cl pins σ io H (.ok (.bl (if neg then !b else b)) S)) X.xe s := by
    intro p qs lst hp c1 d1 hq c2 e
    obtain ⟨as, r1⟩ := Dp.reads I p vx u hp ru
    obtain ⟨bs, r2⟩ := Dp.reads I _ vy v hq rv
    have room : X.A.units + 1 + min (PyData.depthAll qs) p.depth < cLine := by omega
    have fin : ∀ c : Bool, EvP X cl pins σ io H (.ok (.bl c) S) (.bool c) s := fun c => ⟨_, S, io, H, .bl c, rfl, I, A, Grow.rfl', .bl c, rfl⟩
    cases lst <;> cases neg <;> simp only [if_true, Bool.false_eq_true, if_false] at r2 ⊢
    · exact SeqAt.in_tuple_reads r2 r1 c2 c1 room (by rw [e]; exact fin b)
    · exact SeqAt.notIn_tuple_reads r2 r1 c2 c1 room (by rw [e]; exact fin _)
    · exact SeqAt.in_list_reads r2 r1 c2 c1 room (by rw [e]; exact fin b)
    · exact SeqAt.notIn_list_reads r2 r1 c2 c1 room (by rw [e]; exact fin _)
  cases ry with
  | str z hz =>
    cases rx with
    | str y hy =>
      simp only [inB, Option.some.injEq] at h
      subst h
      rcases strIn_cases y z with ⟨c, ey, es⟩ | es
      · rw [es]
        subst ey
        cases neg with
        | false => exact opr_use op_in_sign I ru rv ⟨c, z, rfl, rfl, AnsV.here A (.bl _)⟩
        | true => exact opr_use op_notIn_sign I ru rv ⟨c, z, rfl, rfl, AnsV.here A (.bl _)⟩
      · rw [es]
        cases neg with
        | false => exact opr_use op_in_str I ru rv ⟨y, z, rfl, rfl, AnsV.here A (.bl _)⟩
        | true => exact opr_use op_notin_str I ru rv ⟨y, z, rfl, rfl, AnsV.here A (.bl _)⟩
    | _ => simp [inB] at h
  | @tup a ds vs hq rs =>
    simp only [inB] at h
    split at h
    · rename_i p qs hp hqs
      obtain ⟨p1, p2, p3⟩ := view_dp A 59 x vx p hp rx
      obtain ⟨q1, q2, q3⟩ := views_dp A 58 ds vs qs hqs rs
      exact data (lst := false) p1 p2 p3 (.tup hq q1) q2 (Option.some.inj h)
    · cases h
  | @ptr n a hn =>
    simp only [inB] at h
    split at h
    · rename_i kvs hk
      split at h
      · rename_i k hkey
        obtain ⟨ex, ev⟩ := keyD_rel hkey rx
        obtain ⟨ws, hH, rk⟩ := ptr_dct A hn hk
        have e : (valV ws k).isSome = b := by
          rw [← Option.some.inj h, ex]
          rcases relKs_get rk k with ⟨h1, h2⟩ | ⟨d, w, h1, h2, _⟩
          · rw [h1, h2]; rfl
          · rw [h1, h2]; rfl
        subst ev
        obtain rfl : v = Value.ref a := rv
        cases neg with
        | false =>
          refine d_in (by omega) I (dg_k (k := k) hH) ru fun s' I' => ?_
          rw [e]
          exact ⟨_, S, io, H, .bl b, rfl, I', A, Grow.rfl', .bl b, rfl⟩
        | true =>
          refine d_notIn (by omega) I (dg_k (k := k) hH) ru fun s' I' => ?_
          rw [e]
          exact ⟨_, S, io, H, .bl (!b), rfl, I', A, Grow.rfl', .bl _, rfl⟩
      · cases h
    · split at h
      · rename_i ds hl
        split at h
        · rename_i p qs hp hqs
          obtain ⟨vs, hq, rs⟩ := ptr_list A hn hl
          obtain ⟨p1, p2, p3⟩ := view_dp A 59 x vx p hp rx
          obtain ⟨q1, q2, q3⟩ := views_dp A 58 ds vs qs hqs rs
          exact data (lst := true) p1 p2 p3 (.lst hq q1) q2 (Option.some.inj h)
        · cases h
      · cases h
  | _ => simp [inB] at h
theorem op_inS (hu : X.A.units + 65 < cLine) : OpS X cl W (compareOp .In) inS := by
  intro pins s σ H io S x y vx vy u v I A rx ru ry rv G
  unfold inS at G ⊢
  split at G
  · rename_i b hb
    exact in_run false hu I A rx ru ry rv hb
  · exact False.elim G
theorem op_ninS (hu : X.A.units + 65 < cLine) : OpS X cl W (compareOp .NotIn) ninS := by
  intro pins s σ H io S x y vx vy u v I A rx ru ry rv G
  unfold ninS at G ⊢
  split at G
  · rename_i b hb
    exact in_run true hu I A rx ru ry rv hb
  · exact False.elim G
theorem non_iff {K : PySem.W.Frag} {x : D} {v : V} (r : RelD K io H x v) : decide (v = V.non) = decide (x = D.non) := by
  cases r <;> simp
theorem op_isS : OpS X cl W (compareOp .Is) isS := by
  intro pins s σ H io S x y vx vy u v I A rx ru ry rv G
  cases ry with
  | non =>
    have e : isS x .non S = .ok (.bl (decide (x = .non))) S := by cases x <;> rfl
    rw [e, ← non_iff rx]
    exact opr_use op_isN I ru rv ⟨rfl, AnsV.here A (.bl _)⟩
  | bl b =>
    cases rx with
    | bl a => exact opr_use op_isBl I ru rv ⟨a, b, rfl, rfl, AnsV.here A (.bl _)⟩
    | _ => exact False.elim G
  | _ => cases rx <;> exact False.elim G
end
end MP
/-! MP5 -/
set_option Elab.async false
set_option autoImplicit false
set_option linter.all false
set_option maxRecDepth 100000
namespace MP
open PySem PySem.Spec L2
open PyProof.Rows hiding St

/-! ## subscripts, slices, displays -/
def ixS : F2
  | .ptr n, k, S => match dctAt S n with
    | some kvs => match keyD k with
      | some _ => match dget kvs k with
        | some d => .ok d S
        | none => .bad
      | none => .bad
    | none => match listAt S n, k with
      | some ds, .int i => match atI ds i with
        | some d => .ok d S
        | none => .bad
      | _, _ => .bad
  | .tup ds, .int i, S => match atI ds i with
    | some d => .ok d S
    | none => .bad
  | .str z, .int i, S => match atI z.cps.toList i with
    | some c => .ok (.str ⟨#[c]⟩) S
    | none => .bad
  | _, _, _ => .bad
def cutD (ds : List D) (lo hi : Option Int) : List D := (ds.drop (HT.sIx ds.length 0 lo)).take (HT.sIx ds.length ds.length hi - HT.sIx ds.length 0 lo)
def slS : D → Option Int → Option Int → Sto → Rs D
  | .ptr n, lo, hi, S => match listAt S n with
    | some ds => newL (cutD ds lo hi) S
    | none => .bad
  | .tup ds, lo, hi, S => .ok (.tup (cutD ds lo hi)) S
  | .str z, lo, hi, S => .ok (.str (cutS z lo hi)) S
  | _, _, _, _ => .bad
abbrev MO := M (Option Int)
def mNoPart : MO := fun _ S => .ok none S
def intOf : D → Sto → Rs (Option Int)
  | .int i, S => .ok (some i) S
  | _, _ => .bad
def mPart (m : M D) : MO := fun ρ S => (m ρ S).bind intOf
def mSl (m : M D) (lo hi : MO) : M D := fun ρ S => (m ρ S).bind fun x S1 => (lo ρ S1).bind fun l S2 => (hi ρ S2).bind fun u S3 => slS x l u S3
def tupD : List D → Sto → Rs D := fun ds S => if ds.length ≤ sizeLine then .ok (.tup ds) S else .bad
def lstD : List D → Sto → Rs D := fun ds S => if ds.length ≤ sizeLine then newL ds S else .bad
def mDisp (g : List D → Sto → Rs D) (m : M (List D)) : M D := fun ρ S => (m ρ S).bind g
/-- the items of a starred value -/
def itemsOf : D → Sto → Option (List D)
  | .tup ds, _ => some ds
  | .ptr n, S => listAt S n
  | _, _ => none
def mStar (a : M D) (r : M (List D)) : M (List D) := fun ρ S => (a ρ S).bind fun x S1 => match itemsOf x S1 with
  | some ds => (r ρ S1).bind fun xs S2 => .ok (ds ++ xs) S2
  | none => .bad

section
variable {K : PySem.W.Frag} {io : List Addr} {H : Hp}
theorem RelDs.at {ds : List D} {vs : List V} (r : RelDs K io H ds vs) {i : Int} {d : D} (h : atI ds i = some d) : ∃ v, atI vs i = some v ∧ RelD K io H d v := by
  unfold atI at h ⊢
  rw [← r.length]
  cases e : ixN ds.length i with
  | none => rw [e] at h; cases h
  | some j =>
    rw [e] at h
    exact r.get h
theorem RelDs.cut {ds : List D} {vs : List V} (r : RelDs K io H ds vs) (lo hi : Option Int) : RelDs K io H (cutD ds lo hi) (cutV vs lo hi) := by
  unfold cutD cutV
  rw [r.length]
  exact (r.drop _).take _
theorem okS_sub {a b : Str} (h : okS a) (hl : b.length ≤ a.length) (hm : ∀ c ∈ b.cps.toList, c ∈ a.cps.toList) : okS b := by
  refine ⟨Nat.le_trans hl h.1, ?_⟩
  have h2 := h.2
  unfold PyData.strOk at *
  rw [← Array.all_toList] at *
  rw [List.all_eq_true] at *
  exact fun c hc => h2 c (hm c hc)
theorem okS_cut {z : Str} (h : okS z) (lo hi : Option Int) : okS (cutS z lo hi) := by
  refine okS_sub h ?_ fun c hc => ?_
  · show ((z.cps.toList.drop (HT.sIx z.length 0 lo)).take (HT.sIx z.length z.length hi - HT.sIx z.length 0 lo)).toArray.size ≤ z.cps.size
    simp only [List.size_toArray, List.length_take, List.length_drop, Array.length_toList]
    omega
  · have hc : c ∈ ((z.cps.toList.drop (HT.sIx z.length 0 lo)).take (HT.sIx z.length z.length hi - HT.sIx z.length 0 lo)).toArray.toList := hc
    exact List.mem_of_mem_drop (List.mem_of_mem_take (by simpa using hc))
theorem okS_one {z : Str} (h : okS z) {c : Nat} (hc : c ∈ z.cps.toList) : okS ⟨#[c]⟩ := by
  refine okS_sub h ?_ fun d hd => ?_
  · show 1 ≤ z.cps.size
    rw [← Array.length_toList]
    exact List.length_pos_of_mem hc
  · have : d = c := by simpa using hd
    subst this
    exact hc
end

section
variable {X : Cx} {cl : Cl} {W : WX} {pos : Pos}
theorem ev_ix {a b : Expr} {ma mb : M D} (hu : X.A.units + 1 < cLine) (ha : EvE X cl W a ma) (hb : EvE X cl W b mb) (hs : PlainIx b) : EvE X cl W (.Subscript a b pos) (mBin ixS ma mb) := by
  refine ⟨fun pins s σ H io ρ S I A R G => ?_⟩
  refine Subscript_ (ha.bind I A R G fun x S1 io1 H1 vx u s1 e1 I1 A1 g1 R1 rx ru G1 => ?_)
  refine hb.bind I1 A1 R1 G1 fun y S2 io2 H2 vy v s2 e2 I2 A2 g2 Rq2 ry rv G2 => ?_
  have e : mBin ixS ma mb ρ S = ixS x y S2 := by unfold mBin; rw [e1, Rs.bind_ok, e2, Rs.bind_ok]
  rw [e]
  have gg := g1.trans g2
  have use : ∀ {r : R2} {res : Rs D}, IxR X r → r vx vy H2 (AnsV X cl io2 H2 res) → wpAny (model X.prog X.w) X.A (subscriptTail a b u v) (EvP X cl pins σ io H res) X.xe s2 := fun {r res} hr k => by
    refine thn (hr a b pins s2 σ H2 vx vy u v _ I2 ru rv k (hs _ _)) fun z s' ⟨w, H', I', rw', d, S', io', e, A', g', rd⟩ => ?_
    exact ⟨d, S', io', H', w, e, I', A', gg.trans g', rd, rw'⟩
  have rx2 := rx.mono g2
  cases rx2 with
  | @ptr n p hn =>
    simp only [ixS] at G2 ⊢
    split at G2
    · rename_i kvs hk
      split at G2
      · rename_i k hkey
        split at G2
        · rename_i d hd
          obtain ⟨ey, ev⟩ := keyD_rel hkey ry
          obtain ⟨ws, hH, rk⟩ := ptr_dct A2 hn hk
          · rw [ey] at hd
            rcases relKs_get rk k with ⟨h1, _⟩ | ⟨d', w, h1, h2, rd⟩
            · rw [h1] at hd; cases hd
            · rw [h1] at hd
              cases hd
              subst ev
              obtain rfl : u = Value.ref p := ru
              have g : DGet H2 p (kV k) (some w) := by rw [← h2]; exact dg_k hH
              refine tail_any (dict_typeIs I2 g) PySem.F.slot_dict_getitem.lookup (d_getItem hu I2 g rv fun w' s3 I3 rw' => ?_) (hs _ _)
              exact ⟨d, S2, io2, H2, w, by simp [hkey, h1], I3, A2, gg, rd, rw'⟩
        · exact False.elim G2
      · exact False.elim G2
    · split at G2
      · rename_i i hl
        split at G2
        · rename_i d hd
          cases ry with
          | int i =>
            obtain ⟨vs, hq, rs⟩ := ptr_list A2 hn hl
            obtain ⟨w, hw, rd⟩ := rs.at hd
            exact use ix_list ⟨p, vs, i, w, rfl, rfl, hq, hw, AnsV.here A2 rd⟩
        · exact False.elim G2
      · exact False.elim G2
  | @tup p ds vs hq rs =>
    cases ry with
    | int i =>
      simp only [ixS] at G2 ⊢
      split at G2
      · rename_i d hd
        obtain ⟨w, hw, rd⟩ := rs.at hd
        exact use ix_tup ⟨p, vs, i, w, rfl, rfl, hq, hw, AnsV.here A2 rd⟩
      · exact False.elim G2
    | _ => exact False.elim G2
  | str z hz =>
    cases ry with
    | int i =>
      simp only [ixS] at G2 ⊢
      split at G2
      · rename_i c hc
        refine use ix_str ⟨z, i, c, rfl, rfl, hz.1, hc, AnsV.here A2 (.str _ (okS_one hz ?_))⟩
        obtain ⟨j, _, h, _⟩ := atI_get hc
        exact List.mem_of_getElem? h
      · exact False.elim G2
    | _ => exact False.elim G2
  | _ => exact False.elim G2

structure EvO (X : Cx) (cl : Cl) (W : WX) (e : Option Expr) (m : MO) : Prop where
  run : ∀ (pins : List (Addr × Obj)) (s : Shared) (σ : L2.St) (H : Hp) (io : List Addr) (ρ : Rho) (S : Sto), Inv X pins σ H s → Abs X.K cl io S H → RelRho X.K io H ρ σ → Good W X.K cl io H σ (m ρ S) →
    wpAny (model X.prog X.w) X.A (evalPart e X.env) (fun u s' => ∃ o S' io' H', m ρ S = .ok o S' ∧ Inv X pins σ H' s' ∧ Abs X.K cl io' S' H' ∧ Grow X.K io H io' H' ∧ IsPart u o) X.xe s
theorem eo_none : EvO X cl W none mNoPart := by
  refine ⟨fun pins s σ H io ρ S I A R G => ?_⟩
  rw [evalPart_none]
  exact wpAny_pure ⟨none, S, io, H, rfl, I, A, Grow.rfl', .none⟩
theorem eo_some {e : Expr} {m : M D} (h : EvE X cl W e m) : EvO X cl W (some e) (mPart m) := by
  refine ⟨fun pins s σ H io ρ S I A R G => ?_⟩
  rw [evalPart_some]
  refine h.bind I A R G fun x S1 io1 H1 vx u s1 e1 I1 A1 g1 R1 rx ru G1 => ?_
  cases rx with
  | int i =>
    obtain ⟨t, rfl⟩ := ru
    refine ⟨some i, S1, io1, H1, ?_, I1, A1, g1, .int i t⟩
    unfold mPart
    rw [e1]
    rfl
  | _ => exact False.elim G1
/-- t[lo:hi], the new tuple without a dict of its own -/
def rSlF (K : PySem.W.Frag) : V → Option Int → Option Int → Hp → VK → Prop := fun x lo hi H Q => ∃ a xs, x = .ref a ∧ SqT K H a xs ∧
  (HT.sIx xs.length 0 lo = 0 ∧ HT.sIx xs.length xs.length hi = xs.length → Q (.ref a) H) ∧ ∀ p ob, H p = none → ob.dict = none → Q (.ref p) (upd H p (.frz ob (.tup (cutV xs lo hi))))
theorem sl_tupF : SlR X (rSlF X.K) := by
  intro pins s σ H x u ul uh lo hi sl Q I rx hs pl pu h
  obtain ⟨a, xs, rfl, hx, q1, q2⟩ := h
  cases rx
  obtain ⟨is, r, ht, hz⟩ := I.tuple hx
  have hl : is.toArray.size = xs.length := by rw [List.size_toArray, r.length]
  refine ⟨"tuple", _, PyProof.Rows.slot_tuple_getitem.lookup, ht.typeIs, ?_⟩
  by_cases hw : HT.sIx xs.length 0 lo = 0 ∧ HT.sIx xs.length xs.length hi = xs.length
  · exact getItem_tuple_whole ht hs pl pu (by rw [hl]; exact hw) ⟨.ref a, _, I, rfl, q1 hw⟩
  · refine HT.getItem_tuple_cut ht hs pl pu (by rw [hl]; exact hw) ?_ (by rw [hl]; exact hz)
    rw [hl]
    exact ⟨.ref s.heap.objs.size, _, inv_newF I ((r.drop (HT.sIx xs.length 0 lo)).take (HT.sIx xs.length xs.length hi - HT.sIx xs.length 0 lo)) (Nat.le_trans (cutV_length xs lo hi) hz), rfl, q2 _ _ (I.hok.fresh (Nat.le_refl _)) rfl⟩
theorem ev_slice {ex : Expr} {lo hi : Option Expr} {m : M D} {ml mh : MO} {p2 : Pos} (he : EvE X cl W ex m) (hl : EvO X cl W lo ml) (hh : EvO X cl W hi mh) : EvE X cl W (.Subscript ex (.Slice lo hi none p2) pos) (mSl m ml mh) := by
  refine ⟨fun pins s σ H io ρ S I A R G => ?_⟩
  refine Subscript_ (he.bind I A R G fun x S1 io1 H1 vx u s1 e1 I1 A1 g1 R1 rx ru G1 => wpAny_Slice ?_)
  refine thn (hl.run pins s1 σ H1 io1 ρ S1 I1 A1 R1 G1.fst) fun vl s2 ⟨l, S2, io2, H2, e2, I2, A2, g2, pl⟩ => ?_
  rw [e2, Rs.bind_ok] at G1
  have G2 := Good.mono g2 G1
  refine thn (hh.run pins s2 σ H2 io2 ρ S2 I2 A2 (RelRho.mono g2 R1) G2.fst) fun vu s3 ⟨h, S3, io3, H3, e3, I3, A3, g3, ph⟩ => ?_
  rw [e3, Rs.bind_ok] at G2
  have G3 := Good.mono g3 G2
  have e : mSl m ml mh ρ S = slS x l h S3 := by unfold mSl; rw [e1, Rs.bind_ok, e2, Rs.bind_ok, e3, Rs.bind_ok]
  rw [e, evalPart_none]
  refine wpAny_pure ?_
  have gg := (g1.trans g2).trans g3
  have I4 : Inv X pins σ H3 { s3 with heap := s3.heap.push { cls := .type "slice", data := .fields #[vl, vu, .none] } } := I3.kept (t' := s3.toks) fun b ob q => Heap.get?_push_of_some _ q
  have use : ∀ {r : V → Option Int → Option Int → Hp → VK → Prop} {res : Rs D}, SlR X r → r vx l h H3 (AnsV X cl io3 H3 res) →
      wpAny (model X.prog X.w) X.A (subscriptTail ex (.Slice lo hi none p2) u (.ref s3.heap.objs.size)) (EvP X cl pins σ io H res) X.xe { s3 with heap := s3.heap.push { cls := .type "slice", data := .fields #[vl, vu, .none] } } := fun {r res} hr k => by
    obtain ⟨T, id, hT, ht, hg⟩ := hr pins _ σ H3 vx u vl vu l h s3.heap.objs.size _ I4 ru (Heap.IsSliceOf.new ..) pl ph k
    refine tail_any (ops := [.ref s3.heap.objs.size, u]) ht hT (thn hg fun z s' ⟨w, H', I', rw', d, S', io', e, A', g', rd⟩ => ?_) (by with_unfolding_all rfl)
    exact ⟨d, S', io', H', w, e, I', A', gg.trans g', rd, rw'⟩
  have rx2 := (rx.mono g2).mono g3
  cases rx2 with
  | @ptr n p hn =>
    simp only [slS] at G3 ⊢
    split at G3
    · rename_i ds hl
      obtain ⟨vs, hq, rs⟩ := ptr_list A3 hn hl
      exact use sl_list ⟨p, vs, rfl, hq, AnsV.lst A3 (rs.cut l h)⟩
    · exact False.elim G3
  | @tup p ds vs hq rs =>
    refine use sl_tupF ⟨p, vs, rfl, hq, fun ⟨q1, q2⟩ => ?_, AnsV.tupF A3 (rs.cut l h)⟩
    have : cutD ds l h = ds := by
      unfold cutD
      rw [rs.length, q1, q2, ← rs.length]
      simp
    show AnsV X cl io3 H3 (.ok (.tup (cutD ds l h)) S3) _ _
    rw [this]
    exact AnsV.here A3 (.tup hq rs)
  | str z hz => exact use sl_str ⟨z, rfl, hz.1, AnsV.here A3 (.str _ (okS_cut hz l h))⟩
  | _ => exact False.elim G3

/-! ### displays -/
/-- a display; the new tuple has no dict of its own -/
def tTupF (t : TA) : TE := fun σ H Q => t σ H fun xs H1 => xs.length ≤ sizeLine ∧ ∀ p ob, H1 p = none → ob.dict = none → Q (.ref p) (upd H1 p (.frz ob (.tup xs)))
theorem pe_tupF {es : List Expr} {t : TA} {x1 : Nat} (h : PA X es t) : PE X (.Tuple es x1 pos) (tTupF t) := ⟨fun pins s σ H Q I hq =>
  wpAny_Tuple_spliced (thn (h.run pos pins s σ H _ I hq) fun us s1 ⟨xs, H1, I1, r, z, q⟩ => ⟨by rw [← r.length]; exact z, .ref s1.heap.objs.size, _, inv_newF I1 r z, rfl, q _ _ (I1.hok.fresh (Nat.le_refl _)) rfl⟩)⟩
theorem ev_tup {es : List Expr} {x1 : Nat} {m : M (List D)} (h : EvA X cl W es m) : EvE X cl W (.Tuple es x1 pos) (mDisp tupD m) := by
  refine EvE.of_pe (pe_tupF h.pa) fun σ H io ρ S A R G => ?_
  refine ⟨io, ρ, S, A, R, Good.fst G, fun ds S1 io1 H1 vs e1 A1 g1 rs => ?_⟩
  have G1 : Good W X.K cl io H σ (tupD ds S1) := by
    unfold mDisp at G
    rw [e1] at G
    exact G
  have e : mDisp tupD m ρ S = tupD ds S1 := by unfold mDisp; rw [e1, Rs.bind_ok]
  rw [e]
  unfold tupD at G1 ⊢
  split at G1
  · rename_i hz
    rw [if_pos hz]
    refine ⟨by rw [← rs.length]; exact hz, fun p ob hp ho => ?_⟩
    obtain ⟨d, S2, io2, e2, A2, g2, rd⟩ := AnsV.tupF (cl := cl) A1 rs p ob hp ho
    exact ⟨d, S2, io2, e2, A2, g1.trans g2, rd⟩
  · exact False.elim G1
theorem ev_lst {es : List Expr} {m : M (List D)} (h : EvA X cl W es m) : EvE X cl W (.List es pos) (mDisp lstD m) := by
  refine EvE.of_pe (pe_lst h.pa) fun σ H io ρ S A R G => ?_
  refine ⟨io, ρ, S, A, R, Good.fst G, fun ds S1 io1 H1 vs e1 A1 g1 rs => ?_⟩
  have G1 : Good W X.K cl io H σ (lstD ds S1) := by
    unfold mDisp at G
    rw [e1] at G
    exact G
  have e : mDisp lstD m ρ S = lstD ds S1 := by unfold mDisp; rw [e1, Rs.bind_ok]
  rw [e]
  unfold lstD at G1 ⊢
  split at G1
  · rename_i hz
    rw [if_pos hz]
    refine ⟨by rw [← rs.length]; exact hz, fun p hp => ?_⟩
    obtain ⟨d, S2, io2, e2, A2, g2, rd⟩ := AnsV.lst (cl := cl) A1 rs p hp
    exact ⟨d, S2, io2, e2, A2, g1.trans g2, rd⟩
  · exact False.elim G1
theorem items_of {io : List Addr} {S : Sto} {H : Hp} {x : D} {v : V} {ds : List D} (A : Abs X.K cl io S H) (r : RelD X.K io H x v) (h : itemsOf x S = some ds) : ∃ p vs, v = .ref p ∧ (SqT X.K H p vs ∨ SqL X.K H p vs) ∧ RelDs X.K io H ds vs := by
  cases r with
  | tup hq rs =>
    simp only [itemsOf, Option.some.injEq] at h
    subst h
    exact ⟨_, _, rfl, .inl hq, rs⟩
  | ptr hn =>
    obtain ⟨vs, hq, rs⟩ := ptr_list A hn h
    exact ⟨_, _, rfl, .inr hq, rs⟩
  | _ => cases h
end
end MP
/-! MP6 -/
set_option Elab.async false
set_option autoImplicit false
set_option linter.all false
set_option maxRecDepth 100000
namespace MP
open PySem PySem.Spec L2
open PyProof.Rows hiding St

/-! ## methods of built-in types, by values -/
abbrev FM := D → List D → Sto → Rs D
def MtS (X : Cx) (cl : Cl) (W : WX) (id : String) (g : FM) : Prop :=
  ∀ (pins : List (Addr × Obj)) (s : Shared) (σ : L2.St) (H : Hp) (io : List Addr) (S : Sto) (x : D) (xs : List D) (vx : V) (vs : List V) (u : Value) (us : List Value), Inv X pins σ H s → Abs X.K cl io S H → RelD X.K io H x vx → RelV vx u → RelDs X.K io H xs vs → Vals vs us →
    Good W X.K cl io H σ (g x xs S) → wpAny (model X.prog X.w) X.A (call (.builtin id) (u :: us)) (EvP X cl pins σ io H (g x xs S)) X.xe s

def appendS : FM
  | .ptr n, [y], S => match S[n]? with
    | some (.lst xs) => if xs.length < sizeLine then .ok .non (S.set n (.lst (xs ++ [y]))) else .bad
    | _ => .bad
  | _, _, _ => .bad
def extendS : FM
  | .ptr n, [.ptr m], S => match S[n]?, S[m]? with
    | some (.lst xs), some (.lst ys) => if xs.length + ys.length ≤ sizeLine then .ok .non (S.set n (.lst (xs ++ ys))) else .bad
    | _, _ => .bad
  | _, _, _ => .bad
def popS : FM
  | .ptr n, [], S => match S[n]? with
    | some (.lst xs) => match xs[xs.length - 1]? with
      | some y => .ok y (S.set n (.lst xs.dropLast))
      | none => .bad
    | _ => .bad
  | .ptr n, [.int i], S => match S[n]? with
    | some (.lst xs) => if -(2 ^ 63) ≤ i ∧ i < 2 ^ 63 then match seqIndex? i xs.length with
        | some k => match xs[k]? with
          | some y => .ok y (S.set n (.lst (xs.eraseIdx k)))
          | none => .bad
        | none => .bad
      else .bad
    | _ => .bad
  | _, _, _ => .bad
def clearLS : FM
  | .ptr n, [], S => match S[n]? with
    | some (.lst _) => .ok .non (S.set n (.lst []))
    | _ => .bad
  | _, _, _ => .bad
def insertS : FM
  | .ptr n, [.int i, y], S => match S[n]? with
    | some (.lst xs) => if xs.length < sizeLine ∧ 0 ≤ i ∧ i < 2 ^ 63 ∧ i.toNat ≤ xs.length then .ok .non (S.set n (.lst (xs.take i.toNat ++ y :: xs.drop i.toNat))) else .bad
    | _ => .bad
  | _, _, _ => .bad
def dput (kvs : List (D × D)) (k v : D) : List (D × D) :=
  if kvs.any (fun p => decide (p.1 = k)) then kvs.map (fun p => if p.1 = k then (p.1, v) else p) else kvs ++ [(k, v)]
def ddrop (kvs : List (D × D)) (k : D) : List (D × D) := kvs.filter fun p => decide (p.1 ≠ k)
def getS : FM
  | .ptr n, k :: more, S => match dctAt S n with
    | some kvs => match keyD k, more with
      | some _, [] => .ok ((dget kvs k).getD .non) S
      | some _, [d] => .ok ((dget kvs k).getD d) S
      | _, _ => .bad
    | none => .bad
  | _, _, _ => .bad
def setdefaultS : FM
  | .ptr n, [k, d], S => match S[n]? with
    | some (.dct kvs) => match keyD k with
      | some _ => if kvs.length < sizeLine then match dget kvs k with
          | some v => .ok v S
          | none => .ok d (S.set n (.dct (dput kvs k d)))
        else .bad
      | none => .bad
    | _ => .bad
  | _, _, _ => .bad
def dmerge (kvs more : List (D × D)) : List (D × D) := more.foldl (fun acc p => dput acc p.1 p.2) kvs
def updateS : FM
  | .ptr n, [.ptr m], S => match S[n]?, S[m]? with
    | some (.dct kvs), some (.dct more) => if n ≠ m ∧ kvs.length + more.length ≤ sizeLine then .ok .non (S.set n (.dct (dmerge kvs more))) else .bad
    | _, _ => .bad
  | _, _, _ => .bad
def popDS : FM
  | .ptr n, [k], S => match S[n]? with
    | some (.dct kvs) => match keyD k with
      | some _ => match dget kvs k with
        | some v => .ok v (S.set n (.dct (ddrop kvs k)))
        | none => .bad
      | none => .bad
    | _ => .bad
  | _, _, _ => .bad
def viewS (T : String) : FM
  | .ptr n, [], S => match dctAt S n with
    | some _ => .ok (.ptr S.length) (S ++ [.vw T n])
    | none => .bad
  | _, _, _ => .bad
def strsOf : List D → Option (List Str)
  | [] => some []
  | .str x :: r => (strsOf r).map (x :: ·)
  | _ :: _ => none
def joinS : FM
  | .str a, [x], S => match itemsOf x S with
    | some ds => match strsOf ds with
      | some ys => if (ys.map (·.length)).sum + ys.length * a.length ≤ 16777216 then .ok (.str (Txt.join a ys)) S else .bad
      | none => .bad
    | none => .bad
  | _, _, _ => .bad

section
variable {X : Cx} {cl : Cl} {W : WX} {pins : List (Addr × Obj)} {s : Shared} {σ : L2.St} {H : Hp} {io : List Addr} {S : Sto}
theorem mtm_use {id : String} {r : V → List V → Hp → VK → Prop} {x : V} {xs : List V} {u : Value} {us : List Value} {res : Rs D} (h : MtM X id r) (I : Inv X pins σ H s) (ru : RelV x u) (rv : Vals xs us) (k : r x xs H (AnsV X cl io H res)) :
    wpAny (model X.prog X.w) X.A (call (.builtin id) (u :: us)) (EvP X cl pins σ io H res) X.xe s := by
  refine thn (h pins s σ H x xs u us _ I ru rv k) fun z s' ⟨w, H', I', rw', d, S', io', e, A', g', rd⟩ => ?_
  exact ⟨d, S', io', H', w, e, I', A', g', rd, rw'⟩
theorem mut_some {o : HO} {a : Addr} (h : H a = some o) (m : Mut (some o)) : Mut (H a) := by rw [h]; exact m
/-- a list changed: the answer -/
theorem AnsV.setL {n : Nat} {p : Addr} {ds es : List D} {vs ws : List V} {d : D} {v : V} (A : Abs X.K cl io S H) (hn : io[n]? = some p) (hS : S[n]? = some (.lst ds)) (hH : H p = some (.lst vs)) (r : RelDs X.K io H es ws) (rd : RelD X.K io H d v) :
    AnsV X cl io H (.ok d (S.set n (.lst es))) v (upd H p (.lst ws)) := by
  have mu : Mut (H p) := mut_some hH trivial
  have g : Grow X.K io H io (upd H p (.lst ws)) := grow_upd (.inr mu)
  exact AnsV.put A hn hS rfl rfl mu (.lst upd_same (r.mono g)) (rd.mono g)
theorem AnsV.setD {n : Nat} {p : Addr} {ds es : List (D × D)} {vs ws : List (Key × V)} {d : D} {v : V} (A : Abs X.K cl io S H) (hn : io[n]? = some p) (hS : S[n]? = some (.dct ds)) (hH : H p = some (.dK vs)) (r : RelKs X.K io H es ws) (rd : RelD X.K io H d v) :
    AnsV X cl io H (.ok d (S.set n (.dct es))) v (upd H p (.dK ws)) := by
  have mu : Mut (H p) := mut_some hH trivial
  have g : Grow X.K io H io (upd H p (.dK ws)) := grow_upd (.inr mu)
  exact AnsV.put A hn hS rfl rfl mu (.dct upd_same (paired_mono (fun _ _ z => ⟨z.1, z.2.1, z.2.2.mono g⟩) r)) (rd.mono g)
theorem relKs_any {kvs : List (D × D)} {ws : List (Key × V)} (r : RelKs X.K io H kvs ws) (k : Key) : (kvs.any fun p => decide (p.1 = kD k)) = ws.any fun q => decide (q.1 = k) := by
  induction r with
  | nil => rfl
  | @cons p q kvs ws h t ih =>
    rw [List.any_cons, List.any_cons, ih]
    congr 1
    by_cases e : q.1 = k
    · rw [decide_eq_true e, decide_eq_true (h.1.trans (by rw [e]))]
    · rw [decide_eq_false e, decide_eq_false fun z => e (kD_inj (h.1.symm.trans z))]
theorem relKs_map {kvs : List (D × D)} {ws : List (Key × V)} (r : RelKs X.K io H kvs ws) (k : Key) {d : D} {v : V} (rd : RelD X.K io H d v) :
    RelKs X.K io H (kvs.map fun p => if p.1 = kD k then (p.1, d) else p) (ws.map fun q => if q.1 = k then (q.1, v) else q) := by
  induction r with
  | nil => exact .nil
  | @cons p q kvs ws h t ih =>
    rw [List.map_cons, List.map_cons]
    refine .cons ?_ ih
    by_cases e : q.1 = k
    · rw [if_pos e, if_pos (h.1.trans (by rw [e]))]
      exact ⟨h.1, h.2.1, rd⟩
    · rw [if_neg e, if_neg fun z => e (kD_inj (h.1.symm.trans z))]
      exact h
theorem relKs_snoc {kvs : List (D × D)} {ws : List (Key × V)} (r : RelKs X.K io H kvs ws) (k : Key) (hk : okK k) {d : D} {v : V} (rd : RelD X.K io H d v) : RelKs X.K io H (kvs ++ [(kD k, d)]) (ws ++ [(k, v)]) := by
  induction r with
  | nil => exact .cons ⟨rfl, hk, rd⟩ .nil
  | cons h t ih => exact .cons h ih
theorem relKs_put {kvs : List (D × D)} {ws : List (Key × V)} (r : RelKs X.K io H kvs ws) (k : Key) (hk : okK k) {d : D} {v : V} (rd : RelD X.K io H d v) : RelKs X.K io H (dput kvs (kD k) d) (putK ws k v) := by
  unfold dput putK
  rw [relKs_any r k]
  split
  · exact relKs_map r k rd
  · exact relKs_snoc r k hk rd
theorem relKs_merge : ∀ {more : List (D × D)} {rs : List (Key × V)} {kvs : List (D × D)} {ws : List (Key × V)}, RelKs X.K io H more rs → RelKs X.K io H kvs ws → RelKs X.K io H (dmerge kvs more) (mergeK ws rs)
  | _, _, _, _, .nil, h => h
  | _, _, kvs, ws, .cons (a := p) (b := q) h t, h' => by
    show RelKs X.K io H (dmerge (dput kvs p.1 p.2) _) (mergeK (putK ws q.1 q.2) _)
    refine relKs_merge t ?_
    rw [h.1]
    exact relKs_put h' q.1 h.2.1 h.2.2
theorem relKs_length {kvs : List (D × D)} {ws : List (Key × V)} (r : RelKs X.K io H kvs ws) : kvs.length = ws.length := Paired.length r
end
section
variable {X : Cx} {cl : Cl} {W : WX}
theorem mt_appendS : MtS X cl W "list.append" appendS := by
  intro pins s σ H io S x xs vx vs u us I A rx ru rxs rus G
  unfold appendS at G ⊢
  split at G
  · rename_i n y
    split at G
    · rename_i ds hd
      split at G
      · rename_i hz
        rw [if_pos hz]
        cases rx with
        | @ptr _ p hn =>
          cases rxs with
          | cons ry rn =>
            cases rn
            cases ptr_obj A hn hd with
            | lst hH r => exact mtm_use mt_append I ru rus ⟨p, _, _, rfl, rfl, hH, by rw [← r.length]; exact hz, AnsV.setL A hn hd hH (r.app (.cons ry .nil)) .non⟩
      · exact False.elim G
    · exact False.elim G
  · exact False.elim G
theorem RelDs.dropLast {K : PySem.W.Frag} {io : List Addr} {H : Hp} {ds : List D} {vs : List V} (r : RelDs K io H ds vs) : RelDs K io H ds.dropLast vs.dropLast := by
  rw [List.dropLast_eq_take, List.dropLast_eq_take, r.length]
  exact r.take _
theorem mt_popS : MtS X cl W "list.pop" popS := by
  intro pins s σ H io S x xs vx vs u us I A rx ru rxs rus G
  unfold popS at G ⊢
  split at G
  · rename_i n
    split at G
    · rename_i ds hd
      split at G
      · rename_i y hy
        cases rx with
        | @ptr _ p hn =>
          cases rxs
          cases ptr_obj A hn hd with
          | @lst _ _ ws hH r =>
            obtain ⟨v, hv, rv⟩ := r.get hy
            exact mtm_use mt_pop I ru rus ⟨p, ws, v, rfl, rfl, hH, by rw [← r.length]; exact hv, AnsV.setL A hn hd hH r.dropLast rv⟩
      · exact False.elim G
    · exact False.elim G
  · rename_i n i
    split at G
    · rename_i ds hd
      split at G
      · rename_i hi
        rw [if_pos hi]
        split at G
        · rename_i k hk
          split at G
          · rename_i y hy
            cases rx with
            | @ptr _ p hn =>
              cases rxs with
              | cons ri rn =>
                cases rn
                cases ri
                cases ptr_obj A hn hd with
                | @lst _ _ ws hH r =>
                  obtain ⟨v, hv, rv⟩ := r.get hy
                  exact mtm_use mt_popAt I ru rus ⟨p, ws, i, k, v, rfl, rfl, hH, hi.1, hi.2, by rw [← r.length]; exact hk, hv, AnsV.setL A hn hd hH (r.erase k) rv⟩
          · exact False.elim G
        · exact False.elim G
      · exact False.elim G
    · exact False.elim G
  · exact False.elim G
end
end MP
/-! MP7 -/
set_option Elab.async false
set_option autoImplicit false
set_option linter.all false
set_option maxRecDepth 100000
namespace MP
open PySem PySem.Spec L2
open PyProof.Rows hiding St

/-! ## statements -/
inductive Fl where
  | nx (ρ : Rho) | brk (ρ : Rho) | cnt (ρ : Rho) | ret (d : D) | exn (x : Exn) (ρ : Rho)
abbrev MS := Rho → Sto → Rs Fl
abbrev MG := D → Rho → Sto → Rs Rho
def GoodS (W : WX) (K : PySem.W.Frag) (cl : Cl) (io : List Addr) (H : Hp) : Rs Fl → Prop
  | .ok (.exn x ρ') S' => ∀ io' H' c d σ', Abs K cl io' S' H' → Grow K io H io' H' → RelRho K io' H' ρ' σ' → RelX K cl io' H' x c d → W c d σ' H'
  | .ok _ _ => True
  | _ => False
theorem GoodS.mono {W : WX} {K : PySem.W.Frag} {cl : Cl} {io io' : List Addr} {H H' : Hp} {r : Rs Fl} (g : Grow K io H io' H') (h : GoodS W K cl io H r) : GoodS W K cl io' H' r := by
  cases r with
  | ok f S =>
    cases f with
    | exn x ρ => exact fun io2 H2 c d σ a g' rr r => h io2 H2 c d σ a (g.trans g') rr r
    | _ => trivial
  | _ => exact h
def FlQ (K : PySem.W.Frag) (io : List Addr) (H : Hp) (E : Ends) (σ : L2.St) : Fl → Prop
  | .nx ρ => RelRho K io H ρ σ → E.nx σ H
  | .brk ρ => RelRho K io H ρ σ → E.bk σ H
  | .cnt ρ => RelRho K io H ρ σ → E.ct σ H
  | .ret d => ∀ v, RelD K io H d v → E.rt v H
  | .exn _ _ => True
/-- the reading of a statement by its meaning -/
def tS (cl : Cl) (K : PySem.W.Frag) (W : WX) (m : MS) : TS := fun E σ H => ∃ io ρ S, Abs K cl io S H ∧ RelRho K io H ρ σ ∧ GoodS W K cl io H (m ρ S) ∧
  ∀ fl S' io' H' σ', m ρ S = .ok fl S' → Abs K cl io' S' H' → Grow K io H io' H' → FlQ K io' H' E σ' fl
theorem PS.imp {X : Cx} {st : Stmt} {t u : TS} (h : PS X st t) (k : ∀ E σ H, u E σ H → t E σ H) : PS X st u := ⟨fun pins s σ H E I q => h.run pins s σ H E I (k E σ H q)⟩
theorem PSs.imp {X : Cx} {st : List Stmt} {t u : TS} (h : PSs X st t) (k : ∀ E σ H, u E σ H → t E σ H) : PSs X st u := ⟨fun pins s σ H E I q => h.run pins s σ H E I (k E σ H q)⟩
abbrev StE (X : Cx) (cl : Cl) (W : WX) (st : Stmt) (m : MS) : Prop := PS X st (tS cl X.K W m)
abbrev SsE (X : Cx) (cl : Cl) (W : WX) (st : List Stmt) (m : MS) : Prop := PSs X st (tS cl X.K W m)

def mNx : MS := fun ρ S => .ok (.nx ρ) S
def mBrk : MS := fun ρ S => .ok (.brk ρ) S
def mCnt : MS := fun ρ S => .ok (.cnt ρ) S
def mNever : MS := fun _ _ => .bad
def mSeq (a b : MS) : MS := fun ρ S => match a ρ S with
  | .ok (.nx ρ1) S1 => b ρ1 S1
  | r => r
/-- an expression, then what its value leads to -/
def eS {α : Type} (m : M α) (k : α → MS) : MS := fun ρ S => match m ρ S with
  | .ok a S1 => k a ρ S1
  | .exn x S1 => .ok (.exn x ρ) S1
  | .bad => .bad
def mDrop (m : M D) : MS := eS m fun _ ρ S => .ok (.nx ρ) S
def mRet (m : M D) : MS := eS m fun d _ S => .ok (.ret d) S
def mRetN : MS := fun _ S => .ok (.ret .non) S
def mIfS (c : M Bool) (a b : MS) : MS := eS c fun k => if k then a else b
def asg (g : MG) : D → MS := fun d ρ S => match g d ρ S with
  | .ok ρ' S' => .ok (.nx ρ') S'
  | _ => .bad
def mAsg (m : M D) (g : MG) : MS := eS m (asg g)

section
variable {X : Cx} {cl : Cl} {W : WX} {pos : Pos}
theorem eS_good {α : Type} {K : PySem.W.Frag} {io : List Addr} {H : Hp} {σ : L2.St} {m : M α} {k : α → MS} {ρ : Rho} {S : Sto} (R : RelRho K io H ρ σ) (G : GoodS W K cl io H (eS m k ρ S)) : Good W K cl io H σ (m ρ S) := by
  unfold eS at G
  cases e : m ρ S with
  | ok a S1 => trivial
  | exn x S1 =>
    rw [e] at G
    exact fun io' H' c d A g r => G io' H' c d σ A g (RelRho.mono g R) r
  | bad => rw [e] at G; exact G
theorem eS_of {α : Type} {m : M α} {k : α → MS} {ρ : Rho} {S S1 : Sto} {a : α} (h : m ρ S = .ok a S1) : eS m k ρ S = k a ρ S1 := by unfold eS; rw [h]
/-- an expression's reading, out of a statement's -/
theorem tS_e {m : M D} {k : D → MS} {E : Ends} {σ : L2.St} {H : Hp} {Q : VK} (h : tS cl X.K W (eS m k) E σ H)
    (q : ∀ d v S1 io1 H1 ρ, Abs X.K cl io1 S1 H1 → RelRho X.K io1 H1 ρ σ → RelD X.K io1 H1 d v → GoodS W X.K cl io1 H1 (k d ρ S1) → (∀ fl S' io' H' σ', k d ρ S1 = .ok fl S' → Abs X.K cl io' S' H' → Grow X.K io1 H1 io' H' → FlQ X.K io' H' E σ' fl) → Q v H1) :
    tE cl X.K W m σ H Q := by
  obtain ⟨io, ρ, S, A, R, G, k1⟩ := h
  refine ⟨io, ρ, S, A, R, eS_good R G, fun d S1 io1 H1 v e A1 g1 rd => ?_⟩
  rw [eS_of e] at G k1
  exact q d v S1 io1 H1 ρ A1 (RelRho.mono g1 R) rd (GoodS.mono g1 G) fun fl S' io' H' σ' e' A' g' => k1 fl S' io' H' σ' e' A' (g1.trans g')
theorem tS_t {m : M Bool} {k : Bool → MS} {E : Ends} {σ : L2.St} {H : Hp} {Q : Bool → Hp → Prop} (h : tS cl X.K W (eS m k) E σ H)
    (q : ∀ b S1 io1 H1 ρ, Abs X.K cl io1 S1 H1 → RelRho X.K io1 H1 ρ σ → GoodS W X.K cl io1 H1 (k b ρ S1) → (∀ fl S' io' H' σ', k b ρ S1 = .ok fl S' → Abs X.K cl io' S' H' → Grow X.K io1 H1 io' H' → FlQ X.K io' H' E σ' fl) → Q b H1) :
    tT cl X.K W m σ H Q := by
  obtain ⟨io, ρ, S, A, R, G, k1⟩ := h
  refine ⟨io, ρ, S, A, R, eS_good R G, fun b S1 io1 H1 e A1 g1 => ?_⟩
  rw [eS_of e] at G k1
  exact q b S1 io1 H1 ρ A1 (RelRho.mono g1 R) (GoodS.mono g1 G) fun fl S' io' H' σ' e' A' g' => k1 fl S' io' H' σ' e' A' (g1.trans g')

theorem ss_nil : SsE X cl W [] mNx := PSs.imp pss_nil fun E σ H ⟨io, ρ, S, A, R, G, k⟩ => k (.nx ρ) S io H σ rfl A Grow.rfl' R
theorem ss_cons {st : Stmt} {rest : List Stmt} {a b : MS} (h1 : StE X cl W st a) (h2 : SsE X cl W rest b) : SsE X cl W (st :: rest) (mSeq a b) := by
  refine PSs.imp (pss_cons h1 h2) fun E σ H ⟨io, ρ, S, A, R, G, k⟩ => ?_
  have key : ∀ fl S1, a ρ S = .ok fl S1 → mSeq a b ρ S = match fl with
      | .nx ρ1 => b ρ1 S1
      | f => .ok f S1 := fun fl S1 e => by
    unfold mSeq
    rw [e]
    cases fl <;> rfl
  refine ⟨io, ρ, S, A, R, ?_, fun fl S1 io1 H1 σ1 e A1 g1 => ?_⟩
  · cases e : a ρ S with
    | ok fl S1 =>
      cases fl with
      | exn x ρ1 => rw [key _ _ e] at G; exact G
      | _ => trivial
    | exn x S1 =>
      unfold mSeq at G
      rw [e] at G
      exact G
    | bad =>
      unfold mSeq at G
      rw [e] at G
      exact G
  · rw [key _ _ e] at G k
    cases fl with
    | nx ρ1 => exact fun R1 => ⟨io1, ρ1, S1, A1, R1, GoodS.mono g1 G, fun fl S' io' H' σ' e' A' g' => k fl S' io' H' σ' e' A' (g1.trans g')⟩
    | brk ρ1 => exact k _ S1 io1 H1 σ1 rfl A1 g1
    | cnt ρ1 => exact k _ S1 io1 H1 σ1 rfl A1 g1
    | ret d => exact k _ S1 io1 H1 σ1 rfl A1 g1
    | exn x ρ1 => trivial
theorem ss_one {st : Stmt} {a : MS} (h1 : StE X cl W st a) : SsE X cl W [st] a := pss_one h1
theorem s_expr {e : Expr} {m : M D} (he : EvE X cl W e m) (hs : swapsWith e none pos.line X.env = pure false) : StE X cl W (.Expr e pos) (mDrop m) := by
  refine PS.imp (ps_expr he.pe hs) fun E σ H h => ?_
  exact tS_e h fun d v S1 io1 H1 ρ A1 R1 rd G1 k1 => k1 _ S1 io1 H1 σ rfl A1 Grow.rfl' R1
theorem s_ret {e : Expr} {m : M D} (he : EvE X cl W e m) : StE X cl W (.Return (some e) pos) (mRet m) := by
  refine PS.imp (ps_ret he.pe) fun E σ H h => ?_
  exact tS_e h fun d v S1 io1 H1 ρ A1 R1 rd G1 k1 => k1 _ S1 io1 H1 σ rfl A1 Grow.rfl' v rd
theorem s_if {c : Expr} {a b : List Stmt} {mc : M Bool} {ma mb : MS} (hc : EvT X cl W c mc) (ha : SsE X cl W a ma) (hb : SsE X cl W b mb) : StE X cl W (.If c a b pos) (mIfS mc ma mb) := by
  refine PS.imp (ps_if hc.pt ha hb) fun E σ H h => ?_
  refine tS_t h fun b S1 io1 H1 ρ A1 R1 G1 k1 => ?_
  cases b with
  | true =>
    rw [if_pos rfl]
    exact ⟨io1, ρ, S1, A1, R1, G1, k1⟩
  | false =>
    rw [if_neg Bool.false_ne_true]
    exact ⟨io1, ρ, S1, A1, R1, G1, k1⟩

/-! ### targets -/
def GoodG : Rs Rho → Prop
  | .ok _ _ => True
  | _ => False
/-- only the slots of l may differ -/
def Keeps (l : List Nat) (σ σ' : L2.St) : Prop := σ'.length = σ.length ∧ ∀ j, j ∉ l → σ'[j]? = σ[j]?
def tG (cl : Cl) (K : PySem.W.Frag) (g : MG) (l : List Nat) : TG := fun v σ H Q => ∃ io ρ S d, Abs K cl io S H ∧ RelRho K io H ρ σ ∧ RelD K io H d v ∧ GoodG (g d ρ S) ∧
  ∀ ρ' S' io' H' σ', g d ρ S = .ok ρ' S' → Abs K cl io' S' H' → Grow K io H io' H' → RelRho K io' H' ρ' σ' → Keeps l σ σ' → Q σ' H'
theorem PG.imp {tg : Expr} {t u : TG} (h : PG X tg t) (k : ∀ v σ H Q, u v σ H Q → t v σ H Q) : PG X tg u := ⟨fun pins s σ H v w Q I r q => h.run pins s σ H v w Q I r (k v σ H Q q)⟩
abbrev TgE (X : Cx) (cl : Cl) (tg : Expr) (g : MG) (l : List Nat) : Prop := PG X tg (tG cl X.K g l)
def gNm (i : Nat) : MG := fun d ρ S => .ok (ρ.set i (some d)) S
theorem g_name {i : Nat} {x : Str} (hN : X.N.Nodup) (hi : X.N[i]? = some x) (hx : Loc X.env.scope x) (hf : X.fn x = true ∨ X.env.scope.names.lookup x = some .local) : TgE X cl (.Name x pos) (gNm i) [i] :=
  PG.imp (pg_name hN hi hx hf) fun v σ H Q ⟨io, ρ, S, d, A, R, rd, G, k⟩ => k _ S io H _ rfl A Grow.rfl' (RelRho.set rd i R) ⟨by simp, fun j hj => List.getElem?_set_ne fun e => hj (by simp [e])⟩
abbrev MGs := List D → Rho → Sto → Rs Rho
def tGs (cl : Cl) (K : PySem.W.Frag) (g : MGs) (l : List Nat) : TGs := fun vs σ H Q => ∃ io ρ S ds, Abs K cl io S H ∧ RelRho K io H ρ σ ∧ RelDs K io H ds vs ∧ GoodG (g ds ρ S) ∧
  ∀ ρ' S' io' H' σ', g ds ρ S = .ok ρ' S' → Abs K cl io' S' H' → Grow K io H io' H' → RelRho K io' H' ρ' σ' → Keeps l σ σ' → Q σ' H'
theorem PGs.imp {tg : List Expr} {t u : TGs} (h : PGs X tg t) (k : ∀ v σ H Q, u v σ H Q → t v σ H Q) : PGs X tg u := ⟨fun pins s σ H v w Q I r q => h.run pins s σ H v w Q I r (k v σ H Q q)⟩
abbrev TgsE (X : Cx) (cl : Cl) (tg : List Expr) (g : MGs) (l : List Nat) : Prop := PGs X tg (tGs cl X.K g l)
def gsNil : MGs := fun ds ρ S => match ds with
  | [] => .ok ρ S
  | _ => .bad
def gsCons (g : MG) (r : MGs) : MGs := fun ds ρ S => match ds with
  | d :: ds => match g d ρ S with
    | .ok ρ1 S1 => r ds ρ1 S1
    | _ => .bad
  | [] => .bad
theorem gs_nil : TgsE X cl [] gsNil [] := by
  refine PGs.imp pgs_nil fun vs σ H Q ⟨io, ρ, S, ds, A, R, rd, G, k⟩ => ?_
  cases rd with
  | nil => exact ⟨rfl, k _ S io H σ rfl A Grow.rfl' R ⟨rfl, fun _ _ => rfl⟩⟩
  | cons _ _ => exact False.elim G
theorem gs_cons {e : Expr} {es : List Expr} {g : MG} {r : MGs} {l l' : List Nat} (h1 : TgE X cl e g l) (h2 : TgsE X cl es r l') (hs : (assignEach (e :: es) X.env).map (·.2) = assign e X.env :: (assignEach es X.env).map (·.2)) : TgsE X cl (e :: es) (gsCons g r) (l ++ l') := by
  refine PGs.imp (pgs_cons h1 h2 hs) fun vs σ H Q ⟨io, ρ, S, ds, A, R, rd, G, k⟩ => ?_
  cases rd with
  | nil => exact False.elim G
  | @cons d ds v vs r1 r2 =>
    refine ⟨v, vs, rfl, io, ρ, S, d, A, R, r1, ?_, fun ρ1 S1 io1 H1 σ1 e1 A1 g1 R1 kp1 => ⟨io1, ρ1, S1, ds, A1, R1, r2.mono g1, ?_, fun ρ2 S2 io2 H2 σ2 e2 A2 g2 R2 kp2 => ?_⟩⟩
    · unfold gsCons at G
      simp only at G
      cases e : g d ρ S with
      | ok _ _ => trivial
      | exn _ _ => rw [e] at G; exact G
      | bad => rw [e] at G; exact G
    · unfold gsCons at G
      simp only [e1] at G
      exact G
    · refine k ρ2 S2 io2 H2 σ2 ?_ A2 (g1.trans g2) R2 ⟨kp2.1.trans kp1.1, fun j hj => (kp2.2 j fun z => hj (List.mem_append_right _ z)).trans (kp1.2 j fun z => hj (List.mem_append_left _ z))⟩
      unfold gsCons
      simp only [e1]
      exact e2
/-- (a, b, ..) = a tuple; of a list, too, where the form allows it -/
def gTp (n : Nat) (r : MGs) : MG := fun d ρ S => match d with
  | .tup ds => if ds.length = n then r ds ρ S else .bad
  | _ => .bad
theorem g_tup {es : List Expr} {k n : Nat} {r : MGs} {l : List Nat} (hc : X.calm = true) (h : TgsE X cl es r l) (hn : (assignEach es X.env).length = n) (hst : (assignEach es X.env).findIdx? (·.1) = none) : TgE X cl (.Tuple es k pos) (gTp n r) l := by
  refine PG.imp (pg_tup hc h hn hst) fun v σ H Q ⟨io, ρ, S, d, A, R, rd, G, kk⟩ => ?_
  cases rd with
  | @tup a ds vs hq rs =>
    unfold gTp at G kk
    simp only at G kk
    split at G
    · rename_i hl
      rw [if_pos hl] at kk
      exact ⟨a, vs, rfl, hq, by rw [← rs.length]; exact hl, io, ρ, S, ds, A, R, rs, G, kk⟩
    · exact False.elim G
  | _ => exact False.elim G
theorem asg_good {K : PySem.W.Frag} {io : List Addr} {H : Hp} {g : MG} {d : D} {ρ : Rho} {S : Sto} (G : GoodS W K cl io H (asg g d ρ S)) : GoodG (g d ρ S) := by
  unfold asg at G
  cases e : g d ρ S with
  | ok _ _ => trivial
  | exn _ _ => rw [e] at G; exact G
  | bad => rw [e] at G; exact G
theorem s_asg {tg e : Expr} {m : M D} {g : MG} {l : List Nat} (he : EvE X cl W e m) (hg : TgE X cl tg g l) (hs : swapsWithSole [tg] e pos.line X.env = pure false) (hw : swappedStores [tg] e X.env = pure none)
    (h1 : (assignEach [tg] X.env).map (·.2) = [assign tg X.env]) : StE X cl W (.Assign [tg] e pos) (mAsg m g) := by
  refine PS.imp (ps_asg he.pe hg hs hw h1) fun E σ H h => ?_
  refine tS_e h fun d v S1 io1 H1 ρ A1 R1 rd G1 k1 => ?_
  refine ⟨io1, ρ, S1, d, A1, R1, rd, asg_good G1, fun ρ' S' io' H' σ' e A' g' R' _ => ?_⟩
  refine k1 (.nx ρ') S' io' H' σ' ?_ A' g' R'
  unfold asg
  rw [e]
theorem s_set {i : Nat} {x : Str} {e : Expr} {m : M D} {pos' : Pos} (hN : X.N.Nodup) (hi : X.N[i]? = some x) (hx : Loc X.env.scope x) (hf : X.fn x = true ∨ X.env.scope.names.lookup x = some .local) (he : EvE X cl W e m) (hs : swapsWith e (some (.Name x pos')) pos.line X.env = pure false) :
    StE X cl W (.Assign [.Name x pos'] e pos) (mAsg m (gNm i)) := by
  refine PS.imp (ps_set hN hi hx he.pe hs hf) fun E σ H h => ?_
  refine tS_e h fun d v S1 io1 H1 ρ A1 R1 rd G1 k1 => ?_
  exact k1 (.nx _) S1 io1 H1 _ rfl A1 Grow.rfl' (RelRho.set rd i R1)
end
end MP
/-! MP8 -/
set_option Elab.async false
set_option autoImplicit false
set_option linter.all false
set_option maxRecDepth 100000
namespace MP
open PySem PySem.Spec L2
open PyProof.Rows hiding St

/-! ## what a loop walks -/
/-- the items, what must hold of the store at each turn, what becomes of the store at the end -/
structure Src where
  items : List D
  keep : Sto → Bool
  fin : Sto → Option Sto
abbrev MI := M Src
/-- a locked thing is freed -/
def Unl (X : Cx) (H H' : Hp) : Prop := H' = H ∨ ∃ d od u, (∀ o' u', X.H_0 d ≠ some (.frz o' u')) ∧ H d = some (.frz od u) ∧ H' = upd H d u
theorem Unl.inv {X : Cx} {pins : List (Addr × Obj)} {σ : L2.St} {H H' : Hp} {s : Shared} (I : Inv X pins σ H s) (u : Unl X H H') : Inv X pins σ H' s := by
  rcases u with e | ⟨d, od, u, n, h, e⟩
  · subst e; exact I
  · subst e; exact I.unlock h n
def EndsU (X : Cx) (E : Ends) : Ends := ⟨fun σ H => ∃ H', Unl X H H' ∧ E.nx σ H', fun v H => ∃ H', Unl X H H' ∧ E.rt v H', fun σ H => ∃ H', Unl X H H' ∧ E.bk σ H', fun σ H => ∃ H', Unl X H H' ∧ E.ct σ H'⟩
theorem ps_unl {X : Cx} {st : Stmt} {t : TS} (h : PS X st t) : PS X st (fun E σ H => t (EndsU X E) σ H) := by
  refine ⟨fun pins s σ H E I q => thn (h.run pins s σ H (EndsU X E) I q) fun f s1 q => ?_⟩
  cases f with
  | next => obtain ⟨σ', H', I', H'', u, q⟩ := q; exact ⟨σ', H'', u.inv I', q⟩
  | brk => obtain ⟨σ', H', I', H'', u, q⟩ := q; exact ⟨σ', H'', u.inv I', q⟩
  | cont => obtain ⟨σ', H', I', H'', u, q⟩ := q; exact ⟨σ', H'', u.inv I', q⟩
  | ret v => obtain ⟨x, σ', H', I', r, H'', u, q⟩ := q; exact ⟨x, σ', H'', u.inv I', r, q⟩
theorem pe_unl {X : Cx} {e : Expr} {t : TE} (h : PE X e t) : PE X e (fun σ H Q => t σ H fun v H1 => ∃ H', Unl X H1 H' ∧ Q v H') := by
  refine ⟨fun pins s σ H Q I q => thn (h.run pins s σ H _ I q) fun u s1 ⟨v, H1, I1, r, H', un, q⟩ => ⟨v, H', un.inv I1, r, q⟩⟩
structure SrcOk (X : Cx) (cl : Cl) (J : It) (src : Src) (io0 : List Addr) (H0 : Hp) (io1 : List Addr) (H1 : Hp) : Prop where
  item : ∀ io S H i d, Abs X.K cl io S H → Grow X.K io1 H1 io H → src.keep S = true → src.items[i]? = some d → J.go i H ∧ ∀ x H', J.yld i H x H' → Abs X.K cl io S H' ∧ Grow X.K io H io H' ∧ RelD X.K io H' d x
  stop : ∀ io S H i, Abs X.K cl io S H → Grow X.K io1 H1 io H → src.keep S = true → src.items.length = i → J.stop i H
  fin : ∀ io S H S', Abs X.K cl io S H → Grow X.K io1 H1 io H → src.fin S = some S' → ∃ H', Unl X H H' ∧ Abs X.K cl io S' H' ∧ Gr0 X.K io H io H' ∧ Grow X.K io0 H0 io H'
def tI (X : Cx) (cl : Cl) (W : WX) (m : MI) : TI := fun σ H R => ∃ io ρ S, Abs X.K cl io S H ∧ RelRho X.K io H ρ σ ∧ Good W X.K cl io H σ (m ρ S) ∧
  ∀ src S1 io1 H1 J, m ρ S = .ok src S1 → Abs X.K cl io1 S1 H1 → Grow X.K io H io1 H1 → SrcOk X cl J src io H io1 H1 → R J H1
abbrev ItE (X : Cx) (cl : Cl) (W : WX) (tg e : Expr) (m : MI) : Prop := PI X tg e (tI X cl W m)

def srcT (ds : List D) : Src := ⟨ds, fun _ => true, some⟩
def srcL (n : Nat) (ds : List D) : Src := ⟨ds, fun S => decide (listAt S n = some ds), some⟩
def unlk (n : Nat) (kvs : List (D × D)) (S : Sto) : Option Sto := if S[n]? = some (.rod kvs) then some (S.set n (.dct kvs)) else none
def srcD (n : Nat) (kvs : List (D × D)) (ds : List D) : Src := ⟨ds, fun S => decide (S[n]? = some (.rod kvs)), unlk n kvs⟩
def srcR (n : Nat) (kvs : List (D × D)) (ds : List D) : Src := ⟨ds, fun S => decide (S[n]? = some (.rod kvs)), some⟩
/-- a dict's keys (values, items) -/
def dIter (f : D × D → D) (n : Nat) (S : Sto) : Rs Src := match S[n]? with
  | some (.dct kvs) => .ok (srcD n kvs (kvs.map f)) (S.set n (.rod kvs))
  | some (.rod kvs) => .ok (srcR n kvs (kvs.map f)) S
  | _ => .bad
def strItems (z : Str) : List D := z.cps.toList.map fun c => .str ⟨#[c]⟩
/-- for x in v -/
def iterS : D → Sto → Rs Src
  | .str z, S => .ok (srcT (strItems z)) S
  | .tup ds, S => .ok (srcT ds) S
  | .ptr n, S => match listAt S n with
    | some ds => .ok (srcL n ds) S
    | none => dIter (·.1) n S
  | _, _ => .bad
def pairD (p : D × D) : D := .tup [p.1, p.2]
def iterDS (f : D × D → D) : D → Sto → Rs Src
  | .ptr n, S => dIter f n S
  | _, _ => .bad
def enumL : Nat → List D → List D
  | _, [] => []
  | i, d :: ds => .tup [.int i, d] :: enumL (i + 1) ds
def enumS : D → Sto → Rs Src
  | .tup ds, S => .ok (srcT (enumL 0 ds)) S
  | .ptr n, S => match listAt S n with
    | some ds => .ok ⟨enumL 0 ds, fun S => decide (listAt S n = some ds), some⟩ S
    | none => .bad
  | _, _ => .bad
def rngL (lo : Int) (n : Nat) : List D := (List.range n).map fun (i : Nat) => .int (lo + i)
def rng1S : List D → Sto → Rs Src
  | [.int j], S => if -(2 ^ 62) ≤ j ∧ j < 2 ^ 62 then .ok (srcT (rngL 0 j.toNat)) S else .bad
  | _, _ => .bad
def rng2S : List D → Sto → Rs Src
  | [.int i, .int j], S => if -(2 ^ 62) ≤ i ∧ i < 2 ^ 62 ∧ -(2 ^ 62) ≤ j ∧ j < 2 ^ 62 then .ok (srcT (rngL i (j - i).toNat)) S else .bad
  | _, _ => .bad
def mIt (g : D → Sto → Rs Src) (m : M D) : MI := fun ρ S => (m ρ S).bind g
def mItA (g : List D → Sto → Rs Src) (m : M (List D)) : MI := fun ρ S => (m ρ S).bind g

section
variable {X : Cx} {cl : Cl} {W : WX} {io : List Addr} {S : Sto} {H : Hp} {pins : List (Addr × Obj)} {s : Shared} {σ : L2.St} {tg : Expr}
/-- a dict locked: store and heap -/
theorem Abs.lock {n : Nat} {a : Addr} {kvs : List (D × D)} {ws : List (Key × V)} {od : Obj} (A : Abs X.K cl io S H) (hn : io[n]? = some a) (hS : S[n]? = some (.dct kvs)) (hH : H a = some (.dK ws)) (r : RelKs X.K io H kvs ws) :
    Abs X.K cl io (S.set n (.rod kvs)) (upd H a (.frz od (.dK ws))) ∧ Grow X.K io H io (upd H a (.frz od (.dK ws))) := by
  have mu : Mut (H a) := mut_some hH trivial
  have g : Grow X.K io H io (upd H a (.frz od (.dK ws))) := grow_upd (.inr mu)
  exact ⟨A.put hn hS rfl rfl (.rod upd_same (paired_mono (fun _ _ z => ⟨z.1, z.2.1, z.2.2.mono g⟩) r)), g⟩
theorem Abs.unlock {n : Nat} {a : Addr} {kvs : List (D × D)} {ws : List (Key × V)} {od : Obj} (A : Abs X.K cl io S H) (hn : io[n]? = some a) (hS : S[n]? = some (.rod kvs)) (hH : H a = some (.frz od (.dK ws))) (r : RelKs X.K io H kvs ws) :
    Abs X.K cl io (S.set n (.dct kvs)) (upd H a (.dK ws)) ∧ Gr0 X.K io H io (upd H a (.dK ws)) := by
  have mu : Wr (H a) := .inr ⟨_, _, hH, trivial⟩
  have g : Gr0 X.K io H io (upd H a (.dK ws)) := gr0_upd (.inr mu)
  exact ⟨A.put hn hS rfl rfl (.dct upd_same (paired_mono (fun _ _ z => ⟨z.1, z.2.1, z.2.2.mono0 g⟩) r)), g⟩
section
variable {io0 io1 : List Addr} {H0 H1 : Hp} {J : It} {src : Src}
theorem srcOk_plain (g01 : Grow X.K io0 H0 io1 H1) (hf : src.fin = some) (h1 : ∀ io S H i d, Abs X.K cl io S H → Grow X.K io1 H1 io H → src.keep S = true → src.items[i]? = some d → J.go i H ∧ ∀ x H', J.yld i H x H' → Abs X.K cl io S H' ∧ Grow X.K io H io H' ∧ RelD X.K io H' d x)
    (h2 : ∀ io S H i, Abs X.K cl io S H → Grow X.K io1 H1 io H → src.keep S = true → src.items.length = i → J.stop i H) : SrcOk X cl J src io0 H0 io1 H1 :=
  ⟨h1, h2, fun io S H S' A g e => by rw [hf] at e; cases e; exact ⟨H, .inl rfl, A, Gr0.rfl', g01.trans g⟩⟩
theorem src_tup {a : Addr} {ds : List D} {vs : List V} (g01 : Grow X.K io0 H0 io1 H1) (hq : SqT X.K H1 a vs) (rs : RelDs X.K io1 H1 ds vs) : SrcOk X cl (Itt X.K a) (srcT ds) io0 H0 io1 H1 := by
  refine srcOk_plain g01 rfl (fun io S H i d A g _ hd => ?_) fun io S H i A g _ hl => ?_
  · obtain ⟨v, hv, rv⟩ := rs.get hd
    have hq1 := g.tup hq
    refine ⟨⟨vs, v, hq1, hv⟩, fun x H' ⟨e, y⟩ => ?_⟩
    subst e
    have := y vs hq1
    rw [hv] at this
    cases this
    exact ⟨A, Grow.rfl', rv.mono g⟩
  · exact ⟨vs, g.tup hq, by rw [← rs.length]; exact Nat.le_of_eq hl⟩
theorem src_lst {a : Addr} {n : Nat} {ds : List D} (g01 : Grow X.K io0 H0 io1 H1) (hn : io1[n]? = some a) : SrcOk X cl (Itl X.K a) (srcL n ds) io0 H0 io1 H1 := by
  refine srcOk_plain g01 rfl (fun io S H i d A g hk hd => ?_) fun io S H i A g hk hl => ?_
  · obtain ⟨vs, hq, rs⟩ := ptr_list A (g.get hn) (of_decide_eq_true hk)
    obtain ⟨v, hv, rv⟩ := rs.get hd
    refine ⟨⟨vs, v, hq, hv⟩, fun x H' ⟨e, y⟩ => ?_⟩
    subst e
    have := y vs hq
    rw [hv] at this
    cases this
    exact ⟨A, Grow.rfl', rv⟩
  · obtain ⟨vs, hq, rs⟩ := ptr_list A (g.get hn) (of_decide_eq_true hk)
    exact ⟨vs, hq, by rw [← rs.length]; exact Nat.le_of_eq hl⟩
theorem src_rng {lo : Int} {n : Nat} (g01 : Grow X.K io0 H0 io1 H1) : SrcOk X cl (Itr lo n) (srcT (rngL lo n)) io0 H0 io1 H1 := by
  refine srcOk_plain g01 rfl (fun io S H i d A g _ hd => ?_) fun io S H i A g _ hl => ?_
  · have hd : ((List.range n).map fun (i : Nat) => D.int (lo + i))[i]? = some d := hd
    rw [List.getElem?_map] at hd
    have hi : i < n := by
      cases e : (List.range n)[i]? with
      | none => rw [e] at hd; cases hd
      | some j => simpa using (List.getElem?_eq_some_iff.mp e).1
    rw [List.getElem?_range hi] at hd
    cases hd
    exact ⟨hi, fun x H' ⟨e, y⟩ => by subst e; subst y; exact ⟨A, Grow.rfl', .int _⟩⟩
  · have hl : ((List.range n).map fun (i : Nat) => D.int (lo + i)).length = i := hl
    rw [List.length_map, List.length_range] at hl
    exact Nat.le_of_eq hl
theorem src_str {z : Str} (hz : okS z) (g01 : Grow X.K io0 H0 io1 H1) : SrcOk X cl (Its z) (srcT (strItems z)) io0 H0 io1 H1 := by
  refine srcOk_plain g01 rfl (fun io S H i d A g _ hd => ?_) fun io S H i A g _ hl => ?_
  · have hd : (z.cps.toList.map fun c => D.str ⟨#[c]⟩)[i]? = some d := hd
    rw [List.getElem?_map] at hd
    cases e : z.cps.toList[i]? with
    | none => rw [e] at hd; cases hd
    | some c =>
      rw [e] at hd
      cases hd
      have hi : i < z.cps.size := by simpa using (List.getElem?_eq_some_iff.mp e).1
      refine ⟨hi, fun x H' ⟨e2, c', hc', ex⟩ => ?_⟩
      subst e2 ex
      have : c' = c := by
        rw [← Array.getElem?_toList, e] at hc'
        exact (Option.some.inj hc').symm
      subst this
      exact ⟨A, Grow.rfl', .str _ (okS_one hz (List.mem_of_getElem? e))⟩
  · have hl : (z.cps.toList.map fun c => D.str ⟨#[c]⟩).length = i := hl
    rw [List.length_map, Array.length_toList] at hl
    exact Nat.le_of_eq hl
/-- a locked dict walked: f tells the item -/
theorem src_dct {a : Addr} {o : Obj} {n : Nat} {kvs : List (D × D)} {ws : List (Key × V)} {f : D × D → D} {fin : Sto → Option Sto} (hn : io1[n]? = some a) (hH : H1 a = some (.frz o (.dK ws)))
    (hfin : ∀ io S H S', Abs X.K cl io S H → Grow X.K io1 H1 io H → fin S = some S' → ∃ H', Unl X H H' ∧ Abs X.K cl io S' H' ∧ Gr0 X.K io H io H' ∧ Grow X.K io0 H0 io H')
    (go : ∀ i H, H a = some (.frz o (.dK ws)) → i < ws.length → J.go i H) (st : ∀ i H, H a = some (.frz o (.dK ws)) → ws.length ≤ i → J.stop i H)
    (yl : ∀ io S H i p q x H', Abs X.K cl io S H → J.yld i H x H' → ws[i]? = some q → p.1 = kD q.1 → RelD X.K io H p.1 (kV q.1) → RelD X.K io H p.2 q.2 → Abs X.K cl io S H' ∧ Grow X.K io H io H' ∧ RelD X.K io H' (f p) x)
    (hlen : kvs.length = ws.length) : SrcOk X cl J ⟨kvs.map f, fun S => decide (S[n]? = some (.rod kvs)), fin⟩ io0 H0 io1 H1 := by
  have same : ∀ io S H, Abs X.K cl io S H → Grow X.K io1 H1 io H → S[n]? = some (.rod kvs) → H a = some (.frz o (.dK ws)) ∧ RelKs X.K io H kvs ws := fun io S H A g hS => by
    have e := g.frz _ _ _ hH
    refine ⟨e, ?_⟩
    cases ptr_obj A (g.get hn) hS with
    | rod h r => rw [e] at h; cases h; exact r
  refine ⟨fun io S H i d A g hk hd => ?_, fun io S H i A g hk hl => ?_, hfin⟩
  · obtain ⟨e, r⟩ := same io S H A g (of_decide_eq_true hk)
    rw [List.getElem?_map] at hd
    cases hp : kvs[i]? with
    | none => rw [hp] at hd; cases hd
    | some p =>
      rw [hp] at hd
      cases hd
      have hi : i < ws.length := by rw [← hlen]; exact (List.getElem?_eq_some_iff.mp hp).1
      refine ⟨go i H e hi, fun x H' y => ?_⟩
      obtain ⟨q, hq, h1, hm, h2⟩ := paired_get r hp
      refine yl io S H i p q x H' A y hq h1 ?_ h2
      rw [h1]
      cases hk2 : q.1 with
      | inl j => exact .int j
      | inr z =>
        rw [hk2] at hm
        exact .str z hm
  · obtain ⟨e, r⟩ := same io S H A g (of_decide_eq_true hk)
    exact st i H e (by rw [← hlen]; exact Nat.le_of_eq (by simpa using hl))
end
end
end MP
/-! MP9 -/
set_option Elab.async false
set_option autoImplicit false
set_option linter.all false
set_option maxRecDepth 100000
namespace MP
open PySem PySem.Spec L2
open PyProof.Rows hiding St

/-! ## loops -/
section
variable {X : Cx} {cl : Cl} {W : WX} {tg e it : Expr} {m : M D}
def tLk (X : Cx) (cl : Cl) (W : WX) (m : M D) : TE := fun σ H Q => tE cl X.K W m σ H fun v H1 => ∃ d u, v = .ref d ∧ H1 d = some u ∧ Mut (some u) ∧ ∀ od, (∀ o' u', X.H_0 d ≠ some (.frz o' u')) → Q v (upd H1 d (.frz od u))
theorem pe_lk (he : PE X e (tE cl X.K W m)) : PE X e (tLk X cl W m) := by
  refine ⟨fun pins s σ H Q I h => thn (he.run pins s σ H _ I h) fun u s1 ⟨v, H1, I1, rv, d, o, ev, hd, mu, k⟩ => ?_⟩
  obtain ⟨od, I2⟩ := I1.lock hd mu
  exact ⟨v, _, I2, rv, k od (I1.nofrz hd mu)⟩
theorem unlk_ok {io0 io1 io : List Addr} {H0 H1 H : Hp} {S S' : Sto} {n : Nat} {a : Addr} {o : Obj} {kvs : List (D × D)} {ws : List (Key × V)} (g01 : Grow X.K io0 H0 io1 H1) (hn : io1[n]? = some a) (hH : H1 a = some (.frz o (.dK ws)))
    (nf : ∀ ob u, H0 a ≠ some (.frz ob u)) (nz : ∀ o' u', X.H_0 a ≠ some (.frz o' u')) (A : Abs X.K cl io S H) (g : Grow X.K io1 H1 io H) (e : unlk n kvs S = some S') : ∃ H', Unl X H H' ∧ Abs X.K cl io S' H' ∧ Gr0 X.K io H io H' ∧ Grow X.K io0 H0 io H' := by
  unfold unlk at e
  split at e
  · rename_i hS
    cases e
    have eH := g.frz _ _ _ hH
    cases ptr_obj A (g.get hn) hS with
    | rod h r =>
      rw [eH] at h
      cases h
      obtain ⟨A', g0⟩ := A.unlock (g.get hn) hS eH r
      refine ⟨_, .inr ⟨a, o, _, nz, eH, rfl⟩, A', g0, (g01.base.trans g.base).trans g0, fun b ob u eb => ?_⟩
      have : b ≠ a := by
        rintro rfl
        exact nf _ _ eb
      rw [upd_ne this]
      exact g.frz _ _ _ (g01.frz _ _ _ eb)
  · cases e
theorem mIt_ok {g : D → Sto → Rs Src} {ρ : Rho} {S S1 : Sto} {d : D} (h : m ρ S = .ok d S1) : mIt g m ρ S = g d S1 := by unfold mIt; rw [h]; rfl
def MonE (td : TE) : Prop := ∀ (σ : L2.St) (H : Hp) (Q Q' : VK), td σ H Q → (∀ v H', Q v H' → Q' v H') → td σ H Q'
theorem tE_mono {m : M D} : MonE (tE cl X.K W m) := fun σ H Q Q' h k => by
  obtain ⟨io, ρ, S, A, R, G, q⟩ := h
  exact ⟨io, ρ, S, A, R, G, fun d S' io' H' v e A' g r => k _ _ (q d S' io' H' v e A' g r)⟩
theorem tLk_mono {m : M D} : MonE (tLk X cl W m) := fun σ H Q Q' h k => tE_mono σ H _ _ h fun v H' ⟨d, u, e, hd, mu, q⟩ => ⟨d, u, e, hd, mu, fun od nz => k _ _ (q od nz)⟩
/-- a dict walked, by its rule -/
theorem it_dct {iD : TE → TI} {f : D × D → D} {J : Addr → Obj → List (Key × V) → It} (he : EvE X cl W e m) (hpi : ∀ td, PE X e td → PI X tg it (iD td))
    (hD : ∀ td σ H R, MonE td → (td σ H fun x H1 => ∃ d o kvs, x = .ref d ∧ H1 d = some (.frz o (.dK kvs)) ∧ R (J d o kvs) H1) → iD td σ H R)
    (go : ∀ a o ws i H, H a = some (.frz o (.dK ws)) → i < ws.length → (J a o ws).go i H) (st : ∀ a o ws i H, H a = some (.frz o (.dK ws)) → ws.length ≤ i → (J a o ws).stop i H)
    (yl : ∀ a o ws io S H i p q x H', Abs X.K cl io S H → (J a o ws).yld i H x H' → ws[i]? = some q → p.1 = kD q.1 → RelD X.K io H p.1 (kV q.1) → RelD X.K io H p.2 q.2 → Abs X.K cl io S H' ∧ Grow X.K io H io H' ∧ RelD X.K io H' (f p) x) :
    ItE X cl W tg it (mIt (iterDS f) m) := by
  refine ⟨fun pins s σ H R I ⟨io, ρ, S, A, Rr, G, k⟩ => ?_⟩
  have G0 : Good W X.K cl io H σ (m ρ S) := Good.fst G
  cases hm : m ρ S with
  | bad => rw [hm] at G0; exact False.elim G0
  | exn x S1 =>
    refine (hpi _ he.pe).run pins s σ H R I (hD _ _ _ _ tE_mono ⟨io, ρ, S, A, Rr, G0, fun d S1 io1 H1 v e => ?_⟩)
    rw [hm] at e; cases e
  | ok d S1 =>
    have ek : mIt (iterDS f) m ρ S = iterDS f d S1 := mIt_ok hm
    rw [ek] at G k
    cases d with
    | ptr n =>
      unfold iterDS dIter at G k
      simp only at G k
      cases hS : S1[n]? with
      | none => rw [hS] at G; exact False.elim G
      | some o =>
        cases o with
        | dct kvs =>
          rw [hS] at G k
          refine (hpi _ (pe_lk he.pe)).run pins s σ H R I (hD _ _ _ _ tLk_mono ⟨io, ρ, S, A, Rr, G0, fun d S2 io1 H1 v e A1 g1 rd => ?_⟩)
          rw [hm] at e
          cases e
          cases rd with
          | @ptr _ a hn =>
            cases ptr_obj A1 hn hS with
            | @dct _ _ ws hH r =>
              refine ⟨a, .dK ws, rfl, hH, trivial, fun od nz => ⟨a, od, ws, rfl, upd_same, ?_⟩⟩
              obtain ⟨A2, g2⟩ := A1.lock (od := od) hn hS hH r
              refine k _ _ io1 _ _ rfl A2 (g1.trans g2) (src_dct hn upd_same (fun io3 S3 H3 S4 A3 g3 e3 => ?_) (go a od ws) (st a od ws) (yl a od ws) (Paired.length r))
              refine unlk_ok (g1.trans g2) hn upd_same (fun ob u z => ?_) nz A3 g3 e3
              have := g1.frz _ _ _ z
              rw [hH] at this
              cases this
        | rod kvs =>
          rw [hS] at G k
          refine (hpi _ he.pe).run pins s σ H R I (hD _ _ _ _ tE_mono ⟨io, ρ, S, A, Rr, G0, fun d S2 io1 H1 v e A1 g1 rd => ?_⟩)
          rw [hm] at e
          cases e
          cases rd with
          | @ptr _ a hn =>
            cases ptr_obj A1 hn hS with
            | @rod _ _ ws od hH r =>
              refine ⟨a, od, ws, rfl, hH, ?_⟩
              refine k _ _ io1 _ _ rfl A1 g1 (src_dct hn hH (fun io3 S3 H3 S4 A3 g3 e3 => ?_) (go a od ws) (st a od ws) (yl a od ws) (Paired.length r))
              cases e3
              exact ⟨H3, .inl rfl, A3, Gr0.rfl', g1.trans g3⟩
        | lst _ => rw [hS] at G; exact False.elim G
        | rol _ => rw [hS] at G; exact False.elim G
        | ins _ _ => rw [hS] at G; exact False.elim G
        | vw _ _ => rw [hS] at G; exact False.elim G
        | dkt _ => rw [hS] at G; exact False.elim G
        | rkt _ => rw [hS] at G; exact False.elim G
        | exc _ _ => rw [hS] at G; exact False.elim G
        | lam => rw [hS] at G; exact False.elim G
    | non => exact False.elim G
    | bl _ => exact False.elim G
    | int _ => exact False.elim G
    | str _ => exact False.elim G
    | tup _ => exact False.elim G
theorem it_keysD (he : EvE X cl W e m) : ItE X cl W tg e (mIt (iterDS (·.1)) m) := by
  refine it_dct (J := Itk) he (fun td h => pi_keys h) (fun td σ H R mo h => mo _ _ _ _ h fun v H' ⟨d, o, kvs, e, hd, q⟩ => ⟨d, o, e, .inl ⟨kvs, hd, q⟩⟩) (fun a o ws i H h hi => ⟨h, hi⟩) (fun a o ws i H h hi => ⟨h, hi⟩) fun a o ws io S H i p q x H' A y hq h1 r1 r2 => ?_
  obtain ⟨e, k, v, hk, ex⟩ := y
  subst e
  rw [hk] at hq
  cases hq
  subst ex
  exact ⟨A, Grow.rfl', r1⟩
/-- for x in e: a tuple, a list, a dict -/
theorem it_val (he : EvE X cl W e m) : ItE X cl W tg e (mIt iterS m) := by
  refine ⟨fun pins s σ H R I ⟨io, ρ, S, A, Rr, G, k⟩ => ?_⟩
  have G0 : Good W X.K cl io H σ (m ρ S) := Good.fst G
  cases hm : m ρ S with
  | bad => rw [hm] at G0; exact False.elim G0
  | exn x S1 =>
    refine (pi_tup he.pe).run pins s σ H R I ⟨io, ρ, S, A, Rr, G0, fun d S1 io1 H1 v e => ?_⟩
    rw [hm] at e; cases e
  | ok d S1 =>
    have ek : mIt iterS m ρ S = iterS d S1 := mIt_ok hm
    have k' := k
    rw [ek] at G k'
    cases d with
    | tup ds =>
      refine (pi_tup he.pe).run pins s σ H R I ⟨io, ρ, S, A, Rr, G0, fun d S2 io1 H1 v e A1 g1 rd => ?_⟩
      rw [hm] at e
      cases e
      cases rd with
      | @tup a _ vs hq rs => exact ⟨a, rfl, ⟨vs, hq⟩, k' _ _ io1 H1 _ rfl A1 g1 (src_tup g1 hq rs)⟩
    | ptr n =>
      unfold iterS at G k'
      simp only at G k'
      cases hL : listAt S1 n with
      | some ds =>
        rw [hL] at k'
        refine (pi_list he.pe).run pins s σ H R I ⟨io, ρ, S, A, Rr, G0, fun d S2 io1 H1 v e A1 g1 rd => ?_⟩
        rw [hm] at e
        cases e
        cases rd with
        | @ptr _ a hn =>
          obtain ⟨vs, hq, rs⟩ := ptr_list A1 hn hL
          exact ⟨a, rfl, ⟨vs, hq⟩, k' _ _ io1 H1 _ rfl A1 g1 (src_lst g1 hn)⟩
      | none =>
        rw [hL] at G k'
        have e2 : mIt (iterDS (·.1)) m ρ S = dIter (·.1) n S1 := mIt_ok hm
        refine (it_keysD (tg := tg) he).run pins s σ H R I ⟨io, ρ, S, A, Rr, by rw [e2]; exact G, fun src S2 io1 H1 J e A1 g1 so => k' src S2 io1 H1 J (by rw [← e2]; exact e) A1 g1 so⟩
    | str z =>
      refine (pi_str he.pe).run pins s σ H R I ⟨io, ρ, S, A, Rr, G0, fun d S2 io1 H1 v e A1 g1 rd => ?_⟩
      rw [hm] at e
      cases e
      cases rd with
      | str _ hz => exact ⟨z, rfl, k' _ _ io1 H1 _ rfl A1 g1 (src_str hz g1)⟩
    | non => exact False.elim G
    | bl _ => exact False.elim G
    | int _ => exact False.elim G
theorem mItA_ok {g : List D → Sto → Rs Src} {m : M (List D)} {ρ : Rho} {S S1 : Sto} {d : List D} (h : m ρ S = .ok d S1) : mItA g m ρ S = g d S1 := by unfold mItA; rw [h]; rfl
theorem it_tail {Q : TI} {e : Expr} {m : MI} (h : PI X tg e Q) (k : ∀ σ H R, tI X cl W m σ H R → Q σ H R) : ItE X cl W tg e m := ⟨fun pins s σ H R I q => h.run pins s σ H R I (k σ H R q)⟩
theorem it_rng1 {a : Expr} {m : M (List D)} {p pos : Pos} (hg : Gl X "range") (hm : X.mg "range" = none) (ha : EvA X cl W [a] m) (hs : starEach [a] X.env = [(false, eval a X.env)]) : ItE X cl W tg (.Call (.Name "range" p) [a] [] pos) (mItA rng1S m) := by
  refine it_tail (pi_range1 hg hm ha.pa hs) fun σ H R ⟨io, ρ, S, A, Rr, G, k⟩ => ?_
  refine ⟨io, ρ, S, A, Rr, Good.fst G, fun ds S1 io1 H1 vs e A1 g1 rs => ?_⟩
  rw [mItA_ok e] at G k
  cases rs with
  | nil => exact False.elim G
  | @cons d ds v vs r1 r2 =>
    cases r2 with
    | nil =>
      cases r1 with
      | int j =>
        unfold rng1S at G k
        simp only at G k
        split at G
        · rename_i hz
          rw [if_pos hz] at k
          exact ⟨j, rfl, hz.1, hz.2, k _ _ io1 H1 _ rfl A1 g1 (src_rng g1)⟩
        · exact False.elim G
      | _ => exact False.elim G
    | cons q1 q2 => cases r1 <;> exact False.elim G
/-! enumerate -/
/-- the tuple's items in new pairs -/
def IteT (K : PySem.W.Frag) (a : Addr) : It :=
  ⟨fun i H => ∃ (xs : List V) (x : V), SqT K H a xs ∧ xs[i]? = some x, fun i H v H' => ∃ T x, v = .ref T ∧ H T = none ∧ H' = upd H T (.tup [.int (i : Nat), x]) ∧ ∀ xs, SqT K H a xs → xs[i]? = some x, fun i H => ∃ xs : List V, SqT K H a xs ∧ xs.length = i⟩
end
end MP
/-! MP10 -/
set_option Elab.async false
set_option autoImplicit false
set_option linter.all false
set_option maxRecDepth 100000
namespace MP
open PySem PySem.Spec L2
open PyProof.Rows hiding St
open Sem (wp)
open AutoSeq1 (wpAny_loadPart')
/-! ## enumerate -/
section
variable {X : Cx} {cl : Cl} {W : WX} {e : Expr} {m : M D} {p pos tpos : Pos} {elts : List Expr} {kk : Nat} {io0 io1 : List Addr} {H0 H1 : Hp}
/-- enumerate(e): a list, a tuple -/
def enumA : List D → Sto → Rs Src
  | [d], S => enumS d S
  | _, _ => .bad
end
end MP
/-! MP11 -/
set_option Elab.async false
set_option autoImplicit false
set_option linter.all false
set_option maxRecDepth 100000
namespace MP
open PySem PySem.Spec L2
open PyProof.Rows hiding St

/-! ## for -/
def forE (src : Src) (f : Fl) (S : Sto) : Rs Fl := match src.fin S with
  | some S' => .ok f S'
  | none => .bad
def forK (next : MS) (src : Src) : Rs Fl → Rs Fl
  | .ok (.nx ρ) S => next ρ S
  | .ok (.cnt ρ) S => next ρ S
  | .ok (.brk ρ) S => forE src (.nx ρ) S
  | .ok (.ret d) S => forE src (.ret d) S
  | .ok (.exn x ρ) S => .ok (.exn x ρ) S
  | _ => .bad
def forL (g : MG) (b : MS) (src : Src) : List D → MS
  | [], ρ, S => if src.keep S = true then forE src (.nx ρ) S else .bad
  | d :: ds, ρ, S => if src.keep S = true then (match g d ρ S with
      | .ok ρ1 S1 => forK (forL g b src ds) src (b ρ1 S1)
      | _ => .bad) else .bad
def mFor (mi : MI) (g : MG) (b : MS) : MS := eS mi fun src => forL g b src src.items
section
variable {X : Cx} {cl : Cl} {W : WX} {tg iter : Expr} {body : List Stmt} {pos : Pos} {mi : MI} {g : MG} {b : MS} {l : List Nat}
theorem forE_good {K : PySem.W.Frag} {io : List Addr} {H : Hp} {src : Src} {f : Fl} {S : Sto} (G : GoodS W K cl io H (forE src f S)) : ∃ S', src.fin S = some S' ∧ forE src f S = .ok f S' := by
  unfold forE at G ⊢
  cases e : src.fin S with
  | none => rw [e] at G; exact False.elim G
  | some S' => exact ⟨S', rfl, rfl⟩
theorem s_for (hp : PassesOwn (model X.prog X.w) X.A X.env X.xe) (hc : X.calm = true) (hi : ItE X cl W tg iter mi) (hg : TgE X cl tg g l) (hb : SsE X cl W body b) (hs : ∀ x, foldedSetIterable iter X.env x = pure x) : StE X cl W (.For tg iter body [] pos) (mFor mi g b) := by
  refine PS.imp (ps_unl (ps_for hp hc hi hg hb hs)) fun E σ H ⟨io, ρ, S, A, R, G, k⟩ => ?_
  refine ⟨io, ρ, S, A, R, eS_good R G, fun src S1 io1 H1 J e A1 g1 so => ?_⟩
  have tot : mFor mi g b ρ S = forL g b src src.items ρ S1 := eS_of e
  rw [tot] at G k
  refine ⟨fun i m σ' H' => ∃ io' ρ' S', m = src.items.length - i ∧ i ≤ src.items.length ∧ Abs X.K cl io' S' H' ∧ Grow X.K io1 H1 io' H' ∧ RelRho X.K io' H' ρ' σ' ∧ forL g b src (src.items.drop i) ρ' S' = forL g b src src.items ρ S1,
    ⟨src.items.length, io1, ρ, S1, rfl, Nat.zero_le _, A1, Grow.rfl', RelRho.mono g1 R, by rw [List.drop_zero]⟩, ?_⟩
  rintro i m σ' H' ⟨io', ρ', S', em, hle, A', g', R', et⟩
  rw [← et] at G k
  have endF : ∀ {f : Fl} {io2 H2 S2}, forL g b src (src.items.drop i) ρ' S' = forE src f S2 → Abs X.K cl io2 S2 H2 → Grow X.K io1 H1 io2 H2 → ∃ H3 S3, Unl X H2 H3 ∧ Abs X.K cl io2 S3 H3 ∧ Gr0 X.K io2 H2 io2 H3 ∧ Grow X.K io H io2 H3 ∧ forL g b src (src.items.drop i) ρ' S' = .ok f S3 := fun {f io2 H2 S2} ef A2 g2 => by
    rw [ef] at G
    obtain ⟨S3, e3, ee⟩ := forE_good G
    obtain ⟨H3, un, A3, g3, g4⟩ := so.fin io2 S2 H2 S3 A2 g2 e3
    exact ⟨H3, S3, un, A3, g3, g4, ef.trans ee⟩
  by_cases hi' : i < src.items.length
  · right
    have ed : src.items.drop i = src.items[i] :: src.items.drop (i + 1) := List.drop_eq_getElem_cons hi'
    have eg : src.items[i]? = some src.items[i] := List.getElem?_eq_getElem hi'
    have hk : src.keep S' = true := by
      cases hk : src.keep S' with
      | true => rfl
      | false =>
        rw [ed] at G
        unfold forL at G
        rw [if_neg (by simp [hk])] at G
        exact False.elim G
    have e1 : forL g b src (src.items.drop i) ρ' S' = match g src.items[i] ρ' S' with
        | .ok ρ1 S1 => forK (forL g b src (src.items.drop (i + 1))) src (b ρ1 S1)
        | _ => .bad := by
      rw [ed]
      conv => lhs; unfold forL
      rw [if_pos hk]
    obtain ⟨hgo, hy⟩ := so.item io' S' H' i _ A' g' hk eg
    refine ⟨hgo, fun σ3 H3 => ∃ io3 ρ3 S3, Abs X.K cl io3 S3 H3 ∧ Grow X.K io1 H1 io3 H3 ∧ RelRho X.K io3 H3 ρ3 σ3 ∧ forL g b src (src.items.drop (i + 1)) ρ3 S3 = forL g b src (src.items.drop i) ρ' S',
      fun σ3 H3 ⟨io3, ρ3, S3, A3, g3, R3, e3⟩ => ⟨src.items.length - (i + 1), by omega, io3, ρ3, S3, rfl, hi', A3, g3, R3, e3.trans et⟩, fun x H2 y => ?_⟩
    obtain ⟨A2, g2, rx⟩ := hy x H2 y
    refine ⟨io', ρ', S', _, A2, RelRho.mono g2 R', rx, ?_, fun ρ3 S3 io3 H3 σ3 e3 A3 g3 R3 _ => ?_⟩
    · rw [e1] at G
      cases eg : g src.items[i] ρ' S' with
      | ok _ _ => trivial
      | exn _ _ => rw [eg] at G; exact G
      | bad => rw [eg] at G; exact G
    · rw [e3] at e1
      have e1 : forL g b src (src.items.drop i) ρ' S' = forK (forL g b src (src.items.drop (i + 1))) src (b ρ3 S3) := e1
      have g13 : Grow X.K io1 H1 io3 H3 := (g'.trans g2).trans g3
      refine ⟨io3, ρ3, S3, A3, R3, ?_, fun fl S4 io4 H4 σ4 e4 A4 g4 => ?_⟩
      · rw [e1] at G
        cases eb : b ρ3 S3 with
        | ok f S4 =>
          rw [eb] at G
          cases f with
          | exn x ρ4 => exact GoodS.mono (g1.trans g13) G
          | _ => trivial
        | exn _ _ => rw [eb] at G; exact G
        | bad => rw [eb] at G; exact G
      · rw [e4] at e1
        have g14 := g13.trans g4
        cases fl with
        | nx ρ4 => exact fun R4 => ⟨io4, ρ4, S4, A4, g14, R4, e1.symm⟩
        | cnt ρ4 => exact fun R4 => ⟨io4, ρ4, S4, A4, g14, R4, e1.symm⟩
        | brk ρ4 =>
          intro R4
          obtain ⟨H5, S5, un, A5, g5, g05, e5⟩ := endF e1 A4 g14
          exact ⟨H5, un, k (.nx ρ4) S5 io4 H5 σ4 e5 A5 g05 (RelRho.mono0 g5 R4)⟩
        | ret d =>
          intro v rv
          obtain ⟨H5, S5, un, A5, g5, g05, e5⟩ := endF e1 A4 g14
          exact ⟨H5, un, k (.ret d) S5 io4 H5 σ4 e5 A5 g05 v (rv.mono0 g5)⟩
        | exn x ρ4 => trivial
  · left
    have ei : i = src.items.length := by omega
    have ed : src.items.drop i = [] := by rw [ei, List.drop_length]
    have hk : src.keep S' = true := by
      cases hk : src.keep S' with
      | true => rfl
      | false =>
        rw [ed] at G
        unfold forL at G
        rw [if_neg (by simp [hk])] at G
        exact False.elim G
    have e1 : forL g b src (src.items.drop i) ρ' S' = forE src (.nx ρ') S' := by
      rw [ed]
      unfold forL
      rw [if_pos hk]
    refine ⟨so.stop io' S' H' i A' g' hk ei.symm, ?_⟩
    obtain ⟨H5, S5, un, A5, g5, g05, e5⟩ := endF e1 A' g'
    exact ⟨H5, un, k (.nx ρ') S5 io' H5 σ' e5 A5 g05 (RelRho.mono0 g5 R')⟩

/-! ## while -/
def whF (c : M Bool) (b : MS) : Nat → Rho → Sto → Option (Rs Fl)
  | 0, _, _ => none
  | n + 1, ρ, S => match c ρ S with
    | .ok true S1 => match b ρ S1 with
      | .ok (.nx ρ2) S2 => whF c b n ρ2 S2
      | .ok (.cnt ρ2) S2 => whF c b n ρ2 S2
      | .ok (.brk ρ2) S2 => some (.ok (.nx ρ2) S2)
      | r => some r
    | .ok false S1 => some (.ok (.nx ρ) S1)
    | .exn x S1 => some (.ok (.exn x ρ) S1)
    | .bad => some .bad
open Classical in
noncomputable def mWhile (c : M Bool) (b : MS) : MS := fun ρ S => if h : ∃ n r, whF c b n ρ S = some r then h.choose_spec.choose else .bad
end
end MP
/-! MP12 -/
set_option Elab.async false
set_option autoImplicit false
set_option linter.all false
set_option maxRecDepth 100000
namespace MP
open PySem PySem.Spec L2
open PyProof.Rows hiding St

/-! ## comprehensions -/
/-- no exception leaves a comprehension's block -/
def noX {α : Type} : Rs α → Rs α
  | .ok a S => .ok a S
  | _ => .bad
def WF : WX := fun _ _ _ _ => False
/-- the slots of the block's own names forgotten -/
def wipeR (ρ : Rho) : List Nat → Rho
  | [] => ρ
  | v :: vs => (wipeR ρ vs).set v none
def pushL (n : Nat) (y : D) (S : Sto) : Option Sto := match S[n]? with
  | some (.lst acc) => if acc.length < sizeLine then some (S.set n (.lst (acc ++ [y]))) else none
  | _ => none
def lcL (g : MG) (t : M Bool) (el : M D) (src : Src) (n : Nat) (ρ0 : Rho) : List D → Sto → Rs D
  | [], S => if src.keep S = true then (match src.fin S with
      | some S' => .ok (.ptr n) S'
      | none => .bad) else .bad
  | d :: ds, S => if src.keep S = true then (match g d ρ0 S with
      | .ok ρ1 S1 => (noX (t ρ1 S1)).bind fun c S2 => if c = true then (noX (el ρ1 S2)).bind fun y S3 => match pushL n y S3 with
          | some S4 => lcL g t el src n ρ0 ds S4
          | none => .bad
        else lcL g t el src n ρ0 ds S2
      | _ => .bad) else .bad
def mLc (mi : MI) (g : MG) (t : M Bool) (el : M D) (vs : List Nat) : M D := fun ρ S => (mi ρ S).bind fun src S1 => lcL g t el src S1.length (wipeR ρ vs) src.items (S1 ++ [.lst []])
def pushD (n : Nat) (k v : D) (S : Sto) : Option Sto := match S[n]? with
  | some (.dct kvs) => match keyD k with
    | some _ => if kvs.length < sizeLine then some (S.set n (.dct (dput kvs k v))) else none
    | none => none
  | _ => none
def dcL (g : MG) (t : M Bool) (ek el : M D) (src : Src) (n : Nat) (ρ0 : Rho) : List D → Sto → Rs D
  | [], S => if src.keep S = true then (match src.fin S with
      | some S' => .ok (.ptr n) S'
      | none => .bad) else .bad
  | d :: ds, S => if src.keep S = true then (match g d ρ0 S with
      | .ok ρ1 S1 => (noX (t ρ1 S1)).bind fun c S2 => if c = true then (noX (ek ρ1 S2)).bind fun z S3 => (noX (el ρ1 S3)).bind fun y S5 => match pushD n z y S5 with
          | some S4 => dcL g t ek el src n ρ0 ds S4
          | none => .bad
        else dcL g t ek el src n ρ0 ds S2
      | _ => .bad) else .bad
def mDc (mi : MI) (g : MG) (t : M Bool) (ek el : M D) (vs : List Nat) : M D := fun ρ S => (mi ρ S).bind fun src S1 => dcL g t ek el src S1.length (wipeR ρ vs) src.items (S1 ++ [.dct []])
def mYes : M Bool := fun _ S => .ok true S
section
variable {X : Cx} {cl : Cl} {W : WX}
theorem wipe_rel {K : PySem.W.Frag} {io : List Addr} {H : Hp} {ρ : Rho} {σ : L2.St} (R : RelRho K io H ρ σ) : ∀ vs, RelRho K io H (wipeR ρ vs) (wipe σ vs)
  | [] => R
  | v :: vs => RelRho.setN v (wipe_rel R vs)
theorem wipe_get {σ : L2.St} {i : Nat} : ∀ {vs : List Nat}, i ∈ vs → i < σ.length → (wipe σ vs)[i]? = some none
  | v :: vs, h, hl => by
    unfold wipe
    by_cases e : v = i
    · subst e
      exact List.getElem?_set_self (by rw [wipe_length]; exact hl)
    · rw [List.getElem?_set_ne e]
      rcases List.mem_cons.mp h with z | z
      · exact absurd z.symm e
      · exact wipe_get z hl
/-- behind a store into the block's own names the rest is as it was -/
theorem wipe_keeps {σ σ' : L2.St} {l vs : List Nat} (hl : ∀ j ∈ l, j ∈ vs) (k : Keeps l (wipe σ vs) σ') : wipe σ' vs = wipe σ vs := by
  have len : σ'.length = σ.length := k.1.trans (wipe_length σ vs)
  refine List.ext_getElem? fun i => ?_
  by_cases hi : i ∈ vs
  · by_cases hl2 : i < σ.length
    · rw [wipe_get hi hl2, wipe_get hi (by rw [len]; exact hl2)]
    · rw [List.getElem?_eq_none (by rw [wipe_length, len]; omega), List.getElem?_eq_none (by rw [wipe_length]; omega)]
  · rw [wipe_out hi, k.2 i fun z => hi (hl i z)]
structure EvTs (X : Cx) (cl : Cl) (W : WX) (ifs : List Expr) (m : M Bool) : Prop where
  pt : PTs X ifs (tT cl X.K W m)
theorem ets_nil : EvTs X cl W [] mYes := by
  refine ⟨⟨fun pins s σ H Q I ⟨io, ρ, S, A, R, G, k⟩ => ?_⟩⟩
  exact pts_nil.run pins s σ H Q I (k true S io H rfl A Grow.rfl')
theorem ets_one {c : Expr} {m : M Bool} (h : EvT X cl W c m) : EvTs X cl W [c] m := ⟨pts_one h.pt⟩
theorem noX_bind {α β : Type} {K : PySem.W.Frag} {io : List Addr} {H : Hp} {σ : L2.St} {r : Rs α} {f : α → Sto → Rs β} (G : Good W K cl io H σ ((noX r).bind f)) : Good WF K cl io H σ r ∧ ∀ a S, r = .ok a S → (noX r).bind f = f a S := by
  cases r with
  | ok a S => exact ⟨trivial, fun a' S' e => by cases e; rfl⟩
  | exn _ _ => exact False.elim G
  | bad => exact False.elim G
theorem noX_of {α β : Type} {r : Rs α} {f : α → Sto → Rs β} {a : α} {S : Sto} (e : r = .ok a S) : (noX r).bind f = f a S := by rw [e]; rfl
theorem pushL_ok {io : List Addr} {S S' : Sto} {H : Hp} {n : Nat} {p : Addr} {y : D} {v : V} (A : Abs X.K cl io S H) (hn : io[n]? = some p) (r : RelD X.K io H y v) (e : pushL n y S = some S') :
    ∃ acc, H p = some (.lst acc) ∧ acc.length < sizeLine ∧ Abs X.K cl io S' (upd H p (.lst (acc ++ [v]))) ∧ Grow X.K io H io (upd H p (.lst (acc ++ [v]))) := by
  unfold pushL at e
  split at e
  · rename_i ds hS
    split at e
    · rename_i hz
      cases e
      cases ptr_obj A hn hS with
      | @lst _ _ vs hH rs =>
        have mu : Mut (H p) := mut_some hH trivial
        have g : Grow X.K io H io (upd H p (.lst (vs ++ [v]))) := grow_upd (.inr mu)
        exact ⟨vs, hH, by rw [← rs.length]; exact hz, A.put hn hS rfl rfl (.lst upd_same ((rs.app (.cons r .nil)).mono g)), g⟩
    · cases e
  · cases e
/-- the reading of a list comprehension -/
theorem lc_of {mi : MI} {g : MG} {t : M Bool} {el : M D} {l vs : List Nat} (hl : ∀ j ∈ l, j ∈ vs) {σ : L2.St} {H : Hp} {Q : VK} {io : List Addr} {ρ : Rho} {S : Sto} (A : Abs X.K cl io S H) (R : RelRho X.K io H ρ σ) (G : Good W X.K cl io H σ (mLc mi g t el vs ρ S))
    (k : ∀ d S' io' H' v, mLc mi g t el vs ρ S = .ok d S' → Abs X.K cl io' S' H' → Grow X.K io H io' H' → RelD X.K io' H' d v → Q v H') :
    tLc (tI X cl W mi) (tG cl X.K g l) (tT cl X.K WF t) (tE cl X.K WF el) vs σ H (fun v H1 => ∃ H', Unl X H1 H' ∧ Q v H') := by
  refine ⟨io, ρ, S, A, R, Good.fst G, fun src S1 io1 H1 J e A1 g1 so => fun L hL => ?_⟩
  have tot : mLc mi g t el vs ρ S = lcL g t el src S1.length (wipeR ρ vs) src.items (S1 ++ [.lst []]) := by unfold mLc; rw [e]; rfl
  rw [tot] at G k
  have gL : Grow X.K io1 H1 (io1 ++ [L]) (upd H1 L (.lst [])) := grow_new hL
  have AL : Abs X.K cl (io1 ++ [L]) (S1 ++ [.lst []]) (upd H1 L (.lst [])) := A1.new hL (.lst upd_same .nil)
  have hLn : (io1 ++ [L])[S1.length]? = some L := by rw [List.getElem?_append_right (by rw [A1.len]; exact Nat.le_refl _), A1.len]; simp
  have RL : RelRho X.K (io1 ++ [L]) (upd H1 L (.lst [])) (wipeR ρ vs) (wipe σ vs) := RelRho.mono gL (RelRho.mono g1 (wipe_rel R vs))
  refine ⟨fun i m H' => ∃ io' S', m = src.items.length - i ∧ i ≤ src.items.length ∧ Abs X.K cl io' S' H' ∧ Grow X.K (io1 ++ [L]) (upd H1 L (.lst [])) io' H' ∧ lcL g t el src S1.length (wipeR ρ vs) (src.items.drop i) S' = lcL g t el src S1.length (wipeR ρ vs) src.items (S1 ++ [.lst []]),
    ⟨src.items.length, _, _, rfl, Nat.zero_le _, AL, Grow.rfl', by rw [List.drop_zero]⟩, ?_⟩
  rintro i m H' ⟨io', S', em, hle, A', g', et⟩
  rw [← et] at G k
  have hk : src.keep S' = true := by
    cases hk : src.keep S' with
    | true => rfl
    | false =>
      cases ed : src.items.drop i with
      | nil => rw [ed] at G; unfold lcL at G; rw [if_neg (by simp [hk])] at G; exact False.elim G
      | cons d ds => rw [ed] at G; unfold lcL at G; rw [if_neg (by simp [hk])] at G; exact False.elim G
  have g1' : Grow X.K io1 H1 io' H' := gL.trans g'
  by_cases hi' : i < src.items.length
  · right
    have ed : src.items.drop i = src.items[i] :: src.items.drop (i + 1) := List.drop_eq_getElem_cons hi'
    have eg : src.items[i]? = some src.items[i] := List.getElem?_eq_getElem hi'
    obtain ⟨hgo, hy⟩ := so.item io' S' H' i _ A' g1' hk eg
    refine ⟨hgo, fun H3 => ∃ io3 S3, Abs X.K cl io3 S3 H3 ∧ Grow X.K (io1 ++ [L]) (upd H1 L (.lst [])) io3 H3 ∧ lcL g t el src S1.length (wipeR ρ vs) (src.items.drop (i + 1)) S3 = lcL g t el src S1.length (wipeR ρ vs) (src.items.drop i) S',
      fun H3 ⟨io3, S3, A3, g3, e3⟩ => ⟨src.items.length - (i + 1), by omega, io3, S3, rfl, hi', A3, g3, e3.trans et⟩, fun x H2 y => ?_⟩
    obtain ⟨A2, g2, rx⟩ := hy x H2 y
    have e1 : lcL g t el src S1.length (wipeR ρ vs) (src.items.drop i) S' = match g src.items[i] (wipeR ρ vs) S' with
      | .ok ρ1 S1' => (noX (t ρ1 S1')).bind fun c S2 => if c = true then (noX (el ρ1 S2)).bind fun y S3 => match pushL S1.length y S3 with
          | some S4 => lcL g t el src S1.length (wipeR ρ vs) (src.items.drop (i + 1)) S4
          | none => .bad
        else lcL g t el src S1.length (wipeR ρ vs) (src.items.drop (i + 1)) S2
      | _ => .bad := by
      rw [ed]
      conv => lhs; unfold lcL
      rw [if_pos hk]
    have g12 := g'.trans g2
    refine ⟨io', wipeR ρ vs, S', _, A2, RelRho.mono g12 RL, rx, ?_, fun ρ3 S3 io3 H3 σ3 e3 A3 g3 R3 kp => ⟨wipe_keeps hl kp, ?_⟩⟩
    · rw [e1] at G
      cases eg : g src.items[i] (wipeR ρ vs) S' with
      | ok _ _ => trivial
      | exn _ _ => rw [eg] at G; exact G
      | bad => rw [eg] at G; exact G
    · rw [e3] at e1
      dsimp only at e1
      rw [e1] at G
      have G3 := Good.mono ((g1.trans gL).trans (g12.trans g3)) G
      obtain ⟨Gt, _⟩ := noX_bind (σ := σ) G3
      have Gt3 : Good WF X.K cl io3 H3 σ3 (t ρ3 S3) := by
        cases h : t ρ3 S3 with
        | ok _ _ => trivial
        | exn x Sx => rw [h] at G; exact False.elim G
        | bad => rw [h] at G; exact False.elim G
      refine ⟨io3, ρ3, S3, A3, R3, Gt3, fun c S4 io4 H4 e4 A4 g4 => ?_⟩
      rw [noX_of e4] at e1 G
      cases c with
      | false =>
        rw [if_neg Bool.false_ne_true] at e1 ⊢
        exact ⟨io4, S4, A4, (g12.trans g3).trans g4, e1.symm⟩
      | true =>
        rw [if_pos rfl] at e1 G ⊢
        have Ge : Good WF X.K cl io4 H4 σ3 (el ρ3 S4) := by
          cases h : el ρ3 S4 with
          | ok _ _ => trivial
          | exn x Sx => rw [h] at G; exact False.elim G
          | bad => rw [h] at G; exact False.elim G
        refine ⟨io4, ρ3, S4, A4, RelRho.mono g4 R3, Ge, fun y S5 io5 H5 v e5 A5 g5 r5 => ?_⟩
        rw [noX_of e5] at e1 G
        have g15 := ((g12.trans g3).trans g4).trans g5
        cases hp : pushL S1.length y S5 with
        | none => rw [hp] at G; exact False.elim G
        | some S6 =>
          rw [hp] at e1
          obtain ⟨acc, hacc, hz, A6, g6⟩ := pushL_ok A5 (g15.get hLn) r5 hp
          exact ⟨acc, hacc, hz, io5, S6, A6, g15.trans g6, e1.symm⟩
  · left
    have ei : i = src.items.length := by omega
    have ed : src.items.drop i = [] := by rw [ei, List.drop_length]
    have e1 : lcL g t el src S1.length (wipeR ρ vs) (src.items.drop i) S' = match src.fin S' with
      | some S' => .ok (.ptr S1.length) S'
      | none => .bad := by
      rw [ed]
      unfold lcL
      rw [if_pos hk]
    refine ⟨so.stop io' S' H' i A' g1' hk ei.symm, ?_⟩
    cases hf : src.fin S' with
    | none => rw [e1, hf] at G; exact False.elim G
    | some S5 =>
      rw [hf] at e1
      obtain ⟨H5, un, A5, g5, g05⟩ := so.fin io' S' H' S5 A' g1' hf
      exact ⟨H5, un, k _ S5 io' H5 _ e1 A5 g05 (.ptr (g'.get hLn))⟩
theorem ev_lc {elt tg iter : Expr} {ifs : List Expr} {scope : Scope} {own : List (Str × Nat)} {pos : Pos} {mi : MI} {g : MG} {t : M Bool} {el : M D} {l : List Nat} (hc : X.calm = true) (hN : X.N.Nodup) (hi : ItE X cl W tg iter mi) (ok : BlkOk X.N X.env.scope scope own)
    (hg : ∀ (s : Shared) (H : Hp) (C : Addr) (cs : List (Str × Addr)) (fp : List Addr), TgE (X.blk s H scope (compEnvC scope cs C X.env) fp) cl tg g l) (hl : ∀ j ∈ l, j ∈ own.map (·.2))
    (ht : ∀ (s : Shared) (H : Hp) (C : Addr) (cs : List (Str × Addr)) (fp : List Addr), EvTs (X.blk s H scope (compEnvC scope cs C X.env) fp) cl WF ifs t)
    (he : ∀ (s : Shared) (H : Hp) (C : Addr) (cs : List (Str × Addr)) (fp : List Addr), EvE (X.blk s H scope (compEnvC scope cs C X.env) fp) cl WF elt el) (hs : ∀ x, foldedSetIterable iter X.env x = pure x) :
    EvE X cl W (.ListComp elt [⟨tg, iter, ifs, 0⟩] scope pos) (mLc mi g t el (own.map (·.2))) :=
  EvE.of_pe (pe_unl (pe_lc (g := tG cl X.K g l) (tt := tT cl X.K WF t) (te := tE cl X.K WF el) hc hN hi ok hg (fun s H C cs fp => (ht s H C cs fp).pt) (fun s H C cs fp => (he s H C cs fp).pe) hs)) fun σ H io ρ S A R G => lc_of hl A R G fun d S' io' H' v e A' g' r => ⟨d, S', io', e, A', g', r⟩
theorem s_setLc {i : Nat} {y : Str} {py : Pos} {elt tg iter : Expr} {ifs : List Expr} {scope : Scope} {own : List (Str × Nat)} {pos spos : Pos} {mi : MI} {g : MG} {t : M Bool} {el : M D} {l : List Nat} (hc : X.calm = true) (hN : X.N.Nodup) (hy : X.N[i]? = some y) (hyl : X.env.scope.names.lookup y = some .local)
    (hsw : swapsWith (.ListComp elt [⟨tg, iter, ifs, 0⟩] scope pos) (some (.Name y py)) spos.line X.env = pure true) (hi : ItE X cl W tg iter mi) (ok : BlkOk X.N X.env.scope scope own)
    (hg : ∀ (s : Shared) (H : Hp) (C : Addr) (cs : List (Str × Addr)) (fp : List Addr), TgE (X.blk s H scope (compEnvC scope cs C X.env) fp) cl tg g l) (hl : ∀ j ∈ l, j ∈ own.map (·.2))
    (ht : ∀ (s : Shared) (H : Hp) (C : Addr) (cs : List (Str × Addr)) (fp : List Addr), EvTs (X.blk s H scope (compEnvC scope cs C X.env) fp) cl WF ifs t)
    (he : ∀ (s : Shared) (H : Hp) (C : Addr) (cs : List (Str × Addr)) (fp : List Addr), EvE (X.blk s H scope (compEnvC scope cs C X.env) fp) cl WF elt el) (hs : ∀ x, foldedSetIterable iter X.env x = pure x) :
    StE X cl W (.Assign [.Name y py] (.ListComp elt [⟨tg, iter, ifs, 0⟩] scope pos) spos) (mAsg (mLc mi g t el (own.map (·.2))) (gNm i)) := by
  refine PS.imp (ps_unl (ps_setLc (g := tG cl X.K g l) (tt := tT cl X.K WF t) (te := tE cl X.K WF el) hc hN hy hyl hsw hi ok hg (fun s H C cs fp => (ht s H C cs fp).pt) (fun s H C cs fp => (he s H C cs fp).pe) hs)) fun E σ H ⟨io, ρ, S, A, R, G, k⟩ => ?_
  refine lc_of hl A R (eS_good R G) fun d S' io' H' v e A' g' r => ?_
  have e2 : mAsg (mLc mi g t el (own.map (·.2))) (gNm i) ρ S = .ok (.nx (ρ.set i (some d))) S' := eS_of e
  exact k (.nx _) S' io' H' _ e2 A' g' (RelRho.set r i (RelRho.mono g' R))
end
end MP
/-! MP13 -/
set_option Elab.async false
set_option autoImplicit false
set_option linter.all false
set_option maxRecDepth 100000
namespace MP
open PySem PySem.Spec L2
open PyProof.Rows hiding St

/-! ## defs -/
abbrev GoodE (E : XK) (K : PySem.W.Frag) (cl : Cl) (io : List Addr) (H : Hp) {α : Type} (r : Rs α) : Prop := Good (fun c d _ H' => E c d H') K cl io H [] r
/-- what a def does: its arguments' data and the store, to a result -/
structure FnG (P : Program) (w : World) (K : PySem.W.Frag) (mg : Str → Option Value) (base : Heap) (cl : Cl) (CX : CXT) (k : Nat) (f : Addr) (fd : FuncData) (ps : List Str) (g : FL) : Prop where
  run : ∀ (A : Around) (outer : List Env) (s : Shared) (H : Hp) (args : Args) (us : List Value) (vs : List V) (io : List Addr) (S : Sto) (ds : List D) (Q : VK) (E : XK), Room k A → A.guards = some [] → Env0 P w K mg base A outer s H →
    BindsTo s fd args (ps.zip us) → Vals vs us → vs.length = ps.length → Abs K cl io S H → RelDs K io H ds vs → GoodE E K cl io H (g ds S) →
    (∀ d S' io' H' v, g ds S = .ok d S' → Abs K cl io' S' H' → Grow K io H io' H' → RelD K io' H' d v → Q v H') → codeAny (model P w) A (.call (.ref f) args) (CR CX outer P w H s Q E) s
theorem FnG.mono {P : Program} {w : World} {K : PySem.W.Frag} {mg : Str → Option Value} {base : Heap} {cl : Cl} {CX : CXT} {j k : Nat} {f : Addr} {fd : FuncData} {ps : List Str} {g : FL} (F : FnG P w K mg base cl CX j f fd ps g) (h : j ≤ k) :
    FnG P w K mg base cl CX k f fd ps g := ⟨fun A outer s H args us vs io S ds Q E hr => F.run A outer s H args us vs io S ds Q E (hr.mono h)⟩
/-- a body as a function of the arguments; n names -/
def callS (n : Nat) (m : MS) : FL := fun ds S => match m (ds.map some ++ List.replicate (n - ds.length) none) S with
  | .ok (.nx _) S' => .ok .non S'
  | .ok (.ret d) S' => .ok d S'
  | .ok (.exn x _) S' => .exn x S'
  | _ => .bad
theorem start_rel {K : PySem.W.Frag} {io : List Addr} {H : Hp} {N : List Str} {ds : List D} {vs : List V} (r : RelDs K io H ds vs) : RelRho K io H (ds.map some ++ List.replicate (N.length - ds.length) none) (L2.start N vs) := by
  unfold L2.start
  rw [r.length]
  have rep : ∀ n, RelRho K io H (List.replicate n none) (List.replicate n none) := fun n => by
    induction n with
    | zero => exact .nil
    | succ n ih => exact .cons trivial ih
  have all : ∀ {ds : List D} {vs : List V}, RelDs K io H ds vs → ∀ {ρ σ}, RelRho K io H ρ σ → RelRho K io H (ds.map some ++ ρ) (vs.map some ++ σ) := by
    intro ds
    induction ds with
    | nil => intro vs r ρ σ h; cases r; exact h
    | cons d ds ih =>
      intro vs r ρ σ h
      cases r with
      | cons r1 r2 => exact .cons r1 (ih r2 h)
  exact all r (rep _)
section
variable {CX : CXT} {P : Program} {w : World} {K : PySem.W.Frag} {mg : Str → Option Value} {base : Heap} {cl : Cl} {k : Nat} {f : Addr} {name qual : Str} {params : Arguments} {body : List Stmt} {scope : Scope} {dV kV doc pm cdv ct oc : Value} {an od : Option Addr}
  {osl : Array (Option Value)} {N ps : List Str} {m : MS}
theorem fnG_of (lk : K.lookup f = some ⟨oc, od, .func (PySem.W.fnOf name qual params body scope dV kV doc pm an cdv ct), osl⟩) (hcd : PySem.W.codeIn K cdv qual = true) (S : FnScope N ps scope)
    (hb : ∀ (A : Around) (outer : List Env) (s : Shared) (H : Hp) (E : XK), Room k (A.deeper (envOfC qual scope s.heap.objs.size f cdv)) → (A.deeper (envOfC qual scope s.heap.objs.size f cdv)).guards = some [] →
      SsE (cxOf CX P w K mg base N qual scope f cdv A outer s H E) cl (fun c d _ H' => E c d H') body m) :
    FnG P w K mg base cl CX (k + 1) f (PySem.W.fnOf name qual params body scope dV kV doc pm an cdv ct) ps (callS N.length m) := by
  refine ⟨fun A outer s H args us vs io T ds Q E hr hgd e0 hbd rv hl HA rd G kq => ?_⟩
  have KX : K.In s.heap := e0.mod.kin.keeps fun b o e => (e0.bs b o e).1
  have lim : s.heap.NoLimit := e0.mod.nolimit.keeps fun b o e => (e0.bs b o e).1
  have hkind : ∀ y ∈ ps.zip us, scope.names.lookup y.1 = some .local ∨ (scope.names.lookup y.1 = some .cell ∧ ((cellsFrom (s.heap.objs.size + 1) scope.names []).lookup y.1).isSome = true) := fun ⟨n, v⟩ hy =>
    (S.par n (List.of_mem_zip hy).1).imp (fun q => q) fun q => ⟨q, PySem.W.cellsFrom_some _ _ _ (.inl q)⟩
  refine codeAny_call_function hr.depth (KX _ _ lk) rfl S.co S.gen rfl (PySem.W.codeRec_of KX hcd) (hbd _ _ _ _ (wpAny_newFunctionEnv_cells S.kind hkind fun env he s1 x => ?_))
  subst he
  refine ⟨lim.keeps x.toInCall.keep, codeAny_func ?_⟩
  have I : Inv (cxOf CX P w K mg base N qual scope f cdv A outer s H E) [] (L2.start N vs) H s1 := inv_start S hr.hd e0 hl rv x
  have hgd' : (A.deeper (envOfC qual scope s.heap.objs.size f cdv)).guards = some [] := by simpa [Around.deeper] using hgd
  have ht := hb A outer s H E (hr.deeper _) hgd'
  have R := start_rel (N := N) rd
  have Gs : GoodS (fun c d _ H' => E c d H') K cl io H (m (ds.map some ++ List.replicate (N.length - ds.length) none) T) := by
    unfold callS at G
    cases em : m (ds.map some ++ List.replicate (N.length - ds.length) none) T with
    | ok fl T' =>
      rw [em] at G
      cases fl with
      | exn x ρ => exact fun io' H' c d σ' A' g' _ rx => G io' H' c d A' g' rx
      | nx ρ => trivial
      | ret d => trivial
      | brk ρ => trivial
      | cnt ρ => trivial
    | exn x T' => rw [em] at G; exact G
    | bad => rw [em] at G; exact G
  have fin : ∀ {σ' : L2.St} {H' : Hp} {v : V} {u : Value} {s' : Shared}, Inv (cxOf CX P w K mg base N qual scope f cdv A outer s H E) [] σ' H' s' → RelV v u → Q v H' → CE outer P w H s Q u s' :=
    fun {σ' H' v u s'} J r q => ⟨v, H', J.os, J.bare, J.base, J.hok, r, q⟩
  have noflow : ∀ fl T', m (ds.map some ++ List.replicate (N.length - ds.length) none) T = .ok fl T' → (∃ ρ, fl = .brk ρ) ∨ (∃ ρ, fl = .cnt ρ) → False := fun fl T' e h => by
    unfold callS at G
    rw [e] at G
    rcases h with ⟨ρ, z⟩ | ⟨ρ, z⟩ <;> (subst z; exact G)
  refine wpAny_mono (ht.run [] s1 (L2.start N vs) H ⟨fun _ H' => Q .non H', Q, fun _ _ => False, fun _ _ => False⟩ I ⟨io, _, T, HA, R, Gs, fun fl T' io' H' σ' e A' g' => ?_⟩) (fun fl s' hs => ?_) fun e s' hs => hs
  · have ek : ∀ d, callS N.length m ds T = .ok d T' → ∀ v, RelD K io' H' d v → Q v H' := fun d ed v r => kq d T' io' H' v ed A' g' r
    cases fl with
    | nx ρ => exact fun _ => ek .non (by unfold callS; rw [e]) .non .non
    | ret d => exact fun v r => ek d (by unfold callS; rw [e]) v r
    | brk ρ => exact fun _ => noflow _ _ e (.inl ⟨ρ, rfl⟩)
    | cnt ρ => exact fun _ => noflow _ _ e (.inr ⟨ρ, rfl⟩)
    | exn x ρ => trivial
  · cases fl with
    | ret u =>
      obtain ⟨v, σ', H', J, r, q⟩ := hs
      exact fin J r q
    | next =>
      obtain ⟨σ', H', J, q⟩ := hs
      exact fin (v := V.non) (u := Value.none) J rfl q
    | brk => obtain ⟨_, _, _, q⟩ := hs; exact q.elim
    | cont => obtain ⟨_, _, _, q⟩ := hs; exact q.elim
end
/-- an exception of a callee reaches what this body wishes -/
def PassW (CX : CXT) (X : Cx) (W : WX) : Prop := ∀ (pins : List (Addr × Obj)) (σ : L2.St) (H : Hp) (s : Shared) (e : Value) (s' : Shared), Inv X pins σ H s → CX X.stack H s (fun c d H' => W c d σ H') e s' → X.xe e s'
/-- the arguments given, the defaults behind them -/
def dflS (n : Nat) (dfl : List D) (g : FL) : FL := fun xs S => if xs.length + dfl.length = n then g (xs ++ dfl) S else .bad
section
variable {X : Cx} {cl : Cl} {W : WX} {CX : CXT} {k : Nat} {f C : Addr} {fd : FuncData} {ps : List Str} {g : FL} {dfl : List D} {dvs : List V} {us0 : List Value}
theorem run_g (F : FnG X.prog X.w X.K X.mg X.base cl CX k f fd ps g) (hr : Room k X.A) (hgd : X.A.guards = some []) (hb : Binds X.K fd ps us0) (hd : Vals dvs us0) (hdd : ∀ io H, RelDs X.K io H dfl dvs) (hx : PassW CX X W) : CaS X cl W (.ref f) (dflS ps.length dfl g) := by
  intro pins s σ H io S xs vs us I A rx ru G
  unfold dflS at G ⊢
  split at G
  · rename_i hl
    rw [if_pos hl]
    have r2 : Vals (vs ++ dvs) (us ++ us0) := ru.append hd
    have rd2 : RelDs X.K io H (xs ++ dfl) (vs ++ dvs) := rx.app (hdd io H)
    have hlv : (vs ++ dvs).length = ps.length := by rw [← rd2.length, List.length_append]; exact hl
    have hlu : (us ++ us0).length = ps.length := by rw [← r2.length]; exact hlv
    refine wpAny_call (codeAny_mono (F.run X.A X.stack s H ⟨us, []⟩ (us ++ us0) (vs ++ dvs) io S (xs ++ dfl) (AnsV X cl io H (g (xs ++ dfl) S)) (fun c d H' => W c d σ H') hr hgd I.env0 (hb s us I.kIn hlu) r2 hlv A rd2 ?_ fun d S' io' H' v e A' g' rd => ⟨d, S', io', e, A', g', rd⟩) fun r s' hq => ?_)
    · cases hg : g (xs ++ dfl) S with
      | ok _ _ => trivial
      | exn x S' => rw [hg] at G; exact fun io' H' c d A' g' rx => G io' H' c d A' g' rx
      | bad => rw [hg] at G; exact G
    · cases r with
      | error e => exact hx pins σ H s e s' I hq
      | ok fl =>
        cases fl with
        | ret u =>
          obtain ⟨v, H', I', rv, d, S', io', e, A', g', rd⟩ := I.after hq
          exact ⟨d, S', io', H', v, e, I', A', g', rd, rv⟩
        | next => exact False.elim hq
        | brk => exact False.elim hq
        | cont => exact False.elim hq
  · exact False.elim G

/-! calls by name -/
variable {x : Str} {p pos apos : Pos} {e o : Expr} {es : List Expr} {ma : M (List D)} {id T : String}
theorem cas_bind {F : Value} {pins : List (Addr × Obj)} {s : Shared} {σ : L2.St} {H : Hp} {io : List Addr} {ρ : Rho} {S : Sto} (hc : CaS X cl W F g) (ha : EvA X cl W es ma) (I : Inv X pins σ H s) (A : Abs X.K cl io S H) (R : RelRho X.K io H ρ σ) (G : Good W X.K cl io H σ (mDisp g ma ρ S)) :
    wpAny (model X.prog X.w) X.A (spliced (backTo pos (starEach es X.env))) (fun us s1 => X.K.In s1.heap ∧ wpAny (model X.prog X.w) X.A (call F us) (EvP X cl pins σ io H (mDisp g ma ρ S)) X.xe s1) X.xe s := by
  refine ha.bind I A R G fun ds S1 io1 H1 vs us s1 em I1 A1 g1 R1 rs rv G1 => ⟨I1.kIn, ?_⟩
  have e2 : mDisp g ma ρ S = g ds S1 := by unfold mDisp; rw [em]; rfl
  rw [e2]
  exact thn (hc pins s1 σ H1 io1 S1 ds vs us I1 A1 rs rv G1) fun u s2 q => q.back g1
theorem ev_call {u : Value} (hg : Gl X x) (hm : X.mg x = some u) (hk : PySem.W.keepIn X.K u = true) (hc : CaS X cl W u g) (ha : EvA X cl W (e :: es) ma) (hdb : (x == ("__debug__" : Str)) = false)
    (he : starEach (e :: es) X.env = (false, eval e X.env) :: starEach es X.env) (hpl : (backTo pos (starEach es X.env)).any (·.1) = false) : EvE X cl W (.Call (.Name x p) (e :: es) [] pos) (mDisp g ma) := by
  refine ⟨fun pins s σ H io ρ S I A R G => ?_⟩
  exact wpAny_Call_Name_kw (ld_glob I hg hm (PySem.W.callWith_K (h₀ := X.base) I.ok.mod.kin hk (cas_bind hc ha I A R G) he hpl) hdb)
theorem ev_callB (hc : CaS X cl W (.builtin id) g) (hg : Gl X x) (hm : X.mg x = none) (hv : bootBuiltins x = some (.builtin id)) (ha : EvA X cl W (e :: es) ma) (hn : x ≠ "__name__") (hdb : (x == ("__debug__" : Str)) = false)
    (he : starEach (e :: es) X.env = (false, eval e X.env) :: starEach es X.env) (hpl : (backTo pos (starEach es X.env)).any (·.1) = false) : EvE X cl W (.Call (.Name x p) (e :: es) [] pos) (mDisp g ma) := by
  refine ⟨fun pins s σ H io ρ S I A R G => ?_⟩
  exact wpAny_Call_Name_kw (ld_blt I hg hm hv (PyProof.Rows.callWith_builtin1 (thn (cas_bind hc ha I A R G) fun _ _ q => q.2) he hpl) hn hdb)
theorem ev_callT (hc : CaS X cl W (.type T) g) (hg : Gl X x) (hm : X.mg x = none) (hv : bootBuiltins x = some (.type T)) (ha : EvA X cl W (e :: es) ma) (hn : x ≠ "__name__") (hdb : (x == ("__debug__" : Str)) = false)
    (he : starEach (e :: es) X.env = (false, eval e X.env) :: starEach es X.env) (hpl : (backTo pos (starEach es X.env)).any (·.1) = false) : EvE X cl W (.Call (.Name x p) (e :: es) [] pos) (mDisp g ma) := by
  refine ⟨fun pins s σ H io ρ S I A R G => ?_⟩
  exact wpAny_Call_Name_kw (ld_blt I hg hm hv (PyProof.Rows.callWith_type1 (thn (cas_bind hc ha I A R G) fun _ _ q => q.2) he hpl) hn hdb)
end
end MP
/-! MP14 -/
set_option Elab.async false
set_option autoImplicit false
set_option linter.all false
set_option maxRecDepth 100000
namespace MP
open PySem PySem.Spec L2
open PyProof.Rows hiding St

/-! ## instances -/
def fput (f : Str) (d : D) : List (Str × D) → List (Str × D)
  | [] => [(f, d)]
  | (g, e) :: r => if g = f then (g, d) :: r else (g, e) :: fput f d r
def insAt (c : Str) (S : Sto) (n : Nat) : Option (List (Str × D)) := match S[n]? with
  | some (.ins c' fs) => if c' = c then some fs else none
  | _ => none
/-- x.f, a field of an instance of c -/
def fldS (c f : Str) : F1
  | .ptr n, S => match insAt c S n with
    | some fs => match fs.lookup f with
      | some d => .ok d S
      | none => .bad
    | none => .bad
  | _, _ => .bad
/-- x.f, a property -/
def propS (c : Str) (g : FL) : F1
  | .ptr n, S => match insAt c S n with
    | some _ => noX (g [.ptr n] S)
    | none => .bad
  | _, _ => .bad
def hasM (c m : Str) (x : D) (S : Sto) : Bool := match x with
  | .ptr n => match insAt c S n with
    | some fs => (fs.lookup m).isNone
    | none => false
  | _ => false
/-- o.m(..), a method of c -/
def mMeth (c m : Str) (g : FL) (mo : M D) (ma : M (List D)) : M D := fun ρ S => (mo ρ S).bind fun x S1 => if hasM c m x S1 = true then (ma ρ S1).bind fun xs S2 => g (x :: xs) S2 else .bad
/-- c(..) -/
def mkS (c : Str) (g : FL) : FL := fun xs S => (g (.ptr S.length :: xs) (S ++ [.ins c []])).bind fun r S1 => match r with
  | .non => .ok (.ptr S.length) S1
  | _ => .bad
def setF (c f : Str) (x d : D) (S : Sto) : Option Sto := match x with
  | .ptr n => match insAt c S n with
    | some fs => if fs.length < 1000 then some (S.set n (.ins c (fput f d fs))) else none
    | none => none
  | _ => none
/-- o.f = v -/
def mSetF (c f : Str) (mo mv : M D) : MS := eS mv fun d => eS mo fun x ρ S => match setF c f x d S with
  | some S' => .ok (.nx ρ) S'
  | none => .bad

theorem relFs_look {K : PySem.W.Frag} {io : List Addr} {H : Hp} {fs : List (Str × D)} {ws : List (Str × V)} (r : RelFs K io H fs ws) (f : Str) : (fs.lookup f = none ∧ ws.lookup f = none) ∨ ∃ d v, fs.lookup f = some d ∧ ws.lookup f = some v ∧ RelD K io H d v := by
  induction r with
  | nil => exact .inl ⟨rfl, rfl⟩
  | @cons p q fs ws h t ih =>
    obtain ⟨p1, p2⟩ := p
    obtain ⟨q1, q2⟩ := q
    have h1 : p1 = q1 := h.1
    subst h1
    rw [List.lookup_cons, List.lookup_cons]
    cases e : f == p1 with
    | true => exact .inr ⟨p2, q2, rfl, rfl, h.2⟩
    | false => exact ih
theorem relFs_put {K : PySem.W.Frag} {io : List Addr} {H : Hp} {fs : List (Str × D)} {ws : List (Str × V)} (r : RelFs K io H fs ws) (f : Str) {d : D} {v : V} (rd : RelD K io H d v) : RelFs K io H (fput f d fs) (putF f v ws) := by
  induction r with
  | nil => exact .cons ⟨rfl, rd⟩ .nil
  | @cons p q fs ws h t ih =>
    obtain ⟨p1, p2⟩ := p
    obtain ⟨q1, q2⟩ := q
    have h1 : p1 = q1 := h.1
    subst h1
    unfold fput putF
    split
    · exact .cons ⟨rfl, rd⟩ t
    · exact .cons h ih
section
variable {X : Cx} {cl : Cl} {W : WX} {CX : CXT} {k : Nat} {c m f : Str} {C fa pa ga : Addr} {fd : FuncData} {ps : List Str} {g : FL} {dfl : List D} {dvs : List V} {us0 : List Value} {e o value : Expr} {es : List Expr} {mo mv : M D} {ma : M (List D)} {pos apos : Pos}
theorem ins_obj {io : List Addr} {S : Sto} {H : Hp} {n : Nat} {a : Addr} {fs : List (Str × D)} (hC : cl c = some C) (A : Abs X.K cl io S H) (hn : io[n]? = some a) (h : insAt c S n = some fs) : ∃ dx ws, H a = some (.ins C dx ws) ∧ RelFs X.K io H fs ws ∧ S[n]? = some (.ins c fs) := by
  unfold insAt at h
  split at h
  · rename_i c' fs' hS
    split at h
    · rename_i hc
      cases h
      subst hc
      cases ptr_obj A hn hS with
      | ins hC' hH r =>
        rw [hC] at hC'
        cases hC'
        exact ⟨_, _, hH, r, hS⟩
    · cases h
  · cases h
theorem ev_fld (hC : cl c = some C) (hc : Cls X.K C) (hn : NoAttr X.K C f) (he : EvE X cl W e mo) (hb : attributeBase e f X.env (eval e X.env) = eval e X.env) : EvE X cl W (.Attribute e f pos) (mUn (fldS c f) mo) := by
  refine ⟨fun pins s σ H io ρ S I A R G => ?_⟩
  refine attr_of hb (he.bind I A R G fun x S1 io1 H1 vx u s1 e1 I1 A1 g1 R1 rx ru G1 => ?_)
  have e2 : mUn (fldS c f) mo ρ S = fldS c f x S1 := by unfold mUn; rw [e1]; rfl
  rw [e2]
  cases rx with
  | @ptr n a hio =>
    unfold fldS at G1 ⊢
    simp only at G1 ⊢
    cases hi : insAt c S1 n with
    | none => rw [hi] at G1; exact False.elim G1
    | some fs =>
      rw [hi] at G1
      simp only at G1 ⊢
      obtain ⟨dx, ws, hH, r, _⟩ := ins_obj hC A1 hio hi
      rcases relFs_look r f with ⟨h1, _⟩ | ⟨d, v, h1, h2, rd⟩
      · rw [h1] at G1; exact False.elim G1
      · have eu : _ = Value.ref a := ru
        subst eu
        refine getattr_ok I1 hH hc hn h2 fun u' s2 I2 ru' => ⟨d, S1, io1, H1, v, by rw [h1], I2, A1, g1, rd, ru'⟩
  | _ => exact False.elim G1
/-- no exception leaves a getter -/
def PassF (CX : CXT) (X : Cx) : Prop := ∀ (H : Hp) (s : Shared) (e : Value) (s' : Shared), CX X.stack H s (fun _ _ _ => False) e s' → False
theorem ev_prop (hC : cl c = some C) (hc : Cls X.K C) (hp : PropOf X.K C f pa ga) (F : FnG X.prog X.w X.K X.mg X.base cl CX k ga fd ps g) (hr : Room (k + 1) X.A) (hgd : X.A.guards = some []) (hbd : Binds X.K fd ps []) (hps : ps.length = 1) (hx : PassF CX X)
    (he : EvE X cl W e mo) (hb : attributeBase e f X.env (eval e X.env) = eval e X.env) : EvE X cl W (.Attribute e f pos) (mUn (propS c g) mo) := by
  refine ⟨fun pins s σ H io ρ S I A R G => ?_⟩
  refine attr_of hb (he.bind I A R G fun x S1 io1 H1 vx u s1 e1 I1 A1 g1 R1 rx ru G1 => ?_)
  have e2 : mUn (propS c g) mo ρ S = propS c g x S1 := by unfold mUn; rw [e1]; rfl
  rw [e2]
  cases rx with
  | @ptr n a hio =>
    unfold propS at G1 ⊢
    simp only at G1 ⊢
    cases hi : insAt c S1 n with
    | none => rw [hi] at G1; exact False.elim G1
    | some fs =>
      rw [hi] at G1
      simp only at G1 ⊢
      obtain ⟨dx, ws, hH, r, _⟩ := ins_obj hC A1 hio hi
      have eu : _ = Value.ref a := ru
      subst eu
      cases hg : g [.ptr n] S1 with
      | exn _ _ => rw [hg] at G1; exact False.elim G1
      | bad => rw [hg] at G1; exact False.elim G1
      | ok d S2 =>
        obtain ⟨mA, Ob, _, _, _, _⟩ := ins_get I1.hok hH
        obtain ⟨od, J, _⟩ := Ob.look
        obtain ⟨rest, hrec⟩ := hp.rec_
        have It := I1.tok (s1.toks + 1)
        have hcl : (PySem.W.clsIn X.K C).isSome = true := by
          obtain ⟨cd, hc', _⟩ := PySem.W.any_some hc.hd
          rw [hc']
          rfl
        refine PySem.W.get_bind I1.kIn J (PySem.W.plainGet_of (hc.get f)).1 (PySem.W.findObj_data hcl hp.at_ hp.get hp.tak) (PySem.W.plainGet_of (hc.get f)).2 (wpAny_call (PySem.W.prop_get (s := { s1 with toks := s1.toks + 1 }) I1.kIn hrec ?_))
        refine codeAny_mono (F.run X.A.in1 X.stack { s1 with toks := s1.toks + 1 } H1 ⟨[.ref a], []⟩ [.ref a] [.ref a] io1 S1 [.ptr n] (AnsV X cl io1 H1 (g [.ptr n] S1)) (fun _ _ _ => False) hr.in1 hgd It.env0.in1 (hbd _ [.ref a] I1.kIn (by simp [hps])) (.cons rfl .nil) (by simp [hps]) A1 (.cons (.ptr hio) .nil)
          (by rw [hg]; trivial) fun d S' io' H' v e' A' g' rd => ⟨d, S', io', e', A', g', rd⟩) fun r' s' hq => ?_
        cases r' with
        | error er => exact False.elim (hx _ _ er s' hq)
        | ok fl =>
          cases fl with
          | ret u' =>
            obtain ⟨v, H', I3, rv, d', S3, io3, e3, A3, g3, rd⟩ := It.after hq
            show wpAny _ _ (handedOut u') _ _ _
            rw [PySem.W.handedOut_of (handed_of rv)]
            rw [hg] at e3
            exact wpAny_pure ⟨d', S3, io3, H', v, by rw [← e3]; rfl, I3, A3, g1.trans g3, rd, rv⟩
          | next => exact False.elim hq
          | brk => exact False.elim hq
          | cont => exact False.elim hq
  | _ => exact False.elim G1
end
end MP
/-! MP15 -/
set_option Elab.async false
set_option autoImplicit false
set_option linter.all false
set_option maxRecDepth 100000
namespace MP
open PySem PySem.Spec L2
open PyProof.Rows hiding St

section
variable {X : Cx} {cl : Cl} {W : WX} {CX : CXT} {k : Nat} {c m f : Str} {C fa pa ga : Addr} {fd : FuncData} {ps : List Str} {g : FL} {dfl : List D} {dvs : List V} {us0 : List Value} {e o value : Expr} {es : List Expr} {mo mv : M D} {ma : M (List D)} {pos apos cpos : Pos}
/-! methods of built-in types -/
def dktAt (S : Sto) (n : Nat) : Bool := match S[n]? with
  | some (.dkt _) => true
  | _ => false
def tyD (T : String) (x : D) (S : Sto) : Bool := match x with
  | .str _ => T == "str"
  | .ptr n => ((T == "list" && (listAt S n).isSome) || (T == "dict" && (dctAt S n).isSome)) || (T == "dict" && dktAt S n)
  | _ => false
def mBm (T : String) (g : FM) (mo : M D) (ma : M (List D)) : M D := fun ρ S => (mo ρ S).bind fun x S1 => if tyD T x S1 = true then (ma ρ S1).bind fun xs S2 => g x xs S2 else .bad
theorem tyD_is {pins : List (Addr × Obj)} {σ : L2.St} {H : Hp} {s : Shared} {T : String} {io : List Addr} {S : Sto} {x : D} {vx : V} {v : Value} (I : Inv X pins σ H s) (A : Abs X.K cl io S H) (rx : RelD X.K io H x vx) (r : RelV vx v) (ty : tyD T x S = true) :
    s.TypeIs v T ∧ ∀ a, v = .ref a → ∃ ob, s.heap.get? a = some ob ∧ ob.dict = none := by
  cases rx with
  | str z hz =>
    have ty : (T == "str") = true := ty
    exact tyV_is I r (show T = "str" from by simpa using ty)
  | @ptr n a hn =>
    have ty : (((T == "list" && (listAt S n).isSome) || (T == "dict" && (dctAt S n).isSome)) || (T == "dict" && dktAt S n)) = true := ty
    simp only [Bool.or_eq_true, Bool.and_eq_true, beq_iff_eq] at ty
    rcases ty with (⟨rfl, h⟩ | ⟨rfl, h⟩) | ⟨rfl, h⟩
    · obtain ⟨ds, hd⟩ := Option.isSome_iff_exists.mp h
      obtain ⟨vs, hq, _⟩ := ptr_list A hn hd
      exact tyV_is I r (.inl ⟨rfl, vs, hq⟩)
    · obtain ⟨ds, hd⟩ := Option.isSome_iff_exists.mp h
      obtain ⟨ws, hq, _⟩ := ptr_dct A hn hd
      have eu : v = Value.ref a := r
      subst eu
      refine ⟨dict_typeIs I (dg_k (k := .inl 0) hq), fun b e => ?_⟩
      cases e
      exact dict_noDict I (dg_k (k := .inl 0) hq) a rfl
    · unfold dktAt at h
      split at h
      · rename_i kvs hS
        have eu : v = Value.ref a := r
        subst eu
        cases ptr_obj A hn hS with
        | dkt hH _ _ _ _ =>
          obtain ⟨⟨ob, _, _, h1, h2, _, _⟩, _, _⟩ := (show ObjOk X.prog X.w H s.heap a (dkO cl.hs a _) from I.hok a _ hH)
          refine ⟨⟨ob, h1, h2.1⟩, fun b e => ?_⟩
          cases e
          exact ⟨ob, h1, h2.2.1⟩
      · cases h
  | _ => cases ty
variable {T id : String} {gm : FM}
theorem ev_bm (pa : PlainAttrs T) (slot : Slot T m id) (hty : typeOf (.builtin id) = pure (.type "method_descriptor")) (hm : MtS X cl W id gm) (ho : EvE X cl W o mo) (ha : EvA X cl W (e :: es) ma)
    (hbase : attributeBase o m X.env (eval o X.env) = eval o X.env)
    (hfew : ((backTo cpos (starEach (e :: es) X.env)).all (fun x => !x.1) && (backToKw cpos (keywordEach [] X.env)).all (fun x => x.1.isSome) && decide ((e :: es).length + ([] : List Keyword).length + (if ([] : List Keyword).isEmpty then 0 else 1) < 30)) = true)
    (hline : (apos.endLine == cpos.line) = true) (hs : starEach (e :: es) X.env = (false, eval e X.env) :: starEach es X.env) (hplain : (backTo cpos (starEach es X.env)).any (·.1) = false) :
    EvE X cl W (.Call (.Attribute o m apos) (e :: es) [] cpos) (mBm T gm mo ma) := by
  refine ⟨fun pins s σ H io ρ S I A R G => ?_⟩
  refine wpAny_Call_method_late hbase hfew hline rfl (ho.bind I A R G fun x S1 io1 H1 vx u s1 e1 I1 A1 g1 R1 rx ru G1 => ?_)
  split at G1
  · rename_i hh
    obtain ⟨h1, h2⟩ := tyD_is I1 A1 rx ru hh
    refine ⟨T, id, pa, slot, hty, h1, h2, ?_⟩
    have hA := ha.bind (pos := cpos) (Q := fun us s2 => wpAny (model X.prog X.w) X.A (call (.builtin id) (u :: us)) (EvP X cl pins σ io H (mBm T gm mo ma ρ S)) X.xe s2) I1 A1 R1 G1 fun xs S2 io2 H2 vs us s2 e2 I2 A2 g2 R2 rs rus G2 => by
      have e3 : mBm T gm mo ma ρ S = gm x xs S2 := by unfold mBm; rw [e1]; show (if tyD T x S1 = true then _ else _) = _; rw [if_pos hh, e2]; rfl
      rw [e3]
      exact thn (hm pins s2 σ H2 io2 S2 x xs vx vs u us I2 A2 (rx.mono g2) ru rs rus G2) fun z s3 q => (q.back g2).back g1
    rw [hs] at hA ⊢
    exact Calls.callWith_builtin (by show (false || (backTo cpos (starEach es X.env)).any (·.1)) = false; rw [hplain] <;> rfl) (Calls.evalArgs_plain hA)
  · exact False.elim G1
/-! instances made -/
def mkG (c : Str) (k : Nat) (g : FL) : FL := fun xs S => if xs.length + 1 = k then mkS c g xs S else .bad
theorem run_mk (hC : cl c = some C) (M : Mk X.K C fa) (F : FnG X.prog X.w X.K X.mg X.base cl CX k fa fd ps g) (hr : Room (k + 1) X.A) (hgd : X.A.guards = some []) (hb : Binds X.K fd ps []) (hx : PassW CX X W) : CaS X cl W (.ref C) (mkG c ps.length g) := by
  intro pins s σ H io S xs vs us I A rx ru G
  unfold mkG at G ⊢
  split at G
  · rename_i hl
    rw [if_pos hl]
    have I2 := Inv.made (C := C) I
    have f0 : H s.heap.objs.size = none := I.hok.fresh (Nat.le_refl _)
    have f1 : upd H s.heap.objs.size (.own (s.heap.objs.size + 1)) (s.heap.objs.size + 1) = none := by rw [upd_ne (Nat.succ_ne_self _)]; exact I.hok.fresh (Nat.le_succ _)
    have ga : Grow X.K io H io (upd H s.heap.objs.size (.own (s.heap.objs.size + 1))) := grow_upd (.inl f0)
    have gb : Grow X.K io (upd H s.heap.objs.size (.own (s.heap.objs.size + 1))) (io ++ [s.heap.objs.size + 1]) (upd (upd H s.heap.objs.size (.own (s.heap.objs.size + 1))) (s.heap.objs.size + 1) (.ins C s.heap.objs.size [])) := grow_new f1
    have g01 := ga.trans gb
    have A2 : Abs X.K cl (io ++ [s.heap.objs.size + 1]) (S ++ [.ins c []]) (upd (upd H s.heap.objs.size (.own (s.heap.objs.size + 1))) (s.heap.objs.size + 1) (.ins C s.heap.objs.size [])) := (A.tup f0).new f1 (.ins hC upd_same .nil)
    have hn : (io ++ [s.heap.objs.size + 1])[S.length]? = some (s.heap.objs.size + 1) := by rw [List.getElem?_append_right (by rw [A.len]; exact Nat.le_refl _), A.len]; simp
    have r2 : Vals (V.ref (s.heap.objs.size + 1) :: vs) (Value.ref (s.heap.objs.size + 1) :: us) := .cons rfl ru
    have rd2 : RelDs X.K (io ++ [s.heap.objs.size + 1]) (upd (upd H s.heap.objs.size (.own (s.heap.objs.size + 1))) (s.heap.objs.size + 1) (.ins C s.heap.objs.size [])) (.ptr S.length :: xs) (V.ref (s.heap.objs.size + 1) :: vs) := .cons (.ptr hn) (rx.mono g01)
    have hlv : (V.ref (s.heap.objs.size + 1) :: vs).length = ps.length := by rw [← hl, List.length_cons, rx.length]
    have hlu : ((Value.ref (s.heap.objs.size + 1) :: us) ++ []).length = ps.length := by rw [List.append_nil, ← r2.length]; exact hlv
    refine wpAny_call (make_map (f := fa) I.kIn M.makes M.init (beq_iff_eq.mp M.fn) (codeAny_mono (F.run _ X.stack _ _ ⟨Value.ref (s.heap.objs.size + 1) :: us, []⟩ (Value.ref (s.heap.objs.size + 1) :: us) (V.ref (s.heap.objs.size + 1) :: vs) _ (S ++ [.ins c []]) (.ptr S.length :: xs)
      (fun v H2 => v = .non ∧ AnsV X cl io H (mkS c g xs S) (.ref (s.heap.objs.size + 1)) H2) (fun c d H' => W c d σ H') (hr.make C us []) ?_ (I2.env0.make C us []) (by have := hb { s with heap := (s.heap.push PySem.W.emptyDict).push (PySem.W.instObj C s.heap.objs.size) } (Value.ref (s.heap.objs.size + 1) :: us) I2.kIn hlu; rw [List.append_nil] at this; exact this) r2 hlv A2 rd2 ?_ fun d S' io' H' v e A' g' rd => ?_) fun r s' hq => ?_))
    · have ng : (Code.builtin "type.__call__" ⟨.ref C :: us, []⟩).isGuard = false := by simp [Code.isGuard, guardIds]
      simp [Around.under, Code.guards, ng, pushGuards, hgd]
    · cases hg : g (.ptr S.length :: xs) (S ++ [.ins c []]) with
      | ok _ _ => trivial
      | exn x S' =>
        unfold mkS at G
        rw [hg] at G
        exact fun io' H' cc d A' g' rx => G io' H' cc d A' (g01.trans g') rx
      | bad =>
        unfold mkS at G
        rw [hg] at G
        exact G
    · unfold mkS at G
      rw [e] at G
      cases rd with
      | non => exact ⟨rfl, .ptr S.length, S', io', by unfold mkS; rw [e]; rfl, A', g01.trans g', .ptr (g'.get hn)⟩
      | _ => exact False.elim G
    · cases r with
      | error e => exact hx pins σ _ _ e s' I2 hq
      | ok fl =>
        cases fl with
        | ret u =>
          obtain ⟨v, H', I3, rv, ev, d, S', io', e, A', g', rd⟩ := I2.after hq
          subst ev
          exact ⟨rv, d, S', io', H', _, e, I3, A', g', rd, rfl⟩
        | next => exact False.elim hq
        | brk => exact False.elim hq
        | cont => exact False.elim hq
  · exact False.elim G
end
end MP
/-! MP16 -/
set_option Elab.async false
set_option autoImplicit false
set_option linter.all false
set_option maxRecDepth 100000
namespace MP
open PySem PySem.Spec L2
open PyProof.Rows hiding St

/-! ## stores into objects -/
/-- o[i] = d -/
def setS (x i d : D) (S : Sto) : Option Sto := match x with
  | .ptr n => match S[n]? with
    | some (.lst ds) => match i with
      | .int k => match ixN ds.length k with
        | some j => some (S.set n (.lst (ds.set j d)))
        | none => none
      | _ => none
    | some (.dct kvs) => match keyD i with
      | some _ => if kvs.length < sizeLine then some (S.set n (.dct (dput kvs i d))) else none
      | none => none
    | _ => none
  | _ => none
def mSetI (mo mi mv : M D) : MS := eS mv fun d => eS mo fun x => eS mi fun i ρ S => match setS x i d S with
  | some S' => .ok (.nx ρ) S'
  | none => .bad
def gSubS (mo mi : M D) : MG := fun d ρ S => match mo ρ S with
  | .ok x S1 => match mi ρ S1 with
    | .ok i S2 => match setS x i d S2 with
      | some S3 => .ok ρ S3
      | none => .bad
    | _ => .bad
  | _ => .bad
section
variable {X : Cx} {cl : Cl} {W : WX} {c f : Str} {C : Addr} {o i value : Expr} {mo mi mv : M D} {pos pos' tpos : Pos}
theorem setF_ok {io : List Addr} {S S' : Sto} {H : Hp} {x d : D} {vx vd : V} (hC : cl c = some C) (A : Abs X.K cl io S H) (rx : RelD X.K io H x vx) (rd : RelD X.K io H d vd) (h : setF c f x d S = some S') :
    ∃ a dx ws, vx = .ref a ∧ H a = some (.ins C dx ws) ∧ ws.length < 1000 ∧ Abs X.K cl io S' (upd H a (.ins C dx (putF f vd ws))) ∧ Grow X.K io H io (upd H a (.ins C dx (putF f vd ws))) := by
  cases rx with
  | @ptr n a hn =>
    unfold setF at h
    simp only at h
    cases hi : insAt c S n with
    | none => rw [hi] at h; cases h
    | some fs =>
      rw [hi] at h
      simp only at h
      split at h
      · rename_i hl
        cases h
        obtain ⟨dx, ws, hH, r, hS⟩ := ins_obj hC A hn hi
        have mu : Mut (H a) := mut_some hH trivial
        have g : Grow X.K io H io (upd H a (.ins C dx (putF f vd ws))) := grow_upd (.inr mu)
        exact ⟨a, dx, ws, rfl, hH, by rw [← Paired.length r]; exact hl, A.put hn hS rfl rfl (.ins hC upd_same (paired_mono (fun _ _ z => ⟨z.1, z.2.mono g⟩) (relFs_put r f rd))), g⟩
      · cases h
  | _ => cases h
theorem tS_e2 {m : M D} {k : D → MS} {E : Ends} {σ : L2.St} {H : Hp} {Q : VK} {io : List Addr} {ρ : Rho} {S : Sto} (A : Abs X.K cl io S H) (R : RelRho X.K io H ρ σ) (G : GoodS W X.K cl io H (eS m k ρ S))
    (kk : ∀ fl S' io' H' σ', eS m k ρ S = .ok fl S' → Abs X.K cl io' S' H' → Grow X.K io H io' H' → FlQ X.K io' H' E σ' fl)
    (q : ∀ d v S1 io1 H1, m ρ S = .ok d S1 → Abs X.K cl io1 S1 H1 → Grow X.K io H io1 H1 → RelRho X.K io1 H1 ρ σ → RelD X.K io1 H1 d v → GoodS W X.K cl io1 H1 (k d ρ S1) → (∀ fl S' io' H' σ', k d ρ S1 = .ok fl S' → Abs X.K cl io' S' H' → Grow X.K io1 H1 io' H' → FlQ X.K io' H' E σ' fl) → Q v H1) :
    tE cl X.K W m σ H Q := by
  refine ⟨io, ρ, S, A, R, eS_good R G, fun d S1 io1 H1 v e A1 g1 rd => ?_⟩
  rw [eS_of e] at G kk
  exact q d v S1 io1 H1 e A1 g1 (RelRho.mono g1 R) rd (GoodS.mono g1 G) fun fl S' io' H' σ' e' A' g' => kk fl S' io' H' σ' e' A' (g1.trans g')
theorem s_setF (hC : cl c = some C) (hc : Cls X.K C) (hn : NoAttr X.K C f) (ho : EvE X cl W o mo) (hv : EvE X cl W value mv) (hs : swapsWith value (some (.Attribute o f pos')) pos.line X.env = pure false) : StE X cl W (.Assign [.Attribute o f pos'] value pos) (mSetF c f mo mv) := by
  refine PS.imp (ps_fld ho.pe hv.pe hs) fun E σ H ⟨io, ρ, S, A, R, G, k⟩ => ?_
  refine tS_e2 A R G k fun d vd S1 io1 H1 _ A1 _ R1 rd G1 k1 => ?_
  refine tS_e2 A1 R1 G1 k1 fun x vx S2 io2 H2 _ A2 g2 R2 rx G2 k2 => ?_
  cases h : setF c f x d S2 with
  | none => rw [h] at G2; exact False.elim G2
  | some S3 =>
    rw [h] at k2
    obtain ⟨a, dx, ws, ev, hH, hl, A3, g3⟩ := setF_ok hC A2 rx (rd.mono g2) h
    exact ⟨a, C, dx, ws, ev, hH, hc, hn, hl, k2 (.nx ρ) S3 io2 _ σ rfl A3 g3 (RelRho.mono g3 R2)⟩
theorem setS_ok {io : List Addr} {S S' : Sto} {H : Hp} {x y d : D} {vx vy vd : V} (A : Abs X.K cl io S H) (rx : RelD X.K io H x vx) (ry : RelD X.K io H y vy) (rd : RelD X.K io H d vd) (h : setS x y d S = some S') :
    ∃ H', (rSetL vx vy vd H (fun H1 => H1 = H') ∨ ∃ a, vx = .ref a ∧ DPut H a vy vd H') ∧ Abs X.K cl io S' H' ∧ Grow X.K io H io H' := by
  cases rx with
  | @ptr n a hn =>
    unfold setS at h
    simp only at h
    split at h
    · rename_i ds hS
      split at h
      · rename_i kk
        split at h
        · rename_i j hj
          cases h
          cases ry with
          | int _ =>
            cases ptr_obj A hn hS with
            | @lst _ _ vs hH r =>
              have mu : Mut (H a) := mut_some hH trivial
              have g : Grow X.K io H io (upd H a (.lst (vs.set j vd))) := grow_upd (.inr mu)
              exact ⟨_, .inl ⟨a, vs, kk, j, rfl, rfl, hH, by rw [← r.length]; exact hj, rfl⟩, A.put hn hS rfl rfl (.lst upd_same ((r.set rd j).mono g)), g⟩
        · cases h
      · cases h
    · rename_i kvs hS
      split at h
      · rename_i key hkey
        split at h
        · rename_i hz
          cases h
          obtain ⟨ez, ev⟩ := keyD_rel hkey ry
          have hok := keyD_ok hkey ry
          subst ez ev
          cases ptr_obj A hn hS with
          | @dct _ _ ws hH r =>
            have mu : Mut (H a) := mut_some hH trivial
            have g : Grow X.K io H io (upd H a (.dK (putK ws key vd))) := grow_upd (.inr mu)
            exact ⟨_, .inr ⟨a, rfl, DPut.k hH (by rw [← relKs_length r]; exact hz)⟩, A.put hn hS rfl rfl (.dct upd_same (paired_mono (fun _ _ q => ⟨q.1, q.2.1, q.2.2.mono g⟩) (relKs_put r key hok rd))), g⟩
        · cases h
      · cases h
    · cases h
  | _ => cases h
/-- o[i] = v, of a list, of a dict -/
def rSetA : TSet := fun o i v H Q => rSetL o i v H Q ∨ ∃ a H', o = .ref a ∧ DPut H a i v H' ∧ Q H'
theorem set_any (hu : X.A.units + 1 < cLine) : PSet X rSetA := by
  intro pins s σ H o i v ov iv u Q I ro ri rv h
  rcases h with h | ⟨a, H', e, g, q⟩
  · exact set_list pins s σ H o i v ov iv u Q I ro ri rv h
  · subst e
    have eu : ov = Value.ref a := ro
    subst eu
    exact d_setItem hu I g ri rv fun s' I' => ⟨H', I', q⟩
theorem s_setI (hu : X.A.units + 1 < cLine) (ho : EvE X cl W o mo) (hi : EvE X cl W i mi) (hv : EvE X cl W value mv) (hs : swapsWith value (some (.Subscript o i pos')) pos.line X.env = pure false) : StE X cl W (.Assign [.Subscript o i pos'] value pos) (mSetI mo mi mv) := by
  refine ⟨fun pins s σ H E I ⟨io, ρ, S, A, R, G, k⟩ => ?_⟩
  have h := tS_e2 (Q := fun vd H1 => tE cl X.K W mo σ H1 fun vx H2 => tE cl X.K W mi σ H2 fun vy H3 => rSetA vx vy vd H3 fun H4 => E.nx σ H4) A R G k fun d vd S1 io1 H1 _ A1 _ R1 rd G1 k1 => by
    refine tS_e2 A1 R1 G1 k1 fun x vx S2 io2 H2 _ A2 g2 R2 rx G2 k2 => ?_
    refine tS_e2 A2 R2 G2 k2 fun y vy S3 io3 H3 _ A3 g3 R3 ry G3 k3 => ?_
    cases h : setS x y d S3 with
    | none => rw [h] at G3; exact False.elim G3
    | some S4 =>
      rw [h] at k3
      obtain ⟨H4, hh, A4, g4⟩ := setS_ok A3 (rx.mono g3) ry ((rd.mono g2).mono g3) h
      have fin := k3 (.nx ρ) S4 io3 H4 σ rfl A4 g4 (RelRho.mono g4 R3)
      rcases hh with ⟨a, xs, kk, j, e1, e2, e3, e4, e5⟩ | ⟨a, e1, e2⟩
      · exact .inl ⟨a, xs, kk, j, e1, e2, e3, e4, by rw [e5]; exact fin⟩
      · exact .inr ⟨a, H4, e1, e2, fin⟩
  refine wpAny_Assign_Subscript (thn (hv.pe.run pins s σ H _ I h) fun r s1 ⟨v, H1, I1, rv, q1⟩ => thn (ho.pe.run pins s1 σ H1 _ I1 q1) fun u s2 ⟨x, H2, I2, rx, q2⟩ => thn (hi.pe.run pins s2 σ H2 _ I2 q2) fun iv s3 ⟨y, H3, I3, ry, q3⟩ => ?_) hs
  exact thn (set_any hu pins s3 σ H3 x y v u iv r _ I3 rx ry rv q3) fun _ s4 ⟨H4, I4, q4⟩ => ⟨σ, H4, I4, q4⟩

/-! ## augmented stores -/
/-- x op= y, by values (no object is changed) -/
def IpS (X : Cx) (cl : Cl) (W : WX) (op : Operator) (g : F2) : Prop := OpS X cl W (inplaceOp op) g
def mAug (j : Nat) (g : F2) (mv : M D) : MS := fun ρ S => match ρ[j]? with
  | some (some x) => eS mv (fun y ρ S => match g x y S with
    | .ok z S1 => .ok (.nx (ρ.set j (some z))) S1
    | .exn x S1 => .ok (.exn x ρ) S1
    | .bad => .bad) ρ S
  | _ => .bad
def augAdd : F2
  | .int i, .int j, S => .ok (.int (i + j)) S
  | _, _, _ => .bad
def augSub : F2
  | .int i, .int j, S => .ok (.int (i - j)) S
  | _, _, _ => .bad
end
end MP
/-! MP17 -/
set_option Elab.async false
set_option autoImplicit false
set_option linter.all false
set_option maxRecDepth 100000
namespace MP
open PySem PySem.Spec L2
open PyProof.Rows hiding St

/-! ## built-in functions by values -/
def lenS : FL
  | [.str z], S => .ok (.int z.length) S
  | [.tup ds], S => .ok (.int ds.length) S
  | [.ptr n], S => match listAt S n with
    | some ds => .ok (.int ds.length) S
    | none => match S[n]? with
      | some (.dct kvs) => .ok (.int kvs.length) S
      | _ => .bad
  | _, _ => .bad
def absS : FL
  | [.int i], S => .ok (.int (if i < 0 then -i else i)) S
  | _, _ => .bad
def intS : FL
  | [.int i], S => .ok (.int i) S
  | [.bl b], S => .ok (.int (if b then 1 else 0)) S
  | _, _ => .bad
def min2S : FL
  | [.int i, .int j], S => .ok (.int (if j < i then j else i)) S
  | _, _ => .bad
def max2S : FL
  | [.int i, .int j], S => .ok (.int (if j > i then j else i)) S
  | _, _ => .bad
def divmodS : FL
  | [.int i, .int j], S => if 0 < j ∧ j < 1073741824 then .ok (.tup [.int (i / j), .int (i % j)]) S else .bad
  | _, _ => .bad
def listS : FL
  | [.tup ds], S => newL ds S
  | [.ptr n], S => match listAt S n with
    | some ds => newL ds S
    | none => match dctAt S n with
      | some kvs => newL (kvs.map (·.1)) S
      | none => match S[n]? with
        | some (.vw "dict_values" m) => match S[m]? with
          | some (.dct kvs) => newL (kvs.map (·.2)) S
          | _ => .bad
        | _ => .bad
  | _, _ => .bad
def tupleS : FL
  | [.tup ds], S => .ok (.tup ds) S
  | [.ptr n], S => match listAt S n with
    | some ds => .ok (.tup ds) S
    | none => .bad
  | _, _ => .bad
def pairsOf : List D → Option (List (D × D))
  | [] => some []
  | .tup [k, v] :: r => match keyD k with
    | some _ => (pairsOf r).map ((k, v) :: ·)
    | none => none
  | _ :: _ => none
def newD (kvs : List (D × D)) : Sto → Rs D := fun S => .ok (.ptr S.length) (S ++ [.dct kvs])
def dictS : FL
  | [.ptr n], S => match dctAt S n with
    | some kvs => newD kvs S
    | none => match listAt S n with
      | some ds => match pairsOf ds with
        | some kvs => newD (dmerge [] kvs) S
        | none => .bad
      | none => .bad
  | _, _ => .bad
def blsOf : List D → Option (List Bool)
  | [] => some []
  | .bl b :: r => (blsOf r).map (b :: ·)
  | _ :: _ => none
def quantS (f : List Bool → Bool) : FL
  | [.ptr n], S => match listAt S n with
    | some ds => match blsOf ds with
      | some bs => .ok (.bl (f bs)) S
      | none => .bad
    | none => .bad
  | _, _ => .bad
def reprS : FL
  | [x], S => match view S 60 x with
    | some p => if p.showable = true ∧ okS p.shown then .ok (.str p.shown) S else .bad
    | none => .bad
  | _, _ => .bad

section
variable {X : Cx} {cl : Cl} {W : WX}
theorem one_arg {K : PySem.W.Frag} {io : List Addr} {H : Hp} {d : D} {vs : List V} (r : RelDs K io H [d] vs) : ∃ v, vs = [v] ∧ RelD K io H d v := by
  cases r with
  | cons r1 r2 => cases r2; exact ⟨_, rfl, r1⟩
theorem two_arg {K : PySem.W.Frag} {io : List Addr} {H : Hp} {d e : D} {vs : List V} (r : RelDs K io H [d, e] vs) : ∃ v w, vs = [v, w] ∧ RelD K io H d v ∧ RelD K io H e w := by
  cases r with
  | cons r1 r2 => cases r2 with
    | cons r2 r3 => cases r3; exact ⟨_, _, rfl, r1, r2⟩
theorem cas_use {f : Value} {r : List V → Hp → VK → Prop} {pins : List (Addr × Obj)} {s : Shared} {σ : L2.St} {H : Hp} {io : List Addr} {vs : List V} {us : List Value} {res : Rs D} (h : CallR X f r) (I : Inv X pins σ H s) (ru : Vals vs us) (k : r vs H (AnsV X cl io H res)) :
    wpAny (model X.prog X.w) X.A (call f us) (EvP X cl pins σ io H res) X.xe s := by
  refine thn (h pins s σ H vs us _ I ru k) fun z s' ⟨w, H', I', rw', d, S', io', e, A', g', rd⟩ => ?_
  exact ⟨d, S', io', H', w, e, I', A', g', rd, rw'⟩
theorem cb_len : CaS X cl W (.builtin "len") lenS := by
  intro pins s σ H io S xs vs us I A rx ru G
  unfold lenS at G ⊢
  split at G
  · rename_i z
    obtain ⟨v, rfl, r⟩ := one_arg rx
    cases r with
    | str _ hz => exact cas_use call_len I ru ⟨_, _, rfl, ⟨hz.1, rfl⟩, AnsV.here A (.int _)⟩
  · rename_i ds
    obtain ⟨v, rfl, r⟩ := one_arg rx
    cases r with
    | tup hq rs => exact cas_use call_len_seq I ru ⟨_, _, rfl, .inr hq, by rw [← rs.length]; exact AnsV.here A (.int _)⟩
  · rename_i n
    obtain ⟨v, rfl, r⟩ := one_arg rx
    cases r with
    | @ptr _ p hn =>
      split at G
      · rename_i ds hd
        obtain ⟨ws, hq, rs⟩ := ptr_list A hn hd
        exact cas_use call_len_seq I ru ⟨_, _, rfl, .inl hq, by rw [← rs.length]; exact AnsV.here A (.int _)⟩
      · split at G
        · rename_i kvs hd
          cases ptr_obj A hn hd with
          | dct hH r => exact cas_use call_lenD I ru ⟨_, _, rfl, hH, by rw [← relKs_length r]; exact AnsV.here A (.int _)⟩
        · exact False.elim G
  · exact False.elim G
theorem cb_abs : CaS X cl W (.builtin "abs") absS := by
  intro pins s σ H io S xs vs us I A rx ru G
  unfold absS at G ⊢
  split at G
  · obtain ⟨v, rfl, r⟩ := one_arg rx
    cases r
    exact cas_use call_abs I ru ⟨_, rfl, AnsV.here A (.int _)⟩
  · exact False.elim G
theorem cb_int : CaS X cl W (.type "int") intS := by
  intro pins s σ H io S xs vs us I A rx ru G
  unfold intS at G ⊢
  split at G
  · obtain ⟨v, rfl, r⟩ := one_arg rx
    cases r
    exact cas_use call_int1 I ru (.inl ⟨_, rfl, AnsV.here A (.int _)⟩)
  · obtain ⟨v, rfl, r⟩ := one_arg rx
    cases r
    exact cas_use call_int1 I ru (.inr ⟨_, rfl, AnsV.here A (.int _)⟩)
  · exact False.elim G
theorem cb_min2 (hc : X.calm = true) : CaS X cl W (.builtin "min") min2S := by
  intro pins s σ H io S xs vs us I A rx ru G
  unfold min2S at G ⊢
  split at G
  · obtain ⟨v, w, rfl, r, q⟩ := two_arg rx
    cases r
    cases q
    exact cas_use (call_min2 hc) I ru ⟨_, _, rfl, AnsV.here A (.int _)⟩
  · exact False.elim G
theorem cb_max2 (hc : X.calm = true) : CaS X cl W (.builtin "max") max2S := by
  intro pins s σ H io S xs vs us I A rx ru G
  unfold max2S at G ⊢
  split at G
  · obtain ⟨v, w, rfl, r, q⟩ := two_arg rx
    cases r
    cases q
    exact cas_use (call_max2 hc) I ru ⟨_, _, rfl, AnsV.here A (.int _)⟩
  · exact False.elim G
theorem cb_divmod : CaS X cl W (.builtin "divmod") divmodS := by
  intro pins s σ H io S xs vs us I A rx ru G
  unfold divmodS at G ⊢
  split at G
  · obtain ⟨v, w, rfl, r, q⟩ := two_arg rx
    cases r
    cases q
    split at G
    · rename_i hz
      rw [if_pos hz]
      exact cas_use call_divmod I ru ⟨_, _, rfl, hz, fun p hp => AnsV.tup A (.cons (.int _) (.cons (.int _) .nil)) rfl p hp⟩
    · exact False.elim G
  · exact False.elim G
/-- tuple(..): the new one has no dict of its own -/
theorem call_tuple_ofF : CallR X (.type "tuple") (fun xs H Q => ∃ p ys, xs = [.ref p] ∧ ((SqL X.K H p ys ∧ ∀ q ob, H q = none → ob.dict = none → Q (.ref q) (upd H q (.frz ob (.tup ys)))) ∨ (SqT X.K H p ys ∧ Q (.ref p) H))) := by
  intro pins s σ H xs us Q I r h
  obtain ⟨p, ys, rfl, h⟩ := h
  obtain ⟨u, rfl, rx⟩ := vals1 r
  cases rx
  rcases h with ⟨hq, k⟩ | ⟨hq, k⟩
  · obtain ⟨is, ri, pl, hz⟩ := I.list hq
    refine call_tuple_list pl.isList (fun h' kp => ?_) (by simp only [List.size_toArray]; rw [← ri.length]; exact hz)
    have I1 : Inv X pins σ H { s with heap := h' } := I.kept (t' := s.toks) kp
    exact ⟨.ref h'.objs.size, _, inv_newF I1 ri hz, rfl, k _ _ (I1.hok.fresh (Nat.le_refl _)) rfl⟩
  · obtain ⟨is, _, pl, _⟩ := I.tuple hq
    exact call_tuple_same pl ⟨.ref p, _, I, rfl, k⟩
theorem cb_tuple : CaS X cl W (.type "tuple") tupleS := by
  intro pins s σ H io S xs vs us I A rx ru G
  unfold tupleS at G ⊢
  split at G
  · obtain ⟨v, rfl, r⟩ := one_arg rx
    cases r with
    | tup hq rs => exact cas_use call_tuple_ofF I ru ⟨_, _, rfl, .inr ⟨hq.1, AnsV.here A (.tup hq rs)⟩⟩
  · obtain ⟨v, rfl, r⟩ := one_arg rx
    cases r with
    | ptr hn =>
      split at G
      · rename_i ds hd
        obtain ⟨ws, hq, rs⟩ := ptr_list A hn hd
        exact cas_use call_tuple_ofF I ru ⟨_, _, rfl, .inl ⟨hq, fun p ob hp ho => AnsV.tupF A rs p ob hp ho⟩⟩
      · exact False.elim G
  · exact False.elim G
theorem relKs_keys {K : PySem.W.Frag} {io : List Addr} {H : Hp} {kvs : List (D × D)} {ws : List (Key × V)} (r : RelKs K io H kvs ws) : RelDs K io H (kvs.map (·.1)) (ws.map fun kv => kV kv.1) := by
  induction r with
  | nil => exact .nil
  | @cons p q kvs ws h t ih =>
    refine .cons ?_ ih
    show RelD K io H p.1 (kV q.1)
    rw [h.1]
    have hk := h.2.1
    cases e : q.1 with
    | inl j => exact .int j
    | inr z => rw [e] at hk; exact .str z hk
theorem relKs_vals {K : PySem.W.Frag} {io : List Addr} {H : Hp} {kvs : List (D × D)} {ws : List (Key × V)} (r : RelKs K io H kvs ws) : RelDs K io H (kvs.map (·.2)) (ws.map (·.2)) := by
  induction r with
  | nil => exact .nil
  | cons h t ih => exact .cons h.2.2 ih
theorem kv_vals : ∀ {ws : List (Key × V)} {us : List (Key × Value)}, KV ws us → Vals (ws.map (·.2)) (us.map (·.2))
  | _, _, .nil => .nil
  | _, _, .cons h t => .cons h.2 (kv_vals t)
theorem AnsV.dct {io : List Addr} {S : Sto} {H : Hp} {kvs : List (D × D)} {ws : List (Key × V)} (A : Abs X.K cl io S H) (r : RelKs X.K io H kvs ws) : ∀ p, H p = none → AnsV X cl io H (newD kvs S) (.ref p) (upd H p (.dK ws)) := fun p hp => by
  have g : Grow X.K io H (io ++ [p]) (upd H p (.dK ws)) := grow_new hp
  refine ⟨_, _, _, rfl, A.new hp (.dct upd_same (paired_mono (fun _ _ z => ⟨z.1, z.2.1, z.2.2.mono g⟩) r)), g, .ptr ?_⟩
  rw [List.getElem?_append_right (by rw [A.len]; exact Nat.le_refl _), A.len]
  simp
theorem bls_rel {K : PySem.W.Frag} {io : List Addr} {H : Hp} : ∀ {ds : List D} {vs : List V} {bs : List Bool}, blsOf ds = some bs → RelDs K io H ds vs → vs = bs.map V.bl
  | [], _, bs, h, r => by cases r; cases h; rfl
  | d :: ds, _, bs, h, r => by
    cases r with
    | cons r1 r2 =>
      unfold blsOf at h
      split at h
      · rename_i e; cases e
      · rename_i b rest e
        cases e
        cases hr : blsOf ds with
        | none => rw [hr] at h; cases h
        | some more =>
          rw [hr] at h
          cases h
          cases r1
          rw [bls_rel hr r2]
          rfl
      · cases h
theorem cb_all (hc : X.calm = true) : CaS X cl W (.builtin "all") (quantS fun bs => bs.all id) := by
  intro pins s σ H io S xs vs us I A rx ru G
  unfold quantS at G ⊢
  split at G
  · obtain ⟨v, rfl, r⟩ := one_arg rx
    cases r with
    | ptr hn =>
      split at G
      · rename_i ds hd
        split at G
        · rename_i bs hb
          obtain ⟨ws, hq, rs⟩ := ptr_list A hn hd
          rw [bls_rel hb rs] at hq
          exact cas_use (cr_all hc) I ru ⟨_, _, rfl, hq, AnsV.here A (.bl _)⟩
        · exact False.elim G
      · exact False.elim G
  · exact False.elim G
theorem view_nodict : ∀ (S : Sto) (k : Nat) (d : D) (p : PyData), view S k d = some p → p.hasDict = false := by
  intro S k
  induction k with
  | zero =>
    intro d p h
    cases d <;> simp [view] at h <;> subst h <;> rfl
  | succ k ih =>
    have all : ∀ (es : List D) (qs : List PyData), es.mapM (view S k) = some qs → PyData.hasDictAll qs = false := by
      intro es
      induction es with
      | nil => intro qs h; simp at h; subst h; rfl
      | cons e es ihe =>
        intro qs h
        obtain ⟨b, bs, rfl, h1, h2⟩ := mapM_cons_some h
        show (PyData.hasDict b || PyData.hasDictAll bs) = false
        rw [ih e b h1, ihe bs h2]
        rfl
    intro d p h
    cases d with
    | tup ds =>
      simp only [view] at h
      cases hm : ds.mapM (view S k) with
      | none => rw [hm] at h; cases h
      | some qs => rw [hm] at h; cases h; exact all ds qs hm
    | ptr n =>
      simp only [view] at h
      cases hl : listAt S n with
      | none => rw [hl] at h; cases h
      | some ds =>
        rw [hl] at h
        simp only at h
        cases hm : ds.mapM (view S k) with
        | none => rw [hm] at h; cases h
        | some qs => rw [hm] at h; cases h; exact all ds qs hm
    | _ => simp only [view, Option.some.injEq] at h; subst h; rfl
end
end MP
/-! MP18 -/
set_option Elab.async false
set_option autoImplicit false
set_option linter.all false
set_option maxRecDepth 100000
namespace MP
open PySem PySem.Spec L2
open PyProof.Rows hiding St

section
variable {X : Cx} {cl : Cl} {W : WX}
/-! ## list(x) -/
theorem cb_list (hc : X.calm = true) : CaS X cl W (.type "list") listS := by
  intro pins s σ H io S xs vs us I A rx ru G
  unfold listS at G ⊢
  split at G
  · obtain ⟨v, rfl, r⟩ := one_arg rx
    cases r with
    | tup hq rs => exact cas_use call_list_of I ru ⟨_, _, rfl, .inr hq, fun p hp => AnsV.lst A rs p hp⟩
  · obtain ⟨v, rfl, r⟩ := one_arg rx
    cases r with
    | @ptr n p hn =>
      split at G
      · rename_i ds hd
        obtain ⟨ws, hq, rs⟩ := ptr_list A hn hd
        exact cas_use call_list_of I ru ⟨_, _, rfl, .inl hq, fun p hp => AnsV.lst A rs p hp⟩
      · split at G
        · rename_i kvs hd
          obtain ⟨ws, hq, rs⟩ := ptr_dct A hn hd
          exact cas_use (call_listD hc) I ru ⟨_, _, rfl, hq, fun p hp => AnsV.lst A (relKs_keys rs) p hp⟩
        · split at G
          · rename_i m hv
            split at G
            · rename_i kvs hm
              obtain ⟨u, rfl, ru'⟩ := Vals.one ru
              cases (show u = Value.ref p from ru')
              cases ptr_obj A hn hv with
              | @vw _ d _ _ hH hd =>
                cases ptr_obj A hd hm with
                | @dct _ _ ws hHd rs =>
                  obtain ⟨hφ, _, _⟩ := (show ObjOk X.prog X.w H s.heap p (vwO "dict_values" p d) from I.hok p _ hH)
                  obtain ⟨z, hs, us0, kv, o, es, ep, ho, hx, hdt, rst⟩ := dk_of I.hok hHd
                  have hat : s.heap.DictAt (mixKind X.prog X.w) d us0 ep := ⟨o, es, ho, hx, hdt, rst⟩
                  have hl : us0.length ≤ sizeLine := by rw [← Paired.length kv]; exact z
                  refine PySem.W.kdl_call (PySem.W.kdl_values (knd := mixKind X.prog X.w) (d := d) (r := p) (kvs := us0) (ep := ep)) (I.ok.hd hc) ⟨⟨_, hφ, rfl, rfl⟩, hat⟩ hl fun h' tk acc c hk hnew hit => ?_
                  have eacc : acc.toList = us0.map (·.2) := by
                    refine List.ext_getElem? fun i => ?_
                    rw [List.getElem?_map]
                    cases e : us0[i]? with
                    | none =>
                      rw [List.getElem?_eq_none (by rw [Array.length_toList, hit.1]; exact List.getElem?_eq_none_iff.mp e)]
                      rfl
                    | some q =>
                      have hi : i < acc.size := by rw [hit.1]; exact (List.getElem?_eq_some_iff.mp e).1
                      have ea : acc[i]? = some acc[i] := Array.getElem?_eq_getElem hi
                      obtain ⟨k, hk'⟩ := hit.2 i _ ea
                      rw [e] at hk'
                      cases hk'
                      simp [hi]
                  have hf : H s.heap.objs.size = none := I.hok.fresh (Nat.le_refl _)
                  have new : ObjOk X.prog X.w (upd H s.heap.objs.size (.lst (ws.map (·.2)))) h' s.heap.objs.size (.lst (ws.map (·.2))) := by
                    refine ⟨by rw [List.length_map]; exact z, acc.toList, c, ?_, by simpa using hnew⟩
                    rw [eacc]
                    exact kv_vals kv
                  obtain ⟨d', S', io', e, A', g', rd⟩ := AnsV.lst (cl := cl) A (relKs_vals rs) _ hf
                  exact ⟨d', S', io', _, _, e, I.laid (t' := tk) hk (Nat.le_refl _) new, A', g', rd, rfl⟩
            · exact False.elim G
          · exact False.elim G
  · exact False.elim G
/-! ## d.values() and others -/
theorem strs_rel {K : PySem.W.Frag} {io : List Addr} {H : Hp} : ∀ {ds : List D} {vs : List V} {ys : List Str}, strsOf ds = some ys → RelDs K io H ds vs → vs = ys.map V.str ∧ ∀ y ∈ ys, okS y
  | [], _, ys, h, r => by cases r; cases h; exact ⟨rfl, fun _ h => nomatch h⟩
  | d :: ds, _, ys, h, r => by
    cases r with
    | cons r1 r2 =>
      unfold strsOf at h
      split at h
      · rename_i e; cases e
      · rename_i x rest e
        cases e
        cases hr : strsOf ds with
        | none => rw [hr] at h; cases h
        | some more =>
          rw [hr] at h
          cases h
          obtain ⟨e1, h1⟩ := strs_rel hr r2
          cases r1 with
          | str _ hx => exact ⟨by rw [e1]; rfl, fun y hy => (List.mem_cons.mp hy).elim (fun e => e ▸ hx) (h1 y)⟩
      · cases h
theorem mt_joinS (hj : ∀ (a : Str) (ys : List Str), okS a → (∀ y ∈ ys, okS y) → (ys.map (·.length)).sum + ys.length * a.length ≤ 16777216 → okS (Txt.join a ys)) : MtS X cl W "str.join" joinS := by
  intro pins s σ H io S x xs vx vs u us I A rx ru rxs rus G
  unfold joinS at G ⊢
  split at G
  · rename_i a y
    split at G
    · rename_i ds hd
      split at G
      · rename_i ys hy
        split at G
        · rename_i hz
          rw [if_pos hz]
          cases rx with
          | str _ ha =>
            obtain ⟨w, rfl, rw'⟩ := one_arg rxs
            obtain ⟨p, ws, ew, hq, rs⟩ := items_of A rw' hd
            subst ew
            obtain ⟨e1, hok⟩ := strs_rel hy rs
            subst e1
            refine thn (mt_join pins s σ H _ _ u us (AnsV X cl io H (.ok (.str (Txt.join a ys)) S)) I ru rus ⟨a, p, ys, rfl, rfl, hq.symm, hz, AnsV.here A (.str _ (hj a ys ha hok hz))⟩) fun z s' ⟨w, H', I', rw', d, S', io', e, A', g', rd⟩ => ?_
            exact ⟨d, S', io', H', w, e, I', A', g', rd, rw'⟩
        · exact False.elim G
      · exact False.elim G
    · exact False.elim G
  · exact False.elim G
end
end MP
/-! MP19 -/
set_option Elab.async false
set_option autoImplicit false
set_option linter.all false
set_option maxRecDepth 100000
namespace MP
open PySem PySem.Spec L2
open PyProof.Rows hiding St

/-! ## isinstance -/
/-- the kind of a value: a built-in type, an own class -/
inductive Kd where
  | t (n : String) | c (c : Str)
  deriving DecidableEq
def kdS : D → Sto → Option Kd
  | .non, _ => some (.t "NoneType")
  | .bl _, _ => some (.t "bool")
  | .int _, _ => some (.t "int")
  | .str _, _ => some (.t "str")
  | .tup _, _ => some (.t "tuple")
  | .ptr n, S => match S[n]? with
    | some (.lst _) => some (.t "list")
    | some (.rol _) => some (.t "list")
    | some (.dct _) => some (.t "dict")
    | some (.rod _) => some (.t "dict")
    | some (.ins c _) => some (.c c)
    | _ => none
def isiS (f : Kd → Option Bool) : F1 := fun x S => match kdS x S with
  | some k => match f k with
    | some b => .ok (.bl b) S
    | none => .bad
  | none => .bad
inductive KdV (cl : Cl) : Kd → Value → Prop
  | t (n : String) : KdV cl (.t n) (.type n)
  | c {c : Str} {C : Addr} : cl c = some C → KdV cl (.c c) (.ref C)
/-- what must be known of a class -/
structure ClsX (K : PySem.W.Frag) (C : Addr) : Prop where
  cl : Cls K C
  ha : PySem.W.findIn K (.ref C) "__class__" = some (some (.builtin "object.__class__"))
  hn : PySem.W.specialIn K (.builtin "object.__class__") "__get__" = some (some (.builtin "getset_descriptor.__get__"))
  htk : PySem.W.takesIn K (.builtin "object.__class__") = some true
  hm : PySem.W.mroIn K C (.type "object") = some true
section
variable {X : Cx} {cl : Cl} {W : WX}
theorem tyx_of {io : List Addr} {S : Sto} {H : Hp} {d : D} {v : V} {k : Kd} (hcl : ∀ c C, cl c = some C → ClsX X.K C) (A : Abs X.K cl io S H) (r : RelD X.K io H d v) (h : kdS d S = some k) : ∃ t, TyX X.K H v t ∧ KdV cl k t := by
  cases r with
  | non => cases h; exact ⟨_, .base .non, .t _⟩
  | bl b => cases h; exact ⟨_, .base (.bl b), .t _⟩
  | int i => cases h; exact ⟨_, .base (.int i), .t _⟩
  | str x _ => cases h; exact ⟨_, .base (.str x), .t _⟩
  | tup hq _ =>
    cases h
    rcases hq with (hq | ⟨o, hq⟩) | ⟨o, its, n, hk, hc, _⟩
    · exact ⟨_, .base (.tup hq), .t _⟩
    · exact ⟨_, .fTuple hq, .t _⟩
    · exact ⟨_, .kTuple hk hc, .t _⟩
  | @ptr n a hn =>
    simp only [kdS] at h
    cases e : S[n]? with
    | none => rw [e] at h; cases h
    | some o =>
      rw [e] at h
      cases ptr_obj A hn e with
      | lst hH _ => cases h; exact ⟨_, .base (.lst hH), .t _⟩
      | rol hH _ =>
        cases h
        rcases hH with ⟨o, hH⟩ | hH
        · exact ⟨_, .base (.frz hH), .t _⟩
        · rcases hH with (hH | ⟨_, hH⟩) | ⟨o, its, n, hk, hc, _⟩
          · cases hH
          · cases hH
          · exact ⟨_, .kList hk hc, .t _⟩
      | dct hH _ => cases h; exact ⟨_, .base (.dK hH), .t _⟩
      | rod hH _ => cases h; exact ⟨_, .fDict hH, .t _⟩
      | ins hC hH _ =>
        cases h
        have q := hcl _ _ hC
        exact ⟨_, .base (.ins hH q.cl q.ha q.hn q.htk q.hm), .c hC⟩
      | vw _ _ => cases h
      | dkt _ _ _ _ _ => cases h
      | rkt _ _ _ _ _ => cases h
      | exc _ _ _ => cases h
      | lam => cases h
variable {e cx : Expr} {m : M D} {f : Kd → Option Bool} {p pos : Pos}
/-- isinstance(e, c) -/
theorem ev_isi {v : V} {u : Value} (hcl : ∀ c C, cl c = some C → ClsX X.K C) (hf : ∀ k b t, f k = some b → KdV cl k t → PySem.W.kitOne X.K t u = some b) (hcv : ClsV v u) (hc : PE X cx (tC v)) (he : EvE X cl W e m)
    (hg : Gl X "isinstance") (hm : X.mg "isinstance" = none) (hv : bootBuiltins "isinstance" = some (.builtin "isinstance")) (hs : starEach [e, cx] X.env = (false, eval e X.env) :: starEach [cx] X.env) (hs2 : starEach [cx] X.env = (false, eval cx X.env) :: starEach [] X.env)
    (hpl : (backTo pos (starEach [cx] X.env)).any (·.1) = false) : EvE X cl W (.Call (.Name "isinstance" p) [e, cx] [] pos) (mUn (isiS f) m) := by
  refine EvE.of_pe (pe_callB call_isi hg hm hv (pa_cons he.pe (pa_cons hc pa_nil hs2) hs) (by decide) (by decide) hs hpl) fun σ H io ρ S A R G => ?_
  refine ⟨io, ρ, S, A, R, Good.fst G, fun d S1 io1 H1 vx em A1 g1 rd => ?_⟩
  have e2 : mUn (isiS f) m ρ S = isiS f d S1 := by unfold mUn; rw [em]; rfl
  rw [e2] at G
  rw [e2]
  unfold isiS at G ⊢
  cases hk : kdS d S1 with
  | none => rw [hk] at G; exact False.elim G
  | some k =>
    rw [hk] at G
    simp only at G ⊢
    cases hb : f k with
    | none => rw [hb] at G; exact False.elim G
    | some b =>
      obtain ⟨t, ty, kv⟩ := tyx_of hcl A1 rd hk
      exact ⟨vx, v, t, u, b, rfl, hcv, ty, hf k b t hb kv, .bl b, S1, io1, rfl, A1, g1, .bl b⟩
end
def btys : List String := ["NoneType", "bool", "int", "str", "tuple", "list", "dict"]
/-- a built-in type's answer -/
def tyB (T n : String) : Bool := n == T || (T == "int" && n == "bool")
theorem kit_bt : ∀ n ∈ btys, ∀ T ∈ btys.drop 1, kitB n T = some (tyB T n) := by decide +kernel
/-- of some built-in types -/
def isBs (Ts : List String) (cs : List Str) : Kd → Option Bool
  | .t n => if n ∈ btys then some (Ts.any fun T => tyB T n) else none
  | .c c => if c ∈ cs then some false else none
/-- of one own class -/
def isCs (c0 : Str) (cs : List Str) : Kd → Option Bool
  | .t n => if n ∈ btys then some false else none
  | .c c => if c = c0 then some true else if c ∈ cs then some false else none
theorem isB1 {K : PySem.W.Frag} {cl : Cl} {cs : List Str} {T : String} (hT : T ∈ btys.drop 1) (hown : ∀ c ∈ cs, ∀ C, cl c = some C → PySem.W.kitOne K (.ref C) (.type T) = some false) :
    ∀ k b t, isBs [T] cs k = some b → KdV cl k t → PySem.W.kitOne K t (.type T) = some b := by
  intro k b t h kv
  cases kv with
  | t n =>
    unfold isBs at h
    simp only at h
    split at h
    · rename_i hn
      cases h
      have q := kit_bt n hn T hT
      refine kit_ty ?_
      rw [q]
      simp
    · cases h
  | c hC =>
    unfold isBs at h
    simp only at h
    split at h
    · rename_i hc
      cases h
      exact hown _ hc _ hC
    · cases h
theorem isC1 {K : PySem.W.Frag} {cl : Cl} {cs : List Str} {c0 : Str} {C0 : Addr} (h0 : cl c0 = some C0) (hty : ∀ n ∈ btys, PySem.W.kitOne K (.type n) (.ref C0) = some false) (hown : ∀ c ∈ cs, c ≠ c0 → ∀ C, cl c = some C → PySem.W.kitOne K (.ref C) (.ref C0) = some false) :
    ∀ k b t, isCs c0 cs k = some b → KdV cl k t → PySem.W.kitOne K t (.ref C0) = some b := by
  intro k b t h kv
  cases kv with
  | t n =>
    unfold isCs at h
    simp only at h
    split at h
    · rename_i hn
      cases h
      exact hty n hn
    · cases h
  | @c c C hC =>
    unfold isCs at h
    simp only at h
    split at h
    · rename_i hc
      cases h
      subst hc
      rw [h0] at hC
      cases hC
      unfold PySem.W.kitOne
      rw [if_pos (by simp)]
    · rename_i hne
      split at h
      · rename_i hc
        cases h
        exact hown c hc hne C hC
      · cases h
end MP
/-! MP20 -/
set_option Elab.async false
set_option autoImplicit false
set_option linter.all false
set_option maxRecDepth 100000
namespace MP
open PySem PySem.Spec L2
open PyProof.Rows hiding St

/-! ## a, b, *c, d = t -/
section
variable {prog : Program} {w : World} {A : Around} {E : Value → Shared → Prop} {s : Shared}
end
/-- the items ahead of the star, a new list, the items behind it -/
def gStar (n i : Nat) (r : MGs) : MG := fun d ρ S => match d with
  | .tup ds => if n ≤ ds.length + 1 ∧ ds.length ≤ 16384 then r (ds.take i ++ [.ptr S.length] ++ (ds.drop i).drop (ds.length + 1 - n)) ρ (S ++ [.lst ((ds.drop i).take (ds.length + 1 - n))]) else .bad
  | _ => .bad
section
variable {X : Cx} {cl : Cl} {W : WX}
end
end MP
/-! MP21 -/
set_option Elab.async false
set_option autoImplicit false
set_option linter.all false
set_option maxRecDepth 100000
namespace MP
open PySem PySem.Spec L2
open PyProof.Rows hiding St

/-! ## match -/
abbrev Bs := List (Str × D)
/-- none: not covered; some none: no match -/
abbrev MP' := D → Sto → Option (Option Bs)
abbrev RelB (K : PySem.W.Frag) (io : List Addr) (H : Hp) : Bs → List (Str × Value) → Prop := Paired fun p q => p.1 = q.1 ∧ ∃ v, RelD K io H p.2 v ∧ RelV v q.2
def RelBo (K : PySem.W.Frag) (io : List Addr) (H : Hp) : Option Bs → Option (List (Str × Value)) → Prop
  | none, none => True
  | some b, some c => RelB K io H b c
  | _, _ => False
structure PtE (X : Cx) (cl : Cl) (p : Pattern) (m : MP') : Prop where
  run : ∀ (pins : List (Addr × Obj)) (s : Shared) (σ : L2.St) (H : Hp) (io : List Addr) (S : Sto) (d : D) (v : V) (u : Value) (r : Option Bs), Inv X pins σ H s → Abs X.K cl io S H → RelD X.K io H d v → RelV v u → m d S = some r →
    wpAny (model X.prog X.w) X.A (matchPattern p X.env u) (fun r' s' => Inv X pins σ H s' ∧ RelBo X.K io H r r') X.xe s
structure PfE (X : Cx) (cl : Cl) (ps : List Pattern) (m : MP') : Prop where
  run : ∀ (pins : List (Addr × Obj)) (s : Shared) (σ : L2.St) (H : Hp) (io : List Addr) (S : Sto) (d : D) (v : V) (u : Value) (r : Option Bs), Inv X pins σ H s → Abs X.K cl io S H → RelD X.K io H d v → RelV v u → m d S = some r →
    wpAny (model X.prog X.w) X.A (matchFirst ps X.env u) (fun r' s' => Inv X pins σ H s' ∧ RelBo X.K io H r r') X.xe s
structure PeE (X : Cx) (cl : Cl) (ps : List Pattern) (m : List D → Sto → Option (Option Bs)) : Prop where
  run : ∀ (pins : List (Addr × Obj)) (s : Shared) (σ : L2.St) (H : Hp) (io : List Addr) (S : Sto) (ds : List D) (vs : List V) (us : List Value) (r : Option Bs), Inv X pins σ H s → Abs X.K cl io S H → RelDs X.K io H ds vs → Vals vs us → m ds S = some r →
    wpAny (model X.prog X.w) X.A (matchEach ps X.env us) (fun r' s' => Inv X pins σ H s' ∧ RelBo X.K io H r r') X.xe s
def pStr (x : Str) : MP' := fun d S => (view S 60 d).map fun p => if p.eqv (.str x) = true then some [] else none
def pCap (x : Str) : MP' := fun d _ => some (some [(x, d)])
def pfNil : MP' := fun _ _ => some none
def pfCons (a b : MP') : MP' := fun d S => match a d S with
  | some (some bs) => some (some bs)
  | some none => b d S
  | none => none
def pOr (a : MP') : MP' := fun d S => (a d S).map fun r => r.map fun _ => []
def peNil : List D → Sto → Option (Option Bs) := fun _ _ => some (some [])
def peCons (a : MP') (b : List D → Sto → Option (Option Bs)) : List D → Sto → Option (Option Bs) := fun ds S => match ds with
  | d :: ds => match a d S with
    | some (some bs) => (b ds S).map fun r => r.map fun more => bs ++ more
    | some none => some none
    | none => none
  | [] => none
def pSeq (n : Nat) (b : List D → Sto → Option (Option Bs)) : MP' := fun d S => match d with
  | .tup ds => if ds.length = n then b ds S else some none
  | _ => none
section
variable {X : Cx} {cl : Cl} {W : WX} {pos : Pos}
/-- the names of a match, stored -/
def bindR (ix : List (Str × Nat)) : Bs → Rho → Option Rho
  | [], ρ => some ρ
  | (x, d) :: r, ρ => match ix.lookup x with
    | some i => bindR ix r (ρ.set i (some d))
    | none => none
abbrev MCs := D → MS
def csNil : MCs := fun _ ρ S => .ok (.nx ρ) S
def csCons (m : MP') (ix : List (Str × Nat)) (b : MS) (r : MCs) : MCs := fun d ρ S => match m d S with
  | some none => r d ρ S
  | some (some bs) => match bindR ix bs ρ with
    | some ρ' => b ρ' S
    | none => .bad
  | none => .bad
def mMatch (me : M D) (c : MCs) : MS := eS me c
structure CsE (X : Cx) (cl : Cl) (W : WX) (cs : List MatchCase) (m : MCs) : Prop where
  run : ∀ (first : Bool) (pins : List (Addr × Obj)) (s : Shared) (σ : L2.St) (H : Hp) (io : List Addr) (ρ : Rho) (S : Sto) (d : D) (v : V) (u : Value) (E : Ends), Inv X pins σ H s → Abs X.K cl io S H → RelRho X.K io H ρ σ → RelD X.K io H d v → RelV v u → GoodS W X.K cl io H (m d ρ S) →
    (∀ fl S' io' H' σ', m d ρ S = .ok fl S' → Abs X.K cl io' S' H' → Grow X.K io H io' H' → FlQ X.K io' H' E σ' fl) → wpAny (model X.prog X.w) X.A (matchCases cs X.env u first) (SP X pins E) X.xe s
end
end MP
/-! MP22 -/
set_option Elab.async false
set_option autoImplicit false
set_option linter.all false
set_option maxRecDepth 100000
namespace MP
open PySem PySem.Spec L2
open PyProof.Rows hiding St

section
variable {X : Cx} {cl : Cl} {W : WX} {e : Expr} {m : M D}
/-! ## xs[::-1] -/
def revS : F1
  | .ptr n, S => match listAt S n with
    | some ds => newL ds.reverse S
    | none => .bad
  | _, _ => .bad
theorem mUn_ok {g : F1} {ρ : Rho} {S S1 : Sto} {d : D} (h : m ρ S = .ok d S1) : mUn g m ρ S = g d S1 := by unfold mUn; rw [h]; rfl
/-! ## a, b = x, y with plain local names -/
def mPar (i j : Nat) (ma : M (List D)) : MS := fun ρ S => match ma ρ S with
  | .ok ds S1 => match ds with
    | [x, y] => .ok (.nx ((ρ.set i (some x)).set j (some y))) S1
    | _ => .bad
  | .exn x S1 => .ok (.exn x ρ) S1
  | .bad => .bad
theorem s_par {i j : Nat} {x y : Str} {a b : Expr} {ma : M (List D)} {px py pt pos : Pos} {kt k2 pt2} (hc : X.calm = true) (hN : X.N.Nodup) (hi : X.N[i]? = some x) (hj : X.N[j]? = some y) (hij : i ≠ j)
    (hx : X.env.scope.names.lookup x = some .local) (hy : X.env.scope.names.lookup y = some .local) (ha : EvA X cl W [a, b] ma)
    (hw : swappedStores [.Tuple [.Name x px, .Name y py] kt pt] (.Tuple [a, b] k2 pt2) X.env = pure (some [x, y]))
    (hs : swapsWithSole [.Tuple [.Name x px, .Name y py] kt pt] (.Tuple [a, b] k2 pt2) pos.line X.env = pure false) :
    StE X cl W (.Assign [.Tuple [.Name x px, .Name y py] kt pt] (.Tuple [a, b] k2 pt2) pos) (mPar i j ma) := by
  refine PS.imp (ps_par hc hN hi hj hij hx hy ha.pa hw hs) fun E σ H ⟨io, ρ, S, A, R, G, k⟩ => ?_
  unfold mPar at G k
  refine ⟨io, ρ, S, A, R, ?_, fun ds S1 io1 H1 vs em A1 g1 rs => ?_⟩
  · cases em : ma ρ S with
    | ok _ _ => trivial
    | exn x S1 => rw [em] at G; exact fun io' H' c d A g r => G io' H' c d σ A g (RelRho.mono g R) r
    | bad => rw [em] at G; exact G
  · rw [em] at G k
    cases rs with
    | nil => exact False.elim G
    | cons r1 rs =>
      cases rs with
      | nil => exact False.elim G
      | cons r2 rs =>
        cases rs with
        | cons _ _ => exact False.elim G
        | nil => exact ⟨_, _, rfl, k (.nx _) S1 io1 H1 _ rfl A1 g1 (RelRho.set r2 j (RelRho.set r1 i (RelRho.mono g1 R)))⟩
/-! ## next(iter(e), d) -/
def nextS : D → D → Sto → Rs D
  | .ptr n, d, S => match listAt S n with
    | some (x :: _) => .ok x S
    | some [] => .ok d S
    | none => .bad
  | _, _, _ => .bad
def isLst (x : D) (S : Sto) : Bool := match x with
  | .ptr n => (listAt S n).isSome
  | _ => false
def mNext (m md : M D) : M D := fun ρ S => (m ρ S).bind fun x S1 => if isLst x S1 = true then (md ρ S1).bind fun d S2 => nextS x d S2 else .bad
end
end MP
/-! MP23 -/
set_option Elab.async false
set_option autoImplicit false
set_option linter.all false
set_option maxRecDepth 100000
namespace MP
open PySem PySem.Spec L2
open PyProof.Rows hiding St

/-! ## {k: v, ..} -/
abbrev Kv := List (D × D)
abbrev RelPs (K : PySem.W.Frag) (io : List Addr) (H : Hp) : Kv → List (V × V) → Prop := Paired fun p q => RelD K io H p.1 q.1 ∧ RelD K io H p.2 q.2
def mpNil : M Kv := fun _ S => .ok [] S
def mpCons (k v : M D) (r : M Kv) : M Kv := fun ρ S => (k ρ S).bind fun x S1 => (v ρ S1).bind fun y S2 => (r ρ S2).bind fun ps S3 => .ok ((x, y) :: ps) S3
def fillD (n : Nat) (kvs : Kv) (S : Sto) : Rs D := if S[n]? = some (.dct []) ∧ kvs.all (fun p => (keyD p.1).isSome) = true ∧ kvs.length ≤ 15 then .ok (.ptr n) (S.set n (.dct (dmerge [] kvs))) else .bad
def mDict (m : M Kv) : M D := fun ρ S => (m ρ (S ++ [.dct []])).bind fun kvs S1 => fillD S.length kvs S1
def mDict0 : M D := fun _ S => newD [] S
structure EvPs (X : Cx) (cl : Cl) (W : WX) (pos : Pos) (keys : List (Option Expr)) (values : List Expr) (m : M Kv) : Prop where
  run : ∀ (pins : List (Addr × Obj)) (s : Shared) (σ : L2.St) (H : Hp) (io : List Addr) (ρ : Rho) (S : Sto), Inv X pins σ H s → Abs X.K cl io S H → RelRho X.K io H ρ σ → Good W X.K cl io H σ (m ρ S) →
    wpAny (model X.prog X.w) X.A (evalPairs (pairTrees keys values X.env pos)) (fun vs s' => ∃ kvs S' io' H' ps, m ρ S = .ok kvs S' ∧ Inv X pins σ H' s' ∧ Abs X.K cl io' S' H' ∧ Grow X.K io H io' H' ∧ RelPs X.K io' H' kvs ps ∧ VV ps vs) X.xe s
section
variable {X : Cx} {cl : Cl} {W : WX} {pos : Pos}
theorem eps_nil : EvPs X cl W pos [] [] mpNil := ⟨fun pins s σ H io ρ S I A R G => pairTrees_nil_walk ⟨[], S, io, H, [], rfl, I, A, Grow.rfl', .nil, .nil⟩⟩
theorem eps_cons {k v : Expr} {ks : List (Option Expr)} {vs : List Expr} {mk mv : M D} {r : M Kv} (hk : EvE X cl W k mk) (hv : EvE X cl W v mv) (hr : EvPs X cl W pos ks vs r) : EvPs X cl W pos (some k :: ks) (v :: vs) (mpCons mk mv r) := by
  refine ⟨fun pins s σ H io ρ S I A R G => ?_⟩
  refine pairTrees_cons_walk (hk.bind I A R G fun x S1 io1 H1 vx ux s1 e1 I1 A1 g1 R1 rx ru1 G1 => ?_)
  refine hv.bind I1 A1 R1 G1 fun y S2 io2 H2 vy uy s2 e2 I2 A2 g2 R2 ry ru2 G2 => ?_
  refine thn (hr.run pins s2 σ H2 io2 ρ S2 I2 A2 R2 G2.fst) fun ws s3 ⟨kvs, S3, io3, H3, ps, e3, I3, A3, g3, rp, rv⟩ => ?_
  refine ⟨(x, y) :: kvs, S3, io3, H3, (vx, vy) :: ps, ?_, I3, A3, (g1.trans g2).trans g3, .cons ⟨(rx.mono g2).mono g3, ry.mono g3⟩ rp, .cons ⟨ru1, ru2⟩ rv⟩
  unfold mpCons
  rw [e1, Rs.bind_ok, e2, Rs.bind_ok, e3, Rs.bind_ok]
theorem keys_of {io : List Addr} {H : Hp} : ∀ {kvs : Kv} {ps : List (V × V)}, RelPs X.K io H kvs ps → kvs.all (fun p => (keyD p.1).isSome) = true → ∃ ws : List (Key × V), ps = ws.map (fun kv => (kV kv.1, kv.2)) ∧ RelKs X.K io H kvs ws
  | _, _, .nil, _ => ⟨[], rfl, .nil⟩
  | p :: kvs, q :: ps, .cons h t, ha => by
    simp only [List.all_cons, Bool.and_eq_true] at ha
    obtain ⟨ws, e, r⟩ := keys_of t ha.2
    obtain ⟨key, hk⟩ := Option.isSome_iff_exists.mp ha.1
    obtain ⟨ex, ev⟩ := keyD_rel hk h.1
    refine ⟨(key, q.2) :: ws, ?_, .cons ⟨ex, keyD_ok hk h.1, h.2⟩ r⟩
    rw [e, List.map_cons]
    congr 1
    exact Prod.ext ev rfl
theorem ev_dict {keys : List (Option Expr)} {values : List Expr} {m : M Kv} (h : EvPs X cl W pos keys values m) (hall : keys.all (·.isSome) = true) (hl : keys.length = values.length) (h0 : keys ≠ []) (h15 : keys.length ≤ 15) : EvE X cl W (.Dict keys values pos) (mDict m) := by
  refine ⟨fun pins s σ H io ρ S I A R G => ?_⟩
  have hn := I.hok.fresh (Nat.le_refl s.heap.objs.size)
  have I1 := I.laid (a := s.heap.objs.size) (o := .dK []) (h' := s.heap.push { cls := .type "dict", data := .dict #[] }) (t' := s.toks) (fun _ _ q => Heap.get?_push_of_some _ q) (Nat.le_refl _) (dk_empty s.heap I.big)
  have g1 : Grow X.K io H (io ++ [s.heap.objs.size]) (upd H s.heap.objs.size (.dK [])) := grow_new hn
  have A1 : Abs X.K cl (io ++ [s.heap.objs.size]) (S ++ [.dct []]) (upd H s.heap.objs.size (.dK [])) := A.new hn (.dct upd_same .nil)
  have hp : (io ++ [s.heap.objs.size])[S.length]? = some s.heap.objs.size := by rw [List.getElem?_append_right (by rw [A.len]; exact Nat.le_refl _), A.len]; simp
  have G1 : Good W X.K cl (io ++ [s.heap.objs.size]) (upd H s.heap.objs.size (.dK [])) σ ((m ρ (S ++ [.dct []])).bind fun kvs S1 => fillD S.length kvs S1) := Good.mono g1 G
  refine wpAny_Dict_walk (knd := mixKind X.prog X.w) hall hl h0 h15 (thn (h.run pins _ σ _ _ ρ _ I1 A1 (RelRho.mono g1 R) G1.fst) fun ws s2 ⟨kvs, S2, io2, H2, ps, e2, I2, A2, g2, rp, rv⟩ => ?_)
  rw [e2, Rs.bind_ok] at G1
  unfold fillD at G1
  split at G1
  · rename_i hz
    obtain ⟨ks, ep, rk⟩ := keys_of (X := X) rp hz.2.1
    subst ep
    obtain ⟨rs, c, rkv⟩ := carries_of (P := X.prog) (w := X.w) rv
    have hp2 := g2.get hp
    cases ptr_obj A2 hp2 hz.1 with
    | @dct _ _ wz hHd rz =>
      cases rz
      obtain ⟨z, hd, vs0, r0, dd⟩ := dk_of I2.hok hHd
      cases r0
      refine ⟨rs, c, dd, fun h' dd' hs => ?_⟩
      have hlen : (mergeK [] ks).length ≤ sizeLine := by
        have h1 := length_mergeK ks []
        have h2 : ks.length ≤ 15 := by rw [← relKs_length rk]; exact hz.2.2
        rw [List.length_nil] at h1
        rw [sizeLine_eq]; omega
      have he : ∃ q, h'.get? s.heap.objs.size = some q := let ⟨q, _, _, hq, _⟩ := dd'; ⟨q, hq⟩
      have I3 := d_write (t' := s2.toks + ws.length) I2 (by rw [hHd]; exact True.intro) hs he (dk_new hlen hd (rkv.merge .nil) dd')
      obtain ⟨d, S3, io3, e3, A3, g3, rd⟩ := AnsV.setD (cl := cl) (d := .ptr S.length) (v := .ref s.heap.objs.size) A2 hp2 hz.1 hHd (relKs_merge rk .nil) (.ptr hp2)
      refine ⟨d, S3, io3, _, _, ?_, I3, A3, (g1.trans g2).trans g3, rd, rfl⟩
      unfold mDict
      rw [e2, Rs.bind_ok]
      unfold fillD
      rw [if_pos hz]
      exact e3
  · exact False.elim G1
theorem ev_dict0 : EvE X cl W (.Dict [] [] pos) mDict0 := by
  refine EvE.of_pe pe_dnewK fun σ H io ρ S A R G => ?_
  exact fun p hp => AnsV.dct A .nil p hp
end
end MP
/-! MP24 -/
set_option Elab.async false
set_option autoImplicit false
set_option linter.all false
set_option maxRecDepth 100000
namespace MP
open PySem PySem.Spec L2
open PyProof.Rows hiding St

/-! ## short words -/
section
variable {P : Program} {w : World} {K : PySem.W.Frag} {mg : Str → Option Value} {base : Heap} {cl : Cl} {CX : CXT}
/-- a def of the text by its body -/
theorem okG {x qual : Str} {st : Stmt} {f : Addr} {fd : FuncData} {N ps : List Str} {k : Nat} {m : MS} (F : Fun K x qual st f fd) (S : FnScope N ps (defScope st))
    (hb : ∀ (cdv : Value) (A : Around) (outer : List Env) (s : Shared) (H : Hp) (E : XK), Room k (A.deeper (envOfC qual (defScope st) s.heap.objs.size f cdv)) → (A.deeper (envOfC qual (defScope st) s.heap.objs.size f cdv)).guards = some [] →
      SsE (cxOf CX P w K mg base N qual (defScope st) f cdv A outer s H E) cl (fun c d _ H' => E c d H') (defBody st) m) : FnG P w K mg base cl CX (k + 1) f fd ps (callS N.length m) := by
  obtain ⟨oc, od, kV, doc, pm, an, cdv, ct, osl, rfl, lk, hcd⟩ := F.ex
  exact fnG_of lk hcd S fun A outer s H E hr hg => hb cdv A outer s H E hr hg
theorem room65 {A : Around} {k : Nat} (hr : Room k A) : A.units + 65 < cLine := by have := hr.un; omega
theorem room1 {A : Around} {k : Nat} (hr : Room k A) : A.units + 1 < cLine := by have := hr.un; omega
end
namespace R
section
variable {X : Cx} {cl : Cl} {W : WX} {x y : Str} {pos pos' p p2 p3 apos cpos spos : Pos} {e a b c o i : Expr} {es : List Expr} {m ma mb mc mo mi mv : M D} {mt mt' : M Bool} {mA : M (List D)}
theorem v (i : Nat) (hN : X.N[i]? = some x := by rfl) (hv : Vis X.env.scope x := by first | exact Or.inl rfl | exact Or.inr (Or.inl rfl) | exact Or.inr (Or.inr rfl)) (hd : (x == ("__debug__" : Str)) = false := by decide) (hcd : (x == ("__classdict__" : Str)) = false := by decide) :
    EvE X cl W (.Name x pos) (mVar i) := ev_var hN hv hd hcd
theorem gStr {z : Str} {t : Tok} (hm : X.mg x = some (.str z t)) (hz : okS z := by decide +kernel) (hg : Gl X x := by rfl) (hd : (x == ("__debug__" : Str)) = false := by decide) : EvE X cl W (.Name x pos) (mC (.str z)) := ev_glob (v := .str z) hg hm ⟨t, rfl⟩ (fun _ _ => .str z hz) hd
theorem gInt {z : Int} {t : Tok} (hm : X.mg x = some (.int z t)) (hg : Gl X x := by rfl) (hd : (x == ("__debug__" : Str)) = false := by decide) : EvE X cl W (.Name x pos) (mC (.int z)) := ev_glob (v := .int z) hg hm ⟨t, rfl⟩ (fun _ _ => .int z) hd
theorem eA0 : EvA X cl W [] mNil := ea_nil
theorem eA (h : EvE X cl W e m) (hr : EvA X cl W es mA) (hs : starEach (e :: es) X.env = (false, eval e X.env) :: starEach es X.env := by rfl) : EvA X cl W (e :: es) (mCons m mA) := ea_cons h hr hs
theorem cmp {op : CmpOp} {g : F2} (ho : OpS X cl W (compareOp op) g) (ha : EvE X cl W a ma) (hb : EvE X cl W b mb) (hm : behindInMarks op b = false := by first | exact nobehind _ (by decide) (by decide) | rfl) : EvE X cl W (.Compare a [op] [b] pos) (mBin g ma mb) := ev_cmp ho ha hb hm
theorem tcmp {op : CmpOp} {g : F2} (ho : OpS X cl W (compareOp op) g) (ha : EvE X cl W a ma) (hb : EvE X cl W b mb) (hm : behindInMarks op b = false := by first | exact nobehind _ (by decide) (by decide) | rfl) : EvT X cl W (.Compare a [op] [b] pos) (mBl (mBin g ma mb)) := et_cmp ho ha hb hm
theorem tval (h : EvE X cl W e m) (he : ∀ whole, isTrue e X.env whole = (do let v ← whole; standAt e.pos; holding [v] (truthy v)) := by intro _; rfl) : EvT X cl W e (mTru m) := et_val h he
theorem cmp2 {op op' : CmpOp} {g g' : F2} (ho : OpS X cl W (compareOp op) g) (ho' : OpS X cl W (compareOp op') g') (ha : EvE X cl W a ma) (hb : EvE X cl W b mb) (hc : EvE X cl W c mc) (hm : lastMarks [op, op'] [b, c] = false := by rfl) :
    EvE X cl W (.Compare a [op, op'] [b, c] pos) (mChain g g' ma mb mc) := ev_chain ho ho' ha hb hc hm
theorem call {u : Value} {g : FL} (hm : X.mg x = some u) (hk : PySem.W.keepIn X.K u = true) (hc : CaS X cl W u g) (ha : EvA X cl W (e :: es) mA) (hg : Gl X x := by rfl) (hdb : (x == ("__debug__" : Str)) = false := by decide)
    (he : starEach (e :: es) X.env = (false, eval e X.env) :: starEach es X.env := by rfl) (hpl : (backTo pos (starEach es X.env)).any (·.1) = false := by rfl) : EvE X cl W (.Call (.Name x p) (e :: es) [] pos) (mDisp g mA) := ev_call hg hm hk hc ha hdb he hpl
theorem callB {id : String} {g : FL} (hc : CaS X cl W (.builtin id) g) (hm : X.mg x = none) (hv : bootBuiltins x = some (.builtin id)) (ha : EvA X cl W (e :: es) mA) (hg : Gl X x := by rfl) (hn : x ≠ "__name__" := by decide) (hdb : (x == ("__debug__" : Str)) = false := by decide)
    (he : starEach (e :: es) X.env = (false, eval e X.env) :: starEach es X.env := by rfl) (hpl : (backTo pos (starEach es X.env)).any (·.1) = false := by rfl) : EvE X cl W (.Call (.Name x p) (e :: es) [] pos) (mDisp g mA) := ev_callB hc hg hm hv ha hn hdb he hpl
theorem callT {T : String} {g : FL} (hc : CaS X cl W (.type T) g) (hm : X.mg x = none) (hv : bootBuiltins x = some (.type T)) (ha : EvA X cl W (e :: es) mA) (hg : Gl X x := by rfl) (hn : x ≠ "__name__" := by decide) (hdb : (x == ("__debug__" : Str)) = false := by decide)
    (he : starEach (e :: es) X.env = (false, eval e X.env) :: starEach es X.env := by rfl) (hpl : (backTo pos (starEach es X.env)).any (·.1) = false := by rfl) : EvE X cl W (.Call (.Name x p) (e :: es) [] pos) (mDisp g mA) := ev_callT hc hg hm hv ha hn hdb he hpl
theorem isi {f : Kd → Option Bool} {cx : Expr} {vv : V} {u : Value} (hcl : ∀ c C, cl c = some C → ClsX X.K C) (hf : ∀ k b t, f k = some b → KdV cl k t → PySem.W.kitOne X.K t u = some b) (hcv : ClsV vv u) (hc : PE X cx (tC vv)) (he : EvE X cl W e m) (hm : X.mg "isinstance" = none)
    (hg : Gl X "isinstance" := by rfl) (hs : starEach [e, cx] X.env = (false, eval e X.env) :: starEach [cx] X.env := by rfl) (hs2 : starEach [cx] X.env = (false, eval cx X.env) :: starEach [] X.env := by rfl) (hpl : (backTo pos (starEach [cx] X.env)).any (·.1) = false := by rfl) :
    EvE X cl W (.Call (.Name "isinstance" p) [e, cx] [] pos) (mUn (isiS f) m) := ev_isi hcl hf hcv hc he hg hm boot_isinstance hs hs2 hpl
theorem bty {T : String} (hm : X.mg x = none) (hv : bootBuiltins x = some (.type T)) (hg : Gl X x := by rfl) (hn : x ≠ "__name__" := by decide) (hd : (x == ("__debug__" : Str)) = false := by decide) : PE X (.Name x pos) (tC (.ty T)) := pe_bltn hg hm hv rfl hn hd
theorem ix (hu : X.A.units + 1 < cLine) (ha : EvE X cl W a ma) (hb : EvE X cl W b mb) (hs : PlainIx b := by intro _ _; rfl) : EvE X cl W (.Subscript a b pos) (mBin ixS ma mb) := ev_ix hu ha hb hs
theorem fld {c f : Str} {C : Addr} (hC : cl c = some C) (hc : Cls X.K C) (hn : NoAttr X.K C f) (he : EvE X cl W e m) (hb : attributeBase e f X.env (eval e X.env) = eval e X.env := by rfl) : EvE X cl W (.Attribute e f pos) (mUn (fldS c f) m) := ev_fld hC hc hn he hb
theorem bm {T id : String} {n : Str} {g : FM} (pa : PlainAttrs T) (slot : Slot T n id) (hty : typeOf (.builtin id) = pure (.type "method_descriptor")) (hm : MtS X cl W id g) (ho : EvE X cl W o mo) (ha : EvA X cl W (e :: es) mA)
    (hbase : attributeBase o n X.env (eval o X.env) = eval o X.env := by rfl)
    (hfew : ((backTo cpos (starEach (e :: es) X.env)).all (fun x => !x.1) && (backToKw cpos (keywordEach [] X.env)).all (fun x => x.1.isSome) && decide ((e :: es).length + ([] : List Keyword).length + (if ([] : List Keyword).isEmpty then 0 else 1) < 30)) = true := by rfl)
    (hline : (apos.endLine == cpos.line) = true := by rfl) (hs : starEach (e :: es) X.env = (false, eval e X.env) :: starEach es X.env := by rfl) (hplain : (backTo cpos (starEach es X.env)).any (·.1) = false := by rfl) :
    EvE X cl W (.Call (.Attribute o n apos) (e :: es) [] cpos) (mBm T g mo mA) := ev_bm pa slot hty hm ho ha hbase hfew hline hs hplain
/-! statements -/
variable {st : Stmt} {rest body : List Stmt} {ms mr : MS}
theorem nm (j : Nat) (hN : X.N.Nodup) (hi : X.N[j]? = some x := by rfl) (hx : Loc X.env.scope x := by first | exact Or.inl rfl | exact Or.inr rfl) (hf : X.fn x = true ∨ X.env.scope.names.lookup x = some .local := by first | exact Or.inl rfl | exact Or.inr rfl) : TgE X cl (.Name x pos) (gNm j) [j] := g_name hN hi hx hf
theorem set (j : Nat) (hN : X.N.Nodup) (he : EvE X cl W e m) (hi : X.N[j]? = some x := by rfl) (hx : Loc X.env.scope x := by first | exact Or.inl rfl | exact Or.inr rfl) (hf : X.fn x = true ∨ X.env.scope.names.lookup x = some .local := by first | exact Or.inl rfl | exact Or.inr rfl)
    (hs : swapsWith e (some (.Name x pos')) pos.line X.env = pure false := by rfl) : StE X cl W (.Assign [.Name x pos'] e pos) (mAsg m (gNm j)) := s_set hN hi hx hf he hs
theorem asgn {tg : Expr} {g : MG} {l : List Nat} (he : EvE X cl W e m) (hg : TgE X cl tg g l) (hs : swapsWithSole [tg] e pos.line X.env = pure false := by rfl) (hw : swappedStores [tg] e X.env = pure none := by rfl)
    (h1 : (assignEach [tg] X.env).map (·.2) = [assign tg X.env] := by rfl) : StE X cl W (.Assign [tg] e pos) (mAsg m g) := s_asg he hg hs hw h1
theorem gc {t : Expr} {ts : List Expr} {g : MG} {r : MGs} {l l' : List Nat} (h1 : TgE X cl t g l) (h2 : TgsE X cl ts r l') (hs : (assignEach (t :: ts) X.env).map (·.2) = assign t X.env :: (assignEach ts X.env).map (·.2) := by rfl) : TgsE X cl (t :: ts) (gsCons g r) (l ++ l') := gs_cons h1 h2 hs
theorem gt {ts : List Expr} {k : Nat} {r : MGs} {l : List Nat} (n : Nat) (hc : X.calm = true) (h : TgsE X cl ts r l) (hn : (assignEach ts X.env).length = n := by rfl) (hst : (assignEach ts X.env).findIdx? (·.1) = none := by rfl) : TgE X cl (.Tuple ts k pos) (gTp n r) l := g_tup hc h hn hst
theorem xp (he : EvE X cl W e m) (hs : swapsWith e none pos.line X.env = pure false := by rfl) : StE X cl W (.Expr e pos) (mDrop m) := s_expr he hs
theorem forr {tg it : Expr} {mi : MI} {g : MG} {l : List Nat} (hp : PassesOwn (model X.prog X.w) X.A X.env X.xe) (hc : X.calm = true) (hi : ItE X cl W tg it mi) (hg : TgE X cl tg g l) (hb : SsE X cl W body ms) (hs : ∀ x, foldedSetIterable it X.env x = pure x := by intro _; rfl) : StE X cl W (.For tg it body [] pos) (mFor mi g ms) := s_for hp hc hi hg hb hs
theorem setI (hu : X.A.units + 1 < cLine) (ho : EvE X cl W o mo) (hi : EvE X cl W i mi) (hv : EvE X cl W e mv) (hs : swapsWith e (some (.Subscript o i pos')) pos.line X.env = pure false := by rfl) : StE X cl W (.Assign [.Subscript o i pos'] e pos) (mSetI mo mi mv) := s_setI hu ho hi hv hs
theorem setFl {c f : Str} {C : Addr} (hC : cl c = some C) (hc : Cls X.K C) (hn : NoAttr X.K C f) (ho : EvE X cl W o mo) (hv : EvE X cl W e mv) (hs : swapsWith e (some (.Attribute o f pos')) pos.line X.env = pure false := by rfl) : StE X cl W (.Assign [.Attribute o f pos'] e pos) (mSetF c f mo mv) := s_setF hC hc hn ho hv hs
end
end R
end MP
/-! MP25 -/
set_option Elab.async false
set_option autoImplicit false
set_option linter.all false
set_option maxRecDepth 100000
namespace MP
open PySem PySem.Spec L2
open PyProof.Rows hiding St

/-! ## == and != by an own __eq__ -/
section
variable {prog : Program} {w : World} {A : Around} {E : Value → Shared → Prop} {s : Shared} {K : PySem.W.Frag} {x C f : Addr} {ox : Obj} {od : Option Obj} {b : Value}
theorem check_ne (X : K.In s.heap) (I : PySem.W.InstAt s.heap x ox C od) (hm : PySem.W.mroIn K C (.type "object") = some true) {Q : Unit → Shared → Prop} (q : Q () s) : wpAny (model prog w) A (checkBuiltinCall "object.__ne__" ⟨[.ref x, b], []⟩) Q E s := by
  have L0 := I.type (M := model prog w)
  have L1 := PySem.W.looks_mroIn (M := model prog w) X hm
  simp only [checkBuiltinCall, F.cmpKind_ne, F.cmpSplit_ne]
  refine wpAny_bind ?_
  unfold isInstance
  refine wpAny_bind (L0.here (L1.here ?_))
  have ha := F.cmpArgs_ne (.ref x) b
  cases hsig : Manifest.signature? "object.__ne__" with
  | none => exact wpAny_pure q
  | some sig =>
    simp only [argsOk, hsig] at ha
    have h2 : Bind.checkArgs "object.__ne__" sig ⟨[.ref x, b], []⟩ = pure () := ha
    show wpAny _ A (Bind.checkArgs "object.__ne__" sig ⟨[.ref x, b], []⟩) Q E _
    rw [h2]
    exact wpAny_pure q
/-- x.__ne__(b) that hangs on object, __eq__ its own -/
theorem ne_one (X : K.In s.heap) (I : PySem.W.InstAt s.heap x ox C od) (hne : PySem.W.findIn K (.ref C) "__ne__" = some (some (.builtin "object.__ne__"))) (hs : PySem.W.findIn K (.ref C) "__eq__" = some (some (.ref f))) (hf : PySem.W.isFn K (.ref f) = true)
    (hm : PySem.W.mroIn K C (.type "object") = some true) (hu : A.units + 1 < cLine) {Q : Value → Shared → Prop} (h : wpAny (model prog w) A.in1 (call (.ref f) [.ref x, b]) (fun v s' => ∃ c, v = .bool c ∧ Q (.bool (!c)) s') E s) :
    wpAny (model prog w) A (tryCompare (.ref x) "__ne__" b) (fun r s' => ∃ v, r = some v ∧ Q v s') E s := by
  have go : wpAny (model prog w) A (callSpecialIfBound? (.ref x) "__ne__" [b]) (fun r s' => ∃ c, r = some (.bool (!c)) ∧ Q (.bool (!c)) s') E s := by
    simp only [callSpecialIfBound?, bindSpecialIfBound?]
    refine wpAny_holding (wpAny_bind (wpAny_bind (wpAny_bind (I.type.here ((PySem.W.looks_findIn X hne).here ?_)))))
    refine wpAny_bind (wpAny_askSetting (wpAny_ite ?_))
    have fin : wpAny (model prog w) A (call (.builtin "object.__ne__") ([.ref x] ++ [b]) >>= fun v => pure (some v)) (fun r s' => ∃ c, r = some (.bool (!c)) ∧ Q (.bool (!c)) s') E s := by
      refine wpAny_bind (wpAny_call (codeAny_call_builtin PySem.F.cmp_object.ne.plain F.cmpEntry_ne (check_ne X I hm ?_)))
      unfold Builtin.«object.__ne__»
      refine wpAny_bind (wpAny_of_eq (a := (Value.ref x, [b])) (by rfl) ?_)
      show wpAny _ _ (cRoomFor "comparison" [.ref x, b] >>= _) _ _ _
      refine wpAny_bind (wpAny_cRoomFor (by show A.units + 1 < cLine; exact hu) ?_)
      refine wpAny_bind (PySem.W.ifBound_K X I hs hf (wpAny_mono h (fun v s' ⟨c, e, q⟩ => ?_) fun _ _ e => e))
      subst e
      show wpAny _ _ (truthy (.bool c) >>= fun r => ret (.bool (!r))) _ _ _
      exact wpAny_bind (wpAny_truthy_bool (wpAny_pure (by exact wpAny_pure ⟨c, rfl, q⟩)))
    split
    · refine wpAny_bind ?_
      rw [PySem.F.cmp_object.ne.bind]
      exact wpAny_pure (wpAny_pure fin)
    · refine wpAny_tryCatch (wpAny_bind ?_)
      rw [PySem.F.cmp_object.ne.bind]
      exact wpAny_pure (wpAny_pure fin)
  unfold tryCompare
  refine wpAny_bind (wpAny_mono go (fun r s' ⟨c, e, q⟩ => ?_) fun _ _ e => e)
  subst e
  exact wpAny_pure ⟨_, rfl, q⟩
theorem rich_ne {tb : Value} (hu : A.units + 1 < cLine) (X : K.In s.heap) (I : PySem.W.InstAt s.heap x ox C od) (hb : PySem.W.Looks (model prog w) s.heap (typeOf b) tb) (hn : PySem.W.notFirst K C tb = true)
    (hne : PySem.W.findIn K (.ref C) "__ne__" = some (some (.builtin "object.__ne__"))) (hs : PySem.W.findIn K (.ref C) "__eq__" = some (some (.ref f))) (hf : PySem.W.isFn K (.ref f) = true) (hm : PySem.W.mroIn K C (.type "object") = some true)
    {Q : Value → Shared → Prop} (h : wpAny (model prog w) A.in1 (call (.ref f) [.ref x, b]) (fun v s' => ∃ c, v = .bool c ∧ Q (.bool (!c)) s') E s) : wpAny (model prog w) A (richCompare .NotEq (.ref x) b) Q E s := by
  have one := ne_one (b := b) X I hne hs hf hm hu h
  unfold richCompare
  simp only [oneThing_ref]
  refine wpAny_holding (wpAny_bind (wpAny_cRoomFor (by omega) ?_))
  refine wpAny_bind (I.type.here (wpAny_bind (hb.here ?_)))
  split
  · rename_i q
    have e : PySem.W.subIn K tb (.ref C) = some false := by
      rcases Bool.or_eq_true_iff.mp hn with e | e
      · rw [beq_iff_eq.mp e] at q; simp at q
      · exact beq_iff_eq.mp e
    refine wpAny_bind ((PySem.W.looks_subIn X e).here ?_)
    simp only [Bool.false_eq_true, if_false]
    exact wpAny_bind (wpAny_mono one (fun r s' ⟨v, e, q⟩ => by subst e; exact wpAny_pure q) fun _ _ e => e)
  · refine wpAny_bind (wpAny_pure ?_)
    simp only [Bool.false_eq_true, if_false]
    exact wpAny_bind (wpAny_mono one (fun r s' ⟨v, e, q⟩ => by subst e; exact wpAny_pure q) fun _ _ e => e)
end
def blOnly : Rs D → Rs D
  | .ok (.bl b) S => .ok (.bl b) S
  | _ => .bad
def notB : Rs D → Rs D
  | .ok (.bl b) S => .ok (.bl (!b)) S
  | _ => .bad
def okKd (cs : List Str) : Kd → Bool
  | .t n => decide (n ∈ btys)
  | .c c => decide (c ∈ cs)
/-- x == y: by the own __eq__ of x's class; of data -/
def eqI (tbl : List (Str × FL)) (cs : List Str) : F2 := fun x y S => match x with
  | .ptr n => match S[n]? with
    | some (.ins c _) => match tbl.lookup c, kdS y S with
      | some g, some k => if okKd cs k = true then blOnly (g [x, y] S) else .bad
      | _, _ => .bad
    | _ => eqS x y S
  | _ => eqS x y S
def neI (tbl : List (Str × FL)) (cs : List Str) : F2 := fun x y S => match x with
  | .ptr n => match S[n]? with
    | some (.ins c _) => match tbl.lookup c, kdS y S with
      | some g, some k => if okKd cs k = true then notB (g [x, y] S) else .bad
      | _, _ => .bad
    | _ => neS x y S
  | _ => neS x y S
/-- what must be known of a class with an own __eq__ -/
structure EqK (P : Program) (w : World) (K : PySem.W.Frag) (mg : Str → Option Value) (base : Heap) (cl : Cl) (CX : CXT) (cs : List Str) (k : Nat) (c : Str) (g : FL) : Prop where
  ex : ∃ (C f : Addr) (fd : FuncData) (ps : List Str), cl c = some C ∧ FnG P w K mg base cl CX k f fd ps g ∧ ps.length = 2 ∧ Binds K fd ps [] ∧ PySem.W.findIn K (.ref C) "__eq__" = some (some (.ref f)) ∧ PySem.W.findIn K (.ref C) "__ne__" = some (some (.builtin "object.__ne__")) ∧
    PySem.W.isFn K (.ref f) = true ∧ PySem.W.mroIn K C (.type "object") = some true ∧ ∀ kd t, okKd cs kd = true → KdV cl kd t → PySem.W.notFirst K C t = true
section
variable {X : Cx} {cl : Cl} {W : WX} {CX : CXT} {k : Nat} {tbl : List (Str × FL)} {cs : List Str}
/-- the call of an own __eq__, in A -/
theorem eq_call {P : Program} {w : World} {K : PySem.W.Frag} {mg : Str → Option Value} {base : Heap} {f : Addr} {fd : FuncData} {ps : List Str} {g : FL} (hP : X.prog = P) (hw : X.w = w) (hK : X.K = K) (hmg : X.mg = mg) (hbase : X.base = base) {A : Around} (F : FnG P w K mg base cl CX k f fd ps g) (hl : ps.length = 2) (hb : Binds K fd ps []) (hx : PassF CX X) (hr : Room k A) (hg : A.guards = some []) (hfr : A.frames = X.A.frames)
    {pins : List (Addr × Obj)} {s : Shared} {σ : L2.St} {H : Hp} {io : List Addr} {S S' : Sto} {x y : D} {vx vy : V} {u v : Value} {b : Bool} (I : Inv X pins σ H s) (Ab : Abs X.K cl io S H) (rx : RelD X.K io H x vx) (ru : RelV vx u) (ry : RelD X.K io H y vy) (rv : RelV vy v) (e : g [x, y] S = .ok (.bl b) S') {E : Value → Shared → Prop} :
    wpAny (model X.prog X.w) A (call (.ref f) [u, v]) (fun r s' => r = .bool b ∧ ∃ io' H', Inv X pins σ H' s' ∧ Abs X.K cl io' S' H' ∧ Grow X.K io H io' H') E s := by
  subst hP hw hK hmg hbase
  have e0 : Env0 X.prog X.w X.K X.mg X.base A X.stack s H := ⟨by rw [hfr]; exact I.env0.frames, I.env0.mod, I.env0.bs, I.env0.bsz, I.env0.funs, I.env0.frf, I.env0.hok, I.env0.bare⟩
  refine wpAny_call (codeAny_mono (F.run A X.stack s H ⟨[u, v], []⟩ [u, v] [vx, vy] io S [x, y] (fun z H' => z = .bl b ∧ ∃ io', Abs X.K cl io' S' H' ∧ Grow X.K io H io' H') (fun _ _ _ => False) hr hg e0 (by have := hb s [u, v] I.kIn (by simp [hl]); simpa using this) (.cons ru (.cons rv .nil)) (by simp [hl]) Ab (.cons rx (.cons ry .nil)) (by rw [e]; trivial) fun d S2 io' H' z e2 A' g' rd => ?_) fun r s' hq => ?_)
  · rw [e] at e2
    cases e2
    cases rd
    exact ⟨rfl, io', A', g'⟩
  · cases r with
    | error er => exact False.elim (hx _ _ er s' hq)
    | ok fl =>
      cases fl with
      | ret z =>
        obtain ⟨zv, H', I', rz, ez, io', A', g'⟩ := I.after hq
        subst ez
        exact ⟨rz, io', H', I', A', g'⟩
      | next => exact False.elim hq
      | brk => exact False.elim hq
      | cont => exact False.elim hq
theorem tyx_looks {pins : List (Addr × Obj)} {s : Shared} {σ : L2.St} {H : Hp} {v : V} {u t : Value} (I : Inv X pins σ H s) (rv : RelV v u) (ty : TyX X.K H v t) : PySem.W.Looks (model X.prog X.w) s.heap (typeOf u) t := by
  obtain ⟨Pr, Z, p, _⟩ := kit_of I rv ty
  exact Z.ty _ _ I.kIn p
theorem op_eqI (hcl : ∀ c C, cl c = some C → ClsX X.K C) (ht : ∀ c g, tbl.lookup c = some g → EqK X.prog X.w X.K X.mg X.base cl CX cs k c g) (hr : Room k X.A) (hg : X.A.guards = some []) (hx : PassF CX X) : OpS X cl W (compareOp .Eq) (eqI tbl cs) := by
  have hu := room65 hr
  intro pins s σ H io S x y vx vy u v I A rx ru ry rv G
  have plain : Good W X.K cl io H σ (eqS x y S) → wpAny (model X.prog X.w) X.A (compareOp .Eq u v) (EvP X cl pins σ io H (eqS x y S)) X.xe s := op_eqS hu pins s σ H io S x y vx vy u v I A rx ru ry rv
  cases rx with
  | @ptr n a hn =>
    unfold eqI at G ⊢
    simp only at G ⊢
    split at G
    · rename_i c fs hS
      split at G
      · rename_i g kd hgt hkd
        split at G
        · rename_i hok
          rw [if_pos hok]
          obtain ⟨C, f, fd, ps, hC, F, hps, hb, h1, h2, h3, h4, h5⟩ := ht c g hgt
          obtain ⟨dx, ws, hH, _, _⟩ := ins_obj hC A hn (show insAt c S n = some fs by unfold insAt; rw [hS]; simp)
          have eu : u = Value.ref a := ru
          subst eu
          obtain ⟨t, ty, kv⟩ := tyx_of hcl A ry hkd
          obtain ⟨mA, J, _⟩ := ins_get I.hok hH
          obtain ⟨od, J, _⟩ := J.look
          obtain ⟨m, hF⟩ := I.fr
          cases eg : g [.ptr n, y] S with
          | ok d S2 =>
            rw [eg] at G
            cases d with
            | bl b =>
              show wpAny _ _ (richCompare .Eq (.ref a) v) _ _ _
              refine PySem.W.cmp_K (op := .Eq) (by omega) hF I.ok.mod.kin J (tyx_looks I rv ty) (h5 kd t hok kv) h1 h3 (thn (eq_call rfl rfl rfl rfl rfl F hps hb hx hr hg rfl I A (.ptr hn) ru ry rv eg) fun r s' ⟨er, io', H', I', A', g'⟩ => ?_)
              subst er
              exact ⟨.bl b, S2, io', H', .bl b, rfl, I', A', g', .bl b, rfl⟩
            | _ => exact False.elim G
          | exn _ _ => rw [eg] at G; exact False.elim G
          | bad => rw [eg] at G; exact False.elim G
        · exact False.elim G
      · exact False.elim G
    · exact plain G
  | _ => exact plain G
theorem op_neI (hcl : ∀ c C, cl c = some C → ClsX X.K C) (ht : ∀ c g, tbl.lookup c = some g → EqK X.prog X.w X.K X.mg X.base cl CX cs k c g) (hr : Room (k + 1) X.A) (hg : X.A.guards = some []) (hx : PassF CX X) : OpS X cl W (compareOp .NotEq) (neI tbl cs) := by
  have hu := room65 hr
  intro pins s σ H io S x y vx vy u v I A rx ru ry rv G
  have plain : Good W X.K cl io H σ (neS x y S) → wpAny (model X.prog X.w) X.A (compareOp .NotEq u v) (EvP X cl pins σ io H (neS x y S)) X.xe s := op_neS hu pins s σ H io S x y vx vy u v I A rx ru ry rv
  cases rx with
  | @ptr n a hn =>
    unfold neI at G ⊢
    simp only at G ⊢
    split at G
    · rename_i c fs hS
      split at G
      · rename_i g kd hgt hkd
        split at G
        · rename_i hok
          rw [if_pos hok]
          obtain ⟨C, f, fd, ps, hC, F, hps, hb, h1, h2, h3, h4, h5⟩ := ht c g hgt
          obtain ⟨dx, ws, hH, _, _⟩ := ins_obj hC A hn (show insAt c S n = some fs by unfold insAt; rw [hS]; simp)
          have eu : u = Value.ref a := ru
          subst eu
          obtain ⟨t, ty, kv⟩ := tyx_of hcl A ry hkd
          obtain ⟨mA, J, _⟩ := ins_get I.hok hH
          obtain ⟨od, J, _⟩ := J.look
          cases eg : g [.ptr n, y] S with
          | ok d S2 =>
            rw [eg] at G
            cases d with
            | bl b =>
              show wpAny _ _ (richCompare .NotEq (.ref a) v) _ _ _
              refine rich_ne (by omega) I.kIn J (tyx_looks I rv ty) (h5 kd t hok kv) h2 h1 h3 h4 (thn (eq_call rfl rfl rfl rfl rfl F hps hb hx hr.in1 hg rfl I A (.ptr hn) ru ry rv eg) fun r s' ⟨er, io', H', I', A', g'⟩ => ?_)
              exact ⟨b, er, .bl (!b), S2, io', H', .bl (!b), rfl, I', A', g', .bl _, rfl⟩
            | _ => exact False.elim G
          | exn _ _ => rw [eg] at G; exact False.elim G
          | bad => rw [eg] at G; exact False.elim G
        · exact False.elim G
      · exact False.elim G
    · exact plain G
  | _ => exact plain G
end
/-! ## stores within patterns -/
section
variable {X : Cx} {cl : Cl} {o i : Expr} {mo mi : M D} {pos : Pos}
theorem g_sub (hu : X.A.units + 1 < cLine) (ho : EvE X cl WF o mo) (hi : EvE X cl WF i mi)
    (ha : ∀ v, assign (.Subscript o i pos) X.env v = (do
      let ov ← holding [v] (eval o X.env)
      let iv ← holding [v, ov] (eval i X.env)
      standAt pos
      holding [v, ov, iv] (setItem ov iv v)
      release [v, ov, iv] [])) : TgE X cl (.Subscript o i pos) (gSubS mo mi) [] := by
  refine PG.imp (pg_sub ho.pe hi.pe (set_any hu) ha) fun v σ H Q ⟨io, ρ, S, d, A, R, rd, G, k⟩ => ?_
  unfold gSubS at G k
  cases e1 : mo ρ S with
  | exn _ _ => rw [e1] at G; exact False.elim G
  | bad => rw [e1] at G; exact False.elim G
  | ok x S1 =>
    rw [e1] at G k
    simp only at G k
    refine ⟨io, ρ, S, A, R, by rw [e1]; trivial, fun x' S1' io1 H1 vx e A1 g1 rx => ?_⟩
    rw [e1] at e
    cases e
    cases e2 : mi ρ S1 with
    | exn _ _ => rw [e2] at G; exact False.elim G
    | bad => rw [e2] at G; exact False.elim G
    | ok y S2 =>
      rw [e2] at G k
      simp only at G k
      refine ⟨io1, ρ, S1, A1, RelRho.mono g1 R, by rw [e2]; trivial, fun y' S2' io2 H2 vy e A2 g2 ry => ?_⟩
      rw [e2] at e
      cases e
      cases h : setS x y d S2 with
      | none => rw [h] at G; exact False.elim G
      | some S3 =>
        rw [h] at k
        obtain ⟨H4, hh, A4, g4⟩ := setS_ok A2 (rx.mono g2) ry ((rd.mono g1).mono g2) h
        have fin := k ρ S3 io2 H4 σ rfl A4 ((g1.trans g2).trans g4) (RelRho.mono ((g1.trans g2).trans g4) R) ⟨rfl, fun _ _ => rfl⟩
        rcases hh with ⟨a, xs, kk, j, q1, q2, q3, q4, q5⟩ | ⟨a, q1, q2⟩
        · exact .inl ⟨a, xs, kk, j, q1, q2, q3, q4, by rw [q5]; exact fin⟩
        · exact .inr ⟨a, H4, q1, q2, fin⟩
end
/-! ## joined texts -/
theorem strOk_iff {x : Str} : PyData.strOk x = true ↔ ∀ c ∈ x.cps.toList, c < 0x110000 := by
  unfold PyData.strOk
  rw [← Array.all_toList, List.all_eq_true]
  exact ⟨fun h c hc => of_decide_eq_true (h c hc), fun h c hc => decide_eq_true (h c hc)⟩
theorem okS_join : ∀ (a : Str) (ys : List Str), okS a → (∀ y ∈ ys, okS y) → (ys.map (·.length)).sum + ys.length * a.length ≤ 16777216 → okS (Txt.join a ys) := by
  intro a ys ha hy hz
  refine ⟨?_, ?_⟩
  · show (Builtin.Str.glued a ys).length ≤ sizeLine
    rw [size_glued, sizeLine_eq]
    have : (ys.length - 1) * a.length ≤ ys.length * a.length := Nat.mul_le_mul_right _ (Nat.sub_le _ _)
    omega
  · show PyData.strOk (Builtin.Str.glued a ys) = true
    rw [strOk_iff]
    have key : ∀ (rest : List Str) (acc : Array Nat), (∀ y ∈ rest, okS y) → (∀ c ∈ acc.toList, c < 0x110000) → ∀ c ∈ (rest.foldl (fun acc p => acc ++ a.cps ++ p.cps) acc).toList, c < 0x110000 := by
      intro rest
      induction rest with
      | nil => intro acc _ h; exact h
      | cons y rest ih =>
        intro acc hr h
        refine ih _ (fun z hz => hr z (List.mem_cons_of_mem _ hz)) fun c hc => ?_
        simp only [Array.toList_append, List.mem_append] at hc
        rcases hc with (hc | hc) | hc
        · exact h c hc
        · exact strOk_iff.mp ha.2 c hc
        · exact strOk_iff.mp (hr y List.mem_cons_self).2 c hc
    intro c hc
    refine key (ys.drop 1) _ (fun y h => hy y (List.mem_of_mem_drop h)) (fun c hc => ?_) c hc
    cases ys with
    | nil => simp [Str.empty] at hc
    | cons y ys => exact strOk_iff.mp (hy y List.mem_cons_self).2 c hc
end MP
/-! MP26 -/
set_option Elab.async false
set_option autoImplicit false
set_option linter.all false
set_option maxRecDepth 100000
namespace MP
open PySem PySem.Spec L2
open PyProof.Rows hiding St

/-! ## chains as tests -/
def mChainT (g g' : F2) (a b c : M D) : M Bool := fun ρ S => (a ρ S).bind fun x S1 => (b ρ S1).bind fun y S2 => (g x y S2).bind fun z S3 => (blOf z S3).bind fun k S4 =>
  if k = true then (c ρ S4).bind fun w S5 => (g' y w S5).bind blOf else .ok false S4
section
variable {X : Cx} {cl : Cl} {W : WX} {a b c : Expr} {ma mb mc : M D} {pos : Pos}
theorem et_chain {op op' : CmpOp} {g g' : F2} (ho : OpS X cl W (compareOp op) g) (ho' : OpS X cl W (compareOp op') g') (ha : EvE X cl W a ma) (hb : EvE X cl W b mb) (hc : EvE X cl W c mc) (hm : lastMarks [op, op'] [b, c] = false) :
    EvT X cl W (.Compare a [op, op'] [b, c] pos) (mChainT g g' ma mb mc) := by
  refine ⟨fun pins s σ H io ρ S I A R G => ?_⟩
  refine isTrue_chain (ha.bind I A R G fun x S1 io1 H1 vx u s1 e1 I1 A1 g1 R1 rx ru G1 => test_link ?_) hm
  refine hb.bind I1 A1 R1 G1 fun y S2 io2 H2 vy v s2 e2 I2 A2 g2 R2 ry rv G2 => ?_
  have e : mChainT g g' ma mb mc ρ S = (g x y S2).bind fun z S3 => (blOf z S3).bind fun k S4 => if k = true then (mc ρ S4).bind fun w S5 => (g' y w S5).bind blOf else .ok false S4 := by unfold mChainT; rw [e1, Rs.bind_ok, e2, Rs.bind_ok]
  rw [e]
  refine thn (ho pins s2 σ H2 io2 S2 x y vx vy u v I2 A2 (rx.mono g2) ru ry rv G2.fst) fun z s3 ⟨d, S3, io3, H3, vz, e3, I3, A3, g3, rz, rvz⟩ => ?_
  rw [e3, Rs.bind_ok] at G2 ⊢
  cases rz with
  | bl k =>
    obtain rfl : z = Value.bool k := rvz
    refine wpAny_truthy_bool ?_
    have G3 : Good W X.K cl io3 H3 σ (if k = true then (mc ρ S3).bind fun w S5 => (g' y w S5).bind blOf else .ok false S3) := Good.mono g3 G2
    have gg : Grow X.K io H io3 H3 := (g1.trans g2).trans g3
    show (if k = true then _ else _)
    cases k with
    | false => exact ite_ff ⟨S3, io3, H3, by simp [blOf], I3, A3, gg⟩
    | true =>
      rw [if_pos rfl] at G3
      refine ite_tt (test_last (hc.bind I3 A3 (RelRho.mono g3 R2) G3 fun w S4 io4 H4 vw uw s4 e4 I4 A4 g4 R4 rw' ruw G4 => ?_))
      refine thn (ho' pins s4 σ H4 io4 S4 y w vy vw v uw I4 A4 ((ry.mono g3).mono g4) rv rw' ruw G4.fst) fun z s5 q => ?_
      refine bl_run q G4 fun k S5 io5 H5 e5 I5 A5 g5 => ⟨S5, io5, H5, ?_, I5, A5, gg.trans (g4.trans g5)⟩
      simp [blOf, e4, e5]
  | _ => exact False.elim G2
theorem R.tcmp2 {op op' : CmpOp} {g g' : F2} (ho : OpS X cl W (compareOp op) g) (ho' : OpS X cl W (compareOp op') g') (ha : EvE X cl W a ma) (hb : EvE X cl W b mb) (hc : EvE X cl W c mc) (hm : lastMarks [op, op'] [b, c] = false := by rfl) :
    EvT X cl W (.Compare a [op, op'] [b, c] pos) (mChainT g g' ma mb mc) := et_chain ho ho' ha hb hc hm
/-! ## keywords -/
structure EvK (X : Cx) (cl : Cl) (W : WX) (kws : List Keyword) (m : M (List D)) : Prop where
  run : ∀ (pos : Pos) (pins : List (Addr × Obj)) (s : Shared) (σ : L2.St) (H : Hp) (io : List Addr) (ρ : Rho) (S : Sto), Inv X pins σ H s → Abs X.K cl io S H → RelRho X.K io H ρ σ → Good W X.K cl io H σ (m ρ S) →
    wpAny (model X.prog X.w) X.A (evalAll ((backToKw pos (keywordEach kws X.env)).map (·.2))) (AvP X cl pins σ io H (m ρ S)) X.xe s
theorem ek_nil : EvK X cl W [] mNil := ⟨fun _ pins s σ H io ρ S I A R G => wpAny_evalAll_nil ⟨[], S, io, H, [], rfl, I, A, Grow.rfl', .nil, .nil⟩⟩
theorem ek_cons {e : Expr} {m : M D} {kws : List Keyword} {r : M (List D)} {nm : Option Str} {kp : Pos} (h : EvE X cl W e m) (hr : EvK X cl W kws r) : EvK X cl W (⟨nm, e, kp⟩ :: kws) (mCons m r) := by
  refine ⟨fun pos pins s σ H io ρ S I A R G => ?_⟩
  show wpAny _ _ (evalAll ((do let v ← eval e X.env; standAt pos; pure v) :: (backToKw pos (keywordEach kws X.env)).map (·.2))) _ _ s
  refine wpAny_evalAll_cons (wpAny_bind (h.bind I A R G fun x S1 io1 H1 vx u s1 e1 I1 A1 g1 R1 rx ru G1 => wpAny_bind (wpAny_standAt (wpAny_pure ?_))))
  refine thn (hr.run pos pins s1 σ H1 io1 ρ S1 I1 A1 R1 G1.fst) fun us s2 ⟨xs, S2, io2, H2, vs, e2, I2, A2, g2, rs, rus⟩ => ?_
  refine ⟨x :: xs, S2, io2, H2, vx :: vs, ?_, I2, A2, g1.trans g2, .cons (rx.mono g2) rs, .cons ru rus⟩
  unfold mCons
  rw [e1, Rs.bind_ok, e2, Rs.bind_ok]
/-- in the parameters' order -/
def reord {α : Type} (perm : List Nat) (ws : List α) : List α := perm.filterMap fun i => ws[i]?
theorem reord_rel {K : PySem.W.Frag} {io : List Addr} {H : Hp} {ds : List D} {vs : List V} (r : RelDs K io H ds vs) : ∀ perm : List Nat, RelDs K io H (reord perm ds) (reord perm vs)
  | [] => .nil
  | i :: perm => by
    unfold reord
    rw [List.filterMap_cons, List.filterMap_cons]
    cases e : ds[i]? with
    | none =>
      have : vs[i]? = none := by rw [List.getElem?_eq_none_iff] at e ⊢; rw [← r.length]; exact e
      rw [this]
      exact reord_rel r perm
    | some d =>
      obtain ⟨v, hv, rd⟩ := r.get e
      rw [hv]
      exact .cons rd (reord_rel r perm)
theorem reord_vals {vs : List V} {us : List Value} (r : Vals vs us) : ∀ perm : List Nat, Vals (reord perm vs) (reord perm us)
  | [] => .nil
  | i :: perm => by
    unfold reord
    rw [List.filterMap_cons, List.filterMap_cons]
    cases e : vs[i]? with
    | none =>
      have : us[i]? = none := by rw [List.getElem?_eq_none_iff] at e ⊢; rw [← r.length]; exact e
      rw [this]
      exact reord_vals r perm
    | some d =>
      obtain ⟨v, hv, rd⟩ := r.get e
      rw [hv]
      exact .cons rd (reord_vals r perm)
def mkKw (c : Str) (k nk : Nat) (perm : List Nat) (g : FL) : FL := fun ws S => if ws.length = nk then mkG c k g (reord perm ws) S else .bad
/-- how an __init__ binds keywords -/
def KwB (K : PySem.W.Frag) (fd : FuncData) (ps ks : List Str) (perm : List Nat) : Prop := ∀ (s : Shared) (self : Value) (ws : List Value), K.In s.heap → ws.length = ks.length → BindsTo s fd ⟨[self], ks.zip ws⟩ (ps.zip (self :: reord perm ws))
variable {CX : CXT} {k : Nat} {x cn : Str} {C fa : Addr} {fd : FuncData} {ps ks : List Str} {g : FL} {perm : List Nat} {kws : List Keyword} {m : M (List D)} {p : Pos}
theorem ev_mkKw (hC : cl cn = some C) (M : Mk X.K C fa) (F : FnG X.prog X.w X.K X.mg X.base cl CX k fa fd ps g) (hr : Room (k + 1) X.A) (hgd : X.A.guards = some []) (hm : X.mg x = some (.ref C)) (hb : KwB X.K fd ps ks perm) (hx : PassW CX X W) (hkw : EvK X cl W kws m)
    (hall : (backToKw pos (keywordEach kws X.env)).all (·.1.isSome) = true) (hks : (backToKw pos (keywordEach kws X.env)).filterMap (·.1) = ks) (hg : Gl X x)
    (hpl : ((backTo pos (starEach [] X.env)).any (·.1) || (backToKw pos (keywordEach kws X.env)).any (·.1.isNone)) = false)
    (hdb : (x == ("__debug__" : Str)) = false := by decide) : EvE X cl W (.Call (.Name x p) [] kws pos) (mDisp (mkKw cn ps.length ks.length perm g) m) := by
  refine ⟨fun pins s σ H io ρ S I A R G => ?_⟩
  refine wpAny_Call_Name_kw (ld_glob I hg hm (PySem.W.callWith_KW0 (h₀ := X.base) I.ok.mod.kin M.kp hall ?_ hpl) hdb)
  refine thn (hkw.run pos pins s σ H io ρ S I A R G.fst) fun ws s1 ⟨ds, S1, io1, H1, vs, e1, I1, A1, g1, rs, rv⟩ => ⟨I1.kIn, ?_⟩
  rw [hks]
  have G0 : Good W X.K cl io1 H1 σ (mkKw cn ps.length ks.length perm g ds S1) := by
    unfold mDisp at G
    rw [e1] at G
    exact Good.mono g1 G
  have hds : ds.length = ks.length := by
    unfold mkKw at G0
    split at G0
    · assumption
    · exact False.elim G0
  have e2 : mDisp (mkKw cn ps.length ks.length perm g) m ρ S = mkG cn ps.length g (reord perm ds) S1 := by unfold mDisp; rw [e1]; show mkKw _ _ _ _ _ _ _ = _; unfold mkKw; rw [if_pos hds]
  have G1 : Good W X.K cl io1 H1 σ (mkG cn ps.length g (reord perm ds) S1) := by
    unfold mkKw at G0
    rw [if_pos hds] at G0
    exact G0
  rw [e2]
  have lw : ws.length = ks.length := by rw [← rv.length, ← rs.length]; exact hds
  have rx := reord_rel rs perm
  have ru := reord_vals rv perm
  unfold mkG at G1 ⊢
  split at G1
  · rename_i hl
    rw [if_pos hl]
    have I2 := Inv.made (C := C) I1
    have f0 : H1 s1.heap.objs.size = none := I1.hok.fresh (Nat.le_refl _)
    have f1 : upd H1 s1.heap.objs.size (.own (s1.heap.objs.size + 1)) (s1.heap.objs.size + 1) = none := by rw [upd_ne (Nat.succ_ne_self _)]; exact I1.hok.fresh (Nat.le_succ _)
    have ga : Grow X.K io1 H1 io1 (upd H1 s1.heap.objs.size (.own (s1.heap.objs.size + 1))) := grow_upd (.inl f0)
    have gb : Grow X.K io1 (upd H1 s1.heap.objs.size (.own (s1.heap.objs.size + 1))) (io1 ++ [s1.heap.objs.size + 1]) (upd (upd H1 s1.heap.objs.size (.own (s1.heap.objs.size + 1))) (s1.heap.objs.size + 1) (.ins C s1.heap.objs.size [])) := grow_new f1
    have g01 := ga.trans gb
    have A2 : Abs X.K cl (io1 ++ [s1.heap.objs.size + 1]) (S1 ++ [.ins cn []]) (upd (upd H1 s1.heap.objs.size (.own (s1.heap.objs.size + 1))) (s1.heap.objs.size + 1) (.ins C s1.heap.objs.size [])) := (A1.tup f0).new f1 (.ins hC upd_same .nil)
    have hn : (io1 ++ [s1.heap.objs.size + 1])[S1.length]? = some (s1.heap.objs.size + 1) := by rw [List.getElem?_append_right (by rw [A1.len]; exact Nat.le_refl _), A1.len]; simp
    have r2 : Vals (V.ref (s1.heap.objs.size + 1) :: reord perm vs) (Value.ref (s1.heap.objs.size + 1) :: reord perm ws) := .cons rfl ru
    have rd2 : RelDs X.K (io1 ++ [s1.heap.objs.size + 1]) (upd (upd H1 s1.heap.objs.size (.own (s1.heap.objs.size + 1))) (s1.heap.objs.size + 1) (.ins C s1.heap.objs.size [])) (.ptr S1.length :: reord perm ds) (V.ref (s1.heap.objs.size + 1) :: reord perm vs) := .cons (.ptr hn) (rx.mono g01)
    have hlv : (V.ref (s1.heap.objs.size + 1) :: reord perm vs).length = ps.length := by rw [← hl, List.length_cons, rx.length]
    refine wpAny_call (make_map (f := fa) I1.kIn M.makes M.init (beq_iff_eq.mp M.fn) (codeAny_mono (F.run _ X.stack _ _ ⟨Value.ref (s1.heap.objs.size + 1) :: [], ks.zip ws⟩ (Value.ref (s1.heap.objs.size + 1) :: reord perm ws) (V.ref (s1.heap.objs.size + 1) :: reord perm vs) _ (S1 ++ [.ins cn []]) (.ptr S1.length :: reord perm ds)
      (fun v H2 => v = .non ∧ AnsV X cl io1 H1 (mkS cn g (reord perm ds) S1) (.ref (s1.heap.objs.size + 1)) H2) (fun c d H' => W c d σ H') (hr.make C [] (ks.zip ws)) ?_ (I2.env0.make C [] (ks.zip ws)) (hb _ _ ws I2.kIn lw) r2 hlv A2 rd2 ?_ fun d S' io' H' v e A' g' rd => ?_) fun r s' hq => ?_))
    · have ng : (Code.builtin "type.__call__" ⟨.ref C :: ([] : List Value), ks.zip ws⟩).isGuard = false := by simp [Code.isGuard, guardIds]
      simp [Around.under, Code.guards, ng, pushGuards, hgd]
    · cases hg' : g (.ptr S1.length :: reord perm ds) (S1 ++ [.ins cn []]) with
      | ok _ _ => trivial
      | exn x S' =>
        unfold mkS at G1
        rw [hg'] at G1
        exact fun io' H' cc d A' g' rx => G1 io' H' cc d A' (g01.trans g') rx
      | bad =>
        unfold mkS at G1
        rw [hg'] at G1
        exact G1
    · unfold mkS at G1
      rw [e] at G1
      cases rd with
      | non => exact ⟨rfl, .ptr S1.length, S', io', by unfold mkS; rw [e]; rfl, A', g01.trans g', .ptr (g'.get hn)⟩
      | _ => exact False.elim G1
    · cases r with
      | error e => exact hx pins σ _ _ e s' I2 hq
      | ok fl =>
        cases fl with
        | ret u =>
          obtain ⟨v, H', I3, rv, ev, d, S', io', e, A', g', rd⟩ := I2.after hq
          subst ev
          exact ⟨rv, d, S', io', H', _, e, I3, A', g1.trans g', rd, rfl⟩
        | next => exact False.elim hq
        | brk => exact False.elim hq
        | cont => exact False.elim hq
  · exact False.elim G1
theorem R.mkKw {n nk : Nat} (hC : cl cn = some C) (M : Mk X.K C fa) (F : FnG X.prog X.w X.K X.mg X.base cl CX k fa fd ps g) (hr : Room (k + 1) X.A) (hgd : X.A.guards = some []) (hm : X.mg x = some (.ref C)) (hb : KwB X.K fd ps ks perm) (hx : PassW CX X W) (hkw : EvK X cl W kws m)
    (hn : ps.length = n := by rfl) (hnk : ks.length = nk := by rfl) (hall : (backToKw pos (keywordEach kws X.env)).all (·.1.isSome) = true := by rfl) (hks : (backToKw pos (keywordEach kws X.env)).filterMap (·.1) = ks := by rfl) (hg : Gl X x := by rfl)
    (hpl : ((backTo pos (starEach [] X.env)).any (·.1) || (backToKw pos (keywordEach kws X.env)).any (·.1.isNone)) = false := by rfl)
    (hdb : (x == ("__debug__" : Str)) = false := by decide) : EvE X cl W (.Call (.Name x p) [] kws pos) (mDisp (MP.mkKw cn n nk perm g) m) := by
  subst hn hnk
  exact ev_mkKw hC M F hr hgd hm hb hx hkw hall hks hg hpl hdb
/-- names of a pattern and their places -/
def ixC (N : List Str) (sc : Scope) (ix : List (Str × Nat)) : Bool := ix.all fun p => decide (N[p.2]? = some p.1) && (match sc.names.lookup p.1 with
  | some .local => true
  | _ => false)
theorem ixOk {ix : List (Str × Nat)} (h : ixC X.N X.env.scope ix = true) : ∀ x i, ix.lookup x = some i → X.N[i]? = some x ∧ Loc X.env.scope x ∧ (X.fn x = true ∨ X.env.scope.names.lookup x = some .local) := by
  intro x i hl
  have hm := PySem.mem_of_lookup hl
  unfold ixC at h
  rw [List.all_eq_true] at h
  have q := h _ hm
  simp only [Bool.and_eq_true, decide_eq_true_eq] at q
  obtain ⟨q1, q2⟩ := q
  split at q2
  · rename_i e
    exact ⟨q1, .inl e, .inr e⟩
  · cases q2
end
end MP
/-! MP27 -/
set_option Elab.async false
set_option autoImplicit false
set_option linter.all false
set_option maxRecDepth 100000
namespace MP
open PySem PySem.Spec L2
open PyProof.Rows hiding St

section
variable {X : Cx} {cl : Cl} {W : WX}
end
end MP
/-! MP28 -/
set_option Elab.async false
set_option autoImplicit false
set_option linter.all false
set_option maxRecDepth 100000
namespace MP
open PySem PySem.Spec L2
open PyProof.Rows hiding St

/-! ## the law's end -/
section
variable {P : Program} {w : World} {K : PySem.W.Frag} {mg mb : Str → Option Value} {cl : Cl} {CX : CXT} {k : Nat} {fa a : Addr} {fd : FuncData} {x : Str} {g : FL} {st : Shared} {vs : List Value} {ns : List Int}
/-- the script alone may stand in the abstract heap -/
structure Alone (P : Program) (w : World) (K : PySem.W.Frag) (st : Shared) (a : Addr) (ns : List Int) (H : Hp) : Prop where
  ok : HOk P w H st.heap
  at_ : ∀ b, H b ≠ none → b = a
  fz : ∀ b, H b = none ∨ ∃ ob xs, H b = some (.frz ob (.lst xs))
  ro : RoL K H a (ns.map V.int)
  kk : H a ≠ none → K.lookup a = none
theorem alone_of (KX : K.In st.heap) (ha : st.heap.get? a = some { cls := .type "list", data := .seq vs.toArray }) (hi : IntsAre vs ns) (hl : ns.length ≤ sizeLine) : ∃ H, Alone P w K st a ns H := by
  have rv := vals_ints hi
  have len := hi.length
  cases hk : K.lookup a with
  | some ob =>
    have e := KX a ob hk
    rw [ha] at e
    cases e
    refine ⟨fun _ => none, fun b u z => ?_, fun b z => absurd rfl z, fun _ => .inl rfl, .inr (.inr ⟨_, vs.toArray, _, hk, rfl, rfl, rfl, ?_, by simpa using rv⟩), fun z => absurd rfl z⟩
    · exact nomatch (show (none : Option HO) = some u from z)
    · rw [List.size_toArray, len]; exact hl
  | none =>
    let ob : Obj := { cls := .type "list", data := .seq vs.toArray }
    let H : Hp := fun b => if b = a then some (.frz ob (.lst (ns.map V.int))) else none
    have hs : H a = some (.frz ob (.lst (ns.map V.int))) := if_pos rfl
    have hn : ∀ b, b ≠ a → H b = none := fun b hb => if_neg hb
    refine ⟨H, fun b u z => ?_, fun b z => ?_, fun b => ?_, .inl ⟨ob, hs⟩, fun _ => hk⟩
    · by_cases hb : b = a
      · rw [hb, hs] at z
        cases z
        rw [hb]
        exact ⟨ha, by rw [List.length_map]; exact hl, vs, _, rv, ha⟩
      · rw [hn b hb] at z
        cases z
    · exact Classical.byContradiction fun hb => z (hn b hb)
    · by_cases hb : b = a
      · rw [hb]; exact .inr ⟨_, _, hs⟩
      · exact .inl (hn b hb)
theorem law_end (KX : K.In st.heap) (hns : st.heap.Ns mainGlobals mg) (hb : st.heap.Ns builtinsNs mb) (hbb : ∀ y : Str, y ≠ "__name__" → mb y = bootBuiltins y) (hlim : st.heap.NoLimit) (hgn : st.gens = #[])
    (ha : st.heap.get? a = some { cls := .type "list", data := .seq vs.toArray }) (hi : IntsAre vs ns) (hl : ns.length ≤ sizeLine) (hr : Room k callerA)
    (F : ∀ bs : Heap, K.In bs → bs.Ns mainGlobals mg → FnG P w K mg bs cl CX k fa fd [x] g) (hbind : ∀ (t : Shared) (u : Value), BindsTo t fd ⟨[u], []⟩ [(x, u)])
    (hg : ∃ S', g [.ptr 0] [.rol (ns.map D.int)] = .ok (.bl true) S') (htb : cl.tb = [] ∧ cl.pre = [] ∧ cl.cap = [] ∧ cl.co = []) (hCX : ∀ H e t, CX [] H st (fun _ _ _ => False) e t → False) :
    codeAny (model P w) callerA (.call (.ref fa) ⟨[.ref a], []⟩) (fun r t => r = .ok (.ret (.bool true)) ∧ OldK st.heap t.heap ∧ t.os = st.os ∧ AllBare t.gens) st := by
  obtain ⟨H, hok, hat, hfz, hro, hkk⟩ := alone_of (P := P) (w := w) KX ha hi hl
  obtain ⟨S1, eg⟩ := hg
  have noDict : ∀ {b : Addr} {ob : Obj} {es : Array DictEntry} {ep : Nat}, st.heap.get? b = some ob → ob.data = .dict es ep → H b = none := fun {b ob es ep} e d => by
    refine Classical.byContradiction fun z => ?_
    rw [hat b z, ha] at e
    cases e
    exact nomatch (show Data.seq vs.toArray _ = Data.dict es ep from d)
  have ns2 : ∀ {b : Addr} {m : Str → Option Value}, st.heap.Ns b m → (hidT st.heap H).Ns b m := fun ⟨ob, es, ep, e, d, r⟩ => ⟨ob, es, ep, hidT_get e (noDict e d), d, r⟩
  have kIn : K.In (hidT st.heap H) := fun b ob e => by
    refine hidT_get (KX b ob e) (Classical.byContradiction fun z => ?_)
    have hz := hat b z
    subst hz
    rw [hkk z] at e
    cases e
  obtain ⟨mc, l1, l2⟩ := hlim
  have M : Mod K mg (hidT st.heap H) := ⟨kIn, ns2 hns, ⟨mb, ns2 hb, hbb⟩, ⟨mc, ns2 l1, l2⟩⟩
  have e0 : Env0 P w K mg (hidT st.heap H) callerA [] st H := ⟨rfl, M, fun b ob e => of_hidT e, Nat.le_of_eq (hidT_size _ _), trivial, (fun b z => absurd (show b ∈ ([] : List Addr) from z) List.not_mem_nil), hok, .of_eq hgn⟩
  have rs : ∀ l : List Int, RelDs K [a] H (l.map D.int) (l.map V.int) := fun l => by
    induction l with
    | nil => exact .nil
    | cons i l ih => exact .cons (.int i) ih
  have A : Abs K cl [a] [.rol (ns.map D.int)] H := by
    refine ⟨rfl, fun i j b o u ei ej ai aj ri rj => ?_, fun n o e => ?_, fun p hp => by (rw [htb.1] at hp; cases hp), fun p hp => by (rw [htb.2.1] at hp; cases hp), fun p hp => by (rw [htb.2.2.1] at hp; cases hp), fun p hp => by (rw [htb.2.2.2] at hp; cases hp)⟩
    · have hi0 : i = 0 := by have := (List.getElem?_eq_some_iff.mp ai).1; simpa using this
      have hj0 : j = 0 := by have := (List.getElem?_eq_some_iff.mp aj).1; simpa using this
      rw [hi0, hj0]
    · have hn0 : n = 0 := by have := (List.getElem?_eq_some_iff.mp e).1; simpa using this
      subst hn0
      cases e
      exact ⟨a, rfl, .rol hro (rs ns)⟩
  refine codeAny_mono ((F _ kIn (ns2 hns)).run callerA [] st H ⟨[.ref a], []⟩ [.ref a] [.ref a] [a] [.rol (ns.map D.int)] [.ptr 0] (fun v _ => v = .bl true) (fun _ _ _ => False) hr rfl e0 (hbind st (.ref a)) (.cons rfl .nil) rfl A (.cons (.ptr rfl) .nil) (by rw [eg]; trivial) fun d S' io' H' v e A' g' rd => ?_) fun r t h => ?_
  · rw [eg] at e
    cases e
    cases rd
    rfl
  · cases r with
    | error e => exact (hCX H e t h).elim
    | ok fl =>
      cases fl with
      | next => exact False.elim h
      | brk => exact False.elim h
      | cont => exact False.elim h
      | ret u =>
        obtain ⟨v, H', os, bare, un, hok', r', q⟩ := h
        have q' : v = .bl true := q
        subst q'
        have eu : u = Value.bool true := r'
        subst eu
        refine ⟨rfl, OldK.of_keep fun b ob e => ?_, os, bare⟩
        rcases hfz b with z | ⟨ob', xs, z⟩
        · exact un.keep b ob e z (fun z => absurd (show b ∈ ([] : List Addr) from z) List.not_mem_nil) (by simp)
        · obtain ⟨q1, _⟩ := hok b _ z
          obtain ⟨q2, _⟩ := hok' b _ (un.frzs b ob' _ z)
          rw [e] at q1
          cases q1
          exact q2
end
/-- the goal that k_head leaves (case hc) -/
theorem walk_g {l : PySem.W.OpenLaw} {n k : Nat} {q : Program} {loose : List Str} {XP : (Str → Option Value) → Heap → Prop} {YP : World → Heap → Prop} {d : DefRec} {K : Params → PySem.W.Frag} {CX : CXT} {x : Str} {g : FL}
    (hn : l.most = some n) (hn2 : n ≤ sizeLine) (hdf : d.params.defaults = []) (hr : Room k callerA) (hY : ∀ (w : World) (h : Heap), YP w h → (K w.params).In h)
    (F : ∀ (w : World) (mg : Str → Option Value) (fa : Addr) (h : Heap), (K w.params).In h → h.Ns mainGlobals mg → mg d.name = some (.ref fa) →
      ∃ (fd : FuncData) (cl : Cl), (cl.tb = [] ∧ cl.pre = [] ∧ cl.cap = [] ∧ cl.co = []) ∧ (∀ (t : Shared) (u : Value), BindsTo t fd ⟨[u], []⟩ [(x, u)]) ∧ ∀ bs : Heap, (K w.params).In bs → bs.Ns mainGlobals mg → FnG l.prog w (K w.params) mg bs cl CX k fa fd [x] g)
    (hg : ∀ ns : List Int, ns.length ≤ n → ∃ S', g [.ptr 0] [.rol (ns.map D.int)] = .ok (.bl true) S') (hCX : ∀ (H : Hp) (s : Shared) (e : Value) (t : Shared), CX [] H s (fun _ _ _ => False) e t → False) :
    PySem.W.WalkO q loose XP YP l.row.toRowW d [] (fun f vs => PySem.call f vs) := by
  refine Att.attach_call hn hdf fun w s0 st mg mb fa o pm cd doc a vs ns G Y ho hd hcd hmg hobj hints hlen hgn => ?_
  obtain ⟨fd, cl, htb, hb, hF⟩ := F w mg fa _ (hY w _ Y) G.T.g hmg
  exact law_end (hY w _ Y) G.T.g G.T.b G.T.builtins G.T.nolimit hgn hobj hints (Nat.le_trans hlen hn2) hr hF hb (hg ns hlen) htb fun H e t => hCX H st e t
end MP
/-! MP29 -/
set_option Elab.async false
set_option autoImplicit false
set_option linter.all false
set_option maxRecDepth 100000
namespace MP
open PySem PySem.Spec L2

/-! ## what holds behind a result: the plain side's own steps -/
def Wp {α : Type} (r : Rs α) (Q : α → Sto → Prop) : Prop := ∃ a S', r = .ok a S' ∧ Q a S'
section
variable {α β : Type}
theorem Wp.imp {r : Rs α} {Q R : α → Sto → Prop} (h : Wp r Q) (k : ∀ a S, Q a S → R a S) : Wp r R := by
  obtain ⟨a, S, e, q⟩ := h
  exact ⟨a, S, e, k a S q⟩
theorem wp_ok {a : α} {S : Sto} {Q : α → Sto → Prop} : Wp (.ok a S) Q ↔ Q a S := by
  constructor
  · rintro ⟨b, T, e, q⟩; cases e; exact q
  · exact fun q => ⟨a, S, rfl, q⟩
theorem wp_bad {Q : α → Sto → Prop} : Wp (.bad : Rs α) Q ↔ False := ⟨fun ⟨_, _, e, _⟩ => (by cases e), False.elim⟩
theorem wp_exn {x : Exn} {S : Sto} {Q : α → Sto → Prop} : Wp (.exn x S : Rs α) Q ↔ False := ⟨fun ⟨_, _, e, _⟩ => (by cases e), False.elim⟩
theorem wp_bind {r : Rs α} {f : α → Sto → Rs β} {Q : β → Sto → Prop} : Wp (r.bind f) Q ↔ Wp r fun a S => Wp (f a S) Q := by
  cases r with
  | ok a S => simp only [Rs.bind, wp_ok]
  | exn x S => simp only [Rs.bind, wp_exn]
  | bad => simp only [Rs.bind, wp_bad]
theorem wp_noX {r : Rs α} {Q : α → Sto → Prop} : Wp (noX r) Q ↔ Wp r Q := by
  cases r <;> simp only [noX, wp_ok, wp_exn, wp_bad]
/-- if the guard holds -/
theorem wp_guard {c : Prop} [Decidable c] {r : Rs α} {Q : α → Sto → Prop} : Wp (if c then r else .bad) Q ↔ c ∧ Wp r Q := by
  by_cases h : c <;> simp [h, wp_bad]
variable {ρ : Rho} {S : Sto}
theorem wp_mC {d : D} {Q : D → Sto → Prop} : Wp (mC d ρ S) Q ↔ Q d S := wp_ok
theorem wp_mStr {x : Str} {Q : D → Sto → Prop} : Wp (mStr x ρ S) Q ↔ okS x ∧ Q (.str x) S := by
  simp only [mStr, wp_guard, wp_ok]
theorem wp_mTru {m : M D} {Q : Bool → Sto → Prop} : Wp (mTru m ρ S) Q ↔ Wp (m ρ S) fun d S1 => Wp (tru d S1) Q := wp_bind
theorem wp_mBl {m : M D} {Q : Bool → Sto → Prop} : Wp (mBl m ρ S) Q ↔ Wp (m ρ S) fun d S1 => Wp (blOf d S1) Q := wp_bind
theorem wp_blOf {b : Bool} {Q : Bool → Sto → Prop} : Wp (blOf (.bl b) S) Q ↔ Q b S := wp_ok
theorem wp_tru_bl {b : Bool} {Q : Bool → Sto → Prop} : Wp (tru (.bl b) S) Q ↔ Q b S := by simp only [tru, truD, wp_ok]
theorem wp_mBin {g : F2} {a b : M D} {Q : D → Sto → Prop} : Wp (mBin g a b ρ S) Q ↔ Wp (a ρ S) fun x S1 => Wp (b ρ S1) fun y S2 => Wp (g x y S2) Q := by
  simp only [mBin, wp_bind]
theorem wp_mUn {g : F1} {a : M D} {Q : D → Sto → Prop} : Wp (mUn g a ρ S) Q ↔ Wp (a ρ S) fun x S1 => Wp (g x S1) Q := by
  simp only [mUn, wp_bind]
theorem wp_mIf {t : M Bool} {a b : M α} {Q : α → Sto → Prop} : Wp (mIf t a b ρ S) Q ↔ Wp (t ρ S) fun c S1 => if c = true then Wp (a ρ S1) Q else Wp (b ρ S1) Q := by
  simp only [mIf, wp_bind]
  constructor <;> intro h <;> refine h.imp fun c S1 q => ?_ <;> cases c <;> simpa using q
theorem wp_mNotT {t : M Bool} {Q : Bool → Sto → Prop} : Wp (mNotT t ρ S) Q ↔ Wp (t ρ S) fun c S1 => Q (!c) S1 := by
  simp only [mNotT, wp_bind, wp_ok]
theorem wp_mAndT {a b : M Bool} {Q : Bool → Sto → Prop} : Wp (mAndT a b ρ S) Q ↔ Wp (a ρ S) fun c S1 => if c = true then Wp (b ρ S1) Q else Q false S1 := by
  simp only [mAndT, wp_bind]
  constructor <;> intro h <;> refine h.imp fun c S1 q => ?_ <;> cases c <;> simpa [wp_ok] using q
theorem wp_mOrT {a b : M Bool} {Q : Bool → Sto → Prop} : Wp (mOrT a b ρ S) Q ↔ Wp (a ρ S) fun c S1 => if c = true then Q true S1 else Wp (b ρ S1) Q := by
  simp only [mOrT, wp_bind]
  constructor <;> intro h <;> refine h.imp fun c S1 q => ?_ <;> cases c <;> simpa [wp_ok] using q
theorem wp_mAndV {a b : M D} {Q : D → Sto → Prop} : Wp (mAndV a b ρ S) Q ↔ Wp (a ρ S) fun x S1 => Wp (tru x S1) fun c S2 => if c = true then Wp (b ρ S2) Q else Q x S2 := by
  simp only [mAndV, wp_bind]
  constructor <;> intro h <;> refine h.imp fun x S1 q => q.imp fun c S2 q => ?_ <;> cases c <;> simpa [wp_ok] using q
theorem wp_mOrV {a b : M D} {Q : D → Sto → Prop} : Wp (mOrV a b ρ S) Q ↔ Wp (a ρ S) fun x S1 => Wp (tru x S1) fun c S2 => if c = true then Q x S2 else Wp (b ρ S2) Q := by
  simp only [mOrV, wp_bind]
  constructor <;> intro h <;> refine h.imp fun x S1 q => q.imp fun c S2 q => ?_ <;> cases c <;> simpa [wp_ok] using q
theorem wp_mNotV {a : M D} {Q : D → Sto → Prop} : Wp (mNotV a ρ S) Q ↔ Wp (a ρ S) fun x S1 => Wp (tru x S1) fun c S2 => Q (.bl (!c)) S2 := by
  simp only [mNotV, wp_bind, wp_ok]
theorem wp_mChain {g g' : F2} {a b c : M D} {Q : D → Sto → Prop} : Wp (mChain g g' a b c ρ S) Q ↔ Wp (a ρ S) fun x S1 => Wp (b ρ S1) fun y S2 => Wp (g x y S2) fun z S3 => Wp (blOf z S3) fun k S4 => if k = true then Wp (c ρ S4) fun w S5 => Wp (g' y w S5) Q else Q (.bl false) S4 := by
  simp only [mChain, wp_bind]
  constructor <;> intro h <;> refine h.imp fun x S1 q => q.imp fun y S2 q => q.imp fun z S3 q => q.imp fun k S4 q => ?_ <;> cases k <;> simpa [wp_ok, wp_bind] using q
theorem wp_mChainT {g g' : F2} {a b c : M D} {Q : Bool → Sto → Prop} : Wp (mChainT g g' a b c ρ S) Q ↔ Wp (a ρ S) fun x S1 => Wp (b ρ S1) fun y S2 => Wp (g x y S2) fun z S3 => Wp (blOf z S3) fun k S4 => if k = true then Wp (c ρ S4) fun w S5 => Wp (g' y w S5) fun r S6 => Wp (blOf r S6) Q else Q false S4 := by
  simp only [mChainT, wp_bind]
  constructor <;> intro h <;> refine h.imp fun x S1 q => q.imp fun y S2 q => q.imp fun z S3 q => q.imp fun k S4 q => ?_ <;> cases k <;> simpa [wp_ok, wp_bind] using q
theorem wp_mNil {Q : List D → Sto → Prop} : Wp (mNil ρ S) Q ↔ Q [] S := wp_ok
theorem wp_mCons {a : M D} {r : M (List D)} {Q : List D → Sto → Prop} : Wp (mCons a r ρ S) Q ↔ Wp (a ρ S) fun x S1 => Wp (r ρ S1) fun xs S2 => Q (x :: xs) S2 := by
  simp only [mCons, wp_bind, wp_ok]
theorem wp_mDisp {g : List D → Sto → Rs D} {m : M (List D)} {Q : D → Sto → Prop} : Wp (mDisp g m ρ S) Q ↔ Wp (m ρ S) fun xs S1 => Wp (g xs S1) Q := wp_bind
theorem wp_tupD {ds : List D} {Q : D → Sto → Prop} : Wp (tupD ds S) Q ↔ ds.length ≤ sizeLine ∧ Q (.tup ds) S := by simp only [tupD, wp_guard, wp_ok]
theorem wp_lstD {ds : List D} {Q : D → Sto → Prop} : Wp (lstD ds S) Q ↔ ds.length ≤ sizeLine ∧ Q (.ptr S.length) (S ++ [.lst ds]) := by simp only [lstD, newL, wp_guard, wp_ok]
theorem wp_mSl {m : M D} {lo hi : MO} {Q : D → Sto → Prop} : Wp (mSl m lo hi ρ S) Q ↔ Wp (m ρ S) fun x S1 => Wp (lo ρ S1) fun l S2 => Wp (hi ρ S2) fun u S3 => Wp (slS x l u S3) Q := by
  simp only [mSl, wp_bind]
theorem wp_mNoPart {Q : Option Int → Sto → Prop} : Wp (mNoPart ρ S) Q ↔ Q none S := wp_ok
theorem wp_mPart {m : M D} {Q : Option Int → Sto → Prop} : Wp (mPart m ρ S) Q ↔ Wp (m ρ S) fun x S1 => Wp (intOf x S1) Q := wp_bind
theorem wp_intOf {i : Int} {Q : Option Int → Sto → Prop} : Wp (intOf (.int i) S) Q ↔ Q (some i) S := wp_ok
theorem wp_mBm {T : String} {g : FM} {mo : M D} {ma : M (List D)} {Q : D → Sto → Prop} : Wp (mBm T g mo ma ρ S) Q ↔ Wp (mo ρ S) fun x S1 => tyD T x S1 = true ∧ Wp (ma ρ S1) fun xs S2 => Wp (g x xs S2) Q := by
  simp only [mBm, wp_bind, wp_guard]
theorem wp_mMeth {c m : Str} {g : FL} {mo : M D} {ma : M (List D)} {Q : D → Sto → Prop} : Wp (mMeth c m g mo ma ρ S) Q ↔ Wp (mo ρ S) fun x S1 => hasM c m x S1 = true ∧ Wp (ma ρ S1) fun xs S2 => Wp (g (x :: xs) S2) Q := by
  simp only [mMeth, wp_bind, wp_guard]
theorem wp_dflS {n : Nat} {dfl : List D} {g : FL} {xs : List D} {Q : D → Sto → Prop} : Wp (dflS n dfl g xs S) Q ↔ xs.length + dfl.length = n ∧ Wp (g (xs ++ dfl) S) Q := by
  simp only [dflS, wp_guard]
theorem wp_mIt {g : D → Sto → Rs Src} {m : M D} {Q : Src → Sto → Prop} : Wp (mIt g m ρ S) Q ↔ Wp (m ρ S) fun x S1 => Wp (g x S1) Q := wp_bind
theorem wp_mItA {g : List D → Sto → Rs Src} {m : M (List D)} {Q : Src → Sto → Prop} : Wp (mItA g m ρ S) Q ↔ Wp (m ρ S) fun x S1 => Wp (g x S1) Q := wp_bind
theorem wp_mDict {m : M Kv} {Q : D → Sto → Prop} : Wp (mDict m ρ S) Q ↔ Wp (m ρ (S ++ [.dct []])) fun kvs S1 => Wp (fillD S.length kvs S1) Q := by simp only [mDict, wp_bind]
theorem wp_mpNil {Q : Kv → Sto → Prop} : Wp (mpNil ρ S) Q ↔ Q [] S := wp_ok
theorem wp_mpCons {k v : M D} {r : M Kv} {Q : Kv → Sto → Prop} : Wp (mpCons k v r ρ S) Q ↔ Wp (k ρ S) fun x S1 => Wp (v ρ S1) fun y S2 => Wp (r ρ S2) fun ps S3 => Q ((x, y) :: ps) S3 := by
  simp only [mpCons, wp_bind, wp_ok]
theorem wp_mNext {m md : M D} {Q : D → Sto → Prop} : Wp (mNext m md ρ S) Q ↔ Wp (m ρ S) fun x S1 => isLst x S1 = true ∧ Wp (md ρ S1) fun d S2 => Wp (nextS x d S2) Q := by
  simp only [mNext, wp_bind, wp_guard]
theorem wp_mYes {Q : Bool → Sto → Prop} : Wp (mYes ρ S) Q ↔ Q true S := wp_ok
-- statements
def WpS (r : Rs Fl) (N B C : Rho → Sto → Prop) (R : D → Sto → Prop) : Prop := Wp r fun f S => match f with
  | .nx ρ => N ρ S
  | .brk ρ => B ρ S
  | .cnt ρ => C ρ S
  | .ret d => R d S
  | .exn _ _ => False
def Nev : Rho → Sto → Prop := fun _ _ => False
variable {N B C : Rho → Sto → Prop} {R : D → Sto → Prop}
theorem WpS.imp {r : Rs Fl} {N' B' C' : Rho → Sto → Prop} {R' : D → Sto → Prop} (h : WpS r N B C R) (n : ∀ ρ S, N ρ S → N' ρ S) (b : ∀ ρ S, B ρ S → B' ρ S) (c : ∀ ρ S, C ρ S → C' ρ S) (d : ∀ x S, R x S → R' x S) : WpS r N' B' C' R' :=
  Wp.imp h fun f S q => by
    cases f with
    | nx => exact n _ _ q
    | brk => exact b _ _ q
    | cnt => exact c _ _ q
    | ret => exact d _ _ q
    | exn => exact q
theorem ws_nx : WpS (.ok (.nx ρ) S) N B C R ↔ N ρ S := wp_ok
theorem ws_ret {d : D} : WpS (.ok (.ret d) S) N B C R ↔ R d S := wp_ok
theorem ws_mNx : WpS (mNx ρ S) N B C R ↔ N ρ S := wp_ok
theorem ws_mBrk : WpS (mBrk ρ S) N B C R ↔ B ρ S := wp_ok
theorem ws_mCnt : WpS (mCnt ρ S) N B C R ↔ C ρ S := wp_ok
theorem ws_mRetN : WpS (mRetN ρ S) N B C R ↔ R .non S := wp_ok
theorem ws_mSeq {a b : MS} : WpS (mSeq a b ρ S) N B C R ↔ WpS (a ρ S) (fun ρ1 S1 => WpS (b ρ1 S1) N B C R) B C R := by
  unfold mSeq WpS
  cases h : a ρ S with
  | ok f S1 => cases f <;> simp only [wp_ok]
  | exn x S1 => simp only [wp_exn]
  | bad => simp only [wp_bad]
theorem ws_eS {m : M α} {k : α → MS} : WpS (eS m k ρ S) N B C R ↔ Wp (m ρ S) fun a S1 => WpS (k a ρ S1) N B C R := by
  unfold eS WpS
  cases h : m ρ S with
  | ok f S1 => simp only [wp_ok]
  | exn x S1 => simp only [wp_exn, wp_ok]
  | bad => simp only [wp_bad]
theorem ws_mDrop {m : M D} : WpS (mDrop m ρ S) N B C R ↔ Wp (m ρ S) fun _ S1 => N ρ S1 := by simp only [mDrop, ws_eS, ws_nx]
theorem ws_mRet {m : M D} : WpS (mRet m ρ S) N B C R ↔ Wp (m ρ S) R := by simp only [mRet, ws_eS, ws_ret]
theorem ws_mIfS {c : M Bool} {a b : MS} : WpS (mIfS c a b ρ S) N B C R ↔ Wp (c ρ S) fun k S1 => if k = true then WpS (a ρ S1) N B C R else WpS (b ρ S1) N B C R := by
  simp only [mIfS, ws_eS]
  constructor <;> intro h <;> refine h.imp fun k S1 q => ?_ <;> cases k <;> simpa using q
theorem ws_asg {g : MG} {d : D} : WpS (asg g d ρ S) N B C R ↔ Wp (g d ρ S) N := by
  simp only [asg]
  cases h : g d ρ S with
  | ok => simp only [ws_nx, wp_ok]
  | exn => simp only [WpS, wp_bad, wp_exn]
  | bad => simp only [WpS, wp_bad]
theorem ws_mAsg {m : M D} {g : MG} : WpS (mAsg m g ρ S) N B C R ↔ Wp (m ρ S) fun d S1 => Wp (g d ρ S1) N := by simp only [mAsg, ws_eS, ws_asg]
theorem wp_gNm {i : Nat} {d : D} {Q : Rho → Sto → Prop} : Wp (gNm i d ρ S) Q ↔ Q (ρ.set i (some d)) S := wp_ok
theorem wp_gsNil {Q : Rho → Sto → Prop} : Wp (gsNil [] ρ S) Q ↔ Q ρ S := wp_ok
theorem wp_gsCons {g : MG} {r : MGs} {d : D} {ds : List D} {Q : Rho → Sto → Prop} : Wp (gsCons g r (d :: ds) ρ S) Q ↔ Wp (g d ρ S) fun ρ1 S1 => Wp (r ds ρ1 S1) Q := by
  simp only [gsCons]
  cases h : g d ρ S <;> simp only [wp_ok, wp_exn, wp_bad]
theorem wp_gTp {n : Nat} {r : MGs} {ds : List D} {Q : Rho → Sto → Prop} : Wp (gTp n r (.tup ds) ρ S) Q ↔ ds.length = n ∧ Wp (r ds ρ S) Q := by
  simp only [gTp, wp_guard]
/-- a place is set -/
def Put (o : Option Sto) (Q : Sto → Prop) : Prop := ∃ S', o = some S' ∧ Q S'
theorem put_some {Q : Sto → Prop} : Put (some S) Q ↔ Q S := ⟨fun ⟨_, e, q⟩ => by cases e; exact q, fun q => ⟨_, rfl, q⟩⟩
theorem wp_gSubS {mo mi : M D} {d : D} {Q : Rho → Sto → Prop} : Wp (gSubS mo mi d ρ S) Q ↔ Wp (mo ρ S) fun x S1 => Wp (mi ρ S1) fun i S2 => Put (setS x i d S2) (Q ρ) := by
  simp only [gSubS]
  cases h : mo ρ S with
  | ok x S1 =>
    simp only [wp_ok]
    cases h1 : mi ρ S1 with
    | ok i S2 =>
      simp only [wp_ok]
      cases h2 : setS x i d S2 with
      | some S3 => simp only [wp_ok, put_some]
      | none => simp [wp_bad, Put]
    | exn => simp only [wp_exn, wp_bad]
    | bad => simp only [wp_bad]
  | exn => simp only [wp_exn, wp_bad]
  | bad => simp only [wp_bad]
theorem ws_mSetI {mo mi mv : M D} : WpS (mSetI mo mi mv ρ S) N B C R ↔ Wp (mv ρ S) fun d S1 => Wp (mo ρ S1) fun x S2 => Wp (mi ρ S2) fun i S3 => Put (setS x i d S3) (N ρ) := by
  simp only [mSetI, ws_eS]
  constructor <;> intro h <;> refine h.imp fun d S1 q => q.imp fun x S2 q => q.imp fun i S3 q => ?_
  · cases e : setS x i d S3 with
    | some S4 => simp only [e, ws_nx] at q; exact put_some.mpr q
    | none => simp only [e, WpS, wp_bad] at q
  · obtain ⟨S4, e, q⟩ := q
    simp only [e]; exact ws_nx.mpr q
theorem ws_mSetF {c f : Str} {mo mv : M D} : WpS (mSetF c f mo mv ρ S) N B C R ↔ Wp (mv ρ S) fun d S1 => Wp (mo ρ S1) fun x S2 => Put (setF c f x d S2) (N ρ) := by
  simp only [mSetF, ws_eS]
  constructor <;> intro h <;> refine h.imp fun d S1 q => q.imp fun x S2 q => ?_
  · cases e : setF c f x d S2 with
    | some S4 => simp only [e, ws_nx] at q; exact put_some.mpr q
    | none => simp only [e, WpS, wp_bad] at q
  · obtain ⟨S4, e, q⟩ := q
    simp only [e]; exact ws_nx.mpr q
theorem ws_mPar {i j : Nat} {ma : M (List D)} (h : Wp (ma ρ S) fun ds S1 => ∃ x y, ds = [x, y] ∧ N ((ρ.set i (some x)).set j (some y)) S1) : WpS (mPar i j ma ρ S) N B C R := by
  obtain ⟨ds, S1, e, x, y, rfl, q⟩ := h
  simp only [mPar, e]; exact ws_nx.mpr q
theorem wp_callS {n : Nat} {m : MS} {ds : List D} {Q : D → Sto → Prop} :
    Wp (callS n m ds S) Q ↔ WpS (m (ds.map some ++ List.replicate (n - ds.length) none) S) (fun _ S1 => Q .non S1) Nev Nev Q := by
  unfold callS WpS
  cases h : m (ds.map some ++ List.replicate (n - ds.length) none) S with
  | ok f S1 => cases f <;> simp only [wp_ok, wp_bad, wp_exn, Nev]
  | exn x S1 => simp only [wp_exn, wp_bad]
  | bad => simp only [wp_bad]
/-- a for loop: what holds before each item -/
theorem ws_forL {g : MG} {b : MS} {src : Src} (I : List D → Rho → Sto → Prop)
    (step : ∀ d ds ρ S, I (d :: ds) ρ S → src.keep S = true ∧ Wp (g d ρ S) fun ρ1 S1 => WpS (b ρ1 S1) (I ds) (fun ρ2 S2 => Put (src.fin S2) (N ρ2)) (I ds) (fun d S2 => Put (src.fin S2) (R d)))
    (done : ∀ ρ S, I [] ρ S → src.keep S = true ∧ Put (src.fin S) (N ρ)) :
    ∀ (ds : List D) (ρ : Rho) (S : Sto), I ds ρ S → WpS (forL g b src ds ρ S) N B C R
  | [], ρ, S, h => by
    obtain ⟨k, S', e, q⟩ := done ρ S h
    simp only [forL, k, if_true, forE, e]; exact ws_nx.mpr q
  | d :: ds, ρ, S, h => by
    obtain ⟨k, ρ1, S1, e1, f, S2, e2, q⟩ := step d ds ρ S h
    simp only [forL, k, if_true, e1, e2]
    cases f with
    | nx ρ2 => exact ws_forL I step done ds ρ2 S2 q
    | cnt ρ2 => exact ws_forL I step done ds ρ2 S2 q
    | brk ρ2 => obtain ⟨S3, e3, q⟩ := q; simp only [forK, forE, e3]; exact ws_nx.mpr q
    | ret d => obtain ⟨S3, e3, q⟩ := q; simp only [forK, forE, e3]; exact ws_ret.mpr q
    | exn => exact q.elim
theorem ws_mFor {mi : MI} {g : MG} {b : MS} : WpS (mFor mi g b ρ S) N B C R ↔ Wp (mi ρ S) fun src S1 => WpS (forL g b src src.items ρ S1) N B C R := ws_eS
/-- a comprehension: the list that grows lies at n -/
theorem wp_lcL {g : MG} {t : M Bool} {el : M D} {src : Src} {n : Nat} {ρ0 : Rho} {Q : D → Sto → Prop} (I : List D → List D → Sto → Prop)
    (step : ∀ d ds acc S, I (d :: ds) acc S → S[n]? = some (.lst acc) → src.keep S = true ∧ Wp (g d ρ0 S) fun ρ1 S1 => Wp (t ρ1 S1) fun c S2 => if c = true then Wp (el ρ1 S2) fun y S3 =>
      S3[n]? = some (.lst acc) ∧ acc.length < sizeLine ∧ I ds (acc ++ [y]) (S3.set n (.lst (acc ++ [y]))) else S2[n]? = some (.lst acc) ∧ I ds acc S2)
    (done : ∀ acc S, I [] acc S → S[n]? = some (.lst acc) → src.keep S = true ∧ ∃ S', src.fin S = some S' ∧ Q (.ptr n) S') :
    ∀ (ds acc : List D) (S : Sto), I ds acc S → S[n]? = some (.lst acc) → Wp (lcL g t el src n ρ0 ds S) Q
  | [], acc, S, h, hn => by
    obtain ⟨k, S', e, q⟩ := done acc S h hn
    simp only [lcL, k, if_true, e]; exact wp_ok.mpr q
  | d :: ds, acc, S, h, hn => by
    obtain ⟨k, ρ1, S1, e1, c, S2, e2, q⟩ := step d ds acc S h hn
    simp only [lcL, k, if_true, e1, e2, noX, Rs.bind]
    cases c with
    | true =>
      obtain ⟨y, S3, e3, hn3, hl, q⟩ := q
      simp only [if_true, e3, noX, Rs.bind, pushL, hn3, hl]
      exact wp_lcL I step done ds (acc ++ [y]) _ q (by
        have hlt : n < S3.length := by
          rcases Nat.lt_or_ge n S3.length with h | h
          · exact h
          · rw [List.getElem?_eq_none h] at hn3; cases hn3
        simp [List.getElem?_set, hlt])
    | false => exact wp_lcL I step done ds acc S2 q.2 q.1
theorem wp_mLc {mi : MI} {g : MG} {t : M Bool} {el : M D} {vs : List Nat} {Q : D → Sto → Prop} : Wp (mLc mi g t el vs ρ S) Q ↔ Wp (mi ρ S) fun src S1 => Wp (lcL g t el src S1.length (wipeR ρ vs) src.items (S1 ++ [.lst []])) Q :=
  wp_bind
end
end MP
/-! MP30 -/
set_option Elab.async false
set_option autoImplicit false
set_option linter.all false
set_option maxRecDepth 100000
namespace MP
open PySem PySem.Spec L2

theorem beqd {α : Type} [BEq α] [LawfulBEq α] [DecidableEq α] (a b : α) : (a == b) = decide (a = b) := by by_cases h : a = b <;> simp [h]
/-! ## data without pointers -/
mutual
def D.pl : D → Bool
  | .non => true
  | .int _ => true
  | .str _ => true
  | .tup ds => D.pls ds
  | _ => false
def D.pls : List D → Bool
  | [] => true
  | d :: ds => D.pl d && D.pls ds
end
mutual
def D.dp : D → Nat
  | .tup ds => D.dps ds + 1
  | _ => 0
def D.dps : List D → Nat
  | [] => 0
  | d :: ds => max (D.dp d) (D.dps ds)
end
mutual
def D.vw : D → PyData
  | .non => .none
  | .bl b => .bool b
  | .int i => .int i
  | .str s => .str s
  | .tup ds => .tuple (D.vws ds)
  | .ptr _ => .none
def D.vws : List D → List PyData
  | [] => []
  | d :: ds => D.vw d :: D.vws ds
end
mutual
theorem view_pl (S : Sto) : ∀ (d : D) (k : Nat), d.pl = true → d.dp ≤ k → view S k d = some d.vw
  | .non, k, _, _ => by cases k <;> simp [view, D.vw]
  | .bl _, _, h, _ => by simp [D.pl] at h
  | .int i, k, _, _ => by cases k <;> simp [view, D.vw]
  | .str s, k, _, _ => by cases k <;> simp [view, D.vw]
  | .ptr _, _, h, _ => by simp [D.pl] at h
  | .tup ds, 0, _, h => by simp [D.dp] at h
  | .tup ds, k + 1, h, hd => by
    simp only [D.pl] at h
    simp only [D.dp, Nat.add_le_add_iff_right] at hd
    simp only [view, views_pl S ds k h hd, D.vw, Option.map_some]
theorem views_pl (S : Sto) : ∀ (ds : List D) (k : Nat), D.pls ds = true → D.dps ds ≤ k → ds.mapM (view S k) = some (D.vws ds)
  | [], k, _, _ => by simp [D.vws]
  | d :: ds, k, h, hd => by
    simp only [D.pls, Bool.and_eq_true] at h
    simp only [D.dps, Nat.max_le] at hd
    simp [List.mapM_cons, view_pl S d k h.1 hd.1, views_pl S ds k h.2 hd.2, D.vws]
end
mutual
theorem eqv_pl : ∀ (a b : D), a.pl = true → b.pl = true → PyData.eqv a.vw b.vw = decide (a = b)
  | .non, b, ha, hb => by cases b <;> simp [D.pl] at hb <;> simp [D.vw, PyData.eqv]
  | .bl _, _, h, _ => by simp [D.pl] at h
  | .ptr _, _, h, _ => by simp [D.pl] at h
  | .int i, b, ha, hb => by cases b <;> simp [D.pl] at hb <;> simp [D.vw, PyData.eqv, beqd]
  | .str i, b, ha, hb => by cases b <;> simp [D.pl] at hb <;> simp [D.vw, PyData.eqv, beqd]
  | .tup as, b, ha, hb => by
    cases b <;> simp [D.pl] at ha hb <;> simp [D.vw, PyData.eqv]
    exact eqvs_pl as _ ha hb
theorem eqvs_pl : ∀ (a b : List D), D.pls a = true → D.pls b = true → PyData.eqvAll (D.vws a) (D.vws b) = decide (a = b)
  | [], b, ha, hb => by cases b <;> simp [D.vws, PyData.eqvAll]
  | a :: as, [], ha, hb => by simp [D.vws, PyData.eqvAll]
  | a :: as, b :: bs, ha, hb => by
    simp only [D.pls, Bool.and_eq_true] at ha hb
    simp only [D.vws, PyData.eqvAll, eqv_pl a b ha.1 hb.1, eqvs_pl as bs ha.2 hb.2, List.cons.injEq, Bool.decide_and]
end
/-- shallow and without pointers -/
structure Pl (d : D) : Prop where
  pl : d.pl = true
  dp : d.dp ≤ 20
structure Pls (ds : List D) : Prop where
  pl : D.pls ds = true
  dp : D.dps ds ≤ 19
theorem pl_str (s : Str) : Pl (.str s) := ⟨by simp [D.pl], by simp [D.dp]⟩
theorem pl_int (s : Int) : Pl (.int s) := ⟨by simp [D.pl], by simp [D.dp]⟩
theorem pls_of {ds : List D} (h : ∀ d ∈ ds, d.pl = true ∧ d.dp ≤ 19) : Pls ds := by
  induction ds with
  | nil => exact ⟨by simp [D.pls], by simp [D.dps]⟩
  | cons d ds ih =>
    have h1 := h d (List.mem_cons_self ..)
    have h2 := ih fun e he => h e (List.mem_cons_of_mem _ he)
    exact ⟨by simp [D.pls, h1.1, h2.pl], by simp only [D.dps]; exact Nat.max_le.mpr ⟨h1.2, h2.dp⟩⟩
theorem pls_map {α : Type} {f : α → D} {xs : List α} (h : ∀ x ∈ xs, (f x).pl = true ∧ (f x).dp ≤ 19) : Pls (xs.map f) := pls_of fun d hd => by
  obtain ⟨x, hx, rfl⟩ := List.mem_map.mp hd
  exact h x hx
section
variable {S : Sto} {x y : D} {ds : List D} {n : Nat}
theorem eqS_pl (hx : Pl x) (hy : Pl y) : eqS x y S = .ok (.bl (decide (x = y))) S := by
  simp only [eqS, view_pl S x 60 hx.pl (by have := hx.dp; omega), view_pl S y 60 hy.pl (by have := hy.dp; omega), eqv_pl x y hx.pl hy.pl]
theorem neS_pl (hx : Pl x) (hy : Pl y) : neS x y S = .ok (.bl (!decide (x = y))) S := by
  simp only [neS, view_pl S x 60 hx.pl (by have := hx.dp; omega), view_pl S y 60 hy.pl (by have := hy.dp; omega), eqv_pl x y hx.pl hy.pl]
theorem any_pl (hx : Pl x) : ∀ (ds : List D), D.pls ds = true → ((D.vws ds).any fun q => q.eqv x.vw) = decide (x ∈ ds)
  | [], _ => by simp [D.vws]
  | d :: ds, h => by
    simp only [D.pls, Bool.and_eq_true] at h
    simp only [D.vws, List.any_cons, eqv_pl d x h.1 hx.pl, any_pl hx ds h.2, List.mem_cons, Bool.decide_or, eq_comm (a := d)]
theorem inB_tup (hx : Pl x) (h : Pls ds) : inB x (.tup ds) S = some (decide (x ∈ ds)) := by
  simp only [inB, view_pl S x 59 hx.pl (by have := hx.dp; omega), views_pl S ds 58 h.pl (by have := h.dp; omega), any_pl hx ds h.pl]
theorem inB_lst (hx : Pl x) (h : Pls ds) (hn : S[n]? = some (.lst ds)) : inB x (.ptr n) S = some (decide (x ∈ ds)) := by
  simp only [inB, dctAt, listAt, hn, view_pl S x 59 hx.pl (by have := hx.dp; omega), views_pl S ds 58 h.pl (by have := h.dp; omega), any_pl hx ds h.pl]
theorem eqS_lst {es : List D} {m : Nat} (h : Pls ds) (h' : Pls es) (hn : S[n]? = some (.lst ds)) (hm : S[m]? = some (.lst es)) : eqS (.ptr n) (.ptr m) S = .ok (.bl (decide (ds = es))) S := by
  simp only [eqS, view, listAt, hn, hm, views_pl S ds 59 h.pl (by have := h.dp; omega), views_pl S es 59 h'.pl (by have := h'.dp; omega), Option.map_some, PyData.eqv, eqvs_pl ds es h.pl h'.pl]
theorem neS_lst {es : List D} {m : Nat} (h : Pls ds) (h' : Pls es) (hn : S[n]? = some (.lst ds)) (hm : S[m]? = some (.lst es)) : neS (.ptr n) (.ptr m) S = .ok (.bl (!decide (ds = es))) S := by
  simp only [neS, view, listAt, hn, hm, views_pl S ds 59 h.pl (by have := h.dp; omega), views_pl S es 59 h'.pl (by have := h'.dp; omega), Option.map_some, PyData.eqv, eqvs_pl ds es h.pl h'.pl]
end

/-! ## what stays in a store -/
structure Ext (ms : List Nat) (S S' : Sto) : Prop where
  len : S.length ≤ S'.length
  get : ∀ n o, S[n]? = some o → n ∉ ms → S'[n]? = some o
section
variable {S S1 S2 : Sto} {ms : List Nat}
theorem lt_of_get {n : Nat} {o : O} (h : S[n]? = some o) : n < S.length := by
  rcases Nat.lt_or_ge n S.length with k | k
  · exact k
  · rw [List.getElem?_eq_none k] at h; cases h
theorem Ext.rfl' : Ext ms S S := ⟨Nat.le_refl _, fun _ _ h _ => h⟩
theorem Ext.trans (h : Ext ms S S1) (k : Ext ms S1 S2) : Ext ms S S2 := ⟨Nat.le_trans h.len k.len, fun n o e hn => k.get n o (h.get n o e hn) hn⟩
theorem Ext.mono {ns : List Nat} (h : Ext ms S S1) (k : ∀ n ∈ ms, n ∈ ns) : Ext ns S S1 := ⟨h.len, fun n o e hn => h.get n o e fun hm => hn (k n hm)⟩
theorem Ext.transf {ks : List Nat} (h : Ext ks S S1) (k : Ext ms S1 S2) (f : ∀ n ∈ ms, n ∈ ks ∨ S.length ≤ n) : Ext ks S S2 := ⟨Nat.le_trans h.len k.len, fun n o e hn => k.get n o (h.get n o e hn) fun hm => by
  rcases f n hm with h1 | h1
  · exact hn h1
  · have := lt_of_get e; omega⟩
/-- objects behind the old ones may change at will -/
theorem Ext.fresh {ns : List Nat} (h : Ext ms S S1) (k : ∀ n ∈ ms, n ∈ ns ∨ S.length ≤ n) : Ext ns S S1 := ⟨h.len, fun n o e hn => h.get n o e fun hm => by
  rcases k n hm with h1 | h1
  · exact hn h1
  · have := lt_of_get e; omega⟩
theorem Ext.push (os : List O) : Ext ms S (S ++ os) := ⟨by simp, fun n o e _ => by rw [List.getElem?_append_left (lt_of_get e)]; exact e⟩
theorem Ext.set {n : Nat} {o : O} (h : n ∈ ms) : Ext ms S (S.set n o) := ⟨by simp, fun m o' e hm => by
  rw [List.getElem?_set_ne]
  · exact e
  · intro e'; subst e'; exact hm h⟩
theorem Ext.setf {n : Nat} {o : O} (h : Ext ms S S1) (k : S.length ≤ n) : Ext ms S (S1.set n o) := ⟨by simpa using h.len, fun m o' e hm => by
  have := lt_of_get e
  rw [List.getElem?_set_ne (by omega)]
  exact h.get m o' e hm⟩
theorem get_push {o : O} : (S ++ [o])[S.length]? = some o := by simp
theorem get_old {n : Nat} {o : O} {os : List O} (h : S[n]? = some o) : (S ++ os)[n]? = some o := by rw [List.getElem?_append_left (lt_of_get h)]; exact h
theorem get_set {n : Nat} {o o' : O} (h : S[n]? = some o') : (S.set n o)[n]? = some o := by
  have := lt_of_get h
  simp [List.getElem?_set, this]
theorem get_setne {n m : Nat} {o o' : O} (h : S[m]? = some o') (k : n ≠ m) : (S.set n o)[m]? = some o' := by rw [List.getElem?_set_ne k]; exact h
end
end MP
/-! MP31 -/
set_option Elab.async false
set_option autoImplicit false
set_option linter.all false
set_option maxRecDepth 100000
namespace MP
open PySem PySem.Spec L2
section
variable {S : Sto} {ρ : Rho} {n m : Nat} {kvs : List (D × D)} {ds : List D} {d k : D}
theorem wp_mVar0 {Q : D → Sto → Prop} : Wp (mVar 0 (some d :: ρ) S) Q ↔ Q d S := by simp only [mVar, List.getElem?_cons_zero, wp_ok]
theorem wp_mVarS {i : Nat} {o : Option D} {Q : D → Sto → Prop} : Wp (mVar (i + 1) (o :: ρ) S) Q ↔ Wp (mVar i ρ S) Q := by simp only [mVar, List.getElem?_cons_succ]
theorem ix_dct {Q : D → Sto → Prop} {s : Str} (h : S[n]? = some (.dct kvs)) (e : dget kvs (.str s) = some d) : Wp (ixS (.ptr n) (.str s) S) Q ↔ Q d S := by
  simp only [ixS, dctAt, h, keyD, e, wp_ok]
theorem set_dct {Q : Sto → Prop} {s : Str} (h : S[n]? = some (.dct kvs)) (e : kvs.length < sizeLine) : Put (setS (.ptr n) (.str s) d S) Q ↔ Q (S.set n (.dct (dput kvs (.str s) d))) := by
  simp only [setS, h, keyD, e, if_true, put_some]
theorem atI_int {α : Type} {ds : List α} {i : Int} (h0 : 0 ≤ i) (h1 : i < ds.length) : atI ds i = ds[i.toNat]? := by simp [atI, ixN, h0, h1]
theorem get_ofI {α : Type} {ds : List α} {i : Int} (h0 : 0 ≤ i) (h1 : i < ds.length) : ∃ d, ds[i.toNat]? = some d ∧ d ∈ ds := by
  have : i.toNat < ds.length := by omega
  exact ⟨ds[i.toNat], List.getElem?_eq_getElem this, List.getElem_mem this⟩
theorem ix_lst {Q : D → Sto → Prop} {i : Int} (h : S[n]? = some (.lst ds)) (h0 : 0 ≤ i) (h1 : i < ds.length) (e : ds[i.toNat]? = some d) : Wp (ixS (.ptr n) (.int i) S) Q ↔ Q d S := by
  simp only [ixS, dctAt, listAt, h, atI_int h0 h1, e, wp_ok]
theorem ix_tup {Q : D → Sto → Prop} {i : Int} (h0 : 0 ≤ i) (h1 : i < ds.length) (e : ds[i.toNat]? = some d) : Wp (ixS (.tup ds) (.int i) S) Q ↔ Q d S := by
  simp only [ixS, atI_int h0 h1, e, wp_ok]
theorem eqs_pl {Q : D → Sto → Prop} {x y : D} (hx : Pl x) (hy : Pl y) : Wp (eqS x y S) Q ↔ Q (.bl (decide (x = y))) S := by rw [eqS_pl hx hy, wp_ok]
theorem nes_pl {Q : D → Sto → Prop} {x y : D} (hx : Pl x) (hy : Pl y) : Wp (neS x y S) Q ↔ Q (.bl (!decide (x = y))) S := by rw [neS_pl hx hy, wp_ok]
theorem eqs_int {Q : D → Sto → Prop} {i j : Int} : Wp (eqS (.int i) (.int j) S) Q ↔ Q (.bl (decide (i = j))) S := by
  rw [eqs_pl (pl_int i) (pl_int j)]; simp only [D.int.injEq]
theorem nes_int {Q : D → Sto → Prop} {i j : Int} : Wp (neS (.int i) (.int j) S) Q ↔ Q (.bl (!decide (i = j))) S := by
  rw [nes_pl (pl_int i) (pl_int j)]; simp only [D.int.injEq]
theorem adds_int {Q : D → Sto → Prop} {i j : Int} : Wp (addS (.int i) (.int j) S) Q ↔ Q (.int (i + j)) S := by simp only [addS, wp_ok]
/-- a statement, then the next -/
theorem ws_cut {a b : MS} {N B C : Rho → Sto → Prop} {R : D → Sto → Prop} (M : Rho → Sto → Prop) (h : WpS (a ρ S) M B C R) (k : ∀ ρ1 S1, M ρ1 S1 → WpS (b ρ1 S1) N B C R) : WpS (mSeq a b ρ S) N B C R :=
  ws_mSeq.mpr (h.imp k (fun _ _ h => h) (fun _ _ h => h) (fun _ _ h => h))
end
end MP
/-! MP32 -/
set_option Elab.async false
set_option autoImplicit false
set_option linter.all false
set_option maxRecDepth 100000
namespace MP
open PySem PySem.Spec L2
def All2 {α β : Type} (P : α → β → Prop) : List α → List β → Prop
  | [], [] => True
  | a :: as, b :: bs => P a b ∧ All2 P as bs
  | _, _ => False
theorem All2.snoc {α β : Type} {P : α → β → Prop} {a : α} {b : β} : ∀ {as : List α} {bs : List β}, All2 P as bs → P a b → All2 P (as ++ [a]) (bs ++ [b])
  | [], [], _, h => ⟨h, trivial⟩
  | _ :: _, _ :: _, h, k => ⟨h.1, All2.snoc h.2 k⟩
theorem All2.len {α β : Type} {P : α → β → Prop} : ∀ {as : List α} {bs : List β}, All2 P as bs → as.length = bs.length
  | [], [], _ => rfl
  | _ :: _, _ :: _, h => by simp [All2.len h.2]
theorem All2.eq_map {α β : Type} {f : α → β} : ∀ {as : List α} {bs : List β}, All2 (fun a b => b = f a) as bs → bs = as.map f
  | [], [], _ => rfl
  | _ :: _, _ :: _, h => by simp [h.1, All2.eq_map h.2]
theorem All2.mem {α β : Type} {P : α → β → Prop} {b : β} : ∀ {as : List α} {bs : List β}, All2 P as bs → b ∈ bs → ∃ a ∈ as, P a b
  | [], [], _, h => by simp at h
  | a :: as, c :: bs, h, k => by
    rcases List.mem_cons.mp k with rfl | k
    · exact ⟨a, List.mem_cons_self .., h.1⟩
    · obtain ⟨x, hx, px⟩ := All2.mem h.2 k
      exact ⟨x, List.mem_cons_of_mem _ hx, px⟩
/-- a comprehension: what stands in its list -/
theorem wp_lc {g : MG} {t : M Bool} {el : M D} {src : Src} {ρ0 : Rho} {ms : List Nat} {S0 : Sto} {Q : D → Sto → Prop} (X : Sto → Prop) (f : D → Bool) (P : D → D → Prop)
    (hn : S0.length ∉ ms) (hX0 : X (S0 ++ [.lst []])) (hXs : ∀ S o, Ext ms S0 S → X S → X (S.set S0.length o))
    (hk : ∀ S, Ext ms S0 S → src.keep S = true) (hf : ∀ S, Ext ms S0 S → src.fin S = some S) (hl : src.items.length ≤ sizeLine)
    (step : ∀ d ∈ src.items, ∀ S, Ext ms S0 S → X S → Wp (g d ρ0 S) fun ρ1 S1 => Wp (t ρ1 S1) fun c S2 => c = f d ∧ (c = true → Wp (el ρ1 S2) fun y S3 => P d y ∧ Ext ms S S3 ∧ X S3) ∧ (c = false → Ext ms S S2 ∧ X S2))
    (done : ∀ acc S', All2 P (src.items.filter f) acc → Ext ms S0 S' → X S' → S'[S0.length]? = some (.lst acc) → Q (.ptr S0.length) S') :
    Wp (lcL g t el src S0.length ρ0 src.items (S0 ++ [.lst []])) Q := by
  refine wp_lcL (I := fun ds acc S => ∃ pre, src.items = pre ++ ds ∧ All2 P (pre.filter f) acc ∧ acc.length ≤ pre.length ∧ Ext ms S0 S ∧ X S) ?_ ?_ src.items [] _ ⟨[], rfl, trivial, Nat.le_refl _, Ext.push _, hX0⟩ get_push
  · rintro d ds acc S ⟨pre, e, ha, hal, x, hx⟩ hnn
    have hd : d ∈ src.items := by rw [e]; simp
    have hlen : pre.length + 1 + ds.length ≤ sizeLine := by rw [e] at hl; simp at hl; omega
    refine ⟨hk S x, (step d hd S x hx).imp fun ρ1 S1 q => q.imp fun c S2 ⟨ec, q1, q2⟩ => ?_⟩
    cases c with
    | true =>
      simp only [if_true]
      refine (q1 rfl).imp fun y S3 ⟨p, x3, hx3⟩ => ⟨x3.get _ _ hnn hn, by omega, pre ++ [d], by simp [e], ?_, by simp; omega, (x.trans x3).setf (Nat.le_refl _), hXs _ _ (x.trans x3) hx3⟩
      rw [List.filter_append, List.filter_cons, ← ec]
      exact ha.snoc p
    | false =>
      simp only [Bool.false_eq_true, if_false]
      obtain ⟨x3, hx3⟩ := q2 rfl
      refine ⟨x3.get _ _ hnn hn, pre ++ [d], by simp [e], ?_, by simp; omega, x.trans x3, hx3⟩
      rw [List.filter_append, List.filter_cons, ← ec]
      simpa using ha
  · rintro acc S ⟨pre, e, ha, hal, x, hx⟩ hnn
    simp only [List.append_nil] at e
    exact ⟨hk S x, S, hf S x, done acc S (by rw [e]; exact ha) x hx hnn⟩
theorem iter_tup {ds : List D} {S : Sto} : iterS (.tup ds) S = .ok (srcT ds) S := rfl
theorem iter_str {z : Str} {S : Sto} : iterS (.str z) S = .ok (srcT (strItems z)) S := rfl
theorem iter_lst {n : Nat} {ds : List D} {S : Sto} (h : S[n]? = some (.lst ds)) : iterS (.ptr n) S = .ok (srcL n ds) S := by simp only [iterS, listAt, h]
theorem keepL {n : Nat} {ds : List D} {S : Sto} (h : S[n]? = some (.lst ds)) : (srcL n ds).keep S = true := by simp [srcL, listAt, h]
theorem rng_ok {j : Int} {S : Sto} (h : 0 ≤ j) (h1 : j < 1000) : rng1S [.int j] S = .ok (srcT (rngL 0 j.toNat)) S := by
  have : -(2 ^ 62) ≤ j ∧ j < 2 ^ 62 := by omega
  simp only [rng1S, this, and_self, if_true]
end MP
/-! MP33 -/
set_option Elab.async false
set_option autoImplicit false
set_option linter.all false
set_option maxRecDepth 100000
namespace MP
open PySem PySem.Spec L2
end MP
/-! MP34 -/
set_option Elab.async false
set_option autoImplicit false
set_option linter.all false
set_option maxRecDepth 100000
namespace MP
open PySem PySem.Spec L2
open PyProof.Rows hiding St

/-! ## repr of small plain data -/
mutual
def D.sm : D → Bool
  | .non => true
  | .int i => decide (i.natAbs ≤ 99)
  | .str z => decide (z.length ≤ 6) && z.cps.toList.all fun c => decide (c < 1114112)
  | .tup ds => decide (ds.length ≤ 16) && D.sms ds
  | _ => false
def D.sms : List D → Bool
  | [] => true
  | d :: ds => D.sm d && D.sms ds
end
/-! the signs of what is shown -/
def Sgn (z : Str) : Prop := ∀ c ∈ z.cps.toList, c < 1114112
theorem Sgn.ok {z : Str} (h : Sgn z) : PyData.strOk z = true := by
  rw [PyData.strOk, ← Array.all_toList, List.all_eq_true]
  intro c hc
  simpa using h c hc
theorem Sgn.app {a b : Str} (h : Sgn a) (k : Sgn b) : Sgn (a ++ b) := by
  intro c hc
  have e : (a ++ b).cps = a.cps ++ b.cps := rfl
  rw [e, Array.toList_append, List.mem_append] at hc
  exact hc.elim (h c) (k c)
theorem char_lt (c : Char) : c.toNat < 1114112 := by
  have := c.valid
  rcases this with h | ⟨_, h⟩
  · have : c.toNat < 0xd800 := h
    omega
  · exact h
theorem Sgn.of (s : String) : Sgn (Str.ofString s) := by
  intro c hc
  rw [Str.ofString_eq_toList] at hc
  simp only [List.mem_map] at hc
  obtain ⟨d, _, rfl⟩ := hc
  exact char_lt d
theorem Sgn.join {sep : Str} (h : Sgn sep) : ∀ {ts : List Str}, (∀ t ∈ ts, Sgn t) → Sgn (Str.join sep ts)
  | [], _ => by intro c hc; simp [Str.join, Str.empty] at hc
  | [x], k => by simpa [Str.join] using k x (by simp)
  | x :: y :: r, k => by
    simp only [Str.join]
    exact ((k x (by simp)).app h).app (Sgn.join h fun t ht => k t (List.mem_cons_of_mem _ ht))
theorem sgn_char {q c : Nat} (hq : q < 1114112) (hc : c < 1114112) : ∀ e ∈ Builtin.Str.reprChar q c, e < 1114112 := by
  have hx : ∀ w : Nat, ∀ e ∈ List.replicate (w - ((Nat.toDigits 16 c).map Char.toNat).length) 48 ++ (Nat.toDigits 16 c).map Char.toNat, e < 1114112 := by
    intro w e he
    rw [List.mem_append] at he
    rcases he with he | he
    · have := List.eq_of_mem_replicate he; omega
    · obtain ⟨d, _, rfl⟩ := List.mem_map.mp he
      exact char_lt d
  have h2 := hx 2
  have h4 := hx 4
  have h8 := hx 8
  unfold Builtin.Str.reprChar
  dsimp only
  intro e he
  repeat' split at he
  · simp at he; omega
  · simp at he; omega
  · simp at he; omega
  · simp at he; omega
  · simp at he; omega
  · rw [List.mem_append] at he
    rcases he with he | he
    · simp at he; omega
    · exact h2 e he
  · rw [List.mem_append] at he
    rcases he with he | he
    · simp at he; omega
    · exact h4 e he
  · rw [List.mem_append] at he
    rcases he with he | he
    · simp at he; omega
    · exact h8 e he
theorem sgn_fold {q : Nat} (hq : q < 1114112) : ∀ (l : List Nat) (acc : Array Nat), (∀ c ∈ l, c < 1114112) → (∀ c ∈ acc.toList, c < 1114112) → ∀ c ∈ (l.foldl (fun out c => out ++ (Builtin.Str.reprChar q c).toArray) acc).toList, c < 1114112
  | [], acc, _, h => h
  | c :: r, acc, h, k => by
    refine sgn_fold hq r _ (fun d hd => h d (List.mem_cons_of_mem _ hd)) ?_
    intro d hd
    rw [Array.toList_append, List.mem_append] at hd
    exact hd.elim (k d) (sgn_char hq (h c (List.mem_cons_self ..)) d)
theorem Sgn.repr {z : Str} (h : Sgn z) : Sgn (reprText z) := by
  have hq : reprQuote z < 1114112 := by unfold reprQuote; split <;> decide
  intro c hc
  unfold reprText at hc
  rw [Array.toList_push, ← Array.foldl_toList, List.mem_append] at hc
  rcases hc with hc | hc
  · refine sgn_fold hq z.cps.toList _ h ?_ c hc
    intro d hd
    simp at hd
    omega
  · simp at hc
    omega
end MP
/-! MP35 -/
set_option Elab.async false
set_option autoImplicit false
set_option linter.all false
set_option maxRecDepth 100000
namespace MP
open PySem PySem.Spec L2
open PyProof.Rows hiding St

/-! ## x in d.values(): by iteration -/
section
variable {prog : Program} {w : World} {A : Around} {I : Addr} {fp wr : List Addr} {n : Nat} {St : Nat → Heap → Prop} {zs : List Str} {y : Str} {u : Tok}
end
end MP
/-! MP36 -/
set_option Elab.async false
set_option autoImplicit false
set_option linter.all false
set_option maxRecDepth 100000
namespace MP
open PySem PySem.Spec L2
open PyProof.Rows hiding St

/-! ## sorted(x) of plain data -/
def isTup1 : D → Bool
  | .tup (_ :: _) => true
  | _ => false
def notTup : D → Bool
  | .tup _ => false
  | .non => false
  | _ => true
def srtOk (ds : List D) : Bool := D.pls ds && decide (D.dps ds ≤ 19) && decide (ds.length ≤ 100000) && (ds.all fun a => ds.all fun b => PySem.W.alike a.vw b.vw) && (ds.all isTup1 || ds.all notTup)
def srt (ds : List D) : List D := ds.mergeSort (PySem.W.dataLe false D.vw)
def sortedS : FL
  | [.ptr n], S => match listAt S n with
    | some ds => if srtOk ds = true then newL (srt ds) S else .bad
    | none => match dctAt S n with
      | some kvs => if srtOk (kvs.map (·.1)) = true then newL (srt (kvs.map (·.1))) S else .bad
      | none => .bad
  | [.tup ds], S => if srtOk ds = true then newL (srt ds) S else .bad
  | _, _ => .bad
section
variable {X : Cx} {cl : Cl} {W : WX}
theorem each_of {K : PySem.W.Frag} {io : List Addr} {H : Hp} : ∀ {ds : List D} {ws : List V} {us : List Value}, RelDs K io H ds ws → Vals ws us → PySem.W.EachIs (fun v d => ∃ w, RelD K io H d w ∧ RelV w v) us ds
  | _, _, _, .nil, .nil => .nil
  | _, _, _, .cons r rs, .cons v vs => .cons ⟨_, r, v⟩ (each_of rs vs)
theorem of_each {K : PySem.W.Frag} {io : List Addr} {H : Hp} : ∀ {ds : List D} {us : List Value}, PySem.W.EachIs (fun v d => ∃ w, RelD K io H d w ∧ RelV w v) us ds → ∃ ws, RelDs K io H ds ws ∧ Vals ws us
  | _, _, .nil => ⟨[], .nil, .nil⟩
  | _, _, .cons ⟨w, r, v⟩ t => by
    obtain ⟨ws, rs, vs⟩ := of_each t
    exact ⟨w :: ws, .cons r rs, .cons v vs⟩
theorem pls_mem {d : D} : ∀ {ds : List D}, D.pls ds = true → d ∈ ds → d.pl = true ∧ d.dp ≤ D.dps ds
  | e :: ds, h, k => by
    simp only [D.pls, Bool.and_eq_true] at h
    simp only [D.dps]
    rcases List.mem_cons.mp k with rfl | k
    · exact ⟨h.1, Nat.le_max_left ..⟩
    · obtain ⟨a, b⟩ := pls_mem h.2 k
      exact ⟨a, Nat.le_trans b (Nat.le_max_right ..)⟩
theorem _root_.L2.Inv.dr {X : Cx} {pins : List (Addr × Obj)} {σ : L2.St} {H : Hp} {s : Shared} {d : Drawn} (I : L2.Inv X pins σ H s) : L2.Inv X pins σ H { s with drawn := d } := ⟨I.ok, I.os, I.bare, I.base, I.loc, I.cell, I.free, I.freeC, I.pin, I.hok, I.len⟩
theorem sorted_coreP {pins : List (Addr × Obj)} {s : Shared} {σ : L2.St} {H : Hp} {io : List Addr} {S : Sto} {u : Value} {ds0 : List D} (hu : X.A.units + 65 < cLine) (I : Inv X pins σ H s) (A : Abs X.K cl io S H) (ha : argsOk "sorted" ⟨[u], []⟩)
    (hcol : ∀ (Q : List Value → Shared → Prop) (E' : Value → Shared → Prop), (∀ h' tk dr us' ds ws, (∀ b o, s.heap.get? b = some o → h'.get? b = some o) → RelDs X.K io H ds ws → Vals ws us' → srtOk ds = true → srt ds = srt ds0 → Q us' { s with heap := h', toks := tk, drawn := dr }) → wpAny (model X.prog X.w) X.A.in1 (collect u) Q E' s) :
    wpAny (model X.prog X.w) X.A (call (.builtin "sorted") [u]) (EvP X cl pins σ io H (newL (srt ds0) S)) X.xe s := by
  refine Calls.call_function_entry kind_sorted plain_sorted entry_sorted ha ?_
  unfold Builtin.«sorted»
  refine wpAny_bind (m := checkCount "sorted" 1 1 _) (wpAny_pure ?_)
  refine wpAny_bind (hcol _ _ fun h' tk dr us' ds ws hk' rs hv ok es => ?_)
  rw [← es]
  simp only [srtOk, Bool.and_eq_true, decide_eq_true_eq, Bool.or_eq_true, List.all_eq_true] at ok
  obtain ⟨⟨⟨⟨o1, o2⟩, o3⟩, o4⟩, o5⟩ := ok
  have hal : PySem.W.AllAlike (ds.map D.vw) := by
    intro d hd d' hd'
    obtain ⟨a, ha, rfl⟩ := List.mem_map.mp hd
    obtain ⟨b, hb, rfl⟩ := List.mem_map.mp hd'
    exact o4 a ha b hb
  have hk : PySem.W.Sortable (ds.map D.vw) := by
    rcases o5 with h | h
    · refine .inl fun d hd => ?_
      obtain ⟨a, ha, rfl⟩ := List.mem_map.mp hd
      have := h a ha
      cases a with
      | tup l =>
        cases l with
        | nil => cases this
        | cons x l => exact ⟨x.vw, D.vws l, by simp only [D.vw, D.vws]⟩
      | _ => cases this
    · refine .inr fun d hd => ?_
      obtain ⟨a, ha, rfl⟩ := List.mem_map.mp hd
      have := h a ha
      cases a with
      | non => cases this
      | tup _ => cases this
      | ptr n => have := (pls_mem o1 ha).1; simp [D.pl] at this
      | _ => exact ⟨by simp [D.vw], by simp [D.vw]⟩
  have hdp : ∀ d ∈ ds, d.vw.depth ≤ 20 ∧ ∀ w, RelD X.K io H d w → Dp X.K H w d.vw := by
    intro d hd
    obtain ⟨p1, p2⟩ := pls_mem o1 hd
    have hv := view_pl S d 20 p1 (by omega)
    constructor
    · obtain ⟨w, hw⟩ : ∃ w, RelD X.K io H d w := by
        obtain ⟨i, hi, e⟩ := List.getElem_of_mem hd
        obtain ⟨v, _, r⟩ := rs.get (i := i) (d := d) (by rw [List.getElem?_eq_getElem hi, e])
        exact ⟨v, r⟩
      exact (view_dp A 20 d w _ hv hw).2.2
    · intro w hw
      exact (view_dp A 20 d w _ hv hw).1
  have hL : ds.length ≤ sizeLine := by rw [sizeLine_eq]; omega
  have I1 : Inv X pins σ H { s with heap := h', toks := tk, drawn := dr } := (I.kept (t' := tk) hk').dr
  have e := each_of rs hv
  have hl : us'.length = ds.length := e.length
  refine wpAny_bind (wpAny_newList ?_ (by rw [hl]; exact hL))
  have hoL : (h'.push (seqObj "list" us'.toArray 0)).get? h'.objs.size = some (seqObj "list" us'.toArray 0) := Heap.get?_push_size _ rfl
  show wpAny _ _ _ _ _ { s with heap := h'.push (seqObj "list" us'.toArray 0), toks := tk, drawn := dr }
  have er : PySem.W.EachIs (fun v b => ∃ as, Reads (PySem.W.sortingHeap (h'.push (seqObj "list" us'.toArray 0)) h'.objs.size us') v (D.vw b) as) us' ds := by
    refine (PySem.W.each_mem e).mono fun v b ⟨⟨w, r, rv⟩, hb⟩ => ?_
    obtain ⟨as, rr⟩ := Dp.reads I1 _ _ _ ((hdp b hb).2 w r) rv
    exact ⟨as, PyProof.Rows.Reads.keeps (fun b o q => PySem.W.sortingHeap_old (Nat.ne_of_lt (Heap.lt_size q)) (Heap.get?_push_of_some _ q)) rr⟩
  refine wpAny_bind (wpAny_holding (wpAny_call_entry slot_list_sort ⟨_, hoL, rfl⟩ entry_list_sort
    (PySem.W.list_sort_vals (κ := PySem.W.dataKind (PySem.W.sortingHeap (h'.push (seqObj "list" us'.toArray 0)) h'.objs.size us') (ds.map D.vw)) hoL
      (PySem.W.SortsAt.data (s := { s with heap := PySem.W.sortingHeap (h'.push (seqObj "list" us'.toArray 0)) h'.objs.size us', toks := tk, drawn := dr }) (PySem.W.each_map (R := fun v d => ∃ as, Reads (PySem.W.sortingHeap (h'.push (seqObj "list" us'.toArray 0)) h'.objs.size us') v d as) D.vw er) hal hk (fun d hd => by
        obtain ⟨b, hb, rfl⟩ := List.mem_map.mp hd
        have := (hdp b hb).1
        show X.A.units + 2 + _ < cLine
        omega)) (by rw [hl]; exact hL) ⟨.none, rfl, ?_⟩) (args_list_sort _)))
  obtain ⟨ws', rs', vs'⟩ := of_each (PySem.W.sortVals_data false e er hal)
  have hp : (srt ds).Perm ds := List.mergeSort_perm ..
  obtain ⟨e', he'⟩ := PyProof.Rows.sortedHeap_at (vs := us') (out := (PySem.W.sortVals (PySem.W.dataKind (PySem.W.sortingHeap (h'.push (seqObj "list" us'.toArray 0)) h'.objs.size us') (ds.map D.vw)) false us' us').toArray) hoL
  have hf : H h'.objs.size = none := I1.hok.fresh (Nat.le_refl _)
  have hlen : ws'.length ≤ sizeLine := by
    rw [← rs'.length]
    show (srt ds).length ≤ _
    rw [hp.length_eq]
    exact hL
  have new : ObjOk X.prog X.w (upd H h'.objs.size (.lst ws')) _ h'.objs.size (.lst ws') := ⟨hlen, _, e', vs', he'⟩
  obtain ⟨d', S', io', e2, A', g', rd⟩ := AnsV.lst (cl := cl) A rs' _ hf
  refine wpAny_pure ⟨_, rfl, d', S', io', _, _, e2, I1.laid (t' := tk) (fun b u q => ?_) (Nat.le_refl _) new, A', g', rd, rfl⟩
  have hb : b < h'.objs.size := Heap.lt_size q
  rw [PyProof.Rows.sortedHeap_old (Nat.ne_of_lt hb) (by rw [size_push']; exact Nat.lt_succ_of_lt hb)]
  exact Heap.get?_push_of_some _ q
theorem sorted_core {pins : List (Addr × Obj)} {s : Shared} {σ : L2.St} {H : Hp} {io : List Addr} {S : Sto} {u : Value} {ds : List D} {ws : List V} (hu : X.A.units + 65 < cLine) (I : Inv X pins σ H s) (A : Abs X.K cl io S H) (rs : RelDs X.K io H ds ws) (ok : srtOk ds = true) (ha : argsOk "sorted" ⟨[u], []⟩)
    (hcol : ∀ (Q : List Value → Shared → Prop) (E' : Value → Shared → Prop), (∀ h' tk us', (∀ b o, s.heap.get? b = some o → h'.get? b = some o) → Vals ws us' → Q us' { s with heap := h', toks := tk }) → wpAny (model X.prog X.w) X.A.in1 (collect u) Q E' s) :
    wpAny (model X.prog X.w) X.A (call (.builtin "sorted") [u]) (EvP X cl pins σ io H (newL (srt ds) S)) X.xe s :=
  sorted_coreP hu I A ha fun Q E' k => hcol Q E' fun h' tk us' hk hv => k h' tk s.drawn us' ds ws hk rs hv ok rfl
theorem args_sorted1' (v : Value) : argsOk "sorted" ⟨[v], []⟩ := PyProof.Rows.args_sorted1 v
theorem cb_sorted (hc : X.calm = true) (hu : X.A.units + 65 < cLine) : CaS X cl W (.builtin "sorted") sortedS := by
  intro pins s σ H io S xs vs us I A rx ru G
  unfold sortedS at G ⊢
  split at G
  · obtain ⟨v, rfl, r⟩ := one_arg rx
    obtain ⟨u, rfl, ru'⟩ := Vals.one ru
    cases r with
    | @ptr n p hn =>
      cases (show u = Value.ref p from ru')
      split at G
      · rename_i ds hd
        split at G
        · rename_i ok
          rw [if_pos ok]
          obtain ⟨ws, hq, rs⟩ := ptr_list A hn hd
          obtain ⟨its, rv, hl, hz⟩ := I.list hq
          obtain ⟨o, ho, hcl, m, hdt⟩ := id hl.isList
          refine sorted_core hu I A rs ok (args_sorted1' _) fun Q E' k => wpAny_collect_seq p (.inl rfl) ho hcl hdt (fun h' hk' => k h' s.toks _ hk' (by simpa using rv)) ?_
          have := rv.length
          simp only [List.size_toArray]
          omega
        · exact False.elim G
      · split at G
        · rename_i kvs hd
          split at G
          · rename_i ok
            rw [if_pos ok]
            obtain ⟨ws, hq, rk⟩ := ptr_dct A hn hd
            obtain ⟨z, lo, vs, rel, dd⟩ := dk_rd I.hok hq
            obtain ⟨ep, hat⟩ := dd.dictAt
            have hlv : ws.length = vs.length := Paired.length rel
            refine sorted_core hu I A (relKs_keys rk) ok (args_sorted1' _) fun Q E' k => ?_
            refine PySem.W.kdu_collect (A := X.A.in1) (PySem.W.kdl_dict (knd := mixKind X.prog X.w) (kvs := vs) (ep := ep) lo) (I.ok.hd hc) hat (by omega) fun h' tk acc hk hacc => k h' tk _ hk ?_
            have e := keys_at (us := acc.toList) (vs := vs) (by rw [Array.length_toList, hacc.1]) fun j v e => by
              obtain ⟨k, x, e1, e2⟩ := hacc.2 j v (by rw [← Array.getElem?_toList]; exact e)
              exact ⟨k, x, e1, e2⟩
            have ek : (vs.map fun p => kV p.1) = ws.map fun kv => kV kv.1 := by
              have h1 := congrArg (List.map kV) rel.keys
              rw [List.map_map, List.map_map] at h1
              exact h1.symm
            rw [← ek]
            exact e
          · exact False.elim G
        · exact False.elim G
  · obtain ⟨v, rfl, r⟩ := one_arg rx
    obtain ⟨u, rfl, ru'⟩ := Vals.one ru
    split at G
    · rename_i ok
      rw [if_pos ok]
      cases r with
      | @tup p _ ws hq rs =>
        cases (show u = Value.ref p from ru')
        obtain ⟨its, rv, ht, hz⟩ := I.tuple hq.1
        obtain ⟨o, ho, hcl, m, hdt⟩ := id ht
        refine sorted_core hu I A rs ok (args_sorted1' _) fun Q E' k => wpAny_collect_seq p (.inr rfl) ho hcl hdt (fun h' hk' => k h' s.toks _ hk' (by simpa using rv)) ?_
        have := rv.length
        simp only [List.size_toArray]
        omega
    · exact False.elim G
  · exact False.elim G
end
end MP
/-! MP37 -/
set_option Elab.async false
set_option autoImplicit false
set_option linter.all false
set_option maxRecDepth 100000
namespace MP
open PySem PySem.Spec L2
open PyProof.Rows hiding St

/-! ## x in d.values() -/
def invS : F2
  | .str y, .ptr n, S => match S[n]? with
    | some (.vw "dict_values" m) => match S[m]? with
      | some (.dct kvs) => match strsOf (kvs.map (·.2)) with
        | some zs => .ok (.bl (decide (y ∈ zs))) S
        | none => .bad
      | _ => .bad
    | _ => .bad
  | _, _, _ => .bad
section
variable {X : Cx} {cl : Cl} {W : WX}
theorem paired_get {α β : Type} {R : α → β → Prop} : ∀ {as : List α} {bs : List β}, Paired R as bs → ∀ (i : Nat) (b : β), bs[i]? = some b → ∃ a, as[i]? = some a ∧ R a b
  | _, _, .nil, i, b, h => by simp at h
  | _, _, .cons h1 t, 0, b, h => by simp at h; subst h; exact ⟨_, rfl, h1⟩
  | _, _, .cons h1 t, i + 1, b, h => by
    obtain ⟨a, e, r⟩ := paired_get t i b (by simpa using h)
    exact ⟨a, by simpa using e, r⟩
/-! ## list.remove of a text, dict.clear -/
def removeS : FM
  | .ptr n, [.str y], S => match S[n]? with
    | some (.lst ds) => match strsOf ds with
      | some zs => if y ∈ zs then .ok .non (S.set n (.lst (ds.eraseIdx (zs.idxOf y)))) else .bad
      | none => .bad
    | _ => .bad
  | _, _, _ => .bad
def clearDS : FM
  | .ptr n, [], S => match S[n]? with
    | some (.dct _) => .ok .non (S.set n (.dct []))
    | _ => .bad
  | _, _, _ => .bad
def eqz (k : Str) (v : Value) : Bool := match v with
  | .str n _ => decide (n = k)
  | _ => false
/-! ## a, b, c = x, y, z with plain local names -/
def mPar3 (i j l : Nat) (ma : M (List D)) : MS := fun ρ S => match ma ρ S with
  | .ok ds S1 => match ds with
    | [x, y, z] => .ok (.nx (((ρ.set i (some x)).set j (some y)).set l (some z))) S1
    | _ => .bad
  | .exn x S1 => .ok (.exn x ρ) S1
  | .bad => .bad
/-! ## o.f, a place for a value -/
def gFld (c f : Str) (mo : M D) : MG := fun d ρ S => match mo ρ S with
  | .ok x S1 => match setF c f x d S1 with
    | some S2 => .ok ρ S2
    | none => .bad
  | _ => .bad
def gsFldG (K : PySem.W.Frag) (to : TE) (f : Str) : TG := fun v σ H Q => to σ H fun x H2 => ∃ a C dx fs, x = .ref a ∧ H2 a = some (.ins C dx fs) ∧ Cls K C ∧ NoAttr K C f ∧ fs.length < 1000 ∧ Q σ (upd H2 a (.ins C dx (putF f v fs)))
end
end MP
/-! MP38 -/
set_option Elab.async false
set_option autoImplicit false
set_option linter.all false
set_option maxRecDepth 100000
namespace MP
open PySem PySem.Spec L2
open PyProof.Rows hiding St

/-! ## repr of a dict of plain things -/
def D.atom : D → Bool
  | .non | .bl _ | .int _ | .str _ => true
  | _ => false
def dvw (kvs : List (D × D)) : PyData := .dict (kvs.map fun p => (p.1.vw, p.2.vw))
def reprA : FL
  | [.ptr n], S => match S[n]? with
    | some (.dct kvs) => if (kvs.all fun p => p.1.atom && p.2.atom) = true ∧ (dvw kvs).showable = true ∧ okS (dvw kvs).shown then .ok (.str (dvw kvs).shown) S else .bad
    | _ => reprS [.ptr n] S
  | xs, S => reprS xs S
section
variable {X : Cx} {cl : Cl} {W : WX}
end
end MP
/-! MP39 -/
set_option Elab.async false
set_option autoImplicit false
set_option linter.all false
set_option maxRecDepth 100000
namespace MP
open PySem PySem.Spec L2
open PyProof.Rows hiding St

/-! ## calls with keywords -/
/-- how a def binds np values, the keywords ks and its defaults -/
def KwG (K : PySem.W.Frag) (fd : FuncData) (ps : List Str) (np : Nat) (ks : List Str) (dvs : List Value) (perm : List Nat) : Prop := ∀ (s : Shared) (us ws : List Value), K.In s.heap → us.length = np → ws.length = ks.length → BindsTo s fd ⟨us, ks.zip ws⟩ (ps.zip (reord perm (us ++ ws ++ dvs)))
def kwS (np nk n : Nat) (dfl : List D) (perm : List Nat) (g : FL) : List D → List D → Sto → Rs D := fun xs ws S => if xs.length = np ∧ ws.length = nk ∧ (reord perm (xs ++ ws ++ dfl)).length = n then g (reord perm (xs ++ ws ++ dfl)) S else .bad
def mKw (g : List D → List D → Sto → Rs D) (ma mk : M (List D)) : M D := fun ρ S => (ma ρ S).bind fun xs S1 => (mk ρ S1).bind fun ws S2 => g xs ws S2
def mMethKw (c m : Str) (g : List D → List D → Sto → Rs D) (mo : M D) (ma mk : M (List D)) : M D := fun ρ S => (mo ρ S).bind fun x S1 => if hasM c m x S1 = true then (ma ρ S1).bind fun xs S2 => (mk ρ S2).bind fun ws S3 => g (x :: xs) ws S3 else .bad
def CaK (X : Cx) (cl : Cl) (W : WX) (f : Value) (ks : List Str) (g : List D → List D → Sto → Rs D) : Prop :=
  ∀ (pins : List (Addr × Obj)) (s : Shared) (σ : L2.St) (H : Hp) (io : List Addr) (S : Sto) (xs kws : List D) (vs kvs : List V) (us kus : List Value), Inv X pins σ H s → Abs X.K cl io S H → RelDs X.K io H xs vs → Vals vs us → RelDs X.K io H kws kvs → Vals kvs kus →
    Good W X.K cl io H σ (g xs kws S) → wpAny (model X.prog X.w) X.A (call f us (ks.zip kus)) (EvP X cl pins σ io H (g xs kws S)) X.xe s
section
variable {X : Cx} {cl : Cl} {W : WX} {CX : CXT} {k : Nat} {f fa C : Addr} {fd : FuncData} {ps ks : List Str} {g : FL} {gk : List D → List D → Sto → Rs D} {perm : List Nat} {kws : List Keyword} {mo : M D} {ma m : M (List D)} {p pos apos : Pos} {dfl : List D} {dvs : List V} {us0 : List Value} {np : Nat} {x c mt : Str} {e o : Expr} {es : List Expr}
end
end MP
/-! MP40 -/
set_option Elab.async false
set_option autoImplicit false
set_option linter.all false
set_option maxRecDepth 100000
namespace MP
open PySem PySem.Spec L2
open PyProof.Rows hiding St

/-! ## sorted lists on the plain side -/
theorem sorted_uniq {α : Type} {le : α → α → Prop} : ∀ {as bs : List α}, as.Perm bs → as.Pairwise le → bs.Pairwise le → (∀ a ∈ as, ∀ b ∈ as, le a b → le b a → a = b) → as = bs
  | [], bs, p, _, _, _ => (List.Perm.nil_eq p)
  | a :: as, [], p, _, _, _ => by have := p.length_eq; simp at this
  | a :: as, b :: bs, p, ha, hb, h => by
    rw [List.pairwise_cons] at ha hb
    have e : a = b := by
      have h1 : a ∈ b :: bs := p.mem_iff.mp (List.mem_cons_self ..)
      have h2 : b ∈ a :: as := p.mem_iff.mpr (List.mem_cons_self ..)
      rcases List.mem_cons.mp h1 with e | h1
      · exact e
      · rcases List.mem_cons.mp h2 with e | h2'
        · exact e.symm
        · exact h a (List.mem_cons_self ..) b h2 (ha.1 b h2') (hb.1 a h1)
    subst e
    rw [sorted_uniq p.cons_inv ha.2 hb.2 fun x hx y hy => h x (List.mem_cons_of_mem _ hx) y (List.mem_cons_of_mem _ hy)]
theorem srt_mem {ds : List D} {d : D} : d ∈ srt ds ↔ d ∈ ds := (List.mergeSort_perm ..).mem_iff
theorem srt_perm {as bs : List D} (p : as.Perm bs) (inj : ∀ a ∈ as, ∀ b ∈ as, PySem.W.keyToks a.vw = PySem.W.keyToks b.vw → a = b) : srt as = srt bs := by
  have tl : PySem.W.TotalLe (PySem.W.dataLe false D.vw) := PySem.W.sortLe_total _ _ _
  refine sorted_uniq (le := fun a b => PySem.W.dataLe false D.vw a b = true) (((List.mergeSort_perm ..).trans p).trans (List.mergeSort_perm ..).symm) (PySem.W.sort_pairwise tl _) (PySem.W.sort_pairwise tl _) ?_
  intro a ha b hb h1 h2
  refine inj a (srt_mem.mp ha) b (srt_mem.mp hb) ?_
  have h1' : (!PyProof.Rows.lexLt PyProof.Rows.itemOrd (PySem.W.keyToks b.vw) (PySem.W.keyToks a.vw)) = true := h1
  have h2' : (!PyProof.Rows.lexLt PyProof.Rows.itemOrd (PySem.W.keyToks a.vw) (PySem.W.keyToks b.vw)) = true := h2
  rw [Bool.not_eq_true'] at h1' h2'
  exact (PyProof.Rows.listOrd PyProof.Rows.itemOrd).total _ _ h2' h1'
theorem key_str {a b : Str} (h : PySem.W.keyToks (D.vw (.str a)) = PySem.W.keyToks (D.vw (.str b))) : a = b := by
  simp only [D.vw, PySem.W.keyToks, List.cons.injEq, Sum.inr.injEq, and_true] at h
  exact PySem.W.str_of_cps h
theorem key_pair {a b c d : Str} (h : PySem.W.keyToks (D.vw (.tup [.str a, .str b])) = PySem.W.keyToks (D.vw (.tup [.str c, .str d]))) : a = c ∧ b = d := by
  simp only [D.vw, D.vws, PySem.W.keyToks, PySem.W.keyToksAll, List.cons_append, List.nil_append, List.cons.injEq, Sum.inr.injEq, and_true, true_and] at h
  exact ⟨PySem.W.str_of_cps h.1, PySem.W.str_of_cps h.2⟩
theorem srtOk_strs {l : List Str} (h : l.length ≤ 100000) : srtOk (l.map D.str) = true := by
  have hp : Pls (l.map D.str) := pls_map fun x _ => ⟨by simp [D.pl], by simp [D.dp]⟩
  simp only [srtOk, Bool.and_eq_true, decide_eq_true_eq, Bool.or_eq_true, List.all_eq_true]
  refine ⟨⟨⟨⟨hp.pl, hp.dp⟩, by simpa using h⟩, ?_⟩, .inr ?_⟩
  · intro a ha b hb
    obtain ⟨x, _, rfl⟩ := List.mem_map.mp ha
    obtain ⟨y, _, rfl⟩ := List.mem_map.mp hb
    simp [D.vw, PySem.W.alike]
  · intro a ha
    obtain ⟨x, _, rfl⟩ := List.mem_map.mp ha
    rfl
theorem srtOk_pairs {ds : List D} (hd : ∀ d ∈ ds, ∃ a b, d = .tup [.str a, .str b]) (h : ds.length ≤ 100000) : srtOk ds = true := by
  have hp : Pls ds := pls_of fun d k => by
    obtain ⟨a, b, rfl⟩ := hd d k
    exact ⟨by simp [D.pl, D.pls], by simp [D.dp, D.dps]⟩
  simp only [srtOk, Bool.and_eq_true, decide_eq_true_eq, Bool.or_eq_true, List.all_eq_true]
  refine ⟨⟨⟨⟨hp.pl, hp.dp⟩, h⟩, ?_⟩, .inl ?_⟩
  · intro a ha b hb
    obtain ⟨x, x', rfl⟩ := hd a ha
    obtain ⟨y, y', rfl⟩ := hd b hb
    simp [D.vw, D.vws, PySem.W.alike, PySem.W.alikeAll]
  · intro a ha
    obtain ⟨x, x', rfl⟩ := hd a ha
    rfl
theorem srt_strs (l : List Str) : ∃ l' : List Str, srt (l.map D.str) = l'.map D.str ∧ l'.Perm l := by
  have hp : (srt (l.map D.str)).Perm (l.map D.str) := List.mergeSort_perm ..
  have : ∀ ds : List D, (∀ d ∈ ds, ∃ z, d = D.str z) → ∃ l' : List Str, ds = l'.map D.str := by
    intro ds
    induction ds with
    | nil => intro _; exact ⟨[], rfl⟩
    | cons d ds ih =>
      intro h
      obtain ⟨z, rfl⟩ := h d (List.mem_cons_self ..)
      obtain ⟨l', rfl⟩ := ih fun e he => h e (List.mem_cons_of_mem _ he)
      exact ⟨z :: l', rfl⟩
  obtain ⟨l', e⟩ := this _ fun d hd => by
    obtain ⟨z, _, rfl⟩ := List.mem_map.mp (hp.mem_iff.mp hd)
    exact ⟨z, rfl⟩
  refine ⟨l', e, ?_⟩
  rw [e] at hp
  have := hp.map (fun d => match d with | .str z => z | _ => Str.empty)
  simpa [Function.comp_def] using this
end MP
/-! MP41 -/
set_option Elab.async false
set_option autoImplicit false
set_option linter.all false
set_option maxRecDepth 100000
namespace MP
open PySem PySem.Spec L2
open PyProof.Rows hiding St

/-! ## repr of a dict of names and truths -/
def kvT (t : List (Str × Bool)) : List (D × D) := t.map fun p => (.str p.1, .bl p.2)
def Sn (z : Str) : Prop := z.length ≤ 6 ∧ ∀ c ∈ z.cps.toList, c < 1114112
end MP
/-! MP42 -/
set_option Elab.async false
set_option autoImplicit false
set_option linter.all false
set_option maxRecDepth 100000
namespace MP
open PySem PySem.Spec L2
section
variable {ρ : Rho} {S : Sto} {N B C : Rho → Sto → Prop} {R : D → Sto → Prop}
theorem wp_gFld {c f : Str} {mo : M D} {d : D} {Q : Rho → Sto → Prop} : Wp (gFld c f mo d ρ S) Q ↔ Wp (mo ρ S) fun x S1 => Put (setF c f x d S1) (Q ρ) := by
  unfold gFld
  constructor
  · rintro ⟨a, S', e, q⟩
    cases h : mo ρ S with
    | ok x S1 =>
      rw [h] at e
      simp only at e
      cases h2 : setF c f x d S1 with
      | some S2 =>
        rw [h2] at e
        cases e
        exact ⟨x, S1, rfl, _, h2, q⟩
      | none => rw [h2] at e; cases e
    | exn _ _ => rw [h] at e; cases e
    | bad => rw [h] at e; cases e
  · rintro ⟨x, S1, e, S2, h2, q⟩
    rw [e]
    simp only [h2]
    exact ⟨_, _, rfl, q⟩
theorem wp_mMethKw {c m : Str} {g : List D → List D → Sto → Rs D} {mo : M D} {ma mk : M (List D)} {Q : D → Sto → Prop} : Wp (mMethKw c m g mo ma mk ρ S) Q ↔ Wp (mo ρ S) fun x S1 => hasM c m x S1 = true ∧ Wp (ma ρ S1) fun xs S2 => Wp (mk ρ S2) fun ws S3 => Wp (g (x :: xs) ws S3) Q := by
  simp only [mMethKw, wp_bind, wp_guard]
end
end MP
/-! MP43 -/
set_option Elab.async false
set_option autoImplicit false
set_option linter.all false
set_option maxRecDepth 100000
namespace MP
open PySem PySem.Spec L2
open PyProof.Rows hiding St

/-! ## dicts whose keys are tuples -/
section
variable {X : Cx} {cl : Cl} {W : WX}
def getK : FM
  | .ptr n, [k, d], S => match S[n]?, nkT k with
    | some (.dkt kvs), some _ => .ok ((dget kvs k).getD d) S
    | some (.dct []), some _ => .ok d S
    | _, _ => .bad
  | _, _, _ => .bad
def setKS (x i d : D) (S : Sto) : Option Sto := match x with
  | .ptr n => match S[n]?, nkT i with
    | some (.dkt kvs), some _ => if kvs.length < sizeLine then some (S.set n (.dkt (dput kvs i d))) else none
    | some (.dct []), some _ => some (S.set n (.dkt [(i, d)]))
    | _, _ => none
  | _ => none
def mSetK (mo mi mv : M D) : MS := eS mv fun d => eS mo fun x => eS mi fun i ρ S => match setKS x i d S with
  | some S' => .ok (.nx ρ) S'
  | none => .bad
/-- the entries behind a store -/
def putQ (qs : List ((NestedKey × Addr × Value) × V)) (k : NestedKey) (b : Addr) (u : Value) (v : V) : List ((NestedKey × Addr × Value) × V) :=
  if (atKey (qs.map (·.1)) k).isSome then qs.map (fun q => if q.1.1 = k then ((q.1.1, q.1.2.1, u), v) else q) else qs ++ [((k, b, u), v)]
end
end MP
/-! MP44 -/
set_option Elab.async false
set_option autoImplicit false
set_option linter.all false
set_option maxRecDepth 100000
namespace MP
open PySem PySem.Spec L2
open PyProof.Rows hiding St
section
variable {X : Cx} {cl : Cl} {W : WX}
variable {o i value : Expr} {mo mi mv : M D} {pos pos' : Pos}
/-! ## list(d.values()) -/
def viewK : FM
  | .ptr n, [], S => match S[n]? with
    | some (.dkt _) => .ok (.ptr S.length) (S ++ [.vw "dict_values" n])
    | some (.dct []) => .ok (.ptr S.length) (S ++ [.vw "dict_values" n])
    | _ => .bad
  | _, _, _ => .bad
def listK : FL
  | [.ptr n], S => match S[n]? with
    | some (.vw "dict_values" m) => match S[m]? with
      | some (.dkt kvs) => newL (kvs.map (·.2)) S
      | some (.dct []) => newL [] S
      | _ => .bad
    | _ => .bad
  | _, _ => .bad
end
end MP
/-! MP45 -/
set_option Elab.async false
set_option autoImplicit false
set_option linter.all false
set_option maxRecDepth 100000
namespace MP
open PySem PySem.Spec L2
open PyProof.Rows hiding St
section
variable {X : Cx} {cl : Cl} {W : WX} {x : Str} {p pos : Pos} {kws : List Keyword} {m : M (List D)} {ks : List Str} {gk : List D → List D → Sto → Rs D}
end
end MP
/-! MP46 -/
set_option Elab.async false
set_option autoImplicit false
set_option linter.all false
set_option maxRecDepth 100000
namespace MP
open PySem PySem.Spec L2
open PyProof.Rows hiding St

/-! ## for a, b in zip(xs, ys) -/
def zipL (as bs : List D) : List D := List.zipWith (fun a b => .tup [a, b]) as bs
/-- no item is a tuple of pairs of texts alone -/
def zipOk (as bs : List D) : Bool := (zipL as bs).all fun d => match d with
  | .tup ds => !(ds.all D.isP2)
  | _ => true
def zipA : List D → Sto → Rs Src
  | [.tup as, .tup bs], S => if zipOk as bs = true then .ok (srcT (zipL as bs)) S else .bad
  | [.ptr n, .ptr m], S => match listAt S n, listAt S m with
    | some as, some bs => if zipOk as bs = true then .ok ⟨zipL as bs, fun S => decide (listAt S n = some as) && decide (listAt S m = some bs), some⟩ S else .bad
    | _, _ => .bad
  | _, _ => .bad
section
variable {X : Cx} {cl : Cl} {W : WX} {e e2 : Expr} {m : M (List D)} {p pos tpos : Pos} {elts : List Expr} {kk : Nat} {io0 io1 : List Addr} {H0 H1 : Hp}
end
end MP
/-! MP47 -/
set_option Elab.async false
set_option autoImplicit false
set_option linter.all false
set_option maxRecDepth 100000
namespace MP
open PySem PySem.Spec L2 PySem.Froz
open PyProof.Rows hiding St

/-! ## sorted(set(x)), x a list of texts, none twice -/
/-- at a stands a set of the texts l, and its table may be walked -/
def TxW (P : Program) (w : World) (h : Heap) (a : Addr) (l : List Str) : Prop :=
  ∃ D : SD, h.get? a = some (sObj "set" D) ∧ TxOk P w D l ∧ Ris D.2.2.place.toList ∧ (w.params.followText "set-order" = true ∨ D.2.2.led = true)
abbrev setNew (w : World) : Obj := sObj "set" (#[], 0, .fresh 0 0 (!w.params.followText "set-order"))
section
variable {P : Program} {w : World} {A : Around} {E : Value → Shared → Prop} {s : Shared} {a : Addr} {l : List Str}
theorem TxW.keep {h h' : Heap} (x : TxW P w h a l) (k : ∀ o, h.get? a = some o → h'.get? a = some o) : TxW P w h' a l := x.imp fun _ y => ⟨k _ y.1, y.2⟩
theorem TxW.start {h : Heap} (e : h.get? a = some (setNew w)) : TxW P w h a [] := by
  refine ⟨_, e, TxOk.nil (by rfl), List.Pairwise.nil, ?_⟩
  show _ ∨ (!w.params.followText "set-order") = true
  cases w.params.followText "set-order" <;> simp
theorem tail_walk {ep : Nat} {es : Array (Int × Value)} {t : SetTable} {b : Bool} {F : Bool} (r : Ris t.place.toList) (l : F = true ∨ t.led = true) : Ris (tailTx ep es t b).2.2.place.toList ∧ (F = true ∨ (tailTx ep es t b).2.2.led = true) := by
  unfold tailTx
  split
  · exact ⟨relayAll_ris _ _ _, l.imp id fun z => (relayAll_led _ _ _).trans z⟩
  · exact ⟨r, l⟩
theorem add_walk {D : SD} {F : Bool} (c : Int) (v : Value) (r : Ris D.2.2.place.toList) (l : F = true ∨ D.2.2.led = true) : Ris (addTx c v D).2.2.place.toList ∧ (F = true ∨ (addTx c v D).2.2.led = true) := by
  have r1 := layNew_ris D.2.2 D.1 c v r
  have l1 : F = true ∨ (layNew D.2.2 D.1 c v).2.1.led = true := l.imp id fun z => (layNew_led D.2.2 D.1 c v).trans z
  unfold addTx
  refine tail_walk ?_ ?_
  · split <;> exact r1
  · split <;> exact l1
/-- a new text -/
theorem TxW.add {k : Str} {u : Tok} {Q : Bool → Shared → Prop} (x : TxW P w s.heap a l) (hk : k ∉ l) (hb : l.length + 1 < scanBound) (q : ∀ h', Heap.SameBut a s.heap h' → TxW P w h' a (k :: l) → Q true { s with heap := h' }) :
    wpAny (model P w) A (setAddHashed a (.str k u) (hashStr w k)) Q E s := by
  obtain ⟨D, e, ok, r, z⟩ := x
  obtain ⟨r', z'⟩ := add_walk (hashStr w k) (.str k u) r z
  exact add_x e ok hk hb (q _ (Heap.SameBut.update s.heap a _) ⟨_, get_upd _ e rfl, add_ok u ok, r', z'⟩)
end
end MP
/-! MP48 -/
set_option Elab.async false
set_option autoImplicit false
set_option linter.all false
set_option maxRecDepth 100000
namespace MP
open PySem PySem.Spec L2 PySem.Froz
open PyProof.Rows hiding St
section
variable {P : Program} {w : World} {A : Around} {E : Value → Shared → Prop} {s : Shared}
/-- what set(l) leaves -/
def SetLeft (P : Program) (w : World) (s : Shared) (zs : List Str) (s' : Shared) : Prop := ∃ h' tk, s' = { s with heap := h', toks := tk } ∧ TxW P w h' s.heap.objs.size zs.reverse ∧ ∀ b o, s.heap.get? b = some o → h'.get? b = some o
theorem size1 (h : Heap) (o : Obj) : (h.push o).objs.size = h.objs.size + 1 := by rw [Heap.size_push]
end
end MP
/-! MP49 -/
set_option Elab.async false
set_option autoImplicit false
set_option linter.all false
set_option maxRecDepth 100000
namespace MP
open PySem PySem.Spec L2 PySem.Froz
open PyProof.Rows hiding St
/-- sorted(set(l)), l a list of texts of which none stands twice -/
def ssetS : FL
  | [.ptr n], S => match listAt S n with
    | some ds => match strsOf ds with
      | some zs => if zs.Nodup ∧ zs.length < 4000 ∧ srtOk ds = true then newL (srt ds) S else .bad
      | none => .bad
    | none => .bad
  | _, _ => .bad
theorem strsOf_some : ∀ {ds : List D} {zs : List Str}, strsOf ds = some zs → ds = zs.map D.str
  | [], zs, h => by
    simp only [strsOf, Option.some.injEq] at h
    subst h
    rfl
  | d :: ds, zs, h => by
    cases d with
    | str z =>
      simp only [strsOf, Option.map_eq_some_iff] at h
      obtain ⟨r, h1, rfl⟩ := h
      rw [strsOf_some h1]; rfl
    | _ => simp [strsOf] at h
section
variable {X : Cx} {cl : Cl} {W : WX}
theorem rel_strs {K : PySem.W.Frag} {io : List Addr} {H : Hp} : ∀ {zs : List Str} {ws : List V}, RelDs K io H (zs.map D.str) ws → ws = zs.map V.str ∧ ∀ z ∈ zs, okS z
  | [], _, .nil => ⟨rfl, fun _ h => by cases h⟩
  | z :: zs, _, .cons h t => by
    obtain ⟨e, o⟩ := rel_strs (zs := zs) t
    cases h with
    | str _ ok => exact ⟨by rw [e]; rfl, fun y hy => by
        rcases List.mem_cons.mp hy with rfl | hy
        · exact ok
        · exact o y hy⟩
theorem strs_are : ∀ {zs : List Str} {us : List Value}, Vals (zs.map V.str) us → StrsAre us zs
  | [], _, .nil => .nil
  | z :: zs, _, .cons h t => by
    obtain ⟨tk, rfl⟩ := h
    exact .cons z tk (strs_are t)
theorem strs_rel2 {K : PySem.W.Frag} {io : List Addr} {H : Hp} : ∀ {zs : List Str}, (∀ z ∈ zs, okS z) → RelDs K io H (zs.map D.str) (zs.map V.str)
  | [], _ => .nil
  | z :: zs, h => .cons (.str z (h z (List.mem_cons_self ..))) (strs_rel2 fun y hy => h y (List.mem_cons_of_mem _ hy))
theorem perm_of_sub : ∀ {l zs : List Str}, l.Nodup → (∀ z ∈ l, z ∈ zs) → zs.length = l.length → zs.Perm l
  | [], zs, _, _, h => by
    have : zs = [] := List.length_eq_zero_iff.mp h
    rw [this]
  | x :: l, zs, nd, sub, h => by
    rw [List.nodup_cons] at nd
    have hx : x ∈ zs := sub x (List.mem_cons_self ..)
    have h2 : ∀ z ∈ l, z ∈ zs.erase x := fun z hz => (List.mem_erase_of_ne (by rintro rfl; exact nd.1 hz)).mpr (sub z (List.mem_cons_of_mem _ hz))
    have h3 := List.length_erase_of_mem hx
    simp only [List.length_cons] at h
    exact (List.perm_cons_erase hx).trans ((perm_of_sub nd.2 h2 (by omega)).cons x)
/-- what comes out of the set's table -/
theorem out_strs {P : Program} {w : World} {D : SD} {l : List Str} (F : TxOk P w D l) (nd : l.Nodup) {out : List Value} (p : out.Perm (D.1.toList.map (·.2))) : ∃ zs : List Str, zs.Perm l ∧ StrsAre out zs := by
  have one : ∀ vs : List Value, (∀ v ∈ vs, ∃ e ∈ D.1.toList, v = e.2) → ∃ zs : List Str, StrsAre vs zs ∧ ∀ z ∈ zs, z ∈ l := by
    intro vs
    induction vs with
    | nil => intro _; exact ⟨[], .nil, fun z h => by cases h⟩
    | cons v vs ih =>
      intro h
      obtain ⟨zs, r, hz⟩ := ih fun v hv => h v (List.mem_cons_of_mem _ hv)
      obtain ⟨e, he, rfl⟩ := h v (List.mem_cons_self ..)
      obtain ⟨⟨k, hk, _⟩, _⟩ := F.el e he
      have hm : k ∈ l := (F.mem k).mpr ⟨e, he, hk⟩
      obtain ⟨t, et⟩ : ∃ t, e.2 = Value.str k t := by
        have hk' : Value.isStrOf k e.2 = true := hk
        cases hv : e.2 with
        | str y t =>
          rw [hv] at hk'
          simp only [Value.isStrOf, beq_iff_eq] at hk'
          exact ⟨t, by rw [hk']⟩
        | _ => rw [hv] at hk'; simp [Value.isStrOf] at hk'
      rw [et]
      exact ⟨k :: zs, .cons k t r, fun z hz' => by
        rcases List.mem_cons.mp hz' with rfl | h
        · exact hm
        · exact hz z h⟩
  obtain ⟨zs, r, hz⟩ := one out fun v hv => by
    obtain ⟨e, he, q⟩ := List.mem_map.mp (p.mem_iff.mp hv)
    exact ⟨e, he, q.symm⟩
  have len : zs.length = l.length := by
    rw [← StrsAre.len_eq r, p.length_eq, List.length_map, Array.length_toList]
    exact F.sz
  have sub : ∀ z ∈ l, z ∈ zs := by
    intro z hm
    obtain ⟨e, he, hk⟩ := (F.mem z).mp hm
    have ho : e.2 ∈ out := p.mem_iff.mpr (List.mem_map.mpr ⟨e, he, rfl⟩)
    have hk' : Value.isStrOf z e.2 = true := hk
    have find : ∀ {vs : List Value} {ys : List Str}, StrsAre vs ys → e.2 ∈ vs → z ∈ ys := by
      intro vs ys q
      induction q with
      | nil => intro h; cases h
      | cons y t q ih =>
        intro h
        rcases List.mem_cons.mp h with h | h
        · rw [h] at hk'
          simp only [Value.isStrOf, beq_iff_eq] at hk'
          rw [hk']; exact List.mem_cons_self ..
        · exact List.mem_cons_of_mem _ (ih h)
    exact find r ho
  refine ⟨zs, ?_, r⟩
  exact perm_of_sub nd sub len
theorem strs_vals : ∀ {zs : List Str} {us : List Value}, StrsAre us zs → Vals (zs.map V.str) us
  | _, _, .nil => .nil
  | _, _, .cons z t h => .cons ⟨t, rfl⟩ (strs_vals h)
variable {e : Expr} {m : M D} {p p2 p3 pos pos2 : Pos}
end
end MP
/-! MP50 -/
set_option Elab.async false
set_option autoImplicit false
set_option linter.all false
set_option maxRecDepth 100000
namespace MP
open PySem PySem.Spec L2
open PyProof.Rows hiding St

/-! ## list comprehensions of two clauses -/
def lc2I (g1 : MG) (t1 : M Bool) (el : M D) (src1 : Src) (n : Nat) (ρ2 : Rho) : List D → Sto → Rs Unit
  | [], S => if src1.keep S = true ∧ src1.fin S = some S then .ok () S else .bad
  | d :: ds, S => if src1.keep S = true then (match g1 d ρ2 S with
      | .ok ρ3 S1 => (noX (t1 ρ3 S1)).bind fun c S2 => if c = true then (noX (el ρ3 S2)).bind fun y S3 => match pushL n y S3 with
          | some S4 => lc2I g1 t1 el src1 n ρ2 ds S4
          | none => .bad
        else lc2I g1 t1 el src1 n ρ2 ds S2
      | _ => .bad) else .bad
def lc2L (g : MG) (t : M Bool) (mi1 : MI) (g1 : MG) (t1 : M Bool) (el : M D) (src : Src) (n : Nat) (ρ0 : Rho) (vs1 : List Nat) : List D → Sto → Rs D
  | [], S => if src.keep S = true then (match src.fin S with
      | some S' => .ok (.ptr n) S'
      | none => .bad) else .bad
  | d :: ds, S => if src.keep S = true then (match g d ρ0 S with
      | .ok ρ1 S1 => (noX (t ρ1 S1)).bind fun c S2 => if c = true then (noX (mi1 ρ1 S2)).bind fun src1 S3 => (lc2I g1 t1 el src1 n (wipeR ρ1 vs1) src1.items S3).bind fun _ S4 => lc2L g t mi1 g1 t1 el src n ρ0 vs1 ds S4
        else lc2L g t mi1 g1 t1 el src n ρ0 vs1 ds S2
      | _ => .bad) else .bad
def mLc2 (mi : MI) (g : MG) (t : M Bool) (mi1 : MI) (g1 : MG) (t1 : M Bool) (el : M D) (vs vs1 : List Nat) : M D := fun ρ S => (mi ρ S).bind fun src S1 => lc2L g t mi1 g1 t1 el src S1.length (wipeR ρ vs) vs1 src.items (S1 ++ [.lst []])
section
variable {X : Cx} {cl : Cl} {W : WX}
/-- what an inner clause walks: it frees nothing -/
structure Src0 (K : PySem.W.Frag) (cl : Cl) (J : It) (src : Src) (io1 : List Addr) (H1 : Hp) : Prop where
  item : ∀ io S H i d, Abs K cl io S H → Grow K io1 H1 io H → src.keep S = true → src.items[i]? = some d → J.go i H ∧ ∀ x H', J.yld i H x H' → Abs K cl io S H' ∧ Grow K io H io H' ∧ RelD K io H' d x
  stop : ∀ io S H i, Abs K cl io S H → Grow K io1 H1 io H → src.keep S = true → src.items.length = i → J.stop i H
def tI0 (K : PySem.W.Frag) (cl : Cl) (m : MI) : TI := fun σ H R => ∃ io ρ S, Abs K cl io S H ∧ RelRho K io H ρ σ ∧ Good WF K cl io H σ (m ρ S) ∧
  ∀ src S1 io1 H1 J, m ρ S = .ok src S1 → Abs K cl io1 S1 H1 → Grow K io H io1 H1 → Src0 K cl J src io1 H1 → R J H1
section
variable {elt tg iter tg1 iter1 : Expr} {ifs ifs1 : List Expr} {scope : Scope} {own : List (Str × Nat)} {pos spos py : Pos} {mi mi1 : MI} {g g1 : MG} {t t1 : M Bool} {el : M D} {l l1 vs1 : List Nat} {i : Nat} {y : Str}
end
end
end MP
/-! MP51 -/
set_option Elab.async false
set_option autoImplicit false
set_option linter.all false
set_option maxRecDepth 100000
namespace MP
open PySem PySem.Spec L2
open PyProof.Rows hiding St

/-! ## a dict with tuple keys walked -/
/-- the keys of the locked dict at d -/
def Itq (hs : NestedKey → Int) (d : Addr) (o : Obj) (xs : List (NestedKey × Addr × Value)) : It where
  go := fun i H => H d = some (.frz o (dkO hs d xs)) ∧ i < xs.length
  yld := fun i H x H' => H' = H ∧ ∀ ys, H d = some (.frz o (dkO hs d ys)) → ∃ y, ys[i]? = some y ∧ x = .ref y.2.1
  stop := fun i H => H d = some (.frz o (dkO hs d xs)) ∧ xs.length ≤ i
section
variable {X : Cx} {cl : Cl} {W : WX}
/-! locked, freed -/
def unlkK (n : Nat) (kvs : List (D × D)) (S : Sto) : Option Sto := if S[n]? = some (.rkt kvs) then some (S.set n (.dkt kvs)) else none
def srcK (n : Nat) (kvs : List (D × D)) : Src := ⟨kvs.map (·.1), fun S => decide (S[n]? = some (.rkt kvs)), unlkK n kvs⟩
def srcKR (n : Nat) (kvs : List (D × D)) : Src := ⟨kvs.map (·.1), fun S => decide (S[n]? = some (.rkt kvs)), some⟩
def iterKS : D → Sto → Rs Src
  | .ptr n, S => match S[n]? with
    | some (.dkt kvs) => .ok (srcK n kvs) (S.set n (.rkt kvs))
    | some (.rkt kvs) => .ok (srcKR n kvs) S
    | _ => .bad
  | _, _ => .bad
variable {io0 io1 : List Addr} {H0 H1 : Hp}
variable {tg e : Expr} {m : M D}
end
end MP
/-! MP52 -/
set_option Elab.async false
set_option autoImplicit false
set_option linter.all false
set_option maxRecDepth 100000
namespace MP
open PySem PySem.Spec L2
open PyProof.Rows hiding St

/-! ## dicts with tuple keys: in, [], dict(pairs), update -/
def kAt (S : Sto) (n : Nat) : Option (List (D × D)) := match S[n]? with
  | some (.dkt kvs) => some kvs
  | some (.rkt kvs) => some kvs
  | some (.dct []) => some []
  | _ => none
def inK : F2 := fun x y S => match y with
  | .ptr n => match kAt S n, nkT x with
    | some kvs, some _ => .ok (.bl (dget kvs x).isSome) S
    | _, _ => .bad
  | _ => .bad
def ninK : F2 := fun x y S => match y with
  | .ptr n => match kAt S n, nkT x with
    | some kvs, some _ => .ok (.bl (!(dget kvs x).isSome)) S
    | _, _ => .bad
  | _ => .bad
def keyedAt (x y : D) (S : Sto) : Option D := match x with
  | .ptr n => match kAt S n, nkT y with
    | some kvs, some _ => dget kvs y
    | _, _ => none
  | _ => none
def ixK : F2 := fun x y S => match keyedAt x y S with
  | some v => .ok v S
  | none => ixS x y S
def kpairs : List D → Option (List (D × D))
  | [] => some []
  | .tup [k, v] :: r => match nkT k with
    | some _ => (kpairs r).map ((k, v) :: ·)
    | none => none
  | _ :: _ => none
def dictK : FL
  | [.ptr n], S => match listAt S n with
    | some ds => match kpairs ds with
      | some kvs => if (kvs.map (·.1)).Nodup ∧ kvs.length ≤ sizeLine then .ok (.ptr S.length) (S ++ [.dkt kvs]) else .bad
      | none => .bad
    | none => .bad
  | _, _ => .bad
def updateK : FM
  | .ptr n, [.ptr m], S => match S[n]?, S[m]? with
    | some (.dkt kvs), some (.dkt more) => if n ≠ m ∧ kvs ≠ [] ∧ kvs.length + more.length ≤ sizeLine ∧ ((kvs ++ more).map (·.1)).Nodup then .ok .non (S.set n (.dkt (kvs ++ more))) else .bad
    | _, _ => .bad
  | _, _, _ => .bad
section
variable {X : Cx} {cl : Cl} {W : WX} {pins : List (Addr × Obj)} {σ : L2.St} {H : Hp} {s : Shared} {io : List Addr} {S : Sto}
/-! dict(pairs) -/
end
end MP
/-! MP53 -/
set_option Elab.async false
set_option autoImplicit false
set_option linter.all false
set_option maxRecDepth 100000
namespace MP
open PySem PySem.Spec L2
open PyProof.Rows hiding St

/-! ## for x in o, where o's class has an __iter__ that returns iter(self.f), f a dict with tuple keys -/
def kiO (it d : Addr) (n ep : Nat) : HO := .ext fun h => h.IsKeyIter it d 0 n ep
section
variable {X : Cx} {cl : Cl} {W : WX} {pins : List (Addr × Obj)} {σ : L2.St} {H : Hp} {s : Shared}
def iterOwn (c f : Str) : D → Sto → Rs Src
  | .ptr k, S => match insAt c S k with
    | some fs => match fs.lookup f with
      | some (.ptr n) => iterKS (.ptr n) S
      | _ => .bad
    | none => .bad
  | _, _ => .bad
end
end MP
/-! MP54 -/
set_option Elab.async false
set_option autoImplicit false
set_option linter.all false
set_option maxRecDepth 100000
namespace MP
open PySem PySem.Spec L2
open PyProof.Rows hiding St

/-! ## x in o, where o's class has a __contains__ -/
def inOwn (c : Str) (g : FL) : F2 := fun x y S => match y with
  | .ptr k => match insAt c S k with
    | some _ => match g [.ptr k, x] S with
      | .ok (.bl b) S' => .ok (.bl b) S'
      | _ => .bad
    | none => .bad
  | _ => .bad
def ninOwn (c : Str) (g : FL) : F2 := fun x y S => match y with
  | .ptr k => match insAt c S k with
    | some _ => match g [.ptr k, x] S with
      | .ok (.bl b) S' => .ok (.bl (!b)) S'
      | _ => .bad
    | none => .bad
  | _ => .bad
section
variable {X : Cx} {cl : Cl} {W : WX} {c : Str} {C fi : Addr} {fd : FuncData} {ps : List Str} {k : Nat} {g : FL}
end
end MP
/-! MP55 -/
set_option Elab.async false
set_option autoImplicit false
set_option linter.all false
set_option maxRecDepth 100000
namespace MP
open PySem PySem.Spec L2
open PyProof.Rows hiding St

/-! ## {k: v}, where k is a tuple -/
def fillK (n : Nat) (kvs : Kv) (S : Sto) : Rs D := match kvs with
  | [(k, v)] => if S[n]? = some (.dct []) ∧ (nkT k).isSome = true then .ok (.ptr n) (S.set n (.dkt [(k, v)])) else .bad
  | _ => .bad
def mDictK (m : M Kv) : M D := fun ρ S => (m ρ (S ++ [.dct []])).bind fun kvs S1 => fillK S.length kvs S1
section
variable {X : Cx} {cl : Cl} {W : WX} {pos : Pos}
end
end MP
/-! MP56 -/
set_option Elab.async false
set_option autoImplicit false
set_option linter.all false
set_option maxRecDepth 100000
namespace MP
open PySem PySem.Spec L2
open PyProof.Rows hiding St

/-! ## what the new words yield -/
section
variable {ρ : Rho} {S : Sto} {N B C : Rho → Sto → Prop} {R : D → Sto → Prop}
end
/-! tuples of texts as keys -/
end MP
/-! MP57 -/
set_option Elab.async false
set_option autoImplicit false
set_option linter.all false
set_option maxRecDepth 100000
namespace MP
open PySem PySem.Spec L2
open PyProof.Rows hiding St

/-! ## sorted of tuples of which the first one is () -/
section
open PySem.W PyProof.Rows PySem.Calls PySem.SeqAt PySem.MeetsSeq PySem.MeetsSeq2 PySem.MeetsSeq3 PySem.SeqRoads2
variable {prog : Program} {w : World} {A : Around} {s : Shared}
end
def isTup : D → Bool
  | .tup _ => true
  | _ => false
def hdNil : List D → Bool
  | .tup [] :: r => r.all isTup
  | _ => false
/-- what sorted takes here: tuples with items, or tuples of which the first one is () -/
def srtOkT (ds : List D) : Bool := D.pls ds && decide (D.dps ds ≤ 19) && decide (ds.length ≤ 100000) && (ds.all fun a => ds.all fun b => PySem.W.alike a.vw b.vw) && (ds.all isTup1 || hdNil ds)
/-- the list of the keys of a dict whose keys are tuples -/
def sortedK : FL
  | [.ptr n], S => match S[n]? with
    | some (.dkt kvs) => if srtOkT (kvs.map (·.1)) = true then newL (srt (kvs.map (·.1))) S else .bad
    | _ => .bad
  | _, _ => .bad
section
variable {X : Cx} {cl : Cl} {W : WX}
end
end MP
/-! MP58 -/
set_option Elab.async false
set_option autoImplicit false
set_option linter.all false
set_option maxRecDepth 100000
namespace MP
open PySem PySem.Spec L2
open PyProof.Rows hiding St

/-! ## == of two dicts whose keys lie in the heap -/
section
open PySem.SeqAt (EqIn EqAt)
variable {prog : Program} {w : World} {K : Type} [DecidableEq K] {knd : HeapKind prog w K} {A : Around} {E : Value → Shared → Prop} {s : Shared}
inductive HitsH (prog : Program) (w : World) {K : Type} [DecidableEq K] (A : Around) (s : Shared) (xb : List (K × Addr × Value)) : List (K × Addr × Value) → Bool → Prop
  | nil : HitsH prog w A s xb [] true
  | miss {k : K} {a : Addr} {v : Value} {r : List (K × Addr × Value)} : atKey xb k = none → HitsH prog w A s xb ((k, a, v) :: r) false
  | hit {k : K} {a b' : Addr} {v y : Value} {r : List (K × Addr × Value)} {e b : Bool} : atKey xb k = some (b', y) → EqIn prog w A s v y e → HitsH prog w A s xb r b → HitsH prog w A s xb ((k, a, v) :: r) (e && b)
theorem HitsH.inv {xb : List (K × Addr × Value)} {k : K} {a : Addr} {v : Value} {r : List (K × Addr × Value)} {b : Bool} (h : HitsH prog w A s xb ((k, a, v) :: r) b) :
    (atKey xb k = none ∧ b = false) ∨ ∃ b1 y e b', atKey xb k = some (b1, y) ∧ EqIn prog w A s v y e ∧ HitsH prog w A s xb r b' ∧ b = (e && b') := by
  cases h with
  | miss hn => exact .inl ⟨hn, rfl⟩
  | hit hy he hr => exact .inr ⟨_, _, _, _, hy, he, hr, rfl⟩
end
end MP
/-! MP59 -/
set_option Elab.async false
set_option autoImplicit false
set_option linter.all false
set_option maxRecDepth 100000
namespace MP
open PySem PySem.Spec L2
open PyProof.Rows hiding St

/-! ## dicts with tuple keys: sorted, setdefault, clear, repr, == -/
def setdefaultK : FM
  | .ptr n, [k, d], S => match S[n]?, nkT k with
    | some (.dkt kvs), some _ => match dget kvs k with
      | some x => .ok x S
      | none => if kvs.length < sizeLine then .ok d (S.set n (.dkt (dput kvs k d))) else .bad
    | some (.dct []), some _ => .ok d (S.set n (.dkt [(k, d)]))
    | _, _ => .bad
  | _, _, _ => .bad
def clearK : FM
  | .ptr n, [], S => match S[n]? with
    | some (.dkt _) => .ok .non (S.set n (.dkt []))
    | _ => .bad
  | _, _, _ => .bad
def vwK (kvs : List (D × D)) : PyData := .dict (kvs.map fun p => (p.1.vw, p.2.vw))
def plK (kvs : List (D × D)) : Bool := kvs.all fun p => p.1.pl && decide (p.1.dp ≤ 50) && (p.2.pl && decide (p.2.dp ≤ 50))
def reprK : FL := fun xs S => match xs with
  | [.ptr n] => match S[n]? with
    | some (.dkt kvs) => if plK kvs = true ∧ (vwK kvs).showable = true ∧ okS (vwK kvs).shown ∧ (vwK kvs).depth ≤ 60 then .ok (.str (vwK kvs).shown) S else .bad
    | _ => reprS xs S
  | _ => reprS xs S
def kvsEq (a b : List (D × D)) : Bool := a.length == b.length && a.all fun p => match dget b p.1 with
  | some v => decide (p.2 = v)
  | none => false
def neK (f : F2) : F2 := fun x y S => match x, y with
  | .ptr n, .ptr m => match S[n]?, S[m]? with
    | some (.dkt a), some (.dkt b) => if plK a = true ∧ plK b = true then .ok (.bl (!kvsEq a b)) S else .bad
    | _, _ => f x y S
  | _, _ => f x y S
def eqK (f : F2) : F2 := fun x y S => match x, y with
  | .ptr n, .ptr m => match S[n]?, S[m]? with
    | some (.dkt a), some (.dkt b) => if plK a = true ∧ plK b = true then .ok (.bl (kvsEq a b)) S else .bad
    | _, _ => f x y S
  | _, _ => f x y S
section
variable {X : Cx} {cl : Cl} {W : WX} {pins : List (Addr × Obj)} {σ : L2.St} {H : Hp} {s : Shared} {io : List Addr} {S : Sto}
end
end MP
/-! MP60 -/
set_option Elab.async false
set_option autoImplicit false
set_option linter.all false
set_option maxRecDepth 100000
namespace MP
open PySem PySem.Spec L2
open PyProof.Rows hiding St

section
variable {X : Cx} {cl : Cl} {W : WX} {pins : List (Addr × Obj)} {σ : L2.St} {H : Hp} {s : Shared} {io : List Addr} {S : Sto}
end
end MP
/-! MP61 -/
set_option Elab.async false
set_option autoImplicit false
set_option linter.all false
set_option maxRecDepth 100000
namespace MP
open PySem PySem.Spec L2
open PyProof.Rows hiding St

/-! ## a list times a number -/
def mulL : F2 := fun x y S => match x, y with
  | .ptr n, .int k => match S[n]? with
    | some (.lst ds) => if -(2 ^ 62) ≤ k ∧ k < 2 ^ 62 ∧ ds.length * k.toNat ≤ sizeLine then .ok (.ptr S.length) (S ++ [.lst (List.replicate k.toNat ds).flatten]) else .bad
    | _ => .bad
  | _, _ => mulS x y S
section
variable {X : Cx} {cl : Cl} {W : WX}
end
end MP
/-! MP62 -/
set_option Elab.async false
set_option autoImplicit false
set_option linter.all false
set_option maxRecDepth 100000
namespace MP
open PySem PySem.Spec L2
open PyProof.Rows hiding St

/-! ## tuple(d), d a dict with tuple keys -/
section
variable {prog : Program} {w : World} {A : Around} {E : Value → Shared → Prop} {s : Shared} {d : Addr} {es : Array DictEntry} {ep : Nat}
end
def tupleK : FL := fun xs S => match xs with
  | [.ptr n] => match S[n]? with
    | some (.dkt kvs) => .ok (.tup (kvs.map (·.1))) S
    | some (.dct []) => .ok (.tup []) S
    | _ => tupleS xs S
  | _ => tupleS xs S
section
variable {X : Cx} {cl : Cl} {W : WX}
end
end MP
/-! MP63 -/
set_option Elab.async false
set_option autoImplicit false
set_option linter.all false
set_option maxRecDepth 100000
namespace MP
open PySem PySem.Spec L2
open PyProof.Rows hiding St

/-! ## min of a list of numbers; list(d), d a dict with tuple keys -/
def intsOf : List D → Option (List Int)
  | [] => some []
  | .int b :: r => (intsOf r).map (b :: ·)
  | _ :: _ => none
def minL : FL := fun xs S => match xs with
  | [.ptr n] => match listAt S n with
    | some ds => match intsOf ds with
      | some (i :: r) => .ok (.int (r.foldl min i)) S
      | _ => .bad
    | none => .bad
  | _ => min2S xs S
def listD : FL := fun xs S => match xs with
  | [.ptr n] => match S[n]? with
    | some (.dkt kvs) => newL (kvs.map (·.1)) S
    | some (.dct []) => newL [] S
    | _ => .bad
  | _ => .bad
section
variable {X : Cx} {cl : Cl} {W : WX}
end
/-! ## nested texts: what their order and their text tell -/
mutual
/-- texts, and tuples of such -/
def D.tx : D → Bool
  | .str _ => true
  | .tup l => D.txs l
  | _ => false
def D.txs : List D → Bool
  | [] => true
  | d :: l => d.tx && D.txs l
end
end MP
/-! MP64 -/
set_option Elab.async false
set_option autoImplicit false
set_option linter.all false
set_option maxRecDepth 100000
namespace MP
open PySem PySem.Spec L2
open PyProof.Rows hiding St
open PySem.PyData

/-! ## repr of nested small words tells them apart -/
def lwS (z : Str) : Prop := ∀ c ∈ z.cps.toList, 97 ≤ c ∧ c ≤ 122
mutual
/-- words of small letters, and tuples of such -/
def D.lw : D → Prop
  | .str z => lwS z
  | .tup l => D.lws l
  | _ => False
def D.lws : List D → Prop
  | [] => True
  | d :: l => d.lw ∧ D.lws l
end
def moreC : List (List Nat) → List Nat
  | [] => [41]
  | t :: ts => 44 :: 32 :: (t ++ moreC ts)
def restC : List (List Nat) → List Nat
  | [] => [44, 41]
  | t :: ts => moreC (t :: ts)
def tupC : List (List Nat) → List Nat
  | [] => [40, 41]
  | t :: ts => 40 :: (t ++ restC ts)
def shC (ds : List D) : List (List Nat) := (PyData.shownAll (D.vws ds)).map fun t => t.cps.toList
end MP
/-! MP65 -/
set_option Elab.async false
set_option autoImplicit false
set_option linter.all false
set_option maxRecDepth 100000
namespace MP
open PySem PySem.Spec L2
open PyProof.Rows hiding St

/-! ## dict(t), t a tuple of pairs of texts -/
section
variable {X : Cx} {cl : Cl} {W : WX} {pins : List (Addr × Obj)} {s : Shared} {σ : L2.St} {H : Hp} {io : List Addr} {S : Sto}
def dictT : FL
  | [.tup ds], S => if ds.all D.isP2 = true then match pairsOf ds with
    | some kvs => newD (dmerge [] kvs) S
    | none => .bad
    else .bad
  | xs, S => dictS xs S
end
end MP
/-! MP66 -/
set_option Elab.async false
set_option autoImplicit false
set_option linter.all false
set_option maxRecDepth 100000
namespace MP
open PySem PySem.Spec L2
open PyProof.Rows hiding St

/-! ## calls with defaults: keyword-only parameters that are not written -/
/-- how a def binds, the values of the defaults told -/
def KwD (K : PySem.W.Frag) (fd : FuncData) (ps : List Str) (np : Nat) (ks : List Str) (dV : List V) (perm : List Nat) : Prop := ∃ dvs, Vals dV dvs ∧ KwG K fd ps np ks dvs perm
def BnD (K : PySem.W.Frag) (fd : FuncData) (ps : List Str) (dV : List V) : Prop := ∃ us0, Vals dV us0 ∧ Binds K fd ps us0
/-- a def's keyword-only defaults, by name -/
def KwIn (K : PySem.W.Frag) (D : Addr) (ms : List (Str × Value)) : Prop := ∀ q ∈ ms, PySem.W.nsIn K D q.1 = some (some q.2)
section
variable {X : Cx} {cl : Cl} {W : WX} {CX : CXT} {k n nk : Nat} {f fa C : Addr} {fd : FuncData} {ps ks : List Str} {g : FL} {gk : List D → List D → Sto → Rs D} {perm : List Nat} {kws : List Keyword} {mo : M D} {ma m : M (List D)} {p pos apos : Pos} {dfl : List D} {dvs : List V} {np : Nat} {x c mt : Str} {e o : Expr} {es : List Expr}
end
end MP
/-! MP67 -/
set_option Elab.async false
set_option autoImplicit false
set_option linter.all false
set_option maxRecDepth 100000
namespace MP
open PySem PySem.Spec L2 LamX
open PyProof.Rows hiding St

/-! ## lambdas: tables of code objects -/
section
variable {X : Cx} {cl : Cl} {W : WX}
end
/-! ## sorted(x, key = lambda y: (len(y), y)) -/
end MP
/-! MP68 -/
set_option Elab.async false
set_option autoImplicit false
set_option linter.all false
set_option maxRecDepth 100000
namespace MP
open PySem PySem.Spec L2 LamX
open PyProof.Rows hiding St

/-! ## sorted(x, key = lambda y: (len(y), y)), x a list of tuples of texts -/
def txT : D → Option (List Str)
  | .tup ds => strsOf ds
  | _ => none
def txTs : List D → Option (List (List Str))
  | [] => some []
  | d :: ds => match txT d, txTs ds with
    | some z, some zs => some (z :: zs)
    | _, _ => none
def keyZ (z : List Str) : PyData := .tuple [.int z.length, .tuple (z.map .str)]
def srtZ (zs : List (List Str)) : List (List Str) := zs.mergeSort (PySem.W.dataLe false keyZ)
def lenZ (zs : List (List Str)) : Bool := decide (zs.length ≤ 100000) && zs.all fun z => decide (z.length ≤ 100000)
def sortZS : F1
  | .ptr n, S => match listAt S n with
    | some ds => match txTs ds with
      | some zs => if lenZ zs = true then newL ((srtZ zs).map fun z => .tup (z.map D.str)) S else .bad
      | none => .bad
    | none => .bad
  | _, _ => .bad
def mSortZ (m : M D) : M D := fun ρ S => (m ρ S).bind sortZS
section
variable {X : Cx} {cl : Cl} {W : WX}
end
end MP
/-! MP69 -/
set_option Elab.async false
set_option autoImplicit false
set_option linter.all false
set_option maxRecDepth 100000
namespace MP
open PySem PySem.Spec L2 LamX
open PyProof.Rows hiding St

/-! ## the end of a law whose defs make lambdas; exceptions -/
section
variable {P : Program} {w : World} {K : PySem.W.Frag} {mg mb : Str → Option Value} {cl : Cl} {CX : CXT} {k : Nat} {fa a : Addr} {fd : FuncData} {x : Str} {g : FL} {st : Shared} {vs : List Value} {ns : List Int} {cs : List (Addr × Addr)}
end
/-- a def of the text, its code at c -/
structure FunC (K : PySem.W.Frag) (x qual : Str) (st : Stmt) (f : Addr) (fd : FuncData) (c : Addr) : Prop where
  ex : ∃ (oc : Value) (od : Option Addr) (kV doc pm : Value) (an : Option Addr) (ct : Value) (osl : Array (Option Value)), fd = PySem.W.fnOf x qual (defArgs st) (defBody st) (defScope st) .none kV doc pm an (.ref c) ct ∧ K.lookup f = some ⟨oc, od, .func fd, osl⟩ ∧ PySem.W.codeIn K (.ref c) qual = true
end MP
/-! MP70 -/
set_option Elab.async false
set_option autoImplicit false
set_option linter.all false
set_option maxRecDepth 100000
namespace MP
open PySem PySem.Spec L2
open PyProof.Rows hiding St
section
variable {P : Program} {w : World} {K : PySem.W.Frag} {mg : Str → Option Value} {base : Heap} {cl : Cl} {CX : CXT}
end

end MP
/-! MP71 -/
set_option Elab.async false
set_option autoImplicit false
set_option linter.all false
set_option maxRecDepth 100000
namespace MP
open PySem PySem.Spec L2
open PyProof.Rows hiding St
/-- sorted(x), x a list whose first item may be the empty tuple -/
def sortedT : FL := fun xs S => match xs with
  | [.ptr n] => match listAt S n with
    | some ds => if srtOkT ds = true then newL (srt ds) S else .bad
    | none => .bad
  | _ => .bad
section
variable {X : Cx} {cl : Cl} {W : WX}
end
end MP
/-! MP72 -/
set_option Elab.async false
set_option autoImplicit false
set_option linter.all false
set_option maxRecDepth 100000
set_option maxHeartbeats 1000000
namespace MP
open PySem PySem.Spec L2
open PyProof.Rows hiding St

/-! ## try .. except x as n -/
/-- the name of the clause is gone -/
def offS (i : Nat) : Rs Fl → Rs Fl
  | .ok (.nx ρ) S => .ok (.nx (ρ.set i none)) S
  | .ok (.brk ρ) S => .ok (.brk (ρ.set i none)) S
  | .ok (.cnt ρ) S => .ok (.cnt (ρ.set i none)) S
  | .ok (.ret d) S => .ok (.ret d) S
  | _ => .bad
def tryK (sub : Str → Bool) (i : Nat) (ms : MS) : Rs Fl → Rs Fl
  | .ok (.exn x ρ) S => if sub x.cls = true then offS i (ms (ρ.set i (some (.ptr S.length))) (S ++ [.exc x.cls x.fs])) else .ok (.exn x ρ) S
  | r => r
def mTry (sub : Str → Bool) (i : Nat) (mb ms : MS) : MS := fun ρ S => tryK sub i ms (mb ρ S)
section
variable {X : Cx} {pins : List (Addr × Obj)} {σ : L2.St} {H : Hp} {s sI : Shared}
/-- the caught exception is known from now on -/
theorem land_exc {B : Heap} {a C : Addr} {d : Option Addr} {l : List Env} {h4 : Heap} (J : L2.Inv X pins σ H sI) (nb : ∀ b o, sI.heap.get? b = some o → b ∉ frs X.stack → B.get? b = some o) (fl : HandSPX.FlyingZ B l a (Zc (.ref C) d) h4)
    (up : sI.heap.UpToSlots h4) (na : H a = none) (nfr : a ∉ frs X.stack) (os : s.os = sI.os) (ag : AllBare s.gens) : L2.Inv X pins σ (upd H a (exV a C d)) { s with heap := h4 } := by
  have nI : sI.heap.get? a = none := by
    cases e : sI.heap.get? a with
    | none => rfl
    | some o =>
      have z := nb a o e nfr
      rw [fl.2.1] at z
      cases z
  obtain ⟨G, g1, g2⟩ := restrict h4 fun b => decide (b ≠ a)
  have gk : ∀ b, b ≠ a → G.get? b = h4.get? b := fun b hb => g1 b (decide_eq_true hb)
  have ga : G.get? a = none := g2 a (by simp)
  have neI : ∀ b o, sI.heap.get? b = some o → b ≠ a := fun b o e z => by rw [z, nI] at e; cases e
  have JG : L2.Inv X pins σ H { s with heap := G } := by
    refine J.landed nb (s' := { s with heap := G }) (fun b o e => ?_) (fun b o e hn => ?_) os ag
    · have hb : b ≠ a := fun z => by rw [z, fl.2.1] at e; cases e
      show G.get? b = some o
      rw [gk b hb]
      exact fl.1 b o e
    · obtain ⟨sl, e2⟩ := up b o e hn
      exact ⟨sl, (gk b (neI b o e)).trans e2⟩
  obtain ⟨oe, vs, T, oT, ts, he, hz, hd, h1, _⟩ := fl.2.2.2
  refine JG.laidN (h' := h4) (t' := s.toks) (fun b o e => ?_) ga na ⟨⟨oe, vs, he, hz, hd, T, h1⟩, ⟨oe, he⟩, fun p q ⟨o, v, q1, q2, q3⟩ k => ⟨o, v, k o q1, q2, q3⟩⟩
  have hb : b ≠ a := fun z => by
    have e' : G.get? b = some o := e
    rw [z, ga] at e'
    cases e'
  exact (gk b hb).symm.trans e
theorem toSuite (I : L2.Inv X pins σ H s) (a : Addr) : L2.Inv (X.suite a (X.pn ++ pins)) [] σ H s :=
  ⟨I.ok.suite _ _, I.os, I.bare, I.base, I.loc, I.cell, I.free, I.freeC, fun p hp => I.pin p (by rw [List.append_nil] at hp; exact hp), I.hok, I.len⟩
theorem ofSuite {a : Addr} {pn' : List (Addr × Obj)} (I : L2.Inv (X.suite a (X.pn ++ pins)) pn' σ H s) (ok : X.Ok) : L2.Inv X pins σ H s :=
  ⟨ok, I.os, I.bare, I.base, I.loc, I.cell, I.free, I.freeC, fun p hp => I.pin p (List.mem_append_left _ hp), I.hok, I.len⟩
end
section
variable {X : Cx} {cl : Cl} {W : WX} {x n : Str} {c : Value} {i : Nat} {sub : Str → Bool} {body suite : List Stmt} {b₀ : Stmt} {np pos pos' : Pos} {mb ms : MS}
theorem s_try (hst : X.stack = X.env :: X.outer) (hfm : X.env.frame = some X.env.locals) (hN : X.N.Nodup) (hi : X.N[i]? = some n) (hln : X.env.kindOf n = some .local) (hc : Names X x c) (tk : Takes X W)
    (hsub : ∀ e E, cl.er e = some E → PySem.W.exmOne X.K (.ref E) c = some (sub e))
    (hb : ∀ (W1 : WX) (pn : List (Addr × Obj)) (xe : Value → Shared → Prop), Takes (X.tr pn xe) W1 → PassesOwn (model X.prog X.w) X.A X.env xe → SsE (X.tr pn xe) cl W1 body mb)
    (hsu : ∀ (a : Addr) (pn : List (Addr × Obj)), SsE (X.suite a pn) cl (fun _ _ _ _ => False) (b₀ :: suite) ms) :
    StE X cl W (.Try body [.ExceptHandler (some (.Name x np)) (some n) (b₀ :: suite) pos'] [] [] pos) (mTry sub i mb ms) := by
  refine ⟨fun pins s σ H D I hD => ?_⟩
  obtain ⟨io, ρ, S, A, R, G, k⟩ := hD
  have ok := I.ok
  have hfr : X.A.frames = some (X.env :: X.outer) := ok.frames.trans (by rw [hst])
  have hloc : Loc X.env.scope n := Or.inl hln
  have em : ∀ r, mb ρ S = r → mTry sub i mb ms ρ S = tryK sub i ms r := fun r e => by unfold mTry; rw [e]
  let W1 : WX := fun cls d σ' H' => ∃ y ρ1 S1 io1, mb ρ S = .ok (.exn y ρ1) S1 ∧ Abs X.K cl io1 S1 H' ∧ Grow X.K io H io1 H' ∧ RelRho X.K io1 H' ρ1 σ' ∧ RelX X.K cl io1 H' y cls d
  have G1 : GoodS W1 X.K cl io H (mb ρ S) := by
    cases e : mb ρ S with
    | ok fl S1 =>
      cases fl with
      | exn y ρ1 => exact fun io' H' c d σ' A' g' r rx => ⟨y, ρ1, S1, io', e, A', g', r, rx⟩
      | nx _ => trivial
      | brk _ => trivial
      | cnt _ => trivial
      | ret _ => trivial
    | exn y S1 => rw [em _ e] at G; exact G
    | bad => rw [em _ e] at G; exact G
  refine wpAny_Try_except (wpAny_mono ((hb W1 (X.pn ++ pins) (fun u s₁ => wpAny (model X.prog X.w) X.A (noteFrame u X.env) (fun _ s₂ => wpAny (model X.prog X.w) X.A (setFlight u none) (fun _ s₃ =>
    wpAny (model X.prog X.w) X.A (handleBy u X.env [.ExceptHandler (some (.Name x np)) (some n) (b₀ :: suite) pos']) (SP X pins D) X.xe s₃) X.xe s₂) X.xe s₁) (fun u s' xx => ?_) PassesOwn.looking).run [] s σ H D (I.toTry _) ⟨io, ρ, S, A, R, G1, fun fl S' io' H' σ' e A' g' => ?_⟩) (fun f s1 hsp => ?_) fun e s1 he => he)
  · -- an exception of the body
    obtain ⟨a, B, sI, pins', σ', H', cls, d, rfl, J', nb, up, sky, na, os, ag, y, ρ1, S1, io1, emb, A1, g1, R1, rx⟩ := xx
    have J : L2.Inv X pins σ' H' sI := J'.ofTry ok
    have sky' : Sky B (X.env :: X.outer) a (Zc cls d) X.env.locals s'.heap := by rw [← hst]; exact sky
    obtain ⟨E, hE, hcls, hfs⟩ := id rx
    subst hcls
    have hm := hsub _ _ hE
    show wpAny (model X.prog X.w) X.A (noteFrame (.ref a) X.env) _ _ _
    refine Sky.land Zc.steady hfr hfm sky' fun h3 fl3 up3 => ?_
    have J3 : L2.Inv X pins σ' H' { s' with heap := h3 } := J.landed nb fl3.1 (up.trans up3) os ag
    have notFr : ∀ {h : Heap}, HandSPX.FlyingZ B (X.env :: X.outer) a (Zc (.ref E) d) h → a ∉ frs (X.env :: X.outer) := fun {h} ff hmm => by
      obtain ⟨oe, vs, _, _, _, he, _, hd, _⟩ := ff.2.2.2
      obtain ⟨_, o', e', hnf⟩ := ff.2.2.1.mem hmm
      rw [he] at e'; cases e'
      exact hnf _ hd
    have nfr := notFr fl3
    have nfr' : a ∉ frs X.stack := by rw [hst]; exact nfr
    refine wpAny_handleBy_cons (codeAny_handlers_test ?_) (by intro q; cases q)
    have LT : PySem.W.Looks (model X.prog X.w) h3 (typeOf (.ref a)) (.ref E) := fun A Q E' s k q => by
      obtain ⟨oe, vs, _, _, _, he, hz, hd, _⟩ := fl3.2.2.2
      exact wpAny_typeOf_ref (k _ _ he) (by rw [hz.1]; exact q)
    have LM := PySem.W.exm_one (M := model X.prog X.w) (J3.kIn) LT hm
    have L3 : L2.Inv X pins σ' (upd H' a (exV a E d)) { s' with heap := h3 } := land_exc (s := s') J nb fl3 (up.trans up3) na nfr' os ag
    have test : ∀ {Q : Value → Shared → Prop} {E' : Value → Shared → Prop}, Q c { s' with heap := h3 } → wpAny (model X.prog X.w) (X.A.mark (some (.ref a))) (eval (.Name x np) X.env) Q E' { s' with heap := h3 } := fun {Q E'} q => by
      obtain ⟨hg, hdbg, hm | ⟨hm, hv, hnn⟩⟩ := hc
      · exact ld_glob (X := X.suite a (X.pn ++ pins)) (toSuite L3 a) hg hm q hdbg
      · exact ld_blt (X := X.suite a (X.pn ++ pins)) (toSuite L3 a) hg hm hv q hnn hdbg
    refine test (LM.here ?_)
    have er : mTry sub i mb ms ρ S = tryK sub i ms (.ok (.exn y ρ1) S1) := em _ emb
    cases eb : sub y.cls with
    | true =>
      have er2 : mTry sub i mb ms ρ S = offS i (ms (ρ1.set i (some (.ptr S1.length))) (S1 ++ [.exc y.cls y.fs])) := by rw [er]; simp only [tryK, eb, if_true]
      refine codeAny_handlers_suite_as (HandSPX.lands_againZ fl3 fun h4 fl4 up4 => ?_)
      have L4 : L2.Inv X pins σ' (upd H' a (exV a E d)) { s' with heap := h4 } := land_exc (s := s') J nb fl4 ((up.trans up3).trans up4) na nfr' os ag
      have A4 : Abs X.K cl (io1 ++ [a]) (S1 ++ [.exc y.cls y.fs]) (upd H' a (exV a E d)) := A1.new na (.exc hE upd_same (XFs.mono (gr0_new na) hfs))
      have g4 : Grow X.K io1 H' (io1 ++ [a]) (upd H' a (exV a E d)) := grow_new na
      have R4 : RelRho X.K (io1 ++ [a]) (upd H' a (exV a E d)) (ρ1.set i (some (.ptr S1.length))) (σ'.set i (some (.ref a))) := RelRho.set (.ptr (by rw [← A1.len]; simp)) i (R1.mono g4)
      refine store_ok (X := X.suite a (X.pn ++ pins)) (v := .ref a) (toSuite L4 a) hN hi hloc rfl (fun s5 S5 => ?_) (.inr hln)
      have Gs : GoodS (fun _ _ _ _ => False) X.K cl (io1 ++ [a]) (upd H' a (exV a E d)) (ms (ρ1.set i (some (.ptr S1.length))) (S1 ++ [.exc y.cls y.fs])) := by
        rw [er2] at G
        cases e : ms (ρ1.set i (some (.ptr S1.length))) (S1 ++ [.exc y.cls y.fs]) with
        | ok fl S2 =>
          rw [e] at G
          cases fl with
          | exn _ _ => exact False.elim G
          | nx _ => trivial
          | brk _ => trivial
          | cnt _ => trivial
          | ret _ => trivial
        | exn _ _ => rw [e] at G; exact False.elim G
        | bad => rw [e] at G; exact False.elim G
      refine wpAny_mono ((hsu a (X.pn ++ pins)).run [] s5 _ _ ⟨fun σ2 H2 => D.nx (σ2.set i none) H2, D.rt, fun σ2 H2 => D.bk (σ2.set i none) H2, fun σ2 H2 => D.ct (σ2.set i none) H2⟩ S5 ⟨_, _, _, A4, R4, Gs, fun fl S2 io2 H2 σ2 e2 A2 g2 => ?_⟩) (fun f s6 hsp => ?_) (fun _ _ z => False.elim z)
      · have gg := (g1.trans g4).trans g2
        have er3 : mTry sub i mb ms ρ S = offS i (.ok fl S2) := by rw [er2, e2]
        cases fl with
        | nx ρ2 => exact fun r => k (.nx (ρ2.set i none)) S2 io2 H2 (σ2.set i none) er3 A2 gg (RelRho.setN i r)
        | brk ρ2 => exact fun r => k (.brk (ρ2.set i none)) S2 io2 H2 (σ2.set i none) er3 A2 gg (RelRho.setN i r)
        | cnt ρ2 => exact fun r => k (.cnt (ρ2.set i none)) S2 io2 H2 (σ2.set i none) er3 A2 gg (RelRho.setN i r)
        | ret dd => exact fun v r => k (.ret dd) S2 io2 H2 σ2 er3 A2 gg v r
        | exn _ _ => trivial
      · have fin : ∀ {σ6 : L2.St} {H6 : Hp} {Q : Shared → Prop}, L2.Inv (X.suite a (X.pn ++ pins)) [] σ6 H6 s6 → (∀ s7, L2.Inv X pins (σ6.set i none) H6 s7 → Q s7) →
            wpAny (model X.prog X.w) X.A (do bindName X.env n .none; unbindBehindTheSuite X.env n pos') (fun _ s7 => Q s7) X.xe s6 := fun {σ6 H6 Q} S6 hq => gone_ok (ofSuite S6 ok) hN hi hln hq
        cases f with
        | next => obtain ⟨σ6, H6, S6, q6⟩ := hsp; exact fin S6 fun s7 J7 => ⟨_, _, J7, q6⟩
        | brk => obtain ⟨σ6, H6, S6, q6⟩ := hsp; exact fin S6 fun s7 J7 => ⟨_, _, J7, q6⟩
        | cont => obtain ⟨σ6, H6, S6, q6⟩ := hsp; exact fin S6 fun s7 J7 => ⟨_, _, J7, q6⟩
        | ret u => obtain ⟨v6, σ6, H6, S6, r6, q6⟩ := hsp; exact fin S6 fun s7 J7 => ⟨_, _, _, J7, r6, q6⟩
    | false =>
      have er2 : mTry sub i mb ms ρ S = .ok (.exn y ρ1) S1 := by rw [er]; simp only [tryK, eb, Bool.false_eq_true, if_false]
      have hw : W (.ref E) d σ' H' := by
        rw [er2] at G
        exact G io1 H' (.ref E) d σ' A1 g1 R1 rx
      show wpAny _ X.A (handleBy (.ref a) X.env []) _ _ _
      refine wpAny_handleBy_nil ?_
      obtain ⟨k1, k2, k3, oe, vs, T, oT, ts', he, hz, hd, h1, hr⟩ := id fl3
      unfold PySem.passOn
      refine wpAny_bind (wpAny_field he hd h1 ?_)
      rw [if_neg (show ¬ ((Value.ref T == Value.none) = true) from by simp)]
      have fin : wpAny (model X.prog X.w) X.A (setFlight (.ref a) X.env.frame) (fun _ s4 => wpAny (model X.prog X.w) X.A (throw (.ref a) : Sem Flow) (SP X pins D) X.xe s4) X.xe { s' with heap := h3 } := by
        rw [hfm]
        refine HandSPX.setFlight_upZ fl3 fun h4 hh4 up4 => wpAny_throw (tk _ _ ?_)
        exact ⟨a, B, sI, pins, σ', H', .ref E, d, rfl, J, nb, (up.trans up3).trans up4, .inr (.inr (by rw [hst]; exact hh4)), na, os, ag, hw⟩
      first
        | exact wpAny_bind (wpAny_pure (wpAny_bind fin))
        | exact wpAny_bind fin
  · -- no exception
    have er := em _ e
    cases fl with
    | nx ρ2 => exact k _ S' io' H' σ' er A' g'
    | brk ρ2 => exact k _ S' io' H' σ' er A' g'
    | cnt ρ2 => exact k _ S' io' H' σ' er A' g'
    | ret dd => exact k _ S' io' H' σ' er A' g'
    | exn _ _ => trivial
  · cases f with
    | next => obtain ⟨σ', H', J', q⟩ := hsp; exact wpAny_execs_nil ⟨σ', H', J'.ofTry ok, q⟩
    | brk => obtain ⟨σ', H', J', q⟩ := hsp; exact ⟨σ', H', J'.ofTry ok, q⟩
    | cont => obtain ⟨σ', H', J', q⟩ := hsp; exact ⟨σ', H', J'.ofTry ok, q⟩
    | ret u => obtain ⟨v, σ', H', J', r, q⟩ := hsp; exact ⟨v, σ', H', J'.ofTry ok, r, q⟩
/-- an exception of a callee, too -/
theorem passW1 (tk : Takes X W) : PassW (L2.CX X.prog X.w) X W := fun _ _ _ _ e s' I c => tk e s' (XE.of_call I (fun _ _ _ h => h) c)
end
end MP
/-! MP73 -/
set_option Elab.async false
set_option autoImplicit false
set_option linter.all false
set_option maxRecDepth 100000
set_option maxHeartbeats 1000000
namespace MP
open PySem PySem.Spec L2
open PyProof.Rows hiding St

/-! ## an error class whose __init__ is  super().__init__("text" + repr(f)); self.f = f -/
def errBody (f msg : Str) (k : Nat) (p0 p1 p2 p3 p4 p5 p6 p7 p8 p9 q0 q1 q2 q3 : Pos) : List Stmt :=
  [.Expr (.Call (.Attribute (.Call (.Name "super" p0) [] [] p1) "__init__" p2) [.BinOp (.Constant (.str msg) k p3) .Add (.Call (.Name "repr" p4) [.Name f p5] [] p6) p7] [] p8) p9,
   .Assign [.Attribute (.Name "self" q0) f q1] (.Name f q2) q3]
def ErrEv (f msg : Str) (k : Nat) (p0 p1 p2 p3 p4 p5 p6 p7 p8 : Pos) : Prop := ∀ env : Env, ∃ pl : Sem Bool, eval (.Call (.Attribute (.Call (.Name "super" p0) [] [] p1) "__init__" p2) [.BinOp (.Constant (.str msg) k p3) .Add (.Call (.Name "repr" p4) [.Name f p5] [] p6) p7] [] p8) env = (do
      let ov ← attributeBase (.Call (.Name "super" p0) [] [] p1) "__init__" env (eval (.Call (.Name "super" p0) [] [] p1) env)
      standAt p2.atName
      let (g, first) ← holding [ov] (getMethod ov "__init__" pl)
      callWith p8 g first (backTo p8 (starEach [.BinOp (.Constant (.str msg) k p3) .Add (.Call (.Name "repr" p4) [.Name f p5] [] p6) p7] env)) [])
/-- a class of the package's errors -/
structure ErrC (K : PySem.W.Frag) (C : Addr) : Prop where
  oex : OexC K C
  mroC : PySem.W.mroIn K C (.ref C) = some true
/-- .. with such an __init__ -/
structure ErrI (P : Program) (K : PySem.W.Frag) (C fI : Addr) (f : Str) (st : Stmt) : Prop extends ErrC K C where
  fno : PySem.W.findIn K (.ref C) f = some none
  iC : PySem.W.findIn K (.ref C) "__init__" = some (some (.ref fI))
  tI : PySem.W.typeIn K (.ref fI) = some (.type "function")
  sup : PySem.W.ks_superIn K C C "__init__" = some (some (.builtin "ValueError.__init__"))
  subV : PySem.W.subIn K (.ref C) (.type "ValueError") = some true
  stat : PySem.W.nsIn K cStatics "thirdparty.any" = some none
  htop : (P.main.scope.names.lookup ("super" : Str)).isSome = false
  body : ∃ msg k p0 p1 p2 p3 p4 p5 p6 p7 p8 p9 q0 q1 q2 q3, defBody st = errBody f msg k p0 p1 p2 p3 p4 p5 p6 p7 p8 p9 q0 q1 q2 q3 ∧ msg.length ≤ 100 ∧ ErrEv f msg k p0 p1 p2 p3 p4 p5 p6 p7 p8 ∧ ∀ env : Env, swapsWith (.Name f q2) (some (.Attribute (.Name "self" q0) f q1)) q3.line env = pure false
  kind : (defScope st).kind = .function
  co : (defScope st).isCoroutine = false
  gen : (defScope st).isGenerator = false
  nocell : ∀ x ∈ (defScope st).names, x.2 ≠ .cell
  kSup : (defScope st).names.lookup ("super" : Str) = some .globalImplicit
  kRep : (defScope st).names.lookup ("repr" : Str) = some .globalImplicit
  kCls : (defScope st).names.lookup ("__class__" : Str) = some .free
  kSelf : (defScope st).names.lookup ("self" : Str) = some .local
  kF : (defScope st).names.lookup f = some .local
  fs : (f == ("self" : Str)) = false
  fd : (f == ("__debug__" : Str)) = false
  hd : ∃ ar : Arg, ((defArgs st).posonlyargs ++ (defArgs st).args).head? = some ar ∧ ar.arg = "self"
  fn : ∃ (name qual : Str) (oc : Value) (od : Option Addr) (dV kV doc pm : Value) (an : Option Addr) (cda : Addr) (ct : Value) (cc : Addr) (osl : Array (Option Value)),
    K.lookup fI = some ⟨oc, od, .func (PySem.W.ksFn name qual (defArgs st) (defBody st) (defScope st) dV kV doc pm an (.ref cda) ct cc), osl⟩ ∧ PySem.W.codeIn K (.ref cda) qual = true ∧
    (∀ us : List Value, us.length = 2 → bindArgs (PySem.W.ksFn name qual (defArgs st) (defBody st) (defScope st) dV kV doc pm an (.ref cda) ct cc) ⟨us, []⟩ = pure ((["self", f] : List Str).zip us)) ∧
    (∀ a b : Value, bindArgs (PySem.W.ksFn name qual (defArgs st) (defBody st) (defScope st) dV kV doc pm an (.ref cda) ct cc) ⟨[a], [(f, b)]⟩ = pure ((["self", f] : List Str).zip [a, b])) ∧
    (∃ ccl cdd vs ccs file tf, K.lookup cda = some ⟨ccl, cdd, .fields vs, ccs⟩ ∧ vs[2]? = some (.str file tf) ∧ ((P.main.file : Str) == file) = true) ∧ ∃ cl cld csl, K.lookup cc = some ⟨cl, cld, .cell (some (.ref C)), csl⟩
  nS : PySem.W.nsIn K mainGlobals "super" = some none
  nR : PySem.W.nsIn K mainGlobals "repr" = some none

section
variable {P : Program} {w : World} {K : PySem.W.Frag} {C fI : Addr} {f : Str} {st : Stmt} {mg : Str → Option Value} {base : Heap} {A : Around} {R : Result → Shared → Prop} {hp : Heap} {g : Array GenState} {d : Drawn} {t : Nat} {os : OsState}
end
section
variable {X : Cx} {C fI : Addr} {f x : Str} {st : Stmt} {e : Expr} {t : TE} {p pos : Pos}
def errQ (C : Addr) (f : Str) (Q : XK) : List V → Hp → Prop
  | [y], H1 => ∃ i : Int, y = .int i ∧ i.natAbs.log2 < 1000 ∧ ∀ dx, H1 dx = none → Q (.ref C) (some dx) (upd H1 dx (.xd [(f, .int i)]))
  | _, _ => False
end
/-! ### raise -/
def mRaise (c f : Str) (m : M D) : MS := eS m fun d ρ S => match d with
  | .int i => if i.natAbs.log2 < 1000 then .ok (.exn ⟨c, [(f, .int i)]⟩ ρ) S else .bad
  | _ => .bad
def mRaise0 (c : Str) : MS := fun ρ S => .ok (.exn ⟨c, []⟩ ρ) S
section
variable {X : Cx} {cl : Cl} {W : WX} {C fI : Addr} {f x : Str} {st : Stmt} {e : Expr} {m : M D} {p pos pos2 : Pos}
/-- raise C("text"), C without an own __init__ -/
theorem s_raise0 {msg : Str} {j : Nat} {p2 : Pos} (hc : X.calm = true) (tk : Takes X W) (T : ErrC X.K C) (q : PySem.W.excIn X.K C [.type "ValueError", .type "Exception", .type "BaseException", .type "object"] "ValueError.__new__" = true) (gC : X.mg x = some (.ref C)) (hg : Gl X x) (hcl : cl.er x = some C)
    (hdb : (x == ("__debug__" : Str)) = false := by decide) :
    StE X cl W (.Raise (some (.Call (.Name x p) [.Constant (.str msg) j p2] [] pos)) none pos2) (mRaise0 x) := by
  refine PS.imp (ps_raise hc tk (pmk_own PySem.F.excBase_ValueError q gC T.oex.kC (raises_own T.oex.exC T.oex.tyC) hg hdb)) fun E σ H ⟨io, ρ, S, A, R, G, k⟩ => ?_
  exact G io H (.ref C) none σ A Grow.rfl' R ⟨C, hcl, rfl, .inl ⟨rfl, rfl⟩⟩
end
end MP
/-! MP74 -/
set_option Elab.async false
set_option autoImplicit false
set_option linter.all false
set_option maxRecDepth 100000
set_option maxHeartbeats 1000000
namespace MP
open PySem PySem.Spec L2 LamX
open PyProof.Rows hiding St

/-! ## a lambda without parameters, handed to a def -/
abbrev Th := Sto → Rs D
/-- x(), x at the slot i the lambda at n -/
def mThk (n i : Nat) (th : Th) : M D := fun ρ S => if ρ[i]? = some (some (.ptr n)) then th S else .bad
/-- x(lambda: e): F tells what x makes of the lambda at n -/
def mLam (F : Nat → Th → FL) (mb : M D) : M D := fun ρ S => F S.length (fun S' => mb ρ S') [.ptr S.length] (S ++ [.lam])
def Cl.wit (cl : Cl) (n : Nat) (f c' : Addr) (q : Str) (ρ : Rho) (σ : L2.St) : Cl := { cl with pre := (n, f) :: cl.pre, cap := (ρ, σ) :: cl.cap, co := (c', q) :: cl.co }
section
variable {K : PySem.W.Frag} {cl : Cl} {io : List Addr} {H : Hp} {S : Sto} {n : Nat} {f c' : Addr} {q : Str} {ρ : Rho} {σ : L2.St}
theorem RelO.wit {o : O} {a : Addr} (r : RelO K cl io H o a) : RelO K (cl.wit n f c' q ρ σ) io H o a := by
  cases r with
  | lst a b => exact .lst a b
  | rol a b => exact .rol a b
  | dct a b => exact .dct a b
  | rod a b => exact .rod a b
  | vw a b => exact .vw a b
  | dkt a b c d e => exact .dkt a b c d e
  | rkt a b c d e => exact .rkt a b c d e
  | ins a b c => exact .ins a b c
  | exc a b c => exact .exc a b c
  | lam => exact .lam
end
/-! ### a def called at one state -/
section
variable {CX : CXT} {P : Program} {w : World} {K : PySem.W.Frag} {mg : Str → Option Value} {base : Heap} {cl : Cl} {k : Nat} {f : Addr} {x qual : Str} {st : Stmt} {fd : FuncData} {N ps : List Str} {m : MS}
end
/-! ### the lambda is called -/
section
variable {X : Cx} {pins : List (Addr × Obj)} {σ : L2.St} {H : Hp} {s : Shared} {cl : Cl} {ρ : Rho}
end
/-- the def x by its body, whatever the lambda that it gets as a computes -/
def GivesH (P : Program) (w : World) (K : PySem.W.Frag) (mg : Str → Option Value) (base : Heap) (cl : Cl) (k : Nat) (g : Addr) (st : Stmt) (x a : Str) (Ng : List Str) (ms : Nat → Th → MS) : Prop :=
  ∀ (A : Around) (outer : List Env) (f c' : Addr) (n : Nat) (ρ : Rho) (σ : L2.St) (q : Str) (th : Th) (cdv : Value) (s : Shared) (H : Hp) (E : XK),
    Room k (A.deeper (envOfC x (defScope st) s.heap.objs.size g cdv)) → (A.deeper (envOfC x (defScope st) s.heap.objs.size g cdv)).guards = some [] →
    (∀ (W : WX) (pn : List (Addr × Obj)) (xe : Value → Shared → Prop) (p1 p2 : Pos), Takes ((cxOf (L2.CX P w) P w K mg base Ng x (defScope st) g cdv A outer s H E).tr pn xe) W →
      EvE ((cxOf (L2.CX P w) P w K mg base Ng x (defScope st) g cdv A outer s H E).tr pn xe) (cl.wit n f c' q ρ σ) W (.Call (.Name a p1) [] [] p2) (mThk n 0 th)) →
    SsE (cxOf (L2.CX P w) P w K mg base Ng x (defScope st) g cdv A outer s H E) (cl.wit n f c' q ρ σ) (fun c d _ H' => E c d H') (defBody st) (ms n th)
section
variable {X : Cx} {cl : Cl} {W : WX}
end
end MP
/-! MP75 -/
set_option Elab.async false
set_option autoImplicit false
set_option linter.all false
set_option maxRecDepth 100000
set_option maxHeartbeats 1000000
namespace MP
open PySem PySem.Spec L2
open PyProof.Rows hiding St

/-! ## the field of a caught error -/
def xfS (c f : Str) : F1 := fun x S => match x with
  | .ptr n => match S[n]? with
    | some (.exc c' fs) => if c' = c then (match fs.lookup f with
      | some d => .ok d S
      | none => .bad) else .bad
    | _ => .bad
  | _ => .bad
section
variable {X : Cx} {cl : Cl} {W : WX} {c f : Str} {C : Addr} {e : Expr} {mo : M D} {pos : Pos}
end

/-! ## what holds behind a result, exceptions among them -/
def WpX {α : Type} (E : Exn → Sto → Prop) (r : Rs α) (Q : α → Sto → Prop) : Prop := match r with
  | .ok a S => Q a S
  | .exn x S => E x S
  | .bad => False
section
variable {α : Type} {E : Exn → Sto → Prop}
theorem WpX.imp {r : Rs α} {Q R : α → Sto → Prop} (h : WpX E r Q) (k : ∀ a S, Q a S → R a S) : WpX E r R := by
  cases r with
  | ok a S => exact k a S h
  | exn x S => exact h
  | bad => exact h
theorem WpX.impE {E' : Exn → Sto → Prop} {r : Rs α} {Q R : α → Sto → Prop} (h : WpX E r Q) (k : ∀ a S, Q a S → R a S) (k' : ∀ x S, E x S → E' x S) : WpX E' r R := by
  cases r with
  | ok a S => exact k a S h
  | exn x S => exact k' x S h
  | bad => exact h
theorem Wp.x {r : Rs α} {Q : α → Sto → Prop} (h : Wp r Q) : WpX E r Q := by
  obtain ⟨a, S, e, q⟩ := h
  rw [e]
  exact q
theorem WpX.wp {r : Rs α} {Q : α → Sto → Prop} (h : WpX (fun _ _ => False) r Q) : Wp r Q := by
  cases r with
  | ok a S => exact ⟨a, S, rfl, h⟩
  | exn x S => exact h.elim
  | bad => exact h.elim
theorem wx_ok {a : α} {S : Sto} {Q : α → Sto → Prop} : WpX E (.ok a S) Q ↔ Q a S := Iff.rfl
theorem wx_bad {Q : α → Sto → Prop} : WpX E (.bad : Rs α) Q ↔ False := Iff.rfl
theorem wx_exn {x : Exn} {S : Sto} {Q : α → Sto → Prop} : WpX E (.exn x S : Rs α) Q ↔ E x S := Iff.rfl
end
section
variable {α β : Type} {E : Exn → Sto → Prop}
theorem wx_bind {r : Rs α} {f : α → Sto → Rs β} {Q : β → Sto → Prop} : WpX E (r.bind f) Q ↔ WpX E r fun a S => WpX E (f a S) Q := by
  cases r with
  | ok a S => simp only [Rs.bind, wx_ok]
  | exn x S => simp only [Rs.bind, wx_exn]
  | bad => simp only [Rs.bind, wx_bad]
variable {ρ : Rho} {S : Sto}
theorem wx_mVar {i : Nat} {Q : D → Sto → Prop} {d : D} (h : ρ[i]? = some (some d)) : WpX E (mVar i ρ S) Q ↔ Q d S := by
  simp only [mVar, h, wx_ok]
theorem wx_mNil {Q : List D → Sto → Prop} : WpX E (mNil ρ S) Q ↔ Q [] S := wx_ok
theorem wx_mCons {a : M D} {r : M (List D)} {Q : List D → Sto → Prop} : WpX E (mCons a r ρ S) Q ↔ WpX E (a ρ S) fun x S1 => WpX E (r ρ S1) fun xs S2 => Q (x :: xs) S2 := by
  simp only [mCons, wx_bind, wx_ok]
theorem wx_mDisp {g : List D → Sto → Rs D} {m : M (List D)} {Q : D → Sto → Prop} : WpX E (mDisp g m ρ S) Q ↔ WpX E (m ρ S) fun xs S1 => WpX E (g xs S1) Q := wx_bind
def WpY (F : Exn → Rho → Sto → Prop) (r : Rs Fl) (N B C : Rho → Sto → Prop) (R : D → Sto → Prop) : Prop := match r with
  | .ok (.nx ρ) S => N ρ S
  | .ok (.brk ρ) S => B ρ S
  | .ok (.cnt ρ) S => C ρ S
  | .ok (.ret d) S => R d S
  | .ok (.exn x ρ) S => F x ρ S
  | _ => False
variable {N B C : Rho → Sto → Prop} {R : D → Sto → Prop} {F : Exn → Rho → Sto → Prop}
theorem WpY.imp {r : Rs Fl} {N' B' C' : Rho → Sto → Prop} {R' : D → Sto → Prop} {F' : Exn → Rho → Sto → Prop} (h : WpY F r N B C R) (n : ∀ ρ S, N ρ S → N' ρ S) (b : ∀ ρ S, B ρ S → B' ρ S) (c : ∀ ρ S, C ρ S → C' ρ S) (d : ∀ x S, R x S → R' x S)
    (e : ∀ x ρ S, F x ρ S → F' x ρ S) : WpY F' r N' B' C' R' := by
  cases r with
  | ok f S =>
    cases f with
    | nx => exact n _ _ h
    | brk => exact b _ _ h
    | cnt => exact c _ _ h
    | ret => exact d _ _ h
    | exn => exact e _ _ _ h
  | exn _ _ => exact h
  | bad => exact h
theorem WpS.y {r : Rs Fl} (h : WpS r N B C R) : WpY F r N B C R := by
  obtain ⟨f, S, e, q⟩ := h
  rw [e]
  cases f with
  | exn _ _ => exact q.elim
  | _ => exact q
theorem wy_nx : WpY F (.ok (.nx ρ) S) N B C R ↔ N ρ S := Iff.rfl
theorem wy_ret {d : D} : WpY F (.ok (.ret d) S) N B C R ↔ R d S := Iff.rfl
theorem wy_exn {x : Exn} : WpY F (.ok (.exn x ρ) S) N B C R ↔ F x ρ S := Iff.rfl
theorem wy_mNx : WpY F (mNx ρ S) N B C R ↔ N ρ S := Iff.rfl
theorem wy_mSeq {a b : MS} : WpY F (mSeq a b ρ S) N B C R ↔ WpY F (a ρ S) (fun ρ1 S1 => WpY F (b ρ1 S1) N B C R) B C R := by
  unfold mSeq
  cases h : a ρ S with
  | ok f S1 => cases f <;> exact Iff.rfl
  | exn x S1 => exact Iff.rfl
  | bad => exact Iff.rfl
theorem wy_eS {m : M α} {k : α → MS} : WpY F (eS m k ρ S) N B C R ↔ WpX (fun x S1 => F x ρ S1) (m ρ S) fun a S1 => WpY F (k a ρ S1) N B C R := by
  unfold eS
  cases h : m ρ S with
  | ok f S1 => exact Iff.rfl
  | exn x S1 => exact Iff.rfl
  | bad => exact Iff.rfl
theorem wy_mRet {m : M D} : WpY F (mRet m ρ S) N B C R ↔ WpX (fun x S1 => F x ρ S1) (m ρ S) R := by simp only [mRet, wy_eS, wy_ret]
theorem wy_mIfS {c : M Bool} {a b : MS} : WpY F (mIfS c a b ρ S) N B C R ↔ WpX (fun x S1 => F x ρ S1) (c ρ S) fun k S1 => if k = true then WpY F (a ρ S1) N B C R else WpY F (b ρ S1) N B C R := by
  simp only [mIfS, wy_eS]
  constructor <;> intro h <;> refine h.imp fun k S1 q => ?_ <;> cases k <;> simpa using q
theorem wy_asg {g : MG} {d : D} : WpY F (asg g d ρ S) N B C R ↔ Wp (g d ρ S) N := by
  simp only [asg]
  cases h : g d ρ S with
  | ok => simp only [wy_nx, wp_ok]
  | exn => simp only [WpY, wp_exn]
  | bad => simp only [WpY, wp_bad]
theorem wy_mAsg {m : M D} {g : MG} : WpY F (mAsg m g ρ S) N B C R ↔ WpX (fun x S1 => F x ρ S1) (m ρ S) fun d S1 => Wp (g d ρ S1) N := by simp only [mAsg, wy_eS, wy_asg]
theorem wx_callS {n : Nat} {m : MS} {ds : List D} {Q : D → Sto → Prop} :
    WpX E (callS n m ds S) Q ↔ WpY (fun x _ S1 => E x S1) (m (ds.map some ++ List.replicate (n - ds.length) none) S) (fun _ S1 => Q .non S1) Nev Nev Q := by
  unfold callS
  cases h : m (ds.map some ++ List.replicate (n - ds.length) none) S with
  | ok f S1 => cases f <;> exact Iff.rfl
  | exn x S1 => exact Iff.rfl
  | bad => exact Iff.rfl
theorem wy_mRaise0 {c : Str} : WpY F (mRaise0 c ρ S) N B C R ↔ F ⟨c, []⟩ ρ S := Iff.rfl
theorem wy_mTry {sub : Str → Bool} {i : Nat} {mb ms : MS} : WpY F (mTry sub i mb ms ρ S) N B C R ↔
    WpY (fun x ρ1 S1 => if sub x.cls = true then WpS (ms (ρ1.set i (some (.ptr S1.length))) (S1 ++ [.exc x.cls x.fs])) (fun ρ2 => N (ρ2.set i none)) (fun ρ2 => B (ρ2.set i none)) (fun ρ2 => C (ρ2.set i none)) R else F x ρ1 S1) (mb ρ S) N B C R := by
  unfold mTry
  cases h : mb ρ S with
  | ok f S1 =>
    cases f with
    | exn x ρ1 =>
      simp only [tryK]
      by_cases hs : sub x.cls = true
      · simp only [if_pos hs, wy_exn]
        cases h2 : ms (ρ1.set i (some (.ptr S1.length))) (S1 ++ [.exc x.cls x.fs]) with
        | ok f2 S2 =>
          cases f2 with
          | exn _ _ => exact ⟨fun q => q.elim, fun ⟨_, _, e, q⟩ => by cases e; exact q.elim⟩
          | nx ρ2 => exact ⟨fun q => ⟨_, _, rfl, q⟩, fun ⟨_, _, e, q⟩ => by cases e; exact q⟩
          | brk ρ2 => exact ⟨fun q => ⟨_, _, rfl, q⟩, fun ⟨_, _, e, q⟩ => by cases e; exact q⟩
          | cnt ρ2 => exact ⟨fun q => ⟨_, _, rfl, q⟩, fun ⟨_, _, e, q⟩ => by cases e; exact q⟩
          | ret d => exact ⟨fun q => ⟨_, _, rfl, q⟩, fun ⟨_, _, e, q⟩ => by cases e; exact q⟩
        | exn _ _ => exact ⟨fun q => q.elim, fun ⟨_, _, e, q⟩ => by cases e⟩
        | bad => exact ⟨fun q => q.elim, fun ⟨_, _, e, q⟩ => by cases e⟩
      · simp only [if_neg hs, wy_exn]
    | _ => exact Iff.rfl
  | exn x S1 => exact Iff.rfl
  | bad => exact Iff.rfl
end
end MP
/-! MP76 -/
set_option Elab.async false
set_option autoImplicit false
set_option linter.all false
set_option maxRecDepth 100000
namespace MP
open PySem PySem.Spec L2
open PyProof.Rows hiding St

/-! ## what the printed text needs of exceptions -/
theorem passWF {P : Program} {w : World} {X : Cx} : PassW (L2.CX P w) X WF := fun _ _ _ _ _ _ _ h => by
  obtain ⟨_, _, _, _, _, _, _, _, _, _, _, _, z⟩ := h
  exact z.elim
theorem passFX {P : Program} {w : World} {X : Cx} : PassF (L2.CX P w) X := fun _ _ _ _ h => by
  obtain ⟨_, _, _, _, _, _, _, _, _, _, _, _, z⟩ := h
  exact z
/-- an error class of the package, in the written part -/
def errB (K : PySem.W.Frag) (C : Addr) : Bool := match K.lookup C with
  | some ⟨.type "type", _, .cls cd, sl⟩ => (match cd.mro, sl.toList with
    | .ref C' :: bm, [_, _, _, _, some (.builtin n), _] => C' == C && n == "ValueError.__new__" && !cd.hasDel && cd.hasDict && PySem.HandSPX.refsVE bm
    | _, _ => false)
  | _ => false
theorem errB_ok {K : PySem.W.Frag} {C : Addr} (q : errB K C = true) :
    ∃ nm q N bs bm sn sub ab col dd k0 k1 k2 k3 k5, K.lookup C = some (excClassObj nm q C N bs bm true sn sub ab col dd k0 k1 k2 k3 k5 "ValueError.__new__") ∧ PySem.HandSPX.refsVE bm = true := by
  unfold errB at q
  split at q
  · rename_i dd cd sl ho
    split at q
    · rename_i C' bm k0 k1 k2 k3 n k5 hm hs
      simp only [Bool.and_eq_true, beq_iff_eq, Bool.not_eq_true'] at q
      obtain ⟨⟨⟨⟨rfl, rfl⟩, hdel⟩, hdict⟩, hve⟩ := q
      obtain ⟨nm, bs, mro, ns, qn, hd, sn, sub, ab, col, del⟩ := cd
      dsimp only at hm hdel hdict
      subst hm hdel hdict
      have hsl : sl = #[k0, k1, k2, k3, some (.builtin "ValueError.__new__"), k5] := by
        obtain ⟨l⟩ := sl
        simp only at hs
        rw [hs]
      subst hsl
      exact ⟨nm, qn, ns, bs, bm, sn, sub, ab, col, dd, k0, k1, k2, k3, k5, ho, hve⟩
    · cases q
  · cases q
theorem errC_mk {K : PySem.W.Frag} {C : Addr} (h1 : errB K C = true) (h2 : PySem.W.findIn K (.ref C) "__setattr__" = some (some (.builtin "object.__setattr__"))) (h3 : PySem.W.subIn K (.ref C) (.type "BaseException") = some true)
    (h4 : PySem.W.typeIn K (.ref C) = some (.type "type")) (h5 : PySem.W.keepIn K (.ref C) = true) (h6 : PySem.W.mroIn K C (.ref C) = some true) : ErrC K C := ⟨⟨errB_ok h1, h2, h3, h4, h5⟩, h6⟩
end MP
/-! MP77 -/
set_option Elab.async false
set_option autoImplicit false
set_option linter.all false
set_option maxRecDepth 100000
set_option maxHeartbeats 1000000
namespace PySem.SeqAt
open AutoSeq1 (wpAny_loadPart')
open MeetsSeq
/-! a tuple is unequal to a dict -/
section
variable {A : Around} {s : Shared}
end
end PySem.SeqAt
namespace MP
open PySem PySem.Spec L2
open PyProof.Rows hiding St
/-! ## x in y, x a dict, y a list of tuples -/
def D.isTup : D → Bool
  | .tup _ => true
  | _ => false
def inTD (n : Nat) (y : D) (S : Sto) : Bool := match S[n]?, y with
  | some (.dct _), .ptr k => match listAt S k with
    | some ds => ds.all D.isTup
    | none => false
  | _, _ => false
def inX : F2 := fun x y S => match x with
  | .ptr n => if inTD n y S = true then .ok (.bl false) S else inS x y S
  | _ => inS x y S
def ninX : F2 := fun x y S => match x with
  | .ptr n => if inTD n y S = true then .ok (.bl true) S else ninS x y S
  | _ => ninS x y S
section
variable {X : Cx} {cl : Cl} {W : WX} {io : List Addr} {S : Sto} {H : Hp} {pins : List (Addr × Obj)} {s : Shared} {σ : L2.St}
end
end MP
/-! MP78 -/
set_option Elab.async false
set_option autoImplicit false
set_option linter.all false
set_option maxRecDepth 100000
set_option maxHeartbeats 1000000
namespace PySem.HandSPX
open PySem PySem.Spec L2
section
variable {prog : Program} {w : World} {A : Around} {E : Value → Shared → Prop} {R : Result → Shared → Prop} {h : Heap} {g : Array GenState} {d : Drawn} {t : Nat} {os : OsState}
variable {nm q : Str} {C N : Addr} {bs bm bmB : List Value} {hdct : Bool} {sn : List Str} {sub : List Value} {ab : Bool} {col : Option Bool} {dd : Option Addr} {k0 k1 k2 k3 k5 : Option Value} {B newId initId : String} {kws : List (Str × Value)}
end
end PySem.HandSPX
namespace MP
open PySem PySem.Spec L2
open PyProof.Rows hiding St

/-! ## errors that carry any value -/
/-- repr of the value u gives the text z, in all heaps from h0 on -/
def Rp (P : Program) (w : World) (h0 : Heap) (u : Value) (z : Str) : Prop := ∀ {A : Around} {E : Value → Shared → Prop} {s : Shared} {Q : Value → Shared → Prop}, A.guards = some [] → A.units + 65 < cLine →
  (∀ b o, h0.get? b = some o → s.heap.get? b = some o) → (∀ h' tk v, (∀ b o, s.heap.get? b = some o → h'.get? b = some o) → Q (.str z v) { s with heap := h', toks := tk }) → wpAny (model P w) A (call (.builtin "repr") [u]) Q E s
section
variable {X : Cx} {cl : Cl} {W : WX}
end
section
variable {P : Program} {w : World} {K : PySem.W.Frag} {C fI : Addr} {f : Str} {st : Stmt} {mg : Str → Option Value} {base : Heap} {A : Around} {R : Result → Shared → Prop} {hp : Heap} {g : Array GenState} {d : Drawn} {t : Nat} {os : OsState}
end
section
variable {X : Cx} {C fI : Addr} {f x : Str} {st : Stmt} {e : Expr} {t : TE} {p pos kp : Pos}
/-- repr of y gives z, wherever H is told of -/
def RpH (X : Cx) (H : Hp) (y : V) (z : Str) : Prop := ∀ (pins : List (Addr × Obj)) (σ : L2.St) (s : Shared) (u : Value), Inv X pins σ H s → RelV y u → Rp X.prog X.w s.heap u z
def errV (X : Cx) (C : Addr) (f : Str) (Q : XK) (y : V) (H1 : Hp) : Prop := ∃ z : Str, z.length ≤ 5000 ∧ RpH X H1 y z ∧ ∀ dx, H1 dx = none → Q (.ref C) (some dx) (upd H1 dx (.xd [(f, y)]))
def errVs (X : Cx) (C : Addr) (f : Str) (Q : XK) : List V → Hp → Prop
  | [y], H1 => errV X C f Q y H1
  | _, _ => False
end
end MP
/-! MP79 -/
set_option Elab.async false
set_option autoImplicit false
set_option linter.all false
set_option maxRecDepth 100000
set_option maxHeartbeats 1000000
namespace MP
open PySem PySem.Spec L2
open PyProof.Rows hiding St

/-! ## raise C(e), C(f = e), any e that may be shown -/
def mRaiseV (c f : Str) (m : M D) : MS := eS m fun d ρ S => match view S 60 d with
  | some p => if p.showable = true ∧ okS p.shown ∧ p.shown.length ≤ 5000 then .ok (.exn ⟨c, [(f, d)]⟩ ρ) S else .bad
  | none => .bad
/-- raise C(e), C without an own __init__ -/
def mRaiseS (c : Str) (m : M D) : MS := eS m fun _ ρ S => .ok (.exn ⟨c, []⟩ ρ) S
section
variable {X : Cx} {cl : Cl} {W : WX} {C fI : Addr} {f x : Str} {st : Stmt} {e : Expr} {t : TE} {m : M D} {p pos pos2 kp : Pos}
end

/-! ## isinstance(e, C), e a caught error of an own class -/
structure XiC (K : PySem.W.Frag) (C : Addr) : Prop where
  hcl : (PySem.W.clsIn K C).isSome = true
  hga : PySem.W.findIn K (.ref C) "__getattribute__" = some (some (.builtin "BaseException.__getattribute__"))
  hgt : PySem.W.findIn K (.ref C) "__getattr__" = some none
  hsub : PySem.W.subIn K (.ref C) (.type "BaseException") = some true
  ha : PySem.W.findIn K (.ref C) "__class__" = some (some (.builtin "object.__class__"))
  hn : PySem.W.specialIn K (.builtin "object.__class__") "__get__" = some (some (.builtin "getset_descriptor.__get__"))
  ht : PySem.W.takesIn K (.builtin "object.__class__") = some true
  hm : PySem.W.mroIn K C (.type "object") = some true
def isiE (f : Str → Option Bool) : F1 := fun x S => match x with
  | .ptr n => match S[n]? with
    | some (.exc c _) => match f c with
      | some b => .ok (.bl b) S
      | none => .bad
    | _ => .bad
  | _ => .bad
def rIsX (K : PySem.W.Frag) : List V → Hp → VK → Prop := fun xs H Q => ∃ (a C : Addr) (d : Option Addr) (c : V) (u : Value) (b : Bool), xs = [.ref a, c] ∧ H a = some (exV a C d) ∧ (∀ dd, d = some dd → ∃ ws, H dd = some (.xd ws)) ∧ XiC K C ∧ ClsV c u ∧ PySem.W.kitOne K (.ref C) u = some b ∧ Q (.bl b) H
section
variable {X : Cx} {cl : Cl} {W : WX} {e cx : Expr} {m : M D} {p pos : Pos}
theorem call_isX : CallR X (.builtin "isinstance") (rIsX X.K) := by
  intro pins s σ H xs us Q I r h
  obtain ⟨a, C, d, c, u, b, rfl, hH, hd, T, hcv, e, q⟩ := h
  obtain ⟨u1, u2, rfl, r1, r2⟩ := vals2 r
  have e2 := hcv.eq r2
  subst e2
  cases (show u1 = Value.ref a from r1)
  have oa : ObjOk X.prog X.w H s.heap a (exV a C d) := I.hok a _ hH
  obtain ⟨⟨oe, vs, ha, hz, hdt, _⟩, _⟩ := oa
  have hnc : PySem.W.notCls oe := by unfold PySem.W.notCls; rw [hdt] <;> rfl
  cases d with
  | none =>
    have J : PySem.W.InstAt s.heap a oe C none := ⟨ha, hz.1, hnc, by rw [hz.2]; exact trivial⟩
    exact PySem.W.kia_one (PySem.W.kitx_exc T.hcl T.hga T.hgt T.hsub T.ha T.hn T.ht T.hm) I.kIn J e (fun z => nomatch z) fun tk => ⟨.bl b, H, I.tok tk, rfl, q⟩
  | some dd =>
    obtain ⟨ws, hdd⟩ := hd dd rfl
    have hx : ObjOk X.prog X.w H s.heap dd (.xd ws) := I.hok dd _ hdd
    obtain ⟨mA, hns, hr⟩ := hx
    obtain ⟨od, ho, hl⟩ := lookIn_ns hns
    have J : PySem.W.InstAt s.heap a oe C (some od) := ⟨ha, hz.1, hnc, by rw [hz.2]; exact ho⟩
    exact PySem.W.kia_one (PySem.W.kitx_exc T.hcl T.hga T.hgt T.hsub T.ha T.hn T.ht T.hm) I.kIn J e (fun z => nomatch z) fun tk => ⟨.bl b, H, I.tok tk, rfl, q⟩
theorem ev_isiE {f : Str → Option Bool} {v : V} {u : Value} (hX : ∀ c C, cl.er c = some C → XiC X.K C) (hf : ∀ c C b, cl.er c = some C → f c = some b → PySem.W.kitOne X.K (.ref C) u = some b) (hcv : ClsV v u) (hc : PE X cx (tC v)) (he : EvE X cl W e m)
    (hm : X.mg "isinstance" = none) (hg : Gl X "isinstance" := by rfl) (hs : starEach [e, cx] X.env = (false, eval e X.env) :: starEach [cx] X.env := by rfl) (hs2 : starEach [cx] X.env = (false, eval cx X.env) :: starEach [] X.env := by rfl)
    (hpl : (backTo pos (starEach [cx] X.env)).any (·.1) = false := by rfl) : EvE X cl W (.Call (.Name "isinstance" p) [e, cx] [] pos) (mUn (isiE f) m) := by
  refine EvE.of_pe (pe_callB call_isX hg hm PyProof.Rows.boot_isinstance (pa_cons he.pe (pa_cons hc pa_nil hs2) hs) (by decide) (by decide) hs hpl) fun σ H io ρ S A R G => ?_
  refine ⟨io, ρ, S, A, R, Good.fst G, fun d S1 io1 H1 vx em A1 g1 rd => ?_⟩
  have e2 : mUn (isiE f) m ρ S = isiE f d S1 := by unfold mUn; rw [em]; rfl
  rw [e2] at G
  rw [e2]
  cases rd with
  | @ptr n a hn =>
    unfold isiE at G ⊢
    simp only at G ⊢
    cases hi : S1[n]? with
    | none => rw [hi] at G; exact False.elim G
    | some o =>
      rw [hi] at G
      cases ptr_obj A1 hn hi with
      | @exc _ C c fs d hC hH hF =>
        simp only at G ⊢
        cases hb : f c with
        | none => rw [hb] at G; exact False.elim G
        | some b =>
          refine ⟨a, C, d, v, u, b, rfl, hH, fun dd ed => ?_, hX _ _ hC, hcv, hf _ _ _ hC hb, .bl b, S1, io1, rfl, A1, g1, .bl b⟩
          rcases hF with ⟨_, ef⟩ | ⟨dd', ws, e3, hdd, _⟩
          · rw [ed] at ef; cases ef
          · rw [ed] at e3; cases e3; exact ⟨ws, hdd⟩
      | _ => exact False.elim G
  | _ => exact False.elim G
end
end MP
/-! MP80 -/
set_option Elab.async false
set_option autoImplicit false
set_option linter.all false
set_option maxRecDepth 100000
set_option maxHeartbeats 1000000
namespace MP
open PySem PySem.Spec L2
open PyProof.Rows hiding St

/-! ## str(x); count and index of a list of bools -/
def strA : FL
  | [.str x], S => .ok (.str x) S
  | xs, S => reprS xs S
def boolsOf : List D → Option (List Bool)
  | [] => some []
  | .bl b :: ds => (boolsOf ds).map (b :: ·)
  | _ :: _ => none
def countB : FM := fun x xs S => match x, xs with
  | .ptr n, [.bl k] => match S[n]? with
    | some (.lst ds) => match boolsOf ds with
      | some bs => .ok (.int (bs.count k : Nat)) S
      | none => .bad
    | _ => .bad
  | _, _ => .bad
def indexB : FM := fun x xs S => match x, xs with
  | .ptr n, [.bl k] => match S[n]? with
    | some (.lst ds) => match boolsOf ds with
      | some bs => if k ∈ bs then .ok (.int (bs.idxOf k : Nat)) S else .bad
      | none => .bad
    | _ => .bad
  | _, _ => .bad
section
variable {X : Cx} {cl : Cl} {W : WX}
end
end MP
/-! MP81 -/
set_option Elab.async false
set_option autoImplicit false
set_option linter.all false
set_option maxRecDepth 100000
set_option maxHeartbeats 1000000
namespace MP
open PySem PySem.Spec L2
open PyProof.Rows hiding St

/-! ## e.f, e an error of one of the classes cs -/
def xfA (cs : List Str) (f : Str) : F1 := fun x S => match x with
  | .ptr n => match S[n]? with
    | some (.exc c fs) => if c ∈ cs then (match fs.lookup f with
      | some d => .ok d S
      | none => .bad) else .bad
    | _ => .bad
  | _ => .bad
section
variable {X : Cx} {cl : Cl} {W : WX} {f : Str} {e : Expr} {mo : M D} {pos : Pos}
end

/-! ## the plain layer -/
section
variable {ρ : Rho} {S : Sto} {F : Exn → Rho → Sto → Prop} {N B C : Rho → Sto → Prop} {R : D → Sto → Prop}
theorem wp_isiE {g : Str → Option Bool} {n : Nat} {c : Str} {fs : List (Str × D)} {b : Bool} {Q : D → Sto → Prop} (h : S[n]? = some (.exc c fs)) (hg : g c = some b) : Wp (isiE g (.ptr n) S) Q ↔ Q (.bl b) S := by
  simp only [isiE, h, hg, wp_ok]
end
end MP
/-! MP82 -/
set_option Elab.async false
set_option autoImplicit false
set_option linter.all false
set_option maxRecDepth 100000
set_option maxHeartbeats 1000000
namespace MP
open PySem PySem.Spec L2
open PyProof.Rows hiding St

/-! ## a set of tuples of texts -/
abbrev IsS (P : Program) (w : World) (h : Heap) (k : List Str) (b : Addr) : Prop := IsTupleKey (strKind P w) h k b
abbrev hS (P : Program) (w : World) (k : List Str) : Int := tupleKeyHash (strKind P w) k
def entS (P : Program) (w : World) (L : List (Addr × List Str)) : List (Int × Value) := L.map fun q => (hS P w q.2, Value.ref q.1)
section
variable {P : Program} {w : World} {A : Around} {E : Value → Shared → Prop} {s : Shared}
theorem vals_txt {k : List Str} {vs : List Value} (h : ItemsAre (strKind P w) k vs) : ∀ v ∈ vs, ∃ z u, v = Value.str z u := by
  induction h with
  | nil => exact fun _ h => by cases h
  | @cons k0 v0 _ _ h1 _ ih =>
    intro v m
    cases m with
    | head =>
      have q : Value.isStrOf k0 v0 = true := h1
      cases v0 with
      | str y t => exact ⟨y, t, rfl⟩
      | _ => simp [Value.isStrOf] at q
    | tail _ m => exact ih v m
theorem ofCls_txt (n : Nat) (z : Str) (u : Tok) : ofAClassStatement n (.str z u) = pure false := by cases n <;> rfl
theorem byVal_txt (n : Nat) (z : Str) (u : Tok) : hashByValue n (.str z u) = pure false := by cases n <;> simp [hashByValue]
/-- a tuple of texts is of no class statement -/
theorem ofCls_tup {k : List Str} {b : Addr} {Q : Bool → Shared → Prop} (x : IsS P w s.heap k b) (q : Q false s) : wpAny (model P w) A (ofAClassStatement 8 (.ref b)) Q E s := by
  have ty := x.typeIs
  obtain ⟨ob, its, m, g1, _, g2, g3⟩ := x
  have tt : (("tuple" : String) == "tuple") = true := by decide
  unfold ofAClassStatement
  refine wpAny_bind (wpAny_typeOf ty ?_)
  dsimp only
  simp only [tt, if_true, Bool.not_true, Bool.false_eq_true, if_false]
  show wpAny _ _ (seqItems? (.ref b) >>= _) _ _ s
  refine wpAny_bind (wpAny_seqItems g1 g2 ?_)
  dsimp only
  refine wpAny_bind (show wpAny _ _ (forIn its _ _) _ _ s from ?_)
  rw [← Array.forIn_toList]
  refine wpAny_forIn_list _ (fun left r s1 => (r.1 = none ∧ s1 = s) ∧ ∀ v ∈ left, ∃ z u, v = Value.str z u) _ ?_ ?_ _ _ ⟨⟨rfl, rfl⟩, vals_txt g3⟩
  · rintro v left r s1 ⟨⟨_, rfl⟩, al⟩
    obtain ⟨z, u, rfl⟩ := al v (List.mem_cons_self ..)
    rw [ofCls_txt]
    refine wpAny_bind (wpAny_pure ?_)
    simp only [Bool.false_eq_true, if_false]
    exact wpAny_pure ⟨⟨rfl, rfl⟩, fun v m => al v (.tail _ m)⟩
  · rintro ⟨r1, r2⟩ s1 ⟨⟨e, rfl⟩, _⟩
    dsimp only at e
    subst e
    exact wpAny_pure q
theorem byVal_tup {k : List Str} {b : Addr} {Q : Bool → Shared → Prop} (x : IsS P w s.heap k b) (q : ∀ y, Q y s) : wpAny (model P w) A (hashByValue 8 (.ref b)) Q E s := by
  have ty := x.typeIs
  obtain ⟨ob, its, m, g1, _, g2, g3⟩ := x
  unfold hashByValue
  refine wpAny_bind (wpAny_specialOf ty PySem.F.slot_tuple_hash.lookup ?_)
  show wpAny _ _ (seqItems? (.ref b) >>= _) _ _ s
  refine wpAny_bind (wpAny_seqItems g1 g2 ?_)
  refine wpAny_bind (show wpAny _ _ (forIn its _ _) _ _ s from ?_)
  rw [← Array.forIn_toList]
  refine wpAny_forIn_list _ (fun left r s1 => (r.1 = none ∧ s1 = s) ∧ ∀ v ∈ left, ∃ z u, v = Value.str z u) _ ?_ ?_ _ _ ⟨⟨rfl, rfl⟩, vals_txt g3⟩
  · rintro v left r s1 ⟨⟨_, rfl⟩, al⟩
    obtain ⟨z, u, rfl⟩ := al v (List.mem_cons_self ..)
    rw [byVal_txt]
    refine wpAny_bind (wpAny_pure ?_)
    simp only [Bool.not_false, if_true]
    exact wpAny_pure (wpAny_pure (q _))
  · rintro ⟨r1, r2⟩ s1 ⟨⟨e, rfl⟩, _⟩
    dsimp only at e
    subst e
    exact wpAny_pure (q _)
/-- the search among such tuples is not seen -/
theorem unseen {k : List Str} {b : Addr} {Q : Bool → Shared → Prop} (x : IsS P w s.heap k b) {ys : List Value} (al : ∀ y ∈ ys, ∃ k' c, y = Value.ref c ∧ IsS P w s.heap k' c) (q : Q false s) : wpAny (model P w) A (searchCouldBeSeen (.ref b) ys) Q E s := by
  unfold searchCouldBeSeen
  refine wpAny_bind (wpAny_forIn_list _ (fun left r s1 => (r.1 = none ∧ s1 = s) ∧ ∀ y ∈ left, ∃ k' c, y = Value.ref c ∧ IsS P w s.heap k' c) _ ?_ ?_ _ _ ⟨⟨rfl, rfl⟩, al⟩)
  · rintro v left r s1 ⟨⟨_, rfl⟩, al⟩
    obtain ⟨k', c, rfl, y⟩ := al v (List.mem_cons_self ..)
    have go : ∀ u ∈ left, ∃ k' c, u = Value.ref c ∧ IsS P w s1.heap k' c := fun u m => al u (.tail _ m)
    dsimp only
    by_cases same : (b == c || (carriedByValue (.ref b) && carriedByValue (.ref c))) = true
    · exact wp_if_pos same (wpAny_pure ⟨⟨rfl, rfl⟩, go⟩)
    · refine wp_if_neg same (wpAny_bind (wpAny_eqIsQuiet_tuple x ?_))
      simp only [Bool.not_true, Bool.false_eq_true, if_false]
      refine wpAny_bind (wpAny_eqIsQuiet_tuple y ?_)
      simp only [Bool.not_true, Bool.false_eq_true, if_false]
      refine wpAny_bind (ofCls_tup x ?_)
      simp only [Bool.false_eq_true, if_false]
      refine wpAny_bind (ofCls_tup y ?_)
      simp only [Bool.false_eq_true, if_false]
      exact wpAny_pure ⟨⟨rfl, rfl⟩, go⟩
  · rintro ⟨r1, r2⟩ s1 ⟨⟨e, rfl⟩, _⟩
    dsimp only at e
    subst e
    exact wpAny_pure q
end
end MP
/-! MP83 -/
set_option Elab.async false
set_option autoImplicit false
set_option linter.all false
set_option maxRecDepth 100000
set_option maxHeartbeats 1000000
namespace MP
open PySem PySem.Spec L2
open PyProof.Rows hiding St

/-- the state of the search for the hash H behind c steps -/
def prb (t : SetTable) (H : Int) (c : Nat) : SetTable.Probe := nth t.mask (runAt t.mask (SetTable.bits H % (t.mask + 1)) (SetTable.bits H)) c
theorem prb_j (t : SetTable) (H : Int) (c : Nat) : (prb t H c).j = way t.mask H c := rfl
theorem prb_add (t : SetTable) (H : Int) (c d : Nat) : nth t.mask (prb t H c) d = prb t H (c + d) := (nth_add t.mask c _ d).symm
theorem prb_dummy (t : SetTable) (H : Int) (c : Nat) : (prb t H c).dummy = none := by
  have one : ∀ p : SetTable.Probe, p.dummy = none → (adv t.mask p).dummy = none := fun p e => by
    unfold adv
    split <;> exact e
  have all : ∀ (c : Nat) (p : SetTable.Probe), p.dummy = none → (nth t.mask p c).dummy = none := fun c => by
    induction c with
    | zero => exact fun _ e => e
    | succ c ih => exact fun p e => ih _ (one p e)
  exact all c _ rfl
structure Bag (P : Program) (w : World) (h : Heap) (a : Addr) (L : List (Addr × List Str)) (es : Array (Int × Value)) (ep : Nat) (t : SetTable) : Prop where
  obj : ∃ o, h.get? a = some o ∧ o.ExactSet ∧ o.data = .set es ep t
  ent : es.toList = entS P w L
  tab : TabOk t (L.map fun q => hS P w q.2)
  nod : (L.map (·.2)).Nodup
  key : ∀ q ∈ L, IsS P w h q.2 q.1
  ldd : w.params.followText "set-order" = true ∨ t.led = true
  rm : L.length * 5 < t.mask * 3
  few : L.length < 64
section
variable {P : Program} {w : World} {A : Around} {E : Value → Shared → Prop} {s : Shared} {a : Addr} {L : List (Addr × List Str)} {es : Array (Int × Value)} {ep : Nat} {t : SetTable}
theorem ent_size {L : List (Addr × List Str)} {es : Array (Int × Value)} (e : es.toList = entS P w L) : es.size = L.length := by
  rw [← Array.length_toList, e, entS, List.length_map]
theorem ent_at {L : List (Addr × List Str)} {es : Array (Int × Value)} (e : es.toList = entS P w L) {i : Nat} {q : Addr × List Str} (h : L[i]? = some q) : es[i]? = some (hS P w q.2, Value.ref q.1) := by
  rw [← Array.getElem?_toList, e, entS, List.getElem?_map, h, Option.map_some]
theorem Bag.size {h : Heap} (R : Bag P w h a L es ep t) : es.size = L.length := ent_size R.ent
theorem Bag.place {h : Heap} (R : Bag P w h a L es ep t) : t.place.size = L.length := by rw [R.tab.sz, List.length_map]
theorem fits_of {t : SetTable} {n : Nat} (e : t.place.size = n) (d : t.dummies = #[]) (m : n ≤ t.mask) : t.fits n = true := by
  subst e
  simp [SetTable.fits, SetTable.fill, d, m]
theorem Bag.fits {h : Heap} (R : Bag P w h a L es ep t) : t.fits es.size = true := by
  rw [R.size]
  have := R.rm
  exact fits_of R.place R.tab.dm (by omega)
theorem Bag.stays {h : Heap} (R : Bag P w h a L es ep t) : ¬ t.gaveWay = true := by
  simp [SetTable.gaveWay, mask_odd R.tab.mok]
/-- the search -/
theorem Bag.find (R : Bag P w s.heap a L es ep t) {b : Addr} {k : List Str} (x : IsS P w s.heap k b) (hu : A.units < cLine) {K : Nat} (kf : K < 10 * SetTable.turns t.mask) (kn : way t.mask (hS P w k) K ∉ t.place.toList) (kb : ∀ c, c < K → way t.mask (hS P w k) c ∈ t.place.toList)
    {Q : SetFound → Shared → Prop} (yes : k ∈ L.map (·.2) → Q (.there none) s) (no : k ∉ L.map (·.2) → Q (.free (way t.mask (hS P w k) K) false) s) (f : Nat) : ∀ (c : Nat) (stand : Option SetTable.Probe), stand.getD (t.probeStart (hS P w k)) = prb t (hS P w k) c → c ≤ K → K - c < f →
      (∀ (i : Nat) (q : Addr × List Str), L[i]? = some q → q.2 = k → ∃ d, c ≤ d ∧ d < K ∧ t.place.toList[i]? = some (way t.mask (hS P w k) d)) → wpAny (model P w) A (setSearchFrom a (.ref b) (hS P w k) true f stand) Q E s := by
  obtain ⟨o, oa, ox, od⟩ := R.obj
  have hat : ∀ (i : Nat) (q : Addr × List Str), L[i]? = some q → (es[i]?.map (·.1)).getD 0 = hS P w q.2 := fun i q e => by rw [ent_at R.ent e]; rfl
  induction f with
  | zero => exact fun _ _ _ _ z => absurd z (Nat.not_lt_zero _)
  | succ f ih =>
    intro c stand hst cK cf ahead
    rw [setSearchFrom_succ]
    refine wpAny_bind (wpAny_setState_of oa od R.fits ?_)
    dsimp only
    refine wp_if_neg R.stays ?_
    have spec := go_spec t R.tab.ris R.tab.dm (fun i => (es[i]?.map (·.1)).getD 0) (hS P w k) (10 * SetTable.turns t.mask) (K - c) (prb t (hS P w k) c) (prb_dummy ..) (by omega)
      (fun d hd => by rw [prb_add, prb_j]; exact kb _ (by omega)) (by rw [prb_add, prb_j, Nat.add_sub_cancel' cK]; exact kn)
    have pe : t.probe (fun i => (es[i]?.map (·.1)).getD 0) (hS P w k) (stand.getD (t.probeStart (hS P w k))) = SetTable.probe.go t (fun i => (es[i]?.map (·.1)).getD 0) (hS P w k) (10 * SetTable.turns t.mask) (prb t (hS P w k) c) := by rw [hst]; rfl
    rw [pe]
    rcases spec with ⟨d, i, hd, hi, hh, hno, hgo⟩ | ⟨hno, hgo⟩
    · rw [hgo]
      dsimp only
      simp only [prb_add, prb_j] at hi hno ⊢
      have il : i < L.length := by
        have := (List.getElem?_eq_some_iff.mp hi).1
        rw [Array.length_toList, R.place] at this
        exact this
      obtain ⟨q, eq⟩ : ∃ q, L[i]? = some q := ⟨_, List.getElem?_eq_getElem il⟩
      have qm : q ∈ L := List.mem_of_getElem? eq
      have live := slot_live R.tab.ris hi
      have rest : wpAny (model P w) A (searchRest a (.ref b) (hS P w k) true f es t (way t.mask (hS P w k) (c + d)) i (prb t (hS P w k) (c + (d + 1)))) Q E s := by
        unfold searchRest
        rw [ent_at R.ent eq]
        dsimp only
        refine wpAny_bind (wpAny_holding (wpAny_eqBool_tuple hu (R.key q qm) x ?_))
        refine wpAny_bind (wpAny_setState_of oa od R.fits ?_)
        dsimp only
        by_cases same : q.2 = k
        · exact wp_if_pos (by simp [same]) (wpAny_pure (yes (List.mem_map.mpr ⟨q, qm, same⟩)))
        · refine wp_if_neg (by simp [same]) ?_
          rw [sameMem]
          dsimp only
          simp only [if_true, live, ent_at R.ent eq]
          refine wpAny_bind (wpAny_isSame_ref_self (wpAny_bind (wpAny_pure ?_)))
          simp only [if_true]
          refine wp_if_neg (by simp [same]) (ih (c + (d + 1)) _ rfl (by omega) (by omega) fun j r er ek => ?_)
          obtain ⟨e, e1, e2, e3⟩ := ahead j r er ek
          refine ⟨e, ?_, e2, e3⟩
          rcases Nat.lt_trichotomy e (c + d) with lt | eq2 | gt
          · refine absurd ((hat j r er).trans (congrArg (hS P w) ek)) (hno (e - c) j (by omega) ?_)
            rw [Nat.add_sub_cancel' e1]; exact e3
          · subst eq2
            have l2 := slot_live R.tab.ris e3
            rw [live] at l2
            injection l2 with l2
            rw [← l2, eq] at er
            cases er
            exact absurd ek same
          · omega
      by_cases ld : t.led = true
      · exact wp_if_neg (by simp [ld]) rest
      · refine wp_if_pos (by simp [ld]) (wpAny_bind (unseen x (fun y hy => ?_) (wp_if_neg (by decide) rest)))
        obtain ⟨g, hg, eg⟩ := List.mem_map.mp hy
        have g2 : g ∈ es.toList := by
          have := (Array.mem_filter.mp (Array.mem_toList_iff.mp hg)).1
          exact Array.mem_toList_iff.mpr this
        rw [R.ent] at g2
        obtain ⟨r, rm, er⟩ := List.mem_map.mp g2
        exact ⟨r.2, r.1, by rw [← eg, ← er], R.key r rm⟩
    · rw [hgo]
      dsimp only
      rw [prb_add, prb_j, Nat.add_sub_cancel' cK]
      refine wpAny_pure (no fun hm => ?_)
      obtain ⟨q, qm, ek⟩ := List.mem_map.mp hm
      obtain ⟨i, il, ei⟩ := List.getElem_of_mem qm
      have eq : L[i]? = some q := by rw [List.getElem?_eq_getElem il, ei]
      obtain ⟨e, e1, e2, e3⟩ := ahead i q eq ek
      refine hno (e - c) i (by omega) ?_ ((hat i q eq).trans (congrArg (hS P w) ek))
      rw [prb_add, prb_j, Nat.add_sub_cancel' e1]; exact e3
end
end MP
/-! MP84 -/
set_option Elab.async false
set_option autoImplicit false
set_option linter.all false
set_option maxRecDepth 100000
set_option maxHeartbeats 1000000
namespace MP
open PySem PySem.Spec L2
open PyProof.Rows hiding St

section
variable {P : Program} {w : World} {A : Around} {E : Value → Shared → Prop} {s : Shared} {a : Addr} {L : List (Addr × List Str)} {es : Array (Int × Value)} {ep : Nat} {t : SetTable}
theorem Bag.seek (R : Bag P w s.heap a L es ep t) {b : Addr} {k : List Str} (x : IsS P w s.heap k b) (hu : A.units < cLine) {Q : SetFound → Shared → Prop} (yes : k ∈ L.map (·.2) → Q (.there none) s)
    (no : ∀ K, k ∉ L.map (·.2) → way t.mask (hS P w k) K ∉ t.place.toList → (∀ c, c < K → way t.mask (hS P w k) c ∈ t.place.toList) → Q (.free (way t.mask (hS P w k) K) false) s) : wpAny (model P w) A (setSearch a (.ref b) (hS P w k) true) Q E s := by
  have rm := R.rm
  obtain ⟨K, kf, kn, kb⟩ := R.tab.first (by rw [List.length_map]; omega) (hS P w k)
  have small : 10 * SetTable.turns t.mask ≤ 1420 := by
    unfold SetTable.turns
    rcases R.tab.mok with e | e | e <;> rw [e] <;> decide
  unfold setSearch
  refine R.find x hu kf kn kb yes (fun h => no K h kn kb) 100000 0 none rfl (Nat.zero_le _) (by omega) fun i q eq ek => ?_
  have ih : (L.map fun q => hS P w q.2)[i]? = some (hS P w k) := by rw [List.getElem?_map, eq, Option.map_some, ek]
  have il : i < t.place.toList.length := by
    rw [Array.length_toList, R.place]
    exact (List.getElem?_eq_some_iff.mp eq).1
  obtain ⟨c, ck, ec⟩ := R.tab.before kn ih (List.getElem?_eq_getElem il)
  exact ⟨c, Nat.zero_le _, ck, by rw [List.getElem?_eq_getElem il, ec]⟩
theorem fm_congr {α β : Type} {f g : α → Option β} : ∀ {l : List α}, (∀ x ∈ l, f x = g x) → l.filterMap f = l.filterMap g
  | [], _ => rfl
  | x :: l, h => by
    have ih := fm_congr (l := l) fun y m => h y (.tail _ m)
    rw [List.filterMap_cons, List.filterMap_cons, h x (List.mem_cons_self ..), ih]
theorem pick_all {α : Type} : ∀ L : List α, (List.range L.length).filterMap (fun i => L[i]?) = L
  | [] => rfl
  | x :: L => by
    rw [List.length_cons, List.range_succ_eq_map, List.filterMap_cons, List.filterMap_map]
    simp only [List.getElem?_cons_zero, Function.comp_def, Nat.succ_eq_add_one, List.getElem?_cons_succ]
    rw [pick_all L]
theorem entS_get (e : es.toList = entS P w L) (i : Nat) : es[i]? = (L[i]?).map fun q => (hS P w q.2, Value.ref q.1) := by
  rw [← Array.getElem?_toList, e, entS, List.getElem?_map]
theorem keep_tup {h h' : Heap} {k : List Str} {b : Addr} {o : Obj} (x : IsS P w h k b) (oa : h.get? a = some o) (od : o.data = .set es ep t) (sb : Heap.SameBut a h h') : IsS P w h' k b := by
  obtain ⟨o', its, m, g1, g2, g3, g4⟩ := x
  refine ⟨o', its, m, (sb.2 b fun e => ?_).trans g1, g2, g3, g4⟩
  subst e
  rw [g1] at oa
  cases oa
  rw [g3] at od
  cases od
/-- the table is laid anew -/
theorem bag_relay {o : Obj} (oa : s.heap.get? a = some o) (ox : o.ExactSet) (od : o.data = .set es ep t) (ent : es.toList = entS P w L) (ps : t.place.size = es.size) (dm : t.dummies = #[]) (le : es.size ≤ t.mask) (nod : (L.map (·.2)).Nodup)
    (key : ∀ q ∈ L, IsS P w s.heap q.2 q.1) (ldd : w.params.followText "set-order" = true ∨ t.led = true) (few : L.length < 64) {wanted M : Nat} (hw : SetTable.sizeAbove wanted - 1 = M) (hM : MaskOk M) (hw2 : SetTable.sizeAbove wanted ≤ 128) (hn : L.length * 5 < M * 3)
    {Q : Unit → Shared → Prop} (q : ∀ h' L' es' ep' t', Heap.SameBut a s.heap h' → Bag P w h' a L' es' ep' t' → L'.Perm L → Q () { s with heap := h' }) : wpAny (model P w) A (setRelay a wanted) Q E s := by
  have sl := ent_size ent
  obtain ⟨t', order, e1, e2, T, e3, e4, e5, e6⟩ := relaid_ok t (hs := es.map (·.1)) (wanted := wanted) hw hM (by rw [Array.size_map, sl]; omega)
  rw [Array.size_map, sl] at e2
  have oi : ∀ i ∈ order.toList, i < L.length := fun i m => List.mem_range.mp (e2.mem_iff.mp m)
  obtain ⟨L2, eL⟩ : ∃ L2, L2 = order.toList.filterMap fun i => L[i]? := ⟨_, rfl⟩
  have r1 : (order.filterMap (es[·]?)).toList = entS P w L2 := by
    rw [Array.toList_filterMap, eL, entS, List.map_filterMap]
    exact fm_congr fun i _ => entS_get ent i
  have r2 : L2.Perm L := by
    have := e2.filterMap fun i => L[i]?
    rw [pick_all, ← eL] at this
    exact this
  have r3 : (L2.map fun q => hS P w q.2) = order.toList.map fun i => (es.map (·.1)).getD i 0 := by
    rw [eL, List.map_filterMap, ← List.filterMap_eq_map]
    refine fm_congr fun i m => ?_
    have il := oi i m
    have g := entS_get ent i
    rw [List.getElem?_eq_getElem il] at g ⊢
    simp only [Option.map_some, Function.comp] at g ⊢
    have g2 : (es.map (·.1))[i]? = some (hS P w L[i].2) := by rw [Array.getElem?_map, g]; rfl
    simp [Array.getD_eq_getD_getElem?, g2]
  rw [← r3] at T
  have s2 : (order.filterMap (es[·]?)).size = es.size := by rw [ent_size r1, r2.length_eq, sl]
  rw [setRelay_eq]
  refine wpAny_bind (wpAny_setState_of oa od (fits_of ps dm le) ?_)
  dsimp only
  refine wp_if_neg (by rw [sizeLine_eq]; omega) ?_
  rw [e1]
  dsimp only
  refine wpAny_bind (wp_if_neg (by rw [s2]; simp) (wpAny_pure ?_))
  dsimp only
  have sb : Heap.SameBut a s.heap (s.heap.update a (Obj.putSet (order.filterMap (es[·]?)) t')) := Heap.SameBut.update ..
  refine wpAny_storeSet_of oa od ?_ (by rw [s2, sl, sizeLine_eq]; omega)
  refine q _ L2 (order.filterMap (es[·]?)) (ep + 1) t' sb ?_ r2
  exact ⟨⟨_, store_at oa od, ⟨ox.1, ox.2.1, ox.2.2⟩, rfl⟩, r1, T, (r2.map (·.2)).nodup_iff.mpr nod, fun p pm => keep_tup (key p (r2.mem_iff.mp pm)) oa od sb, by rw [e4]; exact ldd, by rw [r2.length_eq, e3]; exact hn, by rw [r2.length_eq]; exact few⟩
end
end MP
/-! MP85 -/
set_option Elab.async false
set_option autoImplicit false
set_option linter.all false
set_option maxRecDepth 100000
set_option maxHeartbeats 1000000
namespace MP
open PySem PySem.Spec L2
open PyProof.Rows hiding St

theorem tab_plain {t : SetTable} {hs : List Int} (T : TabOk t hs) (b : Bool) : TabOk (if b = true then t else { t with plain := false }) hs := by
  cases b
  · exact ⟨T.ris, T.dm, T.sz, T.mok, T.bd, T.reach⟩
  · exact T
section
variable {P : Program} {w : World} {A : Around} {E : Value → Shared → Prop} {s : Shared} {a : Addr} {L : List (Addr × List Str)} {es : Array (Int × Value)} {ep : Nat} {t : SetTable}
theorem in_perm {α : Type} (L : List α) (n : Nat) (x : α) : (L.take n ++ x :: L.drop n).Perm (x :: L) := by
  have e := List.take_append_drop n L
  exact (List.perm_middle (a := x) (l₁ := L.take n) (l₂ := L.drop n)).trans (.of_eq (by rw [e]))
/-- an element is put in -/
theorem Bag.add (R : Bag P w s.heap a L es ep t) {b : Addr} {k : List Str} (x : IsS P w s.heap k b) (hu : A.units < cLine) (hf : L.length + 1 < 64) {Q : Bool → Shared → Prop}
    (q : ∀ y h' L' es' ep' t', Heap.SameBut a s.heap h' → Bag P w h' a L' es' ep' t' → (k ∈ L.map (·.2) → L' = L) → (k ∉ L.map (·.2) → L'.Perm ((b, k) :: L)) → Q y { s with heap := h' }) : wpAny (model P w) A (setAddHashed a (.ref b) (hS P w k)) Q E s := by
  obtain ⟨o, oa, ox, od⟩ := R.obj
  have sl := R.size
  have rm := R.rm
  unfold setAddHashed
  refine wpAny_holding ?_
  rw [show (100000 : Nat) = 99999 + 1 from rfl, setAddHashedIn_succ]
  refine wpAny_bind (wpAny_setState_of oa od R.fits ?_)
  dsimp only
  refine wp_if_neg (by simp [byScan, Value.scannable]) (wpAny_bind (R.seek x hu (fun hm => ?_) fun K hm kn kb => ?_))
  · dsimp only
    exact wpAny_pure (q false s.heap L es ep t (Heap.SameBut.refl a s.heap) R (fun _ => rfl) fun z => absurd hm z)
  dsimp only
  refine wpAny_bind (wpAny_setState_of oa od R.fits ?_)
  dsimp only
  obtain ⟨p1, p2, p3, p4, p5, _, _, _, p9⟩ := R.tab.put kn kb
  obtain ⟨n, en⟩ : ∃ n, n = SetTable.below t.place (way t.mask (hS P w k) K) := ⟨_, rfl⟩
  rw [← en] at p1 p2 p3
  obtain ⟨t1, et⟩ : ∃ t1, t1 = (t.put (way t.mask (hS P w k) K)).1 := ⟨_, rfl⟩
  have epair : t.put (way t.mask (hS P w k) K) = (t1, n) := by rw [et, ← p1]
  rw [epair] at p3 p4 p5 p9 ⊢
  dsimp only at p3 p4 p5 p9 ⊢
  obtain ⟨M1, eM⟩ : ∃ M1, M1 = L.take n ++ (b, k) :: L.drop n := ⟨_, rfl⟩
  have pm : M1.Perm ((b, k) :: L) := by rw [eM]; exact in_perm L n _
  have len : M1.length = L.length + 1 := pm.length_eq
  have hs1 : (M1.map fun q => hS P w q.2) = (L.map fun q => hS P w q.2).take n ++ hS P w k :: (L.map fun q => hS P w q.2).drop n := by rw [eM, List.map_append, List.map_cons, List.map_take, List.map_drop]
  rw [← hs1] at p3
  have nod1 : (M1.map (·.2)).Nodup := (pm.map (·.2)).nodup_iff.mpr (by rw [List.map_cons]; exact List.nodup_cons.mpr ⟨hm, R.nod⟩)
  obtain ⟨es1, ee⟩ : ∃ es1, es1 = SetTable.insertAt es n (hS P w k, Value.ref b) := ⟨_, rfl⟩
  have ent1 : es1.toList = entS P w M1 := by rw [ee, SetTable.toList_insertAt, R.ent, eM, entS, entS, List.map_append, List.map_cons, List.map_take, List.map_drop]
  have sl1 : es1.size = L.length + 1 := by rw [ent_size ent1, len]
  rw [← ee]
  -- whatever is known of the hash
  have main : ∀ y : Bool, wpAny (model P w) A (do
      storeSet a es1 (if y = true then t1 else { t1 with plain := false })
      if (!false && (if y = true then t1 else { t1 with plain := false }).tooFull) = true then do
        setRelay a (SetTable.grown (es.size + 1))
        pure true
      else pure true) Q E s := fun y => by
    obtain ⟨t2, e2⟩ : ∃ t2, t2 = (if y = true then t1 else { t1 with plain := false }) := ⟨_, rfl⟩
    have T2 : TabOk t2 (M1.map fun q => hS P w q.2) := by rw [e2]; exact tab_plain p3 y
    have m2 : t2.mask = t.mask := by rw [e2]; cases y <;> exact p4
    have l2 : t2.led = t.led := by rw [e2]; cases y <;> exact p5
    have f2 : t2.fill = L.length + 1 := by rw [List.length_map] at p9; rw [e2]; cases y <;> exact p9
    rw [← e2]
    refine wpAny_bind (wpAny_storeSet_of oa od ?_ (by rw [sl1, sizeLine_eq]; omega))
    have sb : Heap.SameBut a s.heap (s.heap.update a (Obj.putSet es1 t2)) := Heap.SameBut.update ..
    have oa1 := store_at (es' := es1) (t' := t2) oa od
    revert sb oa1
    generalize s.heap.update a (Obj.putSet es1 t2) = h1
    intro sb oa1
    have key1 : ∀ r ∈ M1, IsS P w h1 r.2 r.1 := fun r rm => by
      rcases List.mem_cons.mp (pm.mem_iff.mp rm) with rfl | rm
      · exact keep_tup x oa od sb
      · exact keep_tup (R.key r rm) oa od sb
    have ldd1 : w.params.followText "set-order" = true ∨ t2.led = true := by rw [l2]; exact R.ldd
    by_cases full : t2.tooFull = true
    · refine wp_if_pos (by simp [full]) (wpAny_bind ?_)
      have fl : (L.length + 1) * 5 ≥ t.mask * 3 := by
        have := full
        simp only [SetTable.tooFull, f2, m2, decide_eq_true_eq] at this
        exact this
      have big : ∀ M, SetTable.sizeAbove (SetTable.grown (L.length + 1)) - 1 = M → MaskOk M → SetTable.sizeAbove (SetTable.grown (L.length + 1)) ≤ 128 → (L.length + 1) * 5 < M * 3 → L.length + 1 ≤ t.mask →
          wpAny (model P w) A (setRelay a (SetTable.grown (es.size + 1))) (fun _ s' => wpAny (model P w) A (pure true) Q E s') E { s with heap := h1 } := fun M g1 g2 g3 g4 g5 => by
        rw [sl]
        refine bag_relay (s := { s with heap := h1 }) oa1 ⟨ox.1, ox.2.1, ox.2.2⟩ rfl ent1 ?_ T2.dm (by rw [sl1, m2]; exact g5) nod1 key1 ldd1 (by rw [len]; exact hf) g1 g2 g3 (by rw [len]; exact g4) fun h2 L2 es2 ep2 t3 sb2 R2 pm2 => ?_
        · rw [T2.sz, List.length_map, len, sl1]
        · exact wpAny_pure (q true h2 L2 es2 ep2 t3 (sb.trans sb2) R2 (fun z => absurd z hm) fun _ => pm2.trans pm)
      rcases R.tab.mok with e | e | e
      · have l4 : L.length = 4 := by rw [e] at fl rm; omega
        exact big 31 (by rw [l4, size_20]) (.inr (.inl rfl)) (by rw [l4, size_20]; decide) (by omega) (by omega)
      · have l18 : L.length = 18 := by rw [e] at fl rm; omega
        exact big 127 (by rw [l18, size_76]) (.inr (.inr rfl)) (by rw [l18, size_76]; decide) (by omega) (by omega)
      · rw [e] at fl
        omega
    · refine wp_if_neg (by simp [full]) (wpAny_pure (q true h1 M1 es1 (ep + 1) t2 sb ⟨⟨_, oa1, ⟨ox.1, ox.2.1, ox.2.2⟩, rfl⟩, ent1, T2, nod1, key1, ldd1, ?_, by rw [len]; exact hf⟩ (fun z => absurd z hm) fun _ => pm))
      simp only [SetTable.tooFull, f2, decide_eq_true_eq] at full
      rw [len]
      omega
  by_cases pl : t1.plain = true
  · first
      | exact wpAny_bind (wp_if_pos pl (byVal_tup x main))
      | exact wp_if_pos pl (wpAny_bind (byVal_tup x main))
  · first
      | exact wpAny_bind (wp_if_neg pl (wpAny_pure (main true)))
      | exact wp_if_neg pl (wpAny_bind (wpAny_pure (main true)))
end
end MP
/-! MP86 -/
set_option Elab.async false
set_option autoImplicit false
set_option linter.all false
set_option maxRecDepth 100000
set_option maxHeartbeats 1000000
namespace MP
open PySem PySem.Spec L2 PySem.Froz
open PyProof.Rows hiding St

/-! ## set(l), l a list of tuples of texts -/
section
variable {P : Program} {w : World} {A : Around} {E : Value → Shared → Prop} {s : Shared} {a : Addr} {L : List (Addr × List Str)} {es : Array (Int × Value)} {ep : Nat} {t : SetTable}
theorem isS_keep {h h' : Heap} {k : List Str} {b : Addr} (x : IsS P w h k b) (kp : ∀ o, h.get? b = some o → h'.get? b = some o) : IsS P w h' k b := by
  obtain ⟨o, its, m, g1, g⟩ := x
  exact ⟨o, its, m, kp o g1, g⟩
theorem Bag.keep {h h' : Heap} (R : Bag P w h a L es ep t) (k1 : ∀ o, h.get? a = some o → h'.get? a = some o) (k2 : ∀ q ∈ L, ∀ o, h.get? q.1 = some o → h'.get? q.1 = some o) : Bag P w h' a L es ep t :=
  ⟨R.obj.imp fun o x => ⟨k1 o x.1, x.2⟩, R.ent, R.tab, R.nod, fun q m => isS_keep (R.key q m) (k2 q m), R.ldd, R.rm, R.few⟩
theorem Bag.start {h : Heap} (e : h.get? a = some (setNew w)) : ∃ es ep t, Bag P w h a [] es ep t := by
  refine ⟨#[], 0, .fresh 0 0 (!w.params.followText "set-order"), ⟨_, e, ⟨rfl, rfl, rfl⟩, rfl⟩, rfl, ?_, List.nodup_nil, fun q m => (by cases m), ?_, (by show 0 * 5 < 7 * 3; decide), (by decide)⟩
  · exact ⟨List.Pairwise.nil, rfl, rfl, .inl rfl, fun x m => (by cases m), fun i h j e => (by simp at e)⟩
  · show _ ∨ (!w.params.followText "set-order") = true
    cases w.params.followText "set-order" <;> simp
/-- what the set has got from the first i items -/
def Part (P : Program) (w : World) (h : Heap) (a : Addr) (its : List Value) (ks : List (List Str)) (i : Nat) : Prop := ∃ L es ep t, Bag P w h a L es ep t ∧ L.length ≤ i ∧ (∀ q ∈ L, ∃ j : Nat, its[j]? = some (Value.ref q.1) ∧ ks[j]? = some q.2) ∧ ∀ (j : Nat) (k : List Str), j < i → ks[j]? = some k → k ∈ L.map (·.2)
theorem bag_loop {I : Addr} {fp wr : List Addr} {G : Array GenState → Array GenState → Prop} {n : Nat} {Pv : Nat → Value → Prop} {St : Nat → Shared → Prop} {R : Result → Shared → Prop} (W : WalksS P w A.in1 I fp wr G n Pv St) (no : a ∉ fp) (hu : A.units + 5 < cLine) {its : List Value} {ks : List (List Str)} (en : n = ks.length) (room : ks.length < 60)
    (val : ∀ i v, Pv i v → ∃ b k, v = Value.ref b ∧ its[i]? = some (Value.ref b) ∧ ks[i]? = some k) (nt : ∀ (j : Nat) (b : Addr), its[j]? = some (Value.ref b) → b ∉ wr ∧ b ≠ a) (k : Nat) : ∀ (i : Nat) (s : Shared), i + k = n → St i s → Part P w s.heap a its ks i →
      (∀ (j : Nat) (b : Addr) (k : List Str), its[j]? = some (Value.ref b) → ks[j]? = some k → IsS P w s.heap k b) →
      (∀ s', Moved (a :: wr) G s s' → Part P w s'.heap a its ks n → R (.ok (.ret .none)) s') → codeAny (model P w) A (.builtin "set.update.loop" ⟨[.ref a, .ref I], []⟩) R s := by
  have nw : a ∉ wr := fun z => no (W.sub _ z)
  have up : ∀ b ∈ wr, b ∈ a :: wr := fun _ z => List.mem_cons_of_mem _ z
  have go : ∀ {s s' : Shared} {i : Nat}, Moved wr G s s' → Part P w s.heap a its ks i → Part P w s'.heap a its ks i := fun {s s' i} mv ⟨L, es, ep, t, B, p1, p2, p3⟩ =>
    ⟨L, es, ep, t, B.keep (fun o q => mv.heap a o nw q) (fun q m o e => by
      obtain ⟨j, j1, _⟩ := p2 q m
      exact mv.heap _ o (nt j _ j1).1 e), p1, p2, p3⟩
  induction k with
  | zero =>
    intro i s e st x tu done
    refine codeAny_builtin PyProof.Rows.F.entry_set_update_loop ?_
    rw [Around.under_plainId PyProof.Rows.F.plain_set_update_loop _]
    have hi : i = n := by omega
    subst hi
    exact wpAny_bind (W.done s _ _ st fun s' mv => wpAny_pure (done s' (mv.mono up) (go mv x)))
  | succ k ih =>
    intro i s e st x tu done
    refine codeAny_builtin PyProof.Rows.F.entry_set_update_loop ?_
    rw [Around.under_plainId PyProof.Rows.F.plain_set_update_loop _]
    refine wpAny_bind (W.item i s _ _ (by omega) st fun v s' pv st' mv => ?_)
    obtain ⟨b, kk, rfl, hb, hk⟩ := val i v pv
    obtain ⟨L, es, ep, t, B, p1, p2, p3⟩ := go mv x
    have tu' : ∀ (j : Nat) (b : Addr) (k : List Str), its[j]? = some (Value.ref b) → ks[j]? = some k → IsS P w s'.heap k b := fun j b k e1 e2 => isS_keep (tu j b k e1 e2) fun o q => mv.heap _ o (nt j b e1).1 q
    refine wpAny_bind (wpAny_holding ?_)
    unfold setAdd
    refine wpAny_holding (wpAny_bind ((tupleKind (strKind P w)).pyHash (k := kk) (by show A.units + 1 < cLine; omega) (tu' i b kk hb hk) ?_))
    refine Bag.add (s := { s' with toks := s'.toks + (tupleKind (strKind P w)).draws kk }) B (tu' i b kk hb hk) (by show A.units + 1 < cLine; omega) (by omega) fun y h' L' es' ep' t' sb B' q1 q2 => ?_
    have P2 : Part P w h' a its ks (i + 1) := by
      by_cases hm : kk ∈ L.map (·.2)
      · have eL := q1 hm
        subst eL
        refine ⟨L', es', ep', t', B', by omega, p2, fun j k2 hj ek => ?_⟩
        rcases Nat.lt_or_ge j i with lt | ge
        · exact p3 j k2 lt ek
        · have : j = i := by omega
          subst this
          rw [hk] at ek
          cases ek
          exact hm
      · have pL := q2 hm
        refine ⟨L', es', ep', t', B', by rw [pL.length_eq, List.length_cons]; omega, fun q m => ?_, fun j k2 hj ek => ?_⟩
        · rcases List.mem_cons.mp (pL.mem_iff.mp m) with rfl | m
          · exact ⟨i, hb, hk⟩
          · exact p2 q m
        · refine ((pL.map (·.2)).mem_iff).mpr ?_
          rw [List.map_cons]
          rcases Nat.lt_or_ge j i with lt | ge
          · exact .tail _ (p3 j k2 lt ek)
          · have : j = i := by omega
            subst this
            rw [hk] at ek
            cases ek
            exact List.mem_cons_self ..
    have tu2 : ∀ (j : Nat) (b : Addr) (k : List Str), its[j]? = some (Value.ref b) → ks[j]? = some k → IsS P w h' k b := fun j b k e1 e2 => isS_keep (tu' j b k e1 e2) fun o q => (sb.2 b (nt j b e1).2).trans q
    refine wpAny_pure ⟨plainId_quiet PyProof.Rows.F.plain_set_update_loop _, ih (i + 1) _ (by omega) (W.frame _ s' _ _ st' (Nat.le_add_right _ _) fun b hb o q => (sb.2 b fun z => no (z ▸ hb)).trans q) P2 tu2 fun s2 mv2 x3 => ?_⟩
    exact done s2 (Moved.trans W.gtrans ((mv.mono up).then_heap (Nat.le_add_right _ _) fun b o hb q => (sb.2 b fun z => hb (z ▸ List.mem_cons_self)).trans q) mv2) x3
end
end MP
/-! MP87 -/
set_option Elab.async false
set_option autoImplicit false
set_option linter.all false
set_option maxRecDepth 100000
set_option maxHeartbeats 1000000
namespace MP
open PySem PySem.Spec L2 PySem.Froz
open PyProof.Rows hiding St
section
variable {P : Program} {w : World} {A : Around} {E : Value → Shared → Prop} {s : Shared}
def BagLeft (P : Program) (w : World) (s : Shared) (its : List Value) (ks : List (List Str)) (s' : Shared) : Prop := ∃ h' tk, s' = { s with heap := h', toks := tk } ∧ Part P w h' s.heap.objs.size its ks ks.length ∧ ∀ b o, s.heap.get? b = some o → h'.get? b = some o
theorem set_of_tups {l : Addr} {items : Array Value} {ks : List (List Str)} {Q : Value → Shared → Prop} (hh : A.handled = none) (hu : A.units + 40 < cLine) (hl : s.heap.IsList l items) (len : items.size = ks.length) (room : ks.length < 60)
    (tup : ∀ (j : Nat) (v : Value), items[j]? = some v → ∃ b k, v = Value.ref b ∧ ks[j]? = some k ∧ IsS P w s.heap k b) (q : ∀ s', BagLeft P w s items.toList ks s' → Q (.ref s.heap.objs.size) s') : wpAny (model P w) A (call (.type "set") [.ref l]) Q E s := by
  obtain ⟨ol, hol, hcl, nl, hdl⟩ := id hl
  have hlS : l < s.heap.objs.size := Heap.lt_size hol
  have top : (s.heap.push (setNew w)).get? s.heap.objs.size = some (setNew w) := Heap.get?_push_size _ rfl
  have low : ∀ {b o}, s.heap.get? b = some o → (s.heap.push (setNew w)).get? b = some o := fun e => Heap.get?_push_of_some _ e
  obtain ⟨c, tl, m1⟩ := PySem.F.called_set.mro
  have m2 := PySem.F.called_set.made
  have m3 := PySem.F.called_set.sub
  have m4 := PySem.F.called_set.notType
  have m5 := PySem.F.called_set.canCreate
  have m6 := PySem.F.typeCall_set_1 (.ref l)
  refine wpAny_call (codeAny_of_tree (show wpAny _ _ (callAny (.type "set") _) _ _ _ from wpAny_pure ⟨Code.quiet_builtin _ (by decide +kernel), codeAny_builtin PySem.F.entry_type_call ?_⟩))
  rw [Around.under_plain (weight_type_call_type "set" [.ref l] []) rfl]
  repeat (any_goals (first | assumption | wp_step))
  refine codeAny_mono (L2.code_set_led1 (.ref l) (E := E) (Q₁ := fun ob t => ob = .ref s.heap.objs.size ∧ t = { s with heap := s.heap.push (setNew w) }) ⟨rfl, rfl⟩) fun r t hr => ?_
  match r, hr with
  | .error _, hr => exact hr
  | .ok .next, hr => exact hr.elim
  | .ok .brk, hr => exact hr.elim
  | .ok .cont, hr => exact hr.elim
  | .ok (.ret ob), hr =>
    obtain ⟨rfl, rfl⟩ := hr
    have ty : Shared.TypeIs { s with heap := s.heap.push (setNew w) } (.ref s.heap.objs.size) "set" := ⟨_, top, rfl⟩
    have i1 := PySem.F.called_set.init.lookup
    have i2 := PySem.F.called_set.init.bind (.ref s.heap.objs.size)
    repeat (any_goals (first | assumption | wp_step))
    refine codeAny_mono (codeAny_call_builtin (R := wants (fun r t => r = .none ∧ BagLeft P w s items.toList ks t) E) PySem.F.called_set.init.plain PySem.F.entry_set_init (check_set_init_1 ty ?_)) fun r2 t2 hr2 => ?_
    · obtain ⟨k1, k2, k3, k4⟩ := ol
      simp only at hcl hdl
      subst hcl hdl
      have hl1 : (s.heap.push (setNew w)).IsList l items := ⟨_, low hol, rfl, nl, rfl⟩
      have hol' := low hol
      have b1 := PySem.F.sub_list_set
      have b2 := PySem.F.sub_list_frozenset
      have b3 : (Value.type "list" == Value.type "dict") = false := by decide
      unfold Builtin.«set.__init__» noKeywords Builtin.Frozenset.updateFrom
      generalize hPI : pyIter = PI
      wp_walk
      subst hPI
      refine wpAny_pyIter_list hl1 (wpAny_bind (wpAny_runValue ?_))
      have sz := size1 s.heap (setNew w)
      have ni : l ≠ (s.heap.push (setNew w)).objs.size := by rw [sz]; exact Nat.ne_of_lt (Nat.lt_succ_of_lt hlS)
      have no : s.heap.objs.size ∉ [(s.heap.push (setNew w)).objs.size, l] := by
        simp only [List.mem_cons, List.not_mem_nil, or_false, not_or]; rw [sz]; exact ⟨Nat.ne_of_lt (Nat.lt_succ_self _), Nat.ne_of_gt hlS⟩
      have low2 : ∀ {b o}, s.heap.get? b = some o → ((s.heap.push (setNew w)).push { cls := .type "list_iterator", data := .fields #[.ref l, rawInt 0] }).get? b = some o := fun e => Heap.get?_push_of_some _ (low e)
      have iget : ∀ (j : Nat) (v : Value), items.toList[j]? = some v → items[j]? = some v := fun j v e => by rw [← Array.getElem?_toList]; exact e
      have old : ∀ (j : Nat) (b : Addr), items.toList[j]? = some (Value.ref b) → b < s.heap.objs.size := fun j b e => by
        obtain ⟨b2, k, e2, _, x⟩ := tup j _ (iget j _ e)
        cases e2
        obtain ⟨o, _, _, g1, _⟩ := x
        exact Heap.lt_size g1
      have val : ∀ (i : Nat) (v : Value), items[i]? = some v → ∃ b k, v = Value.ref b ∧ items.toList[i]? = some (Value.ref b) ∧ ks[i]? = some k := fun i v hv => by
        obtain ⟨b, k, rfl, hk, _⟩ := tup i v hv
        exact ⟨b, k, rfl, by rw [Array.getElem?_toList]; exact hv, hk⟩
      obtain ⟨es0, ep0, t0, B0⟩ := Bag.start (P := P) (w := w) (a := s.heap.objs.size) (Heap.get?_push_of_some _ top)
      refine bag_loop ((Walks.list (by simp [hh]) _ l ni items).toS) no (by show A.units + 1 + 1 + 5 < cLine; omega) len room val (fun j b e => ?_) items.size 0 _ (by omega) ⟨⟨_, Heap.get?_push_size _ rfl, rfl, rfl⟩, hl1.push _⟩ ⟨[], es0, ep0, t0, B0, Nat.le_refl _, fun q m => (by cases m), fun j k z => absurd z (Nat.not_lt_zero _)⟩ (fun j b k e1 e2 => ?_) fun s' mv x => ?_
      · have := old j b e
        simp only [List.mem_cons, List.not_mem_nil, or_false]
        rw [sz]
        exact ⟨Nat.ne_of_lt (Nat.lt_succ_of_lt this), Nat.ne_of_lt this⟩
      · obtain ⟨b2, k2, e3, e4, y⟩ := tup j _ (iget j _ e1)
        cases e3
        rw [e4] at e2
        cases e2
        exact isS_keep y fun o z => Heap.get?_push_of_some _ (low z)
      obtain ⟨h', g', d', tk', os'⟩ := s'
      have e1 : g' = s.gens := mv.gens
      have e2 : d' = s.drawn := mv.drawn
      have e3 : os' = s.os := mv.os
      subst e1 e2 e3
      refine wpAny_pure (wpAny_pure ⟨rfl, h', tk', rfl, by rw [← len]; exact x, fun b o e => ?_⟩)
      have lb := Heap.lt_size e
      refine mv.heap b o ?_ (Heap.get?_push_of_some _ (low e))
      simp only [List.mem_cons, List.not_mem_nil, or_false, not_or]
      rw [sz]
      exact ⟨Nat.ne_of_lt lb, Nat.ne_of_lt (Nat.lt_succ_of_lt lb)⟩
    · match r2, hr2 with
      | .error _, hr2 => exact hr2
      | .ok .next, hr2 => exact hr2.elim
      | .ok .brk, hr2 => exact hr2.elim
      | .ok .cont, hr2 => exact hr2.elim
      | .ok (.ret _), hr2 =>
        obtain ⟨rfl, hq⟩ := hr2
        have hq2 := q _ hq
        obtain ⟨h', tk, rfl, _, _⟩ := hq
        repeat (any_goals (first | assumption | wp_step))
end
end MP
/-! MP88 -/
set_option Elab.async false
set_option autoImplicit false
set_option linter.all false
set_option maxRecDepth 100000
set_option maxHeartbeats 1000000
namespace MP
open PySem PySem.Spec L2 PySem.Froz
open PyProof.Rows hiding St

/-! ## sorted(set(l)), l a list of pairs of texts -/
def prOf : D → Option (Str × Str)
  | .tup [.str a, .str b] => some (a, b)
  | _ => none
def prsOf : List D → Option (List (Str × Str))
  | [] => some []
  | d :: ds => match prOf d, prsOf ds with
    | some p, some ps => some (p :: ps)
    | _, _ => none
def prD (p : Str × Str) : D := .tup [.str p.1, .str p.2]
/-- each but once -/
def once : List (Str × Str) → List (Str × Str)
  | [] => []
  | p :: ps => if p ∈ ps then once ps else p :: once ps
def ssetT : FL
  | [.ptr n], S => match listAt S n with
    | some ds => match prsOf ds with
      | some ps => if ps.length < 60 then newL (srt ((once ps).map prD)) S else .bad
      | none => .bad
    | none => .bad
  | _, _ => .bad
theorem mem_once {p : Str × Str} : ∀ {ps : List (Str × Str)}, p ∈ once ps ↔ p ∈ ps
  | [] => Iff.rfl
  | q :: ps => by
    rw [once]
    split
    · rename_i h
      rw [mem_once, List.mem_cons]
      exact ⟨.inr, fun e => e.elim (fun e => e ▸ h) id⟩
    · rw [List.mem_cons, List.mem_cons, mem_once]
theorem once_nodup : ∀ ps : List (Str × Str), (once ps).Nodup
  | [] => List.nodup_nil
  | q :: ps => by
    rw [once]
    split
    · exact once_nodup ps
    · rename_i h
      exact List.nodup_cons.mpr ⟨fun m => h (mem_once.mp m), once_nodup ps⟩
theorem once_len : ∀ ps : List (Str × Str), (once ps).length ≤ ps.length
  | [] => Nat.le_refl _
  | q :: ps => by
    rw [once]
    have := once_len ps
    split <;> simp only [List.length_cons] <;> omega
theorem prsOf_some : ∀ {ds : List D} {ps : List (Str × Str)}, prsOf ds = some ps → ds = ps.map prD
  | [], ps, h => by simp only [prsOf, Option.some.injEq] at h; subst h; rfl
  | d :: ds, ps, h => by
    simp only [prsOf] at h
    split at h
    · rename_i p qs h1 h2
      cases h
      rw [prsOf_some h2, List.map_cons]
      congr 1
      unfold prOf at h1
      split at h1
      · cases h1; rfl
      · cases h1
    · cases h
theorem prsOf_map : ∀ ps : List (Str × Str), prsOf (ps.map prD) = some ps
  | [] => rfl
  | p :: ps => by simp only [List.map_cons, prsOf, prsOf_map ps, prD, prOf]
theorem nodup_perm {α : Type} [DecidableEq α] : ∀ {l m : List α}, l.Nodup → m.Nodup → (∀ x, x ∈ l ↔ x ∈ m) → l.Perm m
  | [], m, _, _, h => by
    cases m with
    | nil => exact .refl _
    | cons x m => exact absurd ((h x).mpr (List.mem_cons_self ..)) (List.not_mem_nil)
  | x :: l, m, hl, hm, h => by
    have xm : x ∈ m := (h x).mp (List.mem_cons_self ..)
    rw [List.nodup_cons] at hl
    have pm := List.perm_cons_erase xm
    have hm2 := pm.nodup_iff.mp hm
    rw [List.nodup_cons] at hm2
    refine (List.Perm.cons x (nodup_perm hl.2 hm2.2 fun y => ?_)).trans pm.symm
    have e := h y
    rw [pm.mem_iff, List.mem_cons, List.mem_cons] at e
    constructor
    · intro yl
      rcases e.mp (.inr yl) with rfl | q
      · exact absurd yl hl.1
      · exact q
    · intro ym
      rcases e.mpr (.inr ym) with rfl | q
      · exact absurd ym hm2.1
      · exact q
theorem unmap_perm {α β : Type} [DecidableEq α] {f : α → β} : ∀ {out : List β} {L : List α}, out.Perm (L.map f) → ∃ L' : List α, out = L'.map f ∧ L'.Perm L
  | [], L, h => by
    have := h.symm.eq_nil
    rw [List.map_eq_nil_iff] at this
    subst this
    exact ⟨[], rfl, .refl _⟩
  | x :: out, L, h => by
    obtain ⟨q, qm, rfl⟩ := List.mem_map.mp (h.mem_iff.mp (List.mem_cons_self ..))
    have pq := List.perm_cons_erase qm
    have h2 : (f q :: out).Perm (f q :: (L.erase q).map f) := h.trans (pq.map f)
    obtain ⟨L', e, p⟩ := unmap_perm (List.Perm.cons_inv h2)
    exact ⟨q :: L', by rw [e]; rfl, (p.cons q).trans pq.symm⟩
theorem items_txt {P : Program} {w : World} : ∀ {ks : List Str} {us : List Value}, Vals (ks.map V.str) us → ItemsAre (strKind P w) ks us
  | [], _, .nil => .nil
  | k :: ks, _, .cons h t => by
    obtain ⟨u, rfl⟩ := h
    exact .cons (strKind_is _ _ _ _) (items_txt t)
section
variable {X : Cx} {cl : Cl} {W : WX}
theorem isS_of {pins : List (Addr × Obj)} {s : Shared} {σ : L2.St} {H : Hp} {io : List Addr} {ks : List Str} {v : V} {u : Value} (I : Inv X pins σ H s) (r : RelD X.K io H (.tup (ks.map D.str)) v) (ru : RelV v u) : ∃ b, v = .ref b ∧ u = .ref b ∧ IsS X.prog X.w s.heap ks b := by
  cases r with
  | @tup b _ vs hq rs =>
    cases (show u = Value.ref b from ru)
    obtain ⟨e, _⟩ := rel_strs rs
    subst e
    obtain ⟨its, rv, ⟨o, g1, g2, m, g3⟩, _⟩ := I.tuple hq.1
    exact ⟨b, rfl, rfl, o, _, m, g1, g2, g3, by simpa using items_txt rv⟩
theorem cb_ssetT (hc : X.calm = true) (hu : X.A.units + 65 < cLine) {pins : List (Addr × Obj)} {s : Shared} {σ : L2.St} {H : Hp} {io : List Addr} {S : Sto} {a : Addr} {ps : List (Str × Str)} {ws : List V} {its : List Value} (I : Inv X pins σ H s) (A : Abs X.K cl io S H)
    (rl : RelDs X.K io H (ps.map prD) ws) (rv : Vals ws its) (room : ps.length < 60) (x : Part X.prog X.w s.heap a its (ps.map fun p => [p.1, p.2]) ps.length) :
    wpAny (model X.prog X.w) X.A (call (.builtin "sorted") [.ref a]) (EvP X cl pins σ io H (newL (srt ((once ps).map prD)) S)) X.xe s := by
  obtain ⟨L, es, ep, t, B, p1, p2, p3⟩ := x
  obtain ⟨o, oa, ox, od⟩ := B.obj
  refine sorted_coreP hu I A (args_sorted1' _) fun Q E' k => ?_
  refine collect_set (A := X.A.in1) (I.ok.hd hc) ⟨o, oa, ox.1, od⟩ B.fits ?_ B.tab.ris B.ldd fun s' out keep _ hg ho pm => ?_
  · rw [B.size]; unfold scanBound; omega
  · rw [B.ent, entS, List.map_map] at pm
    obtain ⟨L', eo, pL⟩ := unmap_perm (f := fun q : Addr × List Str => Value.ref q.1) pm
    obtain ⟨h', g', d', tk', os'⟩ := s'
    simp only at hg ho
    subst hg ho
    -- the pairs
    have one : ∀ q ∈ L', ∃ p : Str × Str, p ∈ ps ∧ q.2 = [p.1, p.2] ∧ RelD X.K io H (prD p) (V.ref q.1) := fun q m => by
      obtain ⟨j, j1, j2⟩ := p2 q (pL.mem_iff.mp m)
      rw [List.getElem?_map, Option.map_eq_some_iff] at j2
      obtain ⟨p, ep, eq⟩ := j2
      have ed : (ps.map prD)[j]? = some (prD p) := by rw [List.getElem?_map, ep]; rfl
      obtain ⟨v, ev, rd⟩ := rl.get ed
      obtain ⟨u, eu, ru⟩ := rv.get ev
      rw [j1] at eu
      cases eu
      have ev2 : v = V.ref q.1 := by
        cases rd with
        | tup _ _ => have := show Value.ref q.1 = Value.ref _ from ru; cases this; rfl
      subst ev2
      exact ⟨p, List.mem_of_getElem? ep, eq.symm, rd⟩
    have many : ∀ M : List (Addr × List Str), (∀ q ∈ M, ∃ p : Str × Str, p ∈ ps ∧ q.2 = [p.1, p.2] ∧ RelD X.K io H (prD p) (V.ref q.1)) → ∃ qs : List (Str × Str), RelDs X.K io H (qs.map prD) (M.map fun q => V.ref q.1) ∧ M.map (·.2) = qs.map (fun p => [p.1, p.2]) ∧ ∀ p ∈ qs, p ∈ ps := by
      intro M
      induction M with
      | nil => exact fun _ => ⟨[], .nil, rfl, fun _ m => by cases m⟩
      | cons q M ih =>
        intro h
        obtain ⟨p, pm, e, r⟩ := h q (List.mem_cons_self ..)
        obtain ⟨qs, r1, r2, r3⟩ := ih fun q m => h q (.tail _ m)
        exact ⟨p :: qs, .cons r r1, by rw [List.map_cons, List.map_cons, e, r2], fun p' m => by
          rcases List.mem_cons.mp m with rfl | m
          · exact pm
          · exact r3 _ m⟩
    obtain ⟨qs, r1, r2, r3⟩ := many L' one
    have vv : Vals (L'.map fun q => V.ref q.1) out := by
      rw [eo]
      clear eo pL one r1 r2
      induction L' with
      | nil => exact .nil
      | cons q L' ih => exact .cons rfl ih
    have qn : qs.Nodup := by
      have h1 := (pL.map (·.2)).nodup_iff.mpr B.nod
      rw [r2] at h1
      exact List.Pairwise.of_map _ (fun _ _ ne e => ne (by rw [e])) h1
    have pq : qs.Perm (once ps) := nodup_perm qn (once_nodup ps) fun p => by
      rw [mem_once]
      refine ⟨r3 p, fun m => ?_⟩
      obtain ⟨j, jl, ej⟩ := List.getElem_of_mem m
      have h1 := p3 j [p.1, p.2] jl (by rw [List.getElem?_map, List.getElem?_eq_getElem jl, ej]; rfl)
      have h2 := ((pL.map (·.2)).mem_iff).mpr h1
      rw [r2] at h2
      obtain ⟨p', m', e'⟩ := List.mem_map.mp h2
      simp only [List.cons.injEq, and_true] at e'
      rw [← Prod.ext (x := p') (y := p) e'.1 e'.2]
      exact m'
    have ln := once_len ps
    refine k h' tk' d' out (qs.map prD) (L'.map fun q => V.ref q.1) keep r1 vv (srtOk_pairs (fun d m => ?_) (by rw [List.length_map, pq.length_eq]; omega)) ?_
    · obtain ⟨p, _, rfl⟩ := List.mem_map.mp m
      exact ⟨p.1, p.2, rfl⟩
    · refine srt_perm (pq.map prD) fun d m e m' h => ?_
      obtain ⟨p, _, rfl⟩ := List.mem_map.mp m
      obtain ⟨p', _, rfl⟩ := List.mem_map.mp m'
      obtain ⟨e1, e2⟩ := key_pair h
      rw [prD, prD, e1, e2]
variable {e : Expr} {m : M D} {p p2 p3 pos pos2 : Pos}
theorem ev_ssetT (hc : X.calm = true) (hu : X.A.units + 65 < cLine) (hm : X.mg "sorted" = none) (hm2 : X.mg "set" = none) (he : EvE X cl W e m) (hg : Gl X "sorted" := by rfl) (hg2 : Gl X "set" := by rfl)
    (hs : starEach [e] X.env = [(false, eval e X.env)] := by rfl) : EvE X cl W (.Call (.Name "sorted" p) [.Call (.Name "set" p2) [e] [] pos2] [] pos) (mDisp ssetT (mCons m mNil)) := by
  refine ⟨fun pins s σ H io ρ S I A R G => ?_⟩
  have ha := ea_cons (es := []) he ea_nil hs
  refine wpAny_Call_Name_kw (ld_blt I hg hm PyProof.Rows.boot_sorted (PyProof.Rows.callWith_builtin1 ?_ rfl rfl) (by decide) (by decide))
  refine Calls.spliced_cons (wpAny_Call_Name_kw (ld_blt I hg2 hm2 PyProof.Rows.boot_set (PyProof.Rows.callWith_type1 (ha.bind I A R G fun ds S1 io1 H1 vs us s1 em I1 A1 g1 R1 rs rv G1 => ?_) hs rfl) (by decide) (by decide)))
  have e2 : mDisp ssetT (mCons m mNil) ρ S = ssetT ds S1 := by unfold mDisp; rw [em]; rfl
  rw [e2]
  clear e2 G em
  unfold ssetT at G1 ⊢
  split at G1
  · rename_i n
    cases rs with
    | cons r1 r2 =>
      cases r2
      cases rv with
      | cons u1 u2 =>
        cases u2
        cases r1 with
        | @ptr _ l hn =>
          cases (show _ = Value.ref l from u1)
          split at G1
          · rename_i ds hd
            split at G1
            · rename_i ps hz
              split at G1
              · rename_i room
                rw [if_pos room]
                obtain ⟨ws, hq, rl⟩ := ptr_list A1 hn hd
                obtain ⟨its, rvl, pl, _⟩ := I1.list hq
                have ed := prsOf_some hz
                subst ed
                have li : its.length = ps.length := by rw [← rvl.length, ← rl.length, List.length_map]
                refine set_of_tups (items := its.toArray) (ks := ps.map fun p => [p.1, p.2]) (I1.ok.hd hc) (by omega) pl.isList (by simp [li]) (by simpa using room) (fun j v ev => ?_) fun s2 left => ?_
                · have ev2 : its[j]? = some v := by simpa using ev
                  have jl : j < ps.length := by rw [← li]; exact (List.getElem?_eq_some_iff.mp ev2).1
                  have ed : (ps.map prD)[j]? = some (prD ps[j]) := by rw [List.getElem?_map, List.getElem?_eq_getElem jl]; rfl
                  obtain ⟨w0, ew, rd⟩ := rl.get ed
                  obtain ⟨u, eu, ru⟩ := rvl.get ew
                  rw [ev2] at eu
                  cases eu
                  obtain ⟨b, _, e3, is⟩ := isS_of (ks := [ps[j].1, ps[j].2]) I1 rd ru
                  exact ⟨b, _, e3, by rw [List.getElem?_map, List.getElem?_eq_getElem jl]; rfl, is⟩
                obtain ⟨h', tk, rfl, x, keep⟩ := left
                have I2 : Inv X pins σ H1 { s1 with heap := h', toks := tk } := I1.kept (t' := tk) keep
                rw [List.length_map] at x
                exact Calls.spliced_nil (thn (cb_ssetT hc hu I2 A1 rl rvl room (by simpa using x)) fun u s3 q => q.back g1)
              · exact False.elim G1
            · exact False.elim G1
          · exact False.elim G1
  · exact False.elim G1
end
end MP
/-! MP89 -/
set_option Elab.async false
set_option autoImplicit false
set_option linter.all false
set_option maxRecDepth 100000
namespace MP
open PySem PySem.Spec L2 PySem.Froz
open PyProof.Rows hiding St

/-! ## sorted(set(t)), t a tuple of texts, of which some may stand twice -/
/-- each but once -/
def onceS : List Str → List Str
  | [] => []
  | p :: ps => if p ∈ ps then onceS ps else p :: onceS ps
theorem mem_onceS {p : Str} : ∀ {ps : List Str}, p ∈ onceS ps ↔ p ∈ ps
  | [] => Iff.rfl
  | q :: ps => by
    rw [onceS]
    split
    · rename_i h
      rw [mem_onceS, List.mem_cons]
      exact ⟨.inr, fun e => e.elim (fun e => e ▸ h) id⟩
    · rw [List.mem_cons, List.mem_cons, mem_onceS]
theorem onceS_nodup : ∀ ps : List Str, (onceS ps).Nodup
  | [] => List.nodup_nil
  | q :: ps => by
    rw [onceS]
    split
    · exact onceS_nodup ps
    · rename_i h
      exact List.nodup_cons.mpr ⟨fun m => h (mem_onceS.mp m), onceS_nodup ps⟩
theorem onceS_len : ∀ ps : List Str, (onceS ps).length ≤ ps.length
  | [] => Nat.le_refl _
  | q :: ps => by
    rw [onceS]
    have := onceS_len ps
    split <;> simp only [List.length_cons] <;> omega
theorem onceS_id : ∀ {ps : List Str}, ps.Nodup → onceS ps = ps
  | [], _ => rfl
  | q :: ps, h => by
    rw [List.nodup_cons] at h
    rw [onceS, if_neg h.1, onceS_id h.2]
section
variable {P : Program} {w : World} {A : Around} {E : Value → Shared → Prop} {s : Shared} {a : Addr} {l : List Str}
/-- a text that is in it -/
theorem TxW.same {k : Str} {u : Tok} {Q : Bool → Shared → Prop} (x : TxW P w s.heap a l) (hk : k ∈ l) (hb : l.length < scanBound) (q : Q false s) :
    wpAny (model P w) A (setAddHashed a (.str k u) (hashStr w k)) Q E s := by
  obtain ⟨⟨es, ep, t⟩, ho, F, _, _⟩ := x
  have hd : (sObj "set" (es, ep, t)).data = .set es ep t := rfl
  have hf : t.fits es.size = true := F.fit
  have hel : ElemsOf (strKind P w) es.toList := F.el
  have hsz : es.size = l.length := F.sz
  have hb0 : es.size < scanBound := by omega
  have hkey : (strKind P w).is k (.str k u) = true := is_str k u
  unfold setAddHashed setAddHashedIn
  refine wpAny_holding (wpAny_bind (wpAny_setState_of ho hd hf ?_))
  dsimp only
  rw [byScan_of rfl hb0 hel]
  simp only [↓reduceIte]
  unfold setAddByScan
  refine wpAny_bind ?_
  refine wpAny_bind (wpAny_rule ?_)
  refine wpAny_bind (wpAny_setScan_of (knd := strKind P w) (k := k) hkey ho hd hf hel ?_)
  cases hfi : List.findIdx? (fun e => (strKind P w).is k e.2) es.toList with
  | none =>
    obtain ⟨e, he, q⟩ := (F.mem k).mp hk
    have c := List.findIdx?_eq_none_iff.mp hfi e he
    rw [q] at c
    cases c
  | some j =>
    dsimp only
    exact wpAny_pure (wpAny_pure q)
/-- a set of these texts -/
def TxU (P : Program) (w : World) (h : Heap) (a : Addr) (zs : List Str) : Prop := ∃ l, TxW P w h a l ∧ l.Nodup ∧ l.length ≤ zs.length ∧ ∀ z, z ∈ l ↔ z ∈ zs
theorem TxU.keep {h h' : Heap} {zs : List Str} (x : TxU P w h a zs) (k : ∀ o, h.get? a = some o → h'.get? a = some o) : TxU P w h' a zs := x.imp fun _ y => ⟨y.1.keep k, y.2⟩
theorem TxU.add {zs : List Str} {k : Str} {u : Tok} {Q : Bool → Shared → Prop} (x : TxU P w s.heap a zs) (hb : zs.length + 1 < scanBound) (q : ∀ b h', Heap.SameBut a s.heap h' → TxU P w h' a (zs ++ [k]) → Q b { s with heap := h' }) :
    wpAny (model P w) A (setAddHashed a (.str k u) (hashStr w k)) Q E s := by
  obtain ⟨l, y, nd, le, m⟩ := x
  by_cases hk : k ∈ l
  · refine y.same hk (by omega) (q _ s.heap (Heap.SameBut.refl a s.heap) ⟨l, y, nd, by simp; omega, fun z => ?_⟩)
    rw [m, List.mem_append, List.mem_singleton]
    exact ⟨.inl, fun e => e.elim id fun e => by rw [e]; exact (m k).mp hk⟩
  · refine y.add hk (by omega) fun h' sb y2 => q _ h' sb ⟨k :: l, y2, List.nodup_cons.mpr ⟨hk, nd⟩, by simp; omega, fun z => ?_⟩
    rw [List.mem_cons, m, List.mem_append, List.mem_singleton]
    exact Or.comm
theorem txu_loop {I : Addr} {fp wr : List Addr} {G : Array GenState → Array GenState → Prop} {n : Nat} {Pv : Nat → Value → Prop} {St : Nat → Shared → Prop} {R : Result → Shared → Prop} (W : WalksS P w A.in1 I fp wr G n Pv St) (no : a ∉ fp) {zs : List Str} (en : n = zs.length) (room : zs.length < 4000)
    (val : ∀ i v, Pv i v → ∃ z t, zs[i]? = some z ∧ v = .str z t) (k : Nat) : ∀ (i : Nat) (s : Shared), i + k = n → St i s → TxU P w s.heap a (zs.take i) →
      (∀ s', Moved (a :: wr) G s s' → TxU P w s'.heap a zs → R (.ok (.ret .none)) s') → codeAny (model P w) A (.builtin "set.update.loop" ⟨[.ref a, .ref I], []⟩) R s := by
  have nw : a ∉ wr := fun z => no (W.sub _ z)
  have up : ∀ b ∈ wr, b ∈ a :: wr := fun _ z => List.mem_cons_of_mem _ z
  induction k with
  | zero =>
    intro i s e st x done
    refine codeAny_builtin PyProof.Rows.F.entry_set_update_loop ?_
    rw [Around.under_plainId PyProof.Rows.F.plain_set_update_loop _]
    have ei : zs.take i = zs := List.take_of_length_le (by omega)
    rw [ei] at x
    have hi : i = n := by omega
    subst hi
    exact wpAny_bind (W.done s _ _ st fun s' mv => wpAny_pure (done s' (mv.mono up) (x.keep fun o q => mv.heap a o nw q)))
  | succ k ih =>
    intro i s e st x done
    refine codeAny_builtin PyProof.Rows.F.entry_set_update_loop ?_
    rw [Around.under_plainId PyProof.Rows.F.plain_set_update_loop _]
    refine wpAny_bind (W.item i s _ _ (by omega) st fun v s' pv st' mv => ?_)
    obtain ⟨z, t, hz, rfl⟩ := val i v pv
    have x' := x.keep (h' := s'.heap) fun o q => mv.heap a o nw q
    have hlt := (List.getElem?_eq_some_iff.mp hz).1
    refine wpAny_bind (wpAny_holding ?_)
    unfold setAdd
    refine wpAny_holding (wpAny_bind ((PySem.strKind P w).pyHash (k := z) (strKind_is _ _ _ _) ?_))
    refine TxU.add (s := { s' with toks := s'.toks + 1 }) x' (by rw [List.length_take]; unfold scanBound; omega) fun b2 h' sb x2 => ?_
    have ex : zs.take i ++ [z] = zs.take (i + 1) := by rw [List.take_add_one, hz]; rfl
    rw [ex] at x2
    refine wpAny_pure ⟨plainId_quiet PyProof.Rows.F.plain_set_update_loop _, ih (i + 1) _ (by omega) (W.frame _ s' _ _ st' (Nat.le_succ _) fun b hb o q => (sb.2 b fun z => no (z ▸ hb)).trans q) x2 fun s2 mv2 x3 => ?_⟩
    exact done s2 (Moved.trans W.gtrans ((mv.mono up).then_heap (Nat.le_succ _) fun b o hb q => (sb.2 b fun z => hb (z ▸ List.mem_cons_self)).trans q) mv2) x3
/-- what set(t) leaves -/
def UsetLeft (P : Program) (w : World) (s : Shared) (zs : List Str) (s' : Shared) : Prop := ∃ h' tk, s' = { s with heap := h', toks := tk } ∧ TxU P w h' s.heap.objs.size zs ∧ ∀ b o, s.heap.get? b = some o → h'.get? b = some o
set_option maxHeartbeats 3200000 in
theorem set_of_tupU {l : Addr} {items : Array Value} {zs : List Str} {Q : Value → Shared → Prop} (hh : A.handled = none) (hl : s.heap.IsTuple l items) (hit : StrsAre items.toList zs) (room : zs.length < 4000)
    (q : ∀ s', UsetLeft P w s zs s' → Q (.ref s.heap.objs.size) s') : wpAny (model P w) A (call (.type "set") [.ref l]) Q E s := by
  have len : items.size = zs.length := by rw [← StrsAre.len_eq hit, Array.length_toList]
  obtain ⟨ol, hol, hcl, nl, hdl⟩ := id hl
  have hlS : l < s.heap.objs.size := Heap.lt_size hol
  have top : (s.heap.push (setNew w)).get? s.heap.objs.size = some (setNew w) := Heap.get?_push_size _ rfl
  have low : ∀ {b o}, s.heap.get? b = some o → (s.heap.push (setNew w)).get? b = some o := fun e => Heap.get?_push_of_some _ e
  obtain ⟨c, tl, m1⟩ := PySem.F.called_set.mro
  have m2 := PySem.F.called_set.made
  have m3 := PySem.F.called_set.sub
  have m4 := PySem.F.called_set.notType
  have m5 := PySem.F.called_set.canCreate
  have m6 := PySem.F.typeCall_set_1 (.ref l)
  refine wpAny_call (codeAny_of_tree (show wpAny _ _ (callAny (.type "set") _) _ _ _ from wpAny_pure ⟨Code.quiet_builtin _ (by decide +kernel), codeAny_builtin PySem.F.entry_type_call ?_⟩))
  rw [Around.under_plain (weight_type_call_type "set" [.ref l] []) rfl]
  repeat (any_goals (first | assumption | wp_step))
  refine codeAny_mono (L2.code_set_led1 (.ref l) (E := E) (Q₁ := fun ob t => ob = .ref s.heap.objs.size ∧ t = { s with heap := s.heap.push (setNew w) }) ⟨rfl, rfl⟩) fun r t hr => ?_
  match r, hr with
  | .error _, hr => exact hr
  | .ok .next, hr => exact hr.elim
  | .ok .brk, hr => exact hr.elim
  | .ok .cont, hr => exact hr.elim
  | .ok (.ret ob), hr =>
    obtain ⟨rfl, rfl⟩ := hr
    have ty : Shared.TypeIs { s with heap := s.heap.push (setNew w) } (.ref s.heap.objs.size) "set" := ⟨_, top, rfl⟩
    have i1 := PySem.F.called_set.init.lookup
    have i2 := PySem.F.called_set.init.bind (.ref s.heap.objs.size)
    repeat (any_goals (first | assumption | wp_step))
    refine codeAny_mono (codeAny_call_builtin (R := wants (fun r t => r = .none ∧ UsetLeft P w s zs t) E) PySem.F.called_set.init.plain PySem.F.entry_set_init (check_set_init_1 ty ?_)) fun r2 t2 hr2 => ?_
    · obtain ⟨k1, k2, k3, k4⟩ := ol
      simp only at hcl hdl
      subst hcl hdl
      have hl1 : (s.heap.push (setNew w)).IsTuple l items := ⟨_, low hol, rfl, nl, rfl⟩
      have hol' := low hol
      have b1 := PySem.F.sub_tuple_set
      have b2 := PySem.F.sub_tuple_frozenset
      have b3 : (Value.type "tuple" == Value.type "dict") = false := by decide
      unfold Builtin.«set.__init__» noKeywords Builtin.Frozenset.updateFrom
      generalize hPI : pyIter = PI
      wp_walk
      subst hPI
      refine wpAny_pyIter_tuple hl1 (wpAny_bind (wpAny_runValue ?_))
      have sz := size1 s.heap (setNew w)
      have ni : l ≠ (s.heap.push (setNew w)).objs.size := by rw [sz]; exact Nat.ne_of_lt (Nat.lt_succ_of_lt hlS)
      have no : s.heap.objs.size ∉ [(s.heap.push (setNew w)).objs.size, l] := by
        simp only [List.mem_cons, List.not_mem_nil, or_false, not_or]; rw [sz]; exact ⟨Nat.ne_of_lt (Nat.lt_succ_self _), Nat.ne_of_gt hlS⟩
      have val : ∀ (i : Nat) (v : Value), items[i]? = some v → ∃ z t, zs[i]? = some z ∧ v = .str z t := fun i v hv => by
        have hi : i < zs.length := by rw [← len]; exact (Array.getElem?_eq_some_iff.mp hv).1
        obtain ⟨t, e⟩ := SS.strs_at hit i v (by rw [Array.getElem?_toList]; exact hv)
        refine ⟨zs[i], t, List.getElem?_eq_getElem hi, ?_⟩
        rw [e, List.getD_eq_getElem?_getD, List.getElem?_eq_getElem hi]
        rfl
      refine txu_loop ((Walks.tuple (by simp [hh]) _ l ni items).toS) no len room val items.size 0 _ (by omega) ⟨⟨_, Heap.get?_push_size _ rfl, rfl, rfl⟩, hl1.push _⟩ ⟨[], TxW.start (Heap.get?_push_of_some _ top), List.nodup_nil, Nat.zero_le _, fun z => by simp⟩ fun s' mv x => ?_
      obtain ⟨h', g', d', tk', os'⟩ := s'
      have e1 : g' = s.gens := mv.gens
      have e2 : d' = s.drawn := mv.drawn
      have e3 : os' = s.os := mv.os
      subst e1 e2 e3
      refine wpAny_pure (wpAny_pure ⟨rfl, h', tk', rfl, x, fun b o e => ?_⟩)
      have lb := Heap.lt_size e
      refine mv.heap b o ?_ (Heap.get?_push_of_some _ (low e))
      simp only [List.mem_cons, List.not_mem_nil, or_false, not_or]
      rw [sz]
      exact ⟨Nat.ne_of_lt lb, Nat.ne_of_lt (Nat.lt_succ_of_lt lb)⟩
    · match r2, hr2 with
      | .error _, hr2 => exact hr2
      | .ok .next, hr2 => exact hr2.elim
      | .ok .brk, hr2 => exact hr2.elim
      | .ok .cont, hr2 => exact hr2.elim
      | .ok (.ret _), hr2 =>
        obtain ⟨rfl, hq⟩ := hr2
        have hq2 := q _ hq
        obtain ⟨h', tk, rfl, _, _⟩ := hq
        repeat (any_goals (first | assumption | wp_step))
end
/-- sorted(set(t)), t a tuple of texts -/
def ssetU : FL
  | [.tup ds], S => match strsOf ds with
    | some zs => if zs.length < 4000 then newL (srt ((onceS zs).map D.str)) S else .bad
    | none => .bad
  | _, _ => .bad
theorem strsOf_map : ∀ zs : List Str, strsOf (zs.map D.str) = some zs
  | [] => rfl
  | z :: zs => by simp only [List.map_cons, strsOf, strsOf_map zs, Option.map_some]
section
variable {X : Cx} {cl : Cl} {W : WX}
theorem cb_ssetU (hc : X.calm = true) (hu : X.A.units + 65 < cLine) {pins : List (Addr × Obj)} {s : Shared} {σ : L2.St} {H : Hp} {io : List Addr} {S : Sto} {zs : List Str} {a : Addr} (I : Inv X pins σ H s) (A : Abs X.K cl io S H) (ok : ∀ z ∈ zs, okS z) (room : zs.length < 4000) (x : TxU X.prog X.w s.heap a zs) :
    wpAny (model X.prog X.w) X.A (call (.builtin "sorted") [.ref a]) (EvP X cl pins σ io H (newL (srt ((onceS zs).map D.str)) S)) X.xe s := by
  obtain ⟨l, ⟨T, e, F, r, z⟩, nd, le, m⟩ := x
  refine sorted_coreP hu I A (args_sorted1' _) fun Q E' k => ?_
  refine collect_set (A := X.A.in1) (I.ok.hd hc) ⟨_, e, rfl, rfl⟩ F.fit ?_ r z fun s' out keep _ hg ho pm => ?_
  · rw [F.sz]; unfold scanBound; omega
  · obtain ⟨ys, py, ra⟩ := out_strs F nd pm
    have pz : ys.Perm (onceS zs) := py.trans (nodup_perm nd (onceS_nodup zs) fun x => by rw [m, mem_onceS])
    obtain ⟨h', g', d', tk', os'⟩ := s'
    simp only at hg ho
    subst hg ho
    have ln : (onceS zs).length ≤ 100000 := by have := onceS_len zs; omega
    refine k h' tk' d' out (ys.map D.str) (ys.map V.str) keep (strs_rel2 fun y hy => ok y (mem_onceS.mp (pz.mem_iff.mp hy))) (strs_vals ra) (srtOk_strs (by rw [pz.length_eq]; exact ln)) ?_
    refine srt_perm (pz.map D.str) fun p hp q hq h => ?_
    obtain ⟨p', _, rfl⟩ := List.mem_map.mp hp
    obtain ⟨q', _, rfl⟩ := List.mem_map.mp hq
    rw [key_str h]
variable {e : Expr} {m : M D} {p p2 p3 pos pos2 : Pos}
/-- sorted(set(e)) -/
theorem ev_ssetU (hc : X.calm = true) (hu : X.A.units + 65 < cLine) (hm : X.mg "sorted" = none) (hm2 : X.mg "set" = none) (he : EvE X cl W e m) (hg : Gl X "sorted" := by rfl) (hg2 : Gl X "set" := by rfl)
    (hs : starEach [e] X.env = [(false, eval e X.env)] := by rfl) : EvE X cl W (.Call (.Name "sorted" p) [.Call (.Name "set" p2) [e] [] pos2] [] pos) (mDisp ssetU (mCons m mNil)) := by
  refine ⟨fun pins s σ H io ρ S I A R G => ?_⟩
  have ha := ea_cons (es := []) he ea_nil hs
  refine wpAny_Call_Name_kw (ld_blt I hg hm PyProof.Rows.boot_sorted (PyProof.Rows.callWith_builtin1 ?_ rfl rfl) (by decide) (by decide))
  refine Calls.spliced_cons (wpAny_Call_Name_kw (ld_blt I hg2 hm2 PyProof.Rows.boot_set (PyProof.Rows.callWith_type1 (ha.bind I A R G fun ds S1 io1 H1 vs us s1 em I1 A1 g1 R1 rs rv G1 => ?_) hs rfl) (by decide) (by decide)))
  have e2 : mDisp ssetU (mCons m mNil) ρ S = ssetU ds S1 := by unfold mDisp; rw [em]; rfl
  rw [e2]
  clear e2 G em
  unfold ssetU at G1 ⊢
  split at G1
  · rename_i ds0
    cases rs with
    | cons r1 r2 =>
      cases r2
      cases rv with
      | cons u1 u2 =>
        cases u2
        cases r1 with
        | @tup l _ ws hq rl =>
          cases (show _ = Value.ref l from u1)
          split at G1
          · rename_i zs hz
            split at G1
            · rename_i room
              rw [if_pos room]
              have ed := strsOf_some hz
              subst ed
              obtain ⟨its, rvl, pl, _⟩ := I1.tuple hq.1
              obtain ⟨rfl, ok⟩ := rel_strs rl
              refine set_of_tupU (items := its.toArray) (I1.ok.hd hc) pl (by simpa using strs_are rvl) room fun s2 left => ?_
              obtain ⟨h', tk, rfl, x, keep⟩ := left
              have I2 : Inv X pins σ H1 { s1 with heap := h', toks := tk } := I1.kept (t' := tk) keep
              exact Calls.spliced_nil (thn (cb_ssetU hc hu I2 A1 ok room x) fun u s3 q => q.back g1)
            · exact False.elim G1
          · exact False.elim G1
  · exact False.elim G1
end
end MP
/-! MP90 -/
set_option Elab.async false
set_option autoImplicit false
set_option linter.all false
set_option maxRecDepth 100000
namespace MP
open PySem PySem.Spec L2
open PyProof.Rows hiding St

/-! ## dict(t), t a tuple of pairs of a pair of texts and a number -/
def dictKT : FL
  | [.tup ds], S => if ds.all D.isP2 = true then match kpairs ds with
    | some kvs => if (kvs.map (·.1)).Nodup ∧ kvs.length ≤ sizeLine then .ok (.ptr S.length) (S ++ [.dkt kvs]) else .bad
    | none => .bad
    else .bad
  | _, _ => .bad
section
variable {X : Cx} {cl : Cl} {W : WX} {pins : List (Addr × Obj)} {σ : L2.St} {H : Hp} {s : Shared} {io : List Addr} {S : Sto}
end
end MP
/-! MP91 -/
set_option Elab.async false
set_option autoImplicit false
set_option linter.all false
set_option maxRecDepth 100000
namespace MP
open PySem PySem.Spec L2

/-! ## the order of texts, and of pairs of texts -/
abbrev lx (a b : List (Int ⊕ List Nat)) : Bool := PyProof.Rows.lexLt PyProof.Rows.itemOrd a b
theorem lx_cons (x y : Int ⊕ List Nat) (a b : List (Int ⊕ List Nat)) : lx (x :: a) (y :: b) = (PyProof.Rows.itemOrd.blt x y || (!PyProof.Rows.itemOrd.blt y x && lx a b)) := PyProof.Rows.lex_cons (O := PyProof.Rows.itemOrd) x y a b
theorem lx_irr (a : List (Int ⊕ List Nat)) : lx a a = false := PyProof.Rows.lex_irrefl (O := PyProof.Rows.itemOrd) a
theorem lx_same (x : Int ⊕ List Nat) (a b : List (Int ⊕ List Nat)) : lx (x :: a) (x :: b) = lx a b := by
  rw [lx_cons, show PyProof.Rows.itemOrd.blt x x = false from PyProof.Rows.itemOrd.irrefl _]
  rfl
def ltX (x y : Str) : Bool := PyProof.Rows.itemOrd.blt (.inr x.cps.toList) (.inr y.cps.toList)
theorem ltX_irr (x : Str) : ltX x x = false := PyProof.Rows.itemOrd.irrefl _
def leX (a b : Str) : Prop := PySem.W.dataLe false D.vw (.str a) (.str b) = true
def leE (a b : Str × Str) : Prop := PySem.W.dataLe false D.vw (prD a) (prD b) = true
theorem key_s (a : Str) : PySem.W.keyToks (D.vw (.str a)) = [.inr a.cps.toList] := by simp [D.vw, PySem.W.keyToks]
theorem key_e (a : Str × Str) : PySem.W.keyToks (D.vw (prD a)) = [.inl 1, .inr a.1.cps.toList, .inl 1, .inr a.2.cps.toList, .inl 0] := by simp [prD, D.vw, D.vws, PySem.W.keyToks, PySem.W.keyToksAll]
theorem leS_is {a b : Str} : leX a b ↔ ltX b a = false := by
  have : PySem.W.dataLe false D.vw (.str a) (.str b) = !lx (PySem.W.keyToks (D.vw (.str b))) (PySem.W.keyToks (D.vw (.str a))) := rfl
  unfold leX
  rw [this, key_s, key_s, lx_cons, lx_irr, Bool.and_false, Bool.or_false, Bool.not_eq_true']
  rfl
theorem leE_is {a b : Str × Str} : leE a b ↔ (ltX b.1 a.1 || (!ltX a.1 b.1 && ltX b.2 a.2)) = false := by
  have : PySem.W.dataLe false D.vw (prD a) (prD b) = !lx (PySem.W.keyToks (D.vw (prD b))) (PySem.W.keyToks (D.vw (prD a))) := rfl
  unfold leE
  rw [this, key_e, key_e, lx_same, lx_cons, lx_same, lx_cons, lx_irr, Bool.and_false, Bool.or_false, Bool.not_eq_true']
  rfl
theorem srt_pw (l : List D) : (srt l).Pairwise fun a b => PySem.W.dataLe false D.vw a b = true := PySem.W.sort_pairwise (PySem.W.sortLe_total _ _ _) _
theorem le_key {a b : D} (h : PySem.W.dataLe false D.vw a b = true) (k : PySem.W.dataLe false D.vw b a = true) : PySem.W.keyToks a.vw = PySem.W.keyToks b.vw := by
  have h' : (!lx (PySem.W.keyToks (D.vw b)) (PySem.W.keyToks (D.vw a))) = true := h
  have k' : (!lx (PySem.W.keyToks (D.vw a)) (PySem.W.keyToks (D.vw b))) = true := k
  rw [Bool.not_eq_true'] at h' k'
  exact PyProof.Rows.lex_total (O := PyProof.Rows.itemOrd) _ _ k' h'
/-- what ascends is as sorted leaves it -/
theorem srt_same {l : List D} (h : l.Pairwise fun a b => PySem.W.dataLe false D.vw a b = true) (inj : ∀ a ∈ l, ∀ b ∈ l, PySem.W.keyToks a.vw = PySem.W.keyToks b.vw → a = b) : srt l = l :=
  sorted_uniq (List.mergeSort_perm ..) (srt_pw l) h fun a ha b hb h1 h2 => inj a (srt_mem.mp ha) b (srt_mem.mp hb) (le_key h1 h2)
theorem srt_strsE {l : List Str} (h : l.Pairwise leX) : srt (l.map D.str) = l.map D.str := by
  refine srt_same (List.pairwise_map.mpr h) fun a ha b hb e => ?_
  obtain ⟨x, _, rfl⟩ := List.mem_map.mp ha
  obtain ⟨y, _, rfl⟩ := List.mem_map.mp hb
  rw [key_str e]
theorem srt_prsE {l : List (Str × Str)} (h : l.Pairwise leE) : srt (l.map prD) = l.map prD := by
  refine srt_same (List.pairwise_map.mpr h) fun a ha b hb e => ?_
  obtain ⟨x, _, rfl⟩ := List.mem_map.mp ha
  obtain ⟨y, _, rfl⟩ := List.mem_map.mp hb
  obtain ⟨e1, e2⟩ := key_pair e
  rw [prD, prD, e1, e2]
/-- sorted texts -/
theorem srt_strsP (l : List Str) : ∃ l' : List Str, srt (l.map D.str) = l'.map D.str ∧ l'.Perm l ∧ l'.Pairwise leX := by
  obtain ⟨l', e, p⟩ := srt_strs l
  refine ⟨l', e, p, ?_⟩
  have h := srt_pw (l.map D.str)
  rw [e, List.pairwise_map] at h
  exact h
theorem once_id : ∀ {ps : List (Str × Str)}, ps.Nodup → once ps = ps
  | [], _ => rfl
  | q :: ps, h => by
    rw [List.nodup_cons] at h
    rw [once, if_neg h.1, once_id h.2]
theorem ltX_fm : ltX "fail" "mend" = true ∧ ltX "mend" "fail" = false := by decide +kernel
/-- all events of some parts, ascending -/
def evs (ps : List Str) : List (Str × Str) := ps.map (fun p => (("fail" : Str), p)) ++ ps.map fun p => (("mend" : Str), p)
theorem evs_pw {ps : List Str} (h : ps.Pairwise leX) : (evs ps).Pairwise leE := by
  unfold evs
  rw [List.pairwise_append]
  have one : ∀ w : Str, (ps.map fun p => (w, p)).Pairwise leE := fun w => by
    rw [List.pairwise_map]
    refine h.imp fun {a b} k => ?_
    rw [leE_is]
    rw [leS_is] at k
    show (ltX w w || (!ltX w w && ltX b a)) = false
    rw [ltX_irr, k]; rfl
  refine ⟨one _, one _, fun a ha b hb => ?_⟩
  obtain ⟨x, _, rfl⟩ := List.mem_map.mp ha
  obtain ⟨y, _, rfl⟩ := List.mem_map.mp hb
  rw [leE_is]
  show (ltX "mend" "fail" || (!ltX "fail" "mend" && ltX y x)) = false
  rw [ltX_fm.1, ltX_fm.2]; rfl
theorem evs_nd {ps : List Str} (h : ps.Nodup) : (evs ps).Nodup := by
  unfold evs
  rw [List.nodup_append]
  have one : ∀ w : Str, (ps.map fun p => (w, p)).Nodup := fun w => by
    rw [List.nodup_iff_pairwise_ne, List.pairwise_map]
    exact (List.nodup_iff_pairwise_ne.mp h).imp fun {a b} k e => k (Prod.mk.inj e).2
  refine ⟨one _, one _, fun a ha b hb e => ?_⟩
  obtain ⟨x, _, rfl⟩ := List.mem_map.mp ha
  obtain ⟨y, _, rfl⟩ := List.mem_map.mp hb
  have : ("fail" : Str) = "mend" := (Prod.mk.inj e).1
  exact absurd this (by decide +kernel)
theorem evs_len (ps : List Str) : (evs ps).length = 2 * ps.length := by simp [evs]; omega
theorem evs_mem {ps : List Str} {e : Str × Str} (h : e ∈ evs ps) : (e.1 = "fail" ∨ e.1 = "mend") ∧ e.2 ∈ ps := by
  unfold evs at h
  rcases List.mem_append.mp h with h | h
  · obtain ⟨x, hx, rfl⟩ := List.mem_map.mp h
    exact ⟨.inl rfl, hx⟩
  · obtain ⟨x, hx, rfl⟩ := List.mem_map.mp h
    exact ⟨.inr rfl, hx⟩
/-! ## a comprehension whose test draws -/
theorem wp_lcR {g : MG} {t : M Bool} {el : M D} {src : Src} {ρ0 : Rho} {ms : List Nat} {S0 : Sto} {Q : D → Sto → Prop} (X : Sto → Prop) (P : D → D → Prop)
    (hn : S0.length ∉ ms) (hX0 : X (S0 ++ [.lst []])) (hXs : ∀ S o, Ext ms S0 S → X S → X (S.set S0.length o))
    (hk : ∀ S, Ext ms S0 S → src.keep S = true) (hf : ∀ S, Ext ms S0 S → src.fin S = some S) (hl : src.items.length ≤ sizeLine)
    (step : ∀ d ∈ src.items, ∀ S, Ext ms S0 S → X S → Wp (g d ρ0 S) fun ρ1 S1 => Wp (t ρ1 S1) fun c S2 => (c = true → Wp (el ρ1 S2) fun y S3 => P d y ∧ Ext ms S S3 ∧ X S3) ∧ (c = false → Ext ms S S2 ∧ X S2))
    (done : ∀ sub acc S', sub.Sublist src.items → All2 P sub acc → Ext ms S0 S' → X S' → S'[S0.length]? = some (.lst acc) → Q (.ptr S0.length) S') :
    Wp (lcL g t el src S0.length ρ0 src.items (S0 ++ [.lst []])) Q := by
  refine wp_lcL (I := fun ds acc S => ∃ pre sub, src.items = pre ++ ds ∧ sub.Sublist pre ∧ All2 P sub acc ∧ acc.length ≤ pre.length ∧ Ext ms S0 S ∧ X S) ?_ ?_ src.items [] _ ⟨[], [], rfl, .slnil, trivial, Nat.le_refl _, Ext.push _, hX0⟩ get_push
  · rintro d ds acc S ⟨pre, sub, e, sl, ha, hal, x, hx⟩ hnn
    have hd : d ∈ src.items := by rw [e]; simp
    have hlen : pre.length + 1 + ds.length ≤ sizeLine := by rw [e] at hl; simp at hl; omega
    refine ⟨hk S x, (step d hd S x hx).imp fun ρ1 S1 q => q.imp fun c S2 ⟨q1, q2⟩ => ?_⟩
    cases c with
    | true =>
      simp only [if_true]
      exact (q1 rfl).imp fun y S3 ⟨p, x3, hx3⟩ => ⟨x3.get _ _ hnn hn, by omega, pre ++ [d], sub ++ [d], by simp [e], sl.append (List.Sublist.refl _), ha.snoc p, by simp; omega, (x.trans x3).setf (Nat.le_refl _), hXs _ _ (x.trans x3) hx3⟩
    | false =>
      simp only [Bool.false_eq_true, if_false]
      obtain ⟨x3, hx3⟩ := q2 rfl
      exact ⟨x3.get _ _ hnn hn, pre ++ [d], sub, by simp [e], sl.trans (List.sublist_append_left ..), ha, by simp; omega, x.trans x3, hx3⟩
  · rintro acc S ⟨pre, sub, e, sl, ha, hal, x, hx⟩ hnn
    simp only [List.append_nil] at e
    exact ⟨hk S x, S, hf S x, done sub acc S (by rw [e]; exact sl) ha x hx hnn⟩
end MP
/-! MP92 -/
set_option Elab.async false
set_option autoImplicit false
set_option linter.all false
set_option maxRecDepth 100000
set_option maxHeartbeats 1000000
namespace PySem.SeqAt
open AutoSeq1 (wpAny_loadPart')
open MeetsSeq
/-! a dict is unequal to what is no dict -/
def IsDc (h : Heap) (b : Addr) : Prop := ∃ (dd : Option Addr) (sl : Array (Option Value)) (es : Array DictEntry) (ep : Nat), h.get? b = some { cls := .type "dict", dict := dd, data := .dict es ep, slots := sl }
theorem dc_none (b : Addr) (ep : Nat) (es : Array DictEntry) (dd : Option Addr) (sl : Array (Option Value)) :
    Meets (Builtin.«dict.__eq__» ⟨[.ref b, .none], []⟩) (fun _ R s => s.heap.get? b = some { cls := .type "dict", dict := dd, data := .dict es ep, slots := sl } ∧ R (.ok (.ret .notImplemented)) s) :=
  .of_wp fun prog w A R s h => by obtain ⟨hp, g, d, tk, os⟩ := s; obtain ⟨hl, h⟩ := h; have f1 := F.sub_NoneType_dict; wp_walk using wpAny_loadPart' hl; exact ⟨_, rfl, h⟩
theorem dc_bool (b : Addr) (ep : Nat) (es : Array DictEntry) (dd : Option Addr) (sl : Array (Option Value)) (x : Bool) :
    Meets (Builtin.«dict.__eq__» ⟨[.ref b, .bool x], []⟩) (fun _ R s => s.heap.get? b = some { cls := .type "dict", dict := dd, data := .dict es ep, slots := sl } ∧ R (.ok (.ret .notImplemented)) s) :=
  .of_wp fun prog w A R s h => by obtain ⟨hp, g, d, tk, os⟩ := s; obtain ⟨hl, h⟩ := h; have f1 := F.sub_bool_dict; wp_walk using wpAny_loadPart' hl; exact ⟨_, rfl, h⟩
theorem bool_dc (b : Addr) (ep : Nat) (es : Array DictEntry) (dd : Option Addr) (sl : Array (Option Value)) (x : Bool) :
    Meets (Builtin.«int.__eq__» ⟨[.bool x, .ref b], []⟩) (fun _ R s => s.heap.get? b = some { cls := .type "dict", dict := dd, data := .dict es ep, slots := sl } ∧ R (.ok (.ret .notImplemented)) s) :=
  .of_wp fun prog w A R s h => by obtain ⟨hp, g, d, tk, os⟩ := s; obtain ⟨hl, h⟩ := h; wp_walk using wpAny_loadPart' hl, wpAny_load hl; exact ⟨_, rfl, h⟩
theorem dc_int (b : Addr) (ep : Nat) (es : Array DictEntry) (dd : Option Addr) (sl : Array (Option Value)) (x : Int) (u : Tok) :
    Meets (Builtin.«dict.__eq__» ⟨[.ref b, .int x u], []⟩) (fun _ R s => s.heap.get? b = some { cls := .type "dict", dict := dd, data := .dict es ep, slots := sl } ∧ R (.ok (.ret .notImplemented)) s) :=
  .of_wp fun prog w A R s h => by obtain ⟨hp, g, d, tk, os⟩ := s; obtain ⟨hl, h⟩ := h; have f1 := F.sub_int_dict; wp_walk using wpAny_loadPart' hl; exact ⟨_, rfl, h⟩
theorem int_dc (b : Addr) (ep : Nat) (es : Array DictEntry) (dd : Option Addr) (sl : Array (Option Value)) (x : Int) (u : Tok) :
    Meets (Builtin.«int.__eq__» ⟨[.int x u, .ref b], []⟩) (fun _ R s => s.heap.get? b = some { cls := .type "dict", dict := dd, data := .dict es ep, slots := sl } ∧ R (.ok (.ret .notImplemented)) s) :=
  .of_wp fun prog w A R s h => by obtain ⟨hp, g, d, tk, os⟩ := s; obtain ⟨hl, h⟩ := h; wp_walk using wpAny_loadPart' hl, wpAny_load hl; exact ⟨_, rfl, h⟩
theorem dc_str (b : Addr) (ep : Nat) (es : Array DictEntry) (dd : Option Addr) (sl : Array (Option Value)) (x : Str) (u : Tok) :
    Meets (Builtin.«dict.__eq__» ⟨[.ref b, .str x u], []⟩) (fun _ R s => s.heap.get? b = some { cls := .type "dict", dict := dd, data := .dict es ep, slots := sl } ∧ R (.ok (.ret .notImplemented)) s) :=
  .of_wp fun prog w A R s h => by obtain ⟨hp, g, d, tk, os⟩ := s; obtain ⟨hl, h⟩ := h; have f1 := F.sub_str_dict; wp_walk using wpAny_loadPart' hl; exact ⟨_, rfl, h⟩
theorem str_dc (b : Addr) (ep : Nat) (es : Array DictEntry) (dd : Option Addr) (sl : Array (Option Value)) (x : Str) (u : Tok) :
    Meets (Builtin.«str.__eq__» ⟨[.str x u, .ref b], []⟩) (fun _ R s => s.heap.get? b = some { cls := .type "dict", dict := dd, data := .dict es ep, slots := sl } ∧ R (.ok (.ret .notImplemented)) s) :=
  .of_wp fun prog w A R s h => by obtain ⟨hp, g, d, tk, os⟩ := s; obtain ⟨hl, h⟩ := h; wp_walk using wpAny_loadPart' hl, wpAny_load hl; exact ⟨_, rfl, h⟩
theorem dc_list (l b : Addr) (items : Array Value) (n ep : Nat) (es : Array DictEntry) (dd dd2 : Option Addr) (sl sl2 : Array (Option Value)) :
    Meets (Builtin.«dict.__eq__» ⟨[.ref b, .ref l], []⟩) (fun _ R s => s.heap.get? l = some { cls := .type "list", dict := dd, data := .seq items n, slots := sl } ∧ s.heap.get? b = some { cls := .type "dict", dict := dd2, data := .dict es ep, slots := sl2 } ∧ R (.ok (.ret .notImplemented)) s) := by
  refine .of_wp fun prog w A R s h => ?_
  obtain ⟨hp, g, d, tk, os⟩ := s
  obtain ⟨hl, hb, h⟩ := h
  have f1 := F.sub_list_dict
  wp_walk using wpAny_loadPart' hb, wpAny_loadPart' hl
  exact ⟨_, rfl, h⟩
theorem list_dc (l b : Addr) (items : Array Value) (n ep : Nat) (es : Array DictEntry) (dd dd2 : Option Addr) (sl sl2 : Array (Option Value)) :
    Meets (Builtin.«list.__eq__» ⟨[.ref l, .ref b], []⟩) (fun _ R s => s.heap.get? l = some { cls := .type "list", dict := dd, data := .seq items n, slots := sl } ∧ s.heap.get? b = some { cls := .type "dict", dict := dd2, data := .dict es ep, slots := sl2 } ∧ R (.ok (.ret .notImplemented)) s) := by
  refine .of_wp fun prog w A R s h => ?_
  obtain ⟨hp, g, d, tk, os⟩ := s
  obtain ⟨hl, hb, h⟩ := h
  have f1 := F.sub_dict_list
  wp_walk using wpAny_loadPart' hl, wpAny_loadPart' hb
  exact ⟨_, rfl, h⟩
theorem dc_tuple (l b : Addr) (items : Array Value) (n ep : Nat) (es : Array DictEntry) (dd dd2 : Option Addr) (sl sl2 : Array (Option Value)) :
    Meets (Builtin.«dict.__eq__» ⟨[.ref b, .ref l], []⟩) (fun _ R s => s.heap.get? l = some { cls := .type "tuple", dict := dd, data := .seq items n, slots := sl } ∧ s.heap.get? b = some { cls := .type "dict", dict := dd2, data := .dict es ep, slots := sl2 } ∧ R (.ok (.ret .notImplemented)) s) := by
  refine .of_wp fun prog w A R s h => ?_
  obtain ⟨hp, g, d, tk, os⟩ := s
  obtain ⟨hl, hb, h⟩ := h
  have f1 := F.sub_tuple_dict
  wp_walk using wpAny_loadPart' hb, wpAny_loadPart' hl
  exact ⟨_, rfl, h⟩
theorem tuple_dc (l b : Addr) (items : Array Value) (n ep : Nat) (es : Array DictEntry) (dd dd2 : Option Addr) (sl sl2 : Array (Option Value)) :
    Meets (Builtin.«tuple.__eq__» ⟨[.ref l, .ref b], []⟩) (fun _ R s => s.heap.get? l = some { cls := .type "tuple", dict := dd, data := .seq items n, slots := sl } ∧ s.heap.get? b = some { cls := .type "dict", dict := dd2, data := .dict es ep, slots := sl2 } ∧ R (.ok (.ret .notImplemented)) s) := by
  refine .of_wp fun prog w A R s h => ?_
  obtain ⟨hp, g, d, tk, os⟩ := s
  obtain ⟨hl, hb, h⟩ := h
  have f1 := F.sub_dict_tuple
  wp_walk using wpAny_loadPart' hl, wpAny_loadPart' hb
  exact ⟨_, rfl, h⟩
section
variable {A : Around} {s : Shared} {b : Addr}
theorem RcAt.dict_none (hb : IsDc s.heap b) (hu : A.units < cLine) : RcAt A s (.ref b) (.none) false := fun prog w E Q h => by
  obtain ⟨dd, sl, es, ep, ho⟩ := hb
  exact rc_eq_decline_or (k := false) ⟨_, ho, rfl⟩ rfl (by decide) F.sub_NoneType_dict F.slot_dict_eq F.slot_NoneType_eq_refl
    (fun _ hq => call_meets F.slot_dict_eq ⟨_, ho, rfl⟩ F.entry_dict_eq (F.args_dict_eq_2 _ _) (dc_none b ep es dd sl) ⟨ho, hq⟩)
    (fun _ hq => call_gives F.slot_NoneType_eq_refl rfl F.entry_NoneType_eq (F.args_NoneType_eq_2 _ _) (NoneType___eq___none_ref_0 b) hq)
    (fun _ hq => wpAny_of_eq (rfl : isSame (.ref b) (.none) = pure false) hq) (.inr hu) h
theorem EqAt.dict_none (hb : IsDc s.heap b) (hu : A.units < cLine) : EqAt A s (.ref b) (.none) false := fun prog w E Q h => by
  unfold eqBool
  refine wpAny_holding ?_
  refine wpAny_ite_split (fun hab => absurd (eq_of_beq hab) nofun) (fun _ => ?_)
  exact wpAny_bind (RcAt.dict_none hb hu prog w E _ (wpAny_truthy_bool h))
theorem RcAt.dict_bool (x : Bool) (hb : IsDc s.heap b) (hu : A.units < cLine) : RcAt A s (.ref b) (.bool x) false := fun prog w E Q h => by
  obtain ⟨dd, sl, es, ep, ho⟩ := hb
  exact rc_eq_decline_or (k := false) ⟨_, ho, rfl⟩ rfl (by decide) F.sub_bool_dict F.slot_dict_eq F.slot_bool_eq_refl
    (fun _ hq => call_meets F.slot_dict_eq ⟨_, ho, rfl⟩ F.entry_dict_eq (F.args_dict_eq_2 _ _) (dc_bool b ep es dd sl x) ⟨ho, hq⟩)
    (fun _ hq => call_meets F.slot_bool_eq_refl rfl F.entry_int_eq (F.args_int_eq_2 _ _) (bool_dc b ep es dd sl x) ⟨ho, hq⟩)
    (fun _ hq => wpAny_of_eq (rfl : isSame (.ref b) (.bool x) = pure false) hq) (.inr hu) h
theorem EqAt.dict_bool (x : Bool) (hb : IsDc s.heap b) (hu : A.units < cLine) : EqAt A s (.ref b) (.bool x) false := fun prog w E Q h => by
  unfold eqBool
  refine wpAny_holding ?_
  refine wpAny_ite_split (fun hab => absurd (eq_of_beq hab) nofun) (fun _ => ?_)
  exact wpAny_bind (RcAt.dict_bool x hb hu prog w E _ (wpAny_truthy_bool h))
theorem RcAt.dict_int (x : Int) (u : Tok) (hb : IsDc s.heap b) (hu : A.units < cLine) : RcAt A s (.ref b) (.int x u) false := fun prog w E Q h => by
  obtain ⟨dd, sl, es, ep, ho⟩ := hb
  exact rc_eq_decline_or (k := false) ⟨_, ho, rfl⟩ rfl (by decide) F.sub_int_dict F.slot_dict_eq F.slot_int_eq_refl
    (fun _ hq => call_meets F.slot_dict_eq ⟨_, ho, rfl⟩ F.entry_dict_eq (F.args_dict_eq_2 _ _) (dc_int b ep es dd sl x u) ⟨ho, hq⟩)
    (fun _ hq => call_meets F.slot_int_eq_refl rfl F.entry_int_eq (F.args_int_eq_2 _ _) (int_dc b ep es dd sl x u) ⟨ho, hq⟩)
    (fun _ hq => wpAny_of_eq (rfl : isSame (.ref b) (.int x u) = pure false) hq) (.inr hu) h
theorem EqAt.dict_int (x : Int) (u : Tok) (hb : IsDc s.heap b) (hu : A.units < cLine) : EqAt A s (.ref b) (.int x u) false := fun prog w E Q h => by
  unfold eqBool
  refine wpAny_holding ?_
  refine wpAny_ite_split (fun hab => absurd (eq_of_beq hab) nofun) (fun _ => ?_)
  exact wpAny_bind (RcAt.dict_int x u hb hu prog w E _ (wpAny_truthy_bool h))
theorem RcAt.dict_str (x : Str) (u : Tok) (hb : IsDc s.heap b) (hu : A.units < cLine) : RcAt A s (.ref b) (.str x u) false := fun prog w E Q h => by
  obtain ⟨dd, sl, es, ep, ho⟩ := hb
  exact rc_eq_decline_or (k := false) ⟨_, ho, rfl⟩ rfl (by decide) F.sub_str_dict F.slot_dict_eq F.slot_str_eq_refl
    (fun _ hq => call_meets F.slot_dict_eq ⟨_, ho, rfl⟩ F.entry_dict_eq (F.args_dict_eq_2 _ _) (dc_str b ep es dd sl x u) ⟨ho, hq⟩)
    (fun _ hq => call_meets F.slot_str_eq_refl rfl F.entry_str_eq (F.args_str_eq_2 _ _) (str_dc b ep es dd sl x u) ⟨ho, hq⟩)
    (fun _ hq => wpAny_of_eq (rfl : isSame (.ref b) (.str x u) = pure false) hq) (.inr hu) h
theorem EqAt.dict_str (x : Str) (u : Tok) (hb : IsDc s.heap b) (hu : A.units < cLine) : EqAt A s (.ref b) (.str x u) false := fun prog w E Q h => by
  unfold eqBool
  refine wpAny_holding ?_
  refine wpAny_ite_split (fun hab => absurd (eq_of_beq hab) nofun) (fun _ => ?_)
  exact wpAny_bind (RcAt.dict_str x u hb hu prog w E _ (wpAny_truthy_bool h))
theorem ne_dc_list {l : Addr} {items : Array Value} (hl : s.heap.IsList l items) (hb : IsDc s.heap b) : b ≠ l := by
  obtain ⟨dd2, sl2, es, ep, ho2⟩ := hb
  obtain ⟨o, ho, hc, n, hd⟩ := id hl
  rintro rfl
  rw [ho2] at ho
  cases ho
  exact absurd (show (Value.type "dict" : Value) = .type "list" from hc) (by decide)
theorem RcAt.dict_list {l : Addr} {items : Array Value} (hl : s.heap.IsList l items) (hb : IsDc s.heap b) (hu : A.units < cLine) : RcAt A s (.ref b) (.ref l) false := fun prog w E Q h => by
  have hne := ne_dc_list hl hb
  obtain ⟨⟨cls, dd, data, sl⟩, ho, hc, n, hd⟩ := id hl
  obtain ⟨dd2, sl2, es, ep, ho2⟩ := hb
  simp only at hc hd
  subst hc hd
  exact (rc_eq_decline_or (k := false) ⟨_, ho2, rfl⟩ ⟨_, ho, rfl⟩ (by decide) F.sub_list_dict F.slot_dict_eq F.slot_list_eq_refl
    (fun _ hq => call_meets F.slot_dict_eq ⟨_, ho2, rfl⟩ F.entry_dict_eq (F.args_dict_eq_2 _ _) (dc_list l b items n ep es dd dd2 sl sl2) ⟨ho, ho2, hq⟩)
    (fun _ hq => call_meets F.slot_list_eq_refl ⟨_, ho, rfl⟩ F.entry_list_eq (F.args_list_eq_2 _ _) (list_dc l b items n ep es dd dd2 sl sl2) ⟨ho, ho2, hq⟩)
    (fun _ hq => wpAny_isSame_ref_other' hne ho2 ho (by simp) hq) (.inr hu) h)
theorem EqAt.dict_list {l : Addr} {items : Array Value} (hl : s.heap.IsList l items) (hb : IsDc s.heap b) (hu : A.units < cLine) : EqAt A s (.ref b) (.ref l) false := .of_refs (ne_dc_list hl hb) (.dict_list hl hb hu)
theorem ne_dc_tuple {l : Addr} {items : Array Value} (hl : s.heap.IsTuple l items) (hb : IsDc s.heap b) : b ≠ l := by
  obtain ⟨dd2, sl2, es, ep, ho2⟩ := hb
  obtain ⟨o, ho, hc, n, hd⟩ := id hl
  rintro rfl
  rw [ho2] at ho
  cases ho
  exact absurd (show (Value.type "dict" : Value) = .type "tuple" from hc) (by decide)
theorem RcAt.dict_tuple {l : Addr} {items : Array Value} (hl : s.heap.IsTuple l items) (hb : IsDc s.heap b) (hu : A.units < cLine) : RcAt A s (.ref b) (.ref l) false := fun prog w E Q h => by
  have hne := ne_dc_tuple hl hb
  obtain ⟨⟨cls, dd, data, sl⟩, ho, hc, n, hd⟩ := id hl
  obtain ⟨dd2, sl2, es, ep, ho2⟩ := hb
  simp only at hc hd
  subst hc hd
  exact (rc_eq_decline_or (k := false) ⟨_, ho2, rfl⟩ ⟨_, ho, rfl⟩ (by decide) F.sub_tuple_dict F.slot_dict_eq F.slot_tuple_eq_refl
    (fun _ hq => call_meets F.slot_dict_eq ⟨_, ho2, rfl⟩ F.entry_dict_eq (F.args_dict_eq_2 _ _) (dc_tuple l b items n ep es dd dd2 sl sl2) ⟨ho, ho2, hq⟩)
    (fun _ hq => call_meets F.slot_tuple_eq_refl ⟨_, ho, rfl⟩ F.entry_tuple_eq (F.args_tuple_eq_2 _ _) (tuple_dc l b items n ep es dd dd2 sl sl2) ⟨ho, ho2, hq⟩)
    (fun _ hq => wpAny_isSame_ref_other hne ho2 ho (by simp) hq) (.inr hu) h)
theorem EqAt.dict_tuple {l : Addr} {items : Array Value} (hl : s.heap.IsTuple l items) (hb : IsDc s.heap b) (hu : A.units < cLine) : EqAt A s (.ref b) (.ref l) false := .of_refs (ne_dc_tuple hl hb) (.dict_tuple hl hb hu)
end
end PySem.SeqAt
/-! MP93 -/
set_option Elab.async false
set_option autoImplicit false
set_option linter.all false
set_option maxRecDepth 100000
set_option maxHeartbeats 1000000
namespace PySem.SeqAt
open MeetsSeq
mutual
/-- what is read, dicts among it -/
inductive RdE (h : Heap) : Value → PyData → Prop
  | none : RdE h .none .none
  | bool (b : Bool) : RdE h (.bool b) (.bool b)
  | int (i : Int) (t : Tok) : RdE h (.int i t) (.int i)
  | str (x : Str) (t : Tok) : RdE h (.str x t) (.str x)
  | list {l : Addr} {vs : Array Value} {xs : List PyData} : h.IsList l vs → RdEs h vs.toList xs → RdE h (.ref l) (.list xs)
  | tuple {l : Addr} {vs : Array Value} {xs : List PyData} : h.IsTuple l vs → RdEs h vs.toList xs → RdE h (.ref l) (.tuple xs)
  | dict {b : Addr} : IsDc h b → RdE h (.ref b) (.dict [])
inductive RdEs (h : Heap) : List Value → List PyData → Prop
  | nil : RdEs h [] []
  | cons {v : Value} {vs : List Value} {x : PyData} {xs : List PyData} : RdE h v x → RdEs h vs xs → RdEs h (v :: vs) (x :: xs)
end
theorem RdEs.length {h : Heap} : ∀ (xs : List PyData) (vs : List Value), RdEs h vs xs → vs.length = xs.length
  | [], _, r => by cases r; rfl
  | _ :: xs, _, r => by
    cases r with
    | cons _ r' => simp [RdEs.length xs _ r']
mutual
theorem RdE.unique {h : Heap} : ∀ (d d' : PyData) (v : Value) (as : List Addr), d'.canLay0 = true → RdE h v d → Reads h v d' as → d = d'
  | .none, _, _, _, _, r, r' => by cases r; cases r'; rfl
  | .bool _, _, _, _, _, r, r' => by cases r; cases r'; rfl
  | .int _, _, _, _, _, r, r' => by cases r; cases r'; rfl
  | .str _, _, _, _, _, r, r' => by cases r; cases r'; rfl
  | .list xs, d', _, _, hl, r, r' => by
    cases r with
    | list k1 k2 =>
      obtain ⟨o, ho, hc, n, hd⟩ := k1
      cases r' with
      | list h1 h2 h3 h4 =>
        rw [ho] at h1; cases h1
        rw [hd] at h3; cases h3
        rw [RdEs.unique xs _ _ _ hl k2 h4]
      | tuple h1 h2 h3 h4 => rw [ho] at h1; cases h1; rw [hc] at h2; exact absurd h2 (by simp)
      | dict => exact nomatch hl
  | .tuple xs, d', _, _, hl, r, r' => by
    cases r with
    | tuple k1 k2 =>
      obtain ⟨o, ho, hc, n, hd⟩ := k1
      cases r' with
      | tuple h1 h2 h3 h4 =>
        rw [ho] at h1; cases h1
        rw [hd] at h3; cases h3
        rw [RdEs.unique xs _ _ _ hl k2 h4]
      | list h1 h2 h3 h4 => rw [ho] at h1; cases h1; rw [hc] at h2; exact absurd h2 (by simp)
      | dict => exact nomatch hl
  | .dict _, d', _, _, hl, r, r' => by
    cases r with
    | dict k1 =>
      obtain ⟨dd, sl, es, ep, ho⟩ := k1
      cases r' with
      | tuple h1 h2 h3 h4 => rw [ho] at h1; cases h1; exact absurd h2 (by simp)
      | list h1 h2 h3 h4 => rw [ho] at h1; cases h1; exact absurd h2 (by simp)
      | dict => exact nomatch hl
theorem RdEs.unique {h : Heap} : ∀ (xs ys : List PyData) (vs : List Value) (as : List Addr), PyData.canLayAll0 ys = true → RdEs h vs xs → ReadsAll h vs ys as → xs = ys
  | [], _, _, _, _, r, r' => by cases r; cases r'; rfl
  | x :: xs, _, _, _, hl, r, r' => by
    cases r with
    | cons k1 k2 =>
      cases r' with
      | @cons _ _ y ys _ _ h1 h2 =>
        have hl' : y.canLay0 = true ∧ PyData.canLayAll0 ys = true := by simpa [PyData.canLayAll0] using hl
        rw [RdE.unique x _ _ _ hl'.1 k1 h1, RdEs.unique xs _ _ _ hl'.2 k2 h2]
end
theorem roomE {u a : Nat} (h : u + a < cLine) : u < cLine := Nat.lt_of_le_of_lt (Nat.le_add_right _ _) h
theorem roomE_in {u a : Nat} (h : u + (a + 1) < cLine) : u + 1 + a < cLine := by omega
theorem roomE_head {u a b : Nat} (h : u + max a b < cLine) : u + a < cLine := by have := Nat.le_max_left a b; omega
theorem roomE_tail {u a b : Nat} (h : u + max a b < cLine) : u + b < cLine := by have := Nat.le_max_right a b; omega
mutual
theorem eqAtE : ∀ (da db : PyData) (A : Around) (s : Shared) (a b : Value) (bs : List Addr), RdE s.heap a da → Reads s.heap b db bs → db.canLay0 = true → A.units + db.depth < cLine → EqAt A s a b (PyData.eqv da db)
  | .none, _, A, s, _, _, _, ra, rb, hb, hu => by
    cases ra
    cases rb with
    | none => exact EqAt.same _
    | bool y => exact EqAt.none_bool y
    | int y u => exact EqAt.none_int y u
    | str y u => exact EqAt.none_str y u
    | list k1 k2 k3 k4 => exact EqAt.none_list ⟨_, k1, k2, _, k3⟩ (roomE hu)
    | tuple k1 k2 k3 k4 => exact EqAt.none_tuple ⟨_, k1, k2, _, k3⟩ (roomE hu)
    | dict => exact nomatch hb
  | .bool x, _, A, s, _, _, _, ra, rb, hb, hu => by
    cases ra
    cases rb with
    | none => exact EqAt.bool_none x
    | bool y => exact EqAt.bool_bool x y
    | int y u => exact EqAt.bool_int x y u
    | str y u => exact EqAt.bool_str x y u
    | list k1 k2 k3 k4 => exact EqAt.bool_list x ⟨_, k1, k2, _, k3⟩ (roomE hu)
    | tuple k1 k2 k3 k4 => exact EqAt.bool_tuple x ⟨_, k1, k2, _, k3⟩ (roomE hu)
    | dict => exact nomatch hb
  | .int x, _, A, s, a, _, _, ra, rb, hb, hu => by
    obtain ⟨t, rfl⟩ : ∃ t, a = Value.int x t := by cases ra; exact ⟨_, rfl⟩
    cases rb with
    | none => exact EqAt.int_none x t
    | bool y => exact EqAt.int_bool x t y
    | int y u => exact EqAt.int_int x t y u
    | str y u => exact EqAt.int_str x t y u
    | list k1 k2 k3 k4 => exact EqAt.int_list x t ⟨_, k1, k2, _, k3⟩ (roomE hu)
    | tuple k1 k2 k3 k4 => exact EqAt.int_tuple x t ⟨_, k1, k2, _, k3⟩ (roomE hu)
    | dict => exact nomatch hb
  | .str x, _, A, s, a, _, _, ra, rb, hb, hu => by
    obtain ⟨t, rfl⟩ : ∃ t, a = Value.str x t := by cases ra; exact ⟨_, rfl⟩
    cases rb with
    | none => exact EqAt.str_none x t
    | bool y => exact EqAt.str_bool x t y
    | int y u => exact EqAt.str_int x t y u
    | str y u => exact EqAt.str_str x t y u
    | list k1 k2 k3 k4 => exact EqAt.str_list x t ⟨_, k1, k2, _, k3⟩ (roomE hu)
    | tuple k1 k2 k3 k4 => exact EqAt.str_tuple x t ⟨_, k1, k2, _, k3⟩ (roomE hu)
    | dict => exact nomatch hb
  | .list xs, _, A, s, _, _, _, ra, rb, hb, hu => by
    cases ra with
    | @list l vs _ hl h4 =>
      cases rb with
      | none => exact EqAt.list_none hl (roomE hu)
      | bool y => exact EqAt.list_bool y hl (roomE hu)
      | int y u => exact EqAt.list_int y u hl (roomE hu)
      | str y u => exact EqAt.list_str y u hl (roomE hu)
      | tuple k1 k2 k3 k4 => exact EqAt.list_tuple hl ⟨_, k1, k2, _, k3⟩ (roomE hu)
      | dict => exact nomatch hb
      | @list l' o' vs' n' ys bs₁ k1 k2 k3 k4 =>
        have hl' : s.heap.IsList l' vs' := ⟨_, k1, k2, _, k3⟩
        have n1 : vs.size = xs.length := by simpa using RdEs.length _ _ h4
        have n2 : vs'.size = ys.length := by simpa using ReadsAll.length _ _ _ k4
        have he : ∀ j (j1 : j < vs.size) (j2 : j < vs'.size), EqAt A.in1 s vs[j] vs'[j] (pairEq xs ys j) := fun j j1 j2 => by
          have := eqAtEs xs ys A.in1 s vs.toList vs'.toList _ h4 k4 hb (roomE_in hu) j (by simpa using j1) (by simpa using j2)
          simpa using this
        show EqAt A s (.ref l) (.ref l') (PyData.eqvAll xs ys)
        by_cases hll : l = l'
        · subst hll
          have e : PyData.list xs = PyData.list ys := RdE.unique (.list xs) (.list ys) _ _ hb (.list hl h4) (.list k1 k2 k3 k4)
          injection e with e
          subst e
          rw [eqvAll_refl xs hb]
          exact EqAt.same _
        · by_cases hsz : vs.size = vs'.size
          · rw [← eqvAll_same_length (by omega : xs.length = ys.length), ← n1]
            exact EqAt.of_refs hll (RcAt.lists hl hl' hsz (roomE hu) he)
          · rw [eqvAll_other_length (by omega : xs.length ≠ ys.length)]
            exact EqAt.of_refs hll (RcAt.lists_lengths hl hl' (by simpa using hsz) (roomE hu))
  | .tuple xs, _, A, s, _, _, _, ra, rb, hb, hu => by
    cases ra with
    | @tuple l vs _ hl h4 =>
      cases rb with
      | none => exact EqAt.tuple_none hl (roomE hu)
      | bool y => exact EqAt.tuple_bool y hl (roomE hu)
      | int y u => exact EqAt.tuple_int y u hl (roomE hu)
      | str y u => exact EqAt.tuple_str y u hl (roomE hu)
      | list k1 k2 k3 k4 => exact EqAt.tuple_list hl ⟨_, k1, k2, _, k3⟩ (roomE hu)
      | dict => exact nomatch hb
      | @tuple l' o' vs' n' ys bs₁ k1 k2 k3 k4 =>
        have hl' : s.heap.IsTuple l' vs' := ⟨_, k1, k2, _, k3⟩
        have n1 : vs.size = xs.length := by simpa using RdEs.length _ _ h4
        have n2 : vs'.size = ys.length := by simpa using ReadsAll.length _ _ _ k4
        have he : ∀ j (j1 : j < vs.size) (j2 : j < vs'.size), EqAt A.in1 s vs[j] vs'[j] (pairEq xs ys j) := fun j j1 j2 => by
          have := eqAtEs xs ys A.in1 s vs.toList vs'.toList _ h4 k4 hb (roomE_in hu) j (by simpa using j1) (by simpa using j2)
          simpa using this
        show EqAt A s (.ref l) (.ref l') (PyData.eqvAll xs ys)
        by_cases hll : l = l'
        · subst hll
          have e : PyData.tuple xs = PyData.tuple ys := RdE.unique (.tuple xs) (.tuple ys) _ _ hb (.tuple hl h4) (.tuple k1 k2 k3 k4)
          injection e with e
          subst e
          rw [eqvAll_refl xs hb]
          exact EqAt.same _
        · rw [← eqvAll_eq xs ys, ← n1, ← n2]
          exact EqAt.of_refs hll (RcAt.tuples hl hl' (roomE hu) he)
  | .dict _, _, A, s, _, _, _, ra, rb, hb, hu => by
    cases ra with
    | dict k1 =>
      cases rb with
      | none => exact EqAt.dict_none k1 (roomE hu)
      | bool y => exact EqAt.dict_bool y k1 (roomE hu)
      | int y u => exact EqAt.dict_int y u k1 (roomE hu)
      | str y u => exact EqAt.dict_str y u k1 (roomE hu)
      | list h1 h2 h3 h4 => exact EqAt.dict_list ⟨_, h1, h2, _, h3⟩ k1 (roomE hu)
      | tuple h1 h2 h3 h4 => exact EqAt.dict_tuple ⟨_, h1, h2, _, h3⟩ k1 (roomE hu)
      | dict => exact nomatch hb
theorem eqAtEs : ∀ (xs ys : List PyData) (A : Around) (s : Shared) (vs ws : List Value) (bs : List Addr), RdEs s.heap vs xs → ReadsAll s.heap ws ys bs → PyData.canLayAll0 ys = true →
    A.units + PyData.depthAll ys < cLine → ∀ j (h1 : j < vs.length) (h2 : j < ws.length), EqAt A s vs[j] ws[j] (pairEq xs ys j)
  | [], _, _, _, _, _, _, ra, _, _, _, j, h1, _ => by cases ra; exact absurd h1 (Nat.not_lt_zero _)
  | _ :: _, [], _, _, _, _, _, _, rb, _, _, j, _, h2 => by cases rb; exact absurd h2 (Nat.not_lt_zero _)
  | x :: xs, y :: ys, A, s, _, _, _, ra, rb, hb, hu, j, h1, h2 => by
    have hb' : y.canLay0 = true ∧ PyData.canLayAll0 ys = true := by simpa [PyData.canLayAll0] using hb
    cases ra with
    | cons r rs =>
      cases rb with
      | cons r' rs' =>
        cases j with
        | zero => exact eqAtE x y A s _ _ _ r r' hb'.1 (roomE_head hu)
        | succ j => exact eqAtEs xs ys A s _ _ _ rs rs' hb'.2 (roomE_tail hu) j (Nat.lt_of_succ_lt_succ h1) (Nat.lt_of_succ_lt_succ h2)
end
theorem rcAtE {da db : PyData} {A : Around} {s : Shared} {a b : Value} {bs : List Addr} (ra : RdE s.heap a da) (rb : Reads s.heap b db bs) (hb : db.canLay0 = true) (hu : A.units + db.depth < cLine) : RcAt A s a b (PyData.eqv da db) := by
  cases ra with
  | none =>
    cases rb with
    | none => exact RcAt.none_none
    | bool y => exact RcAt.none_bool y
    | int y u => exact RcAt.none_int y u
    | str y u => exact RcAt.none_str y u
    | list k1 k2 k3 k4 => exact RcAt.none_list ⟨_, k1, k2, _, k3⟩ (roomE hu)
    | tuple k1 k2 k3 k4 => exact RcAt.none_tuple ⟨_, k1, k2, _, k3⟩ (roomE hu)
    | dict => exact nomatch hb
  | bool x =>
    cases rb with
    | none => exact RcAt.bool_none x
    | bool y => exact RcAt.bool_bool x y
    | int y u => exact RcAt.bool_int x y u
    | str y u => exact RcAt.bool_str x y u
    | list k1 k2 k3 k4 => exact RcAt.bool_list x ⟨_, k1, k2, _, k3⟩ (roomE hu)
    | tuple k1 k2 k3 k4 => exact RcAt.bool_tuple x ⟨_, k1, k2, _, k3⟩ (roomE hu)
    | dict => exact nomatch hb
  | int x t =>
    cases rb with
    | none => exact RcAt.int_none x t
    | bool y => exact RcAt.int_bool x t y
    | int y u => exact RcAt.int_int x t y u
    | str y u => exact RcAt.int_str x t y u
    | list k1 k2 k3 k4 => exact RcAt.int_list x t ⟨_, k1, k2, _, k3⟩ (roomE hu)
    | tuple k1 k2 k3 k4 => exact RcAt.int_tuple x t ⟨_, k1, k2, _, k3⟩ (roomE hu)
    | dict => exact nomatch hb
  | str x t =>
    cases rb with
    | none => exact RcAt.str_none x t
    | bool y => exact RcAt.str_bool x t y
    | int y u => exact RcAt.str_int x t y u
    | str y u => exact RcAt.str_str x t y u
    | list k1 k2 k3 k4 => exact RcAt.str_list x t ⟨_, k1, k2, _, k3⟩ (roomE hu)
    | tuple k1 k2 k3 k4 => exact RcAt.str_tuple x t ⟨_, k1, k2, _, k3⟩ (roomE hu)
    | dict => exact nomatch hb
  | @list l vs xs hl h4 =>
    cases rb with
    | none => exact RcAt.list_none hl (roomE hu)
    | bool y => exact RcAt.list_bool y hl (roomE hu)
    | int y u => exact RcAt.list_int y u hl (roomE hu)
    | str y u => exact RcAt.list_str y u hl (roomE hu)
    | tuple k1 k2 k3 k4 => exact RcAt.list_tuple hl ⟨_, k1, k2, _, k3⟩ (roomE hu)
    | dict => exact nomatch hb
    | @list l' o' vs' n' ys bs₁ k1 k2 k3 k4 =>
      have hl' : s.heap.IsList l' vs' := ⟨_, k1, k2, _, k3⟩
      have n1 : vs.size = xs.length := by simpa using RdEs.length _ _ h4
      have n2 : vs'.size = ys.length := by simpa using ReadsAll.length _ _ _ k4
      have he : ∀ j (j1 : j < vs.size) (j2 : j < vs'.size), EqAt A.in1 s vs[j] vs'[j] (pairEq xs ys j) := fun j j1 j2 => by
        have := eqAtEs xs ys A.in1 s vs.toList vs'.toList _ h4 k4 hb (roomE_in hu) j (by simpa using j1) (by simpa using j2)
        simpa using this
      show RcAt A s (.ref l) (.ref l') (PyData.eqvAll xs ys)
      by_cases hsz : vs.size = vs'.size
      · rw [← eqvAll_same_length (by omega : xs.length = ys.length), ← n1]
        exact RcAt.lists hl hl' hsz (roomE hu) he
      · rw [eqvAll_other_length (by omega : xs.length ≠ ys.length)]
        exact RcAt.lists_lengths hl hl' (by simpa using hsz) (roomE hu)
  | @tuple l vs xs hl h4 =>
    cases rb with
    | none => exact RcAt.tuple_none hl (roomE hu)
    | bool y => exact RcAt.tuple_bool y hl (roomE hu)
    | int y u => exact RcAt.tuple_int y u hl (roomE hu)
    | str y u => exact RcAt.tuple_str y u hl (roomE hu)
    | list k1 k2 k3 k4 => exact RcAt.tuple_list hl ⟨_, k1, k2, _, k3⟩ (roomE hu)
    | dict => exact nomatch hb
    | @tuple l' o' vs' n' ys bs₁ k1 k2 k3 k4 =>
      have hl' : s.heap.IsTuple l' vs' := ⟨_, k1, k2, _, k3⟩
      have n1 : vs.size = xs.length := by simpa using RdEs.length _ _ h4
      have n2 : vs'.size = ys.length := by simpa using ReadsAll.length _ _ _ k4
      have he : ∀ j (j1 : j < vs.size) (j2 : j < vs'.size), EqAt A.in1 s vs[j] vs'[j] (pairEq xs ys j) := fun j j1 j2 => by
        have := eqAtEs xs ys A.in1 s vs.toList vs'.toList _ h4 k4 hb (roomE_in hu) j (by simpa using j1) (by simpa using j2)
        simpa using this
      show RcAt A s (.ref l) (.ref l') (PyData.eqvAll xs ys)
      rw [← eqvAll_eq xs ys, ← n1, ← n2]
      exact RcAt.tuples hl hl' (roomE hu) he
  | dict k1 =>
    cases rb with
    | none => exact RcAt.dict_none k1 (roomE hu)
    | bool y => exact RcAt.dict_bool y k1 (roomE hu)
    | int y u => exact RcAt.dict_int y u k1 (roomE hu)
    | str y u => exact RcAt.dict_str y u k1 (roomE hu)
    | list h1 h2 h3 h4 => exact RcAt.dict_list ⟨_, h1, h2, _, h3⟩ k1 (roomE hu)
    | tuple h1 h2 h3 h4 => exact RcAt.dict_tuple ⟨_, h1, h2, _, h3⟩ k1 (roomE hu)
    | dict => exact nomatch hb
end PySem.SeqAt
/-! MP94 -/
set_option Elab.async false
set_option autoImplicit false
set_option linter.all false
set_option maxRecDepth 100000
namespace MP
open PySem PySem.Spec L2
open PyProof.Rows hiding St

/-! ## x == y, where x may hold dicts -/
def viewE (S : Sto) : Nat → D → Option PyData
  | _, .non => some .none
  | _, .bl b => some (.bool b)
  | _, .int i => some (.int i)
  | _, .str x => some (.str x)
  | k + 1, .tup ds => (ds.mapM (viewE S k)).map .tuple
  | k + 1, .ptr n => match listAt S n with
    | some ds => (ds.mapM (viewE S k)).map .list
    | none => match S[n]? with
      | some (.dct _) => some (.dict [])
      | _ => none
  | 0, .tup _ => none
  | 0, .ptr _ => none
def eqE : F2 := fun x y S => match viewE S 60 x, view S 60 y with
  | some p, some q => .ok (.bl (p.eqv q)) S
  | _, _ => .bad
/-- x == (), x == [] -/
def eqN : F2 := fun x y S => match x, y with
  | .tup ds, .tup [] => .ok (.bl ds.isEmpty) S
  | .ptr n, .ptr m => match listAt S n, listAt S m with
    | some ds, some [] => .ok (.bl ds.isEmpty) S
    | _, _ => .bad
  | _, _ => .bad
def neN : F2 := fun x y S => match x, y with
  | .tup ds, .tup [] => .ok (.bl (!ds.isEmpty)) S
  | .ptr n, .ptr m => match listAt S n, listAt S m with
    | some ds, some [] => .ok (.bl (!ds.isEmpty)) S
    | _, _ => .bad
  | _, _ => .bad
/-- x is True, x is False -/
def isB : F2 := fun x y S => match x, y with
  | .ptr _, .bl _ => .ok (.bl false) S
  | _, _ => isS x y S
section
variable {X : Cx} {cl : Cl} {W : WX} {io : List Addr} {S : Sto} {H : Hp} {pins : List (Addr × Obj)} {s : Shared} {σ : L2.St}
theorem viewE_rd (I : Inv X pins σ H s) (A : Abs X.K cl io S H) : ∀ (k : Nat) (d : D) (v : V) (u : Value) (p : PyData), viewE S k d = some p → RelD X.K io H d v → RelV v u → PySem.SeqAt.RdE s.heap u p
  | k, .non, _, _, p, h, r, rv => by
    cases r
    cases (show _ = Value.none from rv)
    simp only [viewE, Option.some.injEq] at h
    subst h
    exact .none
  | k, .bl b, _, _, p, h, r, rv => by
    cases r
    cases (show _ = Value.bool b from rv)
    simp only [viewE, Option.some.injEq] at h
    subst h
    exact .bool b
  | k, .int i, _, _, p, h, r, rv => by
    cases r
    obtain ⟨t, rfl⟩ := rv
    simp only [viewE, Option.some.injEq] at h
    subst h
    exact .int i t
  | k, .str x, _, _, p, h, r, rv => by
    cases r with
    | str _ hx =>
      obtain ⟨t, rfl⟩ := rv
      simp only [viewE, Option.some.injEq] at h
      subst h
      exact .str x t
  | 0, .tup ds, _, _, p, h, r, rv => by simp [viewE] at h
  | 0, .ptr n, _, _, p, h, r, rv => by simp [viewE] at h
  | k + 1, .tup ds, _, _, p, h, r, rv => by
    have all : ∀ (es : List D) (ws : List V) (us : List Value) (qs : List PyData), es.mapM (viewE S k) = some qs → RelDs X.K io H es ws → Vals ws us → PySem.SeqAt.RdEs s.heap us qs := by
      intro es
      induction es with
      | nil =>
        intro ws us qs hq hr hv
        cases hr
        cases hv
        simp at hq
        subst hq
        exact .nil
      | cons e es ih =>
        intro ws us qs hq hr hv
        cases hr with
        | cons r1 r2 =>
          cases hv with
          | cons v1 v2 =>
            obtain ⟨b, bs, rfl, h1, h2⟩ := mapM_cons_some hq
            exact .cons (viewE_rd I A k e _ _ b h1 r1 v1) (ih _ _ bs h2 r2 v2)
    cases r with
    | @tup a _ ws hq rs =>
      cases (show _ = Value.ref a from rv)
      simp only [viewE] at h
      cases hm : ds.mapM (viewE S k) with
      | none => rw [hm] at h; cases h
      | some qs =>
        rw [hm] at h
        cases h
        obtain ⟨its, rvs, ht, _⟩ := I.tuple hq.1
        exact .tuple ht (by simpa using all ds _ _ qs hm rs rvs)
  | k + 1, .ptr n, _, _, p, h, r, rv => by
    have all : ∀ (es : List D) (ws : List V) (us : List Value) (qs : List PyData), es.mapM (viewE S k) = some qs → RelDs X.K io H es ws → Vals ws us → PySem.SeqAt.RdEs s.heap us qs := by
      intro es
      induction es with
      | nil =>
        intro ws us qs hq hr hv
        cases hr
        cases hv
        simp at hq
        subst hq
        exact .nil
      | cons e es ih =>
        intro ws us qs hq hr hv
        cases hr with
        | cons r1 r2 =>
          cases hv with
          | cons v1 v2 =>
            obtain ⟨b, bs, rfl, h1, h2⟩ := mapM_cons_some hq
            exact .cons (viewE_rd I A k e _ _ b h1 r1 v1) (ih _ _ bs h2 r2 v2)
    cases r with
    | @ptr _ a hn =>
      cases (show _ = Value.ref a from rv)
      simp only [viewE] at h
      cases hl : listAt S n with
      | some ds =>
        rw [hl] at h
        simp only at h
        obtain ⟨vs, hq, rs⟩ := ptr_list A hn hl
        obtain ⟨its, rvs, pl, _⟩ := I.list hq
        cases hm : ds.mapM (viewE S k) with
        | none => rw [hm] at h; cases h
        | some qs =>
          rw [hm] at h
          cases h
          exact .list pl.isList (by simpa using all ds _ _ qs hm rs rvs)
      | none =>
        rw [hl] at h
        simp only at h
        split at h
        · rename_i kvs hk
          cases h
          cases ptr_obj A hn hk with
          | @dct _ _ ws hH rk =>
            have oa : ObjOk X.prog X.w H s.heap a (.dK ws) := I.hok a _ hH
            obtain ⟨_, _, us, _, od, es, ep, ho, hc, hd, _⟩ := oa
            obtain ⟨cls, dd, data, sl⟩ := od
            have hc1 := hc.1
            simp only at hc1 hd
            subst hc1 hd
            exact .dict ⟨dd, sl, es, ep, ho⟩
        · cases h
theorem op_eqE (hu : X.A.units + 65 < cLine) : OpS X cl W (compareOp .Eq) eqE := by
  intro pins s σ H io S x y vx vy u v I A rx ru ry rv G
  unfold eqE at G ⊢
  split at G
  · rename_i p q hp hq
    have p1 := viewE_rd I A 60 x vx u p hp rx ru
    obtain ⟨q1, q2, q3⟩ := view_dp A 60 y vy q hq ry
    obtain ⟨as, q4⟩ := Dp.reads I q _ _ q1 rv
    exact PySem.SeqAt.rcAtE p1 q4 q2 (by omega) _ _ _ _ ⟨_, S, io, H, .bl _, rfl, I, A, Grow.rfl', .bl _, rfl⟩
  · exact False.elim G
theorem empty_range {n : Nat} {e : Nat → Bool} : (((List.range (min n 0)).all e) && n == 0) = decide (n = 0) := by
  rw [Nat.min_zero, List.range_zero, List.all_nil, Bool.true_and]
  cases n <;> rfl
theorem op_eqN (hu : X.A.units + 65 < cLine) : OpS X cl W (compareOp .Eq) eqN := by
  intro pins s σ H io S x y vx vy u v I A rx ru ry rv G
  unfold eqN at G ⊢
  split at G
  · rename_i ds
    cases rx with
    | @tup a _ ws hq rs =>
      cases ry with
      | @tup b _ ws2 hq2 rs2 =>
        cases rs2
        cases (show u = Value.ref a from ru)
        cases (show v = Value.ref b from rv)
        obtain ⟨its, rvs, ht, _⟩ := I.tuple hq.1
        obtain ⟨its2, rvs2, ht2, _⟩ := I.tuple hq2.1
        cases rvs2
        refine PySem.SeqAt.RcAt.tuples (e := fun _ => true) ht ht2 (by omega) (fun j _ h2 => absurd h2 (by simp)) _ _ _ _ ?_
        have e : ds.isEmpty = (((List.range (min its.toArray.size ([] : List Value).toArray.size)).all fun _ => true) && its.toArray.size == ([] : List Value).toArray.size) := by
          have l1 := rs.length
          have l2 := rvs.length
          simp only [List.size_toArray, List.length_nil, empty_range]
          cases ds with
          | nil => simp at l1; rw [← l2, ← l1]; rfl
          | cons d ds => simp at l1; rw [← l2, ← l1]; rfl
        rw [← e]
        exact ⟨_, S, io, H, .bl _, rfl, I, A, Grow.rfl', .bl _, rfl⟩
  · rename_i n m
    split at G
    · rename_i ds hd hm
      cases rx with
      | @ptr _ a hn =>
        cases ry with
        | @ptr _ b hn2 =>
          cases (show u = Value.ref a from ru)
          cases (show v = Value.ref b from rv)
          obtain ⟨ws, hq, rs⟩ := ptr_list A hn hd
          obtain ⟨ws2, hq2, rs2⟩ := ptr_list A hn2 hm
          cases rs2
          obtain ⟨its, rvs, pl, _⟩ := I.list hq
          obtain ⟨its2, rvs2, pl2, _⟩ := I.list hq2
          cases rvs2
          have l1 := rs.length
          have l2 := rvs.length
          have fin : EvP X cl pins σ io H (.ok (.bl ds.isEmpty) S) (.bool ds.isEmpty) s := ⟨_, S, io, H, .bl _, rfl, I, A, Grow.rfl', .bl _, rfl⟩
          cases ds with
          | nil =>
            simp at l1
            have l3 : its = [] := List.length_eq_zero_iff.mp (by rw [← l2, ← l1])
            subst l3
            exact PySem.SeqAt.RcAt.lists (e := fun _ => true) pl.isList pl2.isList rfl (by omega) (fun j h1 _ => absurd h1 (by simp)) _ _ _ _ fin
          | cons d ds =>
            simp at l1
            have h0 : (its.toArray.size != ([] : List Value).toArray.size) = true := by
              have : its.length ≠ 0 := by omega
              simpa using this
            exact PySem.SeqAt.RcAt.lists_lengths pl.isList pl2.isList h0 (by omega) _ _ _ _ fin
    · exact False.elim G
  · exact False.elim G
theorem op_neN (hu : X.A.units + 65 < cLine) : OpS X cl W (compareOp .NotEq) neN := by
  intro pins s σ H io S x y vx vy u v I A rx ru ry rv G
  unfold neN at G ⊢
  split at G
  · rename_i ds
    cases rx with
    | @tup a _ ws hq rs =>
      cases ry with
      | @tup b _ ws2 hq2 rs2 =>
        cases rs2
        cases (show u = Value.ref a from ru)
        cases (show v = Value.ref b from rv)
        obtain ⟨its, rvs, ht, _⟩ := I.tuple hq.1
        obtain ⟨its2, rvs2, ht2, _⟩ := I.tuple hq2.1
        cases rvs2
        refine PySem.SeqAt.RcNeAt.tuples (e := fun _ => true) ht ht2 (by omega) (fun j _ h2 => absurd h2 (by simp)) _ _ _ _ ?_
        have e : ds.isEmpty = (((List.range (min its.toArray.size ([] : List Value).toArray.size)).all fun _ => true) && its.toArray.size == ([] : List Value).toArray.size) := by
          have l1 := rs.length
          have l2 := rvs.length
          simp only [List.size_toArray, List.length_nil, empty_range]
          cases ds with
          | nil => simp at l1; rw [← l2, ← l1]; rfl
          | cons d ds => simp at l1; rw [← l2, ← l1]; rfl
        rw [← e]
        exact ⟨_, S, io, H, .bl _, rfl, I, A, Grow.rfl', .bl _, rfl⟩
  · rename_i n m
    split at G
    · rename_i ds hd hm
      cases rx with
      | @ptr _ a hn =>
        cases ry with
        | @ptr _ b hn2 =>
          cases (show u = Value.ref a from ru)
          cases (show v = Value.ref b from rv)
          obtain ⟨ws, hq, rs⟩ := ptr_list A hn hd
          obtain ⟨ws2, hq2, rs2⟩ := ptr_list A hn2 hm
          cases rs2
          obtain ⟨its, rvs, pl, _⟩ := I.list hq
          obtain ⟨its2, rvs2, pl2, _⟩ := I.list hq2
          cases rvs2
          have l1 := rs.length
          have l2 := rvs.length
          have fin : EvP X cl pins σ io H (.ok (.bl (!ds.isEmpty)) S) (.bool (!ds.isEmpty)) s := ⟨_, S, io, H, .bl _, rfl, I, A, Grow.rfl', .bl _, rfl⟩
          cases ds with
          | nil =>
            simp at l1
            have l3 : its = [] := List.length_eq_zero_iff.mp (by rw [← l2, ← l1])
            subst l3
            exact PySem.SeqAt.RcNeAt.lists (e := fun _ => true) pl.isList pl2.isList rfl (by omega) (fun j h1 _ => absurd h1 (by simp)) _ _ _ _ fin
          | cons d ds =>
            simp at l1
            have h0 : (its.toArray.size != ([] : List Value).toArray.size) = true := by
              have : its.length ≠ 0 := by omega
              simpa using this
            exact PySem.SeqAt.RcNeAt.lists_lengths pl.isList pl2.isList h0 (by omega) _ _ _ _ fin
    · exact False.elim G
  · exact False.elim G
theorem op_isB : OpS X cl W (compareOp .Is) isB := by
  intro pins s σ H io S x y vx vy u v I A rx ru ry rv G
  unfold isB at G ⊢
  split at G
  · rename_i n b
    cases rx with
    | @ptr _ a hn =>
      cases ry
      cases (show u = Value.ref a from ru)
      cases (show v = Value.bool b from rv)
      refine wpAny_of_eq (show compareOp .Is (.ref a) (.bool b) = pure (.bool false) from rfl) ?_
      exact ⟨_, S, io, H, .bl _, rfl, I, A, Grow.rfl', .bl _, rfl⟩
  · exact op_isS pins s σ H io S x y vx vy u v I A rx ru ry rv G
end
end MP
/-! MP95 -/
set_option Elab.async false
set_option autoImplicit false
set_option linter.all false
set_option maxRecDepth 100000
namespace MP
open PySem PySem.Spec L2
open PyProof.Rows hiding St

/-! ## len(o), where o's class has a __len__; tuple(text) -/
def lenI (c : Str) (g : FL) : FL := fun xs S => match xs with
  | [.ptr n] => match insAt c S n with
    | some _ => match g [.ptr n] S with
      | .ok (.int i) S' => if 0 ≤ i ∧ i < 4611686018427387904 then .ok (.int i) S' else .bad
      | _ => .bad
    | none => lenS xs S
  | _ => lenS xs S
def tupleC : FL
  | [.str z], S => if z.length ≤ 1000 then .ok (.tup (strItems z)) S else .bad
  | xs, S => tupleS xs S
section
variable {X : Cx} {cl : Cl} {W : WX} {c : Str} {C fi : Addr} {fd : FuncData} {ps : List Str} {k : Nat} {g : FL} {CX : CXT}
theorem own_len {P : Program} {w : World} {K : PySem.W.Frag} {A : Around} {E : Value → Shared → Prop} {s : Shared} {a C fi : Addr} {ox : Obj} {od : Option Obj} {Q : Value → Shared → Prop} (hK : K.In s.heap) (J : PySem.W.InstAt s.heap a ox C od)
    (hs : PySem.W.findIn K (.ref C) "__len__" = some (some (.ref fi))) (hf : PySem.W.isFn K (.ref fi) = true) (h : wpAny (model P w) A.in1 (call (.ref fi) [.ref a]) (fun r s' => ∃ (i : Int) (t : Tok), r = .int i t ∧ 0 ≤ i ∧ i < 4611686018427387904 ∧ ∀ tk, Q (.int i tk) { s' with toks := s'.toks + 1 }) E s) : wpAny (model P w) A (call (.builtin "len") [.ref a]) Q E s := by
  refine Calls.call_function_entry kind_len plain_len entry_len (args_len1 _) ?_
  unfold Builtin.«len»
  refine wpAny_bind (m := oneArg "len" _) (wpAny_pure ?_)
  refine wpAny_bind (m := callSpecial? (.ref a) (PySem.Str.ofString "__len__")) ?_
  unfold callSpecial?
  refine wpAny_bind (wpAny_bind (J.type.here ((PySem.W.looks_findIn hK hs).here ?_)))
  refine wpAny_holding (wpAny_bind ((PySem.W.bind_fn hK _ (beq_iff_eq.mp hf)).here ?_))
  refine wpAny_bind (wpAny_mono h (fun r s' ⟨i, t, er, h0, h1, q⟩ => ?_) fun _ _ z => z)
  subst er
  refine wpAny_pure ?_
  refine wpAny_bind (wpAny_holding (wpAny_pure ?_))
  refine wpAny_bind (wpAny_letGo ?_)
  show wpAny _ _ (if i < 0 then _ else _) _ _ _
  rw [if_neg (by omega)]
  show wpAny _ _ (if i ≥ 2 ^ 63 then _ else _) _ _ _
  rw [if_neg (by omega)]
  exact wpAny_bind (wpAny_mkInt (wpAny_pure ⟨_, rfl, q _⟩))
theorem len_call {P : Program} {w : World} {K : PySem.W.Frag} {mg : Str → Option Value} {base : Heap} {f : Addr} {fd : FuncData} {ps : List Str} {g : FL} (hP : X.prog = P) (hw : X.w = w) (hK : X.K = K) (hmg : X.mg = mg) (hbase : X.base = base) {A : Around} (F : FnG P w K mg base cl CX k f fd ps g) (hl : ps.length = 1) (hb : Binds K fd ps []) (hx : PassF CX X) (hr : Room k A) (hg : A.guards = some []) (hfr : A.frames = X.A.frames)
    {pins : List (Addr × Obj)} {s : Shared} {σ : L2.St} {H : Hp} {io : List Addr} {S S' : Sto} {x : D} {vx : V} {u : Value} {i : Int} (I : Inv X pins σ H s) (Ab : Abs X.K cl io S H) (rx : RelD X.K io H x vx) (ru : RelV vx u) (e : g [x] S = .ok (.int i) S') {E : Value → Shared → Prop} :
    wpAny (model X.prog X.w) A (call (.ref f) [u]) (fun r s' => (∃ t, r = .int i t) ∧ ∃ io' H', Inv X pins σ H' s' ∧ Abs X.K cl io' S' H' ∧ Grow X.K io H io' H') E s := by
  subst hP hw hK hmg hbase
  have e0 : Env0 X.prog X.w X.K X.mg X.base A X.stack s H := ⟨by rw [hfr]; exact I.env0.frames, I.env0.mod, I.env0.bs, I.env0.bsz, I.env0.funs, I.env0.frf, I.env0.hok, I.env0.bare⟩
  refine wpAny_call (codeAny_mono (F.run A X.stack s H ⟨[u], []⟩ [u] [vx] io S [x] (fun z H' => z = .int i ∧ ∃ io', Abs X.K cl io' S' H' ∧ Grow X.K io H io' H') (fun _ _ _ => False) hr hg e0 (by have := hb s [u] I.kIn (by simp [hl]); simpa using this) (.cons ru .nil) (by simp [hl]) Ab (.cons rx .nil) (by rw [e]; trivial) fun d S2 io' H' z e2 A' g' rd => ?_) fun r s' hq => ?_)
  · rw [e] at e2
    cases e2
    cases rd
    exact ⟨rfl, io', A', g'⟩
  · cases r with
    | error er => exact False.elim (hx _ _ er s' hq)
    | ok fl =>
      cases fl with
      | ret z =>
        obtain ⟨zv, H', I', rz, ez, io', A', g'⟩ := I.after hq
        subst ez
        exact ⟨rz, io', H', I', A', g'⟩
      | next => exact False.elim hq
      | brk => exact False.elim hq
      | cont => exact False.elim hq
theorem cb_lenI (hC : cl c = some C) (hs : PySem.W.findIn X.K (.ref C) "__len__" = some (some (.ref fi))) (hf : PySem.W.isFn X.K (.ref fi) = true) (F : FnG X.prog X.w X.K X.mg X.base cl CX k fi fd ps g) (hp : ps.length = 1) (hr : Room (k + 1) X.A) (hgd : X.A.guards = some []) (hb : Binds X.K fd ps []) (hx : PassF CX X) :
    CaS X cl W (.builtin "len") (lenI c g) := by
  intro pins s σ H io S xs vs us I A rx ru G
  unfold lenI at G ⊢
  split at G
  · rename_i n
    split at G
    · rename_i fs hi
      obtain ⟨v, rfl, r⟩ := one_arg rx
      obtain ⟨u, rfl, ru'⟩ := Vals.one ru
      cases r with
      | @ptr _ a hn =>
        cases (show u = Value.ref a from ru')
        split at G
        · rename_i i S' hg
          split at G
          · rename_i hz
            rw [if_pos hz]
            obtain ⟨dx, ws, hHa, _, _⟩ := ins_obj hC A hn hi
            obtain ⟨mA, J, _⟩ := ins_get I.hok hHa
            obtain ⟨odx, J, _⟩ := J.look
            refine own_len I.kIn J hs hf ?_
            refine thn (len_call rfl rfl rfl rfl rfl F hp hb hx hr.in1 hgd rfl I A (.ptr hn) rfl hg) fun r s1 ⟨⟨t, er⟩, io2, H2, I2, A2, g2⟩ => ?_
            subst er
            exact ⟨i, t, rfl, hz.1, hz.2, fun tk => ⟨.int i, S', io2, H2, .int i, rfl, I2.tok _, A2, g2, .int i, ⟨tk, rfl⟩⟩⟩
          · exact False.elim G
        · exact False.elim G
    · exact cb_len pins s σ H io S _ vs us I A rx ru G
  · exact cb_len pins s σ H io S _ vs us I A rx ru G
theorem sign_vals : ∀ {l : List Nat} {us : List Value}, us.length = l.length → (∀ (j : Nat) (v : Value), us[j]? = some v → ∃ c u, l[j]? = some c ∧ v = .str ⟨#[c]⟩ u) → Vals (l.map fun c => V.str ⟨#[c]⟩) us
  | [], [], _, _ => .nil
  | c :: l, u :: us, hl, h => by
    obtain ⟨c', t, e1, e2⟩ := h 0 u rfl
    simp only [List.getElem?_cons_zero, Option.some.injEq] at e1
    subst e1 e2
    exact .cons ⟨t, rfl⟩ (sign_vals (by simpa using hl) fun j v e => h (j + 1) v (by simpa using e))
  | [], _ :: _, hl, _ => by simp at hl
  | _ :: _, [], hl, _ => by simp at hl
theorem sign_rels {K : PySem.W.Frag} {io : List Addr} {H : Hp} : ∀ {l : List Nat}, (∀ c ∈ l, okS ⟨#[c]⟩) → RelDs K io H (l.map fun c => D.str ⟨#[c]⟩) (l.map fun c => V.str ⟨#[c]⟩)
  | [], _ => .nil
  | c :: l, h => .cons (.str _ (h c (List.mem_cons_self ..))) (sign_rels fun x hx => h x (List.mem_cons_of_mem _ hx))
theorem cb_tupleC (hc : X.calm = true) : CaS X cl W (.type "tuple") tupleC := by
  intro pins s σ H io S xs vs us I A rx ru G
  unfold tupleC at G ⊢
  split at G
  · rename_i z
    split at G
    · rename_i hz
      rw [if_pos hz]
      obtain ⟨v, rfl, r⟩ := one_arg rx
      obtain ⟨u, rfl, ru'⟩ := Vals.one ru
      cases r with
      | str _ hok =>
        obtain ⟨t, rfl⟩ := ru'
        refine call_tuple_str (I.ok.hd hc) z t (fun h' tk acc hk ha => ?_) ?_
        · have I1 : Inv X pins σ H { s with heap := h', toks := tk } := I.kept (t' := tk) hk
          have hv : Vals (z.cps.toList.map fun c => V.str ⟨#[c]⟩) acc.toList := sign_vals (by rw [Array.length_toList, Array.length_toList]; exact ha.1) fun j v e => by
            obtain ⟨c, u, e1, e2⟩ := ha.2 j v (by rw [← Array.getElem?_toList]; exact e)
            exact ⟨c, u, by rw [Array.getElem?_toList]; exact e1, e2⟩
          have hl : (z.cps.toList.map fun c => V.str ⟨#[c]⟩).length ≤ sizeLine := by
            rw [List.length_map, Array.length_toList]
            have : z.cps.size = z.length := rfl
            have := sizeLine_eq
            omega
          have I2 := inv_newF I1 hv hl
          have ea : acc.toList.toArray = acc := by simp
          rw [ea] at I2
          obtain ⟨d, S2, io2, e2, A2, g2, rd⟩ := AnsV.tupF (cl := cl) A (ds := strItems z) (sign_rels fun c hc => okS_one hok hc) _ { cls := .type "tuple", data := .seq acc } (I1.hok.fresh (Nat.le_refl _)) rfl
          exact ⟨d, S2, io2, _, .ref h'.objs.size, e2, I2, A2, g2, rd, rfl⟩
        · have : z.cps.size = z.length := rfl
          have := sizeLine_eq
          omega
    · exact False.elim G
  · exact cb_tuple pins s σ H io S _ vs us I A rx ru G
end
end MP
/-! MP96 -/
set_option Elab.async false
set_option autoImplicit false
set_option linter.all false
set_option maxRecDepth 100000
namespace MP
open PySem PySem.Spec L2
open PyProof.Rows hiding St

/-! ## t[::-1], t a tuple -/
def revT : F1
  | .tup ds, S => .ok (.tup ds.reverse) S
  | _, _ => .bad
section
variable {prog : Program} {w : World} {A : Around} {E : Value → Shared → Prop} {s : Shared}
theorem places_rev (n : Nat) : Builtin.Slice.slicePlaces ((n : Int) - 1) (-1) (-1) = n := by
  unfold Builtin.Slice.slicePlaces
  have h1 : ¬ ((-1 : Int) > 0) := by decide
  simp only [h1, if_false]
  by_cases h : (n : Int) - 1 > -1
  · simp only [h, if_true]
    rw [show (- -1 : Int) = 1 by decide, Int.ediv_one]
    omega
  · simp only [h, if_false]
    omega
theorem sliceApplied_rev {sl : Addr} {vs : Value} {n : Nat} {Q : Int × Int × Nat → Shared → Prop} (hs : s.heap.IsSliceOf sl .none .none vs) (ps : IsPart vs (some (-1)))
    (h : Q (((n : Int) - 1), -1, n) s) : wpAny (model prog w) A (Builtin.Slice.sliceApplied (.ref sl) (pure (n : Int))) Q E s := by
  obtain ⟨os, hos, hcs, hds⟩ := id hs
  unfold Builtin.Slice.sliceApplied Builtin.Slice.sliceFields
  refine wpAny_bind (wpAny_bind (wpAny_field hos hds (x := .none) rfl (wpAny_bind (wpAny_field hos hds (x := .none) rfl (wpAny_bind (wpAny_field hos hds (x := vs) rfl (wpAny_pure ?_)))))))
  refine wpAny_bind (HT.slicePart_ ps ?_)
  show wpAny _ _ (if ((-1 : Int) == 0) = true then _ else _) _ _ s
  rw [if_neg (by decide)]
  refine wpAny_bind (HT.slicePart_ .none (wpAny_bind (HT.slicePart_ .none (wpAny_bind (wpAny_pure ?_)))))
  show wpAny _ _ (pure (((n : Int) - 1), (-1 : Int), Builtin.Slice.slicePlaces ((n : Int) - 1) (-1) (-1))) _ _ s
  rw [places_rev]
  exact wpAny_pure h
theorem pick_rev (xs : Array Value) : ((List.range xs.size).filterMap fun (m : Nat) => xs[(((xs.size : Int) - 1) + (m : Int) * -1).toNat]?).toArray = xs.toList.reverse.toArray := by
  have e : ∀ l : List Nat, (∀ m ∈ l, m < xs.size) → l.filterMap (fun (m : Nat) => xs[(((xs.size : Int) - 1) + (m : Int) * -1).toNat]?) = (l.map fun k => xs.size - 1 - k).filterMap (xs[·]?) := by
    intro l
    induction l with
    | nil => intro _; rfl
    | cons m l ih =>
      intro h
      have hm := h m (List.mem_cons_self ..)
      have e1 : (((xs.size : Int) - 1) + (m : Int) * -1).toNat = xs.size - 1 - m := by omega
      rw [List.filterMap_cons, List.map_cons, List.filterMap_cons, e1, ih fun k hk => h k (List.mem_cons_of_mem _ hk)]
  rw [e _ fun m hm => List.mem_range.mp hm, PySem.W.krv_range, List.filterMap_reverse, PySem.W.krv_all]
theorem getItem_tuple_rev {t sl : Addr} {items : Array Value} {vs : Value} {Q : Value → Shared → Prop} (ht : IsTup s.heap t items) (hs : s.heap.IsSliceOf sl .none .none vs) (ps : IsPart vs (some (-1)))
    (h : Q (.ref s.heap.objs.size) { s with heap := s.heap.push { cls := .type "tuple", data := .seq items.toList.reverse.toArray } })
    (hsz : items.size ≤ sizeLine) : wpAny (model prog w) A (getItem (.ref t) (.ref sl)) Q E s := by
  have htake : sizeOk (.seq items.toList.reverse.toArray) := by
    show items.toList.reverse.toArray.size ≤ sizeLine
    rw [List.size_toArray, List.length_reverse, Array.length_toList]
    exact hsz
  obtain ⟨os, hos, hcs, hds⟩ := id hs
  have hTs : s.TypeIs (.ref sl) "slice" := ⟨os, hos, hcs⟩
  unfold getItem
  try with_reducible refine wpAny_holding ?_
  first | refine wpAny_bind (wpAny_pure ?_) | skip
  refine wpAny_bind (wpAny_sequenceKey ht.typeIs (by decide) ?_)
  refine wpAny_bind (wpAny_callSpecial?_slot (name := Str.ofString "__getitem__") ht.typeIs PyProof.Rows.slot_tuple_getitem
    (wpAny_call_entry PyProof.Rows.slot_tuple_getitem ht.typeIs entry_tuple_getitem ?_ (args_tuple_getitem _ _)))
  show wpAny _ _ (Builtin.Tuple.tupleItemsOf (.ref t) >>= _) _ _ s
  refine wpAny_bind (tupleItemsOf_ ht ?_)
  refine wpAny_bind (wpAny_typeOf hTs ?_)
  rw [if_pos (by decide)]
  refine wpAny_bind (sliceApplied_rev (n := items.size) hs ps ?_)
  have hno : ¬ ((((items.size : Int) - 1) == 0 && (-1 : Int) == 1 && items.size == items.size) = true) := by
    rw [show ((-1 : Int) == 1) = false from rfl, Bool.and_false, Bool.false_and]
    exact Bool.false_ne_true
  show wpAny _ _ (if ((((items.size : Int) - 1) == 0 && (-1 : Int) == 1 && items.size == items.size) = true) then _ else _) _ _ s
  rw [if_neg hno, pick_rev]
  first
    | exact wpAny_bind (m := Builtin.Tuple.tupleExact _) (wpAny_newObj_type (wpAny_pure ⟨_, rfl, wpAny_pure h⟩) htake)
    | exact wpAny_bind (m := Builtin.Tuple.tupleExact _) (wpAny_newObj_type (wpAny_bind (wpAny_pure (wpAny_pure ⟨_, rfl, wpAny_pure h⟩))) htake)
    | exact wpAny_bind (wpAny_bind (m := Builtin.Tuple.tupleExact _) (wpAny_newObj_type (wpAny_pure (wpAny_pure ⟨_, rfl, wpAny_pure h⟩)) htake))
    | exact wpAny_bind (wpAny_bind (m := Builtin.Tuple.tupleExact _) (wpAny_newObj_type (wpAny_pure ⟨_, rfl, wpAny_pure h⟩) htake))
end
section
variable {X : Cx} {cl : Cl} {W : WX} {e : Expr} {m : M D}
theorem ev_revT {k : Nat} {p1 p2 p3 pos : Pos} (he : EvE X cl W e m) : EvE X cl W (.Subscript e (.Slice none none (some (.UnaryOp .USub (.Constant (.int 1) k p1) p2)) p3) pos) (mUn revT m) := by
  refine ⟨fun pins s σ H io ρ S I A R G => ?_⟩
  refine Subscript_ (he.bind I A R G fun x S1 io1 H1 vx u s1 e1 I1 A1 g1 R1 rx ru G1 => ?_)
  rw [mUn_ok e1]
  unfold revT at G1 ⊢
  split at G1
  · rename_i ds
    cases rx with
    | @tup a _ xs hq rs =>
      cases (show u = Value.ref a from ru)
      have hst : PO X (some (.UnaryOp .USub (.Constant (.int 1) k p1) p2)) (tPart (tUn (rU fun i => .int (-i)) (tC (.int 1)))) := po_some (pe_un un_neg pe_int)
      refine wpAny_Slice (thn (po_none.run pins s1 σ H1 (fun o H2 => o = none ∧ H2 = H1) I1 ⟨rfl, rfl⟩) fun vl s2 ⟨l, H2, I2, pl, el, e2⟩ => ?_)
      subst el e2
      refine thn (po_none.run pins s2 σ H2 (fun o H3 => o = none ∧ H3 = H2) I2 ⟨rfl, rfl⟩) fun vu s3 ⟨u, H3, I3, pu, eu, e3⟩ => ?_
      subst eu e3
      refine thn (hst.run pins s3 σ H3 (fun o H4 => o = some (-1) ∧ H4 = H3) I3 ⟨1, rfl, -1, rfl, rfl, rfl⟩) fun vs s4 ⟨o, H4, I4, ps, eo, e4⟩ => ?_
      subst eo e4
      cases pl
      cases pu
      have I5 : Inv X pins σ H4 { s4 with heap := s4.heap.push { cls := .type "slice", data := .fields #[.none, .none, vs] } } := I4.kept (t' := s4.toks) fun b ob q => Heap.get?_push_of_some _ q
      obtain ⟨its, r, ht, hz⟩ := I5.tuple hq.1
      have hlen := r.length
      show wpAny (model X.prog X.w) X.A (subscriptTail e (.Slice none none (some (.UnaryOp .USub (.Constant (.int 1) k p1) p2)) p3) (.ref a) (.ref s4.heap.objs.size)) _ X.xe { s4 with heap := s4.heap.push { cls := .type "slice", data := .fields #[.none, .none, vs] } }
      refine tail_any (ops := [.ref a, .ref s4.heap.objs.size]) ht.typeIs (PyProof.Rows.slot_tuple_getitem.lookup) ?_ (by with_unfolding_all rfl)
      refine getItem_tuple_rev ht (Heap.IsSliceOf.new _ .none .none vs) ps ?_ (by rw [List.size_toArray]; omega)
      have rr : Vals xs.reverse its.reverse := r.reverse
      have I6 := inv_newF I5 rr (by rw [List.length_reverse]; exact hz)
      obtain ⟨d, S2, io2, e2, A2, g2, rd⟩ := AnsV.tupF (cl := cl) A1 rs.rev _ { cls := .type "tuple", data := .seq its.reverse.toArray } (I5.hok.fresh (Nat.le_refl _)) rfl
      exact ⟨d, S2, io2, _, .ref _, e2, I6, A2, g1.trans g2, rd, rfl⟩
  · exact False.elim G1
end
end MP
/-! K20 -/
set_option Elab.async false
set_option autoImplicit false
set_option linter.all false
set_option maxRecDepth 100000
set_option maxHeartbeats 0
namespace K20
open PySem PySem.Spec L2 MP
open PyProof.Rows hiding St
abbrev PP : Program := PySem.Challenge.pw_faultorder_k20_machines_of_any_values
def top (i : Nat) : Stmt := PySem.Challenge.pw_faultorder_k20_machines_of_any_values.main.body.getD i (.Pass ⟨0, 0, 0, 0⟩)
def clss : List Str := ["Machine"]
def isx_BadMachine (c : Str) : Option Bool := if c = "FaultError" then some false else if c = "BadMachine" then some true else none
def sub_FaultError (c : Str) : Bool := decide (c ∈ (["FaultError", "BadMachine"] : List Str))
def N__law_begin : List Str := ["script", "large", "cell"]
noncomputable def f__law_begin : FL := callS N__law_begin.length
   (mSeq (mAsg (mLc (mIt iterS (mVar 0)) (gNm 2) (mBl (mBin geS (mDisp absS (mCons (mVar 2) (mNil))) (mBin powS (mC (.int 10)) (mC (.int 18))))) (mDisp absS (mCons (mVar 2) (mNil))) [2]) (gNm 1))
    (mRet (mDict (mpCons (mStr "large") (mVar 1) (mpCons (mStr "cells") (mDisp listS (mCons (mVar 0) (mNil))) (mpCons (mStr "rest") (mC (.int 0)) (mpCons (mStr "turn") (mC (.int 0)) (mpCons (mStr "mix") (mC (.int 7)) (mpNil)))))))))
def N__law_take : List Str := ["draw", "size", "cell", "found"]
noncomputable def f__law_take : FL := callS N__law_take.length
   (mSeq (mIfS (mAndT (mBl (mBin eqS (mBin ixS (mVar 0) (mStr "rest")) (mC (.int 0)))) (mBl (mBin neS (mBin ixS (mVar 0) (mStr "large")) (mDisp lstD (mNil))))) (mSetI (mVar 0) (mStr "rest") (mBm "list" popS (mBin ixS (mVar 0) (mStr "large")) (mCons (mC (.int 0)) (mNil)))) (mIfS (mBl (mBin eqS (mBin ixS (mVar 0) (mStr "rest")) (mC (.int 0)))) (mSeq (mSetI (mVar 0) (mStr "turn") (mBin addS (mBin ixS (mVar 0) (mStr "turn")) (mC (.int 1))))
    (mSeq (mFor (mIt iterS (mBin addS (mDisp lstD (mCons (mBin ixS (mVar 0) (mStr "turn")) (mNil))) (mBin ixS (mVar 0) (mStr "cells")))) (gNm 2) (mSetI (mVar 0) (mStr "mix") (mBin modS (mDisp intS (mCons (mBin addS (mBin addS (mBin mulS (mBin ixS (mVar 0) (mStr "mix")) (mC (.int 69621))) (mBin mulS (mVar 2) (mC (.int 48271)))) (mC (.int 12345))) (mNil))) (mC (.int 2147483629)))))
    (mSetI (mVar 0) (mStr "rest") (mBin modS (mDisp intS (mCons (mBin powS (mBin ixS (mVar 0) (mStr "mix")) (mC (.int 5))) (mNil))) (mC (.int 2305843009213693951)))))) (mNx)))
    (mSeq (mAsg (mDisp divmodS (mCons (mBin ixS (mVar 0) (mStr "rest")) (mCons (mVar 1) (mNil)))) (gTp 2 (gsCons (gSubS (mVar 0) (mStr "rest")) (gsCons (gNm 3) (gsNil)))))
    (mRet (mVar 3))))
def N__law_pick : List Str := ["draw", "some"]
noncomputable def f__law_pick : FL := callS N__law_pick.length
   (mRet (mBin ixS (mVar 1) (mDisp (dflS 2 [] f__law_take) (mCons (mVar 0) (mCons (mDisp lenS (mCons (mVar 1) (mNil))) (mNil))))))
def N__law_words : List Str := ["draw", "many", "menu", "found", "k", "word", "some", "j", "sign", "one"]
noncomputable def f__law_words : FL := callS N__law_words.length
   (mSeq (mAsg (mDisp tupD (mCons (mDisp lstD (mCons (mStr "a") (mCons (mStr "b") (mCons (mStr "c") (mCons (mStr "fail") (mCons (mStr "mend") (mCons (mStr "all") (mCons (mStr "least") (mCons (mStr "spare") (mCons (mStr "before") (mCons (mStr "top") (mCons (mStr "none") (mCons (mStr "zzzzzz") (mNil)))))))))))))) (mCons (mDisp lstD (mNil)) (mNil)))) (gTp 2 (gsCons (gNm 2) (gsCons (gNm 3) (gsNil)))))
    (mSeq (mFor (mItA rng1S (mCons (mVar 1) (mNil))) (gNm 4) (mSeq (mAsg (mDisp (dflS 2 [] f__law_pick) (mCons (mVar 0) (mCons (mVar 2) (mNil)))) (gNm 5))
    (mSeq (mIfS (mBl (mBin eqS (mDisp (dflS 2 [] f__law_take) (mCons (mVar 0) (mCons (mC (.int 3)) (mNil)))) (mC (.int 0)))) (mAsg (mBm "str" joinS (mStr "") (mCons (mLc (mItA rng1S (mCons (mBin addS (mC (.int 1)) (mDisp (dflS 2 [] f__law_take) (mCons (mVar 0) (mCons (mC (.int 6)) (mNil))))) (mNil))) (gNm 7) (mYes) (mDisp (dflS 2 [] f__law_pick) (mCons (mVar 0) (mCons (mStr "abcxyz") (mNil)))) [7]) (mNil))) (gNm 5)) (mNx))
    (mSeq (mAsg (mBin addS (mDisp lstD (mCons (mVar 5) (mNil))) (mLc (mIt iterS (mStr "abcdefghijklmnopqrstuvwxyz")) (gNm 8) (mYes) (mBin addS (mSl (mVar 5) (mNoPart) (mPart (mC (.int 5)))) (mVar 8)) [8])) (gNm 6))
    (mDrop (mBm "list" appendS (mVar 3) (mCons (mBin ixS (mLc (mIt iterS (mVar 6)) (gNm 9) (mBl (mBin ninS (mVar 9) (mVar 3))) (mVar 9) [9]) (mC (.int 0))) (mNil))))))))
    (mRet (mVar 3))))
def N__law_engine : List Str := ["draw", "most", "titles", "events", "many", "lists", "shapes", "spot", "moves", "part", "k", "event"]
noncomputable def f__law_engine : FL := callS N__law_engine.length
   (mSeq (mAsg (mDisp tupleS (mCons (mDisp sortedS (mCons (mDisp (dflS 2 [] f__law_words) (mCons (mVar 0) (mCons (mBin addS (mC (.int 1)) (mDisp (dflS 2 [] f__law_take) (mCons (mVar 0) (mCons (mC (.int 3)) (mNil))))) (mNil)))) (mNil))) (mNil))) (gNm 2))
    (mSeq (mAsg (mBin addS (mLc (mIt iterS (mVar 2)) (gNm 9) (mYes) (mDisp tupD (mCons (mStr "fail") (mCons (mVar 9) (mNil)))) [9]) (mLc (mIt iterS (mVar 2)) (gNm 9) (mYes) (mDisp tupD (mCons (mStr "mend") (mCons (mVar 9) (mNil)))) [9])) (gNm 3))
    (mSeq (mAsg (mDisp tupD (mCons (mBin addS (mC (.int 1)) (mDisp (dflS 2 [] f__law_take) (mCons (mVar 0) (mCons (mVar 1) (mNil))))) (mCons (mDisp lstD (mNil)) (mNil)))) (gTp 2 (gsCons (gNm 4) (gsCons (gNm 5) (gsNil)))))
    (mSeq (mAsg (mLc (mItA rng1S (mCons (mBin addS (mC (.int 1)) (mDisp (dflS 2 [] f__law_take) (mCons (mVar 0) (mCons (mC (.int 2)) (mNil))))) (mNil))) (gNm 10) (mYes) (mLc (mIt iterS (mVar 3)) (gNm 11) (mBl (mBin gtS (mDisp (dflS 2 [] f__law_take) (mCons (mVar 0) (mCons (mC (.int 3)) (mNil)))) (mC (.int 0)))) (mVar 11) [11]) [10]) (gNm 6))
    (mSeq (mFor (mItA rng1S (mCons (mVar 4) (mNil))) (gNm 7) (mSeq (mAsg (mLc (mIt iterS (mDisp (dflS 2 [] f__law_pick) (mCons (mVar 0) (mCons (mVar 6) (mNil))))) (gNm 11) (mYes) (mDisp tupD (mCons (mVar 11) (mCons (mDisp (dflS 2 [] f__law_take) (mCons (mVar 0) (mCons (mVar 4) (mNil)))) (mNil)))) [11]) (gNm 8))
    (mDrop (mBm "list" appendS (mVar 5) (mCons (mDisp tupD (mCons (mBin eqS (mDisp (dflS 2 [] f__law_take) (mCons (mVar 0) (mCons (mC (.int 3)) (mNil)))) (mC (.int 0))) (mCons (mDisp tupleS (mCons (mVar 8) (mNil))) (mNil)))) (mNil))))))
    (mRet (mDisp tupD (mCons (mVar 2) (mCons (mDisp tupleS (mCons (mVar 5) (mNil))) (mNil))))))))))
def N_is_name : List Str := ["value", "letter"]
noncomputable def f_is_name : FL := callS N_is_name.length
   (mSeq (mIfS (mOrT (mNotT (mTru (mUn (isiS (isBs ["str"] clss)) (mVar 0)))) (mNotT (mChainT leS leS (mC (.int 1)) (mDisp lenS (mCons (mVar 0) (mNil))) (mC (.int 6))))) (mRet (mC (.bl false))) (mNx))
    (mRet (mDisp (quantS fun bs => bs.all id) (mCons (mLc (mIt iterS (mVar 0)) (gNm 1) (mYes) (mBin inS (mVar 1) (mC (.str "abcdefghijklmnopqrstuvwxyz"))) [1]) (mNil)))))
def N_are_parts : List Str := ["value", "name"]
noncomputable def f_are_parts : FL := callS N_are_parts.length
   (mSeq (mIfS (mOrT (mNotT (mTru (mUn (isiS (isBs ["tuple"] clss)) (mVar 0)))) (mOrT (mNotT (mChainT leS leS (mC (.int 1)) (mDisp lenS (mCons (mVar 0) (mNil))) (mC (.int 8)))) (mNotT (mTru (mDisp (quantS fun bs => bs.all id) (mCons (mLc (mIt iterS (mVar 0)) (gNm 1) (mYes) (mDisp (dflS 1 [] f_is_name) (mCons (mVar 1) (mNil))) [1]) (mNil))))))) (mRet (mC (.bl false))) (mNx))
    (mRet (mBin eqS (mDisp listS (mCons (mVar 0) (mNil))) (mDisp ssetU (mCons (mVar 0) (mNil))))))
def N_is_event_of : List Str := ["value", "parts"]
noncomputable def f_is_event_of : FL := callS N_is_event_of.length
   (mSeq (mIfS (mOrT (mNotT (mTru (mUn (isiS (isBs ["tuple"] clss)) (mVar 0)))) (mBl (mBin neS (mDisp lenS (mCons (mVar 0) (mNil))) (mC (.int 2))))) (mRet (mC (.bl false))) (mNx))
    (mRet (mAndV (mUn (isiS (isBs ["str"] clss)) (mBin ixS (mVar 0) (mC (.int 0)))) (mAndV (mBin inS (mBin ixS (mVar 0) (mC (.int 0))) (mDisp tupD (mCons (mC (.str "fail")) (mCons (mC (.str "mend")) (mNil))))) (mAndV (mUn (isiS (isBs ["str"] clss)) (mBin ixS (mVar 0) (mC (.int 1)))) (mBin inS (mBin ixS (mVar 0) (mC (.int 1))) (mVar 1)))))))
def N_is_index : List Str := ["value", "many"]
noncomputable def f_is_index : FL := callS N_is_index.length
   (mRet (mAndV (mUn (isiS (isBs ["int"] clss)) (mVar 0)) (mAndV (mNotV (mUn (isiS (isBs ["bool"] clss)) (mVar 0))) (mChain leS ltS (mC (.int 0)) (mVar 0) (mVar 1)))))
def N_is_step : List Str := ["value", "parts", "many"]
noncomputable def f_is_step : FL := callS N_is_step.length
   (mRet (mAndV (mUn (isiS (isBs ["tuple"] clss)) (mVar 0)) (mAndV (mBin eqS (mDisp lenS (mCons (mVar 0) (mNil))) (mC (.int 2))) (mAndV (mDisp (dflS 2 [] f_is_event_of) (mCons (mBin ixS (mVar 0) (mC (.int 0))) (mCons (mVar 1) (mNil)))) (mDisp (dflS 2 [] f_is_index) (mCons (mBin ixS (mVar 0) (mC (.int 1))) (mCons (mVar 2) (mNil))))))))
def N_is_row : List Str := ["value", "parts", "many", "stopped", "steps", "events", "step", "event", "to"]
noncomputable def f_is_row : FL := callS N_is_row.length
   (mSeq (mIfS (mOrT (mNotT (mTru (mUn (isiS (isBs ["tuple"] clss)) (mVar 0)))) (mBl (mBin neS (mDisp lenS (mCons (mVar 0) (mNil))) (mC (.int 2))))) (mRet (mC (.bl false))) (mNx))
    (mSeq (mAsg (mVar 0) (gTp 2 (gsCons (gNm 3) (gsCons (gNm 4) (gsNil)))))
    (mSeq (mIfS (mOrT (mNotT (mTru (mUn (isiS (isBs ["bool"] clss)) (mVar 3)))) (mNotT (mTru (mUn (isiS (isBs ["tuple"] clss)) (mVar 4))))) (mRet (mC (.bl false))) (mNx))
    (mSeq (mIfS (mNotT (mTru (mDisp (quantS fun bs => bs.all id) (mCons (mLc (mIt iterS (mVar 4)) (gNm 6) (mYes) (mDisp (dflS 3 [] f_is_step) (mCons (mVar 6) (mCons (mVar 1) (mCons (mVar 2) (mNil))))) [6]) (mNil))))) (mRet (mC (.bl false))) (mNx))
    (mSeq (mAsg (mLc (mIt iterS (mVar 4)) (gTp 2 (gsCons (gNm 7) (gsCons (gNm 8) (gsNil)))) (mYes) (mVar 7) [7, 8]) (gNm 5))
    (mRet (mBin eqS (mVar 5) (mDisp ssetT (mCons (mVar 5) (mNil))))))))))
def N_Machine___init__ : List Str := ["self", "parts", "rows", "row"]
noncomputable def f_Machine___init__ : FL := callS N_Machine___init__.length
   (mSeq (mIfS (mNotT (mTru (mDisp (dflS 1 [] f_are_parts) (mCons (mVar 1) (mNil))))) (mRaise0 "BadMachine") (mNx))
    (mSeq (mIfS (mOrT (mNotT (mTru (mUn (isiS (isBs ["tuple"] clss)) (mVar 2)))) (mBl (mBin eqS (mDisp lenS (mCons (mVar 2) (mNil))) (mC (.int 0))))) (mRaise0 "BadMachine") (mNx))
    (mSeq (mIfS (mNotT (mTru (mDisp (quantS fun bs => bs.all id) (mCons (mLc (mIt iterS (mVar 2)) (gNm 3) (mYes) (mDisp (dflS 3 [] f_is_row) (mCons (mVar 3) (mCons (mVar 1) (mCons (mDisp lenS (mCons (mVar 2) (mNil))) (mNil))))) [3]) (mNil))))) (mRaise0 "BadMachine") (mNx))
    (mSeq (mSetF "Machine" "m_parts" (mVar 0) (mVar 1))
    (mSetF "Machine" "m_rows" (mVar 0) (mVar 2))))))
def N_Machine_parts : List Str := ["self"]
noncomputable def f_Machine_parts : FL := callS N_Machine_parts.length
   (mRet (mUn (fldS "Machine" "m_parts") (mVar 0)))
def N_Machine_rows : List Str := ["self"]
noncomputable def f_Machine_rows : FL := callS N_Machine_rows.length
   (mRet (mUn (fldS "Machine" "m_rows") (mVar 0)))
def N_Machine___len__ : List Str := ["self"]
noncomputable def f_Machine___len__ : FL := callS N_Machine___len__.length
   (mRet (mDisp lenS (mCons (mUn (fldS "Machine" "m_rows") (mVar 0)) (mNil))))
def N__law_odd : List Str := ["draw", "titles", "some"]
noncomputable def f__law_odd : FL := callS N__law_odd.length
   (mSeq (mAsg (mDisp lstD (mCons (mC .non) (mCons (mC (.bl true)) (mCons (mC (.int 0)) (mCons (mC (.int 1)) (mCons (mUn negS (mC (.int 1))) (mCons (mStr "fail") (mCons (mStr "") (mCons (mDisp tupD (mNil)) (mCons (mDisp lstD (mNil)) (mCons (mStr "A") (mCons (mStr "abcdefg") (mCons (mDisp tupD (mCons (mStr "fail") (mCons (mBin ixS (mVar 1) (mC (.int 0))) (mNil)))) (mCons (mDisp tupD (mCons (mDisp tupD (mCons (mStr "fail") (mCons (mBin ixS (mVar 1) (mC (.int 0))) (mNil)))) (mCons (mC (.int 0)) (mNil)))) (mNil))))))))))))))) (gNm 2))
    (mRet (mDisp (dflS 2 [] f__law_pick) (mCons (mVar 0) (mCons (mBin addS (mVar 2) (mDisp lstD (mCons (mDisp tupD (mCons (mC (.bl true)) (mCons (mDisp tupD (mNil)) (mNil)))) (mCons (mDisp lstD (mCons (mBin ixS (mVar 1) (mC (.int 0))) (mNil))) (mCons (mDisp tupD (mCons (mStr "wait") (mCons (mBin ixS (mVar 1) (mC (.int 0))) (mNil)))) (mCons (mDisp tupD (mCons (mDisp tupD (mCons (mStr "mend") (mCons (mStr "nobody") (mNil)))) (mCons (mC (.int 0)) (mNil)))) (mCons (mDict0) (mNil)))))))) (mNil))))))
def N__law_bent : List Str := ["draw", "thing", "titles", "spot", "way"]
noncomputable def f__law_bent : Nat → FL
  | 0 => fun _ _ => .bad
  | j + 1 => callS N__law_bent.length
   (mSeq (mIfS (mOrT (mNotT (mTru (mUn (isiS (isBs ["tuple"] clss)) (mVar 1)))) (mOrT (mBl (mBin eqN (mVar 1) (mDisp tupD (mNil)))) (mBl (mBin eqS (mDisp (dflS 2 [] f__law_take) (mCons (mVar 0) (mCons (mC (.int 5)) (mNil)))) (mC (.int 0)))))) (mRet (mDisp (dflS 2 [] f__law_odd) (mCons (mVar 0) (mCons (mVar 2) (mNil))))) (mNx))
    (mSeq (mPar 3 4 (mCons (mDisp (dflS 2 [] f__law_take) (mCons (mVar 0) (mCons (mDisp lenS (mCons (mVar 1) (mNil))) (mNil)))) (mCons (mDisp (dflS 2 [] f__law_take) (mCons (mVar 0) (mCons (mC (.int 8)) (mNil)))) (mNil))))
    (mSeq (mIfS (mBl (mBin eqS (mVar 4) (mC (.int 0)))) (mRet (mBin addS (mSl (mVar 1) (mNoPart) (mPart (mVar 3))) (mSl (mVar 1) (mPart (mBin addS (mVar 3) (mC (.int 1)))) (mNoPart)))) (mNx))
    (mSeq (mIfS (mBl (mBin eqS (mVar 4) (mC (.int 1)))) (mRet (mBin addS (mBin addS (mSl (mVar 1) (mNoPart) (mPart (mVar 3))) (mDisp tupD (mCons (mBin ixS (mVar 1) (mVar 3)) (mNil)))) (mSl (mVar 1) (mPart (mVar 3)) (mNoPart)))) (mNx))
    (mSeq (mIfS (mBl (mBin eqS (mVar 4) (mC (.int 2)))) (mRet (mUn revT (mVar 1))) (mNx))
    (mSeq (mIfS (mBl (mBin eqS (mVar 4) (mC (.int 3)))) (mRet (mDisp listS (mCons (mVar 1) (mNil)))) (mNx))
    (mRet (mBin addS (mBin addS (mSl (mVar 1) (mNoPart) (mPart (mVar 3))) (mDisp tupD (mCons (mDisp (dflS 3 [] (f__law_bent j)) (mCons (mVar 0) (mCons (mBin ixS (mVar 1) (mVar 3)) (mCons (mVar 2) (mNil))))) (mNil)))) (mSl (mVar 1) (mPart (mBin addS (mVar 3) (mC (.int 1)))) (mNoPart))))))))))
def N__law_told : List Str := ["titles", "lists", "found", "error", "caught"]
noncomputable def f__law_told : FL := callS N__law_told.length
   (mSeq (mAsg (mDisp tupD (mCons (mC .non) (mCons (mC .non) (mNil)))) (gTp 2 (gsCons (gNm 2) (gsCons (gNm 3) (gsNil)))))
    (mSeq (mTry sub_FaultError 4 (mAsg (mDisp (mkG "Machine" 3 f_Machine___init__) (mCons (mVar 0) (mCons (mVar 1) (mNil)))) (gNm 2)) (mAsg (mVar 4) (gNm 3)))
    (mRet (mIf (mBl (mBin isS (mVar 3) (mC .non))) (mVar 2) (mUn (isiE isx_BadMachine) (mVar 3))))))
def N__law_is_name : List Str := ["thing", "sign"]
noncomputable def f__law_is_name : FL := callS N__law_is_name.length
   (mSeq (mIfS (mOrT (mNotT (mTru (mUn (isiS (isBs ["str"] clss)) (mVar 0)))) (mNotT (mChainT leS leS (mC (.int 1)) (mDisp lenS (mCons (mVar 0) (mNil))) (mC (.int 6))))) (mRet (mC (.bl false))) (mNx))
    (mRet (mBin eqN (mLc (mIt iterS (mVar 0)) (gNm 1) (mBl (mBin ninS (mVar 1) (mStr "abcdefghijklmnopqrstuvwxyz"))) (mVar 1) [1]) (mDisp lstD (mNil)))))
def N__law_is_step : List Str := ["thing", "titles", "many", "event", "to"]
noncomputable def f__law_is_step : FL := callS N__law_is_step.length
   (mSeq (mIfS (mOrT (mNotT (mTru (mUn (isiS (isBs ["tuple"] clss)) (mVar 0)))) (mOrT (mBl (mBin neS (mDisp lenS (mCons (mVar 0) (mNil))) (mC (.int 2)))) (mOrT (mNotT (mTru (mUn (isiS (isBs ["tuple"] clss)) (mBin ixS (mVar 0) (mC (.int 0)))))) (mBl (mBin neS (mDisp lenS (mCons (mBin ixS (mVar 0) (mC (.int 0))) (mNil))) (mC (.int 2))))))) (mRet (mC (.bl false))) (mNx))
    (mSeq (mAsg (mVar 0) (gTp 2 (gsCons (gNm 3) (gsCons (gNm 4) (gsNil)))))
    (mSeq (mIfS (mOrT (mNotT (mTru (mUn (isiS (isBs ["str"] clss)) (mBin ixS (mVar 3) (mC (.int 0)))))) (mOrT (mBl (mBin ninS (mBin ixS (mVar 3) (mC (.int 0))) (mDisp tupD (mCons (mStr "fail") (mCons (mStr "mend") (mNil)))))) (mNotT (mTru (mUn (isiS (isBs ["str"] clss)) (mBin ixS (mVar 3) (mC (.int 1)))))))) (mRet (mC (.bl false))) (mNx))
    (mRet (mAndV (mBin inS (mBin ixS (mVar 3) (mC (.int 1))) (mVar 1)) (mAndV (mUn (isiS (isBs ["int"] clss)) (mVar 4)) (mAndV (mNotV (mUn (isiS (isBs ["bool"] clss)) (mVar 4))) (mChain leS ltS (mC (.int 0)) (mVar 4) (mVar 2)))))))))
def N__law_is_row : List Str := ["thing", "titles", "many", "events", "step", "event", "to"]
noncomputable def f__law_is_row : FL := callS N__law_is_row.length
   (mSeq (mIfS (mOrT (mNotT (mTru (mUn (isiS (isBs ["tuple"] clss)) (mVar 0)))) (mOrT (mBl (mBin neS (mDisp lenS (mCons (mVar 0) (mNil))) (mC (.int 2)))) (mNotT (mTru (mUn (isiS (isBs ["bool"] clss)) (mBin ixS (mVar 0) (mC (.int 0)))))))) (mRet (mC (.bl false))) (mNx))
    (mSeq (mIfS (mOrT (mNotT (mTru (mUn (isiS (isBs ["tuple"] clss)) (mBin ixS (mVar 0) (mC (.int 1)))))) (mBl (mBin neN (mLc (mIt iterS (mBin ixS (mVar 0) (mC (.int 1)))) (gNm 4) (mNotT (mTru (mDisp (dflS 3 [] f__law_is_step) (mCons (mVar 4) (mCons (mVar 1) (mCons (mVar 2) (mNil))))))) (mVar 4) [4]) (mDisp lstD (mNil))))) (mRet (mC (.bl false))) (mNx))
    (mSeq (mAsg (mLc (mIt iterS (mBin ixS (mVar 0) (mC (.int 1)))) (gTp 2 (gsCons (gNm 5) (gsCons (gNm 6) (gsNil)))) (mYes) (mVar 5) [5, 6]) (gNm 3))
    (mRet (mBin eqS (mVar 3) (mDisp ssetT (mCons (mVar 3) (mNil))))))))
def N__law_is_right : List Str := ["titles", "lists", "part", "row"]
noncomputable def f__law_is_right : FL := callS N__law_is_right.length
   (mSeq (mIfS (mOrT (mNotT (mTru (mUn (isiS (isBs ["tuple"] clss)) (mVar 0)))) (mNotT (mChainT leS leS (mC (.int 1)) (mDisp lenS (mCons (mVar 0) (mNil))) (mC (.int 8))))) (mRet (mC (.bl false))) (mNx))
    (mSeq (mIfS (mOrT (mBl (mBin neN (mLc (mIt iterS (mVar 0)) (gNm 2) (mNotT (mTru (mDisp (dflS 1 [] f__law_is_name) (mCons (mVar 2) (mNil))))) (mVar 2) [2]) (mDisp lstD (mNil)))) (mBl (mBin neS (mDisp listS (mCons (mVar 0) (mNil))) (mDisp ssetU (mCons (mVar 0) (mNil)))))) (mRet (mC (.bl false))) (mNx))
    (mSeq (mIfS (mOrT (mNotT (mTru (mUn (isiS (isBs ["tuple"] clss)) (mVar 1)))) (mBl (mBin eqN (mVar 1) (mDisp tupD (mNil))))) (mRet (mC (.bl false))) (mNx))
    (mRet (mBin eqN (mLc (mIt iterS (mVar 1)) (gNm 3) (mNotT (mTru (mDisp (dflS 3 [] f__law_is_row) (mCons (mVar 3) (mCons (mVar 0) (mCons (mDisp lenS (mCons (mVar 1) (mNil))) (mNil))))))) (mVar 3) [3]) (mDisp lstD (mNil)))))))
def N_Machine___eq__ : List Str := ["self", "other"]
noncomputable def f_Machine___eq__ : FL := callS N_Machine___eq__.length
   (mRet (mAndV (mUn (isiS (isCs "Machine" clss)) (mVar 1)) (mAndV (mBin eqS (mUn (fldS "Machine" "m_parts") (mVar 0)) (mUn (fldS "Machine" "m_parts") (mVar 1))) (mBin eqS (mUn (fldS "Machine" "m_rows") (mVar 0)) (mUn (fldS "Machine" "m_rows") (mVar 1))))))
noncomputable def eqTbl : List (Str × FL) := [("Machine", f_Machine___eq__)]
def eqCs : List Str := clss
def N_law : List Str := ["script", "draw", "turn", "titles", "lists", "plain", "lap", "others", "bent", "more", "told", "same", "names"]
noncomputable def f_law : FL := callS N_law.length
   (mSeq (mAsg (mDisp (dflS 1 [] f__law_begin) (mCons (mVar 0) (mNil))) (gNm 1))
    (mSeq (mFor (mItA rng1S (mCons (mDisp max2S (mCons (mC (.int 6)) (mCons (mDisp min2S (mCons (mC (.int 30)) (mCons (mDisp lenS (mCons (mVar 0) (mNil))) (mNil)))) (mNil)))) (mNil))) (gNm 2) (mSeq (mAsg (mDisp (dflS 2 [] f__law_engine) (mCons (mVar 1) (mCons (mC (.int 4)) (mNil)))) (gTp 2 (gsCons (gNm 3) (gsCons (gNm 4) (gsNil)))))
    (mSeq (mAsg (mDisp (mkKw "Machine" 3 2 [0, 1] f_Machine___init__) (mCons (mVar 3) (mCons (mVar 4) (mNil)))) (gNm 5))
    (mSeq (mIfS (mOrT (mBl (mBin (neI eqTbl eqCs) (mUn (propS "Machine" f_Machine_parts) (mVar 5)) (mVar 3))) (mOrT (mBl (mBin (neI eqTbl eqCs) (mUn (propS "Machine" f_Machine_rows) (mVar 5)) (mVar 4))) (mBl (mBin (neI eqTbl eqCs) (mDisp (lenI "Machine" f_Machine___len__) (mCons (mVar 5) (mNil))) (mDisp lenS (mCons (mVar 4) (mNil))))))) (mRet (mC (.bl false))) (mNx))
    (mSeq (mFor (mItA rng1S (mCons (mC (.int 6)) (mNil))) (gNm 6) (mSeq (mPar 7 8 (mCons (mVar 3) (mCons (mVar 4) (mNil))))
    (mSeq (mFor (mItA rng1S (mCons (mBin addS (mC (.int 1)) (mDisp (dflS 2 [] f__law_take) (mCons (mVar 1) (mCons (mC (.int 2)) (mNil))))) (mNil))) (gNm 9) (mIfS (mBl (mBin (eqI eqTbl eqCs) (mDisp (dflS 2 [] f__law_take) (mCons (mVar 1) (mCons (mC (.int 4)) (mNil)))) (mC (.int 0)))) (mAsg (mDisp (dflS 3 [] (f__law_bent 12)) (mCons (mVar 1) (mCons (mVar 7) (mCons (mVar 3) (mNil))))) (gNm 7)) (mAsg (mDisp (dflS 3 [] (f__law_bent 12)) (mCons (mVar 1) (mCons (mVar 8) (mCons (mVar 3) (mNil))))) (gNm 8))))
    (mSeq (mAsg (mDisp (dflS 2 [] f__law_told) (mCons (mVar 7) (mCons (mVar 8) (mNil)))) (gNm 10))
    (mSeq (mIfS (mOrT (mBl (mBin (neI eqTbl eqCs) (mDisp (dflS 2 [] f__law_is_right) (mCons (mVar 7) (mCons (mVar 8) (mNil)))) (mUn (isiS (isCs "Machine" clss)) (mVar 10)))) (mBl (mBin isB (mVar 10) (mC (.bl false))))) (mRet (mC (.bl false))) (mNx))
    (mSeq (mAsg (mAndV (mBin eqE (mVar 7) (mVar 3)) (mBin eqE (mVar 8) (mVar 4))) (gNm 11))
    (mIfS (mAndT (mTru (mUn (isiS (isCs "Machine" clss)) (mVar 10))) (mBl (mBin (neI eqTbl eqCs) (mBin (eqI eqTbl eqCs) (mVar 10) (mVar 5)) (mVar 11)))) (mRet (mC (.bl false))) (mNx))))))))
    (mIfS (mOrT (mBl (mBin (eqI eqTbl eqCs) (mVar 5) (mVar 4))) (mOrT (mBl (mBin (eqI eqTbl eqCs) (mVar 5) (mDisp tupD (mCons (mVar 3) (mCons (mVar 4) (mNil)))))) (mNotT (mBl (mBin (eqI eqTbl eqCs) (mVar 5) (mDisp (mkG "Machine" 3 f_Machine___init__) (mCons (mVar 3) (mCons (mVar 4) (mNil))))))))) (mRet (mC (.bl false))) (mNx)))))))
    (mSeq (mAsg (mDisp tupleC (mCons (mStr "abcdefghi") (mNil))) (gNm 12))
    (mRet (mAndV (mBin isS (mDisp (dflS 2 [] f__law_told) (mCons (mVar 12) (mCons (mDisp tupD (mCons (mDisp tupD (mCons (mC (.bl false)) (mCons (mDisp tupD (mNil)) (mNil)))) (mNil))) (mNil)))) (mC (.bl true))) (mBin (eqI eqTbl eqCs) (mDisp (lenI "Machine" f_Machine___len__) (mCons (mDisp (mkG "Machine" 3 f_Machine___init__) (mCons (mSl (mVar 12) (mNoPart) (mPart (mC (.int 8)))) (mCons (mDisp tupD (mCons (mDisp tupD (mCons (mC (.bl false)) (mCons (mDisp tupD (mNil)) (mNil)))) (mNil))) (mNil)))) (mNil))) (mC (.int 1))))))))
/-! the text as it stands -/
structure Adr where
  a__law_begin : Addr
  d__law_begin : FuncData
  a__law_take : Addr
  d__law_take : FuncData
  a__law_pick : Addr
  d__law_pick : FuncData
  a__law_words : Addr
  d__law_words : FuncData
  a__law_engine : Addr
  d__law_engine : FuncData
  a_is_name : Addr
  d_is_name : FuncData
  a_are_parts : Addr
  d_are_parts : FuncData
  a_is_event_of : Addr
  d_is_event_of : FuncData
  a_is_index : Addr
  d_is_index : FuncData
  a_is_step : Addr
  d_is_step : FuncData
  a_is_row : Addr
  d_is_row : FuncData
  a_Machine___init__ : Addr
  d_Machine___init__ : FuncData
  a_Machine_parts : Addr
  d_Machine_parts : FuncData
  a_Machine_rows : Addr
  d_Machine_rows : FuncData
  a_Machine___len__ : Addr
  d_Machine___len__ : FuncData
  a__law_odd : Addr
  d__law_odd : FuncData
  a__law_bent : Addr
  d__law_bent : FuncData
  a__law_told : Addr
  d__law_told : FuncData
  a__law_is_name : Addr
  d__law_is_name : FuncData
  a__law_is_step : Addr
  d__law_is_step : FuncData
  a__law_is_row : Addr
  d__law_is_row : FuncData
  a__law_is_right : Addr
  d__law_is_right : FuncData
  a_Machine___eq__ : Addr
  d_Machine___eq__ : FuncData
  a_law : Addr
  d_law : FuncData
  C_Machine : Addr
  o_Machine_parts : Addr
  o_Machine_rows : Addr
  t_FAIL : Tok
  t_LETTERS : Tok
  t_MEND : Tok
  t_MOST_LETTERS : Tok
  wh : World
  C_FaultError : Addr
  C_BadMachine : Addr
  pre : List (Nat × Addr)
  cap : List (List (Option D) × L2.St)
  co : List (Addr × Str)
def cl (a : Adr) : Cl := { at' := fun c => if c = "Machine" then some a.C_Machine else  none, hs := fun k => k.hash a.wh, tb := [], pre := a.pre, cap := a.cap, er := fun c => if c = "FaultError" then some a.C_FaultError else if c = "BadMachine" then some a.C_BadMachine else  none, co := a.co }
def Adr.wit (a : Adr) (n : Nat) (f c1 : Addr) (q : Str) (r : List (Option D)) (o : L2.St) : Adr := { a with pre := (n, f) :: a.pre, cap := (r, o) :: a.cap, co := (c1, q) :: a.co }
theorem ifc {P : Str → Addr → Prop} {x c : Str} {A E : Addr} {r : Option Addr} (h : (if c = x then some A else r) = some E) (hx : P x A) (hr : r = some E → P c E) : P c E := by
  by_cases e : c = x
  · subst e; rw [if_pos rfl] at h; cases h; exact hx
  · rw [if_neg e] at h; exact hr h
theorem er_cases (a : Adr) (P : Str → Addr → Prop) (h_FaultError : P "FaultError" a.C_FaultError) (h_BadMachine : P "BadMachine" a.C_BadMachine) : ∀ c E, (cl a).er c = some E → P c E := by
  intro c E h
  have h : (if c = "FaultError" then some a.C_FaultError else if c = "BadMachine" then some a.C_BadMachine else  none) = some E := h
  exact ifc h h_FaultError fun h => ifc h h_BadMachine fun h => by cases h
theorem ie1 {b : Bool} {o p : Option Bool} (h : o = some b) (q : p = some b) : ∀ b, o = some b → p = some b := fun b h2 => by rw [q, ← h, h2]
structure TX (w : World) (K : PySem.W.Frag) (mg : Str → Option Value) (a : Adr) : Prop where
  f__law_begin : Fun K "_law_begin" "_law_begin" (top 18) a.a__law_begin a.d__law_begin
  b__law_begin : Binds K a.d__law_begin ["script"] []
  m__law_begin : mg "_law_begin" = some (.ref a.a__law_begin)
  f__law_take : Fun K "_law_take" "_law_take" (top 19) a.a__law_take a.d__law_take
  b__law_take : Binds K a.d__law_take ["draw", "size"] []
  m__law_take : mg "_law_take" = some (.ref a.a__law_take)
  f__law_pick : Fun K "_law_pick" "_law_pick" (top 20) a.a__law_pick a.d__law_pick
  b__law_pick : Binds K a.d__law_pick ["draw", "some"] []
  m__law_pick : mg "_law_pick" = some (.ref a.a__law_pick)
  f__law_words : Fun K "_law_words" "_law_words" (top 21) a.a__law_words a.d__law_words
  b__law_words : Binds K a.d__law_words ["draw", "many"] []
  m__law_words : mg "_law_words" = some (.ref a.a__law_words)
  f__law_engine : Fun K "_law_engine" "_law_engine" (top 22) a.a__law_engine a.d__law_engine
  b__law_engine : Binds K a.d__law_engine ["draw", "most"] []
  m__law_engine : mg "_law_engine" = some (.ref a.a__law_engine)
  f_is_name : Fun K "is_name" "is_name" (top 7) a.a_is_name a.d_is_name
  b_is_name : Binds K a.d_is_name ["value"] []
  m_is_name : mg "is_name" = some (.ref a.a_is_name)
  f_are_parts : Fun K "are_parts" "are_parts" (top 15) a.a_are_parts a.d_are_parts
  b_are_parts : Binds K a.d_are_parts ["value"] []
  m_are_parts : mg "are_parts" = some (.ref a.a_are_parts)
  f_is_event_of : Fun K "is_event_of" "is_event_of" (top 12) a.a_is_event_of a.d_is_event_of
  b_is_event_of : Binds K a.d_is_event_of ["value", "parts"] []
  m_is_event_of : mg "is_event_of" = some (.ref a.a_is_event_of)
  f_is_index : Fun K "is_index" "is_index" (top 11) a.a_is_index a.d_is_index
  b_is_index : Binds K a.d_is_index ["value", "many"] []
  m_is_index : mg "is_index" = some (.ref a.a_is_index)
  f_is_step : Fun K "is_step" "is_step" (top 13) a.a_is_step a.d_is_step
  b_is_step : Binds K a.d_is_step ["value", "parts", "many"] []
  m_is_step : mg "is_step" = some (.ref a.a_is_step)
  f_is_row : Fun K "is_row" "is_row" (top 14) a.a_is_row a.d_is_row
  b_is_row : Binds K a.d_is_row ["value", "parts", "many"] []
  m_is_row : mg "is_row" = some (.ref a.a_is_row)
  f_Machine___init__ : Fun K "__init__" "Machine.__init__" (inClass (top 16) 0) a.a_Machine___init__ a.d_Machine___init__
  b_Machine___init__ : Binds K a.d_Machine___init__ ["self", "parts", "rows"] []
  f_Machine_parts : Fun K "parts" "Machine.parts" (inClass (top 16) 1) a.a_Machine_parts a.d_Machine_parts
  b_Machine_parts : Binds K a.d_Machine_parts ["self"] []
  f_Machine_rows : Fun K "rows" "Machine.rows" (inClass (top 16) 2) a.a_Machine_rows a.d_Machine_rows
  b_Machine_rows : Binds K a.d_Machine_rows ["self"] []
  f_Machine___len__ : Fun K "__len__" "Machine.__len__" (inClass (top 16) 3) a.a_Machine___len__ a.d_Machine___len__
  b_Machine___len__ : Binds K a.d_Machine___len__ ["self"] []
  f__law_odd : Fun K "_law_odd" "_law_odd" (top 27) a.a__law_odd a.d__law_odd
  b__law_odd : Binds K a.d__law_odd ["draw", "titles"] []
  m__law_odd : mg "_law_odd" = some (.ref a.a__law_odd)
  f__law_bent : Fun K "_law_bent" "_law_bent" (top 28) a.a__law_bent a.d__law_bent
  b__law_bent : Binds K a.d__law_bent ["draw", "thing", "titles"] []
  m__law_bent : mg "_law_bent" = some (.ref a.a__law_bent)
  f__law_told : Fun K "_law_told" "_law_told" (top 29) a.a__law_told a.d__law_told
  b__law_told : Binds K a.d__law_told ["titles", "lists"] []
  m__law_told : mg "_law_told" = some (.ref a.a__law_told)
  f__law_is_name : Fun K "_law_is_name" "_law_is_name" (top 23) a.a__law_is_name a.d__law_is_name
  b__law_is_name : Binds K a.d__law_is_name ["thing"] []
  m__law_is_name : mg "_law_is_name" = some (.ref a.a__law_is_name)
  f__law_is_step : Fun K "_law_is_step" "_law_is_step" (top 24) a.a__law_is_step a.d__law_is_step
  b__law_is_step : Binds K a.d__law_is_step ["thing", "titles", "many"] []
  m__law_is_step : mg "_law_is_step" = some (.ref a.a__law_is_step)
  f__law_is_row : Fun K "_law_is_row" "_law_is_row" (top 25) a.a__law_is_row a.d__law_is_row
  b__law_is_row : Binds K a.d__law_is_row ["thing", "titles", "many"] []
  m__law_is_row : mg "_law_is_row" = some (.ref a.a__law_is_row)
  f__law_is_right : Fun K "_law_is_right" "_law_is_right" (top 26) a.a__law_is_right a.d__law_is_right
  b__law_is_right : Binds K a.d__law_is_right ["titles", "lists"] []
  m__law_is_right : mg "_law_is_right" = some (.ref a.a__law_is_right)
  f_Machine___eq__ : Fun K "__eq__" "Machine.__eq__" (inClass (top 16) 4) a.a_Machine___eq__ a.d_Machine___eq__
  b_Machine___eq__ : Binds K a.d_Machine___eq__ ["self", "other"] []
  f_law : Fun K "law" "law" (top 30) a.a_law a.d_law
  b_law : Binds K a.d_law ["script"] []
  m_law : mg "law" = some (.ref a.a_law)
  m_Machine : mg "Machine" = some (.ref a.C_Machine)
  c_Machine : ClsX K a.C_Machine
  mk_Machine : Mk K a.C_Machine a.a_Machine___init__
  me_Machine___len__ : Meth K a.C_Machine "__len__" a.a_Machine___len__
  p_Machine_parts : PropOf K a.C_Machine "parts" a.o_Machine_parts a.a_Machine_parts
  p_Machine_rows : PropOf K a.C_Machine "rows" a.o_Machine_rows a.a_Machine_rows
  na_Machine_m_parts : NoAttr K a.C_Machine "m_parts"
  na_Machine_m_rows : NoAttr K a.C_Machine "m_rows"
  g_FAIL : mg "FAIL" = some (.str "fail" a.t_FAIL)
  g_LETTERS : mg "LETTERS" = some (.str "abcdefghijklmnopqrstuvwxyz" a.t_LETTERS)
  g_MEND : mg "MEND" = some (.str "mend" a.t_MEND)
  g_MOST_LETTERS : mg "MOST_LETTERS" = some (.int 6 a.t_MOST_LETTERS)
  n_abs : mg "abs" = none
  n_all : mg "all" = none
  n_bool : mg "bool" = none
  n_divmod : mg "divmod" = none
  n_int : mg "int" = none
  n_isinstance : mg "isinstance" = none
  n_len : mg "len" = none
  n_list : mg "list" = none
  n_max : mg "max" = none
  n_min : mg "min" = none
  n_range : mg "range" = none
  n_set : mg "set" = none
  n_sorted : mg "sorted" = none
  n_str : mg "str" = none
  n_tuple : mg "tuple" = none
  kt_Machine : ∀ n ∈ btys, PySem.W.kitOne K (.type n) (.ref a.C_Machine) = some false
  ko_Machine : ∀ c ∈ clss, c ≠ "Machine" → ∀ C, cl a c = some C → PySem.W.kitOne K (.ref C) (.ref a.C_Machine) = some false
  kb_bool : ∀ c ∈ clss, ∀ C, cl a c = some C → PySem.W.kitOne K (.ref C) (.type "bool") = some false
  kb_int : ∀ c ∈ clss, ∀ C, cl a c = some C → PySem.W.kitOne K (.ref C) (.type "int") = some false
  kb_str : ∀ c ∈ clss, ∀ C, cl a c = some C → PySem.W.kitOne K (.ref C) (.type "str") = some false
  kb_tuple : ∀ c ∈ clss, ∀ C, cl a c = some C → PySem.W.kitOne K (.ref C) (.type "tuple") = some false
  kb_Machine_parts_rows : KwB K a.d_Machine___init__ ["self", "parts", "rows"] ["parts", "rows"] [0, 1]
  e0_Machine : PySem.W.isFn K (.ref a.a_Machine___eq__) = true
  e1_Machine : PySem.W.findIn K (.ref a.C_Machine) "__eq__" = some (some (.ref a.a_Machine___eq__))
  e2_Machine : PySem.W.findIn K (.ref a.C_Machine) "__ne__" = some (some (.builtin "object.__ne__"))
  e3_Machine : ∀ kd t, okKd clss kd = true → KdV (cl a) kd t → PySem.W.notFirst K a.C_Machine t = true
  m_FaultError : mg "FaultError" = some (.ref a.C_FaultError)
  ec_FaultError : ErrC K a.C_FaultError
  ex_FaultError : PySem.W.excIn K a.C_FaultError [.type "ValueError", .type "Exception", .type "BaseException", .type "object"] "ValueError.__new__" = true
  m_BadMachine : mg "BadMachine" = some (.ref a.C_BadMachine)
  ec_BadMachine : ErrC K a.C_BadMachine
  ex_BadMachine : PySem.W.excIn K a.C_BadMachine [.type "ValueError", .type "Exception", .type "BaseException", .type "object"] "ValueError.__new__" = true
  xs_FaultError : ∀ e E, (cl a).er e = some E → PySem.W.exmOne K (.ref E) (.ref a.C_FaultError) = some (sub_FaultError e)
  xi : ∀ c E, (cl a).er c = some E → XiC K E
  ie_BadMachine : ∀ c E b, (cl a).er c = some E → isx_BadMachine c = some b → PySem.W.kitOne K (.ref E) (.ref a.C_BadMachine) = some b
  wh : a.wh = w
section
variable {w : World} {K : PySem.W.Frag} {mg : Str → Option Value} {a : Adr}
theorem TX.ce_BadMachine (_ : TX w K mg a) : (cl a).er "BadMachine" = some a.C_BadMachine := by simp (decide := true) [cl]
theorem TX.hsh (T : TX w K mg a) : (cl a).hs = fun k => k.hash w := by show (fun k => NestedKey.hash a.wh k) = _; rw [T.wh]
theorem TX.cl_Machine (_ : TX w K mg a) : cl a "Machine" = some a.C_Machine := by simp (decide := true) [cl]
theorem TX.clx (T : TX w K mg a) : ∀ c C, cl a c = some C → ClsX K C := by
  intro c C h
  unfold cl at h
  dsimp only at h
  split at h
  · cases h; exact T.c_Machine
  cases h
end
section
variable {w : World} {K : PySem.W.Frag} {mg : Str → Option Value} {base : Heap} {a : Adr}
theorem g__law_begin (T : TX w K mg a) : FnG PP w K mg base (cl a) (L2.CX PP w) 1 a.a__law_begin a.d__law_begin ["script"] f__law_begin := by
  refine okG T.f__law_begin (N := N__law_begin) ⟨rfl, rfl, rfl, by decide +kernel, rfl, by decide +kernel, by decide +kernel⟩ fun cdv A outer s H E hr hg => ?_
  have hu := room65 hr
  have nd : N__law_begin.Nodup := by decide +kernel
  have own : PassesOwn (model PP w) _ _ _ := passes_of (X := cxOf (L2.CX PP w) PP w K mg base N__law_begin "_law_begin" (defScope (top 18)) a.a__law_begin cdv A outer s H E) rfl
  have tk : Takes (cxOf (L2.CX PP w) PP w K mg base N__law_begin "_law_begin" (defScope (top 18)) a.a__law_begin cdv A outer s H E) (fun c d _ H' => E c d H') := takes_of rfl rfl rfl rfl
  have pw := passW1 tk
  exact ss_cons (s_setLc (i := 1) rfl nd rfl rfl (sw_true rfl rfl rfl (by kernel_rfl)) (it_val (R.v 0)) (blkOk_by (own := [("cell", 2)]) (by kernel_rfl)) (fun _ _ _ _ _ => R.nm 2 nd) (by decide) (fun _ _ _ _ _ => ets_one (R.tcmp op_geS (R.callB cb_abs T.n_abs boot_abs (R.eA (R.v 2) (R.eA0))) (ev_bin op_powS (ev_int) (ev_int)))) (fun _ _ _ _ _ => R.callB cb_abs T.n_abs boot_abs (R.eA (R.v 2) (R.eA0))) (by intro _; rfl))
    (ss_one (s_ret (ev_dict (eps_cons (ev_str) (R.v 1) (eps_cons (ev_str) (R.callT (cb_list rfl) T.n_list boot_list (R.eA (R.v 0) (R.eA0))) (eps_cons (ev_str) (ev_int) (eps_cons (ev_str) (ev_int) (eps_cons (ev_str) (ev_int) (eps_nil)))))) (by rfl) (by rfl) (by simp) (by decide))))
theorem g__law_take (T : TX w K mg a) : FnG PP w K mg base (cl a) (L2.CX PP w) 1 a.a__law_take a.d__law_take ["draw", "size"] f__law_take := by
  refine okG T.f__law_take (N := N__law_take) ⟨rfl, rfl, rfl, by decide +kernel, rfl, by decide +kernel, by decide +kernel⟩ fun cdv A outer s H E hr hg => ?_
  have hu := room65 hr
  have nd : N__law_take.Nodup := by decide +kernel
  have own : PassesOwn (model PP w) _ _ _ := passes_of (X := cxOf (L2.CX PP w) PP w K mg base N__law_take "_law_take" (defScope (top 19)) a.a__law_take cdv A outer s H E) rfl
  have tk : Takes (cxOf (L2.CX PP w) PP w K mg base N__law_take "_law_take" (defScope (top 19)) a.a__law_take cdv A outer s H E) (fun c d _ H' => E c d H') := takes_of rfl rfl rfl rfl
  have pw := passW1 tk
  exact ss_cons (s_if ((ew_and (R.tcmp (op_eqS hu) (R.ix (room1 hr) (R.v 0) (ev_str)) (ev_int)) (ew_and1 (R.tcmp (op_neS hu) (R.ix (room1 hr) (R.v 0) (ev_str)) (ev_lst (R.eA0))))).t) (ss_one (R.setI (room1 hr) (R.v 0) (ev_str) (R.bm PySem.F.plainAttrs_list PySem.F.slot_list_pop PySem.F.type_list_pop mt_popS (R.ix (room1 hr) (R.v 0) (ev_str)) (R.eA (ev_int) (R.eA0))))) (ss_one (s_if (R.tcmp (op_eqS hu) (R.ix (room1 hr) (R.v 0) (ev_str)) (ev_int)) (ss_cons (R.setI (room1 hr) (R.v 0) (ev_str) (ev_bin op_addS (R.ix (room1 hr) (R.v 0) (ev_str)) (ev_int)))
    (ss_cons (R.forr own rfl (it_val (ev_bin op_addS (ev_lst (R.eA (R.ix (room1 hr) (R.v 0) (ev_str)) (R.eA0))) (R.ix (room1 hr) (R.v 0) (ev_str)))) (R.nm 2 nd) (ss_one (R.setI (room1 hr) (R.v 0) (ev_str) (ev_bin op_modS (R.callT cb_int T.n_int boot_int (R.eA (ev_bin op_addS (ev_bin op_addS (ev_bin op_mulS (R.ix (room1 hr) (R.v 0) (ev_str)) (ev_int)) (ev_bin op_mulS (R.v 2) (ev_int))) (ev_int)) (R.eA0))) (ev_int)))))
    (ss_one (R.setI (room1 hr) (R.v 0) (ev_str) (ev_bin op_modS (R.callT cb_int T.n_int boot_int (R.eA (ev_bin op_powS (R.ix (room1 hr) (R.v 0) (ev_str)) (ev_int)) (R.eA0))) (ev_int)))))) (ss_nil))))
    (ss_cons (R.asgn (R.callB cb_divmod T.n_divmod boot_divmod (R.eA (R.ix (room1 hr) (R.v 0) (ev_str)) (R.eA (R.v 1) (R.eA0)))) (R.gt 2 rfl (R.gc (g_sub (room1 hr) (R.v 0) (ev_str) (by intro _; rfl)) (R.gc (R.nm 3 nd) (gs_nil)))))
    (ss_one (s_ret (R.v 3))))
theorem g__law_pick (T : TX w K mg a) : FnG PP w K mg base (cl a) (L2.CX PP w) 2 a.a__law_pick a.d__law_pick ["draw", "some"] f__law_pick := by
  refine okG T.f__law_pick (N := N__law_pick) ⟨rfl, rfl, rfl, by decide +kernel, rfl, by decide +kernel, by decide +kernel⟩ fun cdv A outer s H E hr hg => ?_
  have hu := room65 hr
  have nd : N__law_pick.Nodup := by decide +kernel
  have tk : Takes (cxOf (L2.CX PP w) PP w K mg base N__law_pick "_law_pick" (defScope (top 20)) a.a__law_pick cdv A outer s H E) (fun c d _ H' => E c d H') := takes_of rfl rfl rfl rfl
  have pw := passW1 tk
  exact ss_one (s_ret (R.ix (room1 hr) (R.v 1) (R.call T.m__law_take T.f__law_take.kp (run_g (ps := ["draw", "size"]) (g__law_take T) (hr.mono (by decide)) hg T.b__law_take .nil (fun _ _ => .nil) pw) (R.eA (R.v 0) (R.eA (R.callB cb_len T.n_len boot_len (R.eA (R.v 1) (R.eA0))) (R.eA0))))))
theorem g__law_words (T : TX w K mg a) : FnG PP w K mg base (cl a) (L2.CX PP w) 3 a.a__law_words a.d__law_words ["draw", "many"] f__law_words := by
  refine okG T.f__law_words (N := N__law_words) ⟨rfl, rfl, rfl, by decide +kernel, rfl, by decide +kernel, by decide +kernel⟩ fun cdv A outer s H E hr hg => ?_
  have hu := room65 hr
  have nd : N__law_words.Nodup := by decide +kernel
  have own : PassesOwn (model PP w) _ _ _ := passes_of (X := cxOf (L2.CX PP w) PP w K mg base N__law_words "_law_words" (defScope (top 21)) a.a__law_words cdv A outer s H E) rfl
  have tk : Takes (cxOf (L2.CX PP w) PP w K mg base N__law_words "_law_words" (defScope (top 21)) a.a__law_words cdv A outer s H E) (fun c d _ H' => E c d H') := takes_of rfl rfl rfl rfl
  have pw := passW1 tk
  exact ss_cons (R.asgn (ev_tup (R.eA (ev_lst (R.eA (ev_str) (R.eA (ev_str) (R.eA (ev_str) (R.eA (ev_str) (R.eA (ev_str) (R.eA (ev_str) (R.eA (ev_str) (R.eA (ev_str) (R.eA (ev_str) (R.eA (ev_str) (R.eA (ev_str) (R.eA (ev_str) (R.eA0)))))))))))))) (R.eA (ev_lst (R.eA0)) (R.eA0)))) (R.gt 2 rfl (R.gc (R.nm 2 nd) (R.gc (R.nm 3 nd) (gs_nil)))))
    (ss_cons (R.forr own rfl (it_rng1 (by rfl) T.n_range (R.eA (R.v 1) (R.eA0)) (by rfl)) (R.nm 4 nd) (ss_cons (R.set 5 nd (R.call T.m__law_pick T.f__law_pick.kp (run_g (ps := ["draw", "some"]) (g__law_pick T) (hr.mono (by decide)) hg T.b__law_pick .nil (fun _ _ => .nil) pw) (R.eA (R.v 0) (R.eA (R.v 2) (R.eA0)))))
    (ss_cons (s_if (R.tcmp (op_eqS hu) (R.call T.m__law_take T.f__law_take.kp (run_g (ps := ["draw", "size"]) (g__law_take T) (hr.mono (by decide)) hg T.b__law_take .nil (fun _ _ => .nil) pw) (R.eA (R.v 0) (R.eA (ev_int) (R.eA0)))) (ev_int)) (ss_one (R.set 5 nd (R.bm PySem.F.plainAttrs_str PySem.F.slot_str_join PySem.F.type_str_join (mt_joinS okS_join) (ev_str) (R.eA (ev_lc rfl nd (it_rng1 (by rfl) T.n_range (R.eA (ev_bin op_addS (ev_int) (R.call T.m__law_take T.f__law_take.kp (run_g (ps := ["draw", "size"]) (g__law_take T) (hr.mono (by decide)) hg T.b__law_take .nil (fun _ _ => .nil) pw) (R.eA (R.v 0) (R.eA (ev_int) (R.eA0))))) (R.eA0)) (by rfl)) (blkOk_by (own := [("j", 7)]) (by kernel_rfl)) (fun _ _ _ _ _ => R.nm 7 nd) (by decide) (fun _ _ _ _ _ => ets_nil) (fun _ _ _ _ _ => R.call T.m__law_pick T.f__law_pick.kp (run_g (ps := ["draw", "some"]) (g__law_pick T) (hr.mono (by decide)) hg T.b__law_pick .nil (fun _ _ => .nil) passWF) (R.eA (R.v 0) (R.eA (ev_str) (R.eA0)))) (by intro _; rfl)) (R.eA0))))) (ss_nil))
    (ss_cons (R.set 6 nd (ev_bin op_addS (ev_lst (R.eA (R.v 5) (R.eA0))) (ev_lc rfl nd (it_val (ev_str)) (blkOk_by (own := [("sign", 8)]) (by kernel_rfl)) (fun _ _ _ _ _ => R.nm 8 nd) (by decide) (fun _ _ _ _ _ => ets_nil) (fun _ _ _ _ _ => ev_bin op_addS (ev_slice (R.v 5) (eo_none) (eo_some (ev_int))) (R.v 8)) (by intro _; rfl))))
    (ss_one (R.xp (R.bm PySem.F.plainAttrs_list PySem.F.slot_list_append PySem.F.type_list_append mt_appendS (R.v 3) (R.eA (R.ix (room1 hr) (ev_lc rfl nd (it_val (R.v 6)) (blkOk_by (own := [("one", 9)]) (by kernel_rfl)) (fun _ _ _ _ _ => R.nm 9 nd) (by decide) (fun _ _ _ _ _ => ets_one (R.tcmp (op_ninS hu) (R.v 9) (R.v 3))) (fun _ _ _ _ _ => R.v 9) (by intro _; rfl)) (ev_int)) (R.eA0)))))))))
    (ss_one (s_ret (R.v 3))))
theorem g__law_engine (T : TX w K mg a) : FnG PP w K mg base (cl a) (L2.CX PP w) 4 a.a__law_engine a.d__law_engine ["draw", "most"] f__law_engine := by
  refine okG T.f__law_engine (N := N__law_engine) ⟨rfl, rfl, rfl, by decide +kernel, rfl, by decide +kernel, by decide +kernel⟩ fun cdv A outer s H E hr hg => ?_
  have hu := room65 hr
  have nd : N__law_engine.Nodup := by decide +kernel
  have own : PassesOwn (model PP w) _ _ _ := passes_of (X := cxOf (L2.CX PP w) PP w K mg base N__law_engine "_law_engine" (defScope (top 22)) a.a__law_engine cdv A outer s H E) rfl
  have tk : Takes (cxOf (L2.CX PP w) PP w K mg base N__law_engine "_law_engine" (defScope (top 22)) a.a__law_engine cdv A outer s H E) (fun c d _ H' => E c d H') := takes_of rfl rfl rfl rfl
  have pw := passW1 tk
  exact ss_cons (R.set 2 nd (R.callT cb_tuple T.n_tuple boot_tuple (R.eA (R.callB (cb_sorted rfl hu) T.n_sorted boot_sorted (R.eA (R.call T.m__law_words T.f__law_words.kp (run_g (ps := ["draw", "many"]) (g__law_words T) (hr.mono (by decide)) hg T.b__law_words .nil (fun _ _ => .nil) pw) (R.eA (R.v 0) (R.eA (ev_bin op_addS (ev_int) (R.call T.m__law_take T.f__law_take.kp (run_g (ps := ["draw", "size"]) (g__law_take T) (hr.mono (by decide)) hg T.b__law_take .nil (fun _ _ => .nil) pw) (R.eA (R.v 0) (R.eA (ev_int) (R.eA0))))) (R.eA0)))) (R.eA0))) (R.eA0))))
    (ss_cons (R.set 3 nd (ev_bin op_addS (ev_lc rfl nd (it_val (R.v 2)) (blkOk_by (own := [("part", 9)]) (by kernel_rfl)) (fun _ _ _ _ _ => R.nm 9 nd) (by decide) (fun _ _ _ _ _ => ets_nil) (fun _ _ _ _ _ => ev_tup (R.eA (ev_str) (R.eA (R.v 9) (R.eA0)))) (by intro _; rfl)) (ev_lc rfl nd (it_val (R.v 2)) (blkOk_by (own := [("part", 9)]) (by kernel_rfl)) (fun _ _ _ _ _ => R.nm 9 nd) (by decide) (fun _ _ _ _ _ => ets_nil) (fun _ _ _ _ _ => ev_tup (R.eA (ev_str) (R.eA (R.v 9) (R.eA0)))) (by intro _; rfl))))
    (ss_cons (R.asgn (ev_tup (R.eA (ev_bin op_addS (ev_int) (R.call T.m__law_take T.f__law_take.kp (run_g (ps := ["draw", "size"]) (g__law_take T) (hr.mono (by decide)) hg T.b__law_take .nil (fun _ _ => .nil) pw) (R.eA (R.v 0) (R.eA (R.v 1) (R.eA0))))) (R.eA (ev_lst (R.eA0)) (R.eA0)))) (R.gt 2 rfl (R.gc (R.nm 4 nd) (R.gc (R.nm 5 nd) (gs_nil)))))
    (ss_cons (s_setLc (i := 6) rfl nd rfl rfl (sw_true rfl rfl rfl (by kernel_rfl)) (it_rng1 (by rfl) T.n_range (R.eA (ev_bin op_addS (ev_int) (R.call T.m__law_take T.f__law_take.kp (run_g (ps := ["draw", "size"]) (g__law_take T) (hr.mono (by decide)) hg T.b__law_take .nil (fun _ _ => .nil) pw) (R.eA (R.v 0) (R.eA (ev_int) (R.eA0))))) (R.eA0)) (by rfl)) (blkOk_by (own := [("k", 10)]) (by kernel_rfl)) (fun _ _ _ _ _ => R.nm 10 nd) (by decide) (fun _ _ _ _ _ => ets_nil) (fun _ _ _ _ _ => ev_lc rfl nd (it_val (R.v 3)) (blkOk_by (own := [("event", 11)]) (by kernel_rfl)) (fun _ _ _ _ _ => R.nm 11 nd) (by decide) (fun _ _ _ _ _ => ets_one (R.tcmp op_gtS (R.call T.m__law_take T.f__law_take.kp (run_g (ps := ["draw", "size"]) (g__law_take T) (hr.mono (by decide)) hg T.b__law_take .nil (fun _ _ => .nil) passWF) (R.eA (R.v 0) (R.eA (ev_int) (R.eA0)))) (ev_int))) (fun _ _ _ _ _ => R.v 11) (by intro _; rfl)) (by intro _; rfl))
    (ss_cons (R.forr own rfl (it_rng1 (by rfl) T.n_range (R.eA (R.v 4) (R.eA0)) (by rfl)) (R.nm 7 nd) (ss_cons (s_setLc (i := 8) rfl nd rfl rfl (sw_true rfl rfl rfl (by kernel_rfl)) (it_val (R.call T.m__law_pick T.f__law_pick.kp (run_g (ps := ["draw", "some"]) (g__law_pick T) (hr.mono (by decide)) hg T.b__law_pick .nil (fun _ _ => .nil) pw) (R.eA (R.v 0) (R.eA (R.v 6) (R.eA0))))) (blkOk_by (own := [("event", 11)]) (by kernel_rfl)) (fun _ _ _ _ _ => R.nm 11 nd) (by decide) (fun _ _ _ _ _ => ets_nil) (fun _ _ _ _ _ => ev_tup (R.eA (R.v 11) (R.eA (R.call T.m__law_take T.f__law_take.kp (run_g (ps := ["draw", "size"]) (g__law_take T) (hr.mono (by decide)) hg T.b__law_take .nil (fun _ _ => .nil) passWF) (R.eA (R.v 0) (R.eA (R.v 4) (R.eA0)))) (R.eA0)))) (by intro _; rfl))
    (ss_one (R.xp (R.bm PySem.F.plainAttrs_list PySem.F.slot_list_append PySem.F.type_list_append mt_appendS (R.v 5) (R.eA (ev_tup (R.eA (R.cmp (op_eqS hu) (R.call T.m__law_take T.f__law_take.kp (run_g (ps := ["draw", "size"]) (g__law_take T) (hr.mono (by decide)) hg T.b__law_take .nil (fun _ _ => .nil) pw) (R.eA (R.v 0) (R.eA (ev_int) (R.eA0)))) (ev_int)) (R.eA (R.callT cb_tuple T.n_tuple boot_tuple (R.eA (R.v 8) (R.eA0))) (R.eA0)))) (R.eA0)))))))
    (ss_one (s_ret (ev_tup (R.eA (R.v 2) (R.eA (R.callT cb_tuple T.n_tuple boot_tuple (R.eA (R.v 5) (R.eA0))) (R.eA0))))))))))
theorem g_is_name (T : TX w K mg a) : FnG PP w K mg base (cl a) (L2.CX PP w) 1 a.a_is_name a.d_is_name ["value"] f_is_name := by
  refine okG T.f_is_name (N := N_is_name) ⟨rfl, rfl, rfl, by decide +kernel, rfl, by decide +kernel, by decide +kernel⟩ fun cdv A outer s H E hr hg => ?_
  have hu := room65 hr
  have nd : N_is_name.Nodup := by decide +kernel
  have own : PassesOwn (model PP w) _ _ _ := passes_of (X := cxOf (L2.CX PP w) PP w K mg base N_is_name "is_name" (defScope (top 7)) a.a_is_name cdv A outer s H E) rfl
  have tk : Takes (cxOf (L2.CX PP w) PP w K mg base N_is_name "is_name" (defScope (top 7)) a.a_is_name cdv A outer s H E) (fun c d _ H' => E c d H') := takes_of rfl rfl rfl rfl
  have pw := passW1 tk
  exact ss_cons (s_if ((ew_or (et_not (R.tval (R.isi T.clx (isB1 (by decide) T.kb_str) (.ty _) (R.bty T.n_str boot_str) (R.v 0) T.n_isinstance))) (ew_or1 (et_not (R.tcmp2 op_leS op_leS (ev_int) (R.callB cb_len T.n_len boot_len (R.eA (R.v 0) (R.eA0))) (R.gInt T.g_MOST_LETTERS))))).t) (ss_one (s_ret (ev_bl))) (ss_nil))
    (ss_one (s_ret (R.callB (cb_all rfl) T.n_all boot_all (R.eA (ev_lc rfl nd (it_val (R.v 0)) (blkOk_by (own := [("letter", 1)]) (by kernel_rfl)) (fun _ _ _ _ _ => R.nm 1 nd) (by decide) (fun _ _ _ _ _ => ets_nil) (fun _ _ _ _ _ => R.cmp (op_inS hu) (R.v 1) (R.gStr T.g_LETTERS)) (by intro _; rfl)) (R.eA0)))))
theorem g_are_parts (T : TX w K mg a) : FnG PP w K mg base (cl a) (L2.CX PP w) 2 a.a_are_parts a.d_are_parts ["value"] f_are_parts := by
  refine okG T.f_are_parts (N := N_are_parts) ⟨rfl, rfl, rfl, by decide +kernel, rfl, by decide +kernel, by decide +kernel⟩ fun cdv A outer s H E hr hg => ?_
  have hu := room65 hr
  have nd : N_are_parts.Nodup := by decide +kernel
  have own : PassesOwn (model PP w) _ _ _ := passes_of (X := cxOf (L2.CX PP w) PP w K mg base N_are_parts "are_parts" (defScope (top 15)) a.a_are_parts cdv A outer s H E) rfl
  have tk : Takes (cxOf (L2.CX PP w) PP w K mg base N_are_parts "are_parts" (defScope (top 15)) a.a_are_parts cdv A outer s H E) (fun c d _ H' => E c d H') := takes_of rfl rfl rfl rfl
  have pw := passW1 tk
  exact ss_cons (s_if ((ew_or (et_not (R.tval (R.isi T.clx (isB1 (by decide) T.kb_tuple) (.ty _) (R.bty T.n_tuple boot_tuple) (R.v 0) T.n_isinstance))) (ew_or (et_not (R.tcmp2 op_leS op_leS (ev_int) (R.callB cb_len T.n_len boot_len (R.eA (R.v 0) (R.eA0))) (ev_int))) (ew_or1 (et_not (R.tval (R.callB (cb_all rfl) T.n_all boot_all (R.eA (ev_lc rfl nd (it_val (R.v 0)) (blkOk_by (own := [("name", 1)]) (by kernel_rfl)) (fun _ _ _ _ _ => R.nm 1 nd) (by decide) (fun _ _ _ _ _ => ets_nil) (fun _ _ _ _ _ => R.call T.m_is_name T.f_is_name.kp (run_g (ps := ["value"]) (g_is_name T) (hr.mono (by decide)) hg T.b_is_name .nil (fun _ _ => .nil) passWF) (R.eA (R.v 1) (R.eA0))) (by intro _; rfl)) (R.eA0)))))))).t) (ss_one (s_ret (ev_bl))) (ss_nil))
    (ss_one (s_ret (R.cmp (op_eqS hu) (R.callT (cb_list rfl) T.n_list boot_list (R.eA (R.v 0) (R.eA0))) (ev_ssetU rfl hu T.n_sorted T.n_set (R.v 0)))))
theorem g_is_event_of (T : TX w K mg a) : FnG PP w K mg base (cl a) (L2.CX PP w) 1 a.a_is_event_of a.d_is_event_of ["value", "parts"] f_is_event_of := by
  refine okG T.f_is_event_of (N := N_is_event_of) ⟨rfl, rfl, rfl, by decide +kernel, rfl, by decide +kernel, by decide +kernel⟩ fun cdv A outer s H E hr hg => ?_
  have hu := room65 hr
  have nd : N_is_event_of.Nodup := by decide +kernel
  have tk : Takes (cxOf (L2.CX PP w) PP w K mg base N_is_event_of "is_event_of" (defScope (top 12)) a.a_is_event_of cdv A outer s H E) (fun c d _ H' => E c d H') := takes_of rfl rfl rfl rfl
  have pw := passW1 tk
  exact ss_cons (s_if ((ew_or (et_not (R.tval (R.isi T.clx (isB1 (by decide) T.kb_tuple) (.ty _) (R.bty T.n_tuple boot_tuple) (R.v 0) T.n_isinstance))) (ew_or1 (R.tcmp (op_neS hu) (R.callB cb_len T.n_len boot_len (R.eA (R.v 0) (R.eA0))) (ev_int)))).t) (ss_one (s_ret (ev_bl))) (ss_nil))
    (ss_one (s_ret (ev_and (R.isi T.clx (isB1 (by decide) T.kb_str) (.ty _) (R.bty T.n_str boot_str) (R.ix (room1 hr) (R.v 0) (ev_int)) T.n_isinstance) (ev_and (R.cmp (op_inS hu) (R.ix (room1 hr) (R.v 0) (ev_int)) (ev_tup (R.eA (R.gStr T.g_FAIL) (R.eA (R.gStr T.g_MEND) (R.eA0))))) (ev_and (R.isi T.clx (isB1 (by decide) T.kb_str) (.ty _) (R.bty T.n_str boot_str) (R.ix (room1 hr) (R.v 0) (ev_int)) T.n_isinstance) (ev_one (R.cmp (op_inS hu) (R.ix (room1 hr) (R.v 0) (ev_int)) (R.v 1))))))))
theorem g_is_index (T : TX w K mg a) : FnG PP w K mg base (cl a) (L2.CX PP w) 1 a.a_is_index a.d_is_index ["value", "many"] f_is_index := by
  refine okG T.f_is_index (N := N_is_index) ⟨rfl, rfl, rfl, by decide +kernel, rfl, by decide +kernel, by decide +kernel⟩ fun cdv A outer s H E hr hg => ?_
  have hu := room65 hr
  have nd : N_is_index.Nodup := by decide +kernel
  have tk : Takes (cxOf (L2.CX PP w) PP w K mg base N_is_index "is_index" (defScope (top 11)) a.a_is_index cdv A outer s H E) (fun c d _ H' => E c d H') := takes_of rfl rfl rfl rfl
  have pw := passW1 tk
  exact ss_one (s_ret (ev_and (R.isi T.clx (isB1 (by decide) T.kb_int) (.ty _) (R.bty T.n_int boot_int) (R.v 0) T.n_isinstance) (ev_and (ev_not (R.isi T.clx (isB1 (by decide) T.kb_bool) (.ty _) (R.bty T.n_bool boot_bool) (R.v 0) T.n_isinstance)) (ev_one (R.cmp2 op_leS op_ltS (ev_int) (R.v 0) (R.v 1))))))
theorem g_is_step (T : TX w K mg a) : FnG PP w K mg base (cl a) (L2.CX PP w) 2 a.a_is_step a.d_is_step ["value", "parts", "many"] f_is_step := by
  refine okG T.f_is_step (N := N_is_step) ⟨rfl, rfl, rfl, by decide +kernel, rfl, by decide +kernel, by decide +kernel⟩ fun cdv A outer s H E hr hg => ?_
  have hu := room65 hr
  have nd : N_is_step.Nodup := by decide +kernel
  have tk : Takes (cxOf (L2.CX PP w) PP w K mg base N_is_step "is_step" (defScope (top 13)) a.a_is_step cdv A outer s H E) (fun c d _ H' => E c d H') := takes_of rfl rfl rfl rfl
  have pw := passW1 tk
  exact ss_one (s_ret (ev_and (R.isi T.clx (isB1 (by decide) T.kb_tuple) (.ty _) (R.bty T.n_tuple boot_tuple) (R.v 0) T.n_isinstance) (ev_and (R.cmp (op_eqS hu) (R.callB cb_len T.n_len boot_len (R.eA (R.v 0) (R.eA0))) (ev_int)) (ev_and (R.call T.m_is_event_of T.f_is_event_of.kp (run_g (ps := ["value", "parts"]) (g_is_event_of T) (hr.mono (by decide)) hg T.b_is_event_of .nil (fun _ _ => .nil) pw) (R.eA (R.ix (room1 hr) (R.v 0) (ev_int)) (R.eA (R.v 1) (R.eA0)))) (ev_one (R.call T.m_is_index T.f_is_index.kp (run_g (ps := ["value", "many"]) (g_is_index T) (hr.mono (by decide)) hg T.b_is_index .nil (fun _ _ => .nil) pw) (R.eA (R.ix (room1 hr) (R.v 0) (ev_int)) (R.eA (R.v 2) (R.eA0)))))))))
theorem g_is_row (T : TX w K mg a) : FnG PP w K mg base (cl a) (L2.CX PP w) 3 a.a_is_row a.d_is_row ["value", "parts", "many"] f_is_row := by
  refine okG T.f_is_row (N := N_is_row) ⟨rfl, rfl, rfl, by decide +kernel, rfl, by decide +kernel, by decide +kernel⟩ fun cdv A outer s H E hr hg => ?_
  have hu := room65 hr
  have nd : N_is_row.Nodup := by decide +kernel
  have own : PassesOwn (model PP w) _ _ _ := passes_of (X := cxOf (L2.CX PP w) PP w K mg base N_is_row "is_row" (defScope (top 14)) a.a_is_row cdv A outer s H E) rfl
  have tk : Takes (cxOf (L2.CX PP w) PP w K mg base N_is_row "is_row" (defScope (top 14)) a.a_is_row cdv A outer s H E) (fun c d _ H' => E c d H') := takes_of rfl rfl rfl rfl
  have pw := passW1 tk
  exact ss_cons (s_if ((ew_or (et_not (R.tval (R.isi T.clx (isB1 (by decide) T.kb_tuple) (.ty _) (R.bty T.n_tuple boot_tuple) (R.v 0) T.n_isinstance))) (ew_or1 (R.tcmp (op_neS hu) (R.callB cb_len T.n_len boot_len (R.eA (R.v 0) (R.eA0))) (ev_int)))).t) (ss_one (s_ret (ev_bl))) (ss_nil))
    (ss_cons (R.asgn (R.v 0) (R.gt 2 rfl (R.gc (R.nm 3 nd) (R.gc (R.nm 4 nd) (gs_nil)))))
    (ss_cons (s_if ((ew_or (et_not (R.tval (R.isi T.clx (isB1 (by decide) T.kb_bool) (.ty _) (R.bty T.n_bool boot_bool) (R.v 3) T.n_isinstance))) (ew_or1 (et_not (R.tval (R.isi T.clx (isB1 (by decide) T.kb_tuple) (.ty _) (R.bty T.n_tuple boot_tuple) (R.v 4) T.n_isinstance))))).t) (ss_one (s_ret (ev_bl))) (ss_nil))
    (ss_cons (s_if (et_not (R.tval (R.callB (cb_all rfl) T.n_all boot_all (R.eA (ev_lc rfl nd (it_val (R.v 4)) (blkOk_by (own := [("step", 6)]) (by kernel_rfl)) (fun _ _ _ _ _ => R.nm 6 nd) (by decide) (fun _ _ _ _ _ => ets_nil) (fun _ _ _ _ _ => R.call T.m_is_step T.f_is_step.kp (run_g (ps := ["value", "parts", "many"]) (g_is_step T) (hr.mono (by decide)) hg T.b_is_step .nil (fun _ _ => .nil) passWF) (R.eA (R.v 6) (R.eA (R.v 1) (R.eA (R.v 2) (R.eA0))))) (by intro _; rfl)) (R.eA0))))) (ss_one (s_ret (ev_bl))) (ss_nil))
    (ss_cons (s_setLc (i := 5) rfl nd rfl rfl (sw_true rfl rfl rfl (by kernel_rfl)) (it_val (R.v 4)) (blkOk_by (own := [("event", 7), ("to", 8)]) (by kernel_rfl)) (fun _ _ _ _ _ => R.gt 2 rfl (R.gc (R.nm 7 nd) (R.gc (R.nm 8 nd) (gs_nil)))) (by decide) (fun _ _ _ _ _ => ets_nil) (fun _ _ _ _ _ => R.v 7) (by intro _; rfl))
    (ss_one (s_ret (R.cmp (op_eqS hu) (R.v 5) (ev_ssetT rfl hu T.n_sorted T.n_set (R.v 5)))))))))
theorem g_Machine___init__ (T : TX w K mg a) : FnG PP w K mg base (cl a) (L2.CX PP w) 4 a.a_Machine___init__ a.d_Machine___init__ ["self", "parts", "rows"] f_Machine___init__ := by
  refine okG T.f_Machine___init__ (N := N_Machine___init__) ⟨rfl, rfl, rfl, by decide +kernel, rfl, by decide +kernel, by decide +kernel⟩ fun cdv A outer s H E hr hg => ?_
  have hu := room65 hr
  have nd : N_Machine___init__.Nodup := by decide +kernel
  have own : PassesOwn (model PP w) _ _ _ := passes_of (X := cxOf (L2.CX PP w) PP w K mg base N_Machine___init__ "Machine.__init__" (defScope (inClass (top 16) 0)) a.a_Machine___init__ cdv A outer s H E) rfl
  have tk : Takes (cxOf (L2.CX PP w) PP w K mg base N_Machine___init__ "Machine.__init__" (defScope (inClass (top 16) 0)) a.a_Machine___init__ cdv A outer s H E) (fun c d _ H' => E c d H') := takes_of rfl rfl rfl rfl
  have pw := passW1 tk
  exact ss_cons (s_if (et_not (R.tval (R.call T.m_are_parts T.f_are_parts.kp (run_g (ps := ["value"]) (g_are_parts T) (hr.mono (by decide)) hg T.b_are_parts .nil (fun _ _ => .nil) pw) (R.eA (R.v 1) (R.eA0))))) (ss_one (s_raise0 rfl tk T.ec_BadMachine T.ex_BadMachine T.m_BadMachine rfl T.ce_BadMachine)) (ss_nil))
    (ss_cons (s_if ((ew_or (et_not (R.tval (R.isi T.clx (isB1 (by decide) T.kb_tuple) (.ty _) (R.bty T.n_tuple boot_tuple) (R.v 2) T.n_isinstance))) (ew_or1 (R.tcmp (op_eqS hu) (R.callB cb_len T.n_len boot_len (R.eA (R.v 2) (R.eA0))) (ev_int)))).t) (ss_one (s_raise0 rfl tk T.ec_BadMachine T.ex_BadMachine T.m_BadMachine rfl T.ce_BadMachine)) (ss_nil))
    (ss_cons (s_if (et_not (R.tval (R.callB (cb_all rfl) T.n_all boot_all (R.eA (ev_lc rfl nd (it_val (R.v 2)) (blkOk_by (own := [("row", 3)]) (by kernel_rfl)) (fun _ _ _ _ _ => R.nm 3 nd) (by decide) (fun _ _ _ _ _ => ets_nil) (fun _ _ _ _ _ => R.call T.m_is_row T.f_is_row.kp (run_g (ps := ["value", "parts", "many"]) (g_is_row T) (hr.mono (by decide)) hg T.b_is_row .nil (fun _ _ => .nil) passWF) (R.eA (R.v 3) (R.eA (R.v 1) (R.eA (R.callB cb_len T.n_len boot_len (R.eA (R.v 2) (R.eA0))) (R.eA0))))) (by intro _; rfl)) (R.eA0))))) (ss_one (s_raise0 rfl tk T.ec_BadMachine T.ex_BadMachine T.m_BadMachine rfl T.ce_BadMachine)) (ss_nil))
    (ss_cons (R.setFl T.cl_Machine T.c_Machine.cl T.na_Machine_m_parts (R.v 0) (R.v 1))
    (ss_one (R.setFl T.cl_Machine T.c_Machine.cl T.na_Machine_m_rows (R.v 0) (R.v 2))))))
theorem g_Machine_parts (T : TX w K mg a) : FnG PP w K mg base (cl a) (L2.CX PP w) 1 a.a_Machine_parts a.d_Machine_parts ["self"] f_Machine_parts := by
  refine okG T.f_Machine_parts (N := N_Machine_parts) ⟨rfl, rfl, rfl, by decide +kernel, rfl, by decide +kernel, by decide +kernel⟩ fun cdv A outer s H E hr hg => ?_
  have hu := room65 hr
  have nd : N_Machine_parts.Nodup := by decide +kernel
  have tk : Takes (cxOf (L2.CX PP w) PP w K mg base N_Machine_parts "Machine.parts" (defScope (inClass (top 16) 1)) a.a_Machine_parts cdv A outer s H E) (fun c d _ H' => E c d H') := takes_of rfl rfl rfl rfl
  have pw := passW1 tk
  exact ss_one (s_ret (R.fld T.cl_Machine T.c_Machine.cl T.na_Machine_m_parts (R.v 0)))
theorem g_Machine_rows (T : TX w K mg a) : FnG PP w K mg base (cl a) (L2.CX PP w) 1 a.a_Machine_rows a.d_Machine_rows ["self"] f_Machine_rows := by
  refine okG T.f_Machine_rows (N := N_Machine_rows) ⟨rfl, rfl, rfl, by decide +kernel, rfl, by decide +kernel, by decide +kernel⟩ fun cdv A outer s H E hr hg => ?_
  have hu := room65 hr
  have nd : N_Machine_rows.Nodup := by decide +kernel
  have tk : Takes (cxOf (L2.CX PP w) PP w K mg base N_Machine_rows "Machine.rows" (defScope (inClass (top 16) 2)) a.a_Machine_rows cdv A outer s H E) (fun c d _ H' => E c d H') := takes_of rfl rfl rfl rfl
  have pw := passW1 tk
  exact ss_one (s_ret (R.fld T.cl_Machine T.c_Machine.cl T.na_Machine_m_rows (R.v 0)))
theorem g_Machine___len__ (T : TX w K mg a) : FnG PP w K mg base (cl a) (L2.CX PP w) 1 a.a_Machine___len__ a.d_Machine___len__ ["self"] f_Machine___len__ := by
  refine okG T.f_Machine___len__ (N := N_Machine___len__) ⟨rfl, rfl, rfl, by decide +kernel, rfl, by decide +kernel, by decide +kernel⟩ fun cdv A outer s H E hr hg => ?_
  have hu := room65 hr
  have nd : N_Machine___len__.Nodup := by decide +kernel
  have tk : Takes (cxOf (L2.CX PP w) PP w K mg base N_Machine___len__ "Machine.__len__" (defScope (inClass (top 16) 3)) a.a_Machine___len__ cdv A outer s H E) (fun c d _ H' => E c d H') := takes_of rfl rfl rfl rfl
  have pw := passW1 tk
  exact ss_one (s_ret (R.callB cb_len T.n_len boot_len (R.eA (R.fld T.cl_Machine T.c_Machine.cl T.na_Machine_m_rows (R.v 0)) (R.eA0))))
theorem g__law_odd (T : TX w K mg a) : FnG PP w K mg base (cl a) (L2.CX PP w) 3 a.a__law_odd a.d__law_odd ["draw", "titles"] f__law_odd := by
  refine okG T.f__law_odd (N := N__law_odd) ⟨rfl, rfl, rfl, by decide +kernel, rfl, by decide +kernel, by decide +kernel⟩ fun cdv A outer s H E hr hg => ?_
  have hu := room65 hr
  have nd : N__law_odd.Nodup := by decide +kernel
  have tk : Takes (cxOf (L2.CX PP w) PP w K mg base N__law_odd "_law_odd" (defScope (top 27)) a.a__law_odd cdv A outer s H E) (fun c d _ H' => E c d H') := takes_of rfl rfl rfl rfl
  have pw := passW1 tk
  exact ss_cons (R.set 2 nd (ev_lst (R.eA (ev_non) (R.eA (ev_bl) (R.eA (ev_int) (R.eA (ev_int) (R.eA (ev_un un_negS (ev_int)) (R.eA (ev_str) (R.eA (ev_str) (R.eA (ev_tup (R.eA0)) (R.eA (ev_lst (R.eA0)) (R.eA (ev_str) (R.eA (ev_str) (R.eA (ev_tup (R.eA (ev_str) (R.eA (R.ix (room1 hr) (R.v 1) (ev_int)) (R.eA0)))) (R.eA (ev_tup (R.eA (ev_tup (R.eA (ev_str) (R.eA (R.ix (room1 hr) (R.v 1) (ev_int)) (R.eA0)))) (R.eA (ev_int) (R.eA0)))) (R.eA0))))))))))))))))
    (ss_one (s_ret (R.call T.m__law_pick T.f__law_pick.kp (run_g (ps := ["draw", "some"]) (g__law_pick T) (hr.mono (by decide)) hg T.b__law_pick .nil (fun _ _ => .nil) pw) (R.eA (R.v 0) (R.eA (ev_bin op_addS (R.v 2) (ev_lst (R.eA (ev_tup (R.eA (ev_bl) (R.eA (ev_tup (R.eA0)) (R.eA0)))) (R.eA (ev_lst (R.eA (R.ix (room1 hr) (R.v 1) (ev_int)) (R.eA0))) (R.eA (ev_tup (R.eA (ev_str) (R.eA (R.ix (room1 hr) (R.v 1) (ev_int)) (R.eA0)))) (R.eA (ev_tup (R.eA (ev_tup (R.eA (ev_str) (R.eA (ev_str) (R.eA0)))) (R.eA (ev_int) (R.eA0)))) (R.eA (ev_dict0) (R.eA0)))))))) (R.eA0))))))
theorem g__law_bent (T : TX w K mg a) : ∀ j : Nat, FnG PP w K mg base (cl a) (L2.CX PP w) (j + 4) a.a__law_bent a.d__law_bent ["draw", "thing", "titles"] (f__law_bent j)
  | 0 => ⟨fun A outer s H args us vs io S ds Q E _ _ _ _ _ _ _ _ G _ => False.elim G⟩
  | j + 1 => by
    refine okG T.f__law_bent (N := N__law_bent) ⟨rfl, rfl, rfl, by decide +kernel, rfl, by decide +kernel, by decide +kernel⟩ fun cdv A outer s H E hr hg => ?_
    have hu := room65 hr
    have nd : N__law_bent.Nodup := by decide +kernel
    have tk : Takes (cxOf (L2.CX PP w) PP w K mg base N__law_bent "_law_bent" (defScope (top 28)) a.a__law_bent cdv A outer s H E) (fun c d _ H' => E c d H') := takes_of rfl rfl rfl rfl
    have pw := passW1 tk
    exact ss_cons (s_if ((ew_or (et_not (R.tval (R.isi T.clx (isB1 (by decide) T.kb_tuple) (.ty _) (R.bty T.n_tuple boot_tuple) (R.v 1) T.n_isinstance))) (ew_or (R.tcmp (op_eqN hu) (R.v 1) (ev_tup (R.eA0))) (ew_or1 (R.tcmp (op_eqS hu) (R.call T.m__law_take T.f__law_take.kp (run_g (ps := ["draw", "size"]) (g__law_take T) (hr.mono (by omega)) hg T.b__law_take .nil (fun _ _ => .nil) pw) (R.eA (R.v 0) (R.eA (ev_int) (R.eA0)))) (ev_int))))).t) (ss_one (s_ret (R.call T.m__law_odd T.f__law_odd.kp (run_g (ps := ["draw", "titles"]) (g__law_odd T) (hr.mono (by omega)) hg T.b__law_odd .nil (fun _ _ => .nil) pw) (R.eA (R.v 0) (R.eA (R.v 2) (R.eA0)))))) (ss_nil))
            (ss_cons (s_par rfl nd rfl rfl (by decide) rfl rfl (R.eA (R.call T.m__law_take T.f__law_take.kp (run_g (ps := ["draw", "size"]) (g__law_take T) (hr.mono (by omega)) hg T.b__law_take .nil (fun _ _ => .nil) pw) (R.eA (R.v 0) (R.eA (R.callB cb_len T.n_len boot_len (R.eA (R.v 1) (R.eA0))) (R.eA0)))) (R.eA (R.call T.m__law_take T.f__law_take.kp (run_g (ps := ["draw", "size"]) (g__law_take T) (hr.mono (by omega)) hg T.b__law_take .nil (fun _ _ => .nil) pw) (R.eA (R.v 0) (R.eA (ev_int) (R.eA0)))) (R.eA0))) (by rfl) (by rfl))
            (ss_cons (s_if (R.tcmp (op_eqS hu) (R.v 4) (ev_int)) (ss_one (s_ret (ev_bin op_addS (ev_slice (R.v 1) (eo_none) (eo_some (R.v 3))) (ev_slice (R.v 1) (eo_some (ev_bin op_addS (R.v 3) (ev_int))) (eo_none))))) (ss_nil))
            (ss_cons (s_if (R.tcmp (op_eqS hu) (R.v 4) (ev_int)) (ss_one (s_ret (ev_bin op_addS (ev_bin op_addS (ev_slice (R.v 1) (eo_none) (eo_some (R.v 3))) (ev_tup (R.eA (R.ix (room1 hr) (R.v 1) (R.v 3)) (R.eA0)))) (ev_slice (R.v 1) (eo_some (R.v 3)) (eo_none))))) (ss_nil))
            (ss_cons (s_if (R.tcmp (op_eqS hu) (R.v 4) (ev_int)) (ss_one (s_ret (ev_revT (R.v 1)))) (ss_nil))
            (ss_cons (s_if (R.tcmp (op_eqS hu) (R.v 4) (ev_int)) (ss_one (s_ret (R.callT (cb_list rfl) T.n_list boot_list (R.eA (R.v 1) (R.eA0))))) (ss_nil))
            (ss_one (s_ret (ev_bin op_addS (ev_bin op_addS (ev_slice (R.v 1) (eo_none) (eo_some (R.v 3))) (ev_tup (R.eA (R.call T.m__law_bent T.f__law_bent.kp (run_g (ps := ["draw", "thing", "titles"]) (g__law_bent T j) (hr.mono (by omega)) hg T.b__law_bent .nil (fun _ _ => .nil) pw) (R.eA (R.v 0) (R.eA (R.ix (room1 hr) (R.v 1) (R.v 3)) (R.eA (R.v 2) (R.eA0))))) (R.eA0)))) (ev_slice (R.v 1) (eo_some (ev_bin op_addS (R.v 3) (ev_int))) (eo_none))))))))))
theorem g__law_told (T : TX w K mg a) : FnG PP w K mg base (cl a) (L2.CX PP w) 6 a.a__law_told a.d__law_told ["titles", "lists"] f__law_told := by
  refine okG T.f__law_told (N := N__law_told) ⟨rfl, rfl, rfl, by decide +kernel, rfl, by decide +kernel, by decide +kernel⟩ fun cdv A outer s H E hr hg => ?_
  have hu := room65 hr
  have nd : N__law_told.Nodup := by decide +kernel
  have own : PassesOwn (model PP w) _ _ _ := passes_of (X := cxOf (L2.CX PP w) PP w K mg base N__law_told "_law_told" (defScope (top 29)) a.a__law_told cdv A outer s H E) rfl
  have tk : Takes (cxOf (L2.CX PP w) PP w K mg base N__law_told "_law_told" (defScope (top 29)) a.a__law_told cdv A outer s H E) (fun c d _ H' => E c d H') := takes_of rfl rfl rfl rfl
  have pw := passW1 tk
  exact ss_cons (R.asgn (ev_tup (R.eA (ev_non) (R.eA (ev_non) (R.eA0)))) (R.gt 2 rfl (R.gc (R.nm 2 nd) (R.gc (R.nm 3 nd) (gs_nil)))))
    (ss_cons (s_try rfl rfl nd rfl rfl ⟨rfl, by decide, .inl T.m_FaultError⟩ tk T.xs_FaultError (fun W1 pn xe tk own => (have pw := passW1 tk; ss_one (R.set 2 nd (R.call T.m_Machine T.mk_Machine.kp (run_mk (ps := ["self", "parts", "rows"]) T.cl_Machine T.mk_Machine (g_Machine___init__ T) (hr.mono (by decide)) hg T.b_Machine___init__ pw) (R.eA (R.v 0) (R.eA (R.v 1) (R.eA0))))))) (fun ea pn => (ss_one (R.set 3 nd (R.v 4)))))
    (ss_one (s_ret (ev_if (R.tcmp op_isS (R.v 3) (ev_non)) (R.v 2) (ev_isiE T.xi T.ie_BadMachine (.own _) (pe_glob (by rfl) T.m_BadMachine rfl) (R.v 3) T.n_isinstance)))))
theorem g__law_is_name (T : TX w K mg a) : FnG PP w K mg base (cl a) (L2.CX PP w) 1 a.a__law_is_name a.d__law_is_name ["thing"] f__law_is_name := by
  refine okG T.f__law_is_name (N := N__law_is_name) ⟨rfl, rfl, rfl, by decide +kernel, rfl, by decide +kernel, by decide +kernel⟩ fun cdv A outer s H E hr hg => ?_
  have hu := room65 hr
  have nd : N__law_is_name.Nodup := by decide +kernel
  have own : PassesOwn (model PP w) _ _ _ := passes_of (X := cxOf (L2.CX PP w) PP w K mg base N__law_is_name "_law_is_name" (defScope (top 23)) a.a__law_is_name cdv A outer s H E) rfl
  have tk : Takes (cxOf (L2.CX PP w) PP w K mg base N__law_is_name "_law_is_name" (defScope (top 23)) a.a__law_is_name cdv A outer s H E) (fun c d _ H' => E c d H') := takes_of rfl rfl rfl rfl
  have pw := passW1 tk
  exact ss_cons (s_if ((ew_or (et_not (R.tval (R.isi T.clx (isB1 (by decide) T.kb_str) (.ty _) (R.bty T.n_str boot_str) (R.v 0) T.n_isinstance))) (ew_or1 (et_not (R.tcmp2 op_leS op_leS (ev_int) (R.callB cb_len T.n_len boot_len (R.eA (R.v 0) (R.eA0))) (ev_int))))).t) (ss_one (s_ret (ev_bl))) (ss_nil))
    (ss_one (s_ret (R.cmp (op_eqN hu) (ev_lc rfl nd (it_val (R.v 0)) (blkOk_by (own := [("sign", 1)]) (by kernel_rfl)) (fun _ _ _ _ _ => R.nm 1 nd) (by decide) (fun _ _ _ _ _ => ets_one (R.tcmp (op_ninS hu) (R.v 1) (ev_str))) (fun _ _ _ _ _ => R.v 1) (by intro _; rfl)) (ev_lst (R.eA0)))))
theorem g__law_is_step (T : TX w K mg a) : FnG PP w K mg base (cl a) (L2.CX PP w) 1 a.a__law_is_step a.d__law_is_step ["thing", "titles", "many"] f__law_is_step := by
  refine okG T.f__law_is_step (N := N__law_is_step) ⟨rfl, rfl, rfl, by decide +kernel, rfl, by decide +kernel, by decide +kernel⟩ fun cdv A outer s H E hr hg => ?_
  have hu := room65 hr
  have nd : N__law_is_step.Nodup := by decide +kernel
  have tk : Takes (cxOf (L2.CX PP w) PP w K mg base N__law_is_step "_law_is_step" (defScope (top 24)) a.a__law_is_step cdv A outer s H E) (fun c d _ H' => E c d H') := takes_of rfl rfl rfl rfl
  have pw := passW1 tk
  exact ss_cons (s_if ((ew_or (et_not (R.tval (R.isi T.clx (isB1 (by decide) T.kb_tuple) (.ty _) (R.bty T.n_tuple boot_tuple) (R.v 0) T.n_isinstance))) (ew_or (R.tcmp (op_neS hu) (R.callB cb_len T.n_len boot_len (R.eA (R.v 0) (R.eA0))) (ev_int)) (ew_or (et_not (R.tval (R.isi T.clx (isB1 (by decide) T.kb_tuple) (.ty _) (R.bty T.n_tuple boot_tuple) (R.ix (room1 hr) (R.v 0) (ev_int)) T.n_isinstance))) (ew_or1 (R.tcmp (op_neS hu) (R.callB cb_len T.n_len boot_len (R.eA (R.ix (room1 hr) (R.v 0) (ev_int)) (R.eA0))) (ev_int)))))).t) (ss_one (s_ret (ev_bl))) (ss_nil))
    (ss_cons (R.asgn (R.v 0) (R.gt 2 rfl (R.gc (R.nm 3 nd) (R.gc (R.nm 4 nd) (gs_nil)))))
    (ss_cons (s_if ((ew_or (et_not (R.tval (R.isi T.clx (isB1 (by decide) T.kb_str) (.ty _) (R.bty T.n_str boot_str) (R.ix (room1 hr) (R.v 3) (ev_int)) T.n_isinstance))) (ew_or (R.tcmp (op_ninS hu) (R.ix (room1 hr) (R.v 3) (ev_int)) (ev_tup (R.eA (ev_str) (R.eA (ev_str) (R.eA0))))) (ew_or1 (et_not (R.tval (R.isi T.clx (isB1 (by decide) T.kb_str) (.ty _) (R.bty T.n_str boot_str) (R.ix (room1 hr) (R.v 3) (ev_int)) T.n_isinstance)))))).t) (ss_one (s_ret (ev_bl))) (ss_nil))
    (ss_one (s_ret (ev_and (R.cmp (op_inS hu) (R.ix (room1 hr) (R.v 3) (ev_int)) (R.v 1)) (ev_and (R.isi T.clx (isB1 (by decide) T.kb_int) (.ty _) (R.bty T.n_int boot_int) (R.v 4) T.n_isinstance) (ev_and (ev_not (R.isi T.clx (isB1 (by decide) T.kb_bool) (.ty _) (R.bty T.n_bool boot_bool) (R.v 4) T.n_isinstance)) (ev_one (R.cmp2 op_leS op_ltS (ev_int) (R.v 4) (R.v 2))))))))))
theorem g__law_is_row (T : TX w K mg a) : FnG PP w K mg base (cl a) (L2.CX PP w) 2 a.a__law_is_row a.d__law_is_row ["thing", "titles", "many"] f__law_is_row := by
  refine okG T.f__law_is_row (N := N__law_is_row) ⟨rfl, rfl, rfl, by decide +kernel, rfl, by decide +kernel, by decide +kernel⟩ fun cdv A outer s H E hr hg => ?_
  have hu := room65 hr
  have nd : N__law_is_row.Nodup := by decide +kernel
  have own : PassesOwn (model PP w) _ _ _ := passes_of (X := cxOf (L2.CX PP w) PP w K mg base N__law_is_row "_law_is_row" (defScope (top 25)) a.a__law_is_row cdv A outer s H E) rfl
  have tk : Takes (cxOf (L2.CX PP w) PP w K mg base N__law_is_row "_law_is_row" (defScope (top 25)) a.a__law_is_row cdv A outer s H E) (fun c d _ H' => E c d H') := takes_of rfl rfl rfl rfl
  have pw := passW1 tk
  exact ss_cons (s_if ((ew_or (et_not (R.tval (R.isi T.clx (isB1 (by decide) T.kb_tuple) (.ty _) (R.bty T.n_tuple boot_tuple) (R.v 0) T.n_isinstance))) (ew_or (R.tcmp (op_neS hu) (R.callB cb_len T.n_len boot_len (R.eA (R.v 0) (R.eA0))) (ev_int)) (ew_or1 (et_not (R.tval (R.isi T.clx (isB1 (by decide) T.kb_bool) (.ty _) (R.bty T.n_bool boot_bool) (R.ix (room1 hr) (R.v 0) (ev_int)) T.n_isinstance)))))).t) (ss_one (s_ret (ev_bl))) (ss_nil))
    (ss_cons (s_if ((ew_or (et_not (R.tval (R.isi T.clx (isB1 (by decide) T.kb_tuple) (.ty _) (R.bty T.n_tuple boot_tuple) (R.ix (room1 hr) (R.v 0) (ev_int)) T.n_isinstance))) (ew_or1 (R.tcmp (op_neN hu) (ev_lc rfl nd (it_val (R.ix (room1 hr) (R.v 0) (ev_int))) (blkOk_by (own := [("step", 4)]) (by kernel_rfl)) (fun _ _ _ _ _ => R.nm 4 nd) (by decide) (fun _ _ _ _ _ => ets_one (et_not (R.tval (R.call T.m__law_is_step T.f__law_is_step.kp (run_g (ps := ["thing", "titles", "many"]) (g__law_is_step T) (hr.mono (by decide)) hg T.b__law_is_step .nil (fun _ _ => .nil) passWF) (R.eA (R.v 4) (R.eA (R.v 1) (R.eA (R.v 2) (R.eA0)))))))) (fun _ _ _ _ _ => R.v 4) (by intro _; rfl)) (ev_lst (R.eA0))))).t) (ss_one (s_ret (ev_bl))) (ss_nil))
    (ss_cons (s_setLc (i := 3) rfl nd rfl rfl (sw_true rfl rfl rfl (by kernel_rfl)) (it_val (R.ix (room1 hr) (R.v 0) (ev_int))) (blkOk_by (own := [("event", 5), ("to", 6)]) (by kernel_rfl)) (fun _ _ _ _ _ => R.gt 2 rfl (R.gc (R.nm 5 nd) (R.gc (R.nm 6 nd) (gs_nil)))) (by decide) (fun _ _ _ _ _ => ets_nil) (fun _ _ _ _ _ => R.v 5) (by intro _; rfl))
    (ss_one (s_ret (R.cmp (op_eqS hu) (R.v 3) (ev_ssetT rfl hu T.n_sorted T.n_set (R.v 3)))))))
theorem g__law_is_right (T : TX w K mg a) : FnG PP w K mg base (cl a) (L2.CX PP w) 3 a.a__law_is_right a.d__law_is_right ["titles", "lists"] f__law_is_right := by
  refine okG T.f__law_is_right (N := N__law_is_right) ⟨rfl, rfl, rfl, by decide +kernel, rfl, by decide +kernel, by decide +kernel⟩ fun cdv A outer s H E hr hg => ?_
  have hu := room65 hr
  have nd : N__law_is_right.Nodup := by decide +kernel
  have own : PassesOwn (model PP w) _ _ _ := passes_of (X := cxOf (L2.CX PP w) PP w K mg base N__law_is_right "_law_is_right" (defScope (top 26)) a.a__law_is_right cdv A outer s H E) rfl
  have tk : Takes (cxOf (L2.CX PP w) PP w K mg base N__law_is_right "_law_is_right" (defScope (top 26)) a.a__law_is_right cdv A outer s H E) (fun c d _ H' => E c d H') := takes_of rfl rfl rfl rfl
  have pw := passW1 tk
  exact ss_cons (s_if ((ew_or (et_not (R.tval (R.isi T.clx (isB1 (by decide) T.kb_tuple) (.ty _) (R.bty T.n_tuple boot_tuple) (R.v 0) T.n_isinstance))) (ew_or1 (et_not (R.tcmp2 op_leS op_leS (ev_int) (R.callB cb_len T.n_len boot_len (R.eA (R.v 0) (R.eA0))) (ev_int))))).t) (ss_one (s_ret (ev_bl))) (ss_nil))
    (ss_cons (s_if ((ew_or (R.tcmp (op_neN hu) (ev_lc rfl nd (it_val (R.v 0)) (blkOk_by (own := [("part", 2)]) (by kernel_rfl)) (fun _ _ _ _ _ => R.nm 2 nd) (by decide) (fun _ _ _ _ _ => ets_one (et_not (R.tval (R.call T.m__law_is_name T.f__law_is_name.kp (run_g (ps := ["thing"]) (g__law_is_name T) (hr.mono (by decide)) hg T.b__law_is_name .nil (fun _ _ => .nil) passWF) (R.eA (R.v 2) (R.eA0)))))) (fun _ _ _ _ _ => R.v 2) (by intro _; rfl)) (ev_lst (R.eA0))) (ew_or1 (R.tcmp (op_neS hu) (R.callT (cb_list rfl) T.n_list boot_list (R.eA (R.v 0) (R.eA0))) (ev_ssetU rfl hu T.n_sorted T.n_set (R.v 0))))).t) (ss_one (s_ret (ev_bl))) (ss_nil))
    (ss_cons (s_if ((ew_or (et_not (R.tval (R.isi T.clx (isB1 (by decide) T.kb_tuple) (.ty _) (R.bty T.n_tuple boot_tuple) (R.v 1) T.n_isinstance))) (ew_or1 (R.tcmp (op_eqN hu) (R.v 1) (ev_tup (R.eA0))))).t) (ss_one (s_ret (ev_bl))) (ss_nil))
    (ss_one (s_ret (R.cmp (op_eqN hu) (ev_lc rfl nd (it_val (R.v 1)) (blkOk_by (own := [("row", 3)]) (by kernel_rfl)) (fun _ _ _ _ _ => R.nm 3 nd) (by decide) (fun _ _ _ _ _ => ets_one (et_not (R.tval (R.call T.m__law_is_row T.f__law_is_row.kp (run_g (ps := ["thing", "titles", "many"]) (g__law_is_row T) (hr.mono (by decide)) hg T.b__law_is_row .nil (fun _ _ => .nil) passWF) (R.eA (R.v 3) (R.eA (R.v 0) (R.eA (R.callB cb_len T.n_len boot_len (R.eA (R.v 1) (R.eA0))) (R.eA0)))))))) (fun _ _ _ _ _ => R.v 3) (by intro _; rfl)) (ev_lst (R.eA0)))))))
theorem g_Machine___eq__ (T : TX w K mg a) : FnG PP w K mg base (cl a) (L2.CX PP w) 1 a.a_Machine___eq__ a.d_Machine___eq__ ["self", "other"] f_Machine___eq__ := by
  refine okG T.f_Machine___eq__ (N := N_Machine___eq__) ⟨rfl, rfl, rfl, by decide +kernel, rfl, by decide +kernel, by decide +kernel⟩ fun cdv A outer s H E hr hg => ?_
  have hu := room65 hr
  have nd : N_Machine___eq__.Nodup := by decide +kernel
  have own : PassesOwn (model PP w) _ _ _ := passes_of (X := cxOf (L2.CX PP w) PP w K mg base N_Machine___eq__ "Machine.__eq__" (defScope (inClass (top 16) 4)) a.a_Machine___eq__ cdv A outer s H E) rfl
  have tk : Takes (cxOf (L2.CX PP w) PP w K mg base N_Machine___eq__ "Machine.__eq__" (defScope (inClass (top 16) 4)) a.a_Machine___eq__ cdv A outer s H E) (fun c d _ H' => E c d H') := takes_of rfl rfl rfl rfl
  have pw := passW1 tk
  exact ss_one (s_ret (ev_and (R.isi T.clx (isC1 T.cl_Machine T.kt_Machine T.ko_Machine) (.own _) (pe_glob (by rfl) T.m_Machine rfl) (R.v 1) T.n_isinstance) (ev_and (R.cmp (op_eqS hu) (R.fld T.cl_Machine T.c_Machine.cl T.na_Machine_m_parts (R.v 0)) (R.fld T.cl_Machine T.c_Machine.cl T.na_Machine_m_parts (R.v 1))) (ev_one (R.cmp (op_eqS hu) (R.fld T.cl_Machine T.c_Machine.cl T.na_Machine_m_rows (R.v 0)) (R.fld T.cl_Machine T.c_Machine.cl T.na_Machine_m_rows (R.v 1)))))))
theorem eqK (T : TX w K mg a) : ∀ c g, eqTbl.lookup c = some g → EqK PP w K mg base (cl a) (L2.CX PP w) eqCs 1 c g := by
  intro c g h
  unfold eqTbl at h
  rw [List.lookup_cons] at h
  split at h
  · rename_i hc
    cases h
    rw [beq_iff_eq.mp hc]
    exact ⟨_, _, _, _, T.cl_Machine, (g_Machine___eq__ T).mono (by decide), rfl, T.b_Machine___eq__, T.e1_Machine, T.e2_Machine, T.e0_Machine, T.c_Machine.hm, T.e3_Machine⟩
  cases h
theorem g_law (T : TX w K mg a) : FnG PP w K mg base (cl a) (L2.CX PP w) 17 a.a_law a.d_law ["script"] f_law := by
  refine okG T.f_law (N := N_law) ⟨rfl, rfl, rfl, by decide +kernel, rfl, by decide +kernel, by decide +kernel⟩ fun cdv A outer s H E hr hg => ?_
  have hu := room65 hr
  have nd : N_law.Nodup := by decide +kernel
  have own : PassesOwn (model PP w) _ _ _ := passes_of (X := cxOf (L2.CX PP w) PP w K mg base N_law "law" (defScope (top 30)) a.a_law cdv A outer s H E) rfl
  have tk : Takes (cxOf (L2.CX PP w) PP w K mg base N_law "law" (defScope (top 30)) a.a_law cdv A outer s H E) (fun c d _ H' => E c d H') := takes_of rfl rfl rfl rfl
  have pw := passW1 tk
  exact ss_cons (R.set 1 nd (R.call T.m__law_begin T.f__law_begin.kp (run_g (ps := ["script"]) (g__law_begin T) (hr.mono (by decide)) hg T.b__law_begin .nil (fun _ _ => .nil) pw) (R.eA (R.v 0) (R.eA0))))
    (ss_cons (R.forr own rfl (it_rng1 (by rfl) T.n_range (R.eA (R.callB (cb_max2 rfl) T.n_max boot_max (R.eA (ev_int) (R.eA (R.callB (cb_min2 rfl) T.n_min boot_min (R.eA (ev_int) (R.eA (R.callB cb_len T.n_len boot_len (R.eA (R.v 0) (R.eA0))) (R.eA0)))) (R.eA0)))) (R.eA0)) (by rfl)) (R.nm 2 nd) (ss_cons (R.asgn (R.call T.m__law_engine T.f__law_engine.kp (run_g (ps := ["draw", "most"]) (g__law_engine T) (hr.mono (by decide)) hg T.b__law_engine .nil (fun _ _ => .nil) pw) (R.eA (R.v 1) (R.eA (ev_int) (R.eA0)))) (R.gt 2 rfl (R.gc (R.nm 3 nd) (R.gc (R.nm 4 nd) (gs_nil)))))
    (ss_cons (R.set 5 nd (R.mkKw T.cl_Machine T.mk_Machine (g_Machine___init__ T) (hr.mono (by decide)) hg T.m_Machine T.kb_Machine_parts_rows pw (ek_cons (R.v 3) (ek_cons (R.v 4) (ek_nil)))))
    (ss_cons (s_if ((ew_or (R.tcmp (op_neI T.clx (eqK T) (hr.mono (by decide)) hg passFX) (ev_prop T.cl_Machine T.c_Machine.cl T.p_Machine_parts (g_Machine_parts T) (hr.mono (by decide)) hg T.b_Machine_parts rfl passFX (R.v 5) (by rfl)) (R.v 3)) (ew_or (R.tcmp (op_neI T.clx (eqK T) (hr.mono (by decide)) hg passFX) (ev_prop T.cl_Machine T.c_Machine.cl T.p_Machine_rows (g_Machine_rows T) (hr.mono (by decide)) hg T.b_Machine_rows rfl passFX (R.v 5) (by rfl)) (R.v 4)) (ew_or1 (R.tcmp (op_neI T.clx (eqK T) (hr.mono (by decide)) hg passFX) (R.callB (cb_lenI T.cl_Machine T.me_Machine___len__.at_ T.me_Machine___len__.fn (g_Machine___len__ T) rfl (hr.mono (by decide)) hg T.b_Machine___len__ passFX) T.n_len boot_len (R.eA (R.v 5) (R.eA0))) (R.callB cb_len T.n_len boot_len (R.eA (R.v 4) (R.eA0))))))).t) (ss_one (s_ret (ev_bl))) (ss_nil))
    (ss_cons (R.forr own rfl (it_rng1 (by rfl) T.n_range (R.eA (ev_int) (R.eA0)) (by rfl)) (R.nm 6 nd) (ss_cons (s_par rfl nd rfl rfl (by decide) rfl rfl (R.eA (R.v 3) (R.eA (R.v 4) (R.eA0))) (by rfl) (by rfl))
    (ss_cons (R.forr own rfl (it_rng1 (by rfl) T.n_range (R.eA (ev_bin op_addS (ev_int) (R.call T.m__law_take T.f__law_take.kp (run_g (ps := ["draw", "size"]) (g__law_take T) (hr.mono (by decide)) hg T.b__law_take .nil (fun _ _ => .nil) pw) (R.eA (R.v 1) (R.eA (ev_int) (R.eA0))))) (R.eA0)) (by rfl)) (R.nm 9 nd) (ss_one (s_if (R.tcmp (op_eqI T.clx (eqK T) (hr.mono (by decide)) hg passFX) (R.call T.m__law_take T.f__law_take.kp (run_g (ps := ["draw", "size"]) (g__law_take T) (hr.mono (by decide)) hg T.b__law_take .nil (fun _ _ => .nil) pw) (R.eA (R.v 1) (R.eA (ev_int) (R.eA0)))) (ev_int)) (ss_one (R.set 7 nd (R.call T.m__law_bent T.f__law_bent.kp (run_g (ps := ["draw", "thing", "titles"]) (g__law_bent T 12) (hr.mono (by decide)) hg T.b__law_bent .nil (fun _ _ => .nil) pw) (R.eA (R.v 1) (R.eA (R.v 7) (R.eA (R.v 3) (R.eA0))))))) (ss_one (R.set 8 nd (R.call T.m__law_bent T.f__law_bent.kp (run_g (ps := ["draw", "thing", "titles"]) (g__law_bent T 12) (hr.mono (by decide)) hg T.b__law_bent .nil (fun _ _ => .nil) pw) (R.eA (R.v 1) (R.eA (R.v 8) (R.eA (R.v 3) (R.eA0))))))))))
    (ss_cons (R.set 10 nd (R.call T.m__law_told T.f__law_told.kp (run_g (ps := ["titles", "lists"]) (g__law_told T) (hr.mono (by decide)) hg T.b__law_told .nil (fun _ _ => .nil) pw) (R.eA (R.v 7) (R.eA (R.v 8) (R.eA0)))))
    (ss_cons (s_if ((ew_or (R.tcmp (op_neI T.clx (eqK T) (hr.mono (by decide)) hg passFX) (R.call T.m__law_is_right T.f__law_is_right.kp (run_g (ps := ["titles", "lists"]) (g__law_is_right T) (hr.mono (by decide)) hg T.b__law_is_right .nil (fun _ _ => .nil) pw) (R.eA (R.v 7) (R.eA (R.v 8) (R.eA0)))) (R.isi T.clx (isC1 T.cl_Machine T.kt_Machine T.ko_Machine) (.own _) (pe_glob (by rfl) T.m_Machine rfl) (R.v 10) T.n_isinstance)) (ew_or1 (R.tcmp op_isB (R.v 10) (ev_bl)))).t) (ss_one (s_ret (ev_bl))) (ss_nil))
    (ss_cons (R.set 11 nd (ev_and (R.cmp (op_eqE hu) (R.v 7) (R.v 3)) (ev_one (R.cmp (op_eqE hu) (R.v 8) (R.v 4)))))
    (ss_one (s_if ((ew_and (R.tval (R.isi T.clx (isC1 T.cl_Machine T.kt_Machine T.ko_Machine) (.own _) (pe_glob (by rfl) T.m_Machine rfl) (R.v 10) T.n_isinstance)) (ew_and1 (R.tcmp (op_neI T.clx (eqK T) (hr.mono (by decide)) hg passFX) (R.cmp (op_eqI T.clx (eqK T) (hr.mono (by decide)) hg passFX) (R.v 10) (R.v 5)) (R.v 11)))).t) (ss_one (s_ret (ev_bl))) (ss_nil)))))))))
    (ss_one (s_if ((ew_or (R.tcmp (op_eqI T.clx (eqK T) (hr.mono (by decide)) hg passFX) (R.v 5) (R.v 4)) (ew_or (R.tcmp (op_eqI T.clx (eqK T) (hr.mono (by decide)) hg passFX) (R.v 5) (ev_tup (R.eA (R.v 3) (R.eA (R.v 4) (R.eA0))))) (ew_or1 (et_not (R.tcmp (op_eqI T.clx (eqK T) (hr.mono (by decide)) hg passFX) (R.v 5) (R.call T.m_Machine T.mk_Machine.kp (run_mk (ps := ["self", "parts", "rows"]) T.cl_Machine T.mk_Machine (g_Machine___init__ T) (hr.mono (by decide)) hg T.b_Machine___init__ pw) (R.eA (R.v 3) (R.eA (R.v 4) (R.eA0))))))))).t) (ss_one (s_ret (ev_bl))) (ss_nil))))))))
    (ss_cons (R.set 12 nd (R.callT (cb_tupleC rfl) T.n_tuple boot_tuple (R.eA (ev_str) (R.eA0))))
    (ss_one (s_ret (ev_and (R.cmp op_isS (R.call T.m__law_told T.f__law_told.kp (run_g (ps := ["titles", "lists"]) (g__law_told T) (hr.mono (by decide)) hg T.b__law_told .nil (fun _ _ => .nil) pw) (R.eA (R.v 12) (R.eA (ev_tup (R.eA (ev_tup (R.eA (ev_bl) (R.eA (ev_tup (R.eA0)) (R.eA0)))) (R.eA0))) (R.eA0)))) (ev_bl)) (ev_one (R.cmp (op_eqI T.clx (eqK T) (hr.mono (by decide)) hg passFX) (R.callB (cb_lenI T.cl_Machine T.me_Machine___len__.at_ T.me_Machine___len__.fn (g_Machine___len__ T) rfl (hr.mono (by decide)) hg T.b_Machine___len__ passFX) T.n_len boot_len (R.eA (R.call T.m_Machine T.mk_Machine.kp (run_mk (ps := ["self", "parts", "rows"]) T.cl_Machine T.mk_Machine (g_Machine___init__ T) (hr.mono (by decide)) hg T.b_Machine___init__ pw) (R.eA (ev_slice (R.v 12) (eo_none) (eo_some (ev_int))) (R.eA (ev_tup (R.eA (ev_tup (R.eA (ev_bl) (R.eA (ev_tup (R.eA0)) (R.eA0)))) (R.eA0))) (R.eA0)))) (R.eA0))) (ev_int))))))))
end
end K20
namespace K20
open PySem PySem.Spec L2 MP
open PyProof.Rows hiding St
theorem clAt_Machine (a : Adr) : cl a "Machine" = some a.C_Machine := by simp (decide := true) [cl]
theorem all_mk {K : PySem.W.Frag} {h : Heap} {mg : Str → Option Value} {fa C_Machine a__law_begin a__law_take a__law_pick a__law_words a__law_engine a_is_name a_are_parts a_is_event_of a_is_index a_is_step a_is_row a_Machine___init__ o_Machine_parts a_Machine_parts o_Machine_rows a_Machine_rows a_Machine___len__ a__law_odd a__law_bent a__law_told a__law_is_name a__law_is_step a__law_is_row a__law_is_right a_Machine___eq__ a_law C_FaultError C_BadMachine : Addr}
    {oc__law_begin kV__law_begin dc__law_begin pm__law_begin cd__law_begin ct__law_begin oc__law_take kV__law_take dc__law_take pm__law_take cd__law_take ct__law_take oc__law_pick kV__law_pick dc__law_pick pm__law_pick cd__law_pick ct__law_pick oc__law_words kV__law_words dc__law_words pm__law_words cd__law_words ct__law_words oc__law_engine kV__law_engine dc__law_engine pm__law_engine cd__law_engine ct__law_engine oc_is_name kV_is_name dc_is_name pm_is_name cd_is_name ct_is_name oc_are_parts kV_are_parts dc_are_parts pm_are_parts cd_are_parts ct_are_parts oc_is_event_of kV_is_event_of dc_is_event_of pm_is_event_of cd_is_event_of ct_is_event_of oc_is_index kV_is_index dc_is_index pm_is_index cd_is_index ct_is_index oc_is_step kV_is_step dc_is_step pm_is_step cd_is_step ct_is_step oc_is_row kV_is_row dc_is_row pm_is_row cd_is_row ct_is_row oc_Machine___init__ kV_Machine___init__ dc_Machine___init__ pm_Machine___init__ cd_Machine___init__ ct_Machine___init__ oc_Machine_parts kV_Machine_parts dc_Machine_parts pm_Machine_parts cd_Machine_parts ct_Machine_parts oc_Machine_rows kV_Machine_rows dc_Machine_rows pm_Machine_rows cd_Machine_rows ct_Machine_rows oc_Machine___len__ kV_Machine___len__ dc_Machine___len__ pm_Machine___len__ cd_Machine___len__ ct_Machine___len__ oc__law_odd kV__law_odd dc__law_odd pm__law_odd cd__law_odd ct__law_odd oc__law_bent kV__law_bent dc__law_bent pm__law_bent cd__law_bent ct__law_bent oc__law_told kV__law_told dc__law_told pm__law_told cd__law_told ct__law_told oc__law_is_name kV__law_is_name dc__law_is_name pm__law_is_name cd__law_is_name ct__law_is_name oc__law_is_step kV__law_is_step dc__law_is_step pm__law_is_step cd__law_is_step ct__law_is_step oc__law_is_row kV__law_is_row dc__law_is_row pm__law_is_row cd__law_is_row ct__law_is_row oc__law_is_right kV__law_is_right dc__law_is_right pm__law_is_right cd__law_is_right ct__law_is_right oc_Machine___eq__ kV_Machine___eq__ dc_Machine___eq__ pm_Machine___eq__ cd_Machine___eq__ ct_Machine___eq__ oc_law kV_law dc_law pm_law cd_law ct_law : Value} {od__law_begin an__law_begin od__law_take an__law_take od__law_pick an__law_pick od__law_words an__law_words od__law_engine an__law_engine od_is_name an_is_name od_are_parts an_are_parts od_is_event_of an_is_event_of od_is_index an_is_index od_is_step an_is_step od_is_row an_is_row od_Machine___init__ an_Machine___init__ od_Machine_parts an_Machine_parts od_Machine_rows an_Machine_rows od_Machine___len__ an_Machine___len__ od__law_odd an__law_odd od__law_bent an__law_bent od__law_told an__law_told od__law_is_name an__law_is_name od__law_is_step an__law_is_step od__law_is_row an__law_is_row od__law_is_right an__law_is_right od_Machine___eq__ an_Machine___eq__ od_law an_law : Option Addr} {sl__law_begin sl__law_take sl__law_pick sl__law_words sl__law_engine sl_is_name sl_are_parts sl_is_event_of sl_is_index sl_is_step sl_is_row sl_Machine___init__ sl_Machine_parts sl_Machine_rows sl_Machine___len__ sl__law_odd sl__law_bent sl__law_told sl__law_is_name sl__law_is_step sl__law_is_row sl__law_is_right sl_Machine___eq__ sl_law : Array (Option Value)} {r_Machine_parts r_Machine_rows : List Value} {t_FAIL t_LETTERS t_MEND t_MOST_LETTERS : Tok}
    (w : World) (X : K.In h) (G : h.Ns mainGlobals mg) (hfa : mg "law" = some (.ref fa))
    (a_Machine : PySem.W.nsIn K mainGlobals "Machine" = some (some (.ref C_Machine)))
    (pg_Machine : PySem.W.plainGet K C_Machine Str.empty = true)
    (hd_Machine : PySem.W.hasDictIn K C_Machine = true)
    (po_Machine : PySem.W.plainOver K C_Machine = true)
    (sa_Machine : PySem.W.findIn K (.ref C_Machine) "__setattr__" = some (some (.builtin "object.__setattr__")))
    (ha_Machine : PySem.W.findIn K (.ref C_Machine) "__class__" = some (some (.builtin "object.__class__")))
    (hn_Machine : PySem.W.specialIn K (.builtin "object.__class__") "__get__" = some (some (.builtin "getset_descriptor.__get__")))
    (ht_Machine : PySem.W.takesIn K (.builtin "object.__class__") = some true)
    (hm_Machine : PySem.W.mroIn K C_Machine (.type "object") = some true)
    (mk_Machine : PySem.W.makesIn K C_Machine = true)
    (kc_Machine : PySem.W.keepIn K (.ref C_Machine) = true)
    (n__law_begin : PySem.W.nsIn K mainGlobals "_law_begin" = some (some (.ref a__law_begin)))
    (l__law_begin : K.lookup a__law_begin = some ⟨oc__law_begin, od__law_begin, .func (PySem.W.fnOf "_law_begin" "_law_begin" (defArgs (top 18)) (defBody (top 18)) (defScope (top 18)) .none kV__law_begin dc__law_begin pm__law_begin an__law_begin cd__law_begin ct__law_begin), sl__law_begin⟩)
    (c__law_begin : PySem.W.codeIn K cd__law_begin "_law_begin" = true)
    (k__law_begin : PySem.W.keepIn K (.ref a__law_begin) = true)
    (n__law_take : PySem.W.nsIn K mainGlobals "_law_take" = some (some (.ref a__law_take)))
    (l__law_take : K.lookup a__law_take = some ⟨oc__law_take, od__law_take, .func (PySem.W.fnOf "_law_take" "_law_take" (defArgs (top 19)) (defBody (top 19)) (defScope (top 19)) .none kV__law_take dc__law_take pm__law_take an__law_take cd__law_take ct__law_take), sl__law_take⟩)
    (c__law_take : PySem.W.codeIn K cd__law_take "_law_take" = true)
    (k__law_take : PySem.W.keepIn K (.ref a__law_take) = true)
    (n__law_pick : PySem.W.nsIn K mainGlobals "_law_pick" = some (some (.ref a__law_pick)))
    (l__law_pick : K.lookup a__law_pick = some ⟨oc__law_pick, od__law_pick, .func (PySem.W.fnOf "_law_pick" "_law_pick" (defArgs (top 20)) (defBody (top 20)) (defScope (top 20)) .none kV__law_pick dc__law_pick pm__law_pick an__law_pick cd__law_pick ct__law_pick), sl__law_pick⟩)
    (c__law_pick : PySem.W.codeIn K cd__law_pick "_law_pick" = true)
    (k__law_pick : PySem.W.keepIn K (.ref a__law_pick) = true)
    (n__law_words : PySem.W.nsIn K mainGlobals "_law_words" = some (some (.ref a__law_words)))
    (l__law_words : K.lookup a__law_words = some ⟨oc__law_words, od__law_words, .func (PySem.W.fnOf "_law_words" "_law_words" (defArgs (top 21)) (defBody (top 21)) (defScope (top 21)) .none kV__law_words dc__law_words pm__law_words an__law_words cd__law_words ct__law_words), sl__law_words⟩)
    (c__law_words : PySem.W.codeIn K cd__law_words "_law_words" = true)
    (k__law_words : PySem.W.keepIn K (.ref a__law_words) = true)
    (n__law_engine : PySem.W.nsIn K mainGlobals "_law_engine" = some (some (.ref a__law_engine)))
    (l__law_engine : K.lookup a__law_engine = some ⟨oc__law_engine, od__law_engine, .func (PySem.W.fnOf "_law_engine" "_law_engine" (defArgs (top 22)) (defBody (top 22)) (defScope (top 22)) .none kV__law_engine dc__law_engine pm__law_engine an__law_engine cd__law_engine ct__law_engine), sl__law_engine⟩)
    (c__law_engine : PySem.W.codeIn K cd__law_engine "_law_engine" = true)
    (k__law_engine : PySem.W.keepIn K (.ref a__law_engine) = true)
    (n_is_name : PySem.W.nsIn K mainGlobals "is_name" = some (some (.ref a_is_name)))
    (l_is_name : K.lookup a_is_name = some ⟨oc_is_name, od_is_name, .func (PySem.W.fnOf "is_name" "is_name" (defArgs (top 7)) (defBody (top 7)) (defScope (top 7)) .none kV_is_name dc_is_name pm_is_name an_is_name cd_is_name ct_is_name), sl_is_name⟩)
    (c_is_name : PySem.W.codeIn K cd_is_name "is_name" = true)
    (k_is_name : PySem.W.keepIn K (.ref a_is_name) = true)
    (n_are_parts : PySem.W.nsIn K mainGlobals "are_parts" = some (some (.ref a_are_parts)))
    (l_are_parts : K.lookup a_are_parts = some ⟨oc_are_parts, od_are_parts, .func (PySem.W.fnOf "are_parts" "are_parts" (defArgs (top 15)) (defBody (top 15)) (defScope (top 15)) .none kV_are_parts dc_are_parts pm_are_parts an_are_parts cd_are_parts ct_are_parts), sl_are_parts⟩)
    (c_are_parts : PySem.W.codeIn K cd_are_parts "are_parts" = true)
    (k_are_parts : PySem.W.keepIn K (.ref a_are_parts) = true)
    (n_is_event_of : PySem.W.nsIn K mainGlobals "is_event_of" = some (some (.ref a_is_event_of)))
    (l_is_event_of : K.lookup a_is_event_of = some ⟨oc_is_event_of, od_is_event_of, .func (PySem.W.fnOf "is_event_of" "is_event_of" (defArgs (top 12)) (defBody (top 12)) (defScope (top 12)) .none kV_is_event_of dc_is_event_of pm_is_event_of an_is_event_of cd_is_event_of ct_is_event_of), sl_is_event_of⟩)
    (c_is_event_of : PySem.W.codeIn K cd_is_event_of "is_event_of" = true)
    (k_is_event_of : PySem.W.keepIn K (.ref a_is_event_of) = true)
    (n_is_index : PySem.W.nsIn K mainGlobals "is_index" = some (some (.ref a_is_index)))
    (l_is_index : K.lookup a_is_index = some ⟨oc_is_index, od_is_index, .func (PySem.W.fnOf "is_index" "is_index" (defArgs (top 11)) (defBody (top 11)) (defScope (top 11)) .none kV_is_index dc_is_index pm_is_index an_is_index cd_is_index ct_is_index), sl_is_index⟩)
    (c_is_index : PySem.W.codeIn K cd_is_index "is_index" = true)
    (k_is_index : PySem.W.keepIn K (.ref a_is_index) = true)
    (n_is_step : PySem.W.nsIn K mainGlobals "is_step" = some (some (.ref a_is_step)))
    (l_is_step : K.lookup a_is_step = some ⟨oc_is_step, od_is_step, .func (PySem.W.fnOf "is_step" "is_step" (defArgs (top 13)) (defBody (top 13)) (defScope (top 13)) .none kV_is_step dc_is_step pm_is_step an_is_step cd_is_step ct_is_step), sl_is_step⟩)
    (c_is_step : PySem.W.codeIn K cd_is_step "is_step" = true)
    (k_is_step : PySem.W.keepIn K (.ref a_is_step) = true)
    (n_is_row : PySem.W.nsIn K mainGlobals "is_row" = some (some (.ref a_is_row)))
    (l_is_row : K.lookup a_is_row = some ⟨oc_is_row, od_is_row, .func (PySem.W.fnOf "is_row" "is_row" (defArgs (top 14)) (defBody (top 14)) (defScope (top 14)) .none kV_is_row dc_is_row pm_is_row an_is_row cd_is_row ct_is_row), sl_is_row⟩)
    (c_is_row : PySem.W.codeIn K cd_is_row "is_row" = true)
    (k_is_row : PySem.W.keepIn K (.ref a_is_row) = true)
    (n_Machine___init__ : PySem.W.findIn K (.ref C_Machine) "__init__" = some (some (.ref a_Machine___init__)))
    (i_Machine___init__ : PySem.W.isFn K (.ref a_Machine___init__) = true)
    (l_Machine___init__ : K.lookup a_Machine___init__ = some ⟨oc_Machine___init__, od_Machine___init__, .func (PySem.W.fnOf "__init__" "Machine.__init__" (defArgs (inClass (top 16) 0)) (defBody (inClass (top 16) 0)) (defScope (inClass (top 16) 0)) .none kV_Machine___init__ dc_Machine___init__ pm_Machine___init__ an_Machine___init__ cd_Machine___init__ ct_Machine___init__), sl_Machine___init__⟩)
    (c_Machine___init__ : PySem.W.codeIn K cd_Machine___init__ "Machine.__init__" = true)
    (k_Machine___init__ : PySem.W.keepIn K (.ref a_Machine___init__) = true)
    (n_Machine_parts : PySem.W.findIn K (.ref C_Machine) "parts" = some (some (.ref o_Machine_parts)))
    (g_Machine_parts : PySem.W.specialIn K (.ref o_Machine_parts) "__get__" = some (some (.builtin "property.__get__")))
    (t_Machine_parts : PySem.W.takesIn K (.ref o_Machine_parts) = some true)
    (p_Machine_parts : PySem.W.recIn K o_Machine_parts "property" = some (.ref a_Machine_parts :: r_Machine_parts))
    (l_Machine_parts : K.lookup a_Machine_parts = some ⟨oc_Machine_parts, od_Machine_parts, .func (PySem.W.fnOf "parts" "Machine.parts" (defArgs (inClass (top 16) 1)) (defBody (inClass (top 16) 1)) (defScope (inClass (top 16) 1)) .none kV_Machine_parts dc_Machine_parts pm_Machine_parts an_Machine_parts cd_Machine_parts ct_Machine_parts), sl_Machine_parts⟩)
    (c_Machine_parts : PySem.W.codeIn K cd_Machine_parts "Machine.parts" = true)
    (k_Machine_parts : PySem.W.keepIn K (.ref a_Machine_parts) = true)
    (n_Machine_rows : PySem.W.findIn K (.ref C_Machine) "rows" = some (some (.ref o_Machine_rows)))
    (g_Machine_rows : PySem.W.specialIn K (.ref o_Machine_rows) "__get__" = some (some (.builtin "property.__get__")))
    (t_Machine_rows : PySem.W.takesIn K (.ref o_Machine_rows) = some true)
    (p_Machine_rows : PySem.W.recIn K o_Machine_rows "property" = some (.ref a_Machine_rows :: r_Machine_rows))
    (l_Machine_rows : K.lookup a_Machine_rows = some ⟨oc_Machine_rows, od_Machine_rows, .func (PySem.W.fnOf "rows" "Machine.rows" (defArgs (inClass (top 16) 2)) (defBody (inClass (top 16) 2)) (defScope (inClass (top 16) 2)) .none kV_Machine_rows dc_Machine_rows pm_Machine_rows an_Machine_rows cd_Machine_rows ct_Machine_rows), sl_Machine_rows⟩)
    (c_Machine_rows : PySem.W.codeIn K cd_Machine_rows "Machine.rows" = true)
    (k_Machine_rows : PySem.W.keepIn K (.ref a_Machine_rows) = true)
    (n_Machine___len__ : PySem.W.findIn K (.ref C_Machine) "__len__" = some (some (.ref a_Machine___len__)))
    (i_Machine___len__ : PySem.W.isFn K (.ref a_Machine___len__) = true)
    (l_Machine___len__ : K.lookup a_Machine___len__ = some ⟨oc_Machine___len__, od_Machine___len__, .func (PySem.W.fnOf "__len__" "Machine.__len__" (defArgs (inClass (top 16) 3)) (defBody (inClass (top 16) 3)) (defScope (inClass (top 16) 3)) .none kV_Machine___len__ dc_Machine___len__ pm_Machine___len__ an_Machine___len__ cd_Machine___len__ ct_Machine___len__), sl_Machine___len__⟩)
    (c_Machine___len__ : PySem.W.codeIn K cd_Machine___len__ "Machine.__len__" = true)
    (k_Machine___len__ : PySem.W.keepIn K (.ref a_Machine___len__) = true)
    (n__law_odd : PySem.W.nsIn K mainGlobals "_law_odd" = some (some (.ref a__law_odd)))
    (l__law_odd : K.lookup a__law_odd = some ⟨oc__law_odd, od__law_odd, .func (PySem.W.fnOf "_law_odd" "_law_odd" (defArgs (top 27)) (defBody (top 27)) (defScope (top 27)) .none kV__law_odd dc__law_odd pm__law_odd an__law_odd cd__law_odd ct__law_odd), sl__law_odd⟩)
    (c__law_odd : PySem.W.codeIn K cd__law_odd "_law_odd" = true)
    (k__law_odd : PySem.W.keepIn K (.ref a__law_odd) = true)
    (n__law_bent : PySem.W.nsIn K mainGlobals "_law_bent" = some (some (.ref a__law_bent)))
    (l__law_bent : K.lookup a__law_bent = some ⟨oc__law_bent, od__law_bent, .func (PySem.W.fnOf "_law_bent" "_law_bent" (defArgs (top 28)) (defBody (top 28)) (defScope (top 28)) .none kV__law_bent dc__law_bent pm__law_bent an__law_bent cd__law_bent ct__law_bent), sl__law_bent⟩)
    (c__law_bent : PySem.W.codeIn K cd__law_bent "_law_bent" = true)
    (k__law_bent : PySem.W.keepIn K (.ref a__law_bent) = true)
    (n__law_told : PySem.W.nsIn K mainGlobals "_law_told" = some (some (.ref a__law_told)))
    (l__law_told : K.lookup a__law_told = some ⟨oc__law_told, od__law_told, .func (PySem.W.fnOf "_law_told" "_law_told" (defArgs (top 29)) (defBody (top 29)) (defScope (top 29)) .none kV__law_told dc__law_told pm__law_told an__law_told cd__law_told ct__law_told), sl__law_told⟩)
    (c__law_told : PySem.W.codeIn K cd__law_told "_law_told" = true)
    (k__law_told : PySem.W.keepIn K (.ref a__law_told) = true)
    (n__law_is_name : PySem.W.nsIn K mainGlobals "_law_is_name" = some (some (.ref a__law_is_name)))
    (l__law_is_name : K.lookup a__law_is_name = some ⟨oc__law_is_name, od__law_is_name, .func (PySem.W.fnOf "_law_is_name" "_law_is_name" (defArgs (top 23)) (defBody (top 23)) (defScope (top 23)) .none kV__law_is_name dc__law_is_name pm__law_is_name an__law_is_name cd__law_is_name ct__law_is_name), sl__law_is_name⟩)
    (c__law_is_name : PySem.W.codeIn K cd__law_is_name "_law_is_name" = true)
    (k__law_is_name : PySem.W.keepIn K (.ref a__law_is_name) = true)
    (n__law_is_step : PySem.W.nsIn K mainGlobals "_law_is_step" = some (some (.ref a__law_is_step)))
    (l__law_is_step : K.lookup a__law_is_step = some ⟨oc__law_is_step, od__law_is_step, .func (PySem.W.fnOf "_law_is_step" "_law_is_step" (defArgs (top 24)) (defBody (top 24)) (defScope (top 24)) .none kV__law_is_step dc__law_is_step pm__law_is_step an__law_is_step cd__law_is_step ct__law_is_step), sl__law_is_step⟩)
    (c__law_is_step : PySem.W.codeIn K cd__law_is_step "_law_is_step" = true)
    (k__law_is_step : PySem.W.keepIn K (.ref a__law_is_step) = true)
    (n__law_is_row : PySem.W.nsIn K mainGlobals "_law_is_row" = some (some (.ref a__law_is_row)))
    (l__law_is_row : K.lookup a__law_is_row = some ⟨oc__law_is_row, od__law_is_row, .func (PySem.W.fnOf "_law_is_row" "_law_is_row" (defArgs (top 25)) (defBody (top 25)) (defScope (top 25)) .none kV__law_is_row dc__law_is_row pm__law_is_row an__law_is_row cd__law_is_row ct__law_is_row), sl__law_is_row⟩)
    (c__law_is_row : PySem.W.codeIn K cd__law_is_row "_law_is_row" = true)
    (k__law_is_row : PySem.W.keepIn K (.ref a__law_is_row) = true)
    (n__law_is_right : PySem.W.nsIn K mainGlobals "_law_is_right" = some (some (.ref a__law_is_right)))
    (l__law_is_right : K.lookup a__law_is_right = some ⟨oc__law_is_right, od__law_is_right, .func (PySem.W.fnOf "_law_is_right" "_law_is_right" (defArgs (top 26)) (defBody (top 26)) (defScope (top 26)) .none kV__law_is_right dc__law_is_right pm__law_is_right an__law_is_right cd__law_is_right ct__law_is_right), sl__law_is_right⟩)
    (c__law_is_right : PySem.W.codeIn K cd__law_is_right "_law_is_right" = true)
    (k__law_is_right : PySem.W.keepIn K (.ref a__law_is_right) = true)
    (n_Machine___eq__ : PySem.W.findIn K (.ref C_Machine) "__eq__" = some (some (.ref a_Machine___eq__)))
    (i_Machine___eq__ : PySem.W.isFn K (.ref a_Machine___eq__) = true)
    (l_Machine___eq__ : K.lookup a_Machine___eq__ = some ⟨oc_Machine___eq__, od_Machine___eq__, .func (PySem.W.fnOf "__eq__" "Machine.__eq__" (defArgs (inClass (top 16) 4)) (defBody (inClass (top 16) 4)) (defScope (inClass (top 16) 4)) .none kV_Machine___eq__ dc_Machine___eq__ pm_Machine___eq__ an_Machine___eq__ cd_Machine___eq__ ct_Machine___eq__), sl_Machine___eq__⟩)
    (c_Machine___eq__ : PySem.W.codeIn K cd_Machine___eq__ "Machine.__eq__" = true)
    (k_Machine___eq__ : PySem.W.keepIn K (.ref a_Machine___eq__) = true)
    (n_law : PySem.W.nsIn K mainGlobals "law" = some (some (.ref a_law)))
    (l_law : K.lookup a_law = some ⟨oc_law, od_law, .func (PySem.W.fnOf "law" "law" (defArgs (top 30)) (defBody (top 30)) (defScope (top 30)) .none kV_law dc_law pm_law an_law cd_law ct_law), sl_law⟩)
    (c_law : PySem.W.codeIn K cd_law "law" = true)
    (k_law : PySem.W.keepIn K (.ref a_law) = true)
    (na_Machine_m_parts : PySem.W.findIn K (.ref C_Machine) "m_parts" = some none)
    (na_Machine_m_rows : PySem.W.findIn K (.ref C_Machine) "m_rows" = some none)
    (v_FAIL : PySem.W.nsIn K mainGlobals "FAIL" = some (some (.str "fail" t_FAIL)))
    (v_LETTERS : PySem.W.nsIn K mainGlobals "LETTERS" = some (some (.str "abcdefghijklmnopqrstuvwxyz" t_LETTERS)))
    (v_MEND : PySem.W.nsIn K mainGlobals "MEND" = some (some (.str "mend" t_MEND)))
    (v_MOST_LETTERS : PySem.W.nsIn K mainGlobals "MOST_LETTERS" = some (some (.int 6 t_MOST_LETTERS)))
    (z_abs : PySem.W.nsIn K mainGlobals "abs" = some none)
    (z_all : PySem.W.nsIn K mainGlobals "all" = some none)
    (z_bool : PySem.W.nsIn K mainGlobals "bool" = some none)
    (z_divmod : PySem.W.nsIn K mainGlobals "divmod" = some none)
    (z_int : PySem.W.nsIn K mainGlobals "int" = some none)
    (z_isinstance : PySem.W.nsIn K mainGlobals "isinstance" = some none)
    (z_len : PySem.W.nsIn K mainGlobals "len" = some none)
    (z_list : PySem.W.nsIn K mainGlobals "list" = some none)
    (z_max : PySem.W.nsIn K mainGlobals "max" = some none)
    (z_min : PySem.W.nsIn K mainGlobals "min" = some none)
    (z_range : PySem.W.nsIn K mainGlobals "range" = some none)
    (z_set : PySem.W.nsIn K mainGlobals "set" = some none)
    (z_sorted : PySem.W.nsIn K mainGlobals "sorted" = some none)
    (z_str : PySem.W.nsIn K mainGlobals "str" = some none)
    (z_tuple : PySem.W.nsIn K mainGlobals "tuple" = some none)
    (kt_Machine_NoneType : PySem.W.kitOne K (.type "NoneType") (.ref C_Machine) = some false)
    (kt_Machine_bool : PySem.W.kitOne K (.type "bool") (.ref C_Machine) = some false)
    (kt_Machine_int : PySem.W.kitOne K (.type "int") (.ref C_Machine) = some false)
    (kt_Machine_str : PySem.W.kitOne K (.type "str") (.ref C_Machine) = some false)
    (kt_Machine_tuple : PySem.W.kitOne K (.type "tuple") (.ref C_Machine) = some false)
    (kt_Machine_list : PySem.W.kitOne K (.type "list") (.ref C_Machine) = some false)
    (kt_Machine_dict : PySem.W.kitOne K (.type "dict") (.ref C_Machine) = some false)
    (kb_bool_Machine : PySem.W.kitOne K (.ref C_Machine) (.type "bool") = some false)
    (kb_int_Machine : PySem.W.kitOne K (.ref C_Machine) (.type "int") = some false)
    (kb_str_Machine : PySem.W.kitOne K (.ref C_Machine) (.type "str") = some false)
    (kb_tuple_Machine : PySem.W.kitOne K (.ref C_Machine) (.type "tuple") = some false)
    (a_FaultError : PySem.W.nsIn K mainGlobals "FaultError" = some (some (.ref C_FaultError)))
    (xb_FaultError : errB K C_FaultError = true)
    (xa_FaultError : PySem.W.findIn K (.ref C_FaultError) "__setattr__" = some (some (.builtin "object.__setattr__")))
    (xe_FaultError : PySem.W.subIn K (.ref C_FaultError) (.type "BaseException") = some true)
    (xt_FaultError : PySem.W.typeIn K (.ref C_FaultError) = some (.type "type"))
    (xk_FaultError : PySem.W.keepIn K (.ref C_FaultError) = true)
    (xm_FaultError : PySem.W.mroIn K C_FaultError (.ref C_FaultError) = some true)
    (yc_FaultError : (PySem.W.clsIn K C_FaultError).isSome = true)
    (yg_FaultError : PySem.W.findIn K (.ref C_FaultError) "__getattribute__" = some (some (.builtin "BaseException.__getattribute__")))
    (yh_FaultError : PySem.W.findIn K (.ref C_FaultError) "__getattr__" = some none)
    (ya_FaultError : PySem.W.findIn K (.ref C_FaultError) "__class__" = some (some (.builtin "object.__class__")))
    (ym_FaultError : PySem.W.mroIn K C_FaultError (.type "object") = some true)
    (xx_FaultError_FaultError : PySem.W.exmOne K (.ref C_FaultError) (.ref C_FaultError) = some true)
    (xo_FaultError : PySem.W.excIn K C_FaultError [.type "ValueError", .type "Exception", .type "BaseException", .type "object"] "ValueError.__new__" = true)
    (a_BadMachine : PySem.W.nsIn K mainGlobals "BadMachine" = some (some (.ref C_BadMachine)))
    (xb_BadMachine : errB K C_BadMachine = true)
    (xa_BadMachine : PySem.W.findIn K (.ref C_BadMachine) "__setattr__" = some (some (.builtin "object.__setattr__")))
    (xe_BadMachine : PySem.W.subIn K (.ref C_BadMachine) (.type "BaseException") = some true)
    (xt_BadMachine : PySem.W.typeIn K (.ref C_BadMachine) = some (.type "type"))
    (xk_BadMachine : PySem.W.keepIn K (.ref C_BadMachine) = true)
    (xm_BadMachine : PySem.W.mroIn K C_BadMachine (.ref C_BadMachine) = some true)
    (yc_BadMachine : (PySem.W.clsIn K C_BadMachine).isSome = true)
    (yg_BadMachine : PySem.W.findIn K (.ref C_BadMachine) "__getattribute__" = some (some (.builtin "BaseException.__getattribute__")))
    (yh_BadMachine : PySem.W.findIn K (.ref C_BadMachine) "__getattr__" = some none)
    (ya_BadMachine : PySem.W.findIn K (.ref C_BadMachine) "__class__" = some (some (.builtin "object.__class__")))
    (ym_BadMachine : PySem.W.mroIn K C_BadMachine (.type "object") = some true)
    (xx_BadMachine_FaultError : PySem.W.exmOne K (.ref C_BadMachine) (.ref C_FaultError) = some true)
    (xo_BadMachine : PySem.W.excIn K C_BadMachine [.type "ValueError", .type "Exception", .type "BaseException", .type "object"] "ValueError.__new__" = true)
    (yn : PySem.W.specialIn K (.builtin "object.__class__") "__get__" = some (some (.builtin "getset_descriptor.__get__")))
    (yt : PySem.W.takesIn K (.builtin "object.__class__") = some true)
    (xk_FaultError_BadMachine : PySem.W.kitOne K (.ref C_FaultError) (.ref C_BadMachine) = some false)
    (xk_BadMachine_BadMachine : PySem.W.kitOne K (.ref C_BadMachine) (.ref C_BadMachine) = some true)
    (e2_Machine : PySem.W.findIn K (.ref C_Machine) "__ne__" = some (some (.builtin "object.__ne__")))
    (e3_Machine_NoneType : PySem.W.notFirst K C_Machine (.type "NoneType") = true)
    (e3_Machine_bool : PySem.W.notFirst K C_Machine (.type "bool") = true)
    (e3_Machine_int : PySem.W.notFirst K C_Machine (.type "int") = true)
    (e3_Machine_str : PySem.W.notFirst K C_Machine (.type "str") = true)
    (e3_Machine_tuple : PySem.W.notFirst K C_Machine (.type "tuple") = true)
    (e3_Machine_list : PySem.W.notFirst K C_Machine (.type "list") = true)
    (e3_Machine_dict : PySem.W.notFirst K C_Machine (.type "dict") = true)
    (e3_Machine_Machine : PySem.W.notFirst K C_Machine (.ref C_Machine) = true)
    : ∃ a : Adr, TX w K mg a ∧ a.a_law = fa ∧ (∀ (t : Shared) (u : Value), BindsTo t a.d_law ⟨[u], []⟩ [("script", u)]) ∧ (a.pre = [] ∧ a.cap = [] ∧ a.co = []) := by
  have e := hfa.symm.trans (PySem.W.mg_of X G n_law)
  have e2 : a_law = fa := by cases e; rfl
  clear e hfa
  subst e2
  refine ⟨⟨a__law_begin, (PySem.W.fnOf "_law_begin" "_law_begin" (defArgs (top 18)) (defBody (top 18)) (defScope (top 18)) .none kV__law_begin dc__law_begin pm__law_begin an__law_begin cd__law_begin ct__law_begin), a__law_take, (PySem.W.fnOf "_law_take" "_law_take" (defArgs (top 19)) (defBody (top 19)) (defScope (top 19)) .none kV__law_take dc__law_take pm__law_take an__law_take cd__law_take ct__law_take), a__law_pick, (PySem.W.fnOf "_law_pick" "_law_pick" (defArgs (top 20)) (defBody (top 20)) (defScope (top 20)) .none kV__law_pick dc__law_pick pm__law_pick an__law_pick cd__law_pick ct__law_pick), a__law_words, (PySem.W.fnOf "_law_words" "_law_words" (defArgs (top 21)) (defBody (top 21)) (defScope (top 21)) .none kV__law_words dc__law_words pm__law_words an__law_words cd__law_words ct__law_words), a__law_engine, (PySem.W.fnOf "_law_engine" "_law_engine" (defArgs (top 22)) (defBody (top 22)) (defScope (top 22)) .none kV__law_engine dc__law_engine pm__law_engine an__law_engine cd__law_engine ct__law_engine), a_is_name, (PySem.W.fnOf "is_name" "is_name" (defArgs (top 7)) (defBody (top 7)) (defScope (top 7)) .none kV_is_name dc_is_name pm_is_name an_is_name cd_is_name ct_is_name), a_are_parts, (PySem.W.fnOf "are_parts" "are_parts" (defArgs (top 15)) (defBody (top 15)) (defScope (top 15)) .none kV_are_parts dc_are_parts pm_are_parts an_are_parts cd_are_parts ct_are_parts), a_is_event_of, (PySem.W.fnOf "is_event_of" "is_event_of" (defArgs (top 12)) (defBody (top 12)) (defScope (top 12)) .none kV_is_event_of dc_is_event_of pm_is_event_of an_is_event_of cd_is_event_of ct_is_event_of), a_is_index, (PySem.W.fnOf "is_index" "is_index" (defArgs (top 11)) (defBody (top 11)) (defScope (top 11)) .none kV_is_index dc_is_index pm_is_index an_is_index cd_is_index ct_is_index), a_is_step, (PySem.W.fnOf "is_step" "is_step" (defArgs (top 13)) (defBody (top 13)) (defScope (top 13)) .none kV_is_step dc_is_step pm_is_step an_is_step cd_is_step ct_is_step), a_is_row, (PySem.W.fnOf "is_row" "is_row" (defArgs (top 14)) (defBody (top 14)) (defScope (top 14)) .none kV_is_row dc_is_row pm_is_row an_is_row cd_is_row ct_is_row), a_Machine___init__, (PySem.W.fnOf "__init__" "Machine.__init__" (defArgs (inClass (top 16) 0)) (defBody (inClass (top 16) 0)) (defScope (inClass (top 16) 0)) .none kV_Machine___init__ dc_Machine___init__ pm_Machine___init__ an_Machine___init__ cd_Machine___init__ ct_Machine___init__), a_Machine_parts, (PySem.W.fnOf "parts" "Machine.parts" (defArgs (inClass (top 16) 1)) (defBody (inClass (top 16) 1)) (defScope (inClass (top 16) 1)) .none kV_Machine_parts dc_Machine_parts pm_Machine_parts an_Machine_parts cd_Machine_parts ct_Machine_parts), a_Machine_rows, (PySem.W.fnOf "rows" "Machine.rows" (defArgs (inClass (top 16) 2)) (defBody (inClass (top 16) 2)) (defScope (inClass (top 16) 2)) .none kV_Machine_rows dc_Machine_rows pm_Machine_rows an_Machine_rows cd_Machine_rows ct_Machine_rows), a_Machine___len__, (PySem.W.fnOf "__len__" "Machine.__len__" (defArgs (inClass (top 16) 3)) (defBody (inClass (top 16) 3)) (defScope (inClass (top 16) 3)) .none kV_Machine___len__ dc_Machine___len__ pm_Machine___len__ an_Machine___len__ cd_Machine___len__ ct_Machine___len__), a__law_odd, (PySem.W.fnOf "_law_odd" "_law_odd" (defArgs (top 27)) (defBody (top 27)) (defScope (top 27)) .none kV__law_odd dc__law_odd pm__law_odd an__law_odd cd__law_odd ct__law_odd), a__law_bent, (PySem.W.fnOf "_law_bent" "_law_bent" (defArgs (top 28)) (defBody (top 28)) (defScope (top 28)) .none kV__law_bent dc__law_bent pm__law_bent an__law_bent cd__law_bent ct__law_bent), a__law_told, (PySem.W.fnOf "_law_told" "_law_told" (defArgs (top 29)) (defBody (top 29)) (defScope (top 29)) .none kV__law_told dc__law_told pm__law_told an__law_told cd__law_told ct__law_told), a__law_is_name, (PySem.W.fnOf "_law_is_name" "_law_is_name" (defArgs (top 23)) (defBody (top 23)) (defScope (top 23)) .none kV__law_is_name dc__law_is_name pm__law_is_name an__law_is_name cd__law_is_name ct__law_is_name), a__law_is_step, (PySem.W.fnOf "_law_is_step" "_law_is_step" (defArgs (top 24)) (defBody (top 24)) (defScope (top 24)) .none kV__law_is_step dc__law_is_step pm__law_is_step an__law_is_step cd__law_is_step ct__law_is_step), a__law_is_row, (PySem.W.fnOf "_law_is_row" "_law_is_row" (defArgs (top 25)) (defBody (top 25)) (defScope (top 25)) .none kV__law_is_row dc__law_is_row pm__law_is_row an__law_is_row cd__law_is_row ct__law_is_row), a__law_is_right, (PySem.W.fnOf "_law_is_right" "_law_is_right" (defArgs (top 26)) (defBody (top 26)) (defScope (top 26)) .none kV__law_is_right dc__law_is_right pm__law_is_right an__law_is_right cd__law_is_right ct__law_is_right), a_Machine___eq__, (PySem.W.fnOf "__eq__" "Machine.__eq__" (defArgs (inClass (top 16) 4)) (defBody (inClass (top 16) 4)) (defScope (inClass (top 16) 4)) .none kV_Machine___eq__ dc_Machine___eq__ pm_Machine___eq__ an_Machine___eq__ cd_Machine___eq__ ct_Machine___eq__), a_law, (PySem.W.fnOf "law" "law" (defArgs (top 30)) (defBody (top 30)) (defScope (top 30)) .none kV_law dc_law pm_law an_law cd_law ct_law), C_Machine, o_Machine_parts, o_Machine_rows, t_FAIL, t_LETTERS, t_MEND, t_MOST_LETTERS, w, C_FaultError, C_BadMachine, [], [], []⟩, ?_, rfl, fun t u => .of_eq rfl, ⟨rfl, rfl, rfl⟩⟩
  have F__law_begin := fun_mk (st := top 18) l__law_begin c__law_begin k__law_begin
  have F__law_take := fun_mk (st := top 19) l__law_take c__law_take k__law_take
  have F__law_pick := fun_mk (st := top 20) l__law_pick c__law_pick k__law_pick
  have F__law_words := fun_mk (st := top 21) l__law_words c__law_words k__law_words
  have F__law_engine := fun_mk (st := top 22) l__law_engine c__law_engine k__law_engine
  have F_is_name := fun_mk (st := top 7) l_is_name c_is_name k_is_name
  have F_are_parts := fun_mk (st := top 15) l_are_parts c_are_parts k_are_parts
  have F_is_event_of := fun_mk (st := top 12) l_is_event_of c_is_event_of k_is_event_of
  have F_is_index := fun_mk (st := top 11) l_is_index c_is_index k_is_index
  have F_is_step := fun_mk (st := top 13) l_is_step c_is_step k_is_step
  have F_is_row := fun_mk (st := top 14) l_is_row c_is_row k_is_row
  have F_Machine___init__ := fun_mk (st := inClass (top 16) 0) l_Machine___init__ c_Machine___init__ k_Machine___init__
  have F_Machine_parts := fun_mk (st := inClass (top 16) 1) l_Machine_parts c_Machine_parts k_Machine_parts
  have F_Machine_rows := fun_mk (st := inClass (top 16) 2) l_Machine_rows c_Machine_rows k_Machine_rows
  have F_Machine___len__ := fun_mk (st := inClass (top 16) 3) l_Machine___len__ c_Machine___len__ k_Machine___len__
  have F__law_odd := fun_mk (st := top 27) l__law_odd c__law_odd k__law_odd
  have F__law_bent := fun_mk (st := top 28) l__law_bent c__law_bent k__law_bent
  have F__law_told := fun_mk (st := top 29) l__law_told c__law_told k__law_told
  have F__law_is_name := fun_mk (st := top 23) l__law_is_name c__law_is_name k__law_is_name
  have F__law_is_step := fun_mk (st := top 24) l__law_is_step c__law_is_step k__law_is_step
  have F__law_is_row := fun_mk (st := top 25) l__law_is_row c__law_is_row k__law_is_row
  have F__law_is_right := fun_mk (st := top 26) l__law_is_right c__law_is_right k__law_is_right
  have F_Machine___eq__ := fun_mk (st := inClass (top 16) 4) l_Machine___eq__ c_Machine___eq__ k_Machine___eq__
  have F_law := fun_mk (st := top 30) l_law c_law k_law
  exact {
    f__law_begin := F__law_begin
    b__law_begin := F__law_begin.binds (ps := ["script"]) fun _ _ _ _ _ _ us hl => match us, hl with | [_], _ => rfl
    m__law_begin := PySem.W.mg_of X G n__law_begin
    f__law_take := F__law_take
    b__law_take := F__law_take.binds (ps := ["draw", "size"]) fun _ _ _ _ _ _ us hl => match us, hl with | [_, _], _ => rfl
    m__law_take := PySem.W.mg_of X G n__law_take
    f__law_pick := F__law_pick
    b__law_pick := F__law_pick.binds (ps := ["draw", "some"]) fun _ _ _ _ _ _ us hl => match us, hl with | [_, _], _ => rfl
    m__law_pick := PySem.W.mg_of X G n__law_pick
    f__law_words := F__law_words
    b__law_words := F__law_words.binds (ps := ["draw", "many"]) fun _ _ _ _ _ _ us hl => match us, hl with | [_, _], _ => rfl
    m__law_words := PySem.W.mg_of X G n__law_words
    f__law_engine := F__law_engine
    b__law_engine := F__law_engine.binds (ps := ["draw", "most"]) fun _ _ _ _ _ _ us hl => match us, hl with | [_, _], _ => rfl
    m__law_engine := PySem.W.mg_of X G n__law_engine
    f_is_name := F_is_name
    b_is_name := F_is_name.binds (ps := ["value"]) fun _ _ _ _ _ _ us hl => match us, hl with | [_], _ => rfl
    m_is_name := PySem.W.mg_of X G n_is_name
    f_are_parts := F_are_parts
    b_are_parts := F_are_parts.binds (ps := ["value"]) fun _ _ _ _ _ _ us hl => match us, hl with | [_], _ => rfl
    m_are_parts := PySem.W.mg_of X G n_are_parts
    f_is_event_of := F_is_event_of
    b_is_event_of := F_is_event_of.binds (ps := ["value", "parts"]) fun _ _ _ _ _ _ us hl => match us, hl with | [_, _], _ => rfl
    m_is_event_of := PySem.W.mg_of X G n_is_event_of
    f_is_index := F_is_index
    b_is_index := F_is_index.binds (ps := ["value", "many"]) fun _ _ _ _ _ _ us hl => match us, hl with | [_, _], _ => rfl
    m_is_index := PySem.W.mg_of X G n_is_index
    f_is_step := F_is_step
    b_is_step := F_is_step.binds (ps := ["value", "parts", "many"]) fun _ _ _ _ _ _ us hl => match us, hl with | [_, _, _], _ => rfl
    m_is_step := PySem.W.mg_of X G n_is_step
    f_is_row := F_is_row
    b_is_row := F_is_row.binds (ps := ["value", "parts", "many"]) fun _ _ _ _ _ _ us hl => match us, hl with | [_, _, _], _ => rfl
    m_is_row := PySem.W.mg_of X G n_is_row
    f_Machine___init__ := F_Machine___init__
    b_Machine___init__ := F_Machine___init__.binds (ps := ["self", "parts", "rows"]) fun _ _ _ _ _ _ us hl => match us, hl with | [_, _, _], _ => rfl
    f_Machine_parts := F_Machine_parts
    b_Machine_parts := F_Machine_parts.binds (ps := ["self"]) fun _ _ _ _ _ _ us hl => match us, hl with | [_], _ => rfl
    f_Machine_rows := F_Machine_rows
    b_Machine_rows := F_Machine_rows.binds (ps := ["self"]) fun _ _ _ _ _ _ us hl => match us, hl with | [_], _ => rfl
    f_Machine___len__ := F_Machine___len__
    b_Machine___len__ := F_Machine___len__.binds (ps := ["self"]) fun _ _ _ _ _ _ us hl => match us, hl with | [_], _ => rfl
    f__law_odd := F__law_odd
    b__law_odd := F__law_odd.binds (ps := ["draw", "titles"]) fun _ _ _ _ _ _ us hl => match us, hl with | [_, _], _ => rfl
    m__law_odd := PySem.W.mg_of X G n__law_odd
    f__law_bent := F__law_bent
    b__law_bent := F__law_bent.binds (ps := ["draw", "thing", "titles"]) fun _ _ _ _ _ _ us hl => match us, hl with | [_, _, _], _ => rfl
    m__law_bent := PySem.W.mg_of X G n__law_bent
    f__law_told := F__law_told
    b__law_told := F__law_told.binds (ps := ["titles", "lists"]) fun _ _ _ _ _ _ us hl => match us, hl with | [_, _], _ => rfl
    m__law_told := PySem.W.mg_of X G n__law_told
    f__law_is_name := F__law_is_name
    b__law_is_name := F__law_is_name.binds (ps := ["thing"]) fun _ _ _ _ _ _ us hl => match us, hl with | [_], _ => rfl
    m__law_is_name := PySem.W.mg_of X G n__law_is_name
    f__law_is_step := F__law_is_step
    b__law_is_step := F__law_is_step.binds (ps := ["thing", "titles", "many"]) fun _ _ _ _ _ _ us hl => match us, hl with | [_, _, _], _ => rfl
    m__law_is_step := PySem.W.mg_of X G n__law_is_step
    f__law_is_row := F__law_is_row
    b__law_is_row := F__law_is_row.binds (ps := ["thing", "titles", "many"]) fun _ _ _ _ _ _ us hl => match us, hl with | [_, _, _], _ => rfl
    m__law_is_row := PySem.W.mg_of X G n__law_is_row
    f__law_is_right := F__law_is_right
    b__law_is_right := F__law_is_right.binds (ps := ["titles", "lists"]) fun _ _ _ _ _ _ us hl => match us, hl with | [_, _], _ => rfl
    m__law_is_right := PySem.W.mg_of X G n__law_is_right
    f_Machine___eq__ := F_Machine___eq__
    b_Machine___eq__ := F_Machine___eq__.binds (ps := ["self", "other"]) fun _ _ _ _ _ _ us hl => match us, hl with | [_, _], _ => rfl
    f_law := F_law
    b_law := F_law.binds (ps := ["script"]) fun _ _ _ _ _ _ us hl => match us, hl with | [_], _ => rfl
    m_law := PySem.W.mg_of X G n_law
    m_Machine := PySem.W.mg_of X G a_Machine
    c_Machine := ⟨⟨pg_Machine, hd_Machine, po_Machine, sa_Machine⟩, ha_Machine, hn_Machine, ht_Machine, hm_Machine⟩
    mk_Machine := ⟨mk_Machine, n_Machine___init__, i_Machine___init__, kc_Machine⟩
    me_Machine___len__ := ⟨n_Machine___len__, i_Machine___len__, k_Machine___len__⟩
    p_Machine_parts := ⟨n_Machine_parts, g_Machine_parts, t_Machine_parts, _, p_Machine_parts⟩
    p_Machine_rows := ⟨n_Machine_rows, g_Machine_rows, t_Machine_rows, _, p_Machine_rows⟩
    na_Machine_m_parts := na_Machine_m_parts
    na_Machine_m_rows := na_Machine_m_rows
    g_FAIL := PySem.W.mg_of X G v_FAIL
    g_LETTERS := PySem.W.mg_of X G v_LETTERS
    g_MEND := PySem.W.mg_of X G v_MEND
    g_MOST_LETTERS := PySem.W.mg_of X G v_MOST_LETTERS
    n_abs := PySem.W.mg_none_of X G z_abs
    n_all := PySem.W.mg_none_of X G z_all
    n_bool := PySem.W.mg_none_of X G z_bool
    n_divmod := PySem.W.mg_none_of X G z_divmod
    n_int := PySem.W.mg_none_of X G z_int
    n_isinstance := PySem.W.mg_none_of X G z_isinstance
    n_len := PySem.W.mg_none_of X G z_len
    n_list := PySem.W.mg_none_of X G z_list
    n_max := PySem.W.mg_none_of X G z_max
    n_min := PySem.W.mg_none_of X G z_min
    n_range := PySem.W.mg_none_of X G z_range
    n_set := PySem.W.mg_none_of X G z_set
    n_sorted := PySem.W.mg_none_of X G z_sorted
    n_str := PySem.W.mg_none_of X G z_str
    n_tuple := PySem.W.mg_none_of X G z_tuple
    kt_Machine := by
      intro n hn
      simp only [btys, List.mem_cons, List.not_mem_nil, or_false] at hn
      rcases hn with rfl | rfl | rfl | rfl | rfl | rfl | rfl
      · exact kt_Machine_NoneType
      · exact kt_Machine_bool
      · exact kt_Machine_int
      · exact kt_Machine_str
      · exact kt_Machine_tuple
      · exact kt_Machine_list
      · exact kt_Machine_dict
    ko_Machine := by
      intro c hc hne C hC
      simp only [clss, List.mem_cons, List.not_mem_nil, or_false] at hc
      subst hc
      · exact absurd rfl hne
    kb_bool := by
      intro c hc C hC
      simp only [clss, List.mem_cons, List.not_mem_nil, or_false] at hc
      subst hc
      · have e := (clAt_Machine _).symm.trans hC; cases e; exact kb_bool_Machine
    kb_int := by
      intro c hc C hC
      simp only [clss, List.mem_cons, List.not_mem_nil, or_false] at hc
      subst hc
      · have e := (clAt_Machine _).symm.trans hC; cases e; exact kb_int_Machine
    kb_str := by
      intro c hc C hC
      simp only [clss, List.mem_cons, List.not_mem_nil, or_false] at hc
      subst hc
      · have e := (clAt_Machine _).symm.trans hC; cases e; exact kb_str_Machine
    kb_tuple := by
      intro c hc C hC
      simp only [clss, List.mem_cons, List.not_mem_nil, or_false] at hc
      subst hc
      · have e := (clAt_Machine _).symm.trans hC; cases e; exact kb_tuple_Machine
    kb_Machine_parts_rows := fun s self ws _ hl => match ws, hl with | [_, _], _ => .of_eq rfl
    e0_Machine := i_Machine___eq__
    e1_Machine := n_Machine___eq__
    e2_Machine := e2_Machine
    e3_Machine := by
      intro kd t hok hk
      cases hk with
      | t n =>
        have hn : n ∈ btys := of_decide_eq_true hok
        simp only [btys, List.mem_cons, List.not_mem_nil, or_false] at hn
        rcases hn with rfl | rfl | rfl | rfl | rfl | rfl | rfl
        · exact e3_Machine_NoneType
        · exact e3_Machine_bool
        · exact e3_Machine_int
        · exact e3_Machine_str
        · exact e3_Machine_tuple
        · exact e3_Machine_list
        · exact e3_Machine_dict
      | @c cc C hC =>
        have hc : cc ∈ clss := of_decide_eq_true hok
        simp only [clss, List.mem_cons, List.not_mem_nil, or_false] at hc
        subst hc
        · have e := (clAt_Machine _).symm.trans hC; cases e; exact e3_Machine_Machine
    m_FaultError := PySem.W.mg_of X G a_FaultError
    ec_FaultError := errC_mk xb_FaultError xa_FaultError xe_FaultError xt_FaultError xk_FaultError xm_FaultError
    ex_FaultError := xo_FaultError
    m_BadMachine := PySem.W.mg_of X G a_BadMachine
    ec_BadMachine := errC_mk xb_BadMachine xa_BadMachine xe_BadMachine xt_BadMachine xk_BadMachine xm_BadMachine
    ex_BadMachine := xo_BadMachine
    xs_FaultError := fun c E => er_cases _ (fun e E => PySem.W.exmOne K (.ref E) (.ref C_FaultError) = some (sub_FaultError e)) (xx_FaultError_FaultError) (xx_BadMachine_FaultError) c E
    xi := fun c E => er_cases _ (fun _ E => XiC K E) (⟨yc_FaultError, yg_FaultError, yh_FaultError, xe_FaultError, ya_FaultError, yn, yt, ym_FaultError⟩) (⟨yc_BadMachine, yg_BadMachine, yh_BadMachine, xe_BadMachine, ya_BadMachine, yn, yt, ym_BadMachine⟩) c E
    ie_BadMachine := fun c E b h => er_cases _ (fun c E => ∀ b, isx_BadMachine c = some b → PySem.W.kitOne K (.ref E) (.ref C_BadMachine) = some b) (ie1 (b := false) rfl xk_FaultError_BadMachine) (ie1 (b := true) rfl xk_BadMachine_BadMachine) c E h b
    wh := rfl
  }
end K20
/-! J02 -/
set_option Elab.async false
set_option autoImplicit false
set_option linter.all false
set_option maxRecDepth 100000
set_option maxHeartbeats 1000000
namespace K20
open PySem PySem.Spec MP
open L2 hiding prD

def dkv (q r : Nat) (rest turn mix : Int) : List (D × D) := [(.str "large", .ptr q), (.str "cells", .ptr r), (.str "rest", .int rest), (.str "turn", .int turn), (.str "mix", .int mix)]
section
variable {q r : Nat} {rest turn mix x : Int}
theorem dg1 : dget (dkv q r rest turn mix) (.str "large") = some (.ptr q) := rfl
theorem dg2 : dget (dkv q r rest turn mix) (.str "cells") = some (.ptr r) := rfl
theorem dg3 : dget (dkv q r rest turn mix) (.str "rest") = some (.int rest) := rfl
theorem dg4 : dget (dkv q r rest turn mix) (.str "turn") = some (.int turn) := rfl
theorem dg5 : dget (dkv q r rest turn mix) (.str "mix") = some (.int mix) := rfl
theorem dp3 : dput (dkv q r rest turn mix) (.str "rest") (.int x) = dkv q r x turn mix := rfl
theorem dp4 : dput (dkv q r rest turn mix) (.str "turn") (.int x) = dkv q r rest x mix := rfl
theorem dp5 : dput (dkv q r rest turn mix) (.str "mix") (.int x) = dkv q r rest turn x := rfl
theorem dl : (dkv q r rest turn mix).length < sizeLine := by simp only [dkv, List.length]; decide
end
structure Draw (p q r : Nat) (S : Sto) : Prop where
  pq : p ≠ q
  pr : p ≠ r
  qr : q ≠ r
  ex : ∃ (xs cs : List Int) (rest turn mix : Int), S[p]? = some (.dct (dkv q r rest turn mix)) ∧ S[q]? = some (.lst (xs.map .int)) ∧ S[r]? = some (.lst (cs.map .int)) ∧ xs.length ≤ 63 ∧ cs.length ≤ 63 ∧ 0 ≤ mix ∧ mix < 2147483629
theorem Draw.ext {p q r : Nat} {S S' : Sto} (h : Draw p q r S) (e : Ext [] S S') : Draw p q r S' := by
  obtain ⟨pq, pr, qr, xs, cs, rest, turn, mix, h1, h2, h3, h4⟩ := h
  exact ⟨pq, pr, qr, xs, cs, rest, turn, mix, e.get _ _ h1 (by simp), e.get _ _ h2 (by simp), e.get _ _ h3 (by simp), h4⟩
theorem ok_large : okS "large" := by decide +kernel
theorem ok_cells : okS "cells" := by decide +kernel
theorem ok_rest : okS "rest" := by decide +kernel
theorem ok_turn : okS "turn" := by decide +kernel
theorem ok_mix : okS "mix" := by decide +kernel
theorem pls_ints (xs : List Int) : Pls (xs.map .int) := pls_map fun x _ => ⟨by simp [D.pl], by simp [D.dp]⟩
theorem take_ok {p q r : Nat} {S : Sto} {size : Int} (h : Draw p q r S) (h0 : 0 < size) (h1 : size < 1073741824) :
    Wp (f__law_take [.ptr p, .int size] S) fun d S' => ∃ i : Int, d = .int i ∧ 0 ≤ i ∧ i < size ∧ Draw p q r S' ∧ Ext [p, q] S S' := by
  unfold f__law_take
  rw [wp_callS]
  simp only [List.map, List.length, List.replicate, List.cons_append, List.nil_append, N__law_take]
  refine ws_cut (fun ρ1 S1 => ρ1 = [some (.ptr p), some (.int size), ρ1[2]?.join, none] ∧ Draw p q r S1 ∧ Ext [p, q] S S1) ?_ ?_
  · obtain ⟨pq, pr, qr, xs, cs, rest, turn, mix, e1, e2, e3, l1, l2, m1, m2⟩ := h
    simp only [wp_ok, wp_bind, wp_noX, wp_mC, wp_mStr, wp_mTru, wp_mBl, wp_blOf, wp_tru_bl, wp_mBin, wp_mUn, wp_mIf, wp_mNotT, wp_mAndT, wp_mOrT, wp_mAndV, wp_mOrV, wp_mNotV, wp_mChain, wp_mChainT, wp_mNil, wp_mCons, wp_mDisp, wp_tupD, wp_lstD, wp_mSl, wp_mNoPart, wp_mPart, wp_intOf, wp_mBm, wp_mMeth, wp_dflS, wp_mIt, wp_mItA, wp_mDict, wp_mpNil, wp_mpCons, wp_mNext, wp_mYes, wp_mLc, ws_mNx, ws_mBrk, ws_mCnt, ws_mRetN, ws_mSeq, ws_mDrop, ws_mRet, ws_mIfS, ws_mAsg, wp_gNm, wp_gsNil, wp_gsCons, wp_gTp, wp_gSubS, ws_mSetI, ws_mSetF, put_some, wp_callS, ws_mFor, ws_nx, ws_ret, wp_mVar0, ok_rest, ok_large, ix_dct e1 dg3, ix_dct e1 dg1, eqs_int, true_and]
    by_cases hz : rest = 0
    · simp only [hz, decide_true, if_true]
      have f1 : (S ++ [O.lst []])[p]? = some (.dct (dkv q r rest turn mix)) := get_old e1
      have f2 : (S ++ [O.lst []])[q]? = some (.lst (xs.map .int)) := get_old e2
      have f3 : (S ++ [O.lst []])[r]? = some (.lst (cs.map .int)) := get_old e3
      rw [neS_lst (S := S ++ [O.lst []]) (n := q) (m := S.length) (ds := xs.map .int) (es := []) (pls_ints xs) (pls_of (by simp)) f2 get_push]
      have hsz : ([] : List D).length ≤ sizeLine := Nat.zero_le _
      simp only [hsz, true_and]
      have x0 : Ext [p, q] S (S ++ [O.lst []]) := Ext.push _
      revert f1 f2 f3 x0
      generalize S ++ [O.lst []] = T
      intro f1 f2 f3 x0
      simp only [wp_ok, wp_bind, wp_noX, wp_mC, wp_mStr, wp_mTru, wp_mBl, wp_blOf, wp_tru_bl, wp_mBin, wp_mUn, wp_mIf, wp_mNotT, wp_mAndT, wp_mOrT, wp_mAndV, wp_mOrV, wp_mNotV, wp_mChain, wp_mChainT, wp_mNil, wp_mCons, wp_mDisp, wp_tupD, wp_lstD, wp_mSl, wp_mNoPart, wp_mPart, wp_intOf, wp_mBm, wp_mMeth, wp_dflS, wp_mIt, wp_mItA, wp_mDict, wp_mpNil, wp_mpCons, wp_mNext, wp_mYes, wp_mLc, ws_mNx, ws_mBrk, ws_mCnt, ws_mRetN, ws_mSeq, ws_mDrop, ws_mRet, ws_mIfS, ws_mAsg, wp_gNm, wp_gsNil, wp_gsCons, wp_gTp, wp_gSubS, ws_mSetI, ws_mSetF, put_some, wp_callS, ws_mFor, ws_nx, ws_ret]
      cases xs with
      | nil =>
        simp only [List.map_nil, decide_true, Bool.not_true, Bool.false_eq_true, if_false, wp_ok, wp_bind, wp_noX, wp_mC, wp_mStr, wp_mTru, wp_mBl, wp_blOf, wp_tru_bl, wp_mBin, wp_mUn, wp_mIf, wp_mNotT, wp_mAndT, wp_mOrT, wp_mAndV, wp_mOrV, wp_mNotV, wp_mChain, wp_mChainT, wp_mNil, wp_mCons, wp_mDisp, wp_tupD, wp_lstD, wp_mSl, wp_mNoPart, wp_mPart, wp_intOf, wp_mBm, wp_mMeth, wp_dflS, wp_mIt, wp_mItA, wp_mDict, wp_mpNil, wp_mpCons, wp_mNext, wp_mYes, wp_mLc, ws_mNx, ws_mBrk, ws_mCnt, ws_mRetN, ws_mSeq, ws_mDrop, ws_mRet, ws_mIfS, ws_mAsg, wp_gNm, wp_gsNil, wp_gsCons, wp_gTp, wp_gSubS, ws_mSetI, ws_mSetF, put_some, wp_callS, ws_mFor, ws_nx, ws_ret, wp_mVar0, ok_rest, ok_turn, ok_mix, ok_cells, ix_dct f1 dg3, eqs_int, hz, if_true, true_and, ix_dct f1 dg4, adds_int, set_dct f1 dl, dp4]
        have g1 : (T.set p (.dct (dkv q r rest (turn + 1) mix)))[p]? = some (.dct (dkv q r rest (turn + 1) mix)) := get_set f1
        have g2 : (T.set p (.dct (dkv q r rest (turn + 1) mix)))[q]? = some (.lst []) := get_setne f2 pq
        have g3 : (T.set p (.dct (dkv q r rest (turn + 1) mix)))[r]? = some (.lst (cs.map .int)) := get_setne f3 pr
        have x1 : Ext [p, q] S (T.set p (.dct (dkv q r rest (turn + 1) mix))) := x0.trans (Ext.set (by simp))
        revert g1 g2 g3 x1
        simp only [hz]
        generalize T.set p (.dct (dkv q r 0 (turn + 1) mix)) = T1
        intro g1 g2 g3 x1
        rw [ix_dct g1 dg4]
        have h1 : (T1 ++ [O.lst [D.int (turn + 1)]])[p]? = some (.dct (dkv q r 0 (turn + 1) mix)) := get_old g1
        have h2 : (T1 ++ [O.lst [D.int (turn + 1)]])[q]? = some (.lst []) := get_old g2
        have h3 : (T1 ++ [O.lst [D.int (turn + 1)]])[r]? = some (.lst (cs.map .int)) := get_old g3
        have h4 : (T1 ++ [O.lst [D.int (turn + 1)]])[T1.length]? = some (.lst [D.int (turn + 1)]) := get_push
        have x2 : Ext [p, q] S (T1 ++ [O.lst [D.int (turn + 1)]]) := x1.trans (Ext.push _)
        refine ⟨by simp [sizeLine], ?_⟩
        revert h1 h2 h3 h4 x2
        generalize T1 ++ [O.lst [D.int (turn + 1)]] = T2
        intro h1 h2 h3 h4 x2
        have hl : [D.int (turn + 1)].length + (cs.map D.int).length ≤ sizeLine := by
          simp only [List.length_cons, List.length_nil, List.length_map, sizeLine]; omega
        simp only [ix_dct h1 dg2, addS, h3, h4, hl, if_true, newL, wp_ok, wp_bind, wp_noX, wp_mC, wp_mStr, wp_mTru, wp_mBl, wp_blOf, wp_tru_bl, wp_mBin, wp_mUn, wp_mIf, wp_mNotT, wp_mAndT, wp_mOrT, wp_mAndV, wp_mOrV, wp_mNotV, wp_mChain, wp_mChainT, wp_mNil, wp_mCons, wp_mDisp, wp_tupD, wp_lstD, wp_mSl, wp_mNoPart, wp_mPart, wp_intOf, wp_mBm, wp_mMeth, wp_dflS, wp_mIt, wp_mItA, wp_mDict, wp_mpNil, wp_mpCons, wp_mNext, wp_mYes, wp_mLc, ws_mNx, ws_mBrk, ws_mCnt, ws_mRetN, ws_mSeq, ws_mDrop, ws_mRet, ws_mIfS, ws_mAsg, wp_gNm, wp_gsNil, wp_gsCons, wp_gTp, wp_gSubS, ws_mSetI, ws_mSetF, put_some, wp_callS, ws_mFor, ws_nx, ws_ret]
        have i1 : (T2 ++ [O.lst ([D.int (turn + 1)] ++ cs.map D.int)])[p]? = some (.dct (dkv q r 0 (turn + 1) mix)) := get_old h1
        have i2 : (T2 ++ [O.lst ([D.int (turn + 1)] ++ cs.map D.int)])[q]? = some (.lst []) := get_old h2
        have i3 : (T2 ++ [O.lst ([D.int (turn + 1)] ++ cs.map D.int)])[r]? = some (.lst (cs.map .int)) := get_old h3
        have i4 : (T2 ++ [O.lst ([D.int (turn + 1)] ++ cs.map D.int)])[T2.length]? = some (.lst ([D.int (turn + 1)] ++ cs.map D.int)) := get_push
        have x3 : Ext [p, q] S (T2 ++ [O.lst ([D.int (turn + 1)] ++ cs.map D.int)]) := x2.trans (Ext.push _)
        have hpn : p ≠ T2.length := by have := lt_of_get h1; omega
        revert i1 i2 i3 i4 x3
        generalize T2 ++ [O.lst ([D.int (turn + 1)] ++ cs.map D.int)] = T3
        intro i1 i2 i3 i4 x3
        simp only [iterS, listAt, i4, wp_ok, srcL]
        refine ws_forL (I := fun ds ρ1 S1 => ∃ (js : List Int) (mx : Int) (o : Option D), ds = js.map D.int ∧ ρ1 = [some (.ptr p), some (.int size), o, none] ∧ S1[p]? = some (.dct (dkv q r 0 (turn + 1) mx)) ∧ S1[q]? = some (.lst []) ∧ S1[r]? = some (.lst (cs.map .int)) ∧ S1[T2.length]? = some (.lst ([D.int (turn + 1)] ++ cs.map D.int)) ∧ 0 ≤ mx ∧ mx < 2147483629 ∧ Ext [p, q] S S1) ?_ ?_ _ _ _ ⟨(turn + 1) :: cs, mix, none, rfl, rfl, i1, i2, i3, i4, m1, m2, x3⟩
        · rintro d ds ρ1 S1 ⟨js, mx, o, e, rfl, j1, j2, j3, j4, n1, n2, x4⟩
          cases js with
          | nil => simp at e
          | cons j js =>
            simp only [List.map_cons, List.cons.injEq] at e
            obtain ⟨rfl, rfl⟩ := e
            have hm : (-(2 ^ 64) < mx ∧ mx < 2 ^ 64) ∨ (-(2 ^ 64) < (69621 : Int) ∧ (69621 : Int) < 2 ^ 64) := .inr (by decide)
            have hj : (-(2 ^ 64) < j ∧ j < 2 ^ 64) ∨ (-(2 ^ 64) < (48271 : Int) ∧ (48271 : Int) < 2 ^ 64) := .inr (by decide)
            have hmod : (0 : Int) < 2147483629 := by decide
            refine ⟨by simp [listAt, j4], ?_⟩
            simp only [wp_ok, wp_bind, wp_noX, wp_mC, wp_mStr, wp_mTru, wp_mBl, wp_blOf, wp_tru_bl, wp_mBin, wp_mUn, wp_mIf, wp_mNotT, wp_mAndT, wp_mOrT, wp_mAndV, wp_mOrV, wp_mNotV, wp_mChain, wp_mChainT, wp_mNil, wp_mCons, wp_mDisp, wp_tupD, wp_lstD, wp_mSl, wp_mNoPart, wp_mPart, wp_intOf, wp_mBm, wp_mMeth, wp_dflS, wp_mIt, wp_mItA, wp_mDict, wp_mpNil, wp_mpCons, wp_mNext, wp_mYes, wp_mLc, ws_mNx, ws_mBrk, ws_mCnt, ws_mRetN, ws_mSeq, ws_mDrop, ws_mRet, ws_mIfS, ws_mAsg, wp_gNm, wp_gsNil, wp_gsCons, wp_gTp, wp_gSubS, ws_mSetI, ws_mSetF, put_some, wp_callS, ws_mFor, ws_nx, ws_ret, List.set, wp_mVar0, wp_mVarS, ok_mix, ix_dct j1 dg5, true_and, mulS, hm, hj, if_true, addS, intS, modS, hmod, set_dct j1 dl, dp5]
            exact ⟨js, _, _, rfl, rfl, get_set j1, get_setne j2 pq, get_setne j3 pr, get_setne j4 hpn, Int.emod_nonneg _ (by decide), Int.emod_lt_of_pos _ (by decide), x4.trans (Ext.set (by simp))⟩
        · rintro ρ1 S1 ⟨js, mx, o, e, rfl, j1, j2, j3, j4, n1, n2, x4⟩
          refine ⟨by simp [listAt, j4], ?_⟩
          have hpow : (0 : Int) ≤ 5 ∧ (5 : Int) ≤ 1000000 ∧ mx.natAbs < 2 ^ 64 := ⟨by decide, by decide, by omega⟩
          have hmod : (0 : Int) < 2305843009213693951 := by decide
          simp only [wp_ok, wp_bind, wp_noX, wp_mC, wp_mStr, wp_mTru, wp_mBl, wp_blOf, wp_tru_bl, wp_mBin, wp_mUn, wp_mIf, wp_mNotT, wp_mAndT, wp_mOrT, wp_mAndV, wp_mOrV, wp_mNotV, wp_mChain, wp_mChainT, wp_mNil, wp_mCons, wp_mDisp, wp_tupD, wp_lstD, wp_mSl, wp_mNoPart, wp_mPart, wp_intOf, wp_mBm, wp_mMeth, wp_dflS, wp_mIt, wp_mItA, wp_mDict, wp_mpNil, wp_mpCons, wp_mNext, wp_mYes, wp_mLc, ws_mNx, ws_mBrk, ws_mCnt, ws_mRetN, ws_mSeq, ws_mDrop, ws_mRet, ws_mIfS, ws_mAsg, wp_gNm, wp_gsNil, wp_gsCons, wp_gTp, wp_gSubS, ws_mSetI, ws_mSetF, put_some, wp_callS, ws_mFor, ws_nx, ws_ret, wp_mVar0, ok_mix, ok_rest, ix_dct j1 dg5, true_and, powS, hpow, and_self, if_true, intS, modS, hmod, set_dct j1 dl, dp3]
          exact ⟨rfl, ⟨pq, pr, qr, [], cs, _, _, mx, get_set j1, get_setne j2 pq, get_setne j3 pr, by simp, l2, n1, n2⟩, x4.trans (Ext.set (by simp))⟩
      | cons x xs =>
        simp only [List.map_cons, reduceCtorEq, decide_false, Bool.not_false, if_true, wp_ok, wp_bind, wp_noX, wp_mC, wp_mStr, wp_mTru, wp_mBl, wp_blOf, wp_tru_bl, wp_mBin, wp_mUn, wp_mIf, wp_mNotT, wp_mAndT, wp_mOrT, wp_mAndV, wp_mOrV, wp_mNotV, wp_mChain, wp_mChainT, wp_mNil, wp_mCons, wp_mDisp, wp_tupD, wp_lstD, wp_mSl, wp_mNoPart, wp_mPart, wp_intOf, wp_mBm, wp_mMeth, wp_dflS, wp_mIt, wp_mItA, wp_mDict, wp_mpNil, wp_mpCons, wp_mNext, wp_mYes, wp_mLc, ws_mNx, ws_mBrk, ws_mCnt, ws_mRetN, ws_mSeq, ws_mDrop, ws_mRet, ws_mIfS, ws_mAsg, wp_gNm, wp_gsNil, wp_gsCons, wp_gTp, wp_gSubS, ws_mSetI, ws_mSetF, put_some, wp_callS, ws_mFor, ws_nx, ws_ret, wp_mVar0, ok_rest, ok_large, ix_dct f1 dg1, true_and, popS, f2, tyD, listAt, Option.isSome_some, Bool.and_true, BEq.rfl, Bool.true_or]
        simp only [seqIndex?, List.length_cons]
        simp
        rw [wp_ok, set_dct (get_setne f1 (Ne.symm pq)) dl, dp3]
        refine ⟨⟨pq, pr, qr, xs, cs, _, turn, mix, get_set (get_setne f1 (Ne.symm pq)), get_setne (get_set f2) pq, get_setne (get_setne f3 qr) pr, by simp only [List.length_cons] at l1; omega, l2, m1, m2⟩, x0.trans (Ext.trans (Ext.set (by simp)) (Ext.set (by simp)))⟩
    · simp only [hz, decide_false]
      simp
      exact ⟨⟨pq, pr, qr, xs, cs, rest, turn, mix, e1, e2, e3, l1, l2, m1, m2⟩, Ext.rfl'⟩
  · rintro ρ1 S1 ⟨hρ, hd, hx⟩
    obtain ⟨pq, pr, qr, xs, cs, rest, turn, mix, e1, e2, e3, l1, l2, m1, m2⟩ := hd
    rw [hρ]
    simp only [wp_ok, wp_bind, wp_noX, wp_mC, wp_mStr, wp_mTru, wp_mBl, wp_blOf, wp_tru_bl, wp_mBin, wp_mUn, wp_mIf, wp_mNotT, wp_mAndT, wp_mOrT, wp_mAndV, wp_mOrV, wp_mNotV, wp_mChain, wp_mChainT, wp_mNil, wp_mCons, wp_mDisp, wp_tupD, wp_lstD, wp_mSl, wp_mNoPart, wp_mPart, wp_intOf, wp_mBm, wp_mMeth, wp_dflS, wp_mIt, wp_mItA, wp_mDict, wp_mpNil, wp_mpCons, wp_mNext, wp_mYes, wp_mLc, ws_mNx, ws_mBrk, ws_mCnt, ws_mRetN, ws_mSeq, ws_mDrop, ws_mRet, ws_mIfS, ws_mAsg, wp_gNm, wp_gsNil, wp_gsCons, wp_gTp, wp_gSubS, ws_mSetI, ws_mSetF, put_some, wp_callS, ws_mFor, ws_nx, ws_ret, wp_mVar0, wp_mVarS, ok_rest, ix_dct e1 dg3, true_and, divmodS, h0, h1, and_self, if_true, List.length, set_dct e1 dl, dp3, List.set]
    refine ⟨_, rfl, Int.emod_nonneg _ (by omega), Int.emod_lt_of_pos _ h0, ⟨pq, pr, qr, xs, cs, _, turn, mix, get_set e1, get_setne e2 pq, get_setne e3 pr, l1, l2, m1, m2⟩, hx.trans (Ext.set (by simp))⟩
theorem Draw.old {p q r n : Nat} {S : Sto} (h : Draw p q r S) (hn : S.length ≤ n) : n ≠ p ∧ n ≠ q ∧ n ≠ r := by
  obtain ⟨pq, pr, qr, xs, cs, rest, turn, mix, e1, e2, e3, l1⟩ := h
  have := lt_of_get e1
  have := lt_of_get e2
  have := lt_of_get e3
  omega
theorem Draw.setn {p q r n : Nat} {S : Sto} {o : O} (h : Draw p q r S) (hn : n ≠ p ∧ n ≠ q ∧ n ≠ r) : Draw p q r (S.set n o) := by
  obtain ⟨pq, pr, qr, xs, cs, rest, turn, mix, e1, e2, e3, l1⟩ := h
  exact ⟨pq, pr, qr, xs, cs, rest, turn, mix, get_setne e1 hn.1, get_setne e2 hn.2.1, get_setne e3 hn.2.2, l1⟩
theorem Draw.get {p q n : Nat} {S S' : Sto} {o : O} (x : Ext [p, q] S S') (e : S[n]? = some o) (hp : n ≠ p) (hq : n ≠ q) : S'[n]? = some o := x.get n o e (by simp [hp, hq])
/-- a list that is none of the draw's own -/
theorem pick_ok {p q r n : Nat} {S : Sto} {ds : List D} (h : Draw p q r S) (e : S[n]? = some (.lst ds)) (hp : n ≠ p) (hq : n ≠ q) (h0 : ds ≠ []) (h1 : ds.length < 1073741824) :
    Wp (f__law_pick [.ptr p, .ptr n] S) fun d S' => d ∈ ds ∧ Draw p q r S' ∧ Ext [p, q] S S' := by
  have hl : 0 < ds.length := List.length_pos_iff.mpr h0
  unfold f__law_pick
  simp only [wp_ok, wp_bind, wp_noX, wp_mC, wp_mStr, wp_mTru, wp_mBl, wp_blOf, wp_tru_bl, wp_mBin, wp_mUn, wp_mIf, wp_mNotT, wp_mAndT, wp_mOrT, wp_mAndV, wp_mOrV, wp_mNotV, wp_mChain, wp_mChainT, wp_mNil, wp_mCons, wp_mDisp, wp_tupD, wp_lstD, wp_mSl, wp_mNoPart, wp_mPart, wp_intOf, wp_mBm, wp_mMeth, wp_dflS, wp_mIt, wp_mItA, wp_mDict, wp_mpNil, wp_mpCons, wp_mNext, wp_mYes, wp_mLc, ws_mNx, ws_mBrk, ws_mCnt, ws_mRetN, ws_mSeq, ws_mDrop, ws_mRet, ws_mIfS, ws_mAsg, wp_gNm, wp_gsNil, wp_gsCons, wp_gTp, wp_gSubS, ws_mSetI, ws_mSetF, put_some, wp_callS, ws_mFor, ws_nx, ws_ret, List.map, List.length, List.replicate, N__law_pick, List.cons_append, List.nil_append, List.append_nil, wp_mVar0, wp_mVarS, lenS, listAt, e, true_and, Nat.zero_add]
  refine (take_ok h (size := ds.length) (by omega) (by omega)).imp fun d S1 ⟨i, ei, i0, i1, hd, x⟩ => ?_
  subst ei
  obtain ⟨d, ed, hm⟩ := get_ofI i0 i1
  rw [ix_lst (Draw.get x e hp hq) i0 i1 ed]
  exact ⟨hm, hd, x⟩
theorem picks_ok {p q r : Nat} {S : Sto} {z : Str} (h : Draw p q r S) (h0 : z.cps.toList ≠ []) (h1 : z.length < 1073741824) :
    Wp (f__law_pick [.ptr p, .str z] S) fun d S' => (∃ c ∈ z.cps.toList, d = .str ⟨#[c]⟩) ∧ Draw p q r S' ∧ Ext [p, q] S S' := by
  have hz : z.cps.toList.length = z.length := by simp [Str.length]
  have hl : 0 < z.cps.toList.length := List.length_pos_iff.mpr h0
  unfold f__law_pick
  simp only [wp_ok, wp_bind, wp_noX, wp_mC, wp_mStr, wp_mTru, wp_mBl, wp_blOf, wp_tru_bl, wp_mBin, wp_mUn, wp_mIf, wp_mNotT, wp_mAndT, wp_mOrT, wp_mAndV, wp_mOrV, wp_mNotV, wp_mChain, wp_mChainT, wp_mNil, wp_mCons, wp_mDisp, wp_tupD, wp_lstD, wp_mSl, wp_mNoPart, wp_mPart, wp_intOf, wp_mBm, wp_mMeth, wp_dflS, wp_mIt, wp_mItA, wp_mDict, wp_mpNil, wp_mpCons, wp_mNext, wp_mYes, wp_mLc, ws_mNx, ws_mBrk, ws_mCnt, ws_mRetN, ws_mSeq, ws_mDrop, ws_mRet, ws_mIfS, ws_mAsg, wp_gNm, wp_gsNil, wp_gsCons, wp_gTp, wp_gSubS, ws_mSetI, ws_mSetF, put_some, wp_callS, ws_mFor, ws_nx, ws_ret, List.map, List.length, List.replicate, N__law_pick, List.cons_append, List.nil_append, List.append_nil, wp_mVar0, wp_mVarS, lenS, true_and, Nat.zero_add]
  refine (take_ok h (size := z.length) (by omega) (by omega)).imp fun d S1 ⟨i, ei, i0, i1, hd, x⟩ => ?_
  subst ei
  obtain ⟨c, ec, hm⟩ := get_ofI (ds := z.cps.toList) i0 (by omega)
  simp only [ixS, atI_int (ds := z.cps.toList) i0 (by omega), ec, wp_ok]
  exact ⟨⟨c, hm, rfl⟩, hd, x⟩
theorem begin_ok {xs : List Int} (hl : xs.length ≤ 63) : Wp (f__law_begin [.ptr 0] [.rol (xs.map D.int)]) fun d S' => ∃ p q r, d = .ptr p ∧ Draw p q r S' ∧ S'[0]? = some (.rol (xs.map D.int)) ∧ p ≠ 0 ∧ q ≠ 0 := by
  unfold f__law_begin
  rw [wp_callS]
  simp only [List.map, List.length, List.replicate, List.cons_append, List.nil_append, N__law_begin]
  refine ws_cut (fun ρ1 S1 => ∃ (q : Nat) (ys : List Int), ρ1 = [some (.ptr 0), some (.ptr q), none] ∧ S1[0]? = some (.rol (xs.map D.int)) ∧ S1[q]? = some (.lst (ys.map D.int)) ∧ ys.length ≤ 63) ?_ ?_
  · simp only [wp_ok, wp_bind, wp_noX, wp_mC, wp_mStr, wp_mTru, wp_mBl, wp_blOf, wp_tru_bl, wp_mBin, wp_mUn, wp_mIf, wp_mNotT, wp_mAndT, wp_mOrT, wp_mAndV, wp_mOrV, wp_mNotV, wp_mChain, wp_mChainT, wp_mNil, wp_mCons, wp_mDisp, wp_tupD, wp_lstD, wp_mSl, wp_mNoPart, wp_mPart, wp_intOf, wp_mBm, wp_mMeth, wp_dflS, wp_mIt, wp_mItA, wp_mDict, wp_mpNil, wp_mpCons, wp_mNext, wp_mYes, wp_mLc, ws_mNx, ws_mBrk, ws_mCnt, ws_mRetN, ws_mSeq, ws_mDrop, ws_mRet, ws_mIfS, ws_mAsg, wp_gNm, wp_gsNil, wp_gsCons, wp_gTp, wp_gSubS, ws_mSetI, ws_mSetF, put_some, wp_callS, ws_mFor, ws_nx, ws_ret, wp_mVar0, wp_mVarS, List.set]
    have h0 : ([O.rol (xs.map D.int)] : Sto)[0]? = some (.rol (xs.map D.int)) := rfl
    have hit : iterS (.ptr 0) [O.rol (xs.map D.int)] = .ok (srcL 0 (xs.map D.int)) [O.rol (xs.map D.int)] := by simp only [iterS, listAt, h0]
    rw [hit, wp_ok]
    refine wp_lc (ms := []) (X := fun _ => True) (f := fun d => match d with | .int i => decide ((10 : Int) ^ 18 ≤ if i < 0 then -i else i) | _ => false) (P := fun d y => y = match d with | .int i => .int (if i < 0 then -i else i) | d => d) (by simp) trivial (fun _ _ _ _ => trivial) (fun S9 x9 => by simp [srcL, listAt, x9.get _ _ h0 (by simp)]) (fun _ _ => rfl) (by simp [srcL, sizeLine]; omega) ?_ ?_
    · intro dd hdd S9 x9 _
      simp only [srcL, List.mem_map] at hdd
      obtain ⟨i, hi, rfl⟩ := hdd
      have hp : powS (.int 10) (.int 18) S9 = .ok (.int (10 ^ 18)) S9 := by
        simp only [powS]; rw [if_pos (by decide)]; rfl
      simp only [wp_ok, wp_bind, wp_noX, wp_mC, wp_mStr, wp_mTru, wp_mBl, wp_blOf, wp_tru_bl, wp_mBin, wp_mUn, wp_mIf, wp_mNotT, wp_mAndT, wp_mOrT, wp_mAndV, wp_mOrV, wp_mNotV, wp_mChain, wp_mChainT, wp_mNil, wp_mCons, wp_mDisp, wp_tupD, wp_lstD, wp_mSl, wp_mNoPart, wp_mPart, wp_intOf, wp_mBm, wp_mMeth, wp_dflS, wp_mIt, wp_mItA, wp_mDict, wp_mpNil, wp_mpCons, wp_mNext, wp_mYes, wp_mLc, ws_mNx, ws_mBrk, ws_mCnt, ws_mRetN, ws_mSeq, ws_mDrop, ws_mRet, ws_mIfS, ws_mAsg, wp_gNm, wp_gsNil, wp_gsCons, wp_gTp, wp_gSubS, ws_mSetI, ws_mSetF, put_some, wp_callS, ws_mFor, ws_nx, ws_ret, wipeR, List.set, wp_mVar0, wp_mVarS, absS, hp, geS, true_and]
      exact ⟨fun _ => ⟨Ext.rfl', trivial⟩, fun _ => ⟨Ext.rfl', trivial⟩⟩
    · intro acc S9 ha9 x9 _ hg9
      have hacc := ha9.eq_map
      have hal := ha9.len
      have hys : ∃ ys : List Int, acc = ys.map D.int := by
        have : ∀ y ∈ acc, ∃ i, y = D.int i := fun y hy => by
          obtain ⟨d, hd, e⟩ := ha9.mem hy
          have := (List.mem_filter.mp hd).1
          simp only [srcL, List.mem_map] at this
          obtain ⟨i, _, rfl⟩ := this
          exact ⟨_, e⟩
        clear hacc hal ha9 hg9
        induction acc with
        | nil => exact ⟨[], rfl⟩
        | cons a acc ih =>
          obtain ⟨i, rfl⟩ := this a (List.mem_cons_self ..)
          obtain ⟨ys, rfl⟩ := ih fun y hy => this y (List.mem_cons_of_mem _ hy)
          exact ⟨i :: ys, rfl⟩
      obtain ⟨ys, rfl⟩ := hys
      refine ⟨_, ys, rfl, x9.get _ _ h0 (by simp), hg9, ?_⟩
      have := List.length_filter_le (fun d => match d with | .int i => decide ((10 : Int) ^ 18 ≤ if i < 0 then -i else i) | _ => false) (srcL 0 (xs.map D.int)).items
      rw [hal] at this
      simp only [srcL, List.length_map] at this
      omega
  · rintro ρ1 S1 ⟨q, ys, rfl, e0, eq, hy⟩
    have hq := lt_of_get eq
    have h00 := lt_of_get e0
    have hls : listS [.ptr 0] (S1 ++ [O.dct []]) = newL (xs.map D.int) (S1 ++ [O.dct []]) := by
      simp only [listS, listAt, get_old e0]
    simp only [wp_ok, wp_bind, wp_noX, wp_mC, wp_mStr, wp_mTru, wp_mBl, wp_blOf, wp_tru_bl, wp_mBin, wp_mUn, wp_mIf, wp_mNotT, wp_mAndT, wp_mOrT, wp_mAndV, wp_mOrV, wp_mNotV, wp_mChain, wp_mChainT, wp_mNil, wp_mCons, wp_mDisp, wp_tupD, wp_lstD, wp_mSl, wp_mNoPart, wp_mPart, wp_intOf, wp_mBm, wp_mMeth, wp_dflS, wp_mIt, wp_mItA, wp_mDict, wp_mpNil, wp_mpCons, wp_mNext, wp_mYes, wp_mLc, ws_mNx, ws_mBrk, ws_mCnt, ws_mRetN, ws_mSeq, ws_mDrop, ws_mRet, ws_mIfS, ws_mAsg, wp_gNm, wp_gsNil, wp_gsCons, wp_gTp, wp_gSubS, ws_mSetI, ws_mSetF, put_some, wp_callS, ws_mFor, ws_nx, ws_ret, wp_mVar0, wp_mVarS, ok_large, ok_cells, ok_rest, ok_turn, ok_mix, true_and, hls, newL]
    have g0 : (S1 ++ [O.dct []] ++ [O.lst (xs.map D.int)])[S1.length]? = some (.dct []) := get_old get_push
    have hz : 0 < S1.length := h00
    simp only [fillD, g0]
    rw [if_pos (by simp [keyD]), wp_ok]
    refine ⟨S1.length, q, (S1 ++ [O.dct []]).length, rfl, ⟨by omega, by simp, by simp; omega, ys, xs, 0, 0, 7, get_set g0, get_setne (get_old (get_old eq)) (by omega), get_setne get_push (by simp), hy, hl, by decide, by decide⟩, get_setne (get_old (get_old e0)) (by omega), by omega, ?_⟩
    rintro rfl
    rw [e0] at eq; cases eq
theorem Draw.lt {p q r : Nat} {S : Sto} (h : Draw p q r S) : p < S.length ∧ q < S.length ∧ r < S.length := by
  obtain ⟨pq, pr, qr, xs, cs, rest, turn, mix, e1, e2, e3, l1⟩ := h
  exact ⟨lt_of_get e1, lt_of_get e2, lt_of_get e3⟩
end K20
/-! J03 -/
set_option Elab.async false
set_option autoImplicit false
set_option linter.all false
set_option maxRecDepth 100000
set_option maxHeartbeats 1000000
namespace K20
open PySem PySem.Spec MP
open L2 hiding prD

def hd1 : List Nat → Bool
  | [] => false
  | a :: _ => a != 113
def Nm (z : Str) : Prop := z.length ≤ 6 ∧ (z.cps.toList.all fun c => decide (97 ≤ c ∧ c ≤ 122)) = true ∧ hd1 z.cps.toList = true
def menu : List Str := ["a", "b", "c", "fail", "mend", "all", "least", "spare", "before", "top", "none", "zzzzzz"]
instance (z : Str) : Decidable (Nm z) := by unfold Nm; infer_instance
theorem menu_nm : ∀ z ∈ menu, Nm z := by decide +kernel
theorem fin_ok {ds : List D} {S : Sto} : (srcT ds).fin S = some S := rfl
theorem fold_nil : ∀ (l : List Str) (acc : Array Nat), (l.foldl (fun acc p => acc ++ (Str.ofString "").cps ++ p.cps) acc).toList = acc.toList ++ l.flatMap fun y => y.cps.toList
  | [], acc => by simp
  | p :: l, acc => by
    rw [List.foldl_cons, fold_nil l]
    simp [show (Str.ofString "").cps = #[] from rfl]
theorem join_nil (ys : List Str) : (Txt.join "" ys).cps.toList = ys.flatMap fun y => y.cps.toList := by
  show (((ys.drop 1).foldl (fun acc p => acc ++ (Str.ofString "").cps ++ p.cps) (ys.headD Str.empty).cps).toList) = _
  rw [fold_nil]
  cases ys with
  | nil => rfl
  | cons y ys => simp
def catD (c : Str) : D → D
  | .str w => .str (c ++ w)
  | d => d
def cand (z : Str) : List Str := z :: ("abcdefghijklmnopqrstuvwxyz" : Str).cps.toList.map fun c => cutS z none (some 5) ++ (⟨#[c]⟩ : Str)
theorem cut5 (z : Str) : (cutS z none (some 5)).cps.toList = z.cps.toList.take 5 := by
  simp [cutS, HT.sIx, Str.length, List.take_eq_take_iff]
theorem cut5_len (z : Str) : (cutS z none (some 5)).length ≤ 5 := by
  rw [Str.length, ← Array.length_toList, cut5, List.length_take]; omega
theorem nodup_le : ∀ (as bs : List Str), as.Nodup → (∀ a ∈ as, a ∈ bs) → as.length ≤ bs.length
  | [], _, _, _ => Nat.zero_le _
  | a :: as, bs, h, k => by
    rw [List.nodup_cons] at h
    have ha := k a (List.mem_cons_self ..)
    have := nodup_le as (bs.erase a) h.2 fun x hx => (List.mem_erase_of_ne (by rintro rfl; exact h.1 hx)).mpr (k x (List.mem_cons_of_mem _ hx))
    rw [List.length_erase_of_mem ha] at this
    have := List.length_pos_of_mem ha
    simp only [List.length_cons]; omega
theorem cat_cps (a : Str) (c : Nat) : (a ++ (⟨#[c]⟩ : Str)).cps.toList = a.cps.toList ++ [c] := by
  show (a.cps ++ #[c]).toList = _
  simp
theorem cand_new (z : Str) (ws : List Str) (h : ws.length ≤ 15) : ∃ w ∈ cand z, w ∉ ws := by
  refine Classical.byContradiction fun hn => ?_
  have hall : ∀ w ∈ ("abcdefghijklmnopqrstuvwxyz" : Str).cps.toList.map (fun c => cutS z none (some 5) ++ (⟨#[c]⟩ : Str)), w ∈ ws := fun w hw =>
    Classical.byContradiction fun k => hn ⟨w, List.mem_cons_of_mem _ hw, k⟩
  have hnd : (("abcdefghijklmnopqrstuvwxyz" : Str).cps.toList.map (fun c => cutS z none (some 5) ++ (⟨#[c]⟩ : Str))).Nodup := by
    rw [List.nodup_iff_pairwise_ne, List.pairwise_map]
    refine List.Pairwise.imp ?_ (show ("abcdefghijklmnopqrstuvwxyz" : Str).cps.toList.Pairwise (· ≠ ·) by decide +kernel)
    intro a b hab e
    have := congrArg (fun s : Str => s.cps.toList) e
    simp only [cat_cps, List.append_cancel_left_eq, List.cons.injEq, and_true] at this
    exact hab this
  have := nodup_le _ ws hnd hall
  rw [List.length_map, show ("abcdefghijklmnopqrstuvwxyz" : Str).cps.toList.length = 26 by decide +kernel] at this
  omega
theorem cand_nm {z w : Str} (hz : Nm z) (hw : w ∈ cand z) : Nm w := by
  rcases List.mem_cons.mp hw with rfl | hw
  · exact hz
  · obtain ⟨c, hc, rfl⟩ := List.mem_map.mp hw
    have hc' : ∀ c ∈ ("abcdefghijklmnopqrstuvwxyz" : Str).cps.toList, 97 ≤ c ∧ c ≤ 122 := by decide +kernel
    obtain ⟨h1, h2, h3⟩ := hz
    refine ⟨?_, ?_, ?_⟩
    · rw [Str.length, ← Array.length_toList, cat_cps, cut5]; simp; omega
    · rw [cat_cps, cut5]
      simp only [List.all_append, List.all_cons, List.all_nil, Bool.and_true, Bool.and_eq_true, decide_eq_true_eq]
      refine ⟨?_, hc' c hc⟩
      rw [List.all_eq_true] at h2 ⊢
      exact fun x hx => h2 x (List.mem_of_mem_take hx)
    · rw [cat_cps, cut5]
      cases h : z.cps.toList with
      | nil => rw [h] at h3; simp [hd1] at h3
      | cons a r => rw [h] at h3; simpa [hd1] using h3
theorem words_ok {p q r n : Nat} {S : Sto} (h : Draw p q r S) (hn : n ≤ 16) :
    Wp (f__law_words [.ptr p, .int (n : Int)] S) fun d S' => ∃ (m : Nat) (ws : List Str), d = .ptr m ∧ S.length ≤ m ∧ S'[m]? = some (.lst (ws.map D.str)) ∧ ws.length = n ∧ ws.Nodup ∧ (∀ z ∈ ws, Nm z) ∧ Draw p q r S' ∧ Ext [p, q] S S' := by
  unfold f__law_words
  rw [wp_callS]
  simp only [List.map, List.length, List.replicate, List.cons_append, List.nil_append, N__law_words]
  refine ws_cut (fun ρ1 S1 => ∃ l f, ρ1 = [some (.ptr p), some (.int (n : Int)), some (.ptr l), some (.ptr f), none, none, none, none, none, none] ∧ S.length ≤ l ∧ S.length ≤ f ∧ l ≠ f ∧ S1[l]? = some (.lst (menu.map D.str)) ∧ S1[f]? = some (.lst ([] : List D)) ∧ Draw p q r S1 ∧ Ext [p, q] S S1) ?_ ?_
  · simp only [wp_ok, wp_bind, wp_noX, wp_mC, wp_mStr, wp_mTru, wp_mBl, wp_blOf, wp_tru_bl, wp_mBin, wp_mUn, wp_mIf, wp_mNotT, wp_mAndT, wp_mOrT, wp_mAndV, wp_mOrV, wp_mNotV, wp_mChain, wp_mChainT, wp_mNil, wp_mCons, wp_mDisp, wp_tupD, wp_lstD, wp_mSl, wp_mNoPart, wp_mPart, wp_intOf, wp_mBm, wp_mMeth, wp_dflS, wp_mIt, wp_mItA, wp_mDict, wp_mpNil, wp_mpCons, wp_mNext, wp_mYes, wp_mLc, ws_mNx, ws_mBrk, ws_mCnt, ws_mRetN, ws_mSeq, ws_mDrop, ws_mRet, ws_mIfS, ws_mAsg, wp_gNm, wp_gsNil, wp_gsCons, wp_gTp, wp_gSubS, ws_mSetI, ws_mSetF, put_some, wp_callS, ws_mFor, ws_nx, ws_ret, wp_gFld, wp_mMethKw, wp_mVar0, wp_mVarS, List.set]
    refine ⟨by decide +kernel, by decide +kernel, by decide +kernel, by decide +kernel, by decide +kernel, by decide +kernel, by decide +kernel, by decide +kernel, by decide +kernel, by decide +kernel, by decide +kernel, by decide +kernel, by simp [sizeLine], by simp [sizeLine], by simp [sizeLine], rfl, _, _, rfl, Nat.le_refl _, by simp, by simp, get_old get_push, get_push, (h.ext (Ext.push _)).ext (Ext.push _), (Ext.push _).trans (Ext.push _)⟩
  · rintro ρ1 S1 ⟨l, f, rfl, b1, b2, lf, c1, c2, hd, x⟩
    have lo := h.old b1
    have fo := h.old b2
    refine ws_cut (fun ρ1 S1 => ∃ (ws : List Str) (o4 o5 o6 : Option D), ρ1 = [some (.ptr p), some (.int (n : Int)), some (.ptr l), some (.ptr f), o4, o5, o6, none, none, none] ∧ S1[f]? = some (.lst (ws.map D.str)) ∧ ws.length = n ∧ ws.Nodup ∧ (∀ z ∈ ws, Nm z) ∧ Draw p q r S1 ∧ Ext [p, q] S S1) ?_ ?_
    · simp only [wp_ok, wp_bind, wp_noX, wp_mC, wp_mStr, wp_mTru, wp_mBl, wp_blOf, wp_tru_bl, wp_mBin, wp_mUn, wp_mIf, wp_mNotT, wp_mAndT, wp_mOrT, wp_mAndV, wp_mOrV, wp_mNotV, wp_mChain, wp_mChainT, wp_mNil, wp_mCons, wp_mDisp, wp_tupD, wp_lstD, wp_mSl, wp_mNoPart, wp_mPart, wp_intOf, wp_mBm, wp_mMeth, wp_dflS, wp_mIt, wp_mItA, wp_mDict, wp_mpNil, wp_mpCons, wp_mNext, wp_mYes, wp_mLc, ws_mNx, ws_mBrk, ws_mCnt, ws_mRetN, ws_mSeq, ws_mDrop, ws_mRet, ws_mIfS, ws_mAsg, wp_gNm, wp_gsNil, wp_gsCons, wp_gTp, wp_gSubS, ws_mSetI, ws_mSetF, put_some, wp_callS, ws_mFor, ws_nx, ws_ret, wp_gFld, wp_mMethKw, wp_mVar0, wp_mVarS]
      rw [rng_ok (by omega) (by omega)]
      simp only [wp_ok, wp_bind, wp_noX, wp_mC, wp_mStr, wp_mTru, wp_mBl, wp_blOf, wp_tru_bl, wp_mBin, wp_mUn, wp_mIf, wp_mNotT, wp_mAndT, wp_mOrT, wp_mAndV, wp_mOrV, wp_mNotV, wp_mChain, wp_mChainT, wp_mNil, wp_mCons, wp_mDisp, wp_tupD, wp_lstD, wp_mSl, wp_mNoPart, wp_mPart, wp_intOf, wp_mBm, wp_mMeth, wp_dflS, wp_mIt, wp_mItA, wp_mDict, wp_mpNil, wp_mpCons, wp_mNext, wp_mYes, wp_mLc, ws_mNx, ws_mBrk, ws_mCnt, ws_mRetN, ws_mSeq, ws_mDrop, ws_mRet, ws_mIfS, ws_mAsg, wp_gNm, wp_gsNil, wp_gsCons, wp_gTp, wp_gSubS, ws_mSetI, ws_mSetF, put_some, wp_callS, ws_mFor, ws_nx, ws_ret, wp_gFld, wp_mMethKw]
      refine ws_forL (I := fun ds ρ1 S1 => ∃ (ws : List Str) (o4 o5 o6 : Option D), ρ1 = [some (.ptr p), some (.int (n : Int)), some (.ptr l), some (.ptr f), o4, o5, o6, none, none, none] ∧ ws.length + ds.length = n ∧ S1[l]? = some (.lst (menu.map D.str)) ∧ S1[f]? = some (.lst (ws.map D.str)) ∧ ws.Nodup ∧ (∀ z ∈ ws, Nm z) ∧ Draw p q r S1 ∧ Ext [p, q] S S1) ?_ ?_ _ _ _ ⟨[], none, none, none, rfl, by simp [srcT, rngL], c1, c2, List.nodup_nil, by simp, hd, x⟩
      · rintro d ds ρ S2 ⟨ws, o4, o5, o6, rfl, hlen, d1, d2, nd, hnm, hd, x⟩
        refine ⟨rfl, ?_⟩
        simp only [List.length_cons] at hlen
        simp only [wp_gNm, List.set]
        refine ws_cut (fun ρ1 S1 => ∃ z, ρ1 = [some (.ptr p), some (.int (n : Int)), some (.ptr l), some (.ptr f), some d, some (.str z), o6, none, none, none] ∧ Nm z ∧ S1[l]? = some (.lst (menu.map D.str)) ∧ S1[f]? = some (.lst (ws.map D.str)) ∧ Draw p q r S1 ∧ Ext [p, q] S S1) ?_ ?_
        · simp only [wp_ok, wp_bind, wp_noX, wp_mC, wp_mStr, wp_mTru, wp_mBl, wp_blOf, wp_tru_bl, wp_mBin, wp_mUn, wp_mIf, wp_mNotT, wp_mAndT, wp_mOrT, wp_mAndV, wp_mOrV, wp_mNotV, wp_mChain, wp_mChainT, wp_mNil, wp_mCons, wp_mDisp, wp_tupD, wp_lstD, wp_mSl, wp_mNoPart, wp_mPart, wp_intOf, wp_mBm, wp_mMeth, wp_dflS, wp_mIt, wp_mItA, wp_mDict, wp_mpNil, wp_mpCons, wp_mNext, wp_mYes, wp_mLc, ws_mNx, ws_mBrk, ws_mCnt, ws_mRetN, ws_mSeq, ws_mDrop, ws_mRet, ws_mIfS, ws_mAsg, wp_gNm, wp_gsNil, wp_gsCons, wp_gTp, wp_gSubS, ws_mSetI, ws_mSetF, put_some, wp_callS, ws_mFor, ws_nx, ws_ret, wp_gFld, wp_mMethKw, wp_mVar0, wp_mVarS, List.set, List.append_nil, List.length_cons, List.length_nil, Nat.zero_add, Nat.add_zero, true_and]
          refine (pick_ok hd d1 lo.1 lo.2.1 (by simp [menu]) (by simp [menu])).imp fun y S3 ⟨hy, hd3, x3⟩ => ?_
          obtain ⟨z, hz, rfl⟩ := List.mem_map.mp hy
          exact ⟨z, rfl, menu_nm z hz, Draw.get x3 d1 lo.1 lo.2.1, Draw.get x3 d2 fo.1 fo.2.1, hd3, x.trans x3⟩
        · rintro ρ3 S3 ⟨z, rfl, hz, d1, d2, hd, x⟩
          refine ws_cut (fun ρ1 S1 => ∃ z, ρ1 = [some (.ptr p), some (.int (n : Int)), some (.ptr l), some (.ptr f), some d, some (.str z), o6, none, none, none] ∧ Nm z ∧ S1[l]? = some (.lst (menu.map D.str)) ∧ S1[f]? = some (.lst (ws.map D.str)) ∧ Draw p q r S1 ∧ Ext [p, q] S S1) ?_ ?_
          · simp only [wp_ok, wp_bind, wp_noX, wp_mC, wp_mStr, wp_mTru, wp_mBl, wp_blOf, wp_tru_bl, wp_mBin, wp_mUn, wp_mIf, wp_mNotT, wp_mAndT, wp_mOrT, wp_mAndV, wp_mOrV, wp_mNotV, wp_mChain, wp_mChainT, wp_mNil, wp_mCons, wp_mDisp, wp_tupD, wp_lstD, wp_mSl, wp_mNoPart, wp_mPart, wp_intOf, wp_mBm, wp_mMeth, wp_dflS, wp_mIt, wp_mItA, wp_mDict, wp_mpNil, wp_mpCons, wp_mNext, wp_mYes, wp_mLc, ws_mNx, ws_mBrk, ws_mCnt, ws_mRetN, ws_mSeq, ws_mDrop, ws_mRet, ws_mIfS, ws_mAsg, wp_gNm, wp_gsNil, wp_gsCons, wp_gTp, wp_gSubS, ws_mSetI, ws_mSetF, put_some, wp_callS, ws_mFor, ws_nx, ws_ret, wp_gFld, wp_mMethKw, wp_mVar0, wp_mVarS, List.set, List.append_nil, List.length_cons, List.length_nil, Nat.zero_add, Nat.add_zero, true_and]
            refine (take_ok hd (by decide) (by decide)).imp fun y S4 ⟨i, ei, i0, i1, hd, x4⟩ => ?_
            subst ei
            rw [eqs_int]
            simp only [wp_ok, wp_bind, wp_noX, wp_mC, wp_mStr, wp_mTru, wp_mBl, wp_blOf, wp_tru_bl, wp_mBin, wp_mUn, wp_mIf, wp_mNotT, wp_mAndT, wp_mOrT, wp_mAndV, wp_mOrV, wp_mNotV, wp_mChain, wp_mChainT, wp_mNil, wp_mCons, wp_mDisp, wp_tupD, wp_lstD, wp_mSl, wp_mNoPart, wp_mPart, wp_intOf, wp_mBm, wp_mMeth, wp_dflS, wp_mIt, wp_mItA, wp_mDict, wp_mpNil, wp_mpCons, wp_mNext, wp_mYes, wp_mLc, ws_mNx, ws_mBrk, ws_mCnt, ws_mRetN, ws_mSeq, ws_mDrop, ws_mRet, ws_mIfS, ws_mAsg, wp_gNm, wp_gsNil, wp_gsCons, wp_gTp, wp_gSubS, ws_mSetI, ws_mSetF, put_some, wp_callS, ws_mFor, ws_nx, ws_ret, wp_gFld, wp_mMethKw]
            by_cases hi : i = 0
            · simp only [hi, decide_true, if_true]
              have e1 := Draw.get x4 d1 lo.1 lo.2.1
              have e2 := Draw.get x4 d2 fo.1 fo.2.1
              refine ⟨by decide +kernel, rfl, ?_⟩
              refine (take_ok hd (by decide) (by decide)).imp fun y S5 ⟨j, ej, j0, j1, hd5, x5⟩ => ?_
              subst ej
              rw [adds_int, rng_ok (by omega) (by omega), wp_ok]
              refine wp_lc (ms := [p, q]) (X := Draw p q r) (f := fun _ => true) (P := fun _ y => ∃ c ∈ ("abcxyz" : Str).cps.toList, y = D.str ⟨#[c]⟩) ?_ (hd5.ext (Ext.push _)) ?_ (fun _ _ => rfl) (fun _ _ => rfl) ?_ ?_ ?_
              · have := hd5.old (Nat.le_refl _); simp; omega
              · intro S6 o _ h6; exact h6.setn (hd5.old (Nat.le_refl _))
              · simp [srcT, rngL, sizeLine]; omega
              · intro dd hdd S6 x6 h6
                simp only [wp_ok, wp_bind, wp_noX, wp_mC, wp_mStr, wp_mTru, wp_mBl, wp_blOf, wp_tru_bl, wp_mBin, wp_mUn, wp_mIf, wp_mNotT, wp_mAndT, wp_mOrT, wp_mAndV, wp_mOrV, wp_mNotV, wp_mChain, wp_mChainT, wp_mNil, wp_mCons, wp_mDisp, wp_tupD, wp_lstD, wp_mSl, wp_mNoPart, wp_mPart, wp_intOf, wp_mBm, wp_mMeth, wp_dflS, wp_mIt, wp_mItA, wp_mDict, wp_mpNil, wp_mpCons, wp_mNext, wp_mYes, wp_mLc, ws_mNx, ws_mBrk, ws_mCnt, ws_mRetN, ws_mSeq, ws_mDrop, ws_mRet, ws_mIfS, ws_mAsg, wp_gNm, wp_gsNil, wp_gsCons, wp_gTp, wp_gSubS, ws_mSetI, ws_mSetF, put_some, wp_callS, ws_mFor, ws_nx, ws_ret, wp_gFld, wp_mMethKw, wipeR, List.set, wp_mVar0, wp_mVarS, List.append_nil, List.length_cons, List.length_nil, true_and]
                refine ⟨fun _ => ⟨by decide +kernel, (picks_ok h6 (by decide +kernel) (by decide +kernel)).imp fun y S7 ⟨hy, h7, x7⟩ => ⟨hy, x7, h7⟩⟩, by simp⟩
              · intro acc S6 ha x6 h6 hg
                have hal := ha.len
                rw [List.filter_eq_self.mpr (fun _ _ => rfl)] at ha hal
                simp only [srcT, rngL, List.length_map, List.length_range] at hal
                have hst : ∀ (acc : List D), (∀ y ∈ acc, ∃ c ∈ ("abcxyz" : Str).cps.toList, y = D.str ⟨#[c]⟩) → ∃ cs : List Nat, strsOf acc = some (cs.map fun c => (⟨#[c]⟩ : Str)) ∧ cs.length = acc.length ∧ ∀ c ∈ cs, c ∈ ("abcxyz" : Str).cps.toList := by
                  intro acc
                  induction acc with
                  | nil => intro _; exact ⟨[], rfl, rfl, by simp⟩
                  | cons a acc ih =>
                    intro hh
                    obtain ⟨c, hc, rfl⟩ := hh a (List.mem_cons_self ..)
                    obtain ⟨cs, h1, h2, h3⟩ := ih fun y hy => hh y (List.mem_cons_of_mem _ hy)
                    exact ⟨c :: cs, by simp [strsOf, h1], by simp [h2], by intro x hx; exact (List.mem_cons.mp hx).elim (fun e => e ▸ hc) (h3 x)⟩
                obtain ⟨cs, hcs, hcl, hcm⟩ := hst acc fun y hy => (ha.mem hy).elim fun _ k => k.2
                have hsum : ((cs.map fun c => (⟨#[c]⟩ : Str)).map (·.length)).sum = cs.length := by
                  clear hcs hcl hcm
                  induction cs with
                  | nil => rfl
                  | cons c cs ih => simp only [List.map_cons, List.sum_cons, ih, List.length_cons]; simp [Str.length]; omega
                have hj : ((cs.map fun c => (⟨#[c]⟩ : Str)).map (·.length)).sum + (cs.map fun c => (⟨#[c]⟩ : Str)).length * (Str.ofString "").length ≤ 16777216 := by
                  rw [hsum, show (Str.ofString "").length = 0 from rfl]; omega
                simp only [joinS, itemsOf, listAt, hg, hcs, hj, if_true, wp_ok, wp_bind, wp_noX, wp_mC, wp_mStr, wp_mTru, wp_mBl, wp_blOf, wp_tru_bl, wp_mBin, wp_mUn, wp_mIf, wp_mNotT, wp_mAndT, wp_mOrT, wp_mAndV, wp_mOrV, wp_mNotV, wp_mChain, wp_mChainT, wp_mNil, wp_mCons, wp_mDisp, wp_tupD, wp_lstD, wp_mSl, wp_mNoPart, wp_mPart, wp_intOf, wp_mBm, wp_mMeth, wp_dflS, wp_mIt, wp_mItA, wp_mDict, wp_mpNil, wp_mpCons, wp_mNext, wp_mYes, wp_mLc, ws_mNx, ws_mBrk, ws_mCnt, ws_mRetN, ws_mSeq, ws_mDrop, ws_mRet, ws_mIfS, ws_mAsg, wp_gNm, wp_gsNil, wp_gsCons, wp_gTp, wp_gSubS, ws_mSetI, ws_mSetF, put_some, wp_callS, ws_mFor, ws_nx, ws_ret, wp_gFld, wp_mMethKw]
                have hfl : (cs.map fun c => (⟨#[c]⟩ : Str)).flatMap (fun y => y.cps.toList) = cs := by
                  clear hcs hcl hcm hsum hj
                  induction cs with
                  | nil => rfl
                  | cons c cs ih => simp [ih]
                have hx : ∀ c ∈ ("abcxyz" : Str).cps.toList, (97 ≤ c ∧ c ≤ 122) ∧ c ≠ 113 := by decide +kernel
                refine ⟨_, rfl, ⟨?_, ?_, ?_⟩, Draw.get (x5.trans x6) e1 lo.1 lo.2.1, Draw.get (x5.trans x6) e2 fo.1 fo.2.1, h6, ((x.trans x4).trans x5).trans x6⟩
                · rw [Str.length, ← Array.length_toList, join_nil, hfl]; omega
                · rw [join_nil, hfl]
                  simp only [List.all_eq_true, decide_eq_true_eq]
                  exact fun c hc => (hx c (hcm c hc)).1
                · rw [join_nil, hfl]
                  cases cs with
                  | nil => simp at hcl; omega
                  | cons c cs => simp [hd1, (hx c (hcm c (List.mem_cons_self ..))).2]
            · simp only [hi, decide_false, Bool.false_eq_true, if_false]
              exact ⟨z, rfl, hz, Draw.get x4 d1 lo.1 lo.2.1, Draw.get x4 d2 fo.1 fo.2.1, hd, x.trans x4⟩
          · rintro ρ3 S3 ⟨z, rfl, hz, d1, d2, hd, x⟩
            simp only [wp_ok, wp_bind, wp_noX, wp_mC, wp_mStr, wp_mTru, wp_mBl, wp_blOf, wp_tru_bl, wp_mBin, wp_mUn, wp_mIf, wp_mNotT, wp_mAndT, wp_mOrT, wp_mAndV, wp_mOrV, wp_mNotV, wp_mChain, wp_mChainT, wp_mNil, wp_mCons, wp_mDisp, wp_tupD, wp_lstD, wp_mSl, wp_mNoPart, wp_mPart, wp_intOf, wp_mBm, wp_mMeth, wp_dflS, wp_mIt, wp_mItA, wp_mDict, wp_mpNil, wp_mpCons, wp_mNext, wp_mYes, wp_mLc, ws_mNx, ws_mBrk, ws_mCnt, ws_mRetN, ws_mSeq, ws_mDrop, ws_mRet, ws_mIfS, ws_mAsg, wp_gNm, wp_gsNil, wp_gsCons, wp_gTp, wp_gSubS, ws_mSetI, ws_mSetF, put_some, wp_callS, ws_mFor, ws_nx, ws_ret, wp_gFld, wp_mMethKw, wp_mVar0, wp_mVarS, List.set, List.append_nil, List.length_cons, List.length_nil, Nat.zero_add, Nat.add_zero, true_and]
            have t1 : (S3 ++ [O.lst [D.str z]])[S3.length]? = some (.lst [D.str z]) := get_push
            have tl : (S3 ++ [O.lst [D.str z]])[l]? = some (.lst (menu.map D.str)) := get_old d1
            have tf : (S3 ++ [O.lst [D.str z]])[f]? = some (.lst (ws.map D.str)) := get_old d2
            have td : Draw p q r (S3 ++ [O.lst [D.str z]]) := hd.ext (Ext.push _)
            have tx : Ext [p, q] S (S3 ++ [O.lst [D.str z]]) := x.trans (Ext.push _)
            have kn := hd.old (Nat.le_refl _)
            revert t1 tl tf td tx kn
            generalize S3 ++ [O.lst [D.str z]] = T
            generalize S3.length = k
            intro t1 tl tf td tx kn
            refine ⟨by simp [sizeLine], by decide +kernel, ?_⟩
            rw [iter_str, wp_ok]
            refine wp_lc (ms := [p, q]) (X := Draw p q r) (f := fun _ => true) (P := fun d y => y = catD (cutS z none (some 5)) d) ?_ (td.ext (Ext.push _)) ?_ (fun _ _ => rfl) (fun _ _ => rfl) (by decide +kernel) ?_ ?_
            · have := td.old (Nat.le_refl _); simp; omega
            · intro S6 o _ h6; exact h6.setn (td.old (Nat.le_refl _))
            · intro dd hdd S6 x6 h6
              simp only [srcT, strItems, List.mem_map] at hdd
              obtain ⟨c, hc, rfl⟩ := hdd
              have hz5 : (cutS z none (some 5)).length + (⟨#[c]⟩ : Str).length ≤ sizeLine := by
                have := cut5_len z
                simp only [sizeLine, show (⟨#[c]⟩ : Str).length = 1 from rfl]; omega
              simp only [wp_ok, wp_bind, wp_noX, wp_mC, wp_mStr, wp_mTru, wp_mBl, wp_blOf, wp_tru_bl, wp_mBin, wp_mUn, wp_mIf, wp_mNotT, wp_mAndT, wp_mOrT, wp_mAndV, wp_mOrV, wp_mNotV, wp_mChain, wp_mChainT, wp_mNil, wp_mCons, wp_mDisp, wp_tupD, wp_lstD, wp_mSl, wp_mNoPart, wp_mPart, wp_intOf, wp_mBm, wp_mMeth, wp_dflS, wp_mIt, wp_mItA, wp_mDict, wp_mpNil, wp_mpCons, wp_mNext, wp_mYes, wp_mLc, ws_mNx, ws_mBrk, ws_mCnt, ws_mRetN, ws_mSeq, ws_mDrop, ws_mRet, ws_mIfS, ws_mAsg, wp_gNm, wp_gsNil, wp_gsCons, wp_gTp, wp_gSubS, ws_mSetI, ws_mSetF, put_some, wp_callS, ws_mFor, ws_nx, ws_ret, wp_gFld, wp_mMethKw, wipeR, List.set, wp_mVar0, wp_mVarS, slS, addS, hz5, if_true, true_and, catD]
              exact ⟨fun _ => ⟨Ext.rfl', h6⟩, by simp⟩
            · intro acc S6 ha x6 h6 hg
              have hacc := ha.eq_map
              rw [List.filter_eq_self.mpr (fun _ _ => rfl)] at hacc
              have ul := Draw.get x6 tl lo.1 lo.2.1
              have uf := Draw.get x6 tf fo.1 fo.2.1
              have uk := Draw.get x6 t1 kn.1 kn.2.1
              have hu : [D.str z] ++ acc = (cand z).map D.str := by
                rw [hacc]; simp [cand, srcT, strItems, catD]
              have hlen : [D.str z].length + acc.length ≤ sizeLine := by
                have := congrArg List.length hu
                simp only [List.length_append] at this
                rw [this, List.length_map]; simp [cand, sizeLine]
                decide +kernel
              simp only [addS, uk, hg, hlen, if_true, newL, wp_ok, wp_bind, wp_noX, wp_mC, wp_mStr, wp_mTru, wp_mBl, wp_blOf, wp_tru_bl, wp_mBin, wp_mUn, wp_mIf, wp_mNotT, wp_mAndT, wp_mOrT, wp_mAndV, wp_mOrV, wp_mNotV, wp_mChain, wp_mChainT, wp_mNil, wp_mCons, wp_mDisp, wp_tupD, wp_lstD, wp_mSl, wp_mNoPart, wp_mPart, wp_intOf, wp_mBm, wp_mMeth, wp_dflS, wp_mIt, wp_mItA, wp_mDict, wp_mpNil, wp_mpCons, wp_mNext, wp_mYes, wp_mLc, ws_mNx, ws_mBrk, ws_mCnt, ws_mRetN, ws_mSeq, ws_mDrop, ws_mRet, ws_mIfS, ws_mAsg, wp_gNm, wp_gsNil, wp_gsCons, wp_gTp, wp_gSubS, ws_mSetI, ws_mSetF, put_some, wp_callS, ws_mFor, ws_nx, ws_ret, wp_gFld, wp_mMethKw, tyD, listAt, get_old uf, Option.isSome_some, BEq.rfl, Bool.and_true, Bool.true_or, true_and]
              have v1 : (S6 ++ [O.lst ([D.str z] ++ acc)])[S6.length]? = some (.lst ([D.str z] ++ acc)) := get_push
              have vl : (S6 ++ [O.lst ([D.str z] ++ acc)])[l]? = some (.lst (menu.map D.str)) := get_old ul
              have vf : (S6 ++ [O.lst ([D.str z] ++ acc)])[f]? = some (.lst (ws.map D.str)) := get_old uf
              have vd : Draw p q r (S6 ++ [O.lst ([D.str z] ++ acc)]) := h6.ext (Ext.push _)
              have vx : Ext [p, q] S (S6 ++ [O.lst ([D.str z] ++ acc)]) := (tx.trans x6).trans (Ext.push _)
              have ko := h6.old (Nat.le_refl _)
              revert v1 vl vf vd vx ko
              generalize S6 ++ [O.lst ([D.str z] ++ acc)] = T7
              generalize S6.length = k7
              intro v1 vl vf vd vx ko
              rw [hu] at v1
              rw [iter_lst v1, wp_ok]
              have hpw : Pls (ws.map D.str) := pls_map fun _ _ => ⟨by simp [D.pl], by simp [D.dp]⟩
              refine wp_lc (ms := [p, q]) (X := Draw p q r) (f := fun d => !decide (d ∈ ws.map D.str)) (P := fun d y => y = d) ?_ (vd.ext (Ext.push _)) ?_ (fun S8 x8 => keepL (Draw.get x8 v1 ko.1 ko.2.1)) (fun _ _ => rfl) ?_ ?_ ?_
              · have := vd.old (Nat.le_refl _); simp; omega
              · intro S8 o _ h8; exact h8.setn (vd.old (Nat.le_refl _))
              · rw [← hu]; simp only [srcL, List.length_append]; exact hlen
              · intro dd hdd S8 x8 h8
                simp only [srcL, List.mem_map] at hdd
                obtain ⟨w, hw, rfl⟩ := hdd
                have hin := inB_lst (pl_str w) hpw (Draw.get x8 vf fo.1 fo.2.1)
                simp only [wp_ok, wp_bind, wp_noX, wp_mC, wp_mStr, wp_mTru, wp_mBl, wp_blOf, wp_tru_bl, wp_mBin, wp_mUn, wp_mIf, wp_mNotT, wp_mAndT, wp_mOrT, wp_mAndV, wp_mOrV, wp_mNotV, wp_mChain, wp_mChainT, wp_mNil, wp_mCons, wp_mDisp, wp_tupD, wp_lstD, wp_mSl, wp_mNoPart, wp_mPart, wp_intOf, wp_mBm, wp_mMeth, wp_dflS, wp_mIt, wp_mItA, wp_mDict, wp_mpNil, wp_mpCons, wp_mNext, wp_mYes, wp_mLc, ws_mNx, ws_mBrk, ws_mCnt, ws_mRetN, ws_mSeq, ws_mDrop, ws_mRet, ws_mIfS, ws_mAsg, wp_gNm, wp_gsNil, wp_gsCons, wp_gTp, wp_gSubS, ws_mSetI, ws_mSetF, put_some, wp_callS, ws_mFor, ws_nx, ws_ret, wp_gFld, wp_mMethKw, wipeR, List.set, wp_mVar0, wp_mVarS, ninS, hin, true_and]
                exact ⟨fun _ => ⟨Ext.rfl', h8⟩, fun _ => ⟨Ext.rfl', h8⟩⟩
              · intro acc2 S8 ha2 x8 h8 hg2
                have hacc2 := ha2.eq_map
                simp only [List.map_id'] at hacc2
                obtain ⟨w, rest, hw, hwc, hwn⟩ : ∃ w rest, acc2 = D.str w :: rest ∧ w ∈ cand z ∧ w ∉ ws := by
                  obtain ⟨w, hwc, hwn⟩ := cand_new z ws (by omega)
                  have hm : D.str w ∈ acc2 := by
                    rw [hacc2, List.mem_filter]
                    exact ⟨List.mem_map.mpr ⟨w, hwc, rfl⟩, by simpa using hwn⟩
                  cases acc2 with
                  | nil => simp at hm
                  | cons a rest =>
                    have ham : a ∈ (a :: rest) := List.mem_cons_self ..
                    rw [hacc2, List.mem_filter] at ham
                    obtain ⟨v, hv, rfl⟩ := List.mem_map.mp ham.1
                    exact ⟨v, rest, rfl, hv, by simpa using ham.2⟩
                rw [hw] at hg2
                have yf := Draw.get x8 vf fo.1 fo.2.1
                have yl := Draw.get x8 vl lo.1 lo.2.1
                have hsz : (ws.map D.str).length < sizeLine := by simp [sizeLine]; omega
                rw [ix_lst (i := 0) hg2 (by omega) (by simp) rfl]
                simp only [appendS, yf, hsz, if_true, wp_ok, wp_bind, wp_noX, wp_mC, wp_mStr, wp_mTru, wp_mBl, wp_blOf, wp_tru_bl, wp_mBin, wp_mUn, wp_mIf, wp_mNotT, wp_mAndT, wp_mOrT, wp_mAndV, wp_mOrV, wp_mNotV, wp_mChain, wp_mChainT, wp_mNil, wp_mCons, wp_mDisp, wp_tupD, wp_lstD, wp_mSl, wp_mNoPart, wp_mPart, wp_intOf, wp_mBm, wp_mMeth, wp_dflS, wp_mIt, wp_mItA, wp_mDict, wp_mpNil, wp_mpCons, wp_mNext, wp_mYes, wp_mLc, ws_mNx, ws_mBrk, ws_mCnt, ws_mRetN, ws_mSeq, ws_mDrop, ws_mRet, ws_mIfS, ws_mAsg, wp_gNm, wp_gsNil, wp_gsCons, wp_gTp, wp_gSubS, ws_mSetI, ws_mSetF, put_some, wp_callS, ws_mFor, ws_nx, ws_ret, wp_gFld, wp_mMethKw]
                refine ⟨ws ++ [w], _, _, _, rfl, by simp; omega, get_setne yl (Ne.symm lf), by rw [get_set yf]; simp, ?_, ?_, h8.setn fo, (vx.trans x8).setf b2⟩
                · rw [List.nodup_append]
                  exact ⟨nd, by simp, by intro a ha b hb; simp at hb; subst hb; intro e; subst e; exact hwn ha⟩
                · intro v hv
                  rcases List.mem_append.mp hv with hv | hv
                  · exact hnm v hv
                  · simp at hv; subst hv; exact cand_nm hz hwc
      · rintro ρ S2 ⟨ws, o4, o5, o6, rfl, hlen, d1, d2, nd, hnm, hd, x⟩
        refine ⟨rfl, ?_⟩
        rw [fin_ok, put_some]
        exact ⟨ws, o4, o5, o6, rfl, d2, by simpa using hlen, nd, hnm, hd, x⟩
    · rintro ρ1 S1 ⟨ws, o4, o5, o6, rfl, h1, h2, h3, h4, hd, x⟩
      simp only [wp_ok, wp_bind, wp_noX, wp_mC, wp_mStr, wp_mTru, wp_mBl, wp_blOf, wp_tru_bl, wp_mBin, wp_mUn, wp_mIf, wp_mNotT, wp_mAndT, wp_mOrT, wp_mAndV, wp_mOrV, wp_mNotV, wp_mChain, wp_mChainT, wp_mNil, wp_mCons, wp_mDisp, wp_tupD, wp_lstD, wp_mSl, wp_mNoPart, wp_mPart, wp_intOf, wp_mBm, wp_mMeth, wp_dflS, wp_mIt, wp_mItA, wp_mDict, wp_mpNil, wp_mpCons, wp_mNext, wp_mYes, wp_mLc, ws_mNx, ws_mBrk, ws_mCnt, ws_mRetN, ws_mSeq, ws_mDrop, ws_mRet, ws_mIfS, ws_mAsg, wp_gNm, wp_gsNil, wp_gsCons, wp_gTp, wp_gSubS, ws_mSetI, ws_mSetF, put_some, wp_callS, ws_mFor, ws_nx, ws_ret, wp_gFld, wp_mMethKw, wp_mVar0, wp_mVarS]
      exact ⟨f, ws, rfl, b2, h1, h2, h3, h4, hd, x⟩
end K20
/-! J04 -/
set_option Elab.async false
set_option autoImplicit false
set_option linter.all false
set_option maxRecDepth 100000
set_option maxHeartbeats 1000000
namespace K20
open PySem PySem.Spec MP
open L2 hiding prD

/-! machines -/
abbrev Step := (Str × Str) × Nat
abbrev Row := Bool × List Step
def stD (s : Step) : D := .tup [prD s.1, .int (s.2 : Int)]
def rowD (r : Row) : D := .tup [.bl r.1, .tup (r.2.map stD)]
structure RowOk (ps : List Str) (n : Nat) (r : Row) : Prop where
  ev : ∀ s ∈ r.2, s.1 ∈ evs ps ∧ s.2 < n
  nd : (r.2.map (·.1)).Nodup
  or : (r.2.map (·.1)).Pairwise leE
structure PsOk (ps : List Str) : Prop where
  p1 : ps ≠ []
  p3 : ps.length ≤ 3
  pn : ps.Nodup
  pw : ps.Pairwise leX
  nm : ∀ z ∈ ps, Nm z
structure Mch (ps : List Str) (rs : List Row) : Prop where
  pk : PsOk ps
  r1 : rs ≠ []
  r4 : rs.length ≤ 4
  row : ∀ r ∈ rs, RowOk ps rs.length r
theorem ok_fail : okS "fail" := by decide +kernel
theorem ok_mend : okS "mend" := by decide +kernel
theorem sort_lst {S : Sto} {n : Nat} {ds : List D} {Q : D → Sto → Prop} (h : S[n]? = some (.lst ds)) (ok : srtOk ds = true) : Wp (sortedS [.ptr n] S) Q ↔ Q (.ptr S.length) (S ++ [.lst (srt ds)]) := by
  simp only [sortedS, listAt, h, ok, if_true, newL, wp_ok]
theorem tup_lst {S : Sto} {n : Nat} {ds : List D} {Q : D → Sto → Prop} (h : S[n]? = some (.lst ds)) : Wp (tupleS [.ptr n] S) Q ↔ Q (.tup ds) S := by
  simp only [tupleS, listAt, h, wp_ok]
theorem adds_lst {S : Sto} {n m : Nat} {a b : List D} {Q : D → Sto → Prop} (h1 : S[n]? = some (.lst a)) (h2 : S[m]? = some (.lst b)) (hl : a.length + b.length ≤ sizeLine) : Wp (addS (.ptr n) (.ptr m) S) Q ↔ Q (.ptr S.length) (S ++ [.lst (a ++ b)]) := by
  simp only [addS, h1, h2, hl, if_true, newL, wp_ok]
theorem all2_steps {n : Nat} : ∀ {es : List (Str × Str)} {acc : List D}, All2 (fun d y => ∃ k : Nat, k < n ∧ y = D.tup [d, .int (k : Int)]) (es.map prD) acc → ∃ ss : List Step, acc = ss.map stD ∧ ss.map (·.1) = es ∧ ∀ s ∈ ss, s.2 < n
  | [], [], _ => ⟨[], rfl, rfl, fun _ h => by cases h⟩
  | e :: es, a :: acc, h => by
    obtain ⟨⟨k, hk, rfl⟩, h2⟩ := h
    obtain ⟨ss, e1, e2, e3⟩ := all2_steps h2
    refine ⟨(e, k) :: ss, by rw [e1]; rfl, by rw [List.map_cons, e2], fun s hs => ?_⟩
    rcases List.mem_cons.mp hs with rfl | hs
    · exact hk
    · exact e3 s hs
theorem all2_sub {l : List (Str × Str)} {sub acc : List D} (h : All2 (fun d y => y = d) sub acc) (sl : sub.Sublist (l.map prD)) : ∃ es : List (Str × Str), acc = es.map prD ∧ es.Sublist l := by
  have e := h.eq_map
  rw [List.map_id'] at e
  subst e
  obtain ⟨es, h1, h2⟩ := List.sublist_map_iff.mp sl
  exact ⟨es, h2, h1⟩
theorem row_of {ps : List Str} {n : Nat} {b : Bool} {ss : List Step} (h : PsOk ps) (sl : (ss.map (·.1)).Sublist (evs ps)) (hn : ∀ s ∈ ss, s.2 < n) : RowOk ps n (b, ss) :=
  ⟨fun s hs => ⟨sl.subset (List.mem_map.mpr ⟨s, hs, rfl⟩), hn s hs⟩, (evs_nd h.pn).sublist sl, (evs_pw h.pw).sublist sl⟩
/-- a shape: a list of some events -/
def Shp (ps : List Str) (k0 : Nat) (S : Sto) (y : D) : Prop := ∃ (m : Nat) (es : List (Str × Str)), y = D.ptr m ∧ k0 ≤ m ∧ S[m]? = some (.lst (es.map prD)) ∧ es.Sublist (evs ps)
theorem Shp.ext {ps : List Str} {k0 : Nat} {p q r : Nat} {S0 S S' : Sto} {y : D} (h : Shp ps k0 S y) (hd : Draw p q r S0) (h0 : S0.length ≤ k0) (x : Ext [p, q] S S') : Shp ps k0 S' y := by
  obtain ⟨m, es, e, hm, h1, h2⟩ := h
  have := hd.old (Nat.le_trans h0 hm)
  exact ⟨m, es, e, hm, Draw.get x h1 this.1 this.2.1, h2⟩
theorem engine_ok {p q r : Nat} {S : Sto} (h : Draw p q r S) :
    Wp (f__law_engine [.ptr p, .int 4] S) fun d S' => ∃ ps rs, d = .tup [.tup (ps.map D.str), .tup (rs.map rowD)] ∧ Mch ps rs ∧ Draw p q r S' ∧ Ext [p, q] S S' := by
  unfold f__law_engine
  rw [wp_callS]
  simp only [List.map, List.length, List.replicate, List.cons_append, List.nil_append, N__law_engine]
  refine ws_cut (fun ρ1 S1 => ∃ ps : List Str, ρ1 = [some (.ptr p), some (.int 4), some (.tup (ps.map D.str)), none, none, none, none, none, none, none, none, none] ∧ PsOk ps ∧ Draw p q r S1 ∧ Ext [p, q] S S1) ?_ ?_
  · simp only [wp_ok, wp_bind, wp_noX, wp_mC, wp_mStr, wp_mTru, wp_mBl, wp_blOf, wp_tru_bl, wp_mBin, wp_mUn, wp_mIf, wp_mNotT, wp_mAndT, wp_mOrT, wp_mAndV, wp_mOrV, wp_mNotV, wp_mChain, wp_mChainT, wp_mNil, wp_mCons, wp_mDisp, wp_tupD, wp_lstD, wp_mSl, wp_mNoPart, wp_mPart, wp_intOf, wp_mBm, wp_mMeth, wp_dflS, wp_mIt, wp_mItA, wp_mDict, wp_mpNil, wp_mpCons, wp_mNext, wp_mYes, wp_mLc, ws_mNx, ws_mBrk, ws_mCnt, ws_mRetN, ws_mSeq, ws_mDrop, ws_mRet, ws_mIfS, ws_mAsg, wp_gNm, wp_gsNil, wp_gsCons, wp_gTp, wp_gSubS, ws_mSetI, ws_mSetF, put_some, wp_callS, ws_mFor, ws_nx, ws_ret, wp_gFld, wp_mMethKw, wp_mVar0, wp_mVarS, List.set, List.append_nil, List.length_cons, List.length_nil, Nat.zero_add, Nat.add_zero, true_and]
    refine (take_ok h (by decide) (by decide)).imp fun y S1 ⟨i, ei, i0, i1, hd1, x1⟩ => ?_
    subst ei
    rw [adds_int, show (1 + i : Int) = (((1 + i).toNat : Nat) : Int) by omega]
    refine (words_ok (n := (1 + i).toNat) hd1 (by omega)).imp fun y S2 ⟨m, ws, ey, hm, e1, hl, nd, nm, hd2, x2⟩ => ?_
    subst ey
    obtain ⟨l', es, pe, pw⟩ := srt_strsP ws
    rw [sort_lst e1 (srtOk_strs (by omega)), es]
    refine (tup_lst get_push).mpr ⟨l', rfl, ⟨?_, by rw [pe.length_eq]; omega, pe.nodup_iff.mpr nd, pw, fun z hz => nm z (pe.mem_iff.mp hz)⟩, hd2.ext (Ext.push _), (x1.trans x2).trans (Ext.push _)⟩
    intro e
    have := pe.length_eq
    rw [e, hl] at this
    simp at this
    omega
  rintro ρ1 S1 ⟨ps, rfl, pk, hd, x⟩
  refine ws_cut (fun ρ1 S1 => ∃ m, ρ1 = [some (.ptr p), some (.int 4), some (.tup (ps.map D.str)), some (.ptr m), none, none, none, none, none, none, none, none] ∧ S.length ≤ m ∧ S1[m]? = some (.lst ((evs ps).map prD)) ∧ Draw p q r S1 ∧ Ext [p, q] S S1) ?_ ?_
  · simp only [wp_ok, wp_bind, wp_noX, wp_mC, wp_mStr, wp_mTru, wp_mBl, wp_blOf, wp_tru_bl, wp_mBin, wp_mUn, wp_mIf, wp_mNotT, wp_mAndT, wp_mOrT, wp_mAndV, wp_mOrV, wp_mNotV, wp_mChain, wp_mChainT, wp_mNil, wp_mCons, wp_mDisp, wp_tupD, wp_lstD, wp_mSl, wp_mNoPart, wp_mPart, wp_intOf, wp_mBm, wp_mMeth, wp_dflS, wp_mIt, wp_mItA, wp_mDict, wp_mpNil, wp_mpCons, wp_mNext, wp_mYes, wp_mLc, ws_mNx, ws_mBrk, ws_mCnt, ws_mRetN, ws_mSeq, ws_mDrop, ws_mRet, ws_mIfS, ws_mAsg, wp_gNm, wp_gsNil, wp_gsCons, wp_gTp, wp_gSubS, ws_mSetI, ws_mSetF, put_some, wp_callS, ws_mFor, ws_nx, ws_ret, wp_gFld, wp_mMethKw, wp_mVar0, wp_mVarS, List.set, List.append_nil, List.length_cons, List.length_nil, Nat.zero_add, Nat.add_zero, true_and]
    rw [iter_tup, wp_ok]
    have hp3 := pk.p3
    refine wp_lc (ms := []) (X := Draw p q r) (f := fun _ => true) (P := fun d y => y = D.tup [.str "fail", d]) (by simp) (hd.ext (Ext.push _)) ?_ (fun _ _ => rfl) (fun _ _ => rfl) (by simp [srcT, sizeLine]; omega) ?_ ?_
    · intro S6 o _ h6; exact h6.setn (hd.old (Nat.le_refl _))
    · intro dd hdd S6 x6 h6
      simp only [wp_ok, wp_bind, wp_noX, wp_mC, wp_mStr, wp_mTru, wp_mBl, wp_blOf, wp_tru_bl, wp_mBin, wp_mUn, wp_mIf, wp_mNotT, wp_mAndT, wp_mOrT, wp_mAndV, wp_mOrV, wp_mNotV, wp_mChain, wp_mChainT, wp_mNil, wp_mCons, wp_mDisp, wp_tupD, wp_lstD, wp_mSl, wp_mNoPart, wp_mPart, wp_intOf, wp_mBm, wp_mMeth, wp_dflS, wp_mIt, wp_mItA, wp_mDict, wp_mpNil, wp_mpCons, wp_mNext, wp_mYes, wp_mLc, ws_mNx, ws_mBrk, ws_mCnt, ws_mRetN, ws_mSeq, ws_mDrop, ws_mRet, ws_mIfS, ws_mAsg, wp_gNm, wp_gsNil, wp_gsCons, wp_gTp, wp_gSubS, ws_mSetI, ws_mSetF, put_some, wp_callS, ws_mFor, ws_nx, ws_ret, wp_gFld, wp_mMethKw, wipeR, List.set, wp_mVar0, wp_mVarS, true_and]
      exact ⟨fun _ => ⟨ok_fail, by simp [sizeLine], Ext.rfl', h6⟩, by simp⟩
    · intro acc S6 ha x6 h6 hg
      have ea := ha.eq_map
      rw [List.filter_eq_self.mpr (fun _ _ => rfl)] at ea
      rw [iter_tup, wp_ok]
      refine wp_lc (ms := []) (X := Draw p q r) (f := fun _ => true) (P := fun d y => y = D.tup [.str "mend", d]) (by simp) (h6.ext (Ext.push _)) ?_ (fun _ _ => rfl) (fun _ _ => rfl) (by simp [srcT, sizeLine]; omega) ?_ ?_
      · intro S7 o _ h7; exact h7.setn (h6.old (Nat.le_refl _))
      · intro dd hdd S7 x7 h7
        simp only [wp_ok, wp_bind, wp_noX, wp_mC, wp_mStr, wp_mTru, wp_mBl, wp_blOf, wp_tru_bl, wp_mBin, wp_mUn, wp_mIf, wp_mNotT, wp_mAndT, wp_mOrT, wp_mAndV, wp_mOrV, wp_mNotV, wp_mChain, wp_mChainT, wp_mNil, wp_mCons, wp_mDisp, wp_tupD, wp_lstD, wp_mSl, wp_mNoPart, wp_mPart, wp_intOf, wp_mBm, wp_mMeth, wp_dflS, wp_mIt, wp_mItA, wp_mDict, wp_mpNil, wp_mpCons, wp_mNext, wp_mYes, wp_mLc, ws_mNx, ws_mBrk, ws_mCnt, ws_mRetN, ws_mSeq, ws_mDrop, ws_mRet, ws_mIfS, ws_mAsg, wp_gNm, wp_gsNil, wp_gsCons, wp_gTp, wp_gSubS, ws_mSetI, ws_mSetF, put_some, wp_callS, ws_mFor, ws_nx, ws_ret, wp_gFld, wp_mMethKw, wipeR, List.set, wp_mVar0, wp_mVarS, true_and]
        exact ⟨fun _ => ⟨ok_mend, by simp [sizeLine], Ext.rfl', h7⟩, by simp⟩
      · intro acc2 S7 ha2 x7 h7 hg2
        have ea2 := ha2.eq_map
        rw [List.filter_eq_self.mpr (fun _ _ => rfl)] at ea2
        have hl : acc.length + acc2.length ≤ sizeLine := by
          rw [ea, ea2]; simp [srcT, sizeLine]; omega
        have ev : acc ++ acc2 = (evs ps).map prD := by
          rw [ea, ea2]; simp [srcT, evs, Function.comp_def, prD]
        rw [adds_lst (x7.get _ _ hg (by simp)) hg2 hl]
        have b1 : S.length ≤ S7.length := Nat.le_trans x.len (Nat.le_trans (Nat.le_trans (by simp) x6.len) (Nat.le_trans (by simp) x7.len))
        exact ⟨_, rfl, b1, by rw [get_push, ev], h7.ext (Ext.push _), ((x.trans (x6.mono (by simp))).trans (x7.mono (by simp))).trans (Ext.push _)⟩
  rintro ρ1 S1 ⟨m, rfl, hm, em, hd, x⟩
  refine ws_cut (fun ρ1 S1 => ∃ (n l : Nat), ρ1 = [some (.ptr p), some (.int 4), some (.tup (ps.map D.str)), some (.ptr m), some (.int (n : Int)), some (.ptr l), none, none, none, none, none, none] ∧ 0 < n ∧ n ≤ 4 ∧ S.length ≤ l ∧ l ≠ m ∧ S1[l]? = some (.lst []) ∧ S1[m]? = some (.lst ((evs ps).map prD)) ∧ Draw p q r S1 ∧ Ext [p, q] S S1) ?_ ?_
  · simp only [wp_ok, wp_bind, wp_noX, wp_mC, wp_mStr, wp_mTru, wp_mBl, wp_blOf, wp_tru_bl, wp_mBin, wp_mUn, wp_mIf, wp_mNotT, wp_mAndT, wp_mOrT, wp_mAndV, wp_mOrV, wp_mNotV, wp_mChain, wp_mChainT, wp_mNil, wp_mCons, wp_mDisp, wp_tupD, wp_lstD, wp_mSl, wp_mNoPart, wp_mPart, wp_intOf, wp_mBm, wp_mMeth, wp_dflS, wp_mIt, wp_mItA, wp_mDict, wp_mpNil, wp_mpCons, wp_mNext, wp_mYes, wp_mLc, ws_mNx, ws_mBrk, ws_mCnt, ws_mRetN, ws_mSeq, ws_mDrop, ws_mRet, ws_mIfS, ws_mAsg, wp_gNm, wp_gsNil, wp_gsCons, wp_gTp, wp_gSubS, ws_mSetI, ws_mSetF, put_some, wp_callS, ws_mFor, ws_nx, ws_ret, wp_gFld, wp_mMethKw, wp_mVar0, wp_mVarS, List.set, List.append_nil, List.length_cons, List.length_nil, Nat.zero_add, Nat.add_zero, true_and]
    refine (take_ok hd (by decide) (by decide)).imp fun y S2 ⟨i, ei, i0, i1, hd2, x2⟩ => ?_
    subst ei
    rw [adds_int, show (1 + i : Int) = (((1 + i).toNat : Nat) : Int) by omega]
    have om := h.old hm
    have e2 := Draw.get x2 em om.1 om.2.1
    have := lt_of_get e2
    refine ⟨by simp [sizeLine], by simp [sizeLine], (1 + i).toNat, _, rfl, by omega, by omega, Nat.le_trans x.len x2.len, by omega, get_push, get_old e2, hd2.ext (Ext.push _), (x.trans x2).trans (Ext.push _)⟩
  rintro ρ1 S1 ⟨n, l, rfl, n0, n4, hl, lm, el, em, hd, x⟩
  have om := h.old hm
  have ol := h.old hl
  refine ws_cut (fun ρ1 S1 => ∃ (b : Nat) (sh : List D), ρ1 = [some (.ptr p), some (.int 4), some (.tup (ps.map D.str)), some (.ptr m), some (.int (n : Int)), some (.ptr l), some (.ptr b), none, none, none, none, none] ∧ S.length ≤ b ∧ l ≠ b ∧ S1[b]? = some (.lst sh) ∧ sh ≠ [] ∧ sh.length ≤ 2 ∧ (∀ y ∈ sh, Shp ps (l + 1) S1 y) ∧ S1[l]? = some (.lst []) ∧ Draw p q r S1 ∧ Ext [p, q] S S1) ?_ ?_
  · simp only [wp_ok, wp_bind, wp_noX, wp_mC, wp_mStr, wp_mTru, wp_mBl, wp_blOf, wp_tru_bl, wp_mBin, wp_mUn, wp_mIf, wp_mNotT, wp_mAndT, wp_mOrT, wp_mAndV, wp_mOrV, wp_mNotV, wp_mChain, wp_mChainT, wp_mNil, wp_mCons, wp_mDisp, wp_tupD, wp_lstD, wp_mSl, wp_mNoPart, wp_mPart, wp_intOf, wp_mBm, wp_mMeth, wp_dflS, wp_mIt, wp_mItA, wp_mDict, wp_mpNil, wp_mpCons, wp_mNext, wp_mYes, wp_mLc, ws_mNx, ws_mBrk, ws_mCnt, ws_mRetN, ws_mSeq, ws_mDrop, ws_mRet, ws_mIfS, ws_mAsg, wp_gNm, wp_gsNil, wp_gsCons, wp_gTp, wp_gSubS, ws_mSetI, ws_mSetF, put_some, wp_callS, ws_mFor, ws_nx, ws_ret, wp_gFld, wp_mMethKw, wp_mVar0, wp_mVarS, List.set, List.append_nil, List.length_cons, List.length_nil, Nat.zero_add, Nat.add_zero, true_and]
    refine (take_ok hd (by decide) (by decide)).imp fun y S2 ⟨i, ei, i0, i1, hd2, x2⟩ => ?_
    subst ei
    rw [adds_int, rng_ok (by omega) (by omega), wp_ok]
    have el2 := Draw.get x2 el ol.1 ol.2.1
    have em2 := Draw.get x2 em om.1 om.2.1
    have ll := lt_of_get el2
    have lm2 := lt_of_get em2
    refine wp_lcL (I := fun ds acc T => ds.length + acc.length = (1 + i).toNat ∧ (∀ y ∈ acc, Shp ps (S2.length + 1) T y) ∧ Draw p q r T ∧ Ext [p, q] S2 T) ?_ ?_ _ [] _ ⟨by simp [srcT, rngL], by simp, hd2.ext (Ext.push _), Ext.push _⟩ get_push
    · rintro d ds acc T ⟨hlen, hs, hdT, xT⟩ eT
      refine ⟨rfl, ?_⟩
      have x2T : Ext [p, q] S2 T := xT
      have emT := Draw.get x2T em2 om.1 om.2.1
      simp only [wp_ok, wp_bind, wp_noX, wp_mC, wp_mStr, wp_mTru, wp_mBl, wp_blOf, wp_tru_bl, wp_mBin, wp_mUn, wp_mIf, wp_mNotT, wp_mAndT, wp_mOrT, wp_mAndV, wp_mOrV, wp_mNotV, wp_mChain, wp_mChainT, wp_mNil, wp_mCons, wp_mDisp, wp_tupD, wp_lstD, wp_mSl, wp_mNoPart, wp_mPart, wp_intOf, wp_mBm, wp_mMeth, wp_dflS, wp_mIt, wp_mItA, wp_mDict, wp_mpNil, wp_mpCons, wp_mNext, wp_mYes, wp_mLc, ws_mNx, ws_mBrk, ws_mCnt, ws_mRetN, ws_mSeq, ws_mDrop, ws_mRet, ws_mIfS, ws_mAsg, wp_gNm, wp_gsNil, wp_gsCons, wp_gTp, wp_gSubS, ws_mSetI, ws_mSetF, put_some, wp_callS, ws_mFor, ws_nx, ws_ret, wp_gFld, wp_mMethKw, wipeR, List.set, wp_mVar0, wp_mVarS, if_true]
      rw [iter_lst emT, wp_ok]
      have oT := hdT.old (Nat.le_refl _)
      have hT1 : S2.length + 1 ≤ T.length := by have := lt_of_get eT; omega
      refine wp_lcR (ms := [p, q]) (X := Draw p q r) (P := fun d y => y = d) (by have := hdT.old (Nat.le_refl _); simp; omega) (hdT.ext (Ext.push _)) ?_ (fun S8 x8 => keepL (Draw.get x8 emT om.1 om.2.1)) (fun _ _ => rfl) (by simp [srcL, evs_len, sizeLine]; have := pk.p3; omega) ?_ ?_
      · intro S6 o _ h6; exact h6.setn oT
      · intro dd hdd S6 x6 h6
        simp only [wp_ok, wp_bind, wp_noX, wp_mC, wp_mStr, wp_mTru, wp_mBl, wp_blOf, wp_tru_bl, wp_mBin, wp_mUn, wp_mIf, wp_mNotT, wp_mAndT, wp_mOrT, wp_mAndV, wp_mOrV, wp_mNotV, wp_mChain, wp_mChainT, wp_mNil, wp_mCons, wp_mDisp, wp_tupD, wp_lstD, wp_mSl, wp_mNoPart, wp_mPart, wp_intOf, wp_mBm, wp_mMeth, wp_dflS, wp_mIt, wp_mItA, wp_mDict, wp_mpNil, wp_mpCons, wp_mNext, wp_mYes, wp_mLc, ws_mNx, ws_mBrk, ws_mCnt, ws_mRetN, ws_mSeq, ws_mDrop, ws_mRet, ws_mIfS, ws_mAsg, wp_gNm, wp_gsNil, wp_gsCons, wp_gTp, wp_gSubS, ws_mSetI, ws_mSetF, put_some, wp_callS, ws_mFor, ws_nx, ws_ret, wp_gFld, wp_mMethKw, wipeR, List.set, wp_mVar0, wp_mVarS, List.append_nil, List.length_cons, List.length_nil, Nat.zero_add, Nat.add_zero, true_and]
        refine (take_ok h6 (by decide) (by decide)).imp fun y S7 ⟨j, ej, j0, j1, hd7, x7⟩ => ?_
        subst ej
        simp only [gtS, wp_ok, wp_blOf]
        exact ⟨fun _ => ⟨x7, hd7⟩, fun _ => ⟨x7, hd7⟩⟩
      · intro sub acc2 S6 sl ha x6 h6 hg
        obtain ⟨es, ea, se⟩ := all2_sub (l := evs ps) ha (by simpa [srcL] using sl)
        have o2 := hd2.old (Nat.le_refl _)
        have e6 := Draw.get x6 eT o2.1 o2.2.1
        refine ⟨e6, by simp only [List.length_cons] at hlen; simp [sizeLine]; omega, ?_, ?_, h6.setn o2, ?_⟩
        · simp only [List.length_cons, List.length_append, List.length_nil] at hlen ⊢; omega
        · intro y hy
          have keep : ∀ k, S2.length + 1 ≤ k → ∀ o, S6[k]? = some o → (S6.set S2.length (.lst (acc ++ [.ptr T.length])))[k]? = some o := fun k hk o e => get_setne e (by omega)
          rcases List.mem_append.mp hy with hy | hy
          · obtain ⟨k, es', e', hk, h1, h2⟩ := hs y hy
            have ok := hd2.old (n := k) (by omega)
            exact ⟨k, es', e', hk, keep k hk _ (Draw.get x6 h1 ok.1 ok.2.1), h2⟩
          · rw [List.mem_singleton] at hy
            subst hy
            exact ⟨T.length, es, rfl, hT1, keep _ hT1 _ (by rw [hg, ea]), se⟩
        · exact (x2T.trans x6).setf (Nat.le_refl _)
    · rintro acc T ⟨hlen, hs, hdT, xT⟩ eT
      refine ⟨rfl, T, rfl, _, acc, rfl, Nat.le_trans x.len x2.len, by omega, eT, ?_, ?_, ?_, ?_, hdT, ?_⟩
      · rintro rfl; simp at hlen; omega
      · simp at hlen; omega
      · intro y hy
        obtain ⟨k, es', e', hk, h1, h2⟩ := hs y hy
        exact ⟨k, es', e', by omega, h1, h2⟩
      · exact Draw.get xT el2 ol.1 ol.2.1
      · exact (x.trans x2).trans xT
  rintro ρ1 S1 ⟨b, sh, rfl, hb, lb, eb, s1, s2, hsh, el, hd, x⟩
  have ob := h.old hb
  refine ws_cut (fun ρ1 S1 => ∃ (rs : List Row) (o7 o8 : Option D), ρ1 = [some (.ptr p), some (.int 4), some (.tup (ps.map D.str)), some (.ptr m), some (.int (n : Int)), some (.ptr l), some (.ptr b), o7, o8, none, none, none] ∧ rs.length = n ∧ (∀ r ∈ rs, RowOk ps n r) ∧ S1[l]? = some (.lst (rs.map rowD)) ∧ Draw p q r S1 ∧ Ext [p, q] S S1) ?_ ?_
  · simp only [wp_ok, wp_bind, wp_noX, wp_mC, wp_mStr, wp_mTru, wp_mBl, wp_blOf, wp_tru_bl, wp_mBin, wp_mUn, wp_mIf, wp_mNotT, wp_mAndT, wp_mOrT, wp_mAndV, wp_mOrV, wp_mNotV, wp_mChain, wp_mChainT, wp_mNil, wp_mCons, wp_mDisp, wp_tupD, wp_lstD, wp_mSl, wp_mNoPart, wp_mPart, wp_intOf, wp_mBm, wp_mMeth, wp_dflS, wp_mIt, wp_mItA, wp_mDict, wp_mpNil, wp_mpCons, wp_mNext, wp_mYes, wp_mLc, ws_mNx, ws_mBrk, ws_mCnt, ws_mRetN, ws_mSeq, ws_mDrop, ws_mRet, ws_mIfS, ws_mAsg, wp_gNm, wp_gsNil, wp_gsCons, wp_gTp, wp_gSubS, ws_mSetI, ws_mSetF, put_some, wp_callS, ws_mFor, ws_nx, ws_ret, wp_gFld, wp_mMethKw, wp_mVar0, wp_mVarS, List.set, List.append_nil, List.length_cons, List.length_nil, Nat.zero_add, Nat.add_zero, true_and]
    rw [rng_ok (by omega) (by omega), wp_ok]
    refine ws_forL (I := fun ds ρ1 S1 => ∃ (rs : List Row) (o7 o8 : Option D), ρ1 = [some (.ptr p), some (.int 4), some (.tup (ps.map D.str)), some (.ptr m), some (.int (n : Int)), some (.ptr l), some (.ptr b), o7, o8, none, none, none] ∧ rs.length + ds.length = n ∧ (∀ r ∈ rs, RowOk ps n r) ∧ S1[l]? = some (.lst (rs.map rowD)) ∧ S1[b]? = some (.lst sh) ∧ (∀ y ∈ sh, Shp ps (l + 1) S1 y) ∧ Draw p q r S1 ∧ Ext [p, q] S S1) ?_ ?_ _ _ _ ⟨[], none, none, rfl, by simp [srcT, rngL], by simp, el, eb, hsh, hd, x⟩
    · rintro d ds ρ2 S2 ⟨rs, o7, o8, rfl, hlen, hr, el, eb, hsh, hd, x⟩
      refine ⟨rfl, ?_⟩
      simp only [List.length_cons] at hlen
      simp only [wp_ok, wp_bind, wp_noX, wp_mC, wp_mStr, wp_mTru, wp_mBl, wp_blOf, wp_tru_bl, wp_mBin, wp_mUn, wp_mIf, wp_mNotT, wp_mAndT, wp_mOrT, wp_mAndV, wp_mOrV, wp_mNotV, wp_mChain, wp_mChainT, wp_mNil, wp_mCons, wp_mDisp, wp_tupD, wp_lstD, wp_mSl, wp_mNoPart, wp_mPart, wp_intOf, wp_mBm, wp_mMeth, wp_dflS, wp_mIt, wp_mItA, wp_mDict, wp_mpNil, wp_mpCons, wp_mNext, wp_mYes, wp_mLc, ws_mNx, ws_mBrk, ws_mCnt, ws_mRetN, ws_mSeq, ws_mDrop, ws_mRet, ws_mIfS, ws_mAsg, wp_gNm, wp_gsNil, wp_gsCons, wp_gTp, wp_gSubS, ws_mSetI, ws_mSetF, put_some, wp_callS, ws_mFor, ws_nx, ws_ret, wp_gFld, wp_mMethKw, wp_mVar0, wp_mVarS, List.set, List.append_nil, List.length_cons, List.length_nil, Nat.zero_add, Nat.add_zero, true_and]
      refine (pick_ok hd eb ob.1 ob.2.1 s1 (by omega)).imp fun y S3 ⟨hy, hd3, x3⟩ => ?_
      have hs3 : ∀ y ∈ sh, Shp ps (l + 1) S3 y := fun y hy => by
        obtain ⟨k, es', e', hk, h1, h2⟩ := hsh y hy
        have ok := h.old (n := k) (by omega)
        exact ⟨k, es', e', hk, Draw.get x3 h1 ok.1 ok.2.1, h2⟩
      obtain ⟨k, es, rfl, hk, ek, se⟩ := hs3 y hy
      have ok := h.old (n := k) (by omega)
      rw [iter_lst ek, wp_ok]
      have o3 := hd3.old (Nat.le_refl _)
      have el3 := Draw.get x3 el ol.1 ol.2.1
      have l3 := lt_of_get el3
      have hes : es.length ≤ 6 := by
        have := se.length_le
        rw [evs_len] at this
        have := pk.p3
        omega
      refine wp_lc (ms := [p, q]) (X := Draw p q r) (f := fun _ => true) (P := fun d y => ∃ k : Nat, k < n ∧ y = D.tup [d, .int (k : Int)]) (by simp; omega) (hd3.ext (Ext.push _)) ?_ (fun S8 x8 => keepL (Draw.get x8 ek ok.1 ok.2.1)) (fun _ _ => rfl) (by simp [srcL, sizeLine]; omega) ?_ ?_
      · intro S6 o _ h6; exact h6.setn o3
      · intro dd hdd S6 x6 h6
        simp only [wp_ok, wp_bind, wp_noX, wp_mC, wp_mStr, wp_mTru, wp_mBl, wp_blOf, wp_tru_bl, wp_mBin, wp_mUn, wp_mIf, wp_mNotT, wp_mAndT, wp_mOrT, wp_mAndV, wp_mOrV, wp_mNotV, wp_mChain, wp_mChainT, wp_mNil, wp_mCons, wp_mDisp, wp_tupD, wp_lstD, wp_mSl, wp_mNoPart, wp_mPart, wp_intOf, wp_mBm, wp_mMeth, wp_dflS, wp_mIt, wp_mItA, wp_mDict, wp_mpNil, wp_mpCons, wp_mNext, wp_mYes, wp_mLc, ws_mNx, ws_mBrk, ws_mCnt, ws_mRetN, ws_mSeq, ws_mDrop, ws_mRet, ws_mIfS, ws_mAsg, wp_gNm, wp_gsNil, wp_gsCons, wp_gTp, wp_gSubS, ws_mSetI, ws_mSetF, put_some, wp_callS, ws_mFor, ws_nx, ws_ret, wp_gFld, wp_mMethKw, wipeR, List.set, wp_mVar0, wp_mVarS, List.append_nil, List.length_cons, List.length_nil, Nat.zero_add, Nat.add_zero, true_and]
        refine ⟨fun _ => (take_ok (size := (n : Int)) h6 (by omega) (by omega)).imp fun y S7 ⟨j, ej, j0, j1, hd7, x7⟩ => ?_, by simp⟩
        subst ej
        exact ⟨by simp [sizeLine], ⟨j.toNat, by omega, by rw [show ((j.toNat : Nat) : Int) = j by omega]⟩, x7, hd7⟩
      · intro acc S6 ha x6 h6 hg
        rw [List.filter_eq_self.mpr (fun _ _ => rfl)] at ha
        obtain ⟨ss, ea, es1, es2⟩ := all2_steps (es := es) (by simpa [srcL] using ha)
        have el6 := Draw.get x6 el3 ol.1 ol.2.1
        refine ⟨by simp [tyD, listAt, el6], (take_ok (size := 3) h6 (by decide) (by decide)).imp fun y S7 ⟨j, ej, j0, j1, hd7, x7⟩ => ?_⟩
        subst ej
        rw [eqs_int, tup_lst (Draw.get x7 hg o3.1 o3.2.1)]
        have x37 := x6.trans x7
        have el7 := Draw.get x37 el3 ol.1 ol.2.1
        have eb7 := Draw.get x37 (Draw.get x3 eb ob.1 ob.2.1) ob.1 ob.2.1
        have hsz : (rs.map rowD).length < sizeLine := by simp [sizeLine]; omega
        simp only [appendS, el7, hsz, if_true, wp_ok, wp_bind, wp_noX, wp_mC, wp_mStr, wp_mTru, wp_mBl, wp_blOf, wp_tru_bl, wp_mBin, wp_mUn, wp_mIf, wp_mNotT, wp_mAndT, wp_mOrT, wp_mAndV, wp_mOrV, wp_mNotV, wp_mChain, wp_mChainT, wp_mNil, wp_mCons, wp_mDisp, wp_tupD, wp_lstD, wp_mSl, wp_mNoPart, wp_mPart, wp_intOf, wp_mBm, wp_mMeth, wp_dflS, wp_mIt, wp_mItA, wp_mDict, wp_mpNil, wp_mpCons, wp_mNext, wp_mYes, wp_mLc, ws_mNx, ws_mBrk, ws_mCnt, ws_mRetN, ws_mSeq, ws_mDrop, ws_mRet, ws_mIfS, ws_mAsg, wp_gNm, wp_gsNil, wp_gsCons, wp_gTp, wp_gSubS, ws_mSetI, ws_mSetF, put_some, wp_callS, ws_mFor, ws_nx, ws_ret, wp_gFld, wp_mMethKw]
        refine ⟨by simp [sizeLine], rs ++ [(decide (j = 0), ss)], _, _, rfl, by simp; omega, fun r' hr' => ?_, ?_, get_setne eb7 lb, fun y hy => ?_, hd7.setn ol, ((x.trans x3).trans x37).setf hl⟩
        · rcases List.mem_append.mp hr' with hr' | hr'
          · exact hr r' hr'
          · rw [List.mem_singleton] at hr'
            subst hr'
            exact row_of pk (by rw [es1]; exact se) es2
        · rw [get_set el7, List.map_append, ea]; rfl
        · obtain ⟨k', es', e', hk', h1, h2⟩ := hs3 y hy
          have ok' := h.old (n := k') (by omega)
          exact ⟨k', es', e', hk', get_setne (Draw.get x37 h1 ok'.1 ok'.2.1) (by omega), h2⟩
    · rintro ρ2 S2 ⟨rs, o7, o8, rfl, hlen, hr, el, eb, hsh, hd, x⟩
      refine ⟨rfl, ?_⟩
      rw [fin_ok, put_some]
      exact ⟨rs, o7, o8, rfl, by simpa using hlen, hr, el, hd, x⟩
  rintro ρ1 S1 ⟨rs, o7, o8, rfl, hlen, hr, el, hd, x⟩
  simp only [wp_ok, wp_bind, wp_noX, wp_mC, wp_mStr, wp_mTru, wp_mBl, wp_blOf, wp_tru_bl, wp_mBin, wp_mUn, wp_mIf, wp_mNotT, wp_mAndT, wp_mOrT, wp_mAndV, wp_mOrV, wp_mNotV, wp_mChain, wp_mChainT, wp_mNil, wp_mCons, wp_mDisp, wp_tupD, wp_lstD, wp_mSl, wp_mNoPart, wp_mPart, wp_intOf, wp_mBm, wp_mMeth, wp_dflS, wp_mIt, wp_mItA, wp_mDict, wp_mpNil, wp_mpCons, wp_mNext, wp_mYes, wp_mLc, ws_mNx, ws_mBrk, ws_mCnt, ws_mRetN, ws_mSeq, ws_mDrop, ws_mRet, ws_mIfS, ws_mAsg, wp_gNm, wp_gsNil, wp_gsCons, wp_gTp, wp_gSubS, ws_mSetI, ws_mSetF, put_some, wp_callS, ws_mFor, ws_nx, ws_ret, wp_gFld, wp_mMethKw, wp_mVar0, wp_mVarS, List.set, true_and]
  rw [tup_lst el]
  refine ⟨by simp [sizeLine], ps, rs, rfl, ⟨pk, ?_, by omega, by rw [hlen]; exact hr⟩, hd, x⟩
  rintro rfl
  simp at hlen
  omega
end K20
/-! J05 -/
set_option Elab.async false
set_option autoImplicit false
set_option linter.all false
set_option maxRecDepth 100000
set_option maxHeartbeats 1000000
namespace K20
open PySem PySem.Spec MP
open L2 hiding prD

/-! values of any kind -/
def gd (B : Nat) (S : Sto) : Nat → D → Bool
  | _, .non => true
  | _, .bl _ => true
  | _, .int _ => true
  | _, .str _ => true
  | k + 1, .tup ds => decide (ds.length ≤ 8 + k) && ds.all (gd B S k)
  | k + 1, .ptr n => decide (B ≤ n) && (match S[n]? with
    | some (.lst ds) => decide (ds.length ≤ 8 + k) && ds.all (gd B S k)
    | some (.dct []) => true
    | _ => false)
  | 0, .tup _ => false
  | 0, .ptr _ => false
theorem gd_ext {B : Nat} {ms : List Nat} {S S' : Sto} (x : Ext ms S S') (hp : ∀ m ∈ ms, m < B) : ∀ (k : Nat) (d : D), gd B S k d = true → gd B S' k d = true
  | _, .non, _ => by simp [gd]
  | _, .bl _, _ => by simp [gd]
  | _, .int _, _ => by simp [gd]
  | _, .str _, _ => by simp [gd]
  | 0, .tup _, h => by simp [gd] at h
  | 0, .ptr _, h => by simp [gd] at h
  | k + 1, .tup ds, h => by
    simp only [gd, Bool.and_eq_true, List.all_eq_true] at h ⊢
    exact ⟨h.1, fun d m => gd_ext x hp k d (h.2 d m)⟩
  | k + 1, .ptr n, h => by
    simp only [gd, Bool.and_eq_true, decide_eq_true_eq] at h ⊢
    obtain ⟨h1, h2⟩ := h
    refine ⟨h1, ?_⟩
    split at h2
    · rename_i ds e
      have e2 := x.get _ _ e (fun hm => by have := hp n hm; omega)
      rw [e2]
      simp only [Bool.and_eq_true, List.all_eq_true] at h2 ⊢
      exact ⟨h2.1, fun d m => gd_ext x hp k d (h2.2 d m)⟩
    · rename_i e
      have e2 := x.get _ _ e (fun hm => by have := hp n hm; omega)
      rw [e2]
    · cases h2
theorem gd_up {B : Nat} {S : Sto} : ∀ (k : Nat) (d : D), gd B S k d = true → gd B S (k + 1) d = true
  | _, .non, _ => by simp [gd]
  | _, .bl _, _ => by simp [gd]
  | _, .int _, _ => by simp [gd]
  | _, .str _, _ => by simp [gd]
  | 0, .tup _, h => by simp [gd] at h
  | 0, .ptr _, h => by simp [gd] at h
  | k + 1, .tup ds, h => by
    simp only [gd, Bool.and_eq_true, List.all_eq_true, decide_eq_true_eq] at h ⊢
    exact ⟨by omega, fun d m => gd_up k d (h.2 d m)⟩
  | k + 1, .ptr n, h => by
    simp only [gd, Bool.and_eq_true, decide_eq_true_eq] at h ⊢
    obtain ⟨h1, h2⟩ := h
    refine ⟨h1, ?_⟩
    split at h2
    · rename_i ds e
      simp only [Bool.and_eq_true, List.all_eq_true, decide_eq_true_eq] at h2 ⊢
      exact ⟨by omega, fun d m => gd_up k d (h2.2 d m)⟩
    · rfl
    · cases h2
theorem gd_le {B : Nat} {S : Sto} {d : D} {k j : Nat} (h : gd B S k d = true) (le : k ≤ j) : gd B S j d = true := by
  obtain ⟨i, rfl⟩ := Nat.le.dest le
  clear le
  induction i with
  | zero => exact h
  | succ i ih => exact gd_up _ _ ih
theorem gd_tup {B : Nat} {S : Sto} {ds : List D} {k : Nat} (h : gd B S (k + 1) (.tup ds) = true) : ds.length ≤ 8 + k ∧ ∀ d ∈ ds, gd B S k d = true := by
  simpa [gd] using h
theorem gd_tup' {B : Nat} {S : Sto} {ds : List D} {k : Nat} (h : gd B S k (.tup ds) = true) : ds.length ≤ 8 + k ∧ ∀ d ∈ ds, gd B S k d = true := by
  cases k with
  | zero => simp [gd] at h
  | succ k =>
    obtain ⟨h1, h2⟩ := gd_tup h
    exact ⟨by omega, fun d m => gd_up _ _ (h2 d m)⟩
theorem tup_gd {B : Nat} {S : Sto} {ds : List D} {k : Nat} (h1 : ds.length ≤ 8 + k) (h2 : ∀ d ∈ ds, gd B S k d = true) : gd B S (k + 1) (.tup ds) = true := by
  simp only [gd, Bool.and_eq_true, List.all_eq_true, decide_eq_true_eq]
  exact ⟨h1, h2⟩
theorem mapM_all {α β : Type} {f : α → Option β} : ∀ {l : List α}, (∀ a ∈ l, ∃ b, f a = some b) → ∃ bs, l.mapM f = some bs
  | [], _ => ⟨[], rfl⟩
  | a :: l, h => by
    obtain ⟨b, e⟩ := h a (List.mem_cons_self ..)
    obtain ⟨bs, e2⟩ := mapM_all fun x m => h x (List.mem_cons_of_mem _ m)
    exact ⟨b :: bs, by rw [List.mapM_cons, e, e2]; rfl⟩
theorem gd_view {B : Nat} {S : Sto} : ∀ (k : Nat) (d : D), gd B S k d = true → ∃ p, viewE S k d = some p
  | _, .non, _ => ⟨.none, by simp only [viewE]⟩
  | _, .bl b, _ => ⟨.bool b, by simp only [viewE]⟩
  | _, .int i, _ => ⟨.int i, by simp only [viewE]⟩
  | _, .str z, _ => ⟨.str z, by simp only [viewE]⟩
  | 0, .tup _, h => by simp [gd] at h
  | 0, .ptr _, h => by simp [gd] at h
  | k + 1, .tup ds, h => by
    simp only [gd, Bool.and_eq_true, List.all_eq_true] at h
    obtain ⟨qs, e⟩ := mapM_all fun d m => gd_view k d (h.2 d m)
    exact ⟨.tuple qs, by simp only [viewE, e, Option.map_some]⟩
  | k + 1, .ptr n, h => by
    simp only [gd, Bool.and_eq_true] at h
    obtain ⟨h1, h2⟩ := h
    split at h2
    · rename_i ds e
      simp only [Bool.and_eq_true, List.all_eq_true] at h2
      obtain ⟨qs, e2⟩ := mapM_all fun d m => gd_view k d (h2.2 d m)
      exact ⟨.list qs, by simp only [viewE, listAt, e, e2, Option.map_some]⟩
    · rename_i e
      exact ⟨.dict [], by simp only [viewE, listAt, e]⟩
    · cases h2
theorem gd_view60 {B : Nat} {S : Sto} {k : Nat} {d : D} (h : gd B S k d = true) (hk : k ≤ 60) : ∃ p, viewE S 60 d = some p := gd_view 60 d (gd_le h hk)
theorem mapM_same {α β : Type} {f g : α → Option β} : ∀ {l : List α} {bs : List β}, l.mapM f = some bs → (∀ a ∈ l, ∀ b, f a = some b → g a = some b) → l.mapM g = some bs
  | [], bs, h, _ => by simpa using h
  | a :: l, bs, h, k => by
    obtain ⟨b, cs, rfl, h1, h2⟩ := mapM_cons_some h
    rw [List.mapM_cons, k a (List.mem_cons_self ..) b h1, mapM_same h2 fun x m => k x (List.mem_cons_of_mem _ m)]
    rfl
theorem view_E {S : Sto} : ∀ (k : Nat) (d : D) (p : PyData), view S k d = some p → viewE S k d = some p
  | _, .non, p, h => by simpa only [view, viewE] using h
  | _, .bl _, p, h => by simpa only [view, viewE] using h
  | _, .int _, p, h => by simpa only [view, viewE] using h
  | _, .str _, p, h => by simpa only [view, viewE] using h
  | 0, .tup _, p, h => by simp [view] at h
  | 0, .ptr _, p, h => by simp [view] at h
  | k + 1, .tup ds, p, h => by
    simp only [view] at h
    cases e : ds.mapM (view S k) with
    | none => rw [e] at h; cases h
    | some qs =>
      rw [e] at h
      simp only [viewE, mapM_same e fun d _ b hb => view_E k d b hb]
      exact h
  | k + 1, .ptr n, p, h => by
    simp only [view] at h
    cases hl : listAt S n with
    | none => rw [hl] at h; cases h
    | some ds =>
      rw [hl] at h
      simp only at h
      cases e : ds.mapM (view S k) with
      | none => rw [e] at h; cases h
      | some qs =>
        rw [e] at h
        simp only [viewE, hl, mapM_same e fun d _ b hb => view_E k d b hb]
        exact h
mutual
theorem eqv_self : ∀ p : PyData, p.hasDict = false → p.eqv p = true
  | .none, _ => rfl
  | .bool b, _ => by simp [PyData.eqv]
  | .int i, _ => by simp [PyData.eqv]
  | .str x, _ => by simp [PyData.eqv]
  | .list xs, h => by rw [PyData.eqv]; exact eqv_selfs xs (by simpa only [PyData.hasDict] using h)
  | .tuple xs, h => by rw [PyData.eqv]; exact eqv_selfs xs (by simpa only [PyData.hasDict] using h)
  | .dict _, h => by simp [PyData.hasDict] at h
theorem eqv_selfs : ∀ xs : List PyData, PyData.hasDictAll xs = false → PyData.eqvAll xs xs = true
  | [], _ => rfl
  | x :: xs, h => by
    simp only [PyData.hasDictAll, Bool.or_eq_false_iff] at h
    rw [PyData.eqvAll, eqv_self x h.1, eqv_selfs xs h.2]; rfl
end
/-- what isinstance can tell -/
def Kn (S : Sto) (d : D) : Prop := match d with
  | .ptr n => (∃ ds, S[n]? = some (.lst ds)) ∨ S[n]? = some (.dct [])
  | _ => True
theorem gd_kn {B : Nat} {S : Sto} {k : Nat} {d : D} (h : gd B S k d = true) : Kn S d := by
  cases d with
  | ptr n =>
    cases k with
    | zero => simp [gd] at h
    | succ k =>
      simp only [gd, Bool.and_eq_true] at h
      obtain ⟨h1, h2⟩ := h
      split at h2
      · rename_i ds e; exact .inl ⟨ds, e⟩
      · rename_i e; exact .inr e
      · cases h2
  | _ => trivial
theorem Kn.ext {S S' : Sto} {d : D} (h : Kn S d) (x : Ext [] S S') : Kn S' d := by
  cases d with
  | ptr n =>
    rcases h with ⟨ds, e⟩ | e
    · exact .inl ⟨ds, x.get _ _ e (by simp)⟩
    · exact .inr (x.get _ _ e (by simp))
  | _ => trivial
def isT : D → Bool
  | .tup _ => true
  | _ => false
def isSt : D → Bool
  | .str _ => true
  | _ => false
def isBo : D → Bool
  | .bl _ => true
  | _ => false
def isI : D → Bool
  | .bl _ => true
  | .int _ => true
  | _ => false
theorem isi_tup {S : Sto} {d : D} (h : Kn S d) : isiS (isBs ["tuple"] clss) d S = .ok (.bl (isT d)) S := by
  cases d with
  | ptr n => rcases h with ⟨ds, e⟩ | e <;> (simp only [isiS, kdS, e]; rfl)
  | _ => rfl
theorem isi_str {S : Sto} {d : D} (h : Kn S d) : isiS (isBs ["str"] clss) d S = .ok (.bl (isSt d)) S := by
  cases d with
  | ptr n => rcases h with ⟨ds, e⟩ | e <;> (simp only [isiS, kdS, e]; rfl)
  | _ => rfl
theorem isi_bool {S : Sto} {d : D} (h : Kn S d) : isiS (isBs ["bool"] clss) d S = .ok (.bl (isBo d)) S := by
  cases d with
  | ptr n => rcases h with ⟨ds, e⟩ | e <;> (simp only [isiS, kdS, e]; rfl)
  | _ => rfl
theorem isi_int {S : Sto} {d : D} (h : Kn S d) : isiS (isBs ["int"] clss) d S = .ok (.bl (isI d)) S := by
  cases d with
  | ptr n => rcases h with ⟨ds, e⟩ | e <;> (simp only [isiS, kdS, e]; rfl)
  | _ => rfl
/-! what is right -/
def lets (z : Str) : Bool := z.cps.toList.all fun c => decide (97 ≤ c ∧ c ≤ 122)
def isNm : D → Bool
  | .str z => decide (1 ≤ z.length ∧ z.length ≤ 6) && lets z
  | _ => false
def zsOf (ds : List D) : List Str := ds.filterMap fun d => match d with
  | .str z => some z
  | _ => none
def partsOk : D → Bool
  | .tup ds => decide (1 ≤ ds.length ∧ ds.length ≤ 8) && (ds.all isNm && decide (ds = srt ((onceS (zsOf ds)).map D.str)))
  | _ => false
def evOk (pd : List D) : D → Bool
  | .tup [.str a, .str b] => decide (a = "fail" ∨ a = "mend") && decide (D.str b ∈ pd)
  | _ => false
def ixOk (n : Nat) : D → Bool
  | .int k => decide (0 ≤ k ∧ k < (n : Int))
  | _ => false
def stepOk (pd : List D) (n : Nat) : D → Bool
  | .tup [e, k] => evOk pd e && ixOk n k
  | _ => false
def fstD : D → D
  | .tup (e :: _) => e
  | d => d
def rowOk (pd : List D) (n : Nat) : D → Bool
  | .tup [.bl _, .tup ss] => ss.all (stepOk pd n) && decide (ss.map fstD = srt ((once ((ss.map fstD).filterMap prOf)).map prD))
  | _ => false
def right : D → D → Bool
  | .tup pd, .tup rd => partsOk (.tup pd) && (decide (rd ≠ []) && rd.all (rowOk pd rd.length))
  | _, _ => false
theorem strs_zs : ∀ {ds : List D}, ds.all isNm = true → ds = (zsOf ds).map D.str
  | [], _ => rfl
  | d :: ds, h => by
    rw [List.all_cons, Bool.and_eq_true] at h
    cases d with
    | str z => simp only [zsOf, List.filterMap_cons, List.map_cons]; exact congrArg _ (strs_zs h.2)
    | _ => simp [isNm] at h
theorem steps_prs {pd : List D} {n : Nat} : ∀ {ss : List D}, ss.all (stepOk pd n) = true → ss.map fstD = ((ss.map fstD).filterMap prOf).map prD
  | [], _ => rfl
  | s :: ss, h => by
    rw [List.all_cons, Bool.and_eq_true] at h
    have ih := steps_prs h.2
    obtain ⟨w, hw⟩ : ∃ w : Str × Str, fstD s = prD w := by
      have h1 := h.1
      unfold stepOk at h1
      split at h1
      · rename_i e k
        rw [Bool.and_eq_true] at h1
        have h2 := h1.1
        unfold evOk at h2
        split at h2
        · exact ⟨(_, _), rfl⟩
        · cases h2
      · cases h1
    rw [List.map_cons, hw, List.filterMap_cons, show prOf (prD w) = some w from rfl, List.map_cons]
    exact congrArg _ ih
end K20
/-! J06 -/
set_option Elab.async false
set_option autoImplicit false
set_option linter.all false
set_option maxRecDepth 100000
set_option maxHeartbeats 1000000
namespace K20
open PySem PySem.Spec MP
open L2 hiding prD

/-! what the program's checks tell -/
theorem bls_of {g : D → Bool} : ∀ ds : List D, blsOf (ds.map fun d => D.bl (g d)) = some (ds.map g)
  | [] => rfl
  | d :: ds => by simp only [List.map_cons, blsOf, bls_of ds, Option.map_some]
theorem quant_all {S : Sto} {n : Nat} {ds : List D} {g : D → Bool} (hn : S[n]? = some (.lst (ds.map fun d => D.bl (g d)))) : quantS (fun bs => bs.all id) [.ptr n] S = .ok (.bl (ds.all g)) S := by
  simp only [quantS, listAt, hn, bls_of]
  rw [List.all_map]; rfl
theorem letters_is {c : Nat} : decide (c ∈ ("abcdefghijklmnopqrstuvwxyz" : Str).cps.toList) = decide (97 ≤ c ∧ c ≤ 122) := by
  have : ("abcdefghijklmnopqrstuvwxyz" : Str).cps.toList = List.range' 97 26 := by decide +kernel
  rw [this]
  congr 1
  rw [List.mem_range'_1, eq_iff_iff]
  omega
theorem is_name_any {S : Sto} {d : D} (h : Kn S d) : Wp (f_is_name [d] S) fun y S' => y = .bl (isNm d) ∧ Ext [] S S' := by
  unfold f_is_name
  simp only [wp_ok, wp_bind, wp_noX, wp_mC, wp_mStr, wp_mTru, wp_mBl, wp_blOf, wp_tru_bl, wp_mBin, wp_mUn, wp_mIf, wp_mNotT, wp_mAndT, wp_mOrT, wp_mAndV, wp_mOrV, wp_mNotV, wp_mChain, wp_mChainT, wp_mNil, wp_mCons, wp_mDisp, wp_tupD, wp_lstD, wp_mSl, wp_mNoPart, wp_mPart, wp_intOf, wp_mBm, wp_mMeth, wp_dflS, wp_mIt, wp_mItA, wp_mDict, wp_mpNil, wp_mpCons, wp_mNext, wp_mYes, wp_mLc, ws_mNx, ws_mBrk, ws_mCnt, ws_mRetN, ws_mSeq, ws_mDrop, ws_mRet, ws_mIfS, ws_mAsg, wp_gNm, wp_gsNil, wp_gsCons, wp_gTp, wp_gSubS, ws_mSetI, ws_mSetF, put_some, wp_callS, ws_mFor, ws_nx, ws_ret, wp_gFld, wp_mMethKw, List.map, List.length, List.replicate, List.cons_append, List.nil_append, N_is_name, wp_mVar0, wp_mVarS, isi_str h]
  cases d with
  | str z =>
    simp only [isSt, Bool.not_true, Bool.false_eq_true, if_false, lenS, leS, wp_blOf, wp_ok]
    have e0 : isNm (.str z) = (decide (1 ≤ z.length ∧ z.length ≤ 6) && lets z) := rfl
    rw [e0]
    by_cases c1 : (1 : Int) ≤ z.length
    · rw [if_pos (decide_eq_true c1)]
      by_cases c2 : (z.length : Int) ≤ 6
      · rw [decide_eq_true c2, decide_eq_true (show 1 ≤ z.length ∧ z.length ≤ 6 from ⟨by omega, by omega⟩)]
        simp only [Bool.not_true, Bool.false_eq_true, if_false, wp_ok, wp_bind, wp_noX, wp_mC, wp_mStr, wp_mTru, wp_mBl, wp_blOf, wp_tru_bl, wp_mBin, wp_mUn, wp_mIf, wp_mNotT, wp_mAndT, wp_mOrT, wp_mAndV, wp_mOrV, wp_mNotV, wp_mChain, wp_mChainT, wp_mNil, wp_mCons, wp_mDisp, wp_tupD, wp_lstD, wp_mSl, wp_mNoPart, wp_mPart, wp_intOf, wp_mBm, wp_mMeth, wp_dflS, wp_mIt, wp_mItA, wp_mDict, wp_mpNil, wp_mpCons, wp_mNext, wp_mYes, wp_mLc, ws_mNx, ws_mBrk, ws_mCnt, ws_mRetN, ws_mSeq, ws_mDrop, ws_mRet, ws_mIfS, ws_mAsg, wp_gNm, wp_gsNil, wp_gsCons, wp_gTp, wp_gSubS, ws_mSetI, ws_mSetF, put_some, wp_callS, ws_mFor, ws_nx, ws_ret, wp_gFld, wp_mMethKw, wp_mVar0, wp_mVarS, Bool.true_and]
        rw [iter_str, wp_ok]
        refine wp_lc (ms := []) (X := fun _ => True) (f := fun _ => true) (P := fun d y => y = D.bl (match d with | .str w => w.cps.toList.all fun c => decide (97 ≤ c ∧ c ≤ 122) | _ => false)) (by simp) trivial (fun _ _ _ _ => trivial) (fun _ _ => rfl) (fun _ _ => rfl) (by simp [srcT, strItems, sizeLine, Str.length] at c2 ⊢; omega) ?_ ?_
        · intro dd hdd S9 x9 _
          simp only [srcT, strItems, List.mem_map] at hdd
          obtain ⟨c, hc, rfl⟩ := hdd
          simp only [wp_ok, wp_bind, wp_noX, wp_mC, wp_mStr, wp_mTru, wp_mBl, wp_blOf, wp_tru_bl, wp_mBin, wp_mUn, wp_mIf, wp_mNotT, wp_mAndT, wp_mOrT, wp_mAndV, wp_mOrV, wp_mNotV, wp_mChain, wp_mChainT, wp_mNil, wp_mCons, wp_mDisp, wp_tupD, wp_lstD, wp_mSl, wp_mNoPart, wp_mPart, wp_intOf, wp_mBm, wp_mMeth, wp_dflS, wp_mIt, wp_mItA, wp_mDict, wp_mpNil, wp_mpCons, wp_mNext, wp_mYes, wp_mLc, ws_mNx, ws_mBrk, ws_mCnt, ws_mRetN, ws_mSeq, ws_mDrop, ws_mRet, ws_mIfS, ws_mAsg, wp_gNm, wp_gsNil, wp_gsCons, wp_gTp, wp_gSubS, ws_mSetI, ws_mSetF, put_some, wp_callS, ws_mFor, ws_nx, ws_ret, wp_gFld, wp_mMethKw, wipeR, List.set, wp_mVar0, wp_mVarS, inS, inB, strIn, letters_is]
          exact ⟨trivial, fun _ => ⟨by simp, Ext.rfl', trivial⟩, by simp⟩
        · intro acc S9 ha9 x9 _ hg9
          have ea := ha9.eq_map
          rw [List.filter_eq_self.mpr (fun _ _ => rfl)] at ea
          subst ea
          rw [quant_all hg9, wp_ok]
          refine ⟨?_, x9⟩
          congr 1
          simp [srcT, strItems, lets, List.all_map, Function.comp_def]
      · rw [decide_eq_false c2, decide_eq_false (show ¬ (1 ≤ z.length ∧ z.length ≤ 6) by omega)]
        simp only [Bool.not_false, if_true, wp_ok, wp_bind, wp_noX, wp_mC, wp_mStr, wp_mTru, wp_mBl, wp_blOf, wp_tru_bl, wp_mBin, wp_mUn, wp_mIf, wp_mNotT, wp_mAndT, wp_mOrT, wp_mAndV, wp_mOrV, wp_mNotV, wp_mChain, wp_mChainT, wp_mNil, wp_mCons, wp_mDisp, wp_tupD, wp_lstD, wp_mSl, wp_mNoPart, wp_mPart, wp_intOf, wp_mBm, wp_mMeth, wp_dflS, wp_mIt, wp_mItA, wp_mDict, wp_mpNil, wp_mpCons, wp_mNext, wp_mYes, wp_mLc, ws_mNx, ws_mBrk, ws_mCnt, ws_mRetN, ws_mSeq, ws_mDrop, ws_mRet, ws_mIfS, ws_mAsg, wp_gNm, wp_gsNil, wp_gsCons, wp_gTp, wp_gSubS, ws_mSetI, ws_mSetF, put_some, wp_callS, ws_mFor, ws_nx, ws_ret, wp_gFld, wp_mMethKw, wp_mC, Bool.false_and]
        exact ⟨trivial, Ext.rfl'⟩
    · rw [if_neg (by simp; omega), decide_eq_false (show ¬ (1 ≤ z.length ∧ z.length ≤ 6) by omega)]
      simp only [Bool.not_false, if_true, wp_ok, wp_bind, wp_noX, wp_mC, wp_mStr, wp_mTru, wp_mBl, wp_blOf, wp_tru_bl, wp_mBin, wp_mUn, wp_mIf, wp_mNotT, wp_mAndT, wp_mOrT, wp_mAndV, wp_mOrV, wp_mNotV, wp_mChain, wp_mChainT, wp_mNil, wp_mCons, wp_mDisp, wp_tupD, wp_lstD, wp_mSl, wp_mNoPart, wp_mPart, wp_intOf, wp_mBm, wp_mMeth, wp_dflS, wp_mIt, wp_mItA, wp_mDict, wp_mpNil, wp_mpCons, wp_mNext, wp_mYes, wp_mLc, ws_mNx, ws_mBrk, ws_mCnt, ws_mRetN, ws_mSeq, ws_mDrop, ws_mRet, ws_mIfS, ws_mAsg, wp_gNm, wp_gsNil, wp_gsCons, wp_gTp, wp_gSubS, ws_mSetI, ws_mSetF, put_some, wp_callS, ws_mFor, ws_nx, ws_ret, wp_gFld, wp_mMethKw, wp_mC, Bool.false_and]
      exact ⟨trivial, Ext.rfl'⟩
  | _ =>
    simp only [isSt, Bool.not_false, if_true, wp_ok, wp_bind, wp_noX, wp_mC, wp_mStr, wp_mTru, wp_mBl, wp_blOf, wp_tru_bl, wp_mBin, wp_mUn, wp_mIf, wp_mNotT, wp_mAndT, wp_mOrT, wp_mAndV, wp_mOrV, wp_mNotV, wp_mChain, wp_mChainT, wp_mNil, wp_mCons, wp_mDisp, wp_tupD, wp_lstD, wp_mSl, wp_mNoPart, wp_mPart, wp_intOf, wp_mBm, wp_mMeth, wp_dflS, wp_mIt, wp_mItA, wp_mDict, wp_mpNil, wp_mpCons, wp_mNext, wp_mYes, wp_mLc, ws_mNx, ws_mBrk, ws_mCnt, ws_mRetN, ws_mSeq, ws_mDrop, ws_mRet, ws_mIfS, ws_mAsg, wp_gNm, wp_gsNil, wp_gsCons, wp_gTp, wp_gSubS, ws_mSetI, ws_mSetF, put_some, wp_callS, ws_mFor, ws_nx, ws_ret, wp_gFld, wp_mMethKw, isNm]
    exact ⟨trivial, Ext.rfl'⟩
theorem pls_strs (zs : List Str) : Pls (zs.map D.str) := pls_map fun x _ => ⟨by simp [D.pl], by simp [D.dp]⟩
theorem are_parts_any {S : Sto} {B k : Nat} {x : D} (h : gd B S k x = true) : Wp (f_are_parts [x] S) fun y S' => y = .bl (partsOk x) ∧ Ext [] S S' := by
  unfold f_are_parts
  simp only [wp_ok, wp_bind, wp_noX, wp_mC, wp_mStr, wp_mTru, wp_mBl, wp_blOf, wp_tru_bl, wp_mBin, wp_mUn, wp_mIf, wp_mNotT, wp_mAndT, wp_mOrT, wp_mAndV, wp_mOrV, wp_mNotV, wp_mChain, wp_mChainT, wp_mNil, wp_mCons, wp_mDisp, wp_tupD, wp_lstD, wp_mSl, wp_mNoPart, wp_mPart, wp_intOf, wp_mBm, wp_mMeth, wp_dflS, wp_mIt, wp_mItA, wp_mDict, wp_mpNil, wp_mpCons, wp_mNext, wp_mYes, wp_mLc, ws_mNx, ws_mBrk, ws_mCnt, ws_mRetN, ws_mSeq, ws_mDrop, ws_mRet, ws_mIfS, ws_mAsg, wp_gNm, wp_gsNil, wp_gsCons, wp_gTp, wp_gSubS, ws_mSetI, ws_mSetF, put_some, wp_callS, ws_mFor, ws_nx, ws_ret, wp_gFld, wp_mMethKw, List.map, List.length, List.replicate, List.cons_append, List.nil_append, N_are_parts, wp_mVar0, wp_mVarS, isi_tup (gd_kn h)]
  cases x with
  | tup ds =>
    obtain ⟨hl, hd⟩ := gd_tup' h
    have e0 : partsOk (.tup ds) = (decide (1 ≤ ds.length ∧ ds.length ≤ 8) && (ds.all isNm && decide (ds = srt ((onceS (zsOf ds)).map D.str)))) := rfl
    rw [e0]
    simp only [isT, Bool.not_true, Bool.false_eq_true, if_false, lenS, leS, wp_blOf, wp_ok]
    by_cases c1 : (1 : Int) ≤ ds.length
    · rw [if_pos (decide_eq_true c1)]
      by_cases c2 : (ds.length : Int) ≤ 8
      · rw [decide_eq_true c2, decide_eq_true (show 1 ≤ ds.length ∧ ds.length ≤ 8 from ⟨by omega, by omega⟩)]
        simp only [Bool.not_true, Bool.false_eq_true, if_false, wp_ok, wp_bind, wp_noX, wp_mC, wp_mStr, wp_mTru, wp_mBl, wp_blOf, wp_tru_bl, wp_mBin, wp_mUn, wp_mIf, wp_mNotT, wp_mAndT, wp_mOrT, wp_mAndV, wp_mOrV, wp_mNotV, wp_mChain, wp_mChainT, wp_mNil, wp_mCons, wp_mDisp, wp_tupD, wp_lstD, wp_mSl, wp_mNoPart, wp_mPart, wp_intOf, wp_mBm, wp_mMeth, wp_dflS, wp_mIt, wp_mItA, wp_mDict, wp_mpNil, wp_mpCons, wp_mNext, wp_mYes, wp_mLc, ws_mNx, ws_mBrk, ws_mCnt, ws_mRetN, ws_mSeq, ws_mDrop, ws_mRet, ws_mIfS, ws_mAsg, wp_gNm, wp_gsNil, wp_gsCons, wp_gTp, wp_gSubS, ws_mSetI, ws_mSetF, put_some, wp_callS, ws_mFor, ws_nx, ws_ret, wp_gFld, wp_mMethKw, wp_mVar0, wp_mVarS, Bool.true_and]
        rw [iter_tup, wp_ok]
        refine wp_lc (ms := []) (X := fun _ => True) (f := fun _ => true) (P := fun d y => y = D.bl (isNm d)) (by simp) trivial (fun _ _ _ _ => trivial) (fun _ _ => rfl) (fun _ _ => rfl) (by simp [srcT, sizeLine]; omega) ?_ ?_
        · intro dd hdd S9 x9 _
          simp only [srcT] at hdd
          simp only [wp_ok, wp_bind, wp_noX, wp_mC, wp_mStr, wp_mTru, wp_mBl, wp_blOf, wp_tru_bl, wp_mBin, wp_mUn, wp_mIf, wp_mNotT, wp_mAndT, wp_mOrT, wp_mAndV, wp_mOrV, wp_mNotV, wp_mChain, wp_mChainT, wp_mNil, wp_mCons, wp_mDisp, wp_tupD, wp_lstD, wp_mSl, wp_mNoPart, wp_mPart, wp_intOf, wp_mBm, wp_mMeth, wp_dflS, wp_mIt, wp_mItA, wp_mDict, wp_mpNil, wp_mpCons, wp_mNext, wp_mYes, wp_mLc, ws_mNx, ws_mBrk, ws_mCnt, ws_mRetN, ws_mSeq, ws_mDrop, ws_mRet, ws_mIfS, ws_mAsg, wp_gNm, wp_gsNil, wp_gsCons, wp_gTp, wp_gSubS, ws_mSetI, ws_mSetF, put_some, wp_callS, ws_mFor, ws_nx, ws_ret, wp_gFld, wp_mMethKw, wipeR, List.set, wp_mVar0, wp_mVarS, List.append_nil, List.length_cons, List.length_nil, Nat.zero_add, Nat.add_zero, true_and]
          exact ⟨fun _ => (is_name_any ((gd_kn (hd dd hdd)).ext x9)).imp fun y S1 ⟨e, x⟩ => ⟨e, x, trivial⟩, by simp⟩
        · intro acc S9 ha9 x9 _ hg9
          have ea := ha9.eq_map
          rw [List.filter_eq_self.mpr (fun _ _ => rfl)] at ea
          subst ea
          rw [quant_all hg9, wp_ok]
          simp only [srcT, wp_ok, wp_bind, wp_noX, wp_mC, wp_mStr, wp_mTru, wp_mBl, wp_blOf, wp_tru_bl, wp_mBin, wp_mUn, wp_mIf, wp_mNotT, wp_mAndT, wp_mOrT, wp_mAndV, wp_mOrV, wp_mNotV, wp_mChain, wp_mChainT, wp_mNil, wp_mCons, wp_mDisp, wp_tupD, wp_lstD, wp_mSl, wp_mNoPart, wp_mPart, wp_intOf, wp_mBm, wp_mMeth, wp_dflS, wp_mIt, wp_mItA, wp_mDict, wp_mpNil, wp_mpCons, wp_mNext, wp_mYes, wp_mLc, ws_mNx, ws_mBrk, ws_mCnt, ws_mRetN, ws_mSeq, ws_mDrop, ws_mRet, ws_mIfS, ws_mAsg, wp_gNm, wp_gsNil, wp_gsCons, wp_gTp, wp_gSubS, ws_mSetI, ws_mSetF, put_some, wp_callS, ws_mFor, ws_nx, ws_ret, wp_gFld, wp_mMethKw, wp_mVar0, wp_mVarS]
          cases hn : ds.all isNm with
          | false =>
            simp only [Bool.not_false, if_true, wp_ok, wp_bind, wp_noX, wp_mC, wp_mStr, wp_mTru, wp_mBl, wp_blOf, wp_tru_bl, wp_mBin, wp_mUn, wp_mIf, wp_mNotT, wp_mAndT, wp_mOrT, wp_mAndV, wp_mOrV, wp_mNotV, wp_mChain, wp_mChainT, wp_mNil, wp_mCons, wp_mDisp, wp_tupD, wp_lstD, wp_mSl, wp_mNoPart, wp_mPart, wp_intOf, wp_mBm, wp_mMeth, wp_dflS, wp_mIt, wp_mItA, wp_mDict, wp_mpNil, wp_mpCons, wp_mNext, wp_mYes, wp_mLc, ws_mNx, ws_mBrk, ws_mCnt, ws_mRetN, ws_mSeq, ws_mDrop, ws_mRet, ws_mIfS, ws_mAsg, wp_gNm, wp_gsNil, wp_gsCons, wp_gTp, wp_gSubS, ws_mSetI, ws_mSetF, put_some, wp_callS, ws_mFor, ws_nx, ws_ret, wp_gFld, wp_mMethKw, Bool.false_and]
            exact ⟨trivial, x9⟩
          | true =>
            simp only [Bool.not_true, Bool.false_eq_true, if_false, wp_ok, wp_bind, wp_noX, wp_mC, wp_mStr, wp_mTru, wp_mBl, wp_blOf, wp_tru_bl, wp_mBin, wp_mUn, wp_mIf, wp_mNotT, wp_mAndT, wp_mOrT, wp_mAndV, wp_mOrV, wp_mNotV, wp_mChain, wp_mChainT, wp_mNil, wp_mCons, wp_mDisp, wp_tupD, wp_lstD, wp_mSl, wp_mNoPart, wp_mPart, wp_intOf, wp_mBm, wp_mMeth, wp_dflS, wp_mIt, wp_mItA, wp_mDict, wp_mpNil, wp_mpCons, wp_mNext, wp_mYes, wp_mLc, ws_mNx, ws_mBrk, ws_mCnt, ws_mRetN, ws_mSeq, ws_mDrop, ws_mRet, ws_mIfS, ws_mAsg, wp_gNm, wp_gsNil, wp_gsCons, wp_gTp, wp_gSubS, ws_mSetI, ws_mSetF, put_some, wp_callS, ws_mFor, ws_nx, ws_ret, wp_gFld, wp_mMethKw, wp_mVar0, wp_mVarS, Bool.true_and]
            have ez := strs_zs hn
            have hls : listS [.tup ds] S9 = newL ds S9 := rfl
            rw [hls, newL, wp_ok]
            have hu : ssetU [.tup ds] (S9 ++ [O.lst ds]) = newL (srt ((onceS (zsOf ds)).map D.str)) (S9 ++ [O.lst ds]) := by
              have hs : strsOf ds = some (zsOf ds) := by
                conv => lhs; rw [ez]
                exact strsOf_map _
              simp only [ssetU, hs]
              have : (zsOf ds).length = ds.length := by conv => rhs; rw [ez, List.length_map]
              rw [if_pos (by omega)]
            rw [hu, newL, wp_ok]
            have pl1 : Pls ds := by rw [ez]; exact pls_strs _
            have pl2 : Pls (srt ((onceS (zsOf ds)).map D.str)) := by
              obtain ⟨l', e, _⟩ := srt_strs (onceS (zsOf ds))
              rw [e]; exact pls_strs _
            rw [eqS_lst pl1 pl2 (get_old get_push) get_push, wp_ok]
            exact ⟨rfl, (x9.trans (Ext.push _)).trans (Ext.push _)⟩
      · rw [decide_eq_false c2, decide_eq_false (show ¬ (1 ≤ ds.length ∧ ds.length ≤ 8) by omega)]
        simp only [Bool.not_false, if_true, wp_ok, wp_bind, wp_noX, wp_mC, wp_mStr, wp_mTru, wp_mBl, wp_blOf, wp_tru_bl, wp_mBin, wp_mUn, wp_mIf, wp_mNotT, wp_mAndT, wp_mOrT, wp_mAndV, wp_mOrV, wp_mNotV, wp_mChain, wp_mChainT, wp_mNil, wp_mCons, wp_mDisp, wp_tupD, wp_lstD, wp_mSl, wp_mNoPart, wp_mPart, wp_intOf, wp_mBm, wp_mMeth, wp_dflS, wp_mIt, wp_mItA, wp_mDict, wp_mpNil, wp_mpCons, wp_mNext, wp_mYes, wp_mLc, ws_mNx, ws_mBrk, ws_mCnt, ws_mRetN, ws_mSeq, ws_mDrop, ws_mRet, ws_mIfS, ws_mAsg, wp_gNm, wp_gsNil, wp_gsCons, wp_gTp, wp_gSubS, ws_mSetI, ws_mSetF, put_some, wp_callS, ws_mFor, ws_nx, ws_ret, wp_gFld, wp_mMethKw, wp_mC, Bool.false_and]
        exact ⟨trivial, Ext.rfl'⟩
    · rw [if_neg (by simp; omega), decide_eq_false (show ¬ (1 ≤ ds.length ∧ ds.length ≤ 8) by omega)]
      simp only [Bool.not_false, if_true, wp_ok, wp_bind, wp_noX, wp_mC, wp_mStr, wp_mTru, wp_mBl, wp_blOf, wp_tru_bl, wp_mBin, wp_mUn, wp_mIf, wp_mNotT, wp_mAndT, wp_mOrT, wp_mAndV, wp_mOrV, wp_mNotV, wp_mChain, wp_mChainT, wp_mNil, wp_mCons, wp_mDisp, wp_tupD, wp_lstD, wp_mSl, wp_mNoPart, wp_mPart, wp_intOf, wp_mBm, wp_mMeth, wp_dflS, wp_mIt, wp_mItA, wp_mDict, wp_mpNil, wp_mpCons, wp_mNext, wp_mYes, wp_mLc, ws_mNx, ws_mBrk, ws_mCnt, ws_mRetN, ws_mSeq, ws_mDrop, ws_mRet, ws_mIfS, ws_mAsg, wp_gNm, wp_gsNil, wp_gsCons, wp_gTp, wp_gSubS, ws_mSetI, ws_mSetF, put_some, wp_callS, ws_mFor, ws_nx, ws_ret, wp_gFld, wp_mMethKw, wp_mC, Bool.false_and]
      exact ⟨trivial, Ext.rfl'⟩
  | _ =>
    simp only [isT, Bool.not_false, if_true, wp_ok, wp_bind, wp_noX, wp_mC, wp_mStr, wp_mTru, wp_mBl, wp_blOf, wp_tru_bl, wp_mBin, wp_mUn, wp_mIf, wp_mNotT, wp_mAndT, wp_mOrT, wp_mAndV, wp_mOrV, wp_mNotV, wp_mChain, wp_mChainT, wp_mNil, wp_mCons, wp_mDisp, wp_tupD, wp_lstD, wp_mSl, wp_mNoPart, wp_mPart, wp_intOf, wp_mBm, wp_mMeth, wp_dflS, wp_mIt, wp_mItA, wp_mDict, wp_mpNil, wp_mpCons, wp_mNext, wp_mYes, wp_mLc, ws_mNx, ws_mBrk, ws_mCnt, ws_mRetN, ws_mSeq, ws_mDrop, ws_mRet, ws_mIfS, ws_mAsg, wp_gNm, wp_gsNil, wp_gsCons, wp_gTp, wp_gSubS, ws_mSetI, ws_mSetF, put_some, wp_callS, ws_mFor, ws_nx, ws_ret, wp_gFld, wp_mMethKw, partsOk]
    exact ⟨trivial, Ext.rfl'⟩
theorem two_of {ds : List D} (h : ds.length = 2) : ∃ a b, ds = [a, b] := by
  match ds, h with
  | [a, b], _ => exact ⟨a, b, rfl⟩
theorem is_event_any {S : Sto} {B k : Nat} {e : D} {zs : List Str} (h : gd B S k e = true) : f_is_event_of [e, .tup (zs.map D.str)] S = .ok (.bl (evOk (zs.map D.str) e)) S := by
  have : Wp (f_is_event_of [e, .tup (zs.map D.str)] S) fun y S' => y = .bl (evOk (zs.map D.str) e) ∧ S' = S := by
    unfold f_is_event_of
    simp only [wp_ok, wp_bind, wp_noX, wp_mC, wp_mStr, wp_mTru, wp_mBl, wp_blOf, wp_tru_bl, wp_mBin, wp_mUn, wp_mIf, wp_mNotT, wp_mAndT, wp_mOrT, wp_mAndV, wp_mOrV, wp_mNotV, wp_mChain, wp_mChainT, wp_mNil, wp_mCons, wp_mDisp, wp_tupD, wp_lstD, wp_mSl, wp_mNoPart, wp_mPart, wp_intOf, wp_mBm, wp_mMeth, wp_dflS, wp_mIt, wp_mItA, wp_mDict, wp_mpNil, wp_mpCons, wp_mNext, wp_mYes, wp_mLc, ws_mNx, ws_mBrk, ws_mCnt, ws_mRetN, ws_mSeq, ws_mDrop, ws_mRet, ws_mIfS, ws_mAsg, wp_gNm, wp_gsNil, wp_gsCons, wp_gTp, wp_gSubS, ws_mSetI, ws_mSetF, put_some, wp_callS, ws_mFor, ws_nx, ws_ret, wp_gFld, wp_mMethKw, List.map, List.length, List.replicate, List.cons_append, List.nil_append, N_is_event_of, wp_mVar0, wp_mVarS, isi_tup (gd_kn h)]
    cases e with
    | tup ds =>
      obtain ⟨hl, hd⟩ := gd_tup' h
      simp only [isT, Bool.not_true, Bool.false_eq_true, if_false, lenS, wp_ok]
      rw [nes_int, wp_blOf]
      by_cases c : (ds.length : Int) = 2
      · rw [decide_eq_true c]
        obtain ⟨a, b, rfl⟩ := two_of (show ds.length = 2 by omega)
        have ka := gd_kn (hd a (by simp))
        have kb := gd_kn (hd b (by simp))
        simp only [Bool.not_true, Bool.false_eq_true, if_false, wp_ok, wp_bind, wp_noX, wp_mC, wp_mStr, wp_mTru, wp_mBl, wp_blOf, wp_tru_bl, wp_mBin, wp_mUn, wp_mIf, wp_mNotT, wp_mAndT, wp_mOrT, wp_mAndV, wp_mOrV, wp_mNotV, wp_mChain, wp_mChainT, wp_mNil, wp_mCons, wp_mDisp, wp_tupD, wp_lstD, wp_mSl, wp_mNoPart, wp_mPart, wp_intOf, wp_mBm, wp_mMeth, wp_dflS, wp_mIt, wp_mItA, wp_mDict, wp_mpNil, wp_mpCons, wp_mNext, wp_mYes, wp_mLc, ws_mNx, ws_mBrk, ws_mCnt, ws_mRetN, ws_mSeq, ws_mDrop, ws_mRet, ws_mIfS, ws_mAsg, wp_gNm, wp_gsNil, wp_gsCons, wp_gTp, wp_gSubS, ws_mSetI, ws_mSetF, put_some, wp_callS, ws_mFor, ws_nx, ws_ret, wp_gFld, wp_mMethKw, wp_mVar0, wp_mVarS]
        rw [ix_tup (i := 0) (by decide) (by simp) rfl, isi_str ka, wp_ok, wp_tru_bl]
        cases a with
        | str w =>
          simp only [isSt, if_true, wp_ok, wp_bind, wp_noX, wp_mC, wp_mStr, wp_mTru, wp_mBl, wp_blOf, wp_tru_bl, wp_mBin, wp_mUn, wp_mIf, wp_mNotT, wp_mAndT, wp_mOrT, wp_mAndV, wp_mOrV, wp_mNotV, wp_mChain, wp_mChainT, wp_mNil, wp_mCons, wp_mDisp, wp_tupD, wp_lstD, wp_mSl, wp_mNoPart, wp_mPart, wp_intOf, wp_mBm, wp_mMeth, wp_dflS, wp_mIt, wp_mItA, wp_mDict, wp_mpNil, wp_mpCons, wp_mNext, wp_mYes, wp_mLc, ws_mNx, ws_mBrk, ws_mCnt, ws_mRetN, ws_mSeq, ws_mDrop, ws_mRet, ws_mIfS, ws_mAsg, wp_gNm, wp_gsNil, wp_gsCons, wp_gTp, wp_gSubS, ws_mSetI, ws_mSetF, put_some, wp_callS, ws_mFor, ws_nx, ws_ret, wp_gFld, wp_mMethKw, wp_mVar0, wp_mVarS]
          rw [ix_tup (i := 0) (by decide) (by simp) rfl]
          refine ⟨by simp [sizeLine], ?_⟩
          have i1 := inB_tup (S := S) (x := .str w) (ds := [.str "fail", .str "mend"]) (pl_str _) (pls_of (by simp [D.pl, D.dp]))
          have e1 : decide (D.str w ∈ [D.str "fail", D.str "mend"]) = decide (w = "fail" ∨ w = "mend") := by simp
          simp only [inS, i1, wp_ok, wp_bind, wp_noX, wp_mC, wp_mStr, wp_mTru, wp_mBl, wp_blOf, wp_tru_bl, wp_mBin, wp_mUn, wp_mIf, wp_mNotT, wp_mAndT, wp_mOrT, wp_mAndV, wp_mOrV, wp_mNotV, wp_mChain, wp_mChainT, wp_mNil, wp_mCons, wp_mDisp, wp_tupD, wp_lstD, wp_mSl, wp_mNoPart, wp_mPart, wp_intOf, wp_mBm, wp_mMeth, wp_dflS, wp_mIt, wp_mItA, wp_mDict, wp_mpNil, wp_mpCons, wp_mNext, wp_mYes, wp_mLc, ws_mNx, ws_mBrk, ws_mCnt, ws_mRetN, ws_mSeq, ws_mDrop, ws_mRet, ws_mIfS, ws_mAsg, wp_gNm, wp_gsNil, wp_gsCons, wp_gTp, wp_gSubS, ws_mSetI, ws_mSetF, put_some, wp_callS, ws_mFor, ws_nx, ws_ret, wp_gFld, wp_mMethKw, e1]
          by_cases cw : w = "fail" ∨ w = "mend"
          · rw [decide_eq_true cw]
            simp only [if_true, wp_ok, wp_bind, wp_noX, wp_mC, wp_mStr, wp_mTru, wp_mBl, wp_blOf, wp_tru_bl, wp_mBin, wp_mUn, wp_mIf, wp_mNotT, wp_mAndT, wp_mOrT, wp_mAndV, wp_mOrV, wp_mNotV, wp_mChain, wp_mChainT, wp_mNil, wp_mCons, wp_mDisp, wp_tupD, wp_lstD, wp_mSl, wp_mNoPart, wp_mPart, wp_intOf, wp_mBm, wp_mMeth, wp_dflS, wp_mIt, wp_mItA, wp_mDict, wp_mpNil, wp_mpCons, wp_mNext, wp_mYes, wp_mLc, ws_mNx, ws_mBrk, ws_mCnt, ws_mRetN, ws_mSeq, ws_mDrop, ws_mRet, ws_mIfS, ws_mAsg, wp_gNm, wp_gsNil, wp_gsCons, wp_gTp, wp_gSubS, ws_mSetI, ws_mSetF, put_some, wp_callS, ws_mFor, ws_nx, ws_ret, wp_gFld, wp_mMethKw, wp_mVar0, wp_mVarS]
            rw [ix_tup (i := 1) (by decide) (by simp) rfl, isi_str kb, wp_ok, wp_tru_bl]
            cases b with
            | str v =>
              simp only [isSt, if_true, wp_ok, wp_bind, wp_noX, wp_mC, wp_mStr, wp_mTru, wp_mBl, wp_blOf, wp_tru_bl, wp_mBin, wp_mUn, wp_mIf, wp_mNotT, wp_mAndT, wp_mOrT, wp_mAndV, wp_mOrV, wp_mNotV, wp_mChain, wp_mChainT, wp_mNil, wp_mCons, wp_mDisp, wp_tupD, wp_lstD, wp_mSl, wp_mNoPart, wp_mPart, wp_intOf, wp_mBm, wp_mMeth, wp_dflS, wp_mIt, wp_mItA, wp_mDict, wp_mpNil, wp_mpCons, wp_mNext, wp_mYes, wp_mLc, ws_mNx, ws_mBrk, ws_mCnt, ws_mRetN, ws_mSeq, ws_mDrop, ws_mRet, ws_mIfS, ws_mAsg, wp_gNm, wp_gsNil, wp_gsCons, wp_gTp, wp_gSubS, ws_mSetI, ws_mSetF, put_some, wp_callS, ws_mFor, ws_nx, ws_ret, wp_gFld, wp_mMethKw, wp_mVar0, wp_mVarS]
              rw [ix_tup (i := 1) (by decide) (by simp) rfl]
              have i2 := inB_tup (S := S) (x := .str v) (ds := zs.map D.str) (pl_str _) (pls_strs zs)
              simp only [inS, i2, wp_ok, wp_bind, wp_noX, wp_mC, wp_mStr, wp_mTru, wp_mBl, wp_blOf, wp_tru_bl, wp_mBin, wp_mUn, wp_mIf, wp_mNotT, wp_mAndT, wp_mOrT, wp_mAndV, wp_mOrV, wp_mNotV, wp_mChain, wp_mChainT, wp_mNil, wp_mCons, wp_mDisp, wp_tupD, wp_lstD, wp_mSl, wp_mNoPart, wp_mPart, wp_intOf, wp_mBm, wp_mMeth, wp_dflS, wp_mIt, wp_mItA, wp_mDict, wp_mpNil, wp_mpCons, wp_mNext, wp_mYes, wp_mLc, ws_mNx, ws_mBrk, ws_mCnt, ws_mRetN, ws_mSeq, ws_mDrop, ws_mRet, ws_mIfS, ws_mAsg, wp_gNm, wp_gsNil, wp_gsCons, wp_gTp, wp_gSubS, ws_mSetI, ws_mSetF, put_some, wp_callS, ws_mFor, ws_nx, ws_ret, wp_gFld, wp_mMethKw, evOk, decide_eq_true cw, Bool.true_and]
              first | exact ⟨trivial, trivial⟩ | exact ⟨rfl, trivial⟩ | exact ⟨rfl, rfl⟩ | trivial | simp
            | _ =>
              simp only [isSt, Bool.false_eq_true, if_false, evOk]
              first | exact ⟨trivial, trivial⟩ | exact ⟨rfl, trivial⟩ | exact ⟨rfl, rfl⟩ | trivial | simp
          · rw [decide_eq_false cw]
            simp only [Bool.false_eq_true, if_false]
            cases b <;> simp [evOk, cw] 
        | _ =>
          simp only [isSt, Bool.false_eq_true, if_false, evOk]
          first | exact ⟨trivial, trivial⟩ | exact ⟨rfl, trivial⟩ | exact ⟨rfl, rfl⟩ | trivial | simp
      · rw [decide_eq_false c]
        simp only [Bool.not_false, if_true, wp_ok, wp_bind, wp_noX, wp_mC, wp_mStr, wp_mTru, wp_mBl, wp_blOf, wp_tru_bl, wp_mBin, wp_mUn, wp_mIf, wp_mNotT, wp_mAndT, wp_mOrT, wp_mAndV, wp_mOrV, wp_mNotV, wp_mChain, wp_mChainT, wp_mNil, wp_mCons, wp_mDisp, wp_tupD, wp_lstD, wp_mSl, wp_mNoPart, wp_mPart, wp_intOf, wp_mBm, wp_mMeth, wp_dflS, wp_mIt, wp_mItA, wp_mDict, wp_mpNil, wp_mpCons, wp_mNext, wp_mYes, wp_mLc, ws_mNx, ws_mBrk, ws_mCnt, ws_mRetN, ws_mSeq, ws_mDrop, ws_mRet, ws_mIfS, ws_mAsg, wp_gNm, wp_gsNil, wp_gsCons, wp_gTp, wp_gSubS, ws_mSetI, ws_mSetF, put_some, wp_callS, ws_mFor, ws_nx, ws_ret, wp_gFld, wp_mMethKw]
        have : evOk (zs.map D.str) (.tup ds) = false := by
          unfold evOk
          split
          · rename_i e; cases e; exact absurd rfl c
          · rfl
        rw [this]
        first | exact ⟨rfl, trivial⟩ | exact ⟨rfl, rfl⟩ | exact ⟨trivial, trivial⟩ | exact ⟨trivial, rfl⟩
    | _ =>
      simp only [isT, Bool.not_false, if_true, wp_ok, wp_bind, wp_noX, wp_mC, wp_mStr, wp_mTru, wp_mBl, wp_blOf, wp_tru_bl, wp_mBin, wp_mUn, wp_mIf, wp_mNotT, wp_mAndT, wp_mOrT, wp_mAndV, wp_mOrV, wp_mNotV, wp_mChain, wp_mChainT, wp_mNil, wp_mCons, wp_mDisp, wp_tupD, wp_lstD, wp_mSl, wp_mNoPart, wp_mPart, wp_intOf, wp_mBm, wp_mMeth, wp_dflS, wp_mIt, wp_mItA, wp_mDict, wp_mpNil, wp_mpCons, wp_mNext, wp_mYes, wp_mLc, ws_mNx, ws_mBrk, ws_mCnt, ws_mRetN, ws_mSeq, ws_mDrop, ws_mRet, ws_mIfS, ws_mAsg, wp_gNm, wp_gsNil, wp_gsCons, wp_gTp, wp_gSubS, ws_mSetI, ws_mSetF, put_some, wp_callS, ws_mFor, ws_nx, ws_ret, wp_gFld, wp_mMethKw, evOk]
      first | exact ⟨trivial, trivial⟩ | exact ⟨rfl, trivial⟩ | exact ⟨rfl, rfl⟩ | trivial | simp
  obtain ⟨d, S', e, rfl, rfl⟩ := this
  exact e
theorem is_index_any {S : Sto} {d : D} {n : Nat} (h : Kn S d) : f_is_index [d, .int (n : Int)] S = .ok (.bl (ixOk n d)) S := by
  have : Wp (f_is_index [d, .int (n : Int)] S) fun y S' => y = .bl (ixOk n d) ∧ S' = S := by
    unfold f_is_index
    simp only [wp_ok, wp_bind, wp_noX, wp_mC, wp_mStr, wp_mTru, wp_mBl, wp_blOf, wp_tru_bl, wp_mBin, wp_mUn, wp_mIf, wp_mNotT, wp_mAndT, wp_mOrT, wp_mAndV, wp_mOrV, wp_mNotV, wp_mChain, wp_mChainT, wp_mNil, wp_mCons, wp_mDisp, wp_tupD, wp_lstD, wp_mSl, wp_mNoPart, wp_mPart, wp_intOf, wp_mBm, wp_mMeth, wp_dflS, wp_mIt, wp_mItA, wp_mDict, wp_mpNil, wp_mpCons, wp_mNext, wp_mYes, wp_mLc, ws_mNx, ws_mBrk, ws_mCnt, ws_mRetN, ws_mSeq, ws_mDrop, ws_mRet, ws_mIfS, ws_mAsg, wp_gNm, wp_gsNil, wp_gsCons, wp_gTp, wp_gSubS, ws_mSetI, ws_mSetF, put_some, wp_callS, ws_mFor, ws_nx, ws_ret, wp_gFld, wp_mMethKw, List.map, List.length, List.replicate, List.cons_append, List.nil_append, N_is_index, wp_mVar0, wp_mVarS, isi_int h]
    cases d with
    | int k =>
      simp only [isI, if_true, wp_ok, wp_bind, wp_noX, wp_mC, wp_mStr, wp_mTru, wp_mBl, wp_blOf, wp_tru_bl, wp_mBin, wp_mUn, wp_mIf, wp_mNotT, wp_mAndT, wp_mOrT, wp_mAndV, wp_mOrV, wp_mNotV, wp_mChain, wp_mChainT, wp_mNil, wp_mCons, wp_mDisp, wp_tupD, wp_lstD, wp_mSl, wp_mNoPart, wp_mPart, wp_intOf, wp_mBm, wp_mMeth, wp_dflS, wp_mIt, wp_mItA, wp_mDict, wp_mpNil, wp_mpCons, wp_mNext, wp_mYes, wp_mLc, ws_mNx, ws_mBrk, ws_mCnt, ws_mRetN, ws_mSeq, ws_mDrop, ws_mRet, ws_mIfS, ws_mAsg, wp_gNm, wp_gsNil, wp_gsCons, wp_gTp, wp_gSubS, ws_mSetI, ws_mSetF, put_some, wp_callS, ws_mFor, ws_nx, ws_ret, wp_gFld, wp_mMethKw, wp_mVar0, wp_mVarS, isi_bool h, isBo, Bool.not_false, leS, ltS, ixOk]
      by_cases c1 : (0 : Int) ≤ k
      · rw [if_pos (decide_eq_true c1)]
        simp [c1]
      · rw [if_neg (by simpa using c1)]
        simp [c1]
    | bl b =>
      simp only [isI, if_true, wp_ok, wp_bind, wp_noX, wp_mC, wp_mStr, wp_mTru, wp_mBl, wp_blOf, wp_tru_bl, wp_mBin, wp_mUn, wp_mIf, wp_mNotT, wp_mAndT, wp_mOrT, wp_mAndV, wp_mOrV, wp_mNotV, wp_mChain, wp_mChainT, wp_mNil, wp_mCons, wp_mDisp, wp_tupD, wp_lstD, wp_mSl, wp_mNoPart, wp_mPart, wp_intOf, wp_mBm, wp_mMeth, wp_dflS, wp_mIt, wp_mItA, wp_mDict, wp_mpNil, wp_mpCons, wp_mNext, wp_mYes, wp_mLc, ws_mNx, ws_mBrk, ws_mCnt, ws_mRetN, ws_mSeq, ws_mDrop, ws_mRet, ws_mIfS, ws_mAsg, wp_gNm, wp_gsNil, wp_gsCons, wp_gTp, wp_gSubS, ws_mSetI, ws_mSetF, put_some, wp_callS, ws_mFor, ws_nx, ws_ret, wp_gFld, wp_mMethKw, wp_mVar0, wp_mVarS, isi_bool h, isBo, Bool.not_true, Bool.false_eq_true, if_false, ixOk]
      first | exact ⟨trivial, trivial⟩ | exact ⟨rfl, trivial⟩ | exact ⟨rfl, rfl⟩ | trivial | simp
    | _ =>
      simp only [isI, Bool.false_eq_true, if_false, ixOk]
      first | exact ⟨trivial, trivial⟩ | exact ⟨rfl, trivial⟩ | exact ⟨rfl, rfl⟩ | trivial | simp
  obtain ⟨d, S', e, rfl, rfl⟩ := this
  exact e
theorem is_step_any {S : Sto} {B k n : Nat} {d : D} {zs : List Str} (h : gd B S k d = true) : f_is_step [d, .tup (zs.map D.str), .int (n : Int)] S = .ok (.bl (stepOk (zs.map D.str) n d)) S := by
  have : Wp (f_is_step [d, .tup (zs.map D.str), .int (n : Int)] S) fun y S' => y = .bl (stepOk (zs.map D.str) n d) ∧ S' = S := by
    unfold f_is_step
    simp only [wp_ok, wp_bind, wp_noX, wp_mC, wp_mStr, wp_mTru, wp_mBl, wp_blOf, wp_tru_bl, wp_mBin, wp_mUn, wp_mIf, wp_mNotT, wp_mAndT, wp_mOrT, wp_mAndV, wp_mOrV, wp_mNotV, wp_mChain, wp_mChainT, wp_mNil, wp_mCons, wp_mDisp, wp_tupD, wp_lstD, wp_mSl, wp_mNoPart, wp_mPart, wp_intOf, wp_mBm, wp_mMeth, wp_dflS, wp_mIt, wp_mItA, wp_mDict, wp_mpNil, wp_mpCons, wp_mNext, wp_mYes, wp_mLc, ws_mNx, ws_mBrk, ws_mCnt, ws_mRetN, ws_mSeq, ws_mDrop, ws_mRet, ws_mIfS, ws_mAsg, wp_gNm, wp_gsNil, wp_gsCons, wp_gTp, wp_gSubS, ws_mSetI, ws_mSetF, put_some, wp_callS, ws_mFor, ws_nx, ws_ret, wp_gFld, wp_mMethKw, List.map, List.length, List.replicate, List.cons_append, List.nil_append, N_is_step, wp_mVar0, wp_mVarS, isi_tup (gd_kn h)]
    cases d with
    | tup ds =>
      obtain ⟨hl, hd⟩ := gd_tup' h
      simp only [isT, if_true, lenS, wp_ok, wp_bind, wp_noX, wp_mC, wp_mStr, wp_mTru, wp_mBl, wp_blOf, wp_tru_bl, wp_mBin, wp_mUn, wp_mIf, wp_mNotT, wp_mAndT, wp_mOrT, wp_mAndV, wp_mOrV, wp_mNotV, wp_mChain, wp_mChainT, wp_mNil, wp_mCons, wp_mDisp, wp_tupD, wp_lstD, wp_mSl, wp_mNoPart, wp_mPart, wp_intOf, wp_mBm, wp_mMeth, wp_dflS, wp_mIt, wp_mItA, wp_mDict, wp_mpNil, wp_mpCons, wp_mNext, wp_mYes, wp_mLc, ws_mNx, ws_mBrk, ws_mCnt, ws_mRetN, ws_mSeq, ws_mDrop, ws_mRet, ws_mIfS, ws_mAsg, wp_gNm, wp_gsNil, wp_gsCons, wp_gTp, wp_gSubS, ws_mSetI, ws_mSetF, put_some, wp_callS, ws_mFor, ws_nx, ws_ret, wp_gFld, wp_mMethKw, wp_mVar0, wp_mVarS]
      rw [eqs_int, wp_tru_bl]
      by_cases c : (ds.length : Int) = 2
      · rw [decide_eq_true c]
        obtain ⟨a, b, rfl⟩ := two_of (show ds.length = 2 by omega)
        simp only [if_true, wp_ok, wp_bind, wp_noX, wp_mC, wp_mStr, wp_mTru, wp_mBl, wp_blOf, wp_tru_bl, wp_mBin, wp_mUn, wp_mIf, wp_mNotT, wp_mAndT, wp_mOrT, wp_mAndV, wp_mOrV, wp_mNotV, wp_mChain, wp_mChainT, wp_mNil, wp_mCons, wp_mDisp, wp_tupD, wp_lstD, wp_mSl, wp_mNoPart, wp_mPart, wp_intOf, wp_mBm, wp_mMeth, wp_dflS, wp_mIt, wp_mItA, wp_mDict, wp_mpNil, wp_mpCons, wp_mNext, wp_mYes, wp_mLc, ws_mNx, ws_mBrk, ws_mCnt, ws_mRetN, ws_mSeq, ws_mDrop, ws_mRet, ws_mIfS, ws_mAsg, wp_gNm, wp_gsNil, wp_gsCons, wp_gTp, wp_gSubS, ws_mSetI, ws_mSetF, put_some, wp_callS, ws_mFor, ws_nx, ws_ret, wp_gFld, wp_mMethKw, wp_mVar0, wp_mVarS]
        rw [ix_tup (i := 0) (by decide) (by simp) rfl]
        simp only [List.append_nil, List.length_cons, List.length_nil, Nat.zero_add, Nat.add_zero, true_and, is_event_any (hd a (by simp)), wp_ok, wp_bind, wp_noX, wp_mC, wp_mStr, wp_mTru, wp_mBl, wp_blOf, wp_tru_bl, wp_mBin, wp_mUn, wp_mIf, wp_mNotT, wp_mAndT, wp_mOrT, wp_mAndV, wp_mOrV, wp_mNotV, wp_mChain, wp_mChainT, wp_mNil, wp_mCons, wp_mDisp, wp_tupD, wp_lstD, wp_mSl, wp_mNoPart, wp_mPart, wp_intOf, wp_mBm, wp_mMeth, wp_dflS, wp_mIt, wp_mItA, wp_mDict, wp_mpNil, wp_mpCons, wp_mNext, wp_mYes, wp_mLc, ws_mNx, ws_mBrk, ws_mCnt, ws_mRetN, ws_mSeq, ws_mDrop, ws_mRet, ws_mIfS, ws_mAsg, wp_gNm, wp_gsNil, wp_gsCons, wp_gTp, wp_gSubS, ws_mSetI, ws_mSetF, put_some, wp_callS, ws_mFor, ws_nx, ws_ret, wp_gFld, wp_mMethKw, stepOk]
        cases evOk (zs.map D.str) a with
        | true =>
          simp only [if_true, wp_ok, wp_bind, wp_noX, wp_mC, wp_mStr, wp_mTru, wp_mBl, wp_blOf, wp_tru_bl, wp_mBin, wp_mUn, wp_mIf, wp_mNotT, wp_mAndT, wp_mOrT, wp_mAndV, wp_mOrV, wp_mNotV, wp_mChain, wp_mChainT, wp_mNil, wp_mCons, wp_mDisp, wp_tupD, wp_lstD, wp_mSl, wp_mNoPart, wp_mPart, wp_intOf, wp_mBm, wp_mMeth, wp_dflS, wp_mIt, wp_mItA, wp_mDict, wp_mpNil, wp_mpCons, wp_mNext, wp_mYes, wp_mLc, ws_mNx, ws_mBrk, ws_mCnt, ws_mRetN, ws_mSeq, ws_mDrop, ws_mRet, ws_mIfS, ws_mAsg, wp_gNm, wp_gsNil, wp_gsCons, wp_gTp, wp_gSubS, ws_mSetI, ws_mSetF, put_some, wp_callS, ws_mFor, ws_nx, ws_ret, wp_gFld, wp_mMethKw, wp_mVar0, wp_mVarS, Bool.true_and]
          rw [ix_tup (i := 1) (by decide) (by simp) rfl]
          simp only [List.append_nil, List.length_cons, List.length_nil, Nat.zero_add, Nat.add_zero, true_and, is_index_any (gd_kn (hd b (by simp))), wp_ok, wp_bind, wp_noX, wp_mC, wp_mStr, wp_mTru, wp_mBl, wp_blOf, wp_tru_bl, wp_mBin, wp_mUn, wp_mIf, wp_mNotT, wp_mAndT, wp_mOrT, wp_mAndV, wp_mOrV, wp_mNotV, wp_mChain, wp_mChainT, wp_mNil, wp_mCons, wp_mDisp, wp_tupD, wp_lstD, wp_mSl, wp_mNoPart, wp_mPart, wp_intOf, wp_mBm, wp_mMeth, wp_dflS, wp_mIt, wp_mItA, wp_mDict, wp_mpNil, wp_mpCons, wp_mNext, wp_mYes, wp_mLc, ws_mNx, ws_mBrk, ws_mCnt, ws_mRetN, ws_mSeq, ws_mDrop, ws_mRet, ws_mIfS, ws_mAsg, wp_gNm, wp_gsNil, wp_gsCons, wp_gTp, wp_gSubS, ws_mSetI, ws_mSetF, put_some, wp_callS, ws_mFor, ws_nx, ws_ret, wp_gFld, wp_mMethKw]
          first | done | exact ⟨trivial, trivial⟩
        | false =>
          simp only [Bool.false_eq_true, if_false, Bool.false_and]
          first | done | exact ⟨trivial, trivial⟩
      · rw [decide_eq_false c]
        simp only [Bool.false_eq_true, if_false]
        have : stepOk (zs.map D.str) n (.tup ds) = false := by
          unfold stepOk
          split
          · rename_i e; cases e; exact absurd rfl c
          · rfl
        rw [this]
        first | exact ⟨rfl, trivial⟩ | exact ⟨rfl, rfl⟩ | exact ⟨trivial, trivial⟩ | exact ⟨trivial, rfl⟩
    | _ =>
      simp only [isT, Bool.false_eq_true, if_false, stepOk]
      first | exact ⟨trivial, trivial⟩ | exact ⟨rfl, trivial⟩ | exact ⟨rfl, rfl⟩ | trivial | simp
  obtain ⟨d, S', e, rfl, rfl⟩ := this
  exact e
end K20
/-! J07 -/
set_option Elab.async false
set_option autoImplicit false
set_option linter.all false
set_option maxRecDepth 100000
set_option maxHeartbeats 1000000
namespace K20
open PySem PySem.Spec MP
open L2 hiding prD

/-! rows, making a machine of any values -/
theorem fst_of {pd : List D} {n : Nat} {s : D} (h : stepOk pd n s = true) : ∃ a b, s = .tup [a, b] := by
  unfold stepOk at h
  split at h
  · exact ⟨_, _, rfl⟩
  · cases h
theorem pls_prs (l : List (Str × Str)) : Pls (l.map prD) := pls_map fun x _ => ⟨by simp [prD, D.pl, D.pls], by simp [prD, D.dp, D.dps]⟩
theorem srt_prs (l : List (Str × Str)) : Pls (srt (l.map prD)) := pls_of fun d hd => by
  obtain ⟨w, _, rfl⟩ := List.mem_map.mp (srt_mem.mp hd)
  exact ⟨by simp [prD, D.pl, D.pls], by simp [prD, D.dp, D.dps]⟩
theorem events_eq {S : Sto} {n N : Nat} {pd ss : List D} (hs : ss.all (stepOk pd n) = true) (hl : ss.length < 60) (hN : S[N]? = some (.lst (ss.map fstD))) :
    Wp (ssetT [.ptr N] S) fun y S1 => Wp (eqS (.ptr N) y S1) fun z S' => z = .bl (decide (ss.map fstD = srt ((once ((ss.map fstD).filterMap prOf)).map prD))) ∧ Ext [] S S' := by
  have e := steps_prs hs
  have hu : ssetT [.ptr N] S = newL (srt ((once ((ss.map fstD).filterMap prOf)).map prD)) S := by
    have hp : prsOf (ss.map fstD) = some ((ss.map fstD).filterMap prOf) := by
      conv => lhs; rw [e]
      exact prsOf_map _
    simp only [ssetT, listAt, hN, hp]
    have : ((ss.map fstD).filterMap prOf).length = ss.length := by
      have := congrArg List.length e
      rw [List.length_map, List.length_map] at this
      exact this.symm
    rw [if_pos (by omega)]
  have pl1 : Pls (ss.map fstD) := by rw [e]; exact pls_prs _
  rw [hu, newL, wp_ok, eqS_lst pl1 (srt_prs _) (get_old hN) get_push, wp_ok]
  exact ⟨rfl, Ext.push _⟩
theorem is_row_any {S : Sto} {B k n : Nat} {d : D} {zs : List Str} (hk : k ≤ 20) (h : gd B S k d = true) : Wp (f_is_row [d, .tup (zs.map D.str), .int (n : Int)] S) fun y S' => y = .bl (rowOk (zs.map D.str) n d) ∧ Ext [] S S' := by
  unfold f_is_row
  rw [wp_callS]
  simp only [List.map, List.length, List.replicate, List.cons_append, List.nil_append, N_is_row]
  simp only [wp_ok, wp_bind, wp_noX, wp_mC, wp_mStr, wp_mTru, wp_mBl, wp_blOf, wp_tru_bl, wp_mBin, wp_mUn, wp_mIf, wp_mNotT, wp_mAndT, wp_mOrT, wp_mAndV, wp_mOrV, wp_mNotV, wp_mChain, wp_mChainT, wp_mNil, wp_mCons, wp_mDisp, wp_tupD, wp_lstD, wp_mSl, wp_mNoPart, wp_mPart, wp_intOf, wp_mBm, wp_mMeth, wp_dflS, wp_mIt, wp_mItA, wp_mDict, wp_mpNil, wp_mpCons, wp_mNext, wp_mYes, wp_mLc, ws_mNx, ws_mBrk, ws_mCnt, ws_mRetN, ws_mSeq, ws_mDrop, ws_mRet, ws_mIfS, ws_mAsg, wp_gNm, wp_gsNil, wp_gsCons, wp_gTp, wp_gSubS, ws_mSetI, ws_mSetF, put_some, wp_callS, ws_mFor, ws_nx, ws_ret, wp_gFld, wp_mMethKw, wp_mVar0, wp_mVarS, isi_tup (gd_kn h)]
  cases d with
  | tup ds =>
    obtain ⟨hl, hd⟩ := gd_tup' h
    simp only [isT, Bool.not_true, Bool.false_eq_true, if_false, lenS, wp_ok]
    rw [nes_int, wp_blOf]
    by_cases c : (ds.length : Int) = 2
    · rw [decide_eq_true c]
      obtain ⟨a, b, rfl⟩ := two_of (show ds.length = 2 by omega)
      have ga := hd a (by simp)
      have gb := hd b (by simp)
      simp only [Bool.not_true, Bool.false_eq_true, if_false, wp_ok, wp_bind, wp_noX, wp_mC, wp_mStr, wp_mTru, wp_mBl, wp_blOf, wp_tru_bl, wp_mBin, wp_mUn, wp_mIf, wp_mNotT, wp_mAndT, wp_mOrT, wp_mAndV, wp_mOrV, wp_mNotV, wp_mChain, wp_mChainT, wp_mNil, wp_mCons, wp_mDisp, wp_tupD, wp_lstD, wp_mSl, wp_mNoPart, wp_mPart, wp_intOf, wp_mBm, wp_mMeth, wp_dflS, wp_mIt, wp_mItA, wp_mDict, wp_mpNil, wp_mpCons, wp_mNext, wp_mYes, wp_mLc, ws_mNx, ws_mBrk, ws_mCnt, ws_mRetN, ws_mSeq, ws_mDrop, ws_mRet, ws_mIfS, ws_mAsg, wp_gNm, wp_gsNil, wp_gsCons, wp_gTp, wp_gSubS, ws_mSetI, ws_mSetF, put_some, wp_callS, ws_mFor, ws_nx, ws_ret, wp_gFld, wp_mMethKw, wp_mVar0, wp_mVarS, List.set, itemsOf, List.length_cons, List.length_nil, true_and, isi_bool (gd_kn ga), isi_tup (gd_kn gb)]
      cases a with
      | bl bb =>
        simp only [isBo, Bool.not_true, Bool.false_eq_true, if_false]
        cases b with
        | tup ss =>
          obtain ⟨hl2, hd2⟩ := gd_tup' gb
          simp only [isT, Bool.not_true, Bool.false_eq_true, if_false, wp_ok, wp_bind, wp_noX, wp_mC, wp_mStr, wp_mTru, wp_mBl, wp_blOf, wp_tru_bl, wp_mBin, wp_mUn, wp_mIf, wp_mNotT, wp_mAndT, wp_mOrT, wp_mAndV, wp_mOrV, wp_mNotV, wp_mChain, wp_mChainT, wp_mNil, wp_mCons, wp_mDisp, wp_tupD, wp_lstD, wp_mSl, wp_mNoPart, wp_mPart, wp_intOf, wp_mBm, wp_mMeth, wp_dflS, wp_mIt, wp_mItA, wp_mDict, wp_mpNil, wp_mpCons, wp_mNext, wp_mYes, wp_mLc, ws_mNx, ws_mBrk, ws_mCnt, ws_mRetN, ws_mSeq, ws_mDrop, ws_mRet, ws_mIfS, ws_mAsg, wp_gNm, wp_gsNil, wp_gsCons, wp_gTp, wp_gSubS, ws_mSetI, ws_mSetF, put_some, wp_callS, ws_mFor, ws_nx, ws_ret, wp_gFld, wp_mMethKw, wp_mVar0, wp_mVarS, List.set]
          rw [iter_tup, wp_ok]
          have e0 : rowOk (zs.map D.str) n (.tup [.bl bb, .tup ss]) = (ss.all (stepOk (zs.map D.str) n) && decide (ss.map fstD = srt ((once ((ss.map fstD).filterMap prOf)).map prD))) := rfl
          rw [e0]
          refine wp_lc (ms := []) (X := fun _ => True) (f := fun _ => true) (P := fun d y => y = D.bl (stepOk (zs.map D.str) n d)) (by simp) trivial (fun _ _ _ _ => trivial) (fun _ _ => rfl) (fun _ _ => rfl) (by simp [srcT, sizeLine]; omega) ?_ ?_
          · intro dd hdd S9 x9 _
            simp only [srcT] at hdd
            have g9 := gd_ext x9 (by simp) k dd (hd2 dd hdd)
            simp only [wp_ok, wp_bind, wp_noX, wp_mC, wp_mStr, wp_mTru, wp_mBl, wp_blOf, wp_tru_bl, wp_mBin, wp_mUn, wp_mIf, wp_mNotT, wp_mAndT, wp_mOrT, wp_mAndV, wp_mOrV, wp_mNotV, wp_mChain, wp_mChainT, wp_mNil, wp_mCons, wp_mDisp, wp_tupD, wp_lstD, wp_mSl, wp_mNoPart, wp_mPart, wp_intOf, wp_mBm, wp_mMeth, wp_dflS, wp_mIt, wp_mItA, wp_mDict, wp_mpNil, wp_mpCons, wp_mNext, wp_mYes, wp_mLc, ws_mNx, ws_mBrk, ws_mCnt, ws_mRetN, ws_mSeq, ws_mDrop, ws_mRet, ws_mIfS, ws_mAsg, wp_gNm, wp_gsNil, wp_gsCons, wp_gTp, wp_gSubS, ws_mSetI, ws_mSetF, put_some, wp_callS, ws_mFor, ws_nx, ws_ret, wp_gFld, wp_mMethKw, wipeR, List.set, wp_mVar0, wp_mVarS, List.append_nil, List.length_cons, List.length_nil, Nat.zero_add, Nat.add_zero, true_and, is_step_any g9]
            exact ⟨fun _ => ⟨Ext.rfl', trivial⟩, by simp⟩
          · intro acc S9 ha9 x9 _ hg9
            have ea := ha9.eq_map
            rw [List.filter_eq_self.mpr (fun _ _ => rfl)] at ea
            subst ea
            rw [quant_all hg9, wp_ok, wp_tru_bl]
            simp only [srcT]
            by_cases hs : ss.all (stepOk (zs.map D.str) n) = true
            rotate_left
            · have hs' : ss.all (stepOk (zs.map D.str) n) = false := by simpa using hs
              simp only [hs', Bool.not_false, if_true, wp_ok, wp_bind, wp_noX, wp_mC, wp_mStr, wp_mTru, wp_mBl, wp_blOf, wp_tru_bl, wp_mBin, wp_mUn, wp_mIf, wp_mNotT, wp_mAndT, wp_mOrT, wp_mAndV, wp_mOrV, wp_mNotV, wp_mChain, wp_mChainT, wp_mNil, wp_mCons, wp_mDisp, wp_tupD, wp_lstD, wp_mSl, wp_mNoPart, wp_mPart, wp_intOf, wp_mBm, wp_mMeth, wp_dflS, wp_mIt, wp_mItA, wp_mDict, wp_mpNil, wp_mpCons, wp_mNext, wp_mYes, wp_mLc, ws_mNx, ws_mBrk, ws_mCnt, ws_mRetN, ws_mSeq, ws_mDrop, ws_mRet, ws_mIfS, ws_mAsg, wp_gNm, wp_gsNil, wp_gsCons, wp_gTp, wp_gSubS, ws_mSetI, ws_mSetF, put_some, wp_callS, ws_mFor, ws_nx, ws_ret, wp_gFld, wp_mMethKw, Bool.false_and]
              exact ⟨trivial, x9⟩
            · simp only [hs, Bool.not_true, Bool.false_eq_true, if_false, wp_ok, wp_bind, wp_noX, wp_mC, wp_mStr, wp_mTru, wp_mBl, wp_blOf, wp_tru_bl, wp_mBin, wp_mUn, wp_mIf, wp_mNotT, wp_mAndT, wp_mOrT, wp_mAndV, wp_mOrV, wp_mNotV, wp_mChain, wp_mChainT, wp_mNil, wp_mCons, wp_mDisp, wp_tupD, wp_lstD, wp_mSl, wp_mNoPart, wp_mPart, wp_intOf, wp_mBm, wp_mMeth, wp_dflS, wp_mIt, wp_mItA, wp_mDict, wp_mpNil, wp_mpCons, wp_mNext, wp_mYes, wp_mLc, ws_mNx, ws_mBrk, ws_mCnt, ws_mRetN, ws_mSeq, ws_mDrop, ws_mRet, ws_mIfS, ws_mAsg, wp_gNm, wp_gsNil, wp_gsCons, wp_gTp, wp_gSubS, ws_mSetI, ws_mSetF, put_some, wp_callS, ws_mFor, ws_nx, ws_ret, wp_gFld, wp_mMethKw, wp_mVar0, wp_mVarS, Bool.true_and]
              rw [iter_tup, wp_ok]
              refine wp_lc (ms := []) (X := fun _ => True) (f := fun _ => true) (P := fun d y => y = fstD d) (by simp) trivial (fun _ _ _ _ => trivial) (fun _ _ => rfl) (fun _ _ => rfl) (by simp [srcT, sizeLine]; omega) ?_ ?_
              · intro dd hdd S8 x8 _
                simp only [srcT] at hdd
                obtain ⟨e, kk, rfl⟩ := fst_of (List.all_eq_true.mp hs dd hdd)
                simp only [wp_ok, wp_bind, wp_noX, wp_mC, wp_mStr, wp_mTru, wp_mBl, wp_blOf, wp_tru_bl, wp_mBin, wp_mUn, wp_mIf, wp_mNotT, wp_mAndT, wp_mOrT, wp_mAndV, wp_mOrV, wp_mNotV, wp_mChain, wp_mChainT, wp_mNil, wp_mCons, wp_mDisp, wp_tupD, wp_lstD, wp_mSl, wp_mNoPart, wp_mPart, wp_intOf, wp_mBm, wp_mMeth, wp_dflS, wp_mIt, wp_mItA, wp_mDict, wp_mpNil, wp_mpCons, wp_mNext, wp_mYes, wp_mLc, ws_mNx, ws_mBrk, ws_mCnt, ws_mRetN, ws_mSeq, ws_mDrop, ws_mRet, ws_mIfS, ws_mAsg, wp_gNm, wp_gsNil, wp_gsCons, wp_gTp, wp_gSubS, ws_mSetI, ws_mSetF, put_some, wp_callS, ws_mFor, ws_nx, ws_ret, wp_gFld, wp_mMethKw, wipeR, List.set, wp_mVar0, wp_mVarS, itemsOf, List.length_cons, List.length_nil, true_and]
                exact ⟨fun _ => ⟨rfl, Ext.rfl', trivial⟩, by simp⟩
              · intro acc2 S8 ha8 x8 _ hg8
                have ea := ha8.eq_map
                rw [List.filter_eq_self.mpr (fun _ _ => rfl)] at ea
                subst ea
                exact (events_eq hs (by omega) hg8).imp fun y S7 q => q.imp fun z S6 ⟨e1, x6⟩ => ⟨e1, (x9.trans x8).trans x6⟩
        | _ =>
          simp only [isT, Bool.not_false, if_true, wp_ok, wp_bind, wp_noX, wp_mC, wp_mStr, wp_mTru, wp_mBl, wp_blOf, wp_tru_bl, wp_mBin, wp_mUn, wp_mIf, wp_mNotT, wp_mAndT, wp_mOrT, wp_mAndV, wp_mOrV, wp_mNotV, wp_mChain, wp_mChainT, wp_mNil, wp_mCons, wp_mDisp, wp_tupD, wp_lstD, wp_mSl, wp_mNoPart, wp_mPart, wp_intOf, wp_mBm, wp_mMeth, wp_dflS, wp_mIt, wp_mItA, wp_mDict, wp_mpNil, wp_mpCons, wp_mNext, wp_mYes, wp_mLc, ws_mNx, ws_mBrk, ws_mCnt, ws_mRetN, ws_mSeq, ws_mDrop, ws_mRet, ws_mIfS, ws_mAsg, wp_gNm, wp_gsNil, wp_gsCons, wp_gTp, wp_gSubS, ws_mSetI, ws_mSetF, put_some, wp_callS, ws_mFor, ws_nx, ws_ret, wp_gFld, wp_mMethKw, rowOk]
          first | exact ⟨trivial, Ext.rfl'⟩ | exact ⟨rfl, Ext.rfl'⟩
      | _ =>
        simp only [isBo, Bool.not_false, if_true, wp_ok, wp_bind, wp_noX, wp_mC, wp_mStr, wp_mTru, wp_mBl, wp_blOf, wp_tru_bl, wp_mBin, wp_mUn, wp_mIf, wp_mNotT, wp_mAndT, wp_mOrT, wp_mAndV, wp_mOrV, wp_mNotV, wp_mChain, wp_mChainT, wp_mNil, wp_mCons, wp_mDisp, wp_tupD, wp_lstD, wp_mSl, wp_mNoPart, wp_mPart, wp_intOf, wp_mBm, wp_mMeth, wp_dflS, wp_mIt, wp_mItA, wp_mDict, wp_mpNil, wp_mpCons, wp_mNext, wp_mYes, wp_mLc, ws_mNx, ws_mBrk, ws_mCnt, ws_mRetN, ws_mSeq, ws_mDrop, ws_mRet, ws_mIfS, ws_mAsg, wp_gNm, wp_gsNil, wp_gsCons, wp_gTp, wp_gSubS, ws_mSetI, ws_mSetF, put_some, wp_callS, ws_mFor, ws_nx, ws_ret, wp_gFld, wp_mMethKw, rowOk]
        first | exact ⟨trivial, Ext.rfl'⟩ | exact ⟨rfl, Ext.rfl'⟩
    · rw [decide_eq_false c]
      simp only [Bool.not_false, if_true, wp_ok, wp_bind, wp_noX, wp_mC, wp_mStr, wp_mTru, wp_mBl, wp_blOf, wp_tru_bl, wp_mBin, wp_mUn, wp_mIf, wp_mNotT, wp_mAndT, wp_mOrT, wp_mAndV, wp_mOrV, wp_mNotV, wp_mChain, wp_mChainT, wp_mNil, wp_mCons, wp_mDisp, wp_tupD, wp_lstD, wp_mSl, wp_mNoPart, wp_mPart, wp_intOf, wp_mBm, wp_mMeth, wp_dflS, wp_mIt, wp_mItA, wp_mDict, wp_mpNil, wp_mpCons, wp_mNext, wp_mYes, wp_mLc, ws_mNx, ws_mBrk, ws_mCnt, ws_mRetN, ws_mSeq, ws_mDrop, ws_mRet, ws_mIfS, ws_mAsg, wp_gNm, wp_gsNil, wp_gsCons, wp_gTp, wp_gSubS, ws_mSetI, ws_mSetF, put_some, wp_callS, ws_mFor, ws_nx, ws_ret, wp_gFld, wp_mMethKw]
      have : rowOk (zs.map D.str) n (.tup ds) = false := by
        unfold rowOk
        split
        · rename_i e; cases e; exact absurd rfl c
        · rfl
      rw [this]
      first | exact ⟨trivial, Ext.rfl'⟩ | exact ⟨rfl, Ext.rfl'⟩
  | _ =>
    simp only [isT, Bool.not_false, if_true, wp_ok, wp_bind, wp_noX, wp_mC, wp_mStr, wp_mTru, wp_mBl, wp_blOf, wp_tru_bl, wp_mBin, wp_mUn, wp_mIf, wp_mNotT, wp_mAndT, wp_mOrT, wp_mAndV, wp_mOrV, wp_mNotV, wp_mChain, wp_mChainT, wp_mNil, wp_mCons, wp_mDisp, wp_tupD, wp_lstD, wp_mSl, wp_mNoPart, wp_mPart, wp_intOf, wp_mBm, wp_mMeth, wp_dflS, wp_mIt, wp_mItA, wp_mDict, wp_mpNil, wp_mpCons, wp_mNext, wp_mYes, wp_mLc, ws_mNx, ws_mBrk, ws_mCnt, ws_mRetN, ws_mSeq, ws_mDrop, ws_mRet, ws_mIfS, ws_mAsg, wp_gNm, wp_gsNil, wp_gsCons, wp_gTp, wp_gSubS, ws_mSetI, ws_mSetF, put_some, wp_callS, ws_mFor, ws_nx, ws_ret, wp_gFld, wp_mMethKw, rowOk]
    first | exact ⟨trivial, Ext.rfl'⟩ | exact ⟨rfl, Ext.rfl'⟩
end K20
/-! J08 -/
set_option Elab.async false
set_option autoImplicit false
set_option linter.all false
set_option maxRecDepth 100000
set_option maxHeartbeats 1000000
namespace K20
open PySem PySem.Spec MP
open L2 hiding prD

/-! making a machine of any values -/
theorem setF_ok {c f : Str} {n : Nat} {fs : List (Str × D)} {S : Sto} {d : D} (h : S[n]? = some (.ins c fs)) (hl : fs.length < 1000) : setF c f (.ptr n) d S = some (S.set n (.ins c (fput f d fs))) := by
  simp only [setF, insAt, h, if_true, hl]
theorem fld_ok {c f : Str} {n : Nat} {fs : List (Str × D)} {S : Sto} {d : D} {Q : D → Sto → Prop} (h : S[n]? = some (.ins c fs)) (e : fs.lookup f = some d) : Wp (fldS c f (.ptr n) S) Q ↔ Q d S := by
  simp only [fldS, insAt, h, if_true, e, wp_ok]
theorem ifs_never {c : M Bool} {r : MS} {ρ : Rho} {S : Sto} {N B C : Rho → Sto → Prop} {R : D → Sto → Prop} (h : Wp (c ρ S) fun b S1 => b = false ∧ N ρ S1) : WpS (mIfS c r mNx ρ S) N B C R := by
  rw [ws_mIfS]
  refine h.imp fun b S1 ⟨e, k⟩ => ?_
  subst e
  simp only [Bool.false_eq_true, if_false, ws_mNx]
  exact k
theorem WpY.s {r : Rs Fl} {N B C : Rho → Sto → Prop} {R : D → Sto → Prop} (h : WpY (fun _ _ _ => False) r N B C R) : WpS r N B C R := by
  cases r with
  | ok f S =>
    cases f with
    | exn _ _ => exact h.elim
    | _ => exact ⟨_, _, rfl, h⟩
  | exn _ _ => exact h.elim
  | bad => exact h.elim
def fm1 (x : D) : List (Str × D) := [("m_parts", x)]
def fm (x y : D) : List (Str × D) := [("m_parts", x), ("m_rows", y)]
theorem right_p {x y : D} (h : partsOk x = false) : right x y = false := by
  unfold right
  split
  · rw [h, Bool.false_and]
  · rfl
theorem right_t {x y : D} (h : isT y = false) : right x y = false := by
  unfold right
  split
  · simp [isT] at h
  · rfl
theorem parts_strs {x : D} (h : partsOk x = true) : ∃ zs : List Str, x = .tup (zs.map D.str) ∧ zs.length ≤ 8 := by
  cases x with
  | tup ds =>
    have h' : (decide (1 ≤ ds.length ∧ ds.length ≤ 8) && (ds.all isNm && decide (ds = srt ((onceS (zsOf ds)).map D.str)))) = true := h
    simp only [Bool.and_eq_true, decide_eq_true_eq] at h'
    have e := strs_zs h'.2.1
    refine ⟨zsOf ds, by rw [← e], ?_⟩
    have := congrArg List.length e
    rw [List.length_map] at this
    omega
  | _ => simp [partsOk] at h
theorem right_is {zs : List Str} {rd : List D} (h : partsOk (.tup (zs.map D.str)) = true) : right (.tup (zs.map D.str)) (.tup rd) = (decide (rd ≠ []) && rd.all (rowOk (zs.map D.str) rd.length)) := by
  show (partsOk (.tup (zs.map D.str)) && _) = _
  rw [h, Bool.true_and]
theorem init_any {S : Sto} {n B k : Nat} {x y : D} (hk : k ≤ 20) (hn : S[n]? = some (.ins "Machine" [])) (hx : gd B S k x = true) (hy : gd B S k y = true) :
    WpX (fun z T => right x y = false ∧ z = ⟨"BadMachine", []⟩ ∧ Ext [n] S T) (f_Machine___init__ [.ptr n, x, y] S) fun d T => d = .non ∧ right x y = true ∧ T[n]? = some (.ins "Machine" (fm x y)) ∧ Ext [n] S T := by
  unfold f_Machine___init__
  rw [wx_callS]
  simp only [List.map, List.length, List.replicate, List.cons_append, List.nil_append, N_Machine___init__]
  rw [wy_mSeq, wy_mIfS]
  refine Wp.x ?_
  simp only [wp_ok, wp_bind, wp_noX, wp_mC, wp_mStr, wp_mTru, wp_mBl, wp_blOf, wp_tru_bl, wp_mBin, wp_mUn, wp_mIf, wp_mNotT, wp_mAndT, wp_mOrT, wp_mAndV, wp_mOrV, wp_mNotV, wp_mChain, wp_mChainT, wp_mNil, wp_mCons, wp_mDisp, wp_tupD, wp_lstD, wp_mSl, wp_mNoPart, wp_mPart, wp_intOf, wp_mBm, wp_mMeth, wp_dflS, wp_mIt, wp_mItA, wp_mDict, wp_mpNil, wp_mpCons, wp_mNext, wp_mYes, wp_mLc, ws_mNx, ws_mBrk, ws_mCnt, ws_mRetN, ws_mSeq, ws_mDrop, ws_mRet, ws_mIfS, ws_mAsg, wp_gNm, wp_gsNil, wp_gsCons, wp_gTp, wp_gSubS, ws_mSetI, ws_mSetF, put_some, wp_callS, ws_mFor, ws_nx, ws_ret, wp_gFld, wp_mMethKw, wp_mVar0, wp_mVarS, List.append_nil, List.length_cons, List.length_nil, Nat.zero_add, Nat.add_zero, true_and]
  refine (are_parts_any hx).imp fun d S1 ⟨e, x1⟩ => ?_
  subst e
  rw [wp_tru_bl]
  by_cases hp : partsOk x = true
  rotate_left
  · have hp' : partsOk x = false := by simpa using hp
    simp only [hp', Bool.not_false, if_true, wy_mRaise0]
    exact ⟨right_p hp', trivial, x1.mono (by simp)⟩
  simp only [hp, Bool.not_true, Bool.false_eq_true, if_false, wy_mNx]
  obtain ⟨zs, rfl, lz⟩ := parts_strs hp
  have hy1 := gd_ext x1 (by simp) k y hy
  rw [wy_mSeq, wy_mIfS]
  refine Wp.x ?_
  simp only [wp_ok, wp_bind, wp_noX, wp_mC, wp_mStr, wp_mTru, wp_mBl, wp_blOf, wp_tru_bl, wp_mBin, wp_mUn, wp_mIf, wp_mNotT, wp_mAndT, wp_mOrT, wp_mAndV, wp_mOrV, wp_mNotV, wp_mChain, wp_mChainT, wp_mNil, wp_mCons, wp_mDisp, wp_tupD, wp_lstD, wp_mSl, wp_mNoPart, wp_mPart, wp_intOf, wp_mBm, wp_mMeth, wp_dflS, wp_mIt, wp_mItA, wp_mDict, wp_mpNil, wp_mpCons, wp_mNext, wp_mYes, wp_mLc, ws_mNx, ws_mBrk, ws_mCnt, ws_mRetN, ws_mSeq, ws_mDrop, ws_mRet, ws_mIfS, ws_mAsg, wp_gNm, wp_gsNil, wp_gsCons, wp_gTp, wp_gSubS, ws_mSetI, ws_mSetF, put_some, wp_callS, ws_mFor, ws_nx, ws_ret, wp_gFld, wp_mMethKw, wp_mVar0, wp_mVarS, isi_tup (gd_kn hy1)]
  cases y with
  | tup rd =>
    obtain ⟨lr, hr⟩ := gd_tup' hy1
    simp only [isT, Bool.not_true, Bool.false_eq_true, if_false, lenS, wp_ok]
    rw [eqs_int, wp_blOf, right_is hp]
    by_cases c0 : (rd.length : Int) = 0
    · have : rd = [] := List.length_eq_zero_iff.mp (by omega)
      subst this
      simp only [List.length_nil, Int.natCast_zero, decide_true, if_true, wy_mRaise0]
      exact ⟨by simp, trivial, x1.mono (by simp)⟩
    rw [decide_eq_false c0]
    have rne : rd ≠ [] := by rintro rfl; exact c0 rfl
    rw [decide_eq_true rne, Bool.true_and]
    simp only [Bool.false_eq_true, if_false, wy_mNx]
    rw [wy_mSeq, wy_mIfS]
    refine Wp.x ?_
    simp only [wp_ok, wp_bind, wp_noX, wp_mC, wp_mStr, wp_mTru, wp_mBl, wp_blOf, wp_tru_bl, wp_mBin, wp_mUn, wp_mIf, wp_mNotT, wp_mAndT, wp_mOrT, wp_mAndV, wp_mOrV, wp_mNotV, wp_mChain, wp_mChainT, wp_mNil, wp_mCons, wp_mDisp, wp_tupD, wp_lstD, wp_mSl, wp_mNoPart, wp_mPart, wp_intOf, wp_mBm, wp_mMeth, wp_dflS, wp_mIt, wp_mItA, wp_mDict, wp_mpNil, wp_mpCons, wp_mNext, wp_mYes, wp_mLc, ws_mNx, ws_mBrk, ws_mCnt, ws_mRetN, ws_mSeq, ws_mDrop, ws_mRet, ws_mIfS, ws_mAsg, wp_gNm, wp_gsNil, wp_gsCons, wp_gTp, wp_gSubS, ws_mSetI, ws_mSetF, put_some, wp_callS, ws_mFor, ws_nx, ws_ret, wp_gFld, wp_mMethKw, wp_mVar0, wp_mVarS]
    rw [iter_tup, wp_ok]
    refine wp_lc (ms := []) (X := fun _ => True) (f := fun _ => true) (P := fun d y => y = D.bl (rowOk (zs.map D.str) rd.length d)) (by simp) trivial (fun _ _ _ _ => trivial) (fun _ _ => rfl) (fun _ _ => rfl) (by simp [srcT, sizeLine]; omega) ?_ ?_
    · intro dd hdd S9 x9 _
      simp only [srcT] at hdd
      simp only [wp_ok, wp_bind, wp_noX, wp_mC, wp_mStr, wp_mTru, wp_mBl, wp_blOf, wp_tru_bl, wp_mBin, wp_mUn, wp_mIf, wp_mNotT, wp_mAndT, wp_mOrT, wp_mAndV, wp_mOrV, wp_mNotV, wp_mChain, wp_mChainT, wp_mNil, wp_mCons, wp_mDisp, wp_tupD, wp_lstD, wp_mSl, wp_mNoPart, wp_mPart, wp_intOf, wp_mBm, wp_mMeth, wp_dflS, wp_mIt, wp_mItA, wp_mDict, wp_mpNil, wp_mpCons, wp_mNext, wp_mYes, wp_mLc, ws_mNx, ws_mBrk, ws_mCnt, ws_mRetN, ws_mSeq, ws_mDrop, ws_mRet, ws_mIfS, ws_mAsg, wp_gNm, wp_gsNil, wp_gsCons, wp_gTp, wp_gSubS, ws_mSetI, ws_mSetF, put_some, wp_callS, ws_mFor, ws_nx, ws_ret, wp_gFld, wp_mMethKw, wipeR, List.set, wp_mVar0, wp_mVarS, lenS, List.append_nil, List.length_cons, List.length_nil, Nat.zero_add, Nat.add_zero, true_and]
      exact ⟨fun _ => (is_row_any hk (gd_ext x9 (by simp) k dd (hr dd hdd))).imp fun y S2 ⟨e, x⟩ => ⟨e, x, trivial⟩, by simp⟩
    · intro acc S9 ha9 x9 _ hg9
      have ea := ha9.eq_map
      rw [List.filter_eq_self.mpr (fun _ _ => rfl)] at ea
      subst ea
      rw [quant_all hg9, wp_ok, wp_tru_bl]
      simp only [srcT]
      have x19 := (x1.trans x9).mono (ns := [n]) (by simp)
      by_cases hs : rd.all (rowOk (zs.map D.str) rd.length) = true
      rotate_left
      · have hs' : rd.all (rowOk (zs.map D.str) rd.length) = false := by simpa using hs
        simp only [hs', Bool.not_false, if_true, wy_mRaise0]
        exact ⟨trivial, trivial, x19⟩
      simp only [hs, Bool.not_true, Bool.false_eq_true, if_false, wy_mNx]
      have e9 : S9[n]? = some (.ins "Machine" []) := (x1.trans x9).get _ _ hn (by simp)
      have e2 : (S9.set n (.ins "Machine" (fm1 (.tup (zs.map D.str)))))[n]? = some (.ins "Machine" (fm1 (.tup (zs.map D.str)))) := get_set e9
      refine WpS.y ?_
      refine ws_cut (fun ρ2 S2 => ρ2 = [some (.ptr n), some (.tup (zs.map D.str)), some (.tup rd), none] ∧ S2 = S9.set n (.ins "Machine" (fm1 (.tup (zs.map D.str))))) ?_ ?_
      · simp only [wp_ok, wp_bind, wp_noX, wp_mC, wp_mStr, wp_mTru, wp_mBl, wp_blOf, wp_tru_bl, wp_mBin, wp_mUn, wp_mIf, wp_mNotT, wp_mAndT, wp_mOrT, wp_mAndV, wp_mOrV, wp_mNotV, wp_mChain, wp_mChainT, wp_mNil, wp_mCons, wp_mDisp, wp_tupD, wp_lstD, wp_mSl, wp_mNoPart, wp_mPart, wp_intOf, wp_mBm, wp_mMeth, wp_dflS, wp_mIt, wp_mItA, wp_mDict, wp_mpNil, wp_mpCons, wp_mNext, wp_mYes, wp_mLc, ws_mNx, ws_mBrk, ws_mCnt, ws_mRetN, ws_mSeq, ws_mDrop, ws_mRet, ws_mIfS, ws_mAsg, wp_gNm, wp_gsNil, wp_gsCons, wp_gTp, wp_gSubS, ws_mSetI, ws_mSetF, put_some, wp_callS, ws_mFor, ws_nx, ws_ret, wp_gFld, wp_mMethKw, wp_mVar0, wp_mVarS, setF_ok e9 (by decide)]
        exact ⟨trivial, rfl⟩
      rintro ρ2 S2 ⟨rfl, rfl⟩
      simp only [wp_ok, wp_bind, wp_noX, wp_mC, wp_mStr, wp_mTru, wp_mBl, wp_blOf, wp_tru_bl, wp_mBin, wp_mUn, wp_mIf, wp_mNotT, wp_mAndT, wp_mOrT, wp_mAndV, wp_mOrV, wp_mNotV, wp_mChain, wp_mChainT, wp_mNil, wp_mCons, wp_mDisp, wp_tupD, wp_lstD, wp_mSl, wp_mNoPart, wp_mPart, wp_intOf, wp_mBm, wp_mMeth, wp_dflS, wp_mIt, wp_mItA, wp_mDict, wp_mpNil, wp_mpCons, wp_mNext, wp_mYes, wp_mLc, ws_mNx, ws_mBrk, ws_mCnt, ws_mRetN, ws_mSeq, ws_mDrop, ws_mRet, ws_mIfS, ws_mAsg, wp_gNm, wp_gsNil, wp_gsCons, wp_gTp, wp_gSubS, ws_mSetI, ws_mSetF, put_some, wp_callS, ws_mFor, ws_nx, ws_ret, wp_gFld, wp_mMethKw, wp_mVar0, wp_mVarS, setF_ok e2 (show (fm1 (.tup (zs.map D.str))).length < 1000 from by simp [fm1])]
      exact ⟨trivial, get_set e2, (x19.trans (Ext.set (by simp))).trans (Ext.set (by simp))⟩
  | _ =>
    simp only [isT, Bool.not_false, if_true, wy_mRaise0]
    exact ⟨right_t rfl, trivial, x1.mono (by simp)⟩
theorem mk_any {S : Sto} {B k : Nat} {x y : D} (hk : k ≤ 20) (hx : gd B S k x = true) (hy : gd B S k y = true) :
    WpX (fun z T => right x y = false ∧ z = ⟨"BadMachine", []⟩ ∧ Ext [] S T) (mkG "Machine" 3 f_Machine___init__ [x, y] S) fun d T => right x y = true ∧ ∃ n, d = .ptr n ∧ S.length ≤ n ∧ T[n]? = some (.ins "Machine" (fm x y)) ∧ Ext [] S T := by
  have x0 : Ext [] S (S ++ [O.ins "Machine" []]) := Ext.push _
  have fresh : ∀ {T : Sto}, Ext [S.length] (S ++ [O.ins "Machine" []]) T → Ext [] S T := fun x => (Ext.push _).transf x (fun n hn => .inr (by simp at hn; omega))
  simp only [mkG, List.length_cons, List.length_nil, if_true, mkS, wx_bind, Nat.zero_add, Nat.reduceAdd]
  refine (init_any hk (n := S.length) get_push (gd_ext x0 (by simp) k x hx) (gd_ext x0 (by simp) k y hy)).impE (fun d T ⟨ed, e, h, x⟩ => ?_) fun z T ⟨e1, e2, x⟩ => ⟨e1, e2, fresh x⟩
  subst ed
  exact ⟨e, _, rfl, Nat.le_refl _, h, fresh x⟩
/-- making one that is right -/
theorem mk_right {S : Sto} {B k : Nat} {x y : D} (hk : k ≤ 20) (hx : gd B S k x = true) (hy : gd B S k y = true) (hr : right x y = true) :
    Wp (mkG "Machine" 3 f_Machine___init__ [x, y] S) fun d T => ∃ n, d = .ptr n ∧ S.length ≤ n ∧ T[n]? = some (.ins "Machine" (fm x y)) ∧ Ext [] S T := by
  refine WpX.wp ((mk_any hk hx hy).impE (fun d T ⟨_, h⟩ => h) fun z T ⟨e, _⟩ => ?_)
  rw [hr] at e
  cases e
theorem told_any {S : Sto} {B k : Nat} {x y : D} (hk : k ≤ 20) (hx : gd B S k x = true) (hy : gd B S k y = true) :
    Wp (f__law_told [x, y] S) fun d T => Ext [] S T ∧ ((right x y = true ∧ ∃ n, d = .ptr n ∧ S.length ≤ n ∧ T[n]? = some (.ins "Machine" (fm x y))) ∨ (right x y = false ∧ d = .bl true)) := by
  unfold f__law_told
  rw [wp_callS]
  refine WpY.s ?_
  simp only [List.map, List.length, List.replicate, List.cons_append, List.nil_append, N__law_told]
  rw [wy_mSeq, wy_mAsg]
  refine Wp.x ?_
  simp only [wp_ok, wp_bind, wp_noX, wp_mC, wp_mStr, wp_mTru, wp_mBl, wp_blOf, wp_tru_bl, wp_mBin, wp_mUn, wp_mIf, wp_mNotT, wp_mAndT, wp_mOrT, wp_mAndV, wp_mOrV, wp_mNotV, wp_mChain, wp_mChainT, wp_mNil, wp_mCons, wp_mDisp, wp_tupD, wp_lstD, wp_mSl, wp_mNoPart, wp_mPart, wp_intOf, wp_mBm, wp_mMeth, wp_dflS, wp_mIt, wp_mItA, wp_mDict, wp_mpNil, wp_mpCons, wp_mNext, wp_mYes, wp_mLc, ws_mNx, ws_mBrk, ws_mCnt, ws_mRetN, ws_mSeq, ws_mDrop, ws_mRet, ws_mIfS, ws_mAsg, wp_gNm, wp_gsNil, wp_gsCons, wp_gTp, wp_gSubS, ws_mSetI, ws_mSetF, put_some, wp_callS, ws_mFor, ws_nx, ws_ret, wp_gFld, wp_mMethKw, List.set, List.length_cons, List.length_nil]
  refine ⟨by simp [sizeLine], trivial, ?_⟩
  rw [wy_mSeq, wy_mTry, wy_mAsg, wx_mDisp, wx_mCons, wx_mVar rfl, wx_mCons, wx_mVar rfl, wx_mNil]
  refine (mk_any hk hx hy).impE (fun d T1 ⟨e, n, ed, hn, en, x1⟩ => ?_) fun z T1 ⟨e1, e2, x1⟩ => ?_
  · subst ed
    simp only [wp_ok, wp_bind, wp_noX, wp_mC, wp_mStr, wp_mTru, wp_mBl, wp_blOf, wp_tru_bl, wp_mBin, wp_mUn, wp_mIf, wp_mNotT, wp_mAndT, wp_mOrT, wp_mAndV, wp_mOrV, wp_mNotV, wp_mChain, wp_mChainT, wp_mNil, wp_mCons, wp_mDisp, wp_tupD, wp_lstD, wp_mSl, wp_mNoPart, wp_mPart, wp_intOf, wp_mBm, wp_mMeth, wp_dflS, wp_mIt, wp_mItA, wp_mDict, wp_mpNil, wp_mpCons, wp_mNext, wp_mYes, wp_mLc, ws_mNx, ws_mBrk, ws_mCnt, ws_mRetN, ws_mSeq, ws_mDrop, ws_mRet, ws_mIfS, ws_mAsg, wp_gNm, wp_gsNil, wp_gsCons, wp_gTp, wp_gSubS, ws_mSetI, ws_mSetF, put_some, wp_callS, ws_mFor, ws_nx, ws_ret, wp_gFld, wp_mMethKw, List.set]
    rw [wy_mRet]
    refine Wp.x ?_
    simp only [wp_ok, wp_bind, wp_noX, wp_mC, wp_mStr, wp_mTru, wp_mBl, wp_blOf, wp_tru_bl, wp_mBin, wp_mUn, wp_mIf, wp_mNotT, wp_mAndT, wp_mOrT, wp_mAndV, wp_mOrV, wp_mNotV, wp_mChain, wp_mChainT, wp_mNil, wp_mCons, wp_mDisp, wp_tupD, wp_lstD, wp_mSl, wp_mNoPart, wp_mPart, wp_intOf, wp_mBm, wp_mMeth, wp_dflS, wp_mIt, wp_mItA, wp_mDict, wp_mpNil, wp_mpCons, wp_mNext, wp_mYes, wp_mLc, ws_mNx, ws_mBrk, ws_mCnt, ws_mRetN, ws_mSeq, ws_mDrop, ws_mRet, ws_mIfS, ws_mAsg, wp_gNm, wp_gsNil, wp_gsCons, wp_gTp, wp_gSubS, ws_mSetI, ws_mSetF, put_some, wp_callS, ws_mFor, ws_nx, ws_ret, wp_gFld, wp_mMethKw, wp_mVar0, wp_mVarS, isS, decide_true, if_true]
    exact ⟨x1, .inl ⟨e, n, rfl, hn, en⟩⟩
  · subst e2
    rw [if_pos (by decide +kernel)]
    have hg : (T1 ++ [O.exc "BadMachine" []])[T1.length]? = some (O.exc ("BadMachine" : Str) []) := get_push
    simp only [wp_ok, wp_bind, wp_noX, wp_mC, wp_mStr, wp_mTru, wp_mBl, wp_blOf, wp_tru_bl, wp_mBin, wp_mUn, wp_mIf, wp_mNotT, wp_mAndT, wp_mOrT, wp_mAndV, wp_mOrV, wp_mNotV, wp_mChain, wp_mChainT, wp_mNil, wp_mCons, wp_mDisp, wp_tupD, wp_lstD, wp_mSl, wp_mNoPart, wp_mPart, wp_intOf, wp_mBm, wp_mMeth, wp_dflS, wp_mIt, wp_mItA, wp_mDict, wp_mpNil, wp_mpCons, wp_mNext, wp_mYes, wp_mLc, ws_mNx, ws_mBrk, ws_mCnt, ws_mRetN, ws_mSeq, ws_mDrop, ws_mRet, ws_mIfS, ws_mAsg, wp_gNm, wp_gsNil, wp_gsCons, wp_gTp, wp_gSubS, ws_mSetI, ws_mSetF, put_some, wp_callS, ws_mFor, ws_nx, ws_ret, wp_gFld, wp_mMethKw, wp_mVar0, wp_mVarS, List.set]
    rw [wy_mRet]
    refine Wp.x ?_
    simp only [wp_ok, wp_bind, wp_noX, wp_mC, wp_mStr, wp_mTru, wp_mBl, wp_blOf, wp_tru_bl, wp_mBin, wp_mUn, wp_mIf, wp_mNotT, wp_mAndT, wp_mOrT, wp_mAndV, wp_mOrV, wp_mNotV, wp_mChain, wp_mChainT, wp_mNil, wp_mCons, wp_mDisp, wp_tupD, wp_lstD, wp_mSl, wp_mNoPart, wp_mPart, wp_intOf, wp_mBm, wp_mMeth, wp_dflS, wp_mIt, wp_mItA, wp_mDict, wp_mpNil, wp_mpCons, wp_mNext, wp_mYes, wp_mLc, ws_mNx, ws_mBrk, ws_mCnt, ws_mRetN, ws_mSeq, ws_mDrop, ws_mRet, ws_mIfS, ws_mAsg, wp_gNm, wp_gsNil, wp_gsCons, wp_gTp, wp_gSubS, ws_mSetI, ws_mSetF, put_some, wp_callS, ws_mFor, ws_nx, ws_ret, wp_gFld, wp_mMethKw, wp_mVar0, wp_mVarS, isS, reduceCtorEq, decide_false, Bool.false_eq_true, if_false]
    rw [wp_isiE hg (b := true) (by decide +kernel)]
    exact ⟨x1.trans (Ext.push _), .inr ⟨e1, rfl⟩⟩
theorem isM_ptr {S : Sto} {n : Nat} {fs : List (Str × D)} (h : S[n]? = some (.ins "Machine" fs)) : isiS (isCs "Machine" clss) (.ptr n) S = .ok (.bl true) S := by
  simp only [isiS, kdS, h]; rfl
theorem isM_bl {S : Sto} {b : Bool} : isiS (isCs "Machine" clss) (.bl b) S = .ok (.bl false) S := rfl
theorem isM_tup {S : Sto} {ds : List D} : isiS (isCs "Machine" clss) (.tup ds) S = .ok (.bl false) S := rfl
/-- == of machines -/
theorem eq_mach {S : Sto} {a b : Nat} {x y x' y' : D} {b1 b2 : Bool} (ha : S[a]? = some (.ins "Machine" (fm x y))) (hb : S[b]? = some (.ins "Machine" (fm x' y'))) (h1 : eqS x x' S = .ok (.bl b1) S) (h2 : eqS y y' S = .ok (.bl b2) S) :
    eqI eqTbl eqCs (.ptr a) (.ptr b) S = .ok (.bl (b1 && b2)) S := by
  have e : f_Machine___eq__ [.ptr a, .ptr b] S = .ok (.bl (b1 && b2)) S := by
    have : Wp (f_Machine___eq__ [.ptr a, .ptr b] S) fun d T => d = .bl (b1 && b2) ∧ T = S := by
      unfold f_Machine___eq__
      simp only [wp_ok, wp_bind, wp_noX, wp_mC, wp_mStr, wp_mTru, wp_mBl, wp_blOf, wp_tru_bl, wp_mBin, wp_mUn, wp_mIf, wp_mNotT, wp_mAndT, wp_mOrT, wp_mAndV, wp_mOrV, wp_mNotV, wp_mChain, wp_mChainT, wp_mNil, wp_mCons, wp_mDisp, wp_tupD, wp_lstD, wp_mSl, wp_mNoPart, wp_mPart, wp_intOf, wp_mBm, wp_mMeth, wp_dflS, wp_mIt, wp_mItA, wp_mDict, wp_mpNil, wp_mpCons, wp_mNext, wp_mYes, wp_mLc, ws_mNx, ws_mBrk, ws_mCnt, ws_mRetN, ws_mSeq, ws_mDrop, ws_mRet, ws_mIfS, ws_mAsg, wp_gNm, wp_gsNil, wp_gsCons, wp_gTp, wp_gSubS, ws_mSetI, ws_mSetF, put_some, wp_callS, ws_mFor, ws_nx, ws_ret, wp_gFld, wp_mMethKw, List.map, List.length, List.replicate, List.cons_append, List.nil_append, N_Machine___eq__, wp_mVar0, wp_mVarS, isM_ptr hb, if_true]
      rw [fld_ok ha (show (fm x y).lookup ("m_parts" : Str) = some x from rfl), fld_ok hb (show (fm x' y').lookup ("m_parts" : Str) = some x' from rfl), h1, wp_ok, wp_tru_bl]
      cases b1 with
      | false =>
        simp only [Bool.false_eq_true, if_false, Bool.false_and]
        first | exact ⟨trivial, trivial⟩ | exact ⟨rfl, trivial⟩ | trivial
      | true =>
        simp only [if_true, wp_ok, wp_bind, wp_noX, wp_mC, wp_mStr, wp_mTru, wp_mBl, wp_blOf, wp_tru_bl, wp_mBin, wp_mUn, wp_mIf, wp_mNotT, wp_mAndT, wp_mOrT, wp_mAndV, wp_mOrV, wp_mNotV, wp_mChain, wp_mChainT, wp_mNil, wp_mCons, wp_mDisp, wp_tupD, wp_lstD, wp_mSl, wp_mNoPart, wp_mPart, wp_intOf, wp_mBm, wp_mMeth, wp_dflS, wp_mIt, wp_mItA, wp_mDict, wp_mpNil, wp_mpCons, wp_mNext, wp_mYes, wp_mLc, ws_mNx, ws_mBrk, ws_mCnt, ws_mRetN, ws_mSeq, ws_mDrop, ws_mRet, ws_mIfS, ws_mAsg, wp_gNm, wp_gsNil, wp_gsCons, wp_gTp, wp_gSubS, ws_mSetI, ws_mSetF, put_some, wp_callS, ws_mFor, ws_nx, ws_ret, wp_gFld, wp_mMethKw, wp_mVar0, wp_mVarS]
        rw [fld_ok ha (show (fm x y).lookup ("m_rows" : Str) = some y from rfl), fld_ok hb (show (fm x' y').lookup ("m_rows" : Str) = some y' from rfl), h2, wp_ok]
        exact ⟨rfl, rfl⟩
    obtain ⟨d, T, e, rfl, rfl⟩ := this
    exact e
  have ht : eqTbl.lookup ("Machine" : Str) = some f_Machine___eq__ := rfl
  have hk : kdS (.ptr b) S = some (.c "Machine") := by simp only [kdS, hb]
  simp only [eqI, ha, ht, hk, e, blOnly]
  rfl
theorem eq_tup {S : Sto} {a : Nat} {x y : D} {ds : List D} (ha : S[a]? = some (.ins "Machine" (fm x y))) : eqI eqTbl eqCs (.ptr a) (.tup ds) S = .ok (.bl false) S := by
  have e : f_Machine___eq__ [.ptr a, .tup ds] S = .ok (.bl false) S := by
    have : Wp (f_Machine___eq__ [.ptr a, .tup ds] S) fun d T => d = .bl false ∧ T = S := by
      unfold f_Machine___eq__
      simp only [wp_ok, wp_bind, wp_noX, wp_mC, wp_mStr, wp_mTru, wp_mBl, wp_blOf, wp_tru_bl, wp_mBin, wp_mUn, wp_mIf, wp_mNotT, wp_mAndT, wp_mOrT, wp_mAndV, wp_mOrV, wp_mNotV, wp_mChain, wp_mChainT, wp_mNil, wp_mCons, wp_mDisp, wp_tupD, wp_lstD, wp_mSl, wp_mNoPart, wp_mPart, wp_intOf, wp_mBm, wp_mMeth, wp_dflS, wp_mIt, wp_mItA, wp_mDict, wp_mpNil, wp_mpCons, wp_mNext, wp_mYes, wp_mLc, ws_mNx, ws_mBrk, ws_mCnt, ws_mRetN, ws_mSeq, ws_mDrop, ws_mRet, ws_mIfS, ws_mAsg, wp_gNm, wp_gsNil, wp_gsCons, wp_gTp, wp_gSubS, ws_mSetI, ws_mSetF, put_some, wp_callS, ws_mFor, ws_nx, ws_ret, wp_gFld, wp_mMethKw, List.map, List.length, List.replicate, List.cons_append, List.nil_append, N_Machine___eq__, wp_mVar0, wp_mVarS, isM_tup, Bool.false_eq_true, if_false]
      first | exact ⟨trivial, trivial⟩ | exact ⟨rfl, trivial⟩ | trivial
    obtain ⟨d, T, e, rfl, rfl⟩ := this
    exact e
  have ht : eqTbl.lookup ("Machine" : Str) = some f_Machine___eq__ := rfl
  simp only [eqI, ha, ht, kdS, e, blOnly]
  rfl
theorem len_mach {S : Sto} {a : Nat} {x : D} {rd : List D} (ha : S[a]? = some (.ins "Machine" (fm x (.tup rd)))) (hl : rd.length ≤ 1000) : lenI "Machine" f_Machine___len__ [.ptr a] S = .ok (.int (rd.length : Int)) S := by
  have e : f_Machine___len__ [.ptr a] S = .ok (.int (rd.length : Int)) S := by
    have : Wp (f_Machine___len__ [.ptr a] S) fun d T => d = .int (rd.length : Int) ∧ T = S := by
      unfold f_Machine___len__
      simp only [wp_ok, wp_bind, wp_noX, wp_mC, wp_mStr, wp_mTru, wp_mBl, wp_blOf, wp_tru_bl, wp_mBin, wp_mUn, wp_mIf, wp_mNotT, wp_mAndT, wp_mOrT, wp_mAndV, wp_mOrV, wp_mNotV, wp_mChain, wp_mChainT, wp_mNil, wp_mCons, wp_mDisp, wp_tupD, wp_lstD, wp_mSl, wp_mNoPart, wp_mPart, wp_intOf, wp_mBm, wp_mMeth, wp_dflS, wp_mIt, wp_mItA, wp_mDict, wp_mpNil, wp_mpCons, wp_mNext, wp_mYes, wp_mLc, ws_mNx, ws_mBrk, ws_mCnt, ws_mRetN, ws_mSeq, ws_mDrop, ws_mRet, ws_mIfS, ws_mAsg, wp_gNm, wp_gsNil, wp_gsCons, wp_gTp, wp_gSubS, ws_mSetI, ws_mSetF, put_some, wp_callS, ws_mFor, ws_nx, ws_ret, wp_gFld, wp_mMethKw, List.map, List.length, List.replicate, List.cons_append, List.nil_append, N_Machine___len__, wp_mVar0, wp_mVarS]
      rw [fld_ok ha (show (fm x (.tup rd)).lookup ("m_rows" : Str) = some (.tup rd) from rfl)]
      simp only [lenS, wp_ok]
      first | exact ⟨trivial, trivial⟩ | exact ⟨rfl, rfl⟩ | trivial
    obtain ⟨d, T, e, rfl, rfl⟩ := this
    exact e
  simp only [lenI, insAt, ha, if_true, e]
  exact if_pos ⟨by omega, by omega⟩
end K20
/-! J09 -/
set_option Elab.async false
set_option autoImplicit false
set_option linter.all false
set_option maxRecDepth 100000
set_option maxHeartbeats 1000000
namespace K20
open PySem PySem.Spec MP
open L2 hiding prD

/-! the law's own checks -/
theorem ok_abc : okS "abcdefghijklmnopqrstuvwxyz" := by decide +kernel
theorem filt_empty {p : D → Bool} : ∀ ds : List D, (ds.filter fun d => !p d).isEmpty = ds.all p
  | [] => rfl
  | d :: ds => by
    rw [List.filter_cons, List.all_cons]
    cases h : p d with
    | true => simp [filt_empty ds]
    | false => simp
theorem eqN_lst {S : Sto} {n m : Nat} {ds : List D} (h1 : S[n]? = some (.lst ds)) (h2 : S[m]? = some (.lst [])) : eqN (.ptr n) (.ptr m) S = .ok (.bl ds.isEmpty) S := by
  simp only [eqN, listAt, h1, h2]
theorem neN_lst {S : Sto} {n m : Nat} {ds : List D} (h1 : S[n]? = some (.lst ds)) (h2 : S[m]? = some (.lst [])) : neN (.ptr n) (.ptr m) S = .ok (.bl (!ds.isEmpty)) S := by
  simp only [neN, listAt, h1, h2]
theorem law_name_any {S : Sto} {d : D} (h : Kn S d) : Wp (f__law_is_name [d] S) fun y S' => y = .bl (isNm d) ∧ Ext [] S S' := by
  unfold f__law_is_name
  simp only [wp_ok, wp_bind, wp_noX, wp_mC, wp_mStr, wp_mTru, wp_mBl, wp_blOf, wp_tru_bl, wp_mBin, wp_mUn, wp_mIf, wp_mNotT, wp_mAndT, wp_mOrT, wp_mAndV, wp_mOrV, wp_mNotV, wp_mChain, wp_mChainT, wp_mNil, wp_mCons, wp_mDisp, wp_tupD, wp_lstD, wp_mSl, wp_mNoPart, wp_mPart, wp_intOf, wp_mBm, wp_mMeth, wp_dflS, wp_mIt, wp_mItA, wp_mDict, wp_mpNil, wp_mpCons, wp_mNext, wp_mYes, wp_mLc, ws_mNx, ws_mBrk, ws_mCnt, ws_mRetN, ws_mSeq, ws_mDrop, ws_mRet, ws_mIfS, ws_mAsg, wp_gNm, wp_gsNil, wp_gsCons, wp_gTp, wp_gSubS, ws_mSetI, ws_mSetF, put_some, wp_callS, ws_mFor, ws_nx, ws_ret, wp_gFld, wp_mMethKw, List.map, List.length, List.replicate, List.cons_append, List.nil_append, N__law_is_name, wp_mVar0, wp_mVarS, isi_str h]
  cases d with
  | str z =>
    simp only [isSt, Bool.not_true, Bool.false_eq_true, if_false, lenS, leS, wp_blOf, wp_ok]
    have e0 : isNm (.str z) = (decide (1 ≤ z.length ∧ z.length ≤ 6) && lets z) := rfl
    rw [e0]
    by_cases c1 : (1 : Int) ≤ z.length
    · rw [if_pos (decide_eq_true c1)]
      by_cases c2 : (z.length : Int) ≤ 6
      · rw [decide_eq_true c2, decide_eq_true (show 1 ≤ z.length ∧ z.length ≤ 6 from ⟨by omega, by omega⟩)]
        simp only [Bool.not_true, Bool.false_eq_true, if_false, wp_ok, wp_bind, wp_noX, wp_mC, wp_mStr, wp_mTru, wp_mBl, wp_blOf, wp_tru_bl, wp_mBin, wp_mUn, wp_mIf, wp_mNotT, wp_mAndT, wp_mOrT, wp_mAndV, wp_mOrV, wp_mNotV, wp_mChain, wp_mChainT, wp_mNil, wp_mCons, wp_mDisp, wp_tupD, wp_lstD, wp_mSl, wp_mNoPart, wp_mPart, wp_intOf, wp_mBm, wp_mMeth, wp_dflS, wp_mIt, wp_mItA, wp_mDict, wp_mpNil, wp_mpCons, wp_mNext, wp_mYes, wp_mLc, ws_mNx, ws_mBrk, ws_mCnt, ws_mRetN, ws_mSeq, ws_mDrop, ws_mRet, ws_mIfS, ws_mAsg, wp_gNm, wp_gsNil, wp_gsCons, wp_gTp, wp_gSubS, ws_mSetI, ws_mSetF, put_some, wp_callS, ws_mFor, ws_nx, ws_ret, wp_gFld, wp_mMethKw, wp_mVar0, wp_mVarS, Bool.true_and]
        rw [iter_str, wp_ok]
        refine wp_lc (ms := []) (X := fun _ => True) (f := fun d => !(match d with | .str w => w.cps.toList.all fun c => decide (97 ≤ c ∧ c ≤ 122) | _ => true)) (P := fun d y => y = d) (by simp) trivial (fun _ _ _ _ => trivial) (fun _ _ => rfl) (fun _ _ => rfl) (by simp [srcT, strItems, sizeLine, Str.length] at c2 ⊢; omega) ?_ ?_
        · intro dd hdd S9 x9 _
          simp only [srcT, strItems, List.mem_map] at hdd
          obtain ⟨c, hc, rfl⟩ := hdd
          simp only [wp_ok, wp_bind, wp_noX, wp_mC, wp_mStr, wp_mTru, wp_mBl, wp_blOf, wp_tru_bl, wp_mBin, wp_mUn, wp_mIf, wp_mNotT, wp_mAndT, wp_mOrT, wp_mAndV, wp_mOrV, wp_mNotV, wp_mChain, wp_mChainT, wp_mNil, wp_mCons, wp_mDisp, wp_tupD, wp_lstD, wp_mSl, wp_mNoPart, wp_mPart, wp_intOf, wp_mBm, wp_mMeth, wp_dflS, wp_mIt, wp_mItA, wp_mDict, wp_mpNil, wp_mpCons, wp_mNext, wp_mYes, wp_mLc, ws_mNx, ws_mBrk, ws_mCnt, ws_mRetN, ws_mSeq, ws_mDrop, ws_mRet, ws_mIfS, ws_mAsg, wp_gNm, wp_gsNil, wp_gsCons, wp_gTp, wp_gSubS, ws_mSetI, ws_mSetF, put_some, wp_callS, ws_mFor, ws_nx, ws_ret, wp_gFld, wp_mMethKw, wipeR, List.set, wp_mVar0, wp_mVarS, ninS, inB, strIn, letters_is]
          refine ⟨ok_abc, ?_⟩
          exact ⟨by simp, fun _ => ⟨trivial, Ext.rfl', trivial⟩, fun _ => ⟨Ext.rfl', trivial⟩⟩
        · intro acc S9 ha9 x9 _ hg9
          have ea := ha9.eq_map
          rw [List.map_id'] at ea
          subst ea
          refine ⟨by simp [sizeLine], ?_⟩
          rw [eqN_lst (get_old hg9) get_push, filt_empty, wp_ok]
          refine ⟨?_, x9.trans (Ext.push _)⟩
          congr 1
          simp [srcT, strItems, lets, List.all_map, Function.comp_def]
      · rw [decide_eq_false c2, decide_eq_false (show ¬ (1 ≤ z.length ∧ z.length ≤ 6) by omega)]
        simp only [Bool.not_false, if_true, wp_ok, wp_bind, wp_noX, wp_mC, wp_mStr, wp_mTru, wp_mBl, wp_blOf, wp_tru_bl, wp_mBin, wp_mUn, wp_mIf, wp_mNotT, wp_mAndT, wp_mOrT, wp_mAndV, wp_mOrV, wp_mNotV, wp_mChain, wp_mChainT, wp_mNil, wp_mCons, wp_mDisp, wp_tupD, wp_lstD, wp_mSl, wp_mNoPart, wp_mPart, wp_intOf, wp_mBm, wp_mMeth, wp_dflS, wp_mIt, wp_mItA, wp_mDict, wp_mpNil, wp_mpCons, wp_mNext, wp_mYes, wp_mLc, ws_mNx, ws_mBrk, ws_mCnt, ws_mRetN, ws_mSeq, ws_mDrop, ws_mRet, ws_mIfS, ws_mAsg, wp_gNm, wp_gsNil, wp_gsCons, wp_gTp, wp_gSubS, ws_mSetI, ws_mSetF, put_some, wp_callS, ws_mFor, ws_nx, ws_ret, wp_gFld, wp_mMethKw, wp_mC, Bool.false_and]
        exact ⟨trivial, Ext.rfl'⟩
    · rw [if_neg (by simp; omega), decide_eq_false (show ¬ (1 ≤ z.length ∧ z.length ≤ 6) by omega)]
      simp only [Bool.not_false, if_true, wp_ok, wp_bind, wp_noX, wp_mC, wp_mStr, wp_mTru, wp_mBl, wp_blOf, wp_tru_bl, wp_mBin, wp_mUn, wp_mIf, wp_mNotT, wp_mAndT, wp_mOrT, wp_mAndV, wp_mOrV, wp_mNotV, wp_mChain, wp_mChainT, wp_mNil, wp_mCons, wp_mDisp, wp_tupD, wp_lstD, wp_mSl, wp_mNoPart, wp_mPart, wp_intOf, wp_mBm, wp_mMeth, wp_dflS, wp_mIt, wp_mItA, wp_mDict, wp_mpNil, wp_mpCons, wp_mNext, wp_mYes, wp_mLc, ws_mNx, ws_mBrk, ws_mCnt, ws_mRetN, ws_mSeq, ws_mDrop, ws_mRet, ws_mIfS, ws_mAsg, wp_gNm, wp_gsNil, wp_gsCons, wp_gTp, wp_gSubS, ws_mSetI, ws_mSetF, put_some, wp_callS, ws_mFor, ws_nx, ws_ret, wp_gFld, wp_mMethKw, wp_mC, Bool.false_and]
      exact ⟨trivial, Ext.rfl'⟩
  | _ =>
    simp only [isSt, Bool.not_false, if_true, wp_ok, wp_bind, wp_noX, wp_mC, wp_mStr, wp_mTru, wp_mBl, wp_blOf, wp_tru_bl, wp_mBin, wp_mUn, wp_mIf, wp_mNotT, wp_mAndT, wp_mOrT, wp_mAndV, wp_mOrV, wp_mNotV, wp_mChain, wp_mChainT, wp_mNil, wp_mCons, wp_mDisp, wp_tupD, wp_lstD, wp_mSl, wp_mNoPart, wp_mPart, wp_intOf, wp_mBm, wp_mMeth, wp_dflS, wp_mIt, wp_mItA, wp_mDict, wp_mpNil, wp_mpCons, wp_mNext, wp_mYes, wp_mLc, ws_mNx, ws_mBrk, ws_mCnt, ws_mRetN, ws_mSeq, ws_mDrop, ws_mRet, ws_mIfS, ws_mAsg, wp_gNm, wp_gsNil, wp_gsCons, wp_gTp, wp_gSubS, ws_mSetI, ws_mSetF, put_some, wp_callS, ws_mFor, ws_nx, ws_ret, wp_gFld, wp_mMethKw, isNm]
    exact ⟨trivial, Ext.rfl'⟩
theorem stepOk_no {pd : List D} {n : Nat} {ds : List D} (h : ds.length ≠ 2) : stepOk pd n (.tup ds) = false := by
  unfold stepOk
  split
  · rename_i e; cases e; exact absurd rfl h
  · rfl
theorem evOk_no {pd ds : List D} (h : ds.length ≠ 2) : evOk pd (.tup ds) = false := by
  unfold evOk
  split
  · rename_i e; cases e; exact absurd rfl h
  · rfl
theorem law_step_any {S : Sto} {B k n : Nat} {d : D} {zs : List Str} (h : gd B S k d = true) : Wp (f__law_is_step [d, .tup (zs.map D.str), .int (n : Int)] S) fun y S' => y = .bl (stepOk (zs.map D.str) n d) ∧ S' = S := by
  unfold f__law_is_step
  rw [wp_callS]
  simp only [List.map, List.length, List.replicate, List.cons_append, List.nil_append, N__law_is_step]
  simp only [wp_ok, wp_bind, wp_noX, wp_mC, wp_mStr, wp_mTru, wp_mBl, wp_blOf, wp_tru_bl, wp_mBin, wp_mUn, wp_mIf, wp_mNotT, wp_mAndT, wp_mOrT, wp_mAndV, wp_mOrV, wp_mNotV, wp_mChain, wp_mChainT, wp_mNil, wp_mCons, wp_mDisp, wp_tupD, wp_lstD, wp_mSl, wp_mNoPart, wp_mPart, wp_intOf, wp_mBm, wp_mMeth, wp_dflS, wp_mIt, wp_mItA, wp_mDict, wp_mpNil, wp_mpCons, wp_mNext, wp_mYes, wp_mLc, ws_mNx, ws_mBrk, ws_mCnt, ws_mRetN, ws_mSeq, ws_mDrop, ws_mRet, ws_mIfS, ws_mAsg, wp_gNm, wp_gsNil, wp_gsCons, wp_gTp, wp_gSubS, ws_mSetI, ws_mSetF, put_some, wp_callS, ws_mFor, ws_nx, ws_ret, wp_gFld, wp_mMethKw, wp_mVar0, wp_mVarS, isi_tup (gd_kn h)]
  cases d with
  | tup ds =>
    obtain ⟨hl, hd⟩ := gd_tup' h
    simp only [isT, Bool.not_true, Bool.false_eq_true, if_false, lenS, wp_ok]
    rw [nes_int, wp_blOf]
    by_cases c : (ds.length : Int) = 2
    rotate_left
    · rw [decide_eq_false c]
      simp only [Bool.not_false, if_true, wp_ok, wp_bind, wp_noX, wp_mC, wp_mStr, wp_mTru, wp_mBl, wp_blOf, wp_tru_bl, wp_mBin, wp_mUn, wp_mIf, wp_mNotT, wp_mAndT, wp_mOrT, wp_mAndV, wp_mOrV, wp_mNotV, wp_mChain, wp_mChainT, wp_mNil, wp_mCons, wp_mDisp, wp_tupD, wp_lstD, wp_mSl, wp_mNoPart, wp_mPart, wp_intOf, wp_mBm, wp_mMeth, wp_dflS, wp_mIt, wp_mItA, wp_mDict, wp_mpNil, wp_mpCons, wp_mNext, wp_mYes, wp_mLc, ws_mNx, ws_mBrk, ws_mCnt, ws_mRetN, ws_mSeq, ws_mDrop, ws_mRet, ws_mIfS, ws_mAsg, wp_gNm, wp_gsNil, wp_gsCons, wp_gTp, wp_gSubS, ws_mSetI, ws_mSetF, put_some, wp_callS, ws_mFor, ws_nx, ws_ret, wp_gFld, wp_mMethKw, stepOk_no (show ds.length ≠ 2 by omega)]
      first | exact ⟨trivial, trivial⟩ | exact ⟨rfl, trivial⟩ | exact ⟨trivial, rfl⟩ | exact ⟨rfl, rfl⟩
    rw [decide_eq_true c]
    obtain ⟨a, b, rfl⟩ := two_of (show ds.length = 2 by omega)
    have ga := hd a (by simp)
    have kb := gd_kn (hd b (by simp))
    simp only [Bool.not_true, Bool.false_eq_true, if_false, wp_ok, wp_bind, wp_noX, wp_mC, wp_mStr, wp_mTru, wp_mBl, wp_blOf, wp_tru_bl, wp_mBin, wp_mUn, wp_mIf, wp_mNotT, wp_mAndT, wp_mOrT, wp_mAndV, wp_mOrV, wp_mNotV, wp_mChain, wp_mChainT, wp_mNil, wp_mCons, wp_mDisp, wp_tupD, wp_lstD, wp_mSl, wp_mNoPart, wp_mPart, wp_intOf, wp_mBm, wp_mMeth, wp_dflS, wp_mIt, wp_mItA, wp_mDict, wp_mpNil, wp_mpCons, wp_mNext, wp_mYes, wp_mLc, ws_mNx, ws_mBrk, ws_mCnt, ws_mRetN, ws_mSeq, ws_mDrop, ws_mRet, ws_mIfS, ws_mAsg, wp_gNm, wp_gsNil, wp_gsCons, wp_gTp, wp_gSubS, ws_mSetI, ws_mSetF, put_some, wp_callS, ws_mFor, ws_nx, ws_ret, wp_gFld, wp_mMethKw, wp_mVar0, wp_mVarS]
    rw [ix_tup (i := 0) (by decide) (by simp) rfl, isi_tup (gd_kn ga), wp_ok, wp_tru_bl]
    have e0 : stepOk (zs.map D.str) n (.tup [a, b]) = (evOk (zs.map D.str) a && ixOk n b) := rfl
    rw [e0]
    cases a with
    | tup es =>
      obtain ⟨hl2, hd2⟩ := gd_tup' ga
      simp only [isT, Bool.not_true, Bool.false_eq_true, if_false, wp_ok, wp_bind, wp_noX, wp_mC, wp_mStr, wp_mTru, wp_mBl, wp_blOf, wp_tru_bl, wp_mBin, wp_mUn, wp_mIf, wp_mNotT, wp_mAndT, wp_mOrT, wp_mAndV, wp_mOrV, wp_mNotV, wp_mChain, wp_mChainT, wp_mNil, wp_mCons, wp_mDisp, wp_tupD, wp_lstD, wp_mSl, wp_mNoPart, wp_mPart, wp_intOf, wp_mBm, wp_mMeth, wp_dflS, wp_mIt, wp_mItA, wp_mDict, wp_mpNil, wp_mpCons, wp_mNext, wp_mYes, wp_mLc, ws_mNx, ws_mBrk, ws_mCnt, ws_mRetN, ws_mSeq, ws_mDrop, ws_mRet, ws_mIfS, ws_mAsg, wp_gNm, wp_gsNil, wp_gsCons, wp_gTp, wp_gSubS, ws_mSetI, ws_mSetF, put_some, wp_callS, ws_mFor, ws_nx, ws_ret, wp_gFld, wp_mMethKw, wp_mVar0, wp_mVarS]
      rw [ix_tup (i := 0) (by decide) (by simp) rfl]
      simp only [lenS, wp_ok]
      rw [nes_int, wp_blOf]
      by_cases c2 : (es.length : Int) = 2
      rotate_left
      · rw [decide_eq_false c2]
        simp only [Bool.not_false, if_true, wp_ok, wp_bind, wp_noX, wp_mC, wp_mStr, wp_mTru, wp_mBl, wp_blOf, wp_tru_bl, wp_mBin, wp_mUn, wp_mIf, wp_mNotT, wp_mAndT, wp_mOrT, wp_mAndV, wp_mOrV, wp_mNotV, wp_mChain, wp_mChainT, wp_mNil, wp_mCons, wp_mDisp, wp_tupD, wp_lstD, wp_mSl, wp_mNoPart, wp_mPart, wp_intOf, wp_mBm, wp_mMeth, wp_dflS, wp_mIt, wp_mItA, wp_mDict, wp_mpNil, wp_mpCons, wp_mNext, wp_mYes, wp_mLc, ws_mNx, ws_mBrk, ws_mCnt, ws_mRetN, ws_mSeq, ws_mDrop, ws_mRet, ws_mIfS, ws_mAsg, wp_gNm, wp_gsNil, wp_gsCons, wp_gTp, wp_gSubS, ws_mSetI, ws_mSetF, put_some, wp_callS, ws_mFor, ws_nx, ws_ret, wp_gFld, wp_mMethKw, evOk_no (show es.length ≠ 2 by omega), Bool.false_and]
        first | exact ⟨trivial, trivial⟩ | exact ⟨rfl, trivial⟩ | exact ⟨trivial, rfl⟩ | exact ⟨rfl, rfl⟩
      rw [decide_eq_true c2]
      obtain ⟨u, v, rfl⟩ := two_of (show es.length = 2 by omega)
      have ku := gd_kn (hd2 u (by simp))
      have kv := gd_kn (hd2 v (by simp))
      simp only [Bool.not_true, Bool.false_eq_true, if_false, wp_ok, wp_bind, wp_noX, wp_mC, wp_mStr, wp_mTru, wp_mBl, wp_blOf, wp_tru_bl, wp_mBin, wp_mUn, wp_mIf, wp_mNotT, wp_mAndT, wp_mOrT, wp_mAndV, wp_mOrV, wp_mNotV, wp_mChain, wp_mChainT, wp_mNil, wp_mCons, wp_mDisp, wp_tupD, wp_lstD, wp_mSl, wp_mNoPart, wp_mPart, wp_intOf, wp_mBm, wp_mMeth, wp_dflS, wp_mIt, wp_mItA, wp_mDict, wp_mpNil, wp_mpCons, wp_mNext, wp_mYes, wp_mLc, ws_mNx, ws_mBrk, ws_mCnt, ws_mRetN, ws_mSeq, ws_mDrop, ws_mRet, ws_mIfS, ws_mAsg, wp_gNm, wp_gsNil, wp_gsCons, wp_gTp, wp_gSubS, ws_mSetI, ws_mSetF, put_some, wp_callS, ws_mFor, ws_nx, ws_ret, wp_gFld, wp_mMethKw, wp_mVar0, wp_mVarS, List.set, itemsOf, List.length_cons, List.length_nil, true_and]
      rw [ix_tup (i := 0) (by decide) (by simp) rfl, isi_str ku, wp_ok, wp_tru_bl]
      cases u with
      | str w =>
        simp only [isSt, Bool.not_true, Bool.false_eq_true, if_false, wp_ok, wp_bind, wp_noX, wp_mC, wp_mStr, wp_mTru, wp_mBl, wp_blOf, wp_tru_bl, wp_mBin, wp_mUn, wp_mIf, wp_mNotT, wp_mAndT, wp_mOrT, wp_mAndV, wp_mOrV, wp_mNotV, wp_mChain, wp_mChainT, wp_mNil, wp_mCons, wp_mDisp, wp_tupD, wp_lstD, wp_mSl, wp_mNoPart, wp_mPart, wp_intOf, wp_mBm, wp_mMeth, wp_dflS, wp_mIt, wp_mItA, wp_mDict, wp_mpNil, wp_mpCons, wp_mNext, wp_mYes, wp_mLc, ws_mNx, ws_mBrk, ws_mCnt, ws_mRetN, ws_mSeq, ws_mDrop, ws_mRet, ws_mIfS, ws_mAsg, wp_gNm, wp_gsNil, wp_gsCons, wp_gTp, wp_gSubS, ws_mSetI, ws_mSetF, put_some, wp_callS, ws_mFor, ws_nx, ws_ret, wp_gFld, wp_mMethKw, wp_mVar0, wp_mVarS]
        rw [ix_tup (i := 0) (by decide) (by simp) rfl]
        refine ⟨ok_fail, ok_mend, by simp [sizeLine], ?_⟩
        have i1 := inB_tup (S := S) (x := .str w) (ds := [.str "fail", .str "mend"]) (pl_str _) (pls_of (by simp [D.pl, D.dp]))
        have e1 : decide (D.str w ∈ [D.str "fail", D.str "mend"]) = decide (w = "fail" ∨ w = "mend") := by simp
        simp only [ninS, i1, wp_ok, wp_bind, wp_noX, wp_mC, wp_mStr, wp_mTru, wp_mBl, wp_blOf, wp_tru_bl, wp_mBin, wp_mUn, wp_mIf, wp_mNotT, wp_mAndT, wp_mOrT, wp_mAndV, wp_mOrV, wp_mNotV, wp_mChain, wp_mChainT, wp_mNil, wp_mCons, wp_mDisp, wp_tupD, wp_lstD, wp_mSl, wp_mNoPart, wp_mPart, wp_intOf, wp_mBm, wp_mMeth, wp_dflS, wp_mIt, wp_mItA, wp_mDict, wp_mpNil, wp_mpCons, wp_mNext, wp_mYes, wp_mLc, ws_mNx, ws_mBrk, ws_mCnt, ws_mRetN, ws_mSeq, ws_mDrop, ws_mRet, ws_mIfS, ws_mAsg, wp_gNm, wp_gsNil, wp_gsCons, wp_gTp, wp_gSubS, ws_mSetI, ws_mSetF, put_some, wp_callS, ws_mFor, ws_nx, ws_ret, wp_gFld, wp_mMethKw, e1]
        by_cases cw : w = "fail" ∨ w = "mend"
        rotate_left
        · rw [decide_eq_false cw]
          simp only [Bool.not_false, if_true, wp_ok, wp_bind, wp_noX, wp_mC, wp_mStr, wp_mTru, wp_mBl, wp_blOf, wp_tru_bl, wp_mBin, wp_mUn, wp_mIf, wp_mNotT, wp_mAndT, wp_mOrT, wp_mAndV, wp_mOrV, wp_mNotV, wp_mChain, wp_mChainT, wp_mNil, wp_mCons, wp_mDisp, wp_tupD, wp_lstD, wp_mSl, wp_mNoPart, wp_mPart, wp_intOf, wp_mBm, wp_mMeth, wp_dflS, wp_mIt, wp_mItA, wp_mDict, wp_mpNil, wp_mpCons, wp_mNext, wp_mYes, wp_mLc, ws_mNx, ws_mBrk, ws_mCnt, ws_mRetN, ws_mSeq, ws_mDrop, ws_mRet, ws_mIfS, ws_mAsg, wp_gNm, wp_gsNil, wp_gsCons, wp_gTp, wp_gSubS, ws_mSetI, ws_mSetF, put_some, wp_callS, ws_mFor, ws_nx, ws_ret, wp_gFld, wp_mMethKw]
          have : evOk (zs.map D.str) (.tup [.str w, v]) = false := by cases v <;> simp [evOk, cw]
          rw [this, Bool.false_and]
          first | exact ⟨trivial, trivial⟩ | exact ⟨rfl, trivial⟩ | exact ⟨trivial, rfl⟩ | exact ⟨rfl, rfl⟩
        rw [decide_eq_true cw]
        simp only [Bool.not_true, Bool.false_eq_true, if_false, wp_ok, wp_bind, wp_noX, wp_mC, wp_mStr, wp_mTru, wp_mBl, wp_blOf, wp_tru_bl, wp_mBin, wp_mUn, wp_mIf, wp_mNotT, wp_mAndT, wp_mOrT, wp_mAndV, wp_mOrV, wp_mNotV, wp_mChain, wp_mChainT, wp_mNil, wp_mCons, wp_mDisp, wp_tupD, wp_lstD, wp_mSl, wp_mNoPart, wp_mPart, wp_intOf, wp_mBm, wp_mMeth, wp_dflS, wp_mIt, wp_mItA, wp_mDict, wp_mpNil, wp_mpCons, wp_mNext, wp_mYes, wp_mLc, ws_mNx, ws_mBrk, ws_mCnt, ws_mRetN, ws_mSeq, ws_mDrop, ws_mRet, ws_mIfS, ws_mAsg, wp_gNm, wp_gsNil, wp_gsCons, wp_gTp, wp_gSubS, ws_mSetI, ws_mSetF, put_some, wp_callS, ws_mFor, ws_nx, ws_ret, wp_gFld, wp_mMethKw, wp_mVar0, wp_mVarS]
        rw [ix_tup (i := 1) (by decide) (by simp) rfl, isi_str kv, wp_ok, wp_tru_bl]
        cases v with
        | str z =>
          simp only [isSt, Bool.not_true, Bool.false_eq_true, if_false, wp_ok, wp_bind, wp_noX, wp_mC, wp_mStr, wp_mTru, wp_mBl, wp_blOf, wp_tru_bl, wp_mBin, wp_mUn, wp_mIf, wp_mNotT, wp_mAndT, wp_mOrT, wp_mAndV, wp_mOrV, wp_mNotV, wp_mChain, wp_mChainT, wp_mNil, wp_mCons, wp_mDisp, wp_tupD, wp_lstD, wp_mSl, wp_mNoPart, wp_mPart, wp_intOf, wp_mBm, wp_mMeth, wp_dflS, wp_mIt, wp_mItA, wp_mDict, wp_mpNil, wp_mpCons, wp_mNext, wp_mYes, wp_mLc, ws_mNx, ws_mBrk, ws_mCnt, ws_mRetN, ws_mSeq, ws_mDrop, ws_mRet, ws_mIfS, ws_mAsg, wp_gNm, wp_gsNil, wp_gsCons, wp_gTp, wp_gSubS, ws_mSetI, ws_mSetF, put_some, wp_callS, ws_mFor, ws_nx, ws_ret, wp_gFld, wp_mMethKw, wp_mVar0, wp_mVarS]
          rw [ix_tup (i := 1) (by decide) (by simp) rfl]
          have i2 := inB_tup (S := S) (x := .str z) (ds := zs.map D.str) (pl_str _) (pls_strs zs)
          simp only [inS, i2, wp_ok, wp_bind, wp_noX, wp_mC, wp_mStr, wp_mTru, wp_mBl, wp_blOf, wp_tru_bl, wp_mBin, wp_mUn, wp_mIf, wp_mNotT, wp_mAndT, wp_mOrT, wp_mAndV, wp_mOrV, wp_mNotV, wp_mChain, wp_mChainT, wp_mNil, wp_mCons, wp_mDisp, wp_tupD, wp_lstD, wp_mSl, wp_mNoPart, wp_mPart, wp_intOf, wp_mBm, wp_mMeth, wp_dflS, wp_mIt, wp_mItA, wp_mDict, wp_mpNil, wp_mpCons, wp_mNext, wp_mYes, wp_mLc, ws_mNx, ws_mBrk, ws_mCnt, ws_mRetN, ws_mSeq, ws_mDrop, ws_mRet, ws_mIfS, ws_mAsg, wp_gNm, wp_gsNil, wp_gsCons, wp_gTp, wp_gSubS, ws_mSetI, ws_mSetF, put_some, wp_callS, ws_mFor, ws_nx, ws_ret, wp_gFld, wp_mMethKw, evOk, decide_eq_true cw, Bool.true_and]
          cases decide (D.str z ∈ zs.map D.str) with
          | false =>
            simp only [Bool.false_eq_true, if_false, Bool.false_and]
            first | exact ⟨trivial, trivial⟩ | exact ⟨rfl, rfl⟩ | trivial
          | true =>
            simp only [if_true, Bool.true_and, wp_ok, wp_bind, wp_noX, wp_mC, wp_mStr, wp_mTru, wp_mBl, wp_blOf, wp_tru_bl, wp_mBin, wp_mUn, wp_mIf, wp_mNotT, wp_mAndT, wp_mOrT, wp_mAndV, wp_mOrV, wp_mNotV, wp_mChain, wp_mChainT, wp_mNil, wp_mCons, wp_mDisp, wp_tupD, wp_lstD, wp_mSl, wp_mNoPart, wp_mPart, wp_intOf, wp_mBm, wp_mMeth, wp_dflS, wp_mIt, wp_mItA, wp_mDict, wp_mpNil, wp_mpCons, wp_mNext, wp_mYes, wp_mLc, ws_mNx, ws_mBrk, ws_mCnt, ws_mRetN, ws_mSeq, ws_mDrop, ws_mRet, ws_mIfS, ws_mAsg, wp_gNm, wp_gsNil, wp_gsCons, wp_gTp, wp_gSubS, ws_mSetI, ws_mSetF, put_some, wp_callS, ws_mFor, ws_nx, ws_ret, wp_gFld, wp_mMethKw, wp_mVar0, wp_mVarS, isi_int kb]
            cases b with
            | int i =>
              simp only [isI, if_true, wp_ok, wp_bind, wp_noX, wp_mC, wp_mStr, wp_mTru, wp_mBl, wp_blOf, wp_tru_bl, wp_mBin, wp_mUn, wp_mIf, wp_mNotT, wp_mAndT, wp_mOrT, wp_mAndV, wp_mOrV, wp_mNotV, wp_mChain, wp_mChainT, wp_mNil, wp_mCons, wp_mDisp, wp_tupD, wp_lstD, wp_mSl, wp_mNoPart, wp_mPart, wp_intOf, wp_mBm, wp_mMeth, wp_dflS, wp_mIt, wp_mItA, wp_mDict, wp_mpNil, wp_mpCons, wp_mNext, wp_mYes, wp_mLc, ws_mNx, ws_mBrk, ws_mCnt, ws_mRetN, ws_mSeq, ws_mDrop, ws_mRet, ws_mIfS, ws_mAsg, wp_gNm, wp_gsNil, wp_gsCons, wp_gTp, wp_gSubS, ws_mSetI, ws_mSetF, put_some, wp_callS, ws_mFor, ws_nx, ws_ret, wp_gFld, wp_mMethKw, wp_mVar0, wp_mVarS, isi_bool kb, isBo, Bool.not_false, leS, ltS, ixOk]
              by_cases c1 : (0 : Int) ≤ i
              · rw [if_pos (decide_eq_true c1)]
                simp [c1]
              · rw [if_neg (by simpa using c1)]
                simp [c1]
            | bl b =>
              simp only [isI, if_true, wp_ok, wp_bind, wp_noX, wp_mC, wp_mStr, wp_mTru, wp_mBl, wp_blOf, wp_tru_bl, wp_mBin, wp_mUn, wp_mIf, wp_mNotT, wp_mAndT, wp_mOrT, wp_mAndV, wp_mOrV, wp_mNotV, wp_mChain, wp_mChainT, wp_mNil, wp_mCons, wp_mDisp, wp_tupD, wp_lstD, wp_mSl, wp_mNoPart, wp_mPart, wp_intOf, wp_mBm, wp_mMeth, wp_dflS, wp_mIt, wp_mItA, wp_mDict, wp_mpNil, wp_mpCons, wp_mNext, wp_mYes, wp_mLc, ws_mNx, ws_mBrk, ws_mCnt, ws_mRetN, ws_mSeq, ws_mDrop, ws_mRet, ws_mIfS, ws_mAsg, wp_gNm, wp_gsNil, wp_gsCons, wp_gTp, wp_gSubS, ws_mSetI, ws_mSetF, put_some, wp_callS, ws_mFor, ws_nx, ws_ret, wp_gFld, wp_mMethKw, wp_mVar0, wp_mVarS, isi_bool kb, isBo, Bool.not_true, Bool.false_eq_true, if_false, ixOk]
              first | exact ⟨trivial, trivial⟩ | exact ⟨rfl, rfl⟩ | trivial
            | _ =>
              simp only [isI, Bool.false_eq_true, if_false, ixOk]
              first | exact ⟨trivial, trivial⟩ | exact ⟨rfl, rfl⟩ | trivial
        | _ =>
          simp only [isSt, Bool.not_false, if_true, wp_ok, wp_bind, wp_noX, wp_mC, wp_mStr, wp_mTru, wp_mBl, wp_blOf, wp_tru_bl, wp_mBin, wp_mUn, wp_mIf, wp_mNotT, wp_mAndT, wp_mOrT, wp_mAndV, wp_mOrV, wp_mNotV, wp_mChain, wp_mChainT, wp_mNil, wp_mCons, wp_mDisp, wp_tupD, wp_lstD, wp_mSl, wp_mNoPart, wp_mPart, wp_intOf, wp_mBm, wp_mMeth, wp_dflS, wp_mIt, wp_mItA, wp_mDict, wp_mpNil, wp_mpCons, wp_mNext, wp_mYes, wp_mLc, ws_mNx, ws_mBrk, ws_mCnt, ws_mRetN, ws_mSeq, ws_mDrop, ws_mRet, ws_mIfS, ws_mAsg, wp_gNm, wp_gsNil, wp_gsCons, wp_gTp, wp_gSubS, ws_mSetI, ws_mSetF, put_some, wp_callS, ws_mFor, ws_nx, ws_ret, wp_gFld, wp_mMethKw, evOk, Bool.false_and]
          first | exact ⟨trivial, trivial⟩ | exact ⟨rfl, rfl⟩ | trivial
      | _ =>
        simp only [isSt, Bool.not_false, if_true, wp_ok, wp_bind, wp_noX, wp_mC, wp_mStr, wp_mTru, wp_mBl, wp_blOf, wp_tru_bl, wp_mBin, wp_mUn, wp_mIf, wp_mNotT, wp_mAndT, wp_mOrT, wp_mAndV, wp_mOrV, wp_mNotV, wp_mChain, wp_mChainT, wp_mNil, wp_mCons, wp_mDisp, wp_tupD, wp_lstD, wp_mSl, wp_mNoPart, wp_mPart, wp_intOf, wp_mBm, wp_mMeth, wp_dflS, wp_mIt, wp_mItA, wp_mDict, wp_mpNil, wp_mpCons, wp_mNext, wp_mYes, wp_mLc, ws_mNx, ws_mBrk, ws_mCnt, ws_mRetN, ws_mSeq, ws_mDrop, ws_mRet, ws_mIfS, ws_mAsg, wp_gNm, wp_gsNil, wp_gsCons, wp_gTp, wp_gSubS, ws_mSetI, ws_mSetF, put_some, wp_callS, ws_mFor, ws_nx, ws_ret, wp_gFld, wp_mMethKw, evOk, Bool.false_and]
        first | exact ⟨trivial, trivial⟩ | exact ⟨rfl, rfl⟩ | trivial
    | _ =>
      simp only [isT, Bool.not_false, if_true, wp_ok, wp_bind, wp_noX, wp_mC, wp_mStr, wp_mTru, wp_mBl, wp_blOf, wp_tru_bl, wp_mBin, wp_mUn, wp_mIf, wp_mNotT, wp_mAndT, wp_mOrT, wp_mAndV, wp_mOrV, wp_mNotV, wp_mChain, wp_mChainT, wp_mNil, wp_mCons, wp_mDisp, wp_tupD, wp_lstD, wp_mSl, wp_mNoPart, wp_mPart, wp_intOf, wp_mBm, wp_mMeth, wp_dflS, wp_mIt, wp_mItA, wp_mDict, wp_mpNil, wp_mpCons, wp_mNext, wp_mYes, wp_mLc, ws_mNx, ws_mBrk, ws_mCnt, ws_mRetN, ws_mSeq, ws_mDrop, ws_mRet, ws_mIfS, ws_mAsg, wp_gNm, wp_gsNil, wp_gsCons, wp_gTp, wp_gSubS, ws_mSetI, ws_mSetF, put_some, wp_callS, ws_mFor, ws_nx, ws_ret, wp_gFld, wp_mMethKw, evOk, Bool.false_and]
      first | exact ⟨trivial, trivial⟩ | exact ⟨rfl, rfl⟩ | trivial
  | _ =>
    simp only [isT, Bool.not_false, if_true, wp_ok, wp_bind, wp_noX, wp_mC, wp_mStr, wp_mTru, wp_mBl, wp_blOf, wp_tru_bl, wp_mBin, wp_mUn, wp_mIf, wp_mNotT, wp_mAndT, wp_mOrT, wp_mAndV, wp_mOrV, wp_mNotV, wp_mChain, wp_mChainT, wp_mNil, wp_mCons, wp_mDisp, wp_tupD, wp_lstD, wp_mSl, wp_mNoPart, wp_mPart, wp_intOf, wp_mBm, wp_mMeth, wp_dflS, wp_mIt, wp_mItA, wp_mDict, wp_mpNil, wp_mpCons, wp_mNext, wp_mYes, wp_mLc, ws_mNx, ws_mBrk, ws_mCnt, ws_mRetN, ws_mSeq, ws_mDrop, ws_mRet, ws_mIfS, ws_mAsg, wp_gNm, wp_gsNil, wp_gsCons, wp_gTp, wp_gSubS, ws_mSetI, ws_mSetF, put_some, wp_callS, ws_mFor, ws_nx, ws_ret, wp_gFld, wp_mMethKw, stepOk]
    first | exact ⟨trivial, trivial⟩ | exact ⟨rfl, rfl⟩ | trivial
theorem rowOk_no {pd : List D} {n : Nat} {ds : List D} (h : ds.length ≠ 2) : rowOk pd n (.tup ds) = false := by
  unfold rowOk
  split
  · rename_i e; cases e; exact absurd rfl h
  · rfl
theorem law_row_any {S : Sto} {B k n : Nat} {d : D} {zs : List Str} (hk : k ≤ 20) (h : gd B S k d = true) : Wp (f__law_is_row [d, .tup (zs.map D.str), .int (n : Int)] S) fun y S' => y = .bl (rowOk (zs.map D.str) n d) ∧ Ext [] S S' := by
  unfold f__law_is_row
  rw [wp_callS]
  simp only [List.map, List.length, List.replicate, List.cons_append, List.nil_append, N__law_is_row]
  simp only [wp_ok, wp_bind, wp_noX, wp_mC, wp_mStr, wp_mTru, wp_mBl, wp_blOf, wp_tru_bl, wp_mBin, wp_mUn, wp_mIf, wp_mNotT, wp_mAndT, wp_mOrT, wp_mAndV, wp_mOrV, wp_mNotV, wp_mChain, wp_mChainT, wp_mNil, wp_mCons, wp_mDisp, wp_tupD, wp_lstD, wp_mSl, wp_mNoPart, wp_mPart, wp_intOf, wp_mBm, wp_mMeth, wp_dflS, wp_mIt, wp_mItA, wp_mDict, wp_mpNil, wp_mpCons, wp_mNext, wp_mYes, wp_mLc, ws_mNx, ws_mBrk, ws_mCnt, ws_mRetN, ws_mSeq, ws_mDrop, ws_mRet, ws_mIfS, ws_mAsg, wp_gNm, wp_gsNil, wp_gsCons, wp_gTp, wp_gSubS, ws_mSetI, ws_mSetF, put_some, wp_callS, ws_mFor, ws_nx, ws_ret, wp_gFld, wp_mMethKw, wp_mVar0, wp_mVarS, isi_tup (gd_kn h)]
  cases d with
  | tup ds =>
    obtain ⟨hl, hd⟩ := gd_tup' h
    simp only [isT, Bool.not_true, Bool.false_eq_true, if_false, lenS, wp_ok]
    rw [nes_int, wp_blOf]
    by_cases c : (ds.length : Int) = 2
    rotate_left
    · rw [decide_eq_false c]
      simp only [Bool.not_false, if_true, wp_ok, wp_bind, wp_noX, wp_mC, wp_mStr, wp_mTru, wp_mBl, wp_blOf, wp_tru_bl, wp_mBin, wp_mUn, wp_mIf, wp_mNotT, wp_mAndT, wp_mOrT, wp_mAndV, wp_mOrV, wp_mNotV, wp_mChain, wp_mChainT, wp_mNil, wp_mCons, wp_mDisp, wp_tupD, wp_lstD, wp_mSl, wp_mNoPart, wp_mPart, wp_intOf, wp_mBm, wp_mMeth, wp_dflS, wp_mIt, wp_mItA, wp_mDict, wp_mpNil, wp_mpCons, wp_mNext, wp_mYes, wp_mLc, ws_mNx, ws_mBrk, ws_mCnt, ws_mRetN, ws_mSeq, ws_mDrop, ws_mRet, ws_mIfS, ws_mAsg, wp_gNm, wp_gsNil, wp_gsCons, wp_gTp, wp_gSubS, ws_mSetI, ws_mSetF, put_some, wp_callS, ws_mFor, ws_nx, ws_ret, wp_gFld, wp_mMethKw, rowOk_no (show ds.length ≠ 2 by omega)]
      exact ⟨trivial, Ext.rfl'⟩
    rw [decide_eq_true c]
    obtain ⟨a, b, rfl⟩ := two_of (show ds.length = 2 by omega)
    have ka := gd_kn (hd a (by simp))
    have gb := hd b (by simp)
    simp only [Bool.not_true, Bool.false_eq_true, if_false, wp_ok, wp_bind, wp_noX, wp_mC, wp_mStr, wp_mTru, wp_mBl, wp_blOf, wp_tru_bl, wp_mBin, wp_mUn, wp_mIf, wp_mNotT, wp_mAndT, wp_mOrT, wp_mAndV, wp_mOrV, wp_mNotV, wp_mChain, wp_mChainT, wp_mNil, wp_mCons, wp_mDisp, wp_tupD, wp_lstD, wp_mSl, wp_mNoPart, wp_mPart, wp_intOf, wp_mBm, wp_mMeth, wp_dflS, wp_mIt, wp_mItA, wp_mDict, wp_mpNil, wp_mpCons, wp_mNext, wp_mYes, wp_mLc, ws_mNx, ws_mBrk, ws_mCnt, ws_mRetN, ws_mSeq, ws_mDrop, ws_mRet, ws_mIfS, ws_mAsg, wp_gNm, wp_gsNil, wp_gsCons, wp_gTp, wp_gSubS, ws_mSetI, ws_mSetF, put_some, wp_callS, ws_mFor, ws_nx, ws_ret, wp_gFld, wp_mMethKw, wp_mVar0, wp_mVarS]
    rw [ix_tup (i := 0) (by decide) (by simp) rfl, isi_bool ka, wp_ok, wp_tru_bl]
    cases a with
    | bl bb =>
      simp only [isBo, Bool.not_true, Bool.false_eq_true, if_false, wp_ok, wp_bind, wp_noX, wp_mC, wp_mStr, wp_mTru, wp_mBl, wp_blOf, wp_tru_bl, wp_mBin, wp_mUn, wp_mIf, wp_mNotT, wp_mAndT, wp_mOrT, wp_mAndV, wp_mOrV, wp_mNotV, wp_mChain, wp_mChainT, wp_mNil, wp_mCons, wp_mDisp, wp_tupD, wp_lstD, wp_mSl, wp_mNoPart, wp_mPart, wp_intOf, wp_mBm, wp_mMeth, wp_dflS, wp_mIt, wp_mItA, wp_mDict, wp_mpNil, wp_mpCons, wp_mNext, wp_mYes, wp_mLc, ws_mNx, ws_mBrk, ws_mCnt, ws_mRetN, ws_mSeq, ws_mDrop, ws_mRet, ws_mIfS, ws_mAsg, wp_gNm, wp_gsNil, wp_gsCons, wp_gTp, wp_gSubS, ws_mSetI, ws_mSetF, put_some, wp_callS, ws_mFor, ws_nx, ws_ret, wp_gFld, wp_mMethKw, wp_mVar0, wp_mVarS]
      rw [ix_tup (i := 1) (by decide) (by simp) rfl, isi_tup (gd_kn gb), wp_ok, wp_tru_bl]
      cases b with
      | tup ss =>
        obtain ⟨hl2, hd2⟩ := gd_tup' gb
        simp only [isT, Bool.not_true, Bool.false_eq_true, if_false, wp_ok, wp_bind, wp_noX, wp_mC, wp_mStr, wp_mTru, wp_mBl, wp_blOf, wp_tru_bl, wp_mBin, wp_mUn, wp_mIf, wp_mNotT, wp_mAndT, wp_mOrT, wp_mAndV, wp_mOrV, wp_mNotV, wp_mChain, wp_mChainT, wp_mNil, wp_mCons, wp_mDisp, wp_tupD, wp_lstD, wp_mSl, wp_mNoPart, wp_mPart, wp_intOf, wp_mBm, wp_mMeth, wp_dflS, wp_mIt, wp_mItA, wp_mDict, wp_mpNil, wp_mpCons, wp_mNext, wp_mYes, wp_mLc, ws_mNx, ws_mBrk, ws_mCnt, ws_mRetN, ws_mSeq, ws_mDrop, ws_mRet, ws_mIfS, ws_mAsg, wp_gNm, wp_gsNil, wp_gsCons, wp_gTp, wp_gSubS, ws_mSetI, ws_mSetF, put_some, wp_callS, ws_mFor, ws_nx, ws_ret, wp_gFld, wp_mMethKw, wp_mVar0, wp_mVarS]
        rw [ix_tup (i := 1) (by decide) (by simp) rfl, iter_tup, wp_ok]
        have e0 : rowOk (zs.map D.str) n (.tup [.bl bb, .tup ss]) = (ss.all (stepOk (zs.map D.str) n) && decide (ss.map fstD = srt ((once ((ss.map fstD).filterMap prOf)).map prD))) := rfl
        rw [e0]
        refine wp_lc (ms := []) (X := fun _ => True) (f := fun d => !stepOk (zs.map D.str) n d) (P := fun d y => y = d) (by simp) trivial (fun _ _ _ _ => trivial) (fun _ _ => rfl) (fun _ _ => rfl) (by simp [srcT, sizeLine]; omega) ?_ ?_
        · intro dd hdd S9 x9 _
          simp only [srcT] at hdd
          have g9 := gd_ext x9 (by simp) k dd (hd2 dd hdd)
          simp only [wp_ok, wp_bind, wp_noX, wp_mC, wp_mStr, wp_mTru, wp_mBl, wp_blOf, wp_tru_bl, wp_mBin, wp_mUn, wp_mIf, wp_mNotT, wp_mAndT, wp_mOrT, wp_mAndV, wp_mOrV, wp_mNotV, wp_mChain, wp_mChainT, wp_mNil, wp_mCons, wp_mDisp, wp_tupD, wp_lstD, wp_mSl, wp_mNoPart, wp_mPart, wp_intOf, wp_mBm, wp_mMeth, wp_dflS, wp_mIt, wp_mItA, wp_mDict, wp_mpNil, wp_mpCons, wp_mNext, wp_mYes, wp_mLc, ws_mNx, ws_mBrk, ws_mCnt, ws_mRetN, ws_mSeq, ws_mDrop, ws_mRet, ws_mIfS, ws_mAsg, wp_gNm, wp_gsNil, wp_gsCons, wp_gTp, wp_gSubS, ws_mSetI, ws_mSetF, put_some, wp_callS, ws_mFor, ws_nx, ws_ret, wp_gFld, wp_mMethKw, wipeR, List.set, wp_mVar0, wp_mVarS, List.append_nil, List.length_cons, List.length_nil, Nat.zero_add, Nat.add_zero, true_and]
          refine (law_step_any g9).imp fun y T ⟨ey, eT⟩ => ?_
          subst ey eT
          rw [wp_tru_bl]
          exact ⟨rfl, fun _ => ⟨Ext.rfl', trivial⟩, fun _ => ⟨Ext.rfl', trivial⟩⟩
        · intro acc S9 ha9 x9 _ hg9
          have ea := ha9.eq_map
          rw [List.map_id'] at ea
          subst ea
          refine ⟨by simp [sizeLine], ?_⟩
          rw [neN_lst (get_old hg9) get_push, filt_empty, wp_ok, wp_blOf]
          simp only [srcT]
          have x9' : Ext [] S (S9 ++ [O.lst []]) := x9.trans (Ext.push _)
          revert x9'
          generalize S9 ++ [O.lst []] = U
          intro x9'
          by_cases hs : ss.all (stepOk (zs.map D.str) n) = true
          rotate_left
          · have hs' : ss.all (stepOk (zs.map D.str) n) = false := by simpa using hs
            simp only [hs', Bool.not_false, if_true, wp_ok, wp_bind, wp_noX, wp_mC, wp_mStr, wp_mTru, wp_mBl, wp_blOf, wp_tru_bl, wp_mBin, wp_mUn, wp_mIf, wp_mNotT, wp_mAndT, wp_mOrT, wp_mAndV, wp_mOrV, wp_mNotV, wp_mChain, wp_mChainT, wp_mNil, wp_mCons, wp_mDisp, wp_tupD, wp_lstD, wp_mSl, wp_mNoPart, wp_mPart, wp_intOf, wp_mBm, wp_mMeth, wp_dflS, wp_mIt, wp_mItA, wp_mDict, wp_mpNil, wp_mpCons, wp_mNext, wp_mYes, wp_mLc, ws_mNx, ws_mBrk, ws_mCnt, ws_mRetN, ws_mSeq, ws_mDrop, ws_mRet, ws_mIfS, ws_mAsg, wp_gNm, wp_gsNil, wp_gsCons, wp_gTp, wp_gSubS, ws_mSetI, ws_mSetF, put_some, wp_callS, ws_mFor, ws_nx, ws_ret, wp_gFld, wp_mMethKw, Bool.false_and]
            exact ⟨trivial, x9'⟩
          simp only [hs, Bool.not_true, Bool.false_eq_true, if_false, wp_ok, wp_bind, wp_noX, wp_mC, wp_mStr, wp_mTru, wp_mBl, wp_blOf, wp_tru_bl, wp_mBin, wp_mUn, wp_mIf, wp_mNotT, wp_mAndT, wp_mOrT, wp_mAndV, wp_mOrV, wp_mNotV, wp_mChain, wp_mChainT, wp_mNil, wp_mCons, wp_mDisp, wp_tupD, wp_lstD, wp_mSl, wp_mNoPart, wp_mPart, wp_intOf, wp_mBm, wp_mMeth, wp_dflS, wp_mIt, wp_mItA, wp_mDict, wp_mpNil, wp_mpCons, wp_mNext, wp_mYes, wp_mLc, ws_mNx, ws_mBrk, ws_mCnt, ws_mRetN, ws_mSeq, ws_mDrop, ws_mRet, ws_mIfS, ws_mAsg, wp_gNm, wp_gsNil, wp_gsCons, wp_gTp, wp_gSubS, ws_mSetI, ws_mSetF, put_some, wp_callS, ws_mFor, ws_nx, ws_ret, wp_gFld, wp_mMethKw, wp_mVar0, wp_mVarS, Bool.true_and, List.set]
          rw [ix_tup (i := 1) (by decide) (by simp) rfl, iter_tup, wp_ok]
          refine wp_lc (ms := []) (X := fun _ => True) (f := fun _ => true) (P := fun d y => y = fstD d) (by simp) trivial (fun _ _ _ _ => trivial) (fun _ _ => rfl) (fun _ _ => rfl) (by simp [srcT, sizeLine]; omega) ?_ ?_
          · intro dd hdd S8 x8 _
            simp only [srcT] at hdd
            obtain ⟨e, kk, rfl⟩ := fst_of (List.all_eq_true.mp hs dd hdd)
            simp only [wp_ok, wp_bind, wp_noX, wp_mC, wp_mStr, wp_mTru, wp_mBl, wp_blOf, wp_tru_bl, wp_mBin, wp_mUn, wp_mIf, wp_mNotT, wp_mAndT, wp_mOrT, wp_mAndV, wp_mOrV, wp_mNotV, wp_mChain, wp_mChainT, wp_mNil, wp_mCons, wp_mDisp, wp_tupD, wp_lstD, wp_mSl, wp_mNoPart, wp_mPart, wp_intOf, wp_mBm, wp_mMeth, wp_dflS, wp_mIt, wp_mItA, wp_mDict, wp_mpNil, wp_mpCons, wp_mNext, wp_mYes, wp_mLc, ws_mNx, ws_mBrk, ws_mCnt, ws_mRetN, ws_mSeq, ws_mDrop, ws_mRet, ws_mIfS, ws_mAsg, wp_gNm, wp_gsNil, wp_gsCons, wp_gTp, wp_gSubS, ws_mSetI, ws_mSetF, put_some, wp_callS, ws_mFor, ws_nx, ws_ret, wp_gFld, wp_mMethKw, wipeR, List.set, wp_mVar0, wp_mVarS, itemsOf, List.length_cons, List.length_nil, true_and]
            exact ⟨fun _ => ⟨rfl, Ext.rfl', trivial⟩, by simp⟩
          · intro acc2 S8 ha8 x8 _ hg8
            have ea := ha8.eq_map
            rw [List.filter_eq_self.mpr (fun _ _ => rfl)] at ea
            subst ea
            exact (events_eq hs (by omega) hg8).imp fun y S7 q => q.imp fun z S6 ⟨e1, x6⟩ => ⟨e1, (x9'.trans x8).trans x6⟩
      | _ =>
        simp only [isT, Bool.not_false, if_true, wp_ok, wp_bind, wp_noX, wp_mC, wp_mStr, wp_mTru, wp_mBl, wp_blOf, wp_tru_bl, wp_mBin, wp_mUn, wp_mIf, wp_mNotT, wp_mAndT, wp_mOrT, wp_mAndV, wp_mOrV, wp_mNotV, wp_mChain, wp_mChainT, wp_mNil, wp_mCons, wp_mDisp, wp_tupD, wp_lstD, wp_mSl, wp_mNoPart, wp_mPart, wp_intOf, wp_mBm, wp_mMeth, wp_dflS, wp_mIt, wp_mItA, wp_mDict, wp_mpNil, wp_mpCons, wp_mNext, wp_mYes, wp_mLc, ws_mNx, ws_mBrk, ws_mCnt, ws_mRetN, ws_mSeq, ws_mDrop, ws_mRet, ws_mIfS, ws_mAsg, wp_gNm, wp_gsNil, wp_gsCons, wp_gTp, wp_gSubS, ws_mSetI, ws_mSetF, put_some, wp_callS, ws_mFor, ws_nx, ws_ret, wp_gFld, wp_mMethKw, rowOk]
        exact ⟨trivial, Ext.rfl'⟩
    | _ =>
      simp only [isBo, Bool.not_false, if_true, wp_ok, wp_bind, wp_noX, wp_mC, wp_mStr, wp_mTru, wp_mBl, wp_blOf, wp_tru_bl, wp_mBin, wp_mUn, wp_mIf, wp_mNotT, wp_mAndT, wp_mOrT, wp_mAndV, wp_mOrV, wp_mNotV, wp_mChain, wp_mChainT, wp_mNil, wp_mCons, wp_mDisp, wp_tupD, wp_lstD, wp_mSl, wp_mNoPart, wp_mPart, wp_intOf, wp_mBm, wp_mMeth, wp_dflS, wp_mIt, wp_mItA, wp_mDict, wp_mpNil, wp_mpCons, wp_mNext, wp_mYes, wp_mLc, ws_mNx, ws_mBrk, ws_mCnt, ws_mRetN, ws_mSeq, ws_mDrop, ws_mRet, ws_mIfS, ws_mAsg, wp_gNm, wp_gsNil, wp_gsCons, wp_gTp, wp_gSubS, ws_mSetI, ws_mSetF, put_some, wp_callS, ws_mFor, ws_nx, ws_ret, wp_gFld, wp_mMethKw, rowOk]
      exact ⟨trivial, Ext.rfl'⟩
  | _ =>
    simp only [isT, Bool.not_false, if_true, wp_ok, wp_bind, wp_noX, wp_mC, wp_mStr, wp_mTru, wp_mBl, wp_blOf, wp_tru_bl, wp_mBin, wp_mUn, wp_mIf, wp_mNotT, wp_mAndT, wp_mOrT, wp_mAndV, wp_mOrV, wp_mNotV, wp_mChain, wp_mChainT, wp_mNil, wp_mCons, wp_mDisp, wp_tupD, wp_lstD, wp_mSl, wp_mNoPart, wp_mPart, wp_intOf, wp_mBm, wp_mMeth, wp_dflS, wp_mIt, wp_mItA, wp_mDict, wp_mpNil, wp_mpCons, wp_mNext, wp_mYes, wp_mLc, ws_mNx, ws_mBrk, ws_mCnt, ws_mRetN, ws_mSeq, ws_mDrop, ws_mRet, ws_mIfS, ws_mAsg, wp_gNm, wp_gsNil, wp_gsCons, wp_gTp, wp_gSubS, ws_mSetI, ws_mSetF, put_some, wp_callS, ws_mFor, ws_nx, ws_ret, wp_gFld, wp_mMethKw, rowOk]
    exact ⟨trivial, Ext.rfl'⟩
end K20
/-! J10 -/
set_option Elab.async false
set_option autoImplicit false
set_option linter.all false
set_option maxRecDepth 100000
set_option maxHeartbeats 1000000
namespace K20
open PySem PySem.Spec MP
open L2 hiding prD

/-! the law's account of what is right -/
theorem eqN_tup {S : Sto} {ds : List D} : eqN (.tup ds) (.tup []) S = .ok (.bl ds.isEmpty) S := rfl
theorem zs_len {ds : List D} (h : ds.all isNm = true) : (zsOf ds).length = ds.length := by
  have := congrArg List.length (strs_zs h)
  rw [List.length_map] at this
  exact this.symm
theorem srt_strs_pl (l : List Str) : Pls (srt (l.map D.str)) := by
  obtain ⟨l', e, _⟩ := srt_strs l
  rw [e]; exact pls_strs _
theorem law_right_any {S : Sto} {B k : Nat} {x y : D} (hk : k ≤ 20) (hx : gd B S k x = true) (hy : gd B S k y = true) : Wp (f__law_is_right [x, y] S) fun d S' => d = .bl (right x y) ∧ Ext [] S S' := by
  unfold f__law_is_right
  rw [wp_callS]
  simp only [List.map, List.length, List.replicate, List.cons_append, List.nil_append, N__law_is_right]
  simp only [wp_ok, wp_bind, wp_noX, wp_mC, wp_mStr, wp_mTru, wp_mBl, wp_blOf, wp_tru_bl, wp_mBin, wp_mUn, wp_mIf, wp_mNotT, wp_mAndT, wp_mOrT, wp_mAndV, wp_mOrV, wp_mNotV, wp_mChain, wp_mChainT, wp_mNil, wp_mCons, wp_mDisp, wp_tupD, wp_lstD, wp_mSl, wp_mNoPart, wp_mPart, wp_intOf, wp_mBm, wp_mMeth, wp_dflS, wp_mIt, wp_mItA, wp_mDict, wp_mpNil, wp_mpCons, wp_mNext, wp_mYes, wp_mLc, ws_mNx, ws_mBrk, ws_mCnt, ws_mRetN, ws_mSeq, ws_mDrop, ws_mRet, ws_mIfS, ws_mAsg, wp_gNm, wp_gsNil, wp_gsCons, wp_gTp, wp_gSubS, ws_mSetI, ws_mSetF, put_some, wp_callS, ws_mFor, ws_nx, ws_ret, wp_gFld, wp_mMethKw, wp_mVar0, wp_mVarS, isi_tup (gd_kn hx)]
  cases x with
  | tup ds =>
    obtain ⟨hl, hd⟩ := gd_tup' hx
    have e0 : partsOk (.tup ds) = (decide (1 ≤ ds.length ∧ ds.length ≤ 8) && (ds.all isNm && decide (ds = srt ((onceS (zsOf ds)).map D.str)))) := rfl
    simp only [isT, Bool.not_true, Bool.false_eq_true, if_false, lenS, leS, wp_blOf, wp_ok]
    by_cases c12 : 1 ≤ ds.length ∧ ds.length ≤ 8
    rotate_left
    · rw [decide_eq_false c12, Bool.false_and] at e0
      rw [right_p e0]
      by_cases c1 : (1 : Int) ≤ ds.length
      · rw [if_pos (decide_eq_true c1), decide_eq_false (show ¬ ((ds.length : Int) ≤ 8) by omega)]
        simp only [Bool.not_false, if_true, wp_ok, wp_bind, wp_noX, wp_mC, wp_mStr, wp_mTru, wp_mBl, wp_blOf, wp_tru_bl, wp_mBin, wp_mUn, wp_mIf, wp_mNotT, wp_mAndT, wp_mOrT, wp_mAndV, wp_mOrV, wp_mNotV, wp_mChain, wp_mChainT, wp_mNil, wp_mCons, wp_mDisp, wp_tupD, wp_lstD, wp_mSl, wp_mNoPart, wp_mPart, wp_intOf, wp_mBm, wp_mMeth, wp_dflS, wp_mIt, wp_mItA, wp_mDict, wp_mpNil, wp_mpCons, wp_mNext, wp_mYes, wp_mLc, ws_mNx, ws_mBrk, ws_mCnt, ws_mRetN, ws_mSeq, ws_mDrop, ws_mRet, ws_mIfS, ws_mAsg, wp_gNm, wp_gsNil, wp_gsCons, wp_gTp, wp_gSubS, ws_mSetI, ws_mSetF, put_some, wp_callS, ws_mFor, ws_nx, ws_ret, wp_gFld, wp_mMethKw, wp_mC]
        exact ⟨trivial, Ext.rfl'⟩
      · rw [if_neg (by simp; omega)]
        simp only [Bool.not_false, if_true, wp_ok, wp_bind, wp_noX, wp_mC, wp_mStr, wp_mTru, wp_mBl, wp_blOf, wp_tru_bl, wp_mBin, wp_mUn, wp_mIf, wp_mNotT, wp_mAndT, wp_mOrT, wp_mAndV, wp_mOrV, wp_mNotV, wp_mChain, wp_mChainT, wp_mNil, wp_mCons, wp_mDisp, wp_tupD, wp_lstD, wp_mSl, wp_mNoPart, wp_mPart, wp_intOf, wp_mBm, wp_mMeth, wp_dflS, wp_mIt, wp_mItA, wp_mDict, wp_mpNil, wp_mpCons, wp_mNext, wp_mYes, wp_mLc, ws_mNx, ws_mBrk, ws_mCnt, ws_mRetN, ws_mSeq, ws_mDrop, ws_mRet, ws_mIfS, ws_mAsg, wp_gNm, wp_gsNil, wp_gsCons, wp_gTp, wp_gSubS, ws_mSetI, ws_mSetF, put_some, wp_callS, ws_mFor, ws_nx, ws_ret, wp_gFld, wp_mMethKw, wp_mC]
        exact ⟨trivial, Ext.rfl'⟩
    rw [decide_eq_true c12, Bool.true_and] at e0
    rw [if_pos (decide_eq_true (show (1 : Int) ≤ ds.length by omega)), decide_eq_true (show (ds.length : Int) ≤ 8 by omega)]
    simp only [Bool.not_true, Bool.false_eq_true, if_false, wp_ok, wp_bind, wp_noX, wp_mC, wp_mStr, wp_mTru, wp_mBl, wp_blOf, wp_tru_bl, wp_mBin, wp_mUn, wp_mIf, wp_mNotT, wp_mAndT, wp_mOrT, wp_mAndV, wp_mOrV, wp_mNotV, wp_mChain, wp_mChainT, wp_mNil, wp_mCons, wp_mDisp, wp_tupD, wp_lstD, wp_mSl, wp_mNoPart, wp_mPart, wp_intOf, wp_mBm, wp_mMeth, wp_dflS, wp_mIt, wp_mItA, wp_mDict, wp_mpNil, wp_mpCons, wp_mNext, wp_mYes, wp_mLc, ws_mNx, ws_mBrk, ws_mCnt, ws_mRetN, ws_mSeq, ws_mDrop, ws_mRet, ws_mIfS, ws_mAsg, wp_gNm, wp_gsNil, wp_gsCons, wp_gTp, wp_gSubS, ws_mSetI, ws_mSetF, put_some, wp_callS, ws_mFor, ws_nx, ws_ret, wp_gFld, wp_mMethKw, wp_mVar0, wp_mVarS]
    rw [iter_tup, wp_ok]
    refine wp_lc (ms := []) (X := fun _ => True) (f := fun d => !isNm d) (P := fun d y => y = d) (by simp) trivial (fun _ _ _ _ => trivial) (fun _ _ => rfl) (fun _ _ => rfl) (by simp [srcT, sizeLine]; omega) ?_ ?_
    · intro dd hdd S9 x9 _
      simp only [srcT] at hdd
      simp only [wp_ok, wp_bind, wp_noX, wp_mC, wp_mStr, wp_mTru, wp_mBl, wp_blOf, wp_tru_bl, wp_mBin, wp_mUn, wp_mIf, wp_mNotT, wp_mAndT, wp_mOrT, wp_mAndV, wp_mOrV, wp_mNotV, wp_mChain, wp_mChainT, wp_mNil, wp_mCons, wp_mDisp, wp_tupD, wp_lstD, wp_mSl, wp_mNoPart, wp_mPart, wp_intOf, wp_mBm, wp_mMeth, wp_dflS, wp_mIt, wp_mItA, wp_mDict, wp_mpNil, wp_mpCons, wp_mNext, wp_mYes, wp_mLc, ws_mNx, ws_mBrk, ws_mCnt, ws_mRetN, ws_mSeq, ws_mDrop, ws_mRet, ws_mIfS, ws_mAsg, wp_gNm, wp_gsNil, wp_gsCons, wp_gTp, wp_gSubS, ws_mSetI, ws_mSetF, put_some, wp_callS, ws_mFor, ws_nx, ws_ret, wp_gFld, wp_mMethKw, wipeR, List.set, wp_mVar0, wp_mVarS, List.append_nil, List.length_cons, List.length_nil, Nat.zero_add, Nat.add_zero, true_and]
      refine (law_name_any ((gd_kn (hd dd hdd)).ext x9)).imp fun y T ⟨ey, xT⟩ => ?_
      subst ey
      rw [wp_tru_bl]
      exact ⟨rfl, fun _ => ⟨xT, trivial⟩, fun _ => ⟨xT, trivial⟩⟩
    intro acc S9 ha9 x9 _ hg9
    have ea := ha9.eq_map
    rw [List.map_id'] at ea
    subst ea
    refine ⟨by simp [sizeLine], ?_⟩
    rw [neN_lst (get_old hg9) get_push, filt_empty, wp_ok, wp_blOf]
    simp only [srcT]
    have x9' : Ext [] S (S9 ++ [O.lst []]) := x9.trans (Ext.push _)
    revert x9'
    generalize S9 ++ [O.lst []] = U
    intro x9'
    by_cases hn : ds.all isNm = true
    rotate_left
    · have hn' : ds.all isNm = false := by simpa using hn
      rw [hn', Bool.false_and] at e0
      simp only [hn', Bool.not_false, if_true, wp_ok, wp_bind, wp_noX, wp_mC, wp_mStr, wp_mTru, wp_mBl, wp_blOf, wp_tru_bl, wp_mBin, wp_mUn, wp_mIf, wp_mNotT, wp_mAndT, wp_mOrT, wp_mAndV, wp_mOrV, wp_mNotV, wp_mChain, wp_mChainT, wp_mNil, wp_mCons, wp_mDisp, wp_tupD, wp_lstD, wp_mSl, wp_mNoPart, wp_mPart, wp_intOf, wp_mBm, wp_mMeth, wp_dflS, wp_mIt, wp_mItA, wp_mDict, wp_mpNil, wp_mpCons, wp_mNext, wp_mYes, wp_mLc, ws_mNx, ws_mBrk, ws_mCnt, ws_mRetN, ws_mSeq, ws_mDrop, ws_mRet, ws_mIfS, ws_mAsg, wp_gNm, wp_gsNil, wp_gsCons, wp_gTp, wp_gSubS, ws_mSetI, ws_mSetF, put_some, wp_callS, ws_mFor, ws_nx, ws_ret, wp_gFld, wp_mMethKw, right_p e0]
      exact ⟨trivial, x9'⟩
    rw [hn, Bool.true_and] at e0
    have ez := strs_zs hn
    have lz := zs_len hn
    simp only [hn, Bool.not_true, Bool.false_eq_true, if_false, wp_ok, wp_bind, wp_noX, wp_mC, wp_mStr, wp_mTru, wp_mBl, wp_blOf, wp_tru_bl, wp_mBin, wp_mUn, wp_mIf, wp_mNotT, wp_mAndT, wp_mOrT, wp_mAndV, wp_mOrV, wp_mNotV, wp_mChain, wp_mChainT, wp_mNil, wp_mCons, wp_mDisp, wp_tupD, wp_lstD, wp_mSl, wp_mNoPart, wp_mPart, wp_intOf, wp_mBm, wp_mMeth, wp_dflS, wp_mIt, wp_mItA, wp_mDict, wp_mpNil, wp_mpCons, wp_mNext, wp_mYes, wp_mLc, ws_mNx, ws_mBrk, ws_mCnt, ws_mRetN, ws_mSeq, ws_mDrop, ws_mRet, ws_mIfS, ws_mAsg, wp_gNm, wp_gsNil, wp_gsCons, wp_gTp, wp_gSubS, ws_mSetI, ws_mSetF, put_some, wp_callS, ws_mFor, ws_nx, ws_ret, wp_gFld, wp_mMethKw, wp_mVar0, wp_mVarS]
    have hls : listS [.tup ds] U = newL ds U := rfl
    rw [hls, newL, wp_ok]
    have hu : ssetU [.tup ds] (U ++ [O.lst ds]) = newL (srt ((onceS (zsOf ds)).map D.str)) (U ++ [O.lst ds]) := by
      have hs : strsOf ds = some (zsOf ds) := by
        conv => lhs; rw [ez]
        exact strsOf_map _
      simp only [ssetU, hs]
      rw [if_pos (by omega)]
    have pl1 : Pls ds := by rw [ez]; exact pls_strs _
    rw [hu, newL, wp_ok, neS_lst pl1 (srt_strs_pl _) (get_old get_push) get_push, wp_ok, wp_blOf]
    have xU : Ext [] S (U ++ [O.lst ds] ++ [O.lst (srt ((onceS (zsOf ds)).map D.str))]) := (x9'.trans (Ext.push _)).trans (Ext.push _)
    revert xU
    generalize U ++ [O.lst ds] ++ [O.lst (srt ((onceS (zsOf ds)).map D.str))] = V
    intro xU
    by_cases he : ds = srt ((onceS (zsOf ds)).map D.str)
    rotate_left
    · rw [decide_eq_false he] at e0 ⊢
      simp only [Bool.not_false, if_true, wp_ok, wp_bind, wp_noX, wp_mC, wp_mStr, wp_mTru, wp_mBl, wp_blOf, wp_tru_bl, wp_mBin, wp_mUn, wp_mIf, wp_mNotT, wp_mAndT, wp_mOrT, wp_mAndV, wp_mOrV, wp_mNotV, wp_mChain, wp_mChainT, wp_mNil, wp_mCons, wp_mDisp, wp_tupD, wp_lstD, wp_mSl, wp_mNoPart, wp_mPart, wp_intOf, wp_mBm, wp_mMeth, wp_dflS, wp_mIt, wp_mItA, wp_mDict, wp_mpNil, wp_mpCons, wp_mNext, wp_mYes, wp_mLc, ws_mNx, ws_mBrk, ws_mCnt, ws_mRetN, ws_mSeq, ws_mDrop, ws_mRet, ws_mIfS, ws_mAsg, wp_gNm, wp_gsNil, wp_gsCons, wp_gTp, wp_gSubS, ws_mSetI, ws_mSetF, put_some, wp_callS, ws_mFor, ws_nx, ws_ret, wp_gFld, wp_mMethKw, right_p e0]
      exact ⟨trivial, xU⟩
    rw [decide_eq_true he] at e0 ⊢
    simp only [Bool.not_true, Bool.false_eq_true, if_false, wp_ok, wp_bind, wp_noX, wp_mC, wp_mStr, wp_mTru, wp_mBl, wp_blOf, wp_tru_bl, wp_mBin, wp_mUn, wp_mIf, wp_mNotT, wp_mAndT, wp_mOrT, wp_mAndV, wp_mOrV, wp_mNotV, wp_mChain, wp_mChainT, wp_mNil, wp_mCons, wp_mDisp, wp_tupD, wp_lstD, wp_mSl, wp_mNoPart, wp_mPart, wp_intOf, wp_mBm, wp_mMeth, wp_dflS, wp_mIt, wp_mItA, wp_mDict, wp_mpNil, wp_mpCons, wp_mNext, wp_mYes, wp_mLc, ws_mNx, ws_mBrk, ws_mCnt, ws_mRetN, ws_mSeq, ws_mDrop, ws_mRet, ws_mIfS, ws_mAsg, wp_gNm, wp_gsNil, wp_gsCons, wp_gTp, wp_gSubS, ws_mSetI, ws_mSetF, put_some, wp_callS, ws_mFor, ws_nx, ws_ret, wp_gFld, wp_mMethKw, wp_mVar0, wp_mVarS]
    have hyV := gd_ext xU (by simp) k y hy
    rw [isi_tup (gd_kn hyV), wp_ok, wp_tru_bl]
    rw [ez] at e0
    rw [ez]
    generalize zsOf ds = zs at e0
    cases y with
    | tup rd =>
      obtain ⟨lr, hr⟩ := gd_tup' hyV
      simp only [isT, Bool.not_true, Bool.false_eq_true, if_false, wp_ok, wp_bind, wp_noX, wp_mC, wp_mStr, wp_mTru, wp_mBl, wp_blOf, wp_tru_bl, wp_mBin, wp_mUn, wp_mIf, wp_mNotT, wp_mAndT, wp_mOrT, wp_mAndV, wp_mOrV, wp_mNotV, wp_mChain, wp_mChainT, wp_mNil, wp_mCons, wp_mDisp, wp_tupD, wp_lstD, wp_mSl, wp_mNoPart, wp_mPart, wp_intOf, wp_mBm, wp_mMeth, wp_dflS, wp_mIt, wp_mItA, wp_mDict, wp_mpNil, wp_mpCons, wp_mNext, wp_mYes, wp_mLc, ws_mNx, ws_mBrk, ws_mCnt, ws_mRetN, ws_mSeq, ws_mDrop, ws_mRet, ws_mIfS, ws_mAsg, wp_gNm, wp_gsNil, wp_gsCons, wp_gTp, wp_gSubS, ws_mSetI, ws_mSetF, put_some, wp_callS, ws_mFor, ws_nx, ws_ret, wp_gFld, wp_mMethKw, wp_mVar0, wp_mVarS, right_is e0]
      refine ⟨by simp [sizeLine], ?_⟩
      rw [eqN_tup, wp_ok, wp_blOf]
      cases rd with
      | nil =>
        simp only [List.isEmpty_nil, if_true, wp_ok, wp_bind, wp_noX, wp_mC, wp_mStr, wp_mTru, wp_mBl, wp_blOf, wp_tru_bl, wp_mBin, wp_mUn, wp_mIf, wp_mNotT, wp_mAndT, wp_mOrT, wp_mAndV, wp_mOrV, wp_mNotV, wp_mChain, wp_mChainT, wp_mNil, wp_mCons, wp_mDisp, wp_tupD, wp_lstD, wp_mSl, wp_mNoPart, wp_mPart, wp_intOf, wp_mBm, wp_mMeth, wp_dflS, wp_mIt, wp_mItA, wp_mDict, wp_mpNil, wp_mpCons, wp_mNext, wp_mYes, wp_mLc, ws_mNx, ws_mBrk, ws_mCnt, ws_mRetN, ws_mSeq, ws_mDrop, ws_mRet, ws_mIfS, ws_mAsg, wp_gNm, wp_gsNil, wp_gsCons, wp_gTp, wp_gSubS, ws_mSetI, ws_mSetF, put_some, wp_callS, ws_mFor, ws_nx, ws_ret, wp_gFld, wp_mMethKw]
        exact ⟨by simp, xU⟩
      | cons r0 rd0 =>
        simp only [List.isEmpty_cons, Bool.false_eq_true, if_false, wp_ok, wp_bind, wp_noX, wp_mC, wp_mStr, wp_mTru, wp_mBl, wp_blOf, wp_tru_bl, wp_mBin, wp_mUn, wp_mIf, wp_mNotT, wp_mAndT, wp_mOrT, wp_mAndV, wp_mOrV, wp_mNotV, wp_mChain, wp_mChainT, wp_mNil, wp_mCons, wp_mDisp, wp_tupD, wp_lstD, wp_mSl, wp_mNoPart, wp_mPart, wp_intOf, wp_mBm, wp_mMeth, wp_dflS, wp_mIt, wp_mItA, wp_mDict, wp_mpNil, wp_mpCons, wp_mNext, wp_mYes, wp_mLc, ws_mNx, ws_mBrk, ws_mCnt, ws_mRetN, ws_mSeq, ws_mDrop, ws_mRet, ws_mIfS, ws_mAsg, wp_gNm, wp_gsNil, wp_gsCons, wp_gTp, wp_gSubS, ws_mSetI, ws_mSetF, put_some, wp_callS, ws_mFor, ws_nx, ws_ret, wp_gFld, wp_mMethKw, wp_mVar0, wp_mVarS]
        rw [decide_eq_true (show (r0 :: rd0) ≠ [] by simp), Bool.true_and]
        generalize r0 :: rd0 = rd at lr hr
        rw [iter_tup, wp_ok]
        refine wp_lc (ms := []) (X := fun _ => True) (f := fun d => !rowOk (zs.map D.str) rd.length d) (P := fun d y => y = d) (by simp) trivial (fun _ _ _ _ => trivial) (fun _ _ => rfl) (fun _ _ => rfl) (by simp [srcT, sizeLine]; omega) ?_ ?_
        · intro dd hdd S8 x8 _
          simp only [srcT] at hdd
          simp only [wp_ok, wp_bind, wp_noX, wp_mC, wp_mStr, wp_mTru, wp_mBl, wp_blOf, wp_tru_bl, wp_mBin, wp_mUn, wp_mIf, wp_mNotT, wp_mAndT, wp_mOrT, wp_mAndV, wp_mOrV, wp_mNotV, wp_mChain, wp_mChainT, wp_mNil, wp_mCons, wp_mDisp, wp_tupD, wp_lstD, wp_mSl, wp_mNoPart, wp_mPart, wp_intOf, wp_mBm, wp_mMeth, wp_dflS, wp_mIt, wp_mItA, wp_mDict, wp_mpNil, wp_mpCons, wp_mNext, wp_mYes, wp_mLc, ws_mNx, ws_mBrk, ws_mCnt, ws_mRetN, ws_mSeq, ws_mDrop, ws_mRet, ws_mIfS, ws_mAsg, wp_gNm, wp_gsNil, wp_gsCons, wp_gTp, wp_gSubS, ws_mSetI, ws_mSetF, put_some, wp_callS, ws_mFor, ws_nx, ws_ret, wp_gFld, wp_mMethKw, wipeR, List.set, wp_mVar0, wp_mVarS, lenS, List.append_nil, List.length_cons, List.length_nil, Nat.zero_add, Nat.add_zero, true_and]
          refine (law_row_any hk (gd_ext x8 (by simp) k dd (hr dd hdd))).imp fun y T ⟨ey, xT⟩ => ?_
          subst ey
          rw [wp_tru_bl]
          exact ⟨rfl, fun _ => ⟨xT, trivial⟩, fun _ => ⟨xT, trivial⟩⟩
        · intro acc S8 ha8 x8 _ hg8
          have ea := ha8.eq_map
          rw [List.map_id'] at ea
          subst ea
          refine ⟨by simp [sizeLine], ?_⟩
          rw [eqN_lst (get_old hg8) get_push, filt_empty, wp_ok]
          exact ⟨rfl, (xU.trans x8).trans (Ext.push _)⟩
    | _ =>
      simp only [isT, Bool.not_false, if_true, wp_ok, wp_bind, wp_noX, wp_mC, wp_mStr, wp_mTru, wp_mBl, wp_blOf, wp_tru_bl, wp_mBin, wp_mUn, wp_mIf, wp_mNotT, wp_mAndT, wp_mOrT, wp_mAndV, wp_mOrV, wp_mNotV, wp_mChain, wp_mChainT, wp_mNil, wp_mCons, wp_mDisp, wp_tupD, wp_lstD, wp_mSl, wp_mNoPart, wp_mPart, wp_intOf, wp_mBm, wp_mMeth, wp_dflS, wp_mIt, wp_mItA, wp_mDict, wp_mpNil, wp_mpCons, wp_mNext, wp_mYes, wp_mLc, ws_mNx, ws_mBrk, ws_mCnt, ws_mRetN, ws_mSeq, ws_mDrop, ws_mRet, ws_mIfS, ws_mAsg, wp_gNm, wp_gsNil, wp_gsCons, wp_gTp, wp_gSubS, ws_mSetI, ws_mSetF, put_some, wp_callS, ws_mFor, ws_nx, ws_ret, wp_gFld, wp_mMethKw]
      exact ⟨by rw [right_t rfl], xU⟩
  | _ =>
    simp only [isT, Bool.not_false, if_true, wp_ok, wp_bind, wp_noX, wp_mC, wp_mStr, wp_mTru, wp_mBl, wp_blOf, wp_tru_bl, wp_mBin, wp_mUn, wp_mIf, wp_mNotT, wp_mAndT, wp_mOrT, wp_mAndV, wp_mOrV, wp_mNotV, wp_mChain, wp_mChainT, wp_mNil, wp_mCons, wp_mDisp, wp_tupD, wp_lstD, wp_mSl, wp_mNoPart, wp_mPart, wp_intOf, wp_mBm, wp_mMeth, wp_dflS, wp_mIt, wp_mItA, wp_mDict, wp_mpNil, wp_mpCons, wp_mNext, wp_mYes, wp_mLc, ws_mNx, ws_mBrk, ws_mCnt, ws_mRetN, ws_mSeq, ws_mDrop, ws_mRet, ws_mIfS, ws_mAsg, wp_gNm, wp_gsNil, wp_gsCons, wp_gTp, wp_gSubS, ws_mSetI, ws_mSetF, put_some, wp_callS, ws_mFor, ws_nx, ws_ret, wp_gFld, wp_mMethKw]
    exact ⟨by rw [right_p rfl], Ext.rfl'⟩
end K20
/-! J11 -/
set_option Elab.async false
set_option autoImplicit false
set_option linter.all false
set_option maxRecDepth 100000
set_option maxHeartbeats 1000000
namespace K20
open PySem PySem.Spec MP
open L2 hiding prD

/-! bending values -/
theorem ok_e : okS "" := by decide +kernel
theorem ok_A : okS "A" := by decide +kernel
theorem ok_7 : okS "abcdefg" := by decide +kernel
theorem ok_wait : okS "wait" := by decide +kernel
theorem ok_nobody : okS "nobody" := by decide +kernel
theorem gd_s {B k : Nat} {S : Sto} {z : Str} : gd B S k (.str z) = true := by simp [gd]
theorem odd_ok {p q r B : Nat} {S : Sto} {ps : List Str} (hd : Draw p q r S) (hB : B ≤ S.length) (hp : p < B) (hq : q < B) (h1 : ps ≠ []) :
    Wp (f__law_odd [.ptr p, .tup (ps.map D.str)] S) fun d T => gd B T 2 d = true ∧ Draw p q r T ∧ Ext [p, q] S T := by
  obtain ⟨p0, prest, eps⟩ : ∃ p0 rest, ps = p0 :: rest := by
    cases hps : ps with
    | nil => exact absurd hps h1
    | cons a l => exact ⟨a, l, rfl⟩
  have hp0 : (ps.map D.str)[(0 : Int).toNat]? = some (.str p0) := by rw [eps]; rfl
  have lp0 : (0 : Int) < (ps.map D.str).length := by rw [eps]; simp
  unfold f__law_odd
  rw [wp_callS]
  simp only [List.map, List.length, List.replicate, List.cons_append, List.nil_append, N__law_odd]
  refine ws_cut (fun ρ1 S1 => ∃ (o a : Nat), ρ1 = [some (.ptr p), some (.tup (ps.map D.str)), some (.ptr o)] ∧ (B ≤ o ∧ B ≤ a) ∧ S1[o]? = some (.lst [.non, .bl true, .int 0, .int 1, .int (-1), .str "fail", .str "", .tup [], .ptr a, .str "A", .str "abcdefg", .tup [.str "fail", .str p0], .tup [.tup [.str "fail", .str p0], .int 0]]) ∧ S1[a]? = some (.lst []) ∧ Draw p q r S1 ∧ Ext [p, q] S S1) ?_ ?_
  · simp only [wp_ok, wp_bind, wp_noX, wp_mC, wp_mStr, wp_mTru, wp_mBl, wp_blOf, wp_tru_bl, wp_mBin, wp_mUn, wp_mIf, wp_mNotT, wp_mAndT, wp_mOrT, wp_mAndV, wp_mOrV, wp_mNotV, wp_mChain, wp_mChainT, wp_mNil, wp_mCons, wp_mDisp, wp_tupD, wp_lstD, wp_mSl, wp_mNoPart, wp_mPart, wp_intOf, wp_mBm, wp_mMeth, wp_dflS, wp_mIt, wp_mItA, wp_mDict, wp_mpNil, wp_mpCons, wp_mNext, wp_mYes, wp_mLc, ws_mNx, ws_mBrk, ws_mCnt, ws_mRetN, ws_mSeq, ws_mDrop, ws_mRet, ws_mIfS, ws_mAsg, wp_gNm, wp_gsNil, wp_gsCons, wp_gTp, wp_gSubS, ws_mSetI, ws_mSetF, put_some, wp_callS, ws_mFor, ws_nx, ws_ret, wp_gFld, wp_mMethKw, wp_mVar0, wp_mVarS, List.set, negS]
    refine ⟨ok_fail, ok_e, by simp [sizeLine], by simp [sizeLine], ok_A, ok_7, ok_fail, ?_⟩
    rw [ix_tup (i := 0) (by decide) lp0 hp0]
    refine ⟨by simp [sizeLine], ok_fail, ?_⟩
    rw [ix_tup (i := 0) (by decide) lp0 hp0]
    refine ⟨by simp [sizeLine], by simp [sizeLine], by simp [sizeLine], ?_⟩
    exact ⟨_, S.length, rfl, ⟨by simp; omega, hB⟩, get_push, get_old get_push, (hd.ext (Ext.push _)).ext (Ext.push _), (Ext.push _).trans (Ext.push _)⟩
  rintro ρ1 S1 ⟨o, a, rfl, ⟨ho, ha⟩, eo, ea, hd1, x1⟩
  simp only [wp_ok, wp_bind, wp_noX, wp_mC, wp_mStr, wp_mTru, wp_mBl, wp_blOf, wp_tru_bl, wp_mBin, wp_mUn, wp_mIf, wp_mNotT, wp_mAndT, wp_mOrT, wp_mAndV, wp_mOrV, wp_mNotV, wp_mChain, wp_mChainT, wp_mNil, wp_mCons, wp_mDisp, wp_tupD, wp_lstD, wp_mSl, wp_mNoPart, wp_mPart, wp_intOf, wp_mBm, wp_mMeth, wp_dflS, wp_mIt, wp_mItA, wp_mDict, wp_mpNil, wp_mpCons, wp_mNext, wp_mYes, wp_mLc, ws_mNx, ws_mBrk, ws_mCnt, ws_mRetN, ws_mSeq, ws_mDrop, ws_mRet, ws_mIfS, ws_mAsg, wp_gNm, wp_gsNil, wp_gsCons, wp_gTp, wp_gSubS, ws_mSetI, ws_mSetF, put_some, wp_callS, ws_mFor, ws_nx, ws_ret, wp_gFld, wp_mMethKw, wp_mVar0, wp_mVarS, List.set]
  refine ⟨by simp [sizeLine], by simp [sizeLine], ?_⟩
  rw [ix_tup (i := 0) (by decide) lp0 hp0]
  refine ⟨by simp [sizeLine], ok_wait, ?_⟩
  rw [ix_tup (i := 0) (by decide) lp0 hp0]
  refine ⟨by simp [sizeLine], ok_mend, ok_nobody, by simp [sizeLine], by simp [sizeLine], ?_⟩
  simp only [mDict0, newD, wp_ok]
  refine ⟨by simp [sizeLine], ?_⟩
  have l1 := x1.len
  have eb : (S1 ++ [O.lst [D.str p0]])[S1.length]? = some (.lst [.str p0]) := get_push
  have hd2 : Draw p q r (S1 ++ [O.lst [D.str p0]]) := hd1.ext (Ext.push _)
  have x2 : Ext [p, q] S1 (S1 ++ [O.lst [D.str p0]]) := Ext.push _
  have l2 : (S1 ++ [O.lst [D.str p0]]).length = S1.length + 1 := by simp
  revert eb hd2 x2 l2
  generalize S1 ++ [O.lst [D.str p0]] = S2
  intro eb hd2 x2 l2
  have ec : (S2 ++ [O.dct []])[S2.length]? = some (.dct []) := get_push
  have hd3 : Draw p q r (S2 ++ [O.dct []]) := hd2.ext (Ext.push _)
  have x3 : Ext [p, q] S2 (S2 ++ [O.dct []]) := Ext.push _
  revert ec hd3 x3
  generalize S2 ++ [O.dct []] = S3
  intro ec hd3 x3
  have no : o ≠ p ∧ o ≠ q := ⟨by omega, by omega⟩
  have na : a ≠ p ∧ a ≠ q := ⟨by omega, by omega⟩
  have eo3 := Draw.get x3 (Draw.get x2 eo no.1 no.2) no.1 no.2
  have ea3 := Draw.get x3 (Draw.get x2 ea na.1 na.2) na.1 na.2
  have eb3 := Draw.get x3 eb (by omega) (by omega)
  refine (adds_lst (b := [.tup [.bl true, .tup []], .ptr S1.length, .tup [.str "wait", .str p0], .tup [.tup [.str "mend", .str "nobody"], .int 0], .ptr S2.length]) (get_old eo3) get_push (by simp [sizeLine])).mpr ?_
  have l3 := x3.len
  have hd5 := (hd3.ext (Ext.push (ms := []) [O.lst [D.tup [.bl true, .tup []], .ptr S1.length, .tup [.str "wait", .str p0], .tup [.tup [.str "mend", .str "nobody"], .int 0], .ptr S2.length]]))
  have o5 := hd5.old (Nat.le_refl _)
  simp only [List.append_nil, List.length_cons, List.length_nil, Nat.zero_add, Nat.add_zero, Nat.reduceAdd, true_and]
  refine (pick_ok (hd5.ext (Ext.push _)) get_push o5.1 o5.2.1 (by simp) (by simp)).imp fun y T ⟨hy, hdT, xT⟩ => ?_
  have xx : Ext [p, q] S3 T := ((Ext.push _).trans (Ext.push _)).trans xT
  have eaT := Draw.get xx ea3 na.1 na.2
  have ebT := Draw.get xx eb3 (by omega) (by omega)
  have ecT := Draw.get xx ec (by omega) (by omega)
  refine ⟨?_, hdT, ((x1.trans x2).trans x3).trans xx⟩
  have b1 : B ≤ S1.length := by omega
  have b2 : B ≤ S2.length := by omega
  simp only [List.cons_append, List.nil_append, List.mem_cons, List.not_mem_nil, or_false] at hy
  rcases hy with rfl | rfl | rfl | rfl | rfl | rfl | rfl | rfl | rfl | rfl | rfl | rfl | rfl | rfl | rfl | rfl | rfl | rfl
  · simp [gd]
  · simp [gd]
  · simp [gd]
  · simp [gd]
  · simp [gd]
  · simp [gd]
  · simp [gd]
  · simp [gd]
  · simp [gd, eaT, ha]
  · simp [gd]
  · simp [gd]
  · simp [gd]
  · simp [gd]
  · simp [gd]
  · simp [gd, ebT, b1]
  · simp [gd]
  · simp [gd]
  · simp [gd, ecT, b2]
theorem cutD_take {ds : List D} {k : Int} (h0 : 0 ≤ k) : cutD ds none (some k) = ds.take k.toNat := by
  simp only [cutD, HT.sIx]
  split
  · omega
  · simp [List.take_eq_take_iff]
theorem cutD_drop {ds : List D} {k : Int} (h0 : 0 ≤ k) (h1 : k ≤ ds.length) : cutD ds (some k) none = ds.drop k.toNat := by
  simp only [cutD, HT.sIx]
  split
  · omega
  · rw [Nat.min_eq_left (by omega)]
    exact List.take_of_length_le (by simp)
theorem add_tup {S : Sto} {a b : List D} {Q : D → Sto → Prop} (h : a.length + b.length ≤ 1000) : Wp (addS (.tup a) (.tup b) S) Q ↔ Q (.tup (a ++ b)) S := by
  have : a.length + b.length ≤ sizeLine := by rw [sizeLine_eq]; omega
  simp only [addS, this, if_true, wp_ok]
theorem bent_ok {p q r B : Nat} {ps : List Str} (hp : p < B) (hq : q < B) (h1 : ps ≠ []) : ∀ (j k : Nat) (S : Sto) (x : D), k < j → k ≤ 15 → B ≤ S.length → Draw p q r S → gd B S k x = true →
    Wp (f__law_bent j [.ptr p, x, .tup (ps.map D.str)] S) fun d T => gd B T (k + 2) d = true ∧ Draw p q r T ∧ Ext [p, q] S T
  | 0, k, S, x, hj, _, _, _, _ => absurd hj (Nat.not_lt_zero _)
  | j + 1, k, S, x, hj, hk, hB, hd, hx => by
    rw [f__law_bent]
    rw [wp_callS]
    simp only [List.map, List.length, List.replicate, List.cons_append, List.nil_append, N__law_bent]
    have odd : ∀ (S1 : Sto), Draw p q r S1 → Ext [p, q] S S1 → Wp (f__law_odd [.ptr p, .tup (ps.map D.str)] S1) fun d T => gd B T (k + 2) d = true ∧ Draw p q r T ∧ Ext [p, q] S T := fun S1 h x1 =>
      (odd_ok h (Nat.le_trans hB x1.len) hp hq h1).imp fun d T ⟨g, h2, x2⟩ => ⟨gd_le g (by omega), h2, x1.trans x2⟩
    cases x with
    | tup ds =>
      cases k with
      | zero => simp [gd] at hx
      | succ k =>
        obtain ⟨lds, hds⟩ := gd_tup hx
        cases hde : ds with
        | nil =>
          rw [ws_mSeq, ws_mIfS]
          simp only [wp_ok, wp_bind, wp_noX, wp_mC, wp_mStr, wp_mTru, wp_mBl, wp_blOf, wp_tru_bl, wp_mBin, wp_mUn, wp_mIf, wp_mNotT, wp_mAndT, wp_mOrT, wp_mAndV, wp_mOrV, wp_mNotV, wp_mChain, wp_mChainT, wp_mNil, wp_mCons, wp_mDisp, wp_tupD, wp_lstD, wp_mSl, wp_mNoPart, wp_mPart, wp_intOf, wp_mBm, wp_mMeth, wp_dflS, wp_mIt, wp_mItA, wp_mDict, wp_mpNil, wp_mpCons, wp_mNext, wp_mYes, wp_mLc, ws_mNx, ws_mBrk, ws_mCnt, ws_mRetN, ws_mSeq, ws_mDrop, ws_mRet, ws_mIfS, ws_mAsg, wp_gNm, wp_gsNil, wp_gsCons, wp_gTp, wp_gSubS, ws_mSetI, ws_mSetF, put_some, wp_callS, ws_mFor, ws_nx, ws_ret, wp_gFld, wp_mMethKw, wp_mVar0, wp_mVarS, isi_tup (show Kn S (.tup []) from trivial), isT, Bool.not_true, Bool.false_eq_true, if_false]
          refine ⟨by simp [sizeLine], ?_⟩
          rw [eqN_tup, wp_ok, wp_blOf]
          simp only [List.isEmpty_nil, if_true, wp_ok, wp_bind, wp_noX, wp_mC, wp_mStr, wp_mTru, wp_mBl, wp_blOf, wp_tru_bl, wp_mBin, wp_mUn, wp_mIf, wp_mNotT, wp_mAndT, wp_mOrT, wp_mAndV, wp_mOrV, wp_mNotV, wp_mChain, wp_mChainT, wp_mNil, wp_mCons, wp_mDisp, wp_tupD, wp_lstD, wp_mSl, wp_mNoPart, wp_mPart, wp_intOf, wp_mBm, wp_mMeth, wp_dflS, wp_mIt, wp_mItA, wp_mDict, wp_mpNil, wp_mpCons, wp_mNext, wp_mYes, wp_mLc, ws_mNx, ws_mBrk, ws_mCnt, ws_mRetN, ws_mSeq, ws_mDrop, ws_mRet, ws_mIfS, ws_mAsg, wp_gNm, wp_gsNil, wp_gsCons, wp_gTp, wp_gSubS, ws_mSetI, ws_mSetF, put_some, wp_callS, ws_mFor, ws_nx, ws_ret, wp_gFld, wp_mMethKw, wp_mVar0, wp_mVarS, List.append_nil, List.length_cons, List.length_nil, Nat.zero_add, Nat.add_zero, Nat.reduceAdd, true_and]
          exact odd S hd Ext.rfl'
        | cons d0 dr =>
          rw [← hde]
          have hne : ds.isEmpty = false := by rw [hde]; rfl
          have hlen : 0 < ds.length := by rw [hde]; simp
          clear hde
          have gdn : ∀ {T : Sto} {es : List D}, (∀ d ∈ es, gd B T (k + 2) d = true) → es.length ≤ 10 + k → gd B T (k + 1 + 2) (.tup es) = true := fun h1 h2 => tup_gd (k := k + 2) (by omega) h1
          refine ws_cut (fun ρ1 S1 => ρ1 = [some (.ptr p), some (.tup ds), some (.tup (ps.map D.str)), none, none] ∧ Draw p q r S1 ∧ Ext [p, q] S S1) ?_ ?_
          · rw [ws_mIfS]
            simp only [wp_ok, wp_bind, wp_noX, wp_mC, wp_mStr, wp_mTru, wp_mBl, wp_blOf, wp_tru_bl, wp_mBin, wp_mUn, wp_mIf, wp_mNotT, wp_mAndT, wp_mOrT, wp_mAndV, wp_mOrV, wp_mNotV, wp_mChain, wp_mChainT, wp_mNil, wp_mCons, wp_mDisp, wp_tupD, wp_lstD, wp_mSl, wp_mNoPart, wp_mPart, wp_intOf, wp_mBm, wp_mMeth, wp_dflS, wp_mIt, wp_mItA, wp_mDict, wp_mpNil, wp_mpCons, wp_mNext, wp_mYes, wp_mLc, ws_mNx, ws_mBrk, ws_mCnt, ws_mRetN, ws_mSeq, ws_mDrop, ws_mRet, ws_mIfS, ws_mAsg, wp_gNm, wp_gsNil, wp_gsCons, wp_gTp, wp_gSubS, ws_mSetI, ws_mSetF, put_some, wp_callS, ws_mFor, ws_nx, ws_ret, wp_gFld, wp_mMethKw, wp_mVar0, wp_mVarS, isi_tup (show Kn S (.tup ds) from trivial), isT, Bool.not_true, Bool.false_eq_true, if_false]
            refine ⟨by simp [sizeLine], ?_⟩
            rw [eqN_tup, wp_ok, wp_blOf, hne]
            simp only [Bool.false_eq_true, if_false, wp_ok, wp_bind, wp_noX, wp_mC, wp_mStr, wp_mTru, wp_mBl, wp_blOf, wp_tru_bl, wp_mBin, wp_mUn, wp_mIf, wp_mNotT, wp_mAndT, wp_mOrT, wp_mAndV, wp_mOrV, wp_mNotV, wp_mChain, wp_mChainT, wp_mNil, wp_mCons, wp_mDisp, wp_tupD, wp_lstD, wp_mSl, wp_mNoPart, wp_mPart, wp_intOf, wp_mBm, wp_mMeth, wp_dflS, wp_mIt, wp_mItA, wp_mDict, wp_mpNil, wp_mpCons, wp_mNext, wp_mYes, wp_mLc, ws_mNx, ws_mBrk, ws_mCnt, ws_mRetN, ws_mSeq, ws_mDrop, ws_mRet, ws_mIfS, ws_mAsg, wp_gNm, wp_gsNil, wp_gsCons, wp_gTp, wp_gSubS, ws_mSetI, ws_mSetF, put_some, wp_callS, ws_mFor, ws_nx, ws_ret, wp_gFld, wp_mMethKw, wp_mVar0, wp_mVarS, List.append_nil, List.length_cons, List.length_nil, Nat.zero_add, Nat.add_zero, Nat.reduceAdd, true_and]
            refine (take_ok (size := 5) hd (by decide) (by decide)).imp fun y S1 ⟨i, ei, i0, i1, hd1, x1⟩ => ?_
            subst ei
            rw [eqs_int, wp_blOf]
            by_cases hi : i = 0
            · rw [decide_eq_true hi]
              simp only [if_true, wp_ok, wp_bind, wp_noX, wp_mC, wp_mStr, wp_mTru, wp_mBl, wp_blOf, wp_tru_bl, wp_mBin, wp_mUn, wp_mIf, wp_mNotT, wp_mAndT, wp_mOrT, wp_mAndV, wp_mOrV, wp_mNotV, wp_mChain, wp_mChainT, wp_mNil, wp_mCons, wp_mDisp, wp_tupD, wp_lstD, wp_mSl, wp_mNoPart, wp_mPart, wp_intOf, wp_mBm, wp_mMeth, wp_dflS, wp_mIt, wp_mItA, wp_mDict, wp_mpNil, wp_mpCons, wp_mNext, wp_mYes, wp_mLc, ws_mNx, ws_mBrk, ws_mCnt, ws_mRetN, ws_mSeq, ws_mDrop, ws_mRet, ws_mIfS, ws_mAsg, wp_gNm, wp_gsNil, wp_gsCons, wp_gTp, wp_gSubS, ws_mSetI, ws_mSetF, put_some, wp_callS, ws_mFor, ws_nx, ws_ret, wp_gFld, wp_mMethKw, wp_mVar0, wp_mVarS, List.append_nil, List.length_cons, List.length_nil, Nat.zero_add, Nat.add_zero, Nat.reduceAdd, true_and]
              exact odd S1 hd1 x1
            · rw [decide_eq_false hi]
              simp only [Bool.false_eq_true, if_false, wp_ok, wp_bind, wp_noX, wp_mC, wp_mStr, wp_mTru, wp_mBl, wp_blOf, wp_tru_bl, wp_mBin, wp_mUn, wp_mIf, wp_mNotT, wp_mAndT, wp_mOrT, wp_mAndV, wp_mOrV, wp_mNotV, wp_mChain, wp_mChainT, wp_mNil, wp_mCons, wp_mDisp, wp_tupD, wp_lstD, wp_mSl, wp_mNoPart, wp_mPart, wp_intOf, wp_mBm, wp_mMeth, wp_dflS, wp_mIt, wp_mItA, wp_mDict, wp_mpNil, wp_mpCons, wp_mNext, wp_mYes, wp_mLc, ws_mNx, ws_mBrk, ws_mCnt, ws_mRetN, ws_mSeq, ws_mDrop, ws_mRet, ws_mIfS, ws_mAsg, wp_gNm, wp_gsNil, wp_gsCons, wp_gTp, wp_gSubS, ws_mSetI, ws_mSetF, put_some, wp_callS, ws_mFor, ws_nx, ws_ret, wp_gFld, wp_mMethKw]
              exact ⟨hd1, x1⟩
          rintro ρ1 S1 ⟨rfl, hd1, x1⟩
          refine ws_cut (fun ρ1 S2 => ∃ i w : Int, ρ1 = [some (.ptr p), some (.tup ds), some (.tup (ps.map D.str)), some (.int i), some (.int w)] ∧ 0 ≤ i ∧ i < ds.length ∧ Draw p q r S2 ∧ Ext [p, q] S S2) ?_ ?_
          · refine ws_mPar ?_
            simp only [wp_ok, wp_bind, wp_noX, wp_mC, wp_mStr, wp_mTru, wp_mBl, wp_blOf, wp_tru_bl, wp_mBin, wp_mUn, wp_mIf, wp_mNotT, wp_mAndT, wp_mOrT, wp_mAndV, wp_mOrV, wp_mNotV, wp_mChain, wp_mChainT, wp_mNil, wp_mCons, wp_mDisp, wp_tupD, wp_lstD, wp_mSl, wp_mNoPart, wp_mPart, wp_intOf, wp_mBm, wp_mMeth, wp_dflS, wp_mIt, wp_mItA, wp_mDict, wp_mpNil, wp_mpCons, wp_mNext, wp_mYes, wp_mLc, ws_mNx, ws_mBrk, ws_mCnt, ws_mRetN, ws_mSeq, ws_mDrop, ws_mRet, ws_mIfS, ws_mAsg, wp_gNm, wp_gsNil, wp_gsCons, wp_gTp, wp_gSubS, ws_mSetI, ws_mSetF, put_some, wp_callS, ws_mFor, ws_nx, ws_ret, wp_gFld, wp_mMethKw, wp_mVar0, wp_mVarS, List.set, lenS, List.append_nil, List.length_cons, List.length_nil, Nat.zero_add, Nat.add_zero, Nat.reduceAdd, true_and]
            refine (take_ok (size := ((ds.length : Nat) : Int)) hd1 (by omega) (by omega)).imp fun y S2 ⟨i, ei, i0, i1, hd2, x2⟩ => ?_
            subst ei
            refine (take_ok (size := 8) hd2 (by decide) (by decide)).imp fun y S3 ⟨w, ew, _, _, hd3, x3⟩ => ?_
            subst ew
            exact ⟨_, _, rfl, i, w, rfl, i0, i1, hd3, (x1.trans x2).trans x3⟩
          clear hd1 x1 S1
          rintro ρ1 S2 ⟨i, w, rfl, i0, i1, hd2, x2⟩
          have g2 : ∀ d ∈ ds, gd B S2 k d = true := fun d m => gd_ext x2 (by simp; omega) k d (hds d m)
          have g22 : ∀ d ∈ ds, gd B S2 (k + 2) d = true := fun d m => gd_le (g2 d m) (by omega)
          have lt : (ds.take i.toNat).length = i.toNat := by rw [List.length_take]; omega
          have ldr : (ds.drop i.toNat).length = ds.length - i.toNat := List.length_drop
          have ldr1 : (ds.drop (i + 1).toNat).length = ds.length - (i + 1).toNat := List.length_drop
          obtain ⟨di, edi, mdi⟩ := get_ofI i0 i1
          rw [ws_mSeq, ws_mIfS]
          simp only [wp_ok, wp_bind, wp_noX, wp_mC, wp_mStr, wp_mTru, wp_mBl, wp_blOf, wp_tru_bl, wp_mBin, wp_mUn, wp_mIf, wp_mNotT, wp_mAndT, wp_mOrT, wp_mAndV, wp_mOrV, wp_mNotV, wp_mChain, wp_mChainT, wp_mNil, wp_mCons, wp_mDisp, wp_tupD, wp_lstD, wp_mSl, wp_mNoPart, wp_mPart, wp_intOf, wp_mBm, wp_mMeth, wp_dflS, wp_mIt, wp_mItA, wp_mDict, wp_mpNil, wp_mpCons, wp_mNext, wp_mYes, wp_mLc, ws_mNx, ws_mBrk, ws_mCnt, ws_mRetN, ws_mSeq, ws_mDrop, ws_mRet, ws_mIfS, ws_mAsg, wp_gNm, wp_gsNil, wp_gsCons, wp_gTp, wp_gSubS, ws_mSetI, ws_mSetF, put_some, wp_callS, ws_mFor, ws_nx, ws_ret, wp_gFld, wp_mMethKw, wp_mVar0, wp_mVarS]
          rw [eqs_int, wp_blOf]
          by_cases w0 : w = 0
          · rw [decide_eq_true w0]
            simp only [if_true, wp_ok, wp_bind, wp_noX, wp_mC, wp_mStr, wp_mTru, wp_mBl, wp_blOf, wp_tru_bl, wp_mBin, wp_mUn, wp_mIf, wp_mNotT, wp_mAndT, wp_mOrT, wp_mAndV, wp_mOrV, wp_mNotV, wp_mChain, wp_mChainT, wp_mNil, wp_mCons, wp_mDisp, wp_tupD, wp_lstD, wp_mSl, wp_mNoPart, wp_mPart, wp_intOf, wp_mBm, wp_mMeth, wp_dflS, wp_mIt, wp_mItA, wp_mDict, wp_mpNil, wp_mpCons, wp_mNext, wp_mYes, wp_mLc, ws_mNx, ws_mBrk, ws_mCnt, ws_mRetN, ws_mSeq, ws_mDrop, ws_mRet, ws_mIfS, ws_mAsg, wp_gNm, wp_gsNil, wp_gsCons, wp_gTp, wp_gSubS, ws_mSetI, ws_mSetF, put_some, wp_callS, ws_mFor, ws_nx, ws_ret, wp_gFld, wp_mMethKw, wp_mVar0, wp_mVarS, slS]
            rw [cutD_take i0, adds_int]
            simp only [wp_ok, wp_bind, wp_noX, wp_mC, wp_mStr, wp_mTru, wp_mBl, wp_blOf, wp_tru_bl, wp_mBin, wp_mUn, wp_mIf, wp_mNotT, wp_mAndT, wp_mOrT, wp_mAndV, wp_mOrV, wp_mNotV, wp_mChain, wp_mChainT, wp_mNil, wp_mCons, wp_mDisp, wp_tupD, wp_lstD, wp_mSl, wp_mNoPart, wp_mPart, wp_intOf, wp_mBm, wp_mMeth, wp_dflS, wp_mIt, wp_mItA, wp_mDict, wp_mpNil, wp_mpCons, wp_mNext, wp_mYes, wp_mLc, ws_mNx, ws_mBrk, ws_mCnt, ws_mRetN, ws_mSeq, ws_mDrop, ws_mRet, ws_mIfS, ws_mAsg, wp_gNm, wp_gsNil, wp_gsCons, wp_gTp, wp_gSubS, ws_mSetI, ws_mSetF, put_some, wp_callS, ws_mFor, ws_nx, ws_ret, wp_gFld, wp_mMethKw, slS]
            rw [cutD_drop (by omega) (by omega), add_tup (by rw [lt, ldr1]; omega)]
            refine ⟨gdn (fun d m => ?_) (by rw [List.length_append, lt, ldr1]; omega), hd2, x2⟩
            rcases List.mem_append.mp m with m | m
            · exact g22 d (List.mem_of_mem_take m)
            · exact g22 d (List.mem_of_mem_drop m)
          rw [decide_eq_false w0]
          simp only [Bool.false_eq_true, if_false, wp_ok, wp_bind, wp_noX, wp_mC, wp_mStr, wp_mTru, wp_mBl, wp_blOf, wp_tru_bl, wp_mBin, wp_mUn, wp_mIf, wp_mNotT, wp_mAndT, wp_mOrT, wp_mAndV, wp_mOrV, wp_mNotV, wp_mChain, wp_mChainT, wp_mNil, wp_mCons, wp_mDisp, wp_tupD, wp_lstD, wp_mSl, wp_mNoPart, wp_mPart, wp_intOf, wp_mBm, wp_mMeth, wp_dflS, wp_mIt, wp_mItA, wp_mDict, wp_mpNil, wp_mpCons, wp_mNext, wp_mYes, wp_mLc, ws_mNx, ws_mBrk, ws_mCnt, ws_mRetN, ws_mSeq, ws_mDrop, ws_mRet, ws_mIfS, ws_mAsg, wp_gNm, wp_gsNil, wp_gsCons, wp_gTp, wp_gSubS, ws_mSetI, ws_mSetF, put_some, wp_callS, ws_mFor, ws_nx, ws_ret, wp_gFld, wp_mMethKw, wp_mVar0, wp_mVarS]
          rw [eqs_int, wp_blOf]
          by_cases w1 : w = 1
          · rw [decide_eq_true w1]
            simp only [if_true, wp_ok, wp_bind, wp_noX, wp_mC, wp_mStr, wp_mTru, wp_mBl, wp_blOf, wp_tru_bl, wp_mBin, wp_mUn, wp_mIf, wp_mNotT, wp_mAndT, wp_mOrT, wp_mAndV, wp_mOrV, wp_mNotV, wp_mChain, wp_mChainT, wp_mNil, wp_mCons, wp_mDisp, wp_tupD, wp_lstD, wp_mSl, wp_mNoPart, wp_mPart, wp_intOf, wp_mBm, wp_mMeth, wp_dflS, wp_mIt, wp_mItA, wp_mDict, wp_mpNil, wp_mpCons, wp_mNext, wp_mYes, wp_mLc, ws_mNx, ws_mBrk, ws_mCnt, ws_mRetN, ws_mSeq, ws_mDrop, ws_mRet, ws_mIfS, ws_mAsg, wp_gNm, wp_gsNil, wp_gsCons, wp_gTp, wp_gSubS, ws_mSetI, ws_mSetF, put_some, wp_callS, ws_mFor, ws_nx, ws_ret, wp_gFld, wp_mMethKw, wp_mVar0, wp_mVarS, slS]
            rw [cutD_take i0, ix_tup i0 i1 edi]
            refine ⟨by simp [sizeLine], ?_⟩
            rw [add_tup (by rw [lt]; simp; omega)]
            rw [cutD_drop i0 (by omega), add_tup (by rw [List.length_append, lt, ldr]; simp; omega)]
            refine ⟨gdn (fun d m => ?_) (by rw [List.length_append, List.length_append, lt, ldr]; simp; omega), hd2, x2⟩
            rcases List.mem_append.mp m with m | m
            · rcases List.mem_append.mp m with m | m
              · exact g22 d (List.mem_of_mem_take m)
              · rw [List.mem_singleton] at m
                subst m
                exact g22 _ mdi
            · exact g22 d (List.mem_of_mem_drop m)
          rw [decide_eq_false w1]
          simp only [Bool.false_eq_true, if_false, wp_ok, wp_bind, wp_noX, wp_mC, wp_mStr, wp_mTru, wp_mBl, wp_blOf, wp_tru_bl, wp_mBin, wp_mUn, wp_mIf, wp_mNotT, wp_mAndT, wp_mOrT, wp_mAndV, wp_mOrV, wp_mNotV, wp_mChain, wp_mChainT, wp_mNil, wp_mCons, wp_mDisp, wp_tupD, wp_lstD, wp_mSl, wp_mNoPart, wp_mPart, wp_intOf, wp_mBm, wp_mMeth, wp_dflS, wp_mIt, wp_mItA, wp_mDict, wp_mpNil, wp_mpCons, wp_mNext, wp_mYes, wp_mLc, ws_mNx, ws_mBrk, ws_mCnt, ws_mRetN, ws_mSeq, ws_mDrop, ws_mRet, ws_mIfS, ws_mAsg, wp_gNm, wp_gsNil, wp_gsCons, wp_gTp, wp_gSubS, ws_mSetI, ws_mSetF, put_some, wp_callS, ws_mFor, ws_nx, ws_ret, wp_gFld, wp_mMethKw, wp_mVar0, wp_mVarS]
          rw [eqs_int, wp_blOf]
          by_cases w2 : w = 2
          · rw [decide_eq_true w2]
            simp only [if_true, wp_ok, wp_bind, wp_noX, wp_mC, wp_mStr, wp_mTru, wp_mBl, wp_blOf, wp_tru_bl, wp_mBin, wp_mUn, wp_mIf, wp_mNotT, wp_mAndT, wp_mOrT, wp_mAndV, wp_mOrV, wp_mNotV, wp_mChain, wp_mChainT, wp_mNil, wp_mCons, wp_mDisp, wp_tupD, wp_lstD, wp_mSl, wp_mNoPart, wp_mPart, wp_intOf, wp_mBm, wp_mMeth, wp_dflS, wp_mIt, wp_mItA, wp_mDict, wp_mpNil, wp_mpCons, wp_mNext, wp_mYes, wp_mLc, ws_mNx, ws_mBrk, ws_mCnt, ws_mRetN, ws_mSeq, ws_mDrop, ws_mRet, ws_mIfS, ws_mAsg, wp_gNm, wp_gsNil, wp_gsCons, wp_gTp, wp_gSubS, ws_mSetI, ws_mSetF, put_some, wp_callS, ws_mFor, ws_nx, ws_ret, wp_gFld, wp_mMethKw, wp_mVar0, wp_mVarS, revT]
            exact ⟨gdn (fun d m => g22 d (List.mem_reverse.mp m)) (by simp; omega), hd2, x2⟩
          rw [decide_eq_false w2]
          simp only [Bool.false_eq_true, if_false, wp_ok, wp_bind, wp_noX, wp_mC, wp_mStr, wp_mTru, wp_mBl, wp_blOf, wp_tru_bl, wp_mBin, wp_mUn, wp_mIf, wp_mNotT, wp_mAndT, wp_mOrT, wp_mAndV, wp_mOrV, wp_mNotV, wp_mChain, wp_mChainT, wp_mNil, wp_mCons, wp_mDisp, wp_tupD, wp_lstD, wp_mSl, wp_mNoPart, wp_mPart, wp_intOf, wp_mBm, wp_mMeth, wp_dflS, wp_mIt, wp_mItA, wp_mDict, wp_mpNil, wp_mpCons, wp_mNext, wp_mYes, wp_mLc, ws_mNx, ws_mBrk, ws_mCnt, ws_mRetN, ws_mSeq, ws_mDrop, ws_mRet, ws_mIfS, ws_mAsg, wp_gNm, wp_gsNil, wp_gsCons, wp_gTp, wp_gSubS, ws_mSetI, ws_mSetF, put_some, wp_callS, ws_mFor, ws_nx, ws_ret, wp_gFld, wp_mMethKw, wp_mVar0, wp_mVarS]
          rw [eqs_int, wp_blOf]
          by_cases w3 : w = 3
          · rw [decide_eq_true w3]
            simp only [if_true, wp_ok, wp_bind, wp_noX, wp_mC, wp_mStr, wp_mTru, wp_mBl, wp_blOf, wp_tru_bl, wp_mBin, wp_mUn, wp_mIf, wp_mNotT, wp_mAndT, wp_mOrT, wp_mAndV, wp_mOrV, wp_mNotV, wp_mChain, wp_mChainT, wp_mNil, wp_mCons, wp_mDisp, wp_tupD, wp_lstD, wp_mSl, wp_mNoPart, wp_mPart, wp_intOf, wp_mBm, wp_mMeth, wp_dflS, wp_mIt, wp_mItA, wp_mDict, wp_mpNil, wp_mpCons, wp_mNext, wp_mYes, wp_mLc, ws_mNx, ws_mBrk, ws_mCnt, ws_mRetN, ws_mSeq, ws_mDrop, ws_mRet, ws_mIfS, ws_mAsg, wp_gNm, wp_gsNil, wp_gsCons, wp_gTp, wp_gSubS, ws_mSetI, ws_mSetF, put_some, wp_callS, ws_mFor, ws_nx, ws_ret, wp_gFld, wp_mMethKw, wp_mVar0, wp_mVarS, listS, newL]
            have x3 : Ext [p, q] S2 (S2 ++ [O.lst ds]) := Ext.push _
            refine ⟨?_, hd2.ext (Ext.push _), x2.trans x3⟩
            have l2 := x2.len
            have eL : (S2 ++ [O.lst ds])[S2.length]? = some (.lst ds) := get_push
            simp only [gd, eL, Bool.and_eq_true, decide_eq_true_eq, List.all_eq_true]
            exact ⟨by omega, by omega, fun d m => gd_ext x3 (by simp; omega) (k + 2) d (g22 d m)⟩
          rw [decide_eq_false w3]
          simp only [Bool.false_eq_true, if_false, wp_ok, wp_bind, wp_noX, wp_mC, wp_mStr, wp_mTru, wp_mBl, wp_blOf, wp_tru_bl, wp_mBin, wp_mUn, wp_mIf, wp_mNotT, wp_mAndT, wp_mOrT, wp_mAndV, wp_mOrV, wp_mNotV, wp_mChain, wp_mChainT, wp_mNil, wp_mCons, wp_mDisp, wp_tupD, wp_lstD, wp_mSl, wp_mNoPart, wp_mPart, wp_intOf, wp_mBm, wp_mMeth, wp_dflS, wp_mIt, wp_mItA, wp_mDict, wp_mpNil, wp_mpCons, wp_mNext, wp_mYes, wp_mLc, ws_mNx, ws_mBrk, ws_mCnt, ws_mRetN, ws_mSeq, ws_mDrop, ws_mRet, ws_mIfS, ws_mAsg, wp_gNm, wp_gsNil, wp_gsCons, wp_gTp, wp_gSubS, ws_mSetI, ws_mSetF, put_some, wp_callS, ws_mFor, ws_nx, ws_ret, wp_gFld, wp_mMethKw, wp_mVar0, wp_mVarS, slS]
          rw [cutD_take i0, ix_tup i0 i1 edi]
          simp only [List.append_nil, List.length_cons, List.length_nil, Nat.zero_add, Nat.add_zero, Nat.reduceAdd, true_and]
          have l2 := x2.len
          refine (bent_ok hp hq h1 j k S2 di (by omega) (by omega) (by omega) hd2 (g2 di mdi)).imp fun e T ⟨ge, hdT, xT⟩ => ?_
          refine ⟨by simp [sizeLine], ?_⟩
          rw [add_tup (by rw [lt]; simp; omega), adds_int]
          simp only [wp_ok, wp_bind, wp_noX, wp_mC, wp_mStr, wp_mTru, wp_mBl, wp_blOf, wp_tru_bl, wp_mBin, wp_mUn, wp_mIf, wp_mNotT, wp_mAndT, wp_mOrT, wp_mAndV, wp_mOrV, wp_mNotV, wp_mChain, wp_mChainT, wp_mNil, wp_mCons, wp_mDisp, wp_tupD, wp_lstD, wp_mSl, wp_mNoPart, wp_mPart, wp_intOf, wp_mBm, wp_mMeth, wp_dflS, wp_mIt, wp_mItA, wp_mDict, wp_mpNil, wp_mpCons, wp_mNext, wp_mYes, wp_mLc, ws_mNx, ws_mBrk, ws_mCnt, ws_mRetN, ws_mSeq, ws_mDrop, ws_mRet, ws_mIfS, ws_mAsg, wp_gNm, wp_gsNil, wp_gsCons, wp_gTp, wp_gSubS, ws_mSetI, ws_mSetF, put_some, wp_callS, ws_mFor, ws_nx, ws_ret, wp_gFld, wp_mMethKw, slS]
          rw [cutD_drop (by omega) (by omega), add_tup (by rw [List.length_append, lt, ldr1]; simp; omega)]
          have gT : ∀ d ∈ ds, gd B T (k + 2) d = true := fun d m => gd_ext xT (by simp; omega) (k + 2) d (g22 d m)
          refine ⟨gdn (fun d m => ?_) (by rw [List.length_append, List.length_append, lt, ldr1]; simp; omega), hdT, x2.trans xT⟩
          rcases List.mem_append.mp m with m | m
          · rcases List.mem_append.mp m with m | m
            · exact gT d (List.mem_of_mem_take m)
            · rw [List.mem_singleton] at m
              subst m
              exact ge
          · exact gT d (List.mem_of_mem_drop m)
    | _ =>
      have kx := gd_kn hx
      rw [ws_mSeq, ws_mIfS]
      simp only [wp_ok, wp_bind, wp_noX, wp_mC, wp_mStr, wp_mTru, wp_mBl, wp_blOf, wp_tru_bl, wp_mBin, wp_mUn, wp_mIf, wp_mNotT, wp_mAndT, wp_mOrT, wp_mAndV, wp_mOrV, wp_mNotV, wp_mChain, wp_mChainT, wp_mNil, wp_mCons, wp_mDisp, wp_tupD, wp_lstD, wp_mSl, wp_mNoPart, wp_mPart, wp_intOf, wp_mBm, wp_mMeth, wp_dflS, wp_mIt, wp_mItA, wp_mDict, wp_mpNil, wp_mpCons, wp_mNext, wp_mYes, wp_mLc, ws_mNx, ws_mBrk, ws_mCnt, ws_mRetN, ws_mSeq, ws_mDrop, ws_mRet, ws_mIfS, ws_mAsg, wp_gNm, wp_gsNil, wp_gsCons, wp_gTp, wp_gSubS, ws_mSetI, ws_mSetF, put_some, wp_callS, ws_mFor, ws_nx, ws_ret, wp_gFld, wp_mMethKw, wp_mVar0, wp_mVarS, isi_tup kx, isT, Bool.not_false, if_true, List.append_nil, List.length_cons, List.length_nil, Nat.zero_add, Nat.add_zero, Nat.reduceAdd, true_and]
      exact odd S hd Ext.rfl'
end K20
/-! J12 -/
set_option Elab.async false
set_option autoImplicit false
set_option linter.all false
set_option maxRecDepth 100000
set_option maxHeartbeats 1000000
namespace K20
open PySem PySem.Spec MP
open L2 hiding prD

/-! what the engine makes is right -/
theorem nm_pos {z : Str} (h : Nm z) : 0 < z.length := by
  have := h.2.2
  rw [Str.length, ← Array.length_toList]
  cases hz : z.cps.toList with
  | nil => rw [hz] at this; simp [hd1] at this
  | cons => simp
theorem nm_is {z : Str} (h : Nm z) : isNm (.str z) = true := by
  have h0 := nm_pos h
  obtain ⟨h1, h2, _⟩ := h
  simp only [isNm, lets, h2, Bool.and_true, decide_eq_true_eq]
  omega
theorem zs_map : ∀ ps : List Str, zsOf (ps.map D.str) = ps
  | [] => rfl
  | p :: ps => by
    have := zs_map ps
    simp only [zsOf, List.map_cons, List.filterMap_cons] at this ⊢
    rw [this]
theorem prof_map : ∀ l : List (Str × Str), (l.map prD).filterMap prOf = l
  | [] => rfl
  | p :: ps => by rw [List.map_cons, List.filterMap_cons, prof_map ps]; rfl
theorem fst_map : ∀ l : List Step, (l.map stD).map fstD = (l.map (·.1)).map prD
  | [] => rfl
  | p :: ps => by rw [List.map_cons, List.map_cons, fst_map ps]; rfl
theorem pk_parts {ps : List Str} (h : PsOk ps) : partsOk (.tup (ps.map D.str)) = true := by
  have e0 : partsOk (.tup (ps.map D.str)) = (decide (1 ≤ (ps.map D.str).length ∧ (ps.map D.str).length ≤ 8) && ((ps.map D.str).all isNm && decide (ps.map D.str = srt ((onceS (zsOf (ps.map D.str))).map D.str)))) := rfl
  have h1 : 0 < ps.length := List.length_pos_iff.mpr h.p1
  have h3 := h.p3
  rw [e0, zs_map, onceS_id h.pn, srt_strsE h.pw, decide_eq_true (show 1 ≤ (ps.map D.str).length ∧ (ps.map D.str).length ≤ 8 by rw [List.length_map]; omega), decide_eq_true rfl, Bool.true_and, Bool.and_true, List.all_eq_true]
  intro d hd
  obtain ⟨z, hz, rfl⟩ := List.mem_map.mp hd
  exact nm_is (h.nm z hz)
theorem step_is {ps : List Str} {n : Nat} {s : Step} (h : s.1 ∈ evs ps ∧ s.2 < n) : stepOk (ps.map D.str) n (stD s) = true := by
  obtain ⟨h1, h2⟩ := h
  obtain ⟨a, b⟩ := evs_mem h1
  have e : stepOk (ps.map D.str) n (stD s) = (evOk (ps.map D.str) (prD s.1) && ixOk n (.int (s.2 : Int))) := rfl
  have e1 : evOk (ps.map D.str) (prD s.1) = (decide (s.1.1 = "fail" ∨ s.1.1 = "mend") && decide (D.str s.1.2 ∈ ps.map D.str)) := rfl
  have e2 : ixOk n (.int (s.2 : Int)) = decide (0 ≤ (s.2 : Int) ∧ (s.2 : Int) < (n : Int)) := rfl
  rw [e, e1, e2, decide_eq_true a, decide_eq_true (List.mem_map.mpr ⟨_, b, rfl⟩), decide_eq_true (by omega)]
  rfl
theorem row_is {ps : List Str} {n : Nat} {r : Row} (h : RowOk ps n r) : rowOk (ps.map D.str) n (rowD r) = true := by
  have e : rowOk (ps.map D.str) n (rowD r) = ((r.2.map stD).all (stepOk (ps.map D.str) n) && decide ((r.2.map stD).map fstD = srt ((once (((r.2.map stD).map fstD).filterMap prOf)).map prD))) := rfl
  rw [e, fst_map, prof_map, once_id h.nd, srt_prsE h.or, decide_eq_true rfl, Bool.and_true, List.all_eq_true]
  intro d hd
  obtain ⟨s, hs, rfl⟩ := List.mem_map.mp hd
  exact step_is (h.ev s hs)
theorem mch_right {ps : List Str} {rs : List Row} (h : Mch ps rs) : right (.tup (ps.map D.str)) (.tup (rs.map rowD)) = true := by
  rw [right_is (pk_parts h.pk), decide_eq_true (by simpa using h.r1), Bool.true_and, List.length_map, List.all_eq_true]
  intro d hd
  obtain ⟨r, hr, rfl⟩ := List.mem_map.mp hd
  exact row_is (h.row r hr)
theorem nodup_le2 : ∀ (as bs : List (Str × Str)), as.Nodup → (∀ a ∈ as, a ∈ bs) → as.length ≤ bs.length
  | [], _, _, _ => Nat.zero_le _
  | a :: as, bs, h, k => by
    rw [List.nodup_cons] at h
    have ha := k a (List.mem_cons_self ..)
    have := nodup_le2 as (bs.erase a) h.2 fun x hx => (List.mem_erase_of_ne (by rintro rfl; exact h.1 hx)).mpr (k x (List.mem_cons_of_mem _ hx))
    rw [List.length_erase_of_mem ha] at this
    have := List.length_pos_of_mem ha
    simp only [List.length_cons]; omega
theorem gd_strs {B k : Nat} {S : Sto} {ps : List Str} (h : ps.length ≤ 8) : gd B S (k + 1) (.tup (ps.map D.str)) = true :=
  tup_gd (by rw [List.length_map]; omega) fun d hd => by
    obtain ⟨z, _, rfl⟩ := List.mem_map.mp hd
    exact gd_s
theorem gd_row {B : Nat} {S : Sto} {ps : List Str} {n : Nat} {r : Row} (hp : ps.length ≤ 3) (h : RowOk ps n r) : gd B S 4 (rowD r) = true := by
  have hl : r.2.length ≤ 6 := by
    have := nodup_le2 _ (evs ps) h.nd fun a ha => by
      obtain ⟨s, hs, rfl⟩ := List.mem_map.mp ha
      exact (h.ev s hs).1
    rw [List.length_map, evs_len] at this
    omega
  refine tup_gd (by simp) fun d hd => ?_
  simp only [List.mem_cons, List.not_mem_nil, or_false] at hd
  rcases hd with rfl | rfl
  · simp [gd]
  · refine tup_gd (by rw [List.length_map]; omega) fun d hd => ?_
    obtain ⟨s, _, rfl⟩ := List.mem_map.mp hd
    refine tup_gd (by simp) fun d hd => ?_
    simp only [List.mem_cons, List.not_mem_nil, or_false] at hd
    rcases hd with rfl | rfl
    · exact tup_gd (by simp) fun d hd => by
        simp only [List.mem_cons, List.not_mem_nil, or_false] at hd
        rcases hd with rfl | rfl <;> exact gd_s
    · simp [gd]
theorem gd_mch {B : Nat} {S : Sto} {ps : List Str} {rs : List Row} (h : Mch ps rs) : gd B S 5 (.tup (ps.map D.str)) = true ∧ gd B S 5 (.tup (rs.map rowD)) = true := by
  have h3 := h.pk.p3
  have h4 := h.r4
  refine ⟨gd_strs (by omega), tup_gd (by rw [List.length_map]; omega) fun d hd => ?_⟩
  obtain ⟨r, hr, rfl⟩ := List.mem_map.mp hd
  exact gd_row h3 (h.row r hr)

/-! what a right value looks like -/
theorem tup_view {S : Sto} {k : Nat} {ds : List D} (h : ∀ d ∈ ds, ∃ p, view S k d = some p) : ∃ p, view S (k + 1) (.tup ds) = some p := by
  obtain ⟨bs, e⟩ := mapM_all h
  exact ⟨.tuple bs, by rw [view, e]; rfl⟩
theorem str_view {S : Sto} {k : Nat} {z : Str} : ∃ p, view S k (.str z) = some p := ⟨.str z, by simp only [view]⟩
theorem strs_view {S : Sto} {k : Nat} {zs : List Str} : ∃ p, view S (k + 1) (.tup (zs.map D.str)) = some p :=
  tup_view fun d hd => by
    obtain ⟨z, _, rfl⟩ := List.mem_map.mp hd
    exact str_view
theorem step_view {S : Sto} {k n : Nat} {pd : List D} {d : D} (h : stepOk pd n d = true) : ∃ p, view S (k + 2) d = some p := by
  unfold stepOk at h
  split at h
  · rename_i e i
    rw [Bool.and_eq_true] at h
    obtain ⟨h1, h2⟩ := h
    refine tup_view fun d hd => ?_
    simp only [List.mem_cons, List.not_mem_nil, or_false] at hd
    rcases hd with rfl | rfl
    · unfold evOk at h1
      split at h1
      · refine tup_view fun d hd => ?_
        simp only [List.mem_cons, List.not_mem_nil, or_false] at hd
        rcases hd with rfl | rfl <;> exact str_view
      · cases h1
    · unfold ixOk at h2
      split at h2
      · rename_i kk
        exact ⟨.int kk, by simp only [view]⟩
      · cases h2
  · cases h
theorem row_view {S : Sto} {k n : Nat} {pd : List D} {d : D} (h : rowOk pd n d = true) : ∃ p, view S (k + 4) d = some p := by
  unfold rowOk at h
  split at h
  · rw [Bool.and_eq_true, List.all_eq_true] at h
    refine tup_view fun d hd => ?_
    simp only [List.mem_cons, List.not_mem_nil, or_false] at hd
    rcases hd with rfl | rfl
    · rename_i bb ss
      exact ⟨.bool bb, by simp only [view]⟩
    · exact tup_view fun d hd => step_view (h.1 d hd)
  · cases h
theorem right_view {x y : D} (h : right x y = true) (S : Sto) : (∃ p, view S 60 x = some p) ∧ ∃ p, view S 60 y = some p := by
  cases x with
  | tup pd =>
    cases y with
    | tup rd =>
      have e : right (.tup pd) (.tup rd) = (partsOk (.tup pd) && (decide (rd ≠ []) && rd.all (rowOk pd rd.length))) := rfl
      rw [e, Bool.and_eq_true, Bool.and_eq_true, List.all_eq_true] at h
      obtain ⟨h1, _, h2⟩ := h
      obtain ⟨zs, e2, _⟩ := parts_strs h1
      rw [e2]
      exact ⟨strs_view, tup_view (k := 59) fun d hd => row_view (h2 d hd)⟩
    | _ => simp [right] at h
  | _ => simp [right] at h
theorem eqS_same {S : Sto} {x : D} {p : PyData} (h : view S 60 x = some p) : eqS x x S = .ok (.bl true) S := by
  simp only [eqS, h, eqv_self p (view_nodict S 60 x p h)]
theorem neS_same {S : Sto} {x : D} {p : PyData} (h : view S 60 x = some p) : neS x x S = .ok (.bl false) S := by
  simp only [neS, h, eqv_self p (view_nodict S 60 x p h), Bool.not_true]
theorem eqE_is {S : Sto} {B k : Nat} {x t : D} {q : PyData} (hx : gd B S k x = true) (hk : k ≤ 60) (h : view S 60 t = some q) : ∃ b, eqE x t S = .ok (.bl b) S ∧ ∀ p, view S 60 x = some p → eqS x t S = .ok (.bl b) S := by
  obtain ⟨p, e⟩ := gd_view60 hx hk
  refine ⟨p.eqv q, by simp only [eqE, e, h], fun p' e' => ?_⟩
  have := view_E 60 x p' e'
  rw [e] at this
  cases this
  simp only [eqS, e', h]
theorem prop_parts {S : Sto} {n : Nat} {fs : List (Str × D)} {d : D} {Q : D → Sto → Prop} (h : S[n]? = some (.ins "Machine" fs)) (hf : fs.lookup ("m_parts" : Str) = some d) : Wp (propS "Machine" f_Machine_parts (.ptr n) S) Q ↔ Q d S := by
  have hfl : fldS "Machine" "m_parts" (.ptr n) S = .ok d S := by simp only [fldS, insAt, h, if_true, hf]
  simp only [propS, insAt, h, if_true, wp_noX]
  unfold f_Machine_parts
  simp only [wp_ok, wp_bind, wp_noX, wp_mC, wp_mStr, wp_mTru, wp_mBl, wp_blOf, wp_tru_bl, wp_mBin, wp_mUn, wp_mIf, wp_mNotT, wp_mAndT, wp_mOrT, wp_mAndV, wp_mOrV, wp_mNotV, wp_mChain, wp_mChainT, wp_mNil, wp_mCons, wp_mDisp, wp_tupD, wp_lstD, wp_mSl, wp_mNoPart, wp_mPart, wp_intOf, wp_mBm, wp_mMeth, wp_dflS, wp_mIt, wp_mItA, wp_mDict, wp_mpNil, wp_mpCons, wp_mNext, wp_mYes, wp_mLc, ws_mNx, ws_mBrk, ws_mCnt, ws_mRetN, ws_mSeq, ws_mDrop, ws_mRet, ws_mIfS, ws_mAsg, wp_gNm, wp_gsNil, wp_gsCons, wp_gTp, wp_gSubS, ws_mSetI, ws_mSetF, put_some, wp_callS, ws_mFor, ws_nx, ws_ret, wp_gFld, wp_mMethKw, List.map, List.length, List.replicate, List.cons_append, List.nil_append, N_Machine_parts, wp_mVar0, hfl]
theorem prop_rows {S : Sto} {n : Nat} {fs : List (Str × D)} {d : D} {Q : D → Sto → Prop} (h : S[n]? = some (.ins "Machine" fs)) (hf : fs.lookup ("m_rows" : Str) = some d) : Wp (propS "Machine" f_Machine_rows (.ptr n) S) Q ↔ Q d S := by
  have hfl : fldS "Machine" "m_rows" (.ptr n) S = .ok d S := by simp only [fldS, insAt, h, if_true, hf]
  simp only [propS, insAt, h, if_true, wp_noX]
  unfold f_Machine_rows
  simp only [wp_ok, wp_bind, wp_noX, wp_mC, wp_mStr, wp_mTru, wp_mBl, wp_blOf, wp_tru_bl, wp_mBin, wp_mUn, wp_mIf, wp_mNotT, wp_mAndT, wp_mOrT, wp_mAndV, wp_mOrV, wp_mNotV, wp_mChain, wp_mChainT, wp_mNil, wp_mCons, wp_mDisp, wp_tupD, wp_lstD, wp_mSl, wp_mNoPart, wp_mPart, wp_intOf, wp_mBm, wp_mMeth, wp_dflS, wp_mIt, wp_mItA, wp_mDict, wp_mpNil, wp_mpCons, wp_mNext, wp_mYes, wp_mLc, ws_mNx, ws_mBrk, ws_mCnt, ws_mRetN, ws_mSeq, ws_mDrop, ws_mRet, ws_mIfS, ws_mAsg, wp_gNm, wp_gsNil, wp_gsCons, wp_gTp, wp_gSubS, ws_mSetI, ws_mSetF, put_some, wp_callS, ws_mFor, ws_nx, ws_ret, wp_gFld, wp_mMethKw, List.map, List.length, List.replicate, List.cons_append, List.nil_append, N_Machine_rows, wp_mVar0, hfl]
theorem neI_tup {S : Sto} {ds : List D} {p : PyData} (h : view S 60 (.tup ds) = some p) : neI eqTbl eqCs (.tup ds) (.tup ds) S = .ok (.bl false) S := (show neS (.tup ds) (.tup ds) S = _ from neS_same h)
theorem neI_int {S : Sto} {i : Int} : neI eqTbl eqCs (.int i) (.int i) S = .ok (.bl false) S := show neS (.int i) (.int i) S = _ from neS_same (p := .int i) (by simp only [view])
theorem neI_bl {S : Sto} {b : Bool} : neI eqTbl eqCs (.bl b) (.bl b) S = .ok (.bl false) S := show neS (.bl b) (.bl b) S = _ from neS_same (p := .bool b) (by simp only [view])
theorem eqI_ints {S : Sto} {i j : Int} {Q : D → Sto → Prop} : Wp (eqI eqTbl eqCs (.int i) (.int j) S) Q ↔ Q (.bl (decide (i = j))) S := eqs_int
theorem kw_ok {x y : D} {S : Sto} : mkKw "Machine" 3 2 [0, 1] f_Machine___init__ [x, y] S = mkG "Machine" 3 f_Machine___init__ [x, y] S := by
  simp [mkKw, mkG, reord]

/-! the last check -/
def eight : List Str := ["a", "b", "c", "d", "e", "f", "g", "h"]
theorem eight_is : cutD (strItems "abcdefghi") none (some 8) = eight.map D.str := by decide +kernel
theorem nine_len : (strItems "abcdefghi").length = 9 := by decide +kernel
theorem right9 {y : D} : right (.tup (strItems "abcdefghi")) y = false := by
  refine right_p ?_
  have e0 : ∀ ds : List D, partsOk (.tup ds) = (decide (1 ≤ ds.length ∧ ds.length ≤ 8) && (ds.all isNm && decide (ds = srt ((onceS (zsOf ds)).map D.str)))) := fun _ => rfl
  rw [e0, nine_len]
  rfl
theorem eight_pw : eight.Pairwise leX := by
  have : eight.Pairwise (fun a b => ltX b a = false) := by decide +kernel
  exact this.imp fun {a b} h => leS_is.mpr h
theorem right8 : right (.tup (eight.map D.str)) (.tup [.tup [.bl false, .tup []]]) = true := by
  have e0 : partsOk (.tup (eight.map D.str)) = (decide (1 ≤ (eight.map D.str).length ∧ (eight.map D.str).length ≤ 8) && ((eight.map D.str).all isNm && decide (eight.map D.str = srt ((onceS (zsOf (eight.map D.str))).map D.str)))) := rfl
  have e1 : partsOk (.tup (eight.map D.str)) = true := by
    rw [e0, zs_map, onceS_id (by decide +kernel), srt_strsE eight_pw, decide_eq_true rfl, Bool.and_true]
    decide +kernel
  rw [right_is e1]
  have e : ∀ n, rowOk (eight.map D.str) n (.tup [.bl false, .tup []]) = (([] : List D).all (stepOk (eight.map D.str) n) && decide (([] : List D).map fstD = srt ((once ((([] : List D).map fstD).filterMap prOf)).map prD))) := fun _ => rfl
  simp only [List.all_cons, List.all_nil, e, Bool.and_true, Bool.true_and, List.map_nil, List.filterMap_nil, once, srt, List.mergeSort, decide_true]
  simp
end K20
/-! J13 -/
set_option Elab.async false
set_option autoImplicit false
set_option linter.all false
set_option maxRecDepth 100000
set_option maxHeartbeats 1000000
namespace K20
open PySem PySem.Spec MP
open L2 hiding prD

theorem law_ok {xs : List Int} (hl : xs.length ≤ 63) : Wp (f_law [.ptr 0] [.rol (xs.map D.int)]) fun d S' => d = .bl true := by
  unfold f_law
  rw [wp_callS]
  simp only [List.map, List.length, List.replicate, List.cons_append, List.nil_append, N_law]
  refine ws_cut (fun ρ1 S1 => ∃ p q r, ρ1 = [some (.ptr 0), some (.ptr p), none, none, none, none, none, none, none, none, none, none, none] ∧ Draw p q r S1 ∧ S1[0]? = some (.rol (xs.map D.int))) ?_ ?_
  · simp only [wp_ok, wp_bind, wp_noX, wp_mC, wp_mStr, wp_mTru, wp_mBl, wp_blOf, wp_tru_bl, wp_mBin, wp_mUn, wp_mIf, wp_mNotT, wp_mAndT, wp_mOrT, wp_mAndV, wp_mOrV, wp_mNotV, wp_mChain, wp_mChainT, wp_mNil, wp_mCons, wp_mDisp, wp_tupD, wp_lstD, wp_mSl, wp_mNoPart, wp_mPart, wp_intOf, wp_mBm, wp_mMeth, wp_dflS, wp_mIt, wp_mItA, wp_mDict, wp_mpNil, wp_mpCons, wp_mNext, wp_mYes, wp_mLc, ws_mNx, ws_mBrk, ws_mCnt, ws_mRetN, ws_mSeq, ws_mDrop, ws_mRet, ws_mIfS, ws_mAsg, wp_gNm, wp_gsNil, wp_gsCons, wp_gTp, wp_gSubS, ws_mSetI, ws_mSetF, put_some, wp_callS, ws_mFor, ws_nx, ws_ret, wp_gFld, wp_mMethKw, wp_mVar0, wp_mVarS, List.set, List.append_nil, List.length_cons, List.length_nil, Nat.zero_add, Nat.add_zero, Nat.reduceAdd, true_and]
    exact (begin_ok hl).imp fun d S1 ⟨p, q, r, ed, hd, e0, _, _⟩ => ⟨p, q, r, by rw [ed], hd, e0⟩
  rintro ρ1 S1 ⟨p, q, r, rfl, hd, e0⟩
  refine ws_cut (fun ρ1 S1 => ∃ o2 o3 o4 o5 o6 o7 o8 o9 o10 o11 o12, ρ1 = [some (.ptr 0), some (.ptr p), o2, o3, o4, o5, o6, o7, o8, o9, o10, o11, o12]) ?_ ?_
  · rw [ws_mFor]
    have hlen : lenS [.ptr 0] S1 = .ok (.int (xs.map D.int).length) S1 := by simp only [lenS, listAt, e0]
    simp only [wp_mItA, wp_mCons, wp_mBin, wp_mC, wp_mDisp, wp_mNil, wp_mVar0, wp_mVarS, hlen, wp_ok, min2S, max2S]
    rw [rng_ok (by split <;> split <;> omega) (by split <;> split <;> omega), wp_ok]
    refine ws_forL (I := fun ds ρ S => ∃ o2 o3 o4 o5 o6 o7 o8 o9 o10 o11 o12, ρ = [some (.ptr 0), some (.ptr p), o2, o3, o4, o5, o6, o7, o8, o9, o10, o11, o12] ∧ Draw p q r S) ?_ (fun ρ S ⟨o2, o3, o4, o5, o6, o7, o8, o9, o10, o11, o12, e, _⟩ => ⟨rfl, _, rfl, o2, o3, o4, o5, o6, o7, o8, o9, o10, o11, o12, e⟩) _ _ _ ⟨_, _, _, _, _, _, _, _, _, _, _, rfl, hd⟩
    clear hd e0 hlen S1
    rintro d ds ρ S ⟨o2, o3, o4, o5, o6, o7, o8, o9, o10, o11, o12, rfl, hd⟩
    refine ⟨rfl, ?_⟩
    rw [wp_gNm]
    simp only [List.set]
    refine ws_cut (fun ρ1 S1 => ∃ ps rs, ρ1 = [some (.ptr 0), some (.ptr p), some d, some (.tup (ps.map D.str)), some (.tup (rs.map rowD)), o5, o6, o7, o8, o9, o10, o11, o12] ∧ Mch ps rs ∧ Draw p q r S1) ?_ ?_
    · simp only [wp_ok, wp_bind, wp_noX, wp_mC, wp_mStr, wp_mTru, wp_mBl, wp_blOf, wp_tru_bl, wp_mBin, wp_mUn, wp_mIf, wp_mNotT, wp_mAndT, wp_mOrT, wp_mAndV, wp_mOrV, wp_mNotV, wp_mChain, wp_mChainT, wp_mNil, wp_mCons, wp_mDisp, wp_tupD, wp_lstD, wp_mSl, wp_mNoPart, wp_mPart, wp_intOf, wp_mBm, wp_mMeth, wp_dflS, wp_mIt, wp_mItA, wp_mDict, wp_mpNil, wp_mpCons, wp_mNext, wp_mYes, wp_mLc, ws_mNx, ws_mBrk, ws_mCnt, ws_mRetN, ws_mSeq, ws_mDrop, ws_mRet, ws_mIfS, ws_mAsg, wp_gNm, wp_gsNil, wp_gsCons, wp_gTp, wp_gSubS, ws_mSetI, ws_mSetF, put_some, wp_callS, ws_mFor, ws_nx, ws_ret, wp_gFld, wp_mMethKw, wp_mVar0, wp_mVarS, List.set, List.append_nil, List.length_cons, List.length_nil, Nat.zero_add, Nat.add_zero, Nat.reduceAdd, true_and]
      refine (engine_ok hd).imp fun y S1 ⟨ps, rs, ey, hm, hd1, x1⟩ => ?_
      subst ey
      simp only [wp_ok, wp_bind, wp_noX, wp_mC, wp_mStr, wp_mTru, wp_mBl, wp_blOf, wp_tru_bl, wp_mBin, wp_mUn, wp_mIf, wp_mNotT, wp_mAndT, wp_mOrT, wp_mAndV, wp_mOrV, wp_mNotV, wp_mChain, wp_mChainT, wp_mNil, wp_mCons, wp_mDisp, wp_tupD, wp_lstD, wp_mSl, wp_mNoPart, wp_mPart, wp_intOf, wp_mBm, wp_mMeth, wp_dflS, wp_mIt, wp_mItA, wp_mDict, wp_mpNil, wp_mpCons, wp_mNext, wp_mYes, wp_mLc, ws_mNx, ws_mBrk, ws_mCnt, ws_mRetN, ws_mSeq, ws_mDrop, ws_mRet, ws_mIfS, ws_mAsg, wp_gNm, wp_gsNil, wp_gsCons, wp_gTp, wp_gSubS, ws_mSetI, ws_mSetF, put_some, wp_callS, ws_mFor, ws_nx, ws_ret, wp_gFld, wp_mMethKw, wp_mVar0, wp_mVarS, List.set, List.append_nil, List.length_cons, List.length_nil, Nat.zero_add, Nat.add_zero, Nat.reduceAdd, true_and]
      exact ⟨ps, rs, rfl, hm, hd1⟩
    clear hd S
    rintro ρ1 S ⟨ps, rs, rfl, mch, hd⟩
    have hr := mch_right mch
    have h1 : ps ≠ [] := mch.pk.p1
    have gm : ∀ (B : Nat) (S : Sto), gd B S 5 (.tup (ps.map D.str)) = true ∧ gd B S 5 (.tup (rs.map rowD)) = true := fun B S => gd_mch mch
    have hv : ∀ S : Sto, (∃ p, view S 60 (.tup (ps.map D.str)) = some p) ∧ ∃ p, view S 60 (.tup (rs.map rowD)) = some p := right_view hr
    have lrs : (rs.map rowD).length ≤ 1000 := by rw [List.length_map]; have := mch.r4; omega
    revert hr gm hv lrs
    generalize rs.map rowD = rd
    intro hr gm hv lrs
    clear mch rs
    refine ws_cut (fun ρ1 S1 => ∃ n, ρ1 = [some (.ptr 0), some (.ptr p), some d, some (.tup (ps.map D.str)), some (.tup rd), some (.ptr n), o6, o7, o8, o9, o10, o11, o12] ∧ (n ≠ p ∧ n ≠ q ∧ n ≠ r) ∧ S1[n]? = some (.ins "Machine" (fm (.tup (ps.map D.str)) (.tup rd))) ∧ Draw p q r S1) ?_ ?_
    · simp only [wp_ok, wp_bind, wp_noX, wp_mC, wp_mStr, wp_mTru, wp_mBl, wp_blOf, wp_tru_bl, wp_mBin, wp_mUn, wp_mIf, wp_mNotT, wp_mAndT, wp_mOrT, wp_mAndV, wp_mOrV, wp_mNotV, wp_mChain, wp_mChainT, wp_mNil, wp_mCons, wp_mDisp, wp_tupD, wp_lstD, wp_mSl, wp_mNoPart, wp_mPart, wp_intOf, wp_mBm, wp_mMeth, wp_dflS, wp_mIt, wp_mItA, wp_mDict, wp_mpNil, wp_mpCons, wp_mNext, wp_mYes, wp_mLc, ws_mNx, ws_mBrk, ws_mCnt, ws_mRetN, ws_mSeq, ws_mDrop, ws_mRet, ws_mIfS, ws_mAsg, wp_gNm, wp_gsNil, wp_gsCons, wp_gTp, wp_gSubS, ws_mSetI, ws_mSetF, put_some, wp_callS, ws_mFor, ws_nx, ws_ret, wp_gFld, wp_mMethKw, wp_mVar0, wp_mVarS, List.set, List.append_nil, List.length_cons, List.length_nil, Nat.zero_add, Nat.add_zero, Nat.reduceAdd, true_and]
      rw [kw_ok]
      refine (mk_right (by decide) (gm 0 S).1 (gm 0 S).2 hr).imp fun y S1 ⟨n, ey, hn, em, x1⟩ => ?_
      subst ey
      exact ⟨n, rfl, hd.old hn, em, hd.ext x1⟩
    clear hd S
    rintro ρ1 S ⟨n, rfl, nn, em, hd⟩
    refine ws_cut (fun ρ1 S1 => ρ1 = [some (.ptr 0), some (.ptr p), some d, some (.tup (ps.map D.str)), some (.tup rd), some (.ptr n), o6, o7, o8, o9, o10, o11, o12] ∧ S1 = S) (ifs_never ?_) ?_
    · obtain ⟨⟨p1, v1⟩, ⟨p2, v2⟩⟩ := hv S
      rw [wp_mOrT, wp_mBl, wp_mBin, wp_mUn]
      simp only [wp_mVar0, wp_mVarS]
      rw [prop_parts em rfl, neI_tup v1, wp_ok, wp_blOf]
      simp only [Bool.false_eq_true, if_false]
      rw [wp_mOrT, wp_mBl, wp_mBin, wp_mUn]
      simp only [wp_mVar0, wp_mVarS]
      rw [prop_rows em rfl, neI_tup v2, wp_ok, wp_blOf]
      simp only [Bool.false_eq_true, if_false]
      rw [wp_mBl, wp_mBin]
      simp only [wp_mDisp, wp_mCons, wp_mNil, wp_mVar0, wp_mVarS]
      rw [len_mach em lrs, wp_ok]
      simp only [lenS, wp_ok]
      rw [neI_int, wp_ok, wp_blOf]
      refine ⟨?_, ?_, ?_⟩ <;> first | trivial | rfl
    rintro ρ1 S1 ⟨rfl, rfl⟩
    refine ws_cut (fun ρ1 S1 => ∃ o6 o7 o8 o9 o10 o11 o12, ρ1 = [some (.ptr 0), some (.ptr p), some d, some (.tup (ps.map D.str)), some (.tup rd), some (.ptr n), o6, o7, o8, o9, o10, o11, o12] ∧ S1[n]? = some (.ins "Machine" (fm (.tup (ps.map D.str)) (.tup rd))) ∧ Draw p q r S1) ?_ ?_
    · rw [ws_mFor]
      simp only [wp_mItA, wp_mCons, wp_mC, wp_mNil]
      rw [rng_ok (by omega) (by omega), wp_ok]
      refine ws_forL (I := fun ds ρ S => ∃ o6 o7 o8 o9 o10 o11 o12, ρ = [some (.ptr 0), some (.ptr p), some d, some (.tup (ps.map D.str)), some (.tup rd), some (.ptr n), o6, o7, o8, o9, o10, o11, o12] ∧ S[n]? = some (.ins "Machine" (fm (.tup (ps.map D.str)) (.tup rd))) ∧ Draw p q r S) ?_ (fun ρ S h => ⟨rfl, _, rfl, h⟩) _ _ _ ⟨_, _, _, _, _, _, _, rfl, em, hd⟩
      clear hd em S1 o6 o7 o8 o9 o10 o11 o12
      rintro dl ds4 ρ S ⟨o6, o7, o8, o9, o10, o11, o12, rfl, em, hd⟩
      refine ⟨rfl, ?_⟩
      rw [wp_gNm]
      simp only [List.set]
      -- bending
      refine ws_cut (fun ρ1 S1 => ρ1 = [some (.ptr 0), some (.ptr p), some d, some (.tup (ps.map D.str)), some (.tup rd), some (.ptr n), some dl, some (.tup (ps.map D.str)), some (.tup rd), o9, o10, o11, o12] ∧ S1 = S) ?_ ?_
      · refine ws_mPar ?_
        simp only [wp_ok, wp_bind, wp_noX, wp_mC, wp_mStr, wp_mTru, wp_mBl, wp_blOf, wp_tru_bl, wp_mBin, wp_mUn, wp_mIf, wp_mNotT, wp_mAndT, wp_mOrT, wp_mAndV, wp_mOrV, wp_mNotV, wp_mChain, wp_mChainT, wp_mNil, wp_mCons, wp_mDisp, wp_tupD, wp_lstD, wp_mSl, wp_mNoPart, wp_mPart, wp_intOf, wp_mBm, wp_mMeth, wp_dflS, wp_mIt, wp_mItA, wp_mDict, wp_mpNil, wp_mpCons, wp_mNext, wp_mYes, wp_mLc, ws_mNx, ws_mBrk, ws_mCnt, ws_mRetN, ws_mSeq, ws_mDrop, ws_mRet, ws_mIfS, ws_mAsg, wp_gNm, wp_gsNil, wp_gsCons, wp_gTp, wp_gSubS, ws_mSetI, ws_mSetF, put_some, wp_callS, ws_mFor, ws_nx, ws_ret, wp_gFld, wp_mMethKw, wp_mVar0, wp_mVarS, List.set]
        exact ⟨_, _, rfl, rfl, trivial⟩
      rintro ρ1 S1 ⟨rfl, rfl⟩
      have hlt := hd.lt
      have hln := lt_of_get em
      refine ws_cut (fun ρ1 S2 => ∃ x y o9, ρ1 = [some (.ptr 0), some (.ptr p), some d, some (.tup (ps.map D.str)), some (.tup rd), some (.ptr n), some dl, some x, some y, o9, o10, o11, o12] ∧ gd S1.length S2 9 x = true ∧ gd S1.length S2 9 y = true ∧ S2[n]? = some (.ins "Machine" (fm (.tup (ps.map D.str)) (.tup rd))) ∧ Draw p q r S2) ?_ ?_
      · rw [ws_mFor]
        simp only [wp_mItA, wp_mCons, wp_mBin, wp_mC, wp_mDisp, wp_mNil, wp_mVar0, wp_mVarS, wp_dflS, List.append_nil, List.length_cons, List.length_nil, Nat.zero_add, Nat.add_zero, Nat.reduceAdd, true_and]
        refine (take_ok (size := 2) hd (by decide) (by decide)).imp fun z S2 ⟨i, ei, i0, i1, hd2, x2⟩ => ?_
        subst ei
        rw [adds_int, rng_ok (by omega) (by omega), wp_ok]
        have em2 := Draw.get x2 em nn.1 nn.2.1
        have l2 := x2.len
        refine ws_forL (I := fun ds ρ S => ds.length ≤ 2 ∧ ∃ x y o9, ρ = [some (.ptr 0), some (.ptr p), some d, some (.tup (ps.map D.str)), some (.tup rd), some (.ptr n), some dl, some x, some y, o9, o10, o11, o12] ∧ S1.length ≤ S.length ∧ gd S1.length S (9 - 2 * ds.length) x = true ∧ gd S1.length S (9 - 2 * ds.length) y = true ∧ S[n]? = some (.ins "Machine" (fm (.tup (ps.map D.str)) (.tup rd))) ∧ Draw p q r S) ?_ ?_ _ _ _ ?_
        · clear hd2 em2 l2 x2
          rintro dm ds5 ρ S ⟨hlen, x, y, o9, rfl, hS, gx, gy, em3, hd3⟩
          simp only [List.length_cons] at hlen gx gy
          refine ⟨rfl, ?_⟩
          rw [wp_gNm, ws_mIfS]
          simp only [wp_ok, wp_bind, wp_noX, wp_mC, wp_mStr, wp_mTru, wp_mBl, wp_blOf, wp_tru_bl, wp_mBin, wp_mUn, wp_mIf, wp_mNotT, wp_mAndT, wp_mOrT, wp_mAndV, wp_mOrV, wp_mNotV, wp_mChain, wp_mChainT, wp_mNil, wp_mCons, wp_mDisp, wp_tupD, wp_lstD, wp_mSl, wp_mNoPart, wp_mPart, wp_intOf, wp_mBm, wp_mMeth, wp_dflS, wp_mIt, wp_mItA, wp_mDict, wp_mpNil, wp_mpCons, wp_mNext, wp_mYes, wp_mLc, ws_mNx, ws_mBrk, ws_mCnt, ws_mRetN, ws_mSeq, ws_mDrop, ws_mRet, ws_mIfS, ws_mAsg, wp_gNm, wp_gsNil, wp_gsCons, wp_gTp, wp_gSubS, ws_mSetI, ws_mSetF, put_some, wp_callS, ws_mFor, ws_nx, ws_ret, wp_gFld, wp_mMethKw, wp_mVar0, wp_mVarS, List.set, List.append_nil, List.length_cons, List.length_nil, Nat.zero_add, Nat.add_zero, Nat.reduceAdd, true_and]
          refine (take_ok (size := 4) hd3 (by decide) (by decide)).imp fun z S4 ⟨i, ei, i0, i1, hd4, x4⟩ => ?_
          subst ei
          have em4 := Draw.get x4 em3 nn.1 nn.2.1
          have l4 := x4.len
          have mB : ∀ m ∈ [p, q], m < S1.length := by
            intro m hm
            simp only [List.mem_cons, List.not_mem_nil, or_false] at hm
            rcases hm with rfl | rfl
            · exact hlt.1
            · exact hlt.2.1
          have gx4 := gd_ext x4 mB _ _ gx
          have gy4 := gd_ext x4 mB _ _ gy
          have ek : 9 - 2 * (ds5.length + 1) + 2 = 9 - 2 * ds5.length := by omega
          rw [eqI_ints, wp_blOf]
          by_cases hi : i = 0
          · rw [decide_eq_true hi]
            simp only [if_true, wp_ok, wp_bind, wp_noX, wp_mC, wp_mStr, wp_mTru, wp_mBl, wp_blOf, wp_tru_bl, wp_mBin, wp_mUn, wp_mIf, wp_mNotT, wp_mAndT, wp_mOrT, wp_mAndV, wp_mOrV, wp_mNotV, wp_mChain, wp_mChainT, wp_mNil, wp_mCons, wp_mDisp, wp_tupD, wp_lstD, wp_mSl, wp_mNoPart, wp_mPart, wp_intOf, wp_mBm, wp_mMeth, wp_dflS, wp_mIt, wp_mItA, wp_mDict, wp_mpNil, wp_mpCons, wp_mNext, wp_mYes, wp_mLc, ws_mNx, ws_mBrk, ws_mCnt, ws_mRetN, ws_mSeq, ws_mDrop, ws_mRet, ws_mIfS, ws_mAsg, wp_gNm, wp_gsNil, wp_gsCons, wp_gTp, wp_gSubS, ws_mSetI, ws_mSetF, put_some, wp_callS, ws_mFor, ws_nx, ws_ret, wp_gFld, wp_mMethKw, wp_mVar0, wp_mVarS, List.set, List.append_nil, List.length_cons, List.length_nil, Nat.zero_add, Nat.add_zero, Nat.reduceAdd, true_and]
            refine (bent_ok hlt.1 hlt.2.1 h1 12 _ S4 x (by omega) (by omega) (by omega) hd4 gx4).imp fun z S5 ⟨gz, hd5, x5⟩ => ?_
            rw [ek] at gz
            exact ⟨by omega, z, y, _, rfl, by have := x5.len; omega, gz, gd_le (gd_ext x5 mB _ _ gy4) (by omega), Draw.get x5 em4 nn.1 nn.2.1, hd5⟩
          · rw [decide_eq_false hi]
            simp only [Bool.false_eq_true, if_false, wp_ok, wp_bind, wp_noX, wp_mC, wp_mStr, wp_mTru, wp_mBl, wp_blOf, wp_tru_bl, wp_mBin, wp_mUn, wp_mIf, wp_mNotT, wp_mAndT, wp_mOrT, wp_mAndV, wp_mOrV, wp_mNotV, wp_mChain, wp_mChainT, wp_mNil, wp_mCons, wp_mDisp, wp_tupD, wp_lstD, wp_mSl, wp_mNoPart, wp_mPart, wp_intOf, wp_mBm, wp_mMeth, wp_dflS, wp_mIt, wp_mItA, wp_mDict, wp_mpNil, wp_mpCons, wp_mNext, wp_mYes, wp_mLc, ws_mNx, ws_mBrk, ws_mCnt, ws_mRetN, ws_mSeq, ws_mDrop, ws_mRet, ws_mIfS, ws_mAsg, wp_gNm, wp_gsNil, wp_gsCons, wp_gTp, wp_gSubS, ws_mSetI, ws_mSetF, put_some, wp_callS, ws_mFor, ws_nx, ws_ret, wp_gFld, wp_mMethKw, wp_mVar0, wp_mVarS, List.set, List.append_nil, List.length_cons, List.length_nil, Nat.zero_add, Nat.add_zero, Nat.reduceAdd, true_and]
            refine (bent_ok hlt.1 hlt.2.1 h1 12 _ S4 y (by omega) (by omega) (by omega) hd4 gy4).imp fun z S5 ⟨gz, hd5, x5⟩ => ?_
            rw [ek] at gz
            exact ⟨by omega, x, z, _, rfl, by have := x5.len; omega, gd_le (gd_ext x5 mB _ _ gx4) (by omega), gz, Draw.get x5 em4 nn.1 nn.2.1, hd5⟩
        · rintro ρ S ⟨_, x, y, o9, e, _, gx, gy, em3, hd3⟩
          exact ⟨rfl, _, rfl, x, y, o9, e, gx, gy, em3, hd3⟩
        · have hm : (srcT (rngL 0 (1 + i).toNat)).items.length ≤ 2 := by
            simp only [srcT, rngL, List.length_map, List.length_range]; omega
          exact ⟨hm, _, _, _, rfl, l2, gd_le (gm _ _).1 (by omega), gd_le (gm _ _).2 (by omega), em2, hd2⟩
      clear em hd
      rintro ρ1 S ⟨x, y, o9', rfl, gx, gy, em, hd⟩
      revert gx gy
      generalize S1.length = B
      intro gx gy
      clear hlt hln S1
      -- told
      refine ws_cut (fun ρ1 S1 => ∃ t, ρ1 = [some (.ptr 0), some (.ptr p), some d, some (.tup (ps.map D.str)), some (.tup rd), some (.ptr n), some dl, some x, some y, o9', some t, o11, o12] ∧ gd B S1 9 x = true ∧ gd B S1 9 y = true ∧ S1[n]? = some (.ins "Machine" (fm (.tup (ps.map D.str)) (.tup rd))) ∧ Draw p q r S1 ∧ ((right x y = true ∧ ∃ m, t = .ptr m ∧ S1[m]? = some (.ins "Machine" (fm x y))) ∨ (right x y = false ∧ t = .bl true))) ?_ ?_
      · simp only [wp_ok, wp_bind, wp_noX, wp_mC, wp_mStr, wp_mTru, wp_mBl, wp_blOf, wp_tru_bl, wp_mBin, wp_mUn, wp_mIf, wp_mNotT, wp_mAndT, wp_mOrT, wp_mAndV, wp_mOrV, wp_mNotV, wp_mChain, wp_mChainT, wp_mNil, wp_mCons, wp_mDisp, wp_tupD, wp_lstD, wp_mSl, wp_mNoPart, wp_mPart, wp_intOf, wp_mBm, wp_mMeth, wp_dflS, wp_mIt, wp_mItA, wp_mDict, wp_mpNil, wp_mpCons, wp_mNext, wp_mYes, wp_mLc, ws_mNx, ws_mBrk, ws_mCnt, ws_mRetN, ws_mSeq, ws_mDrop, ws_mRet, ws_mIfS, ws_mAsg, wp_gNm, wp_gsNil, wp_gsCons, wp_gTp, wp_gSubS, ws_mSetI, ws_mSetF, put_some, wp_callS, ws_mFor, ws_nx, ws_ret, wp_gFld, wp_mMethKw, wp_mVar0, wp_mVarS, List.set, List.append_nil, List.length_cons, List.length_nil, Nat.zero_add, Nat.add_zero, Nat.reduceAdd, true_and]
        refine (told_any (by decide) gx gy).imp fun t S1 ⟨x1, ht⟩ => ?_
        refine ⟨t, rfl, gd_ext x1 (by simp) _ _ gx, gd_ext x1 (by simp) _ _ gy, x1.get _ _ em (by simp), hd.ext x1, ?_⟩
        rcases ht with ⟨a, m, b, _, c⟩ | h
        · exact .inl ⟨a, m, b, c⟩
        · exact .inr h
      clear gx gy em hd S
      rintro ρ1 S ⟨t, rfl, gx, gy, em, hd, ht⟩
      refine ws_cut (fun ρ1 S1 => ρ1 = [some (.ptr 0), some (.ptr p), some d, some (.tup (ps.map D.str)), some (.tup rd), some (.ptr n), some dl, some x, some y, o9', some t, o11, o12] ∧ Ext [] S S1) (ifs_never ?_) ?_
      · rw [wp_mOrT, wp_mBl, wp_mBin]
        simp only [wp_mDisp, wp_mCons, wp_mNil, wp_mVar0, wp_mVarS, wp_dflS, List.append_nil, List.length_cons, List.length_nil, Nat.zero_add, Nat.add_zero, Nat.reduceAdd, true_and]
        refine (law_right_any (by decide) gx gy).imp fun z S1 ⟨ez, x1⟩ => ?_
        subst ez
        rw [wp_mUn]
        simp only [wp_mVar0, wp_mVarS]
        rcases ht with ⟨hr1, m, rfl, etm⟩ | ⟨hr1, rfl⟩
        · rw [isM_ptr (x1.get _ _ etm (by simp)), wp_ok, hr1, neI_bl, wp_ok, wp_blOf]
          simp only [Bool.false_eq_true, if_false]
          rw [wp_mBl, wp_mBin]
          simp only [wp_mVar0, wp_mVarS, wp_mC, isB, wp_ok]
          rw [wp_blOf]
          exact ⟨by first | trivial | rfl, x1⟩
        · rw [isM_bl, wp_ok, hr1, neI_bl, wp_ok, wp_blOf]
          simp only [Bool.false_eq_true, if_false]
          rw [wp_mBl, wp_mBin]
          simp only [wp_mVar0, wp_mVarS, wp_mC, isB, isS, wp_ok]
          rw [wp_blOf]
          exact ⟨by simp, x1⟩
      rintro ρ1 S1 ⟨rfl, x1⟩
      have gx1 := gd_ext x1 (by simp) _ _ gx
      have gy1 := gd_ext x1 (by simp) _ _ gy
      have em1 := x1.get _ _ em (by simp)
      have hd1 := hd.ext x1
      have ht1 : (right x y = true ∧ ∃ m, t = .ptr m ∧ S1[m]? = some (.ins "Machine" (fm x y))) ∨ (right x y = false ∧ t = .bl true) := by
        rcases ht with ⟨a, m, b, c⟩ | h
        · exact .inl ⟨a, m, b, x1.get _ _ c (by simp)⟩
        · exact .inr h
      clear gx gy em hd ht x1 S
      obtain ⟨⟨p1, v1⟩, ⟨p2, v2⟩⟩ := hv S1
      obtain ⟨b1, hb1, hc1⟩ := eqE_is gx1 (by decide) v1
      obtain ⟨b2, hb2, hc2⟩ := eqE_is gy1 (by decide) v2
      refine ws_cut (fun ρ1 S2 => ρ1 = [some (.ptr 0), some (.ptr p), some d, some (.tup (ps.map D.str)), some (.tup rd), some (.ptr n), some dl, some x, some y, o9', some t, some (.bl (b1 && b2)), o12] ∧ S2 = S1) ?_ ?_
      · simp only [wp_ok, wp_bind, wp_noX, wp_mC, wp_mStr, wp_mTru, wp_mBl, wp_blOf, wp_tru_bl, wp_mBin, wp_mUn, wp_mIf, wp_mNotT, wp_mAndT, wp_mOrT, wp_mAndV, wp_mOrV, wp_mNotV, wp_mChain, wp_mChainT, wp_mNil, wp_mCons, wp_mDisp, wp_tupD, wp_lstD, wp_mSl, wp_mNoPart, wp_mPart, wp_intOf, wp_mBm, wp_mMeth, wp_dflS, wp_mIt, wp_mItA, wp_mDict, wp_mpNil, wp_mpCons, wp_mNext, wp_mYes, wp_mLc, ws_mNx, ws_mBrk, ws_mCnt, ws_mRetN, ws_mSeq, ws_mDrop, ws_mRet, ws_mIfS, ws_mAsg, wp_gNm, wp_gsNil, wp_gsCons, wp_gTp, wp_gSubS, ws_mSetI, ws_mSetF, put_some, wp_callS, ws_mFor, ws_nx, ws_ret, wp_gFld, wp_mMethKw, wp_mVar0, wp_mVarS, List.set]
        rw [hb1]
        cases b1 with
        | true =>
          simp only [wp_ok, tru, truD, if_true, wp_ok, wp_bind, wp_noX, wp_mC, wp_mStr, wp_mTru, wp_mBl, wp_blOf, wp_tru_bl, wp_mBin, wp_mUn, wp_mIf, wp_mNotT, wp_mAndT, wp_mOrT, wp_mAndV, wp_mOrV, wp_mNotV, wp_mChain, wp_mChainT, wp_mNil, wp_mCons, wp_mDisp, wp_tupD, wp_lstD, wp_mSl, wp_mNoPart, wp_mPart, wp_intOf, wp_mBm, wp_mMeth, wp_dflS, wp_mIt, wp_mItA, wp_mDict, wp_mpNil, wp_mpCons, wp_mNext, wp_mYes, wp_mLc, ws_mNx, ws_mBrk, ws_mCnt, ws_mRetN, ws_mSeq, ws_mDrop, ws_mRet, ws_mIfS, ws_mAsg, wp_gNm, wp_gsNil, wp_gsCons, wp_gTp, wp_gSubS, ws_mSetI, ws_mSetF, put_some, wp_callS, ws_mFor, ws_nx, ws_ret, wp_gFld, wp_mMethKw, wp_mVar0, wp_mVarS]
          rw [hb2]
          simp only [wp_ok, wp_ok, wp_bind, wp_noX, wp_mC, wp_mStr, wp_mTru, wp_mBl, wp_blOf, wp_tru_bl, wp_mBin, wp_mUn, wp_mIf, wp_mNotT, wp_mAndT, wp_mOrT, wp_mAndV, wp_mOrV, wp_mNotV, wp_mChain, wp_mChainT, wp_mNil, wp_mCons, wp_mDisp, wp_tupD, wp_lstD, wp_mSl, wp_mNoPart, wp_mPart, wp_intOf, wp_mBm, wp_mMeth, wp_dflS, wp_mIt, wp_mItA, wp_mDict, wp_mpNil, wp_mpCons, wp_mNext, wp_mYes, wp_mLc, ws_mNx, ws_mBrk, ws_mCnt, ws_mRetN, ws_mSeq, ws_mDrop, ws_mRet, ws_mIfS, ws_mAsg, wp_gNm, wp_gsNil, wp_gsCons, wp_gTp, wp_gSubS, ws_mSetI, ws_mSetF, put_some, wp_callS, ws_mFor, ws_nx, ws_ret, wp_gFld, wp_mMethKw, List.set, Bool.true_and]
          trivial
        | false =>
          simp only [wp_ok, tru, truD, wp_ok, wp_bind, wp_noX, wp_mC, wp_mStr, wp_mTru, wp_mBl, wp_blOf, wp_tru_bl, wp_mBin, wp_mUn, wp_mIf, wp_mNotT, wp_mAndT, wp_mOrT, wp_mAndV, wp_mOrV, wp_mNotV, wp_mChain, wp_mChainT, wp_mNil, wp_mCons, wp_mDisp, wp_tupD, wp_lstD, wp_mSl, wp_mNoPart, wp_mPart, wp_intOf, wp_mBm, wp_mMeth, wp_dflS, wp_mIt, wp_mItA, wp_mDict, wp_mpNil, wp_mpCons, wp_mNext, wp_mYes, wp_mLc, ws_mNx, ws_mBrk, ws_mCnt, ws_mRetN, ws_mSeq, ws_mDrop, ws_mRet, ws_mIfS, ws_mAsg, wp_gNm, wp_gsNil, wp_gsCons, wp_gTp, wp_gSubS, ws_mSetI, ws_mSetF, put_some, wp_callS, ws_mFor, ws_nx, ws_ret, wp_gFld, wp_mMethKw, List.set, Bool.false_and, Bool.false_eq_true, if_false]
          trivial
      rintro ρ1 S2 ⟨rfl, rfl⟩
      refine ifs_never (Wp.imp (Q := fun b S3 => b = false ∧ S3 = S2) ?_ fun b S3 ⟨eb, e3⟩ => ?_)
      · rw [wp_mAndT, wp_mTru, wp_mUn]
        simp only [wp_mVar0, wp_mVarS]
        rcases ht1 with ⟨hr1, m, rfl, etm⟩ | ⟨hr1, rfl⟩
        · rw [isM_ptr etm]
          simp only [wp_ok, tru, truD, if_true]
          rw [wp_mBl, wp_mBin, wp_mBin]
          simp only [wp_mVar0, wp_mVarS]
          obtain ⟨⟨q1, w1⟩, ⟨q2, w2⟩⟩ := right_view hr1 S2
          rw [eq_mach etm em1 (hc1 _ w1) (hc2 _ w2)]
          simp only [wp_ok]
          rw [neI_bl, wp_ok, wp_blOf]
          refine ⟨?_, ?_⟩ <;> first | trivial | rfl
        · rw [isM_bl]
          simp only [wp_ok, tru, truD, Bool.false_eq_true, if_false]
          exact ⟨trivial, trivial⟩
      · subst e3
        exact ⟨eb, _, _, _, _, _, _, _, rfl, em1, hd1⟩
    clear em hd S1
    rintro ρ1 S ⟨o6', o7', o8', o9', o10', o11', o12', rfl, em, hd⟩
    refine ifs_never (Wp.imp (Q := fun b S3 => b = false ∧ Ext [] S S3) ?_ fun b S3 ⟨eb, x3⟩ => ?_)
    · rw [wp_mOrT, wp_mBl, wp_mBin]
      simp only [wp_mVar0, wp_mVarS]
      rw [eq_tup em, wp_ok, wp_blOf]
      simp only [Bool.false_eq_true, if_false]
      rw [wp_mOrT, wp_mBl, wp_mBin]
      simp only [wp_mDisp, wp_mCons, wp_mNil, wp_mVar0, wp_mVarS]
      simp only [wp_ok, wp_bind, wp_noX, wp_mC, wp_mStr, wp_mTru, wp_mBl, wp_blOf, wp_tru_bl, wp_mBin, wp_mUn, wp_mIf, wp_mNotT, wp_mAndT, wp_mOrT, wp_mAndV, wp_mOrV, wp_mNotV, wp_mChain, wp_mChainT, wp_mNil, wp_mCons, wp_mDisp, wp_tupD, wp_lstD, wp_mSl, wp_mNoPart, wp_mPart, wp_intOf, wp_mBm, wp_mMeth, wp_dflS, wp_mIt, wp_mItA, wp_mDict, wp_mpNil, wp_mpCons, wp_mNext, wp_mYes, wp_mLc, ws_mNx, ws_mBrk, ws_mCnt, ws_mRetN, ws_mSeq, ws_mDrop, ws_mRet, ws_mIfS, ws_mAsg, wp_gNm, wp_gsNil, wp_gsCons, wp_gTp, wp_gSubS, ws_mSetI, ws_mSetF, put_some, wp_callS, ws_mFor, ws_nx, ws_ret, wp_gFld, wp_mMethKw]
      refine ⟨by simp [sizeLine], ?_⟩
      rw [eq_tup em, wp_ok, wp_blOf]
      simp only [Bool.false_eq_true, if_false]
      simp only [wp_mVar0, wp_mVarS]
      refine (mk_right (by decide) (gm 0 S).1 (gm 0 S).2 hr).imp fun y S1 ⟨n2, ey, hn, em2, x1⟩ => ?_
      subst ey
      obtain ⟨⟨p1, v1⟩, ⟨p2, v2⟩⟩ := hv S1
      rw [eq_mach (x1.get _ _ em (by simp)) em2 (eqS_same v1) (eqS_same v2), wp_ok, wp_blOf]
      refine ⟨?_, x1⟩ <;> first | trivial | rfl
    · exact ⟨eb, _, _, _, _, _, _, _, _, _, _, _, rfl, hd.ext x3⟩
  clear hd e0 S1
  rintro ρ1 S ⟨o2, o3, o4, o5, o6, o7, o8, o9, o10, o11, o12, rfl⟩
  refine ws_cut (fun ρ1 S1 => ρ1 = [some (.ptr 0), some (.ptr p), o2, o3, o4, o5, o6, o7, o8, o9, o10, o11, some (.tup (strItems "abcdefghi"))]) ?_ ?_
  · simp only [wp_ok, wp_bind, wp_noX, wp_mC, wp_mStr, wp_mTru, wp_mBl, wp_blOf, wp_tru_bl, wp_mBin, wp_mUn, wp_mIf, wp_mNotT, wp_mAndT, wp_mOrT, wp_mAndV, wp_mOrV, wp_mNotV, wp_mChain, wp_mChainT, wp_mNil, wp_mCons, wp_mDisp, wp_tupD, wp_lstD, wp_mSl, wp_mNoPart, wp_mPart, wp_intOf, wp_mBm, wp_mMeth, wp_dflS, wp_mIt, wp_mItA, wp_mDict, wp_mpNil, wp_mpCons, wp_mNext, wp_mYes, wp_mLc, ws_mNx, ws_mBrk, ws_mCnt, ws_mRetN, ws_mSeq, ws_mDrop, ws_mRet, ws_mIfS, ws_mAsg, wp_gNm, wp_gsNil, wp_gsCons, wp_gTp, wp_gSubS, ws_mSetI, ws_mSetF, put_some, wp_callS, ws_mFor, ws_nx, ws_ret, wp_gFld, wp_mMethKw, wp_mVar0, wp_mVarS, List.set]
    refine ⟨by decide +kernel, ?_⟩
    simp only [tupleC]
    rw [if_pos (by decide +kernel), wp_ok]
  rintro ρ1 S1 rfl
  simp only [wp_ok, wp_bind, wp_noX, wp_mC, wp_mStr, wp_mTru, wp_mBl, wp_blOf, wp_tru_bl, wp_mBin, wp_mUn, wp_mIf, wp_mNotT, wp_mAndT, wp_mOrT, wp_mAndV, wp_mOrV, wp_mNotV, wp_mChain, wp_mChainT, wp_mNil, wp_mCons, wp_mDisp, wp_tupD, wp_lstD, wp_mSl, wp_mNoPart, wp_mPart, wp_intOf, wp_mBm, wp_mMeth, wp_dflS, wp_mIt, wp_mItA, wp_mDict, wp_mpNil, wp_mpCons, wp_mNext, wp_mYes, wp_mLc, ws_mNx, ws_mBrk, ws_mCnt, ws_mRetN, ws_mSeq, ws_mDrop, ws_mRet, ws_mIfS, ws_mAsg, wp_gNm, wp_gsNil, wp_gsCons, wp_gTp, wp_gSubS, ws_mSetI, ws_mSetF, put_some, wp_callS, ws_mFor, ws_nx, ws_ret, wp_gFld, wp_mMethKw, wp_mVar0, wp_mVarS, List.set]
  have hrow : ∀ (B : Nat) (S : Sto), gd B S 3 (.tup [.tup [.bl false, .tup []]]) = true := fun B S => by simp [gd]
  have hnine : ∀ (B : Nat) (S : Sto), gd B S 3 (.tup (strItems "abcdefghi")) = true := fun B S => by
    have : strItems "abcdefghi" = (["a", "b", "c", "d", "e", "f", "g", "h", "i"] : List Str).map D.str := by decide +kernel
    rw [this]
    simp [gd]
  simp only [List.append_nil, List.length_cons, List.length_nil, Nat.zero_add, Nat.add_zero, Nat.reduceAdd, true_and]
  refine ⟨by simp [sizeLine], by simp [sizeLine], by simp [sizeLine], ?_⟩
  refine (told_any (by decide) (hnine 0 S1) (hrow 0 S1)).imp fun t S2 ⟨x2, ht⟩ => ?_
  rcases ht with ⟨hr1, _⟩ | ⟨_, rfl⟩
  · rw [right9] at hr1; cases hr1
  simp only [isS, wp_ok, decide_true, tru, if_true, wp_ok, wp_bind, wp_noX, wp_mC, wp_mStr, wp_mTru, wp_mBl, wp_blOf, wp_tru_bl, wp_mBin, wp_mUn, wp_mIf, wp_mNotT, wp_mAndT, wp_mOrT, wp_mAndV, wp_mOrV, wp_mNotV, wp_mChain, wp_mChainT, wp_mNil, wp_mCons, wp_mDisp, wp_tupD, wp_lstD, wp_mSl, wp_mNoPart, wp_mPart, wp_intOf, wp_mBm, wp_mMeth, wp_dflS, wp_mIt, wp_mItA, wp_mDict, wp_mpNil, wp_mpCons, wp_mNext, wp_mYes, wp_mLc, ws_mNx, ws_mBrk, ws_mCnt, ws_mRetN, ws_mSeq, ws_mDrop, ws_mRet, ws_mIfS, ws_mAsg, wp_gNm, wp_gsNil, wp_gsCons, wp_gTp, wp_gSubS, ws_mSetI, ws_mSetF, put_some, wp_callS, ws_mFor, ws_nx, ws_ret, wp_gFld, wp_mMethKw, wp_mVar0, wp_mVarS, slS]
  rw [eight_is]
  simp only [truD, wp_ok, if_true]
  refine ⟨by simp [sizeLine], by simp [sizeLine], by simp [sizeLine], ?_⟩
  refine (mk_right (B := 0) (k := 3) (by decide) (gd_strs (by decide)) (hrow 0 S2) right8).imp fun y S3 ⟨n2, ey, hn, em2, x3⟩ => ?_
  subst ey
  rw [len_mach em2 (by simp), wp_ok, eqI_ints]
  rfl
theorem law_true_k20 : ∀ ns : List Int, ns.length ≤ 63 → ∃ S', f_law [.ptr 0] [.rol (ns.map D.int)] = .ok (.bl true) S' := by
  intro ns hl
  obtain ⟨d, S', e, rfl⟩ := law_ok hl
  exact ⟨S', e⟩
end K20
/-! K20end -/
set_option Elab.async false
set_option linter.all false
set_option maxRecDepth 100000
namespace K20
open PySem MP
theorem law_true : ∀ ns : List Int, ns.length ≤ 63 → ∃ S', f_law [.ptr 0] [.rol (ns.map D.int)] = .ok (.bl true) S' := K20.law_true_k20
end K20
namespace MP
open PySem PySem.Spec L2
open PyProof.Rows hiding St
theorem endX {P : Program} {w : World} (H : Hp) (st : Shared) (e : Value) (t : Shared) (h : L2.CX P w [] H st (fun _ _ _ => False) e t) : False := by
  obtain ⟨_, _, _, _, _, _, _, _, _, _, _, _, z⟩ := h
  exact z
/-- the end of a law whose defs may raise errors of the package's own, without lambdas -/
theorem walk_gX {l : PySem.W.OpenLaw} {n k : Nat} {q : Program} {loose : List Str} {XP : (Str → Option Value) → Heap → Prop} {YP : World → Heap → Prop} {d : DefRec} {K : Params → PySem.W.Frag} {CX : World → CXT} {x : Str} {g : FL}
    (hn : l.most = some n) (hn2 : n ≤ sizeLine) (hdf : d.params.defaults = []) (hr : Room k callerA) (hY : ∀ (w : World) (h : Heap), YP w h → (K w.params).In h)
    (F : ∀ (w : World) (mg : Str → Option Value) (fa : Addr) (h : Heap), (K w.params).In h → h.Ns mainGlobals mg → mg d.name = some (.ref fa) →
      ∃ (fd : FuncData) (cl : Cl), (cl.tb = [] ∧ cl.pre = [] ∧ cl.cap = [] ∧ cl.co = []) ∧ (∀ (t : Shared) (u : Value), BindsTo t fd ⟨[u], []⟩ [(x, u)]) ∧ ∀ bs : Heap, (K w.params).In bs → bs.Ns mainGlobals mg → FnG l.prog w (K w.params) mg bs cl (CX w) k fa fd [x] g)
    (hg : ∀ ns : List Int, ns.length ≤ n → ∃ S', g [.ptr 0] [.rol (ns.map D.int)] = .ok (.bl true) S') (hCX : ∀ (w : World) (H : Hp) (s : Shared) (e : Value) (t : Shared), CX w [] H s (fun _ _ _ => False) e t → False) :
    PySem.W.WalkO q loose XP YP l.row.toRowW d [] (fun f vs => PySem.call f vs) := by
  refine Att.attach_call hn hdf fun w s0 st mg mb fa o pm cd doc a vs ns G Y ho hd hcd hmg hobj hints hlen hgn => ?_
  obtain ⟨fd, cl, htb, hb, hF⟩ := F w mg fa _ (hY w _ Y) G.T.g hmg
  exact law_end (hY w _ Y) G.T.g G.T.b G.T.builtins G.T.nolimit hgn hobj hints (Nat.le_trans hlen hn2) hr hF hb (hg ns hlen) htb fun H e t => hCX w H st e t
end MP
open PySem PySem.W PyProof.Rows in
set_option maxRecDepth 100000 in
set_option maxHeartbeats 0 in
theorem PySem.Challenge.cw_faultorder_k20_machines_of_any_values_holds : PySem.Challenge.rw_faultorder_k20_machines_of_any_values.Holds := by
  w_on; o_law; k_head; (case hw => w_witness2)
  k_fill
  refine MP.walk_gX (n := 63) (k := 17) (x := "script") (CX := fun w => L2.CX K20.PP w) (l := PySem.Challenge.rw_faultorder_k20_machines_of_any_values) rfl (by decide) rfl ⟨rfl, by decide, by decide⟩ (fun w h Y => PySem.W.kIn_of Y) ?F K20.law_true (fun _ H s e t z => MP.endX H s e t z)
  case F =>
    intro w mg fa h KX G hmg
    obtain ⟨a, T, ea, hb, hpre⟩ : ∃ a : K20.Adr, K20.TX w _ mg a ∧ a.a_law = fa ∧ (∀ (t : Shared) (u : Value), BindsTo t a.d_law ⟨[u], []⟩ [("script", u)]) ∧ (a.pre = [] ∧ a.cap = [] ∧ a.co = []) := by
      refine' K20.all_mk w KX G hmg ?a_Machine ?pg_Machine ?hd_Machine ?po_Machine ?sa_Machine ?ha_Machine ?hn_Machine ?ht_Machine ?hm_Machine ?mk_Machine ?kc_Machine ?n__law_begin ?l__law_begin ?c__law_begin ?k__law_begin ?n__law_take ?l__law_take ?c__law_take ?k__law_take ?n__law_pick ?l__law_pick ?c__law_pick ?k__law_pick ?n__law_words ?l__law_words ?c__law_words ?k__law_words ?n__law_engine ?l__law_engine ?c__law_engine ?k__law_engine ?n_is_name ?l_is_name ?c_is_name ?k_is_name ?n_are_parts ?l_are_parts ?c_are_parts ?k_are_parts ?n_is_event_of ?l_is_event_of ?c_is_event_of ?k_is_event_of ?n_is_index ?l_is_index ?c_is_index ?k_is_index ?n_is_step ?l_is_step ?c_is_step ?k_is_step ?n_is_row ?l_is_row ?c_is_row ?k_is_row ?n_Machine___init__ ?i_Machine___init__ ?l_Machine___init__ ?c_Machine___init__ ?k_Machine___init__ ?n_Machine_parts ?g_Machine_parts ?t_Machine_parts ?p_Machine_parts ?l_Machine_parts ?c_Machine_parts ?k_Machine_parts ?n_Machine_rows ?g_Machine_rows ?t_Machine_rows ?p_Machine_rows ?l_Machine_rows ?c_Machine_rows ?k_Machine_rows ?n_Machine___len__ ?i_Machine___len__ ?l_Machine___len__ ?c_Machine___len__ ?k_Machine___len__ ?n__law_odd ?l__law_odd ?c__law_odd ?k__law_odd ?n__law_bent ?l__law_bent ?c__law_bent ?k__law_bent ?n__law_told ?l__law_told ?c__law_told ?k__law_told ?n__law_is_name ?l__law_is_name ?c__law_is_name ?k__law_is_name ?n__law_is_step ?l__law_is_step ?c__law_is_step ?k__law_is_step ?n__law_is_row ?l__law_is_row ?c__law_is_row ?k__law_is_row ?n__law_is_right ?l__law_is_right ?c__law_is_right ?k__law_is_right ?n_Machine___eq__ ?i_Machine___eq__ ?l_Machine___eq__ ?c_Machine___eq__ ?k_Machine___eq__ ?n_law ?l_law ?c_law ?k_law ?na_Machine_m_parts ?na_Machine_m_rows ?v_FAIL ?v_LETTERS ?v_MEND ?v_MOST_LETTERS ?z_abs ?z_all ?z_bool ?z_divmod ?z_int ?z_isinstance ?z_len ?z_list ?z_max ?z_min ?z_range ?z_set ?z_sorted ?z_str ?z_tuple ?kt_Machine_NoneType ?kt_Machine_bool ?kt_Machine_int ?kt_Machine_str ?kt_Machine_tuple ?kt_Machine_list ?kt_Machine_dict ?kb_bool_Machine ?kb_int_Machine ?kb_str_Machine ?kb_tuple_Machine ?a_FaultError ?xb_FaultError ?xa_FaultError ?xe_FaultError ?xt_FaultError ?xk_FaultError ?xm_FaultError ?yc_FaultError ?yg_FaultError ?yh_FaultError ?ya_FaultError ?ym_FaultError ?xx_FaultError_FaultError ?xo_FaultError ?a_BadMachine ?xb_BadMachine ?xa_BadMachine ?xe_BadMachine ?xt_BadMachine ?xk_BadMachine ?xm_BadMachine ?yc_BadMachine ?yg_BadMachine ?yh_BadMachine ?ya_BadMachine ?ym_BadMachine ?xx_BadMachine_FaultError ?xo_BadMachine ?yn ?yt ?xk_FaultError_BadMachine ?xk_BadMachine_BadMachine ?e2_Machine ?e3_Machine_NoneType ?e3_Machine_bool ?e3_Machine_int ?e3_Machine_str ?e3_Machine_tuple ?e3_Machine_list ?e3_Machine_dict ?e3_Machine_Machine
      (case a_Machine => k_is)
      (case pg_Machine => k_is)
      (case hd_Machine => k_is)
      (case po_Machine => k_is)
      (case sa_Machine => k_is)
      (case ha_Machine => k_is)
      (case hn_Machine => k_is)
      (case ht_Machine => k_is)
      (case hm_Machine => k_is)
      (case mk_Machine => k_is)
      (case kc_Machine => k_is)
      (case n__law_begin => k_is)
      (case l__law_begin => k_is)
      (case c__law_begin => k_is)
      (case k__law_begin => k_is)
      (case n__law_take => k_is)
      (case l__law_take => k_is)
      (case c__law_take => k_is)
      (case k__law_take => k_is)
      (case n__law_pick => k_is)
      (case l__law_pick => k_is)
      (case c__law_pick => k_is)
      (case k__law_pick => k_is)
      (case n__law_words => k_is)
      (case l__law_words => k_is)
      (case c__law_words => k_is)
      (case k__law_words => k_is)
      (case n__law_engine => k_is)
      (case l__law_engine => k_is)
      (case c__law_engine => k_is)
      (case k__law_engine => k_is)
      (case n_is_name => k_is)
      (case l_is_name => k_is)
      (case c_is_name => k_is)
      (case k_is_name => k_is)
      (case n_are_parts => k_is)
      (case l_are_parts => k_is)
      (case c_are_parts => k_is)
      (case k_are_parts => k_is)
      (case n_is_event_of => k_is)
      (case l_is_event_of => k_is)
      (case c_is_event_of => k_is)
      (case k_is_event_of => k_is)
      (case n_is_index => k_is)
      (case l_is_index => k_is)
      (case c_is_index => k_is)
      (case k_is_index => k_is)
      (case n_is_step => k_is)
      (case l_is_step => k_is)
      (case c_is_step => k_is)
      (case k_is_step => k_is)
      (case n_is_row => k_is)
      (case l_is_row => k_is)
      (case c_is_row => k_is)
      (case k_is_row => k_is)
      (case n_Machine___init__ => k_is)
      (case i_Machine___init__ => k_is)
      (case l_Machine___init__ => k_is)
      (case c_Machine___init__ => k_is)
      (case k_Machine___init__ => k_is)
      (case n_Machine_parts => k_is)
      (case g_Machine_parts => k_is)
      (case t_Machine_parts => k_is)
      (case p_Machine_parts => k_is)
      (case l_Machine_parts => k_is)
      (case c_Machine_parts => k_is)
      (case k_Machine_parts => k_is)
      (case n_Machine_rows => k_is)
      (case g_Machine_rows => k_is)
      (case t_Machine_rows => k_is)
      (case p_Machine_rows => k_is)
      (case l_Machine_rows => k_is)
      (case c_Machine_rows => k_is)
      (case k_Machine_rows => k_is)
      (case n_Machine___len__ => k_is)
      (case i_Machine___len__ => k_is)
      (case l_Machine___len__ => k_is)
      (case c_Machine___len__ => k_is)
      (case k_Machine___len__ => k_is)
      (case n__law_odd => k_is)
      (case l__law_odd => k_is)
      (case c__law_odd => k_is)
      (case k__law_odd => k_is)
      (case n__law_bent => k_is)
      (case l__law_bent => k_is)
      (case c__law_bent => k_is)
      (case k__law_bent => k_is)
      (case n__law_told => k_is)
      (case l__law_told => k_is)
      (case c__law_told => k_is)
      (case k__law_told => k_is)
      (case n__law_is_name => k_is)
      (case l__law_is_name => k_is)
      (case c__law_is_name => k_is)
      (case k__law_is_name => k_is)
      (case n__law_is_step => k_is)
      (case l__law_is_step => k_is)
      (case c__law_is_step => k_is)
      (case k__law_is_step => k_is)
      (case n__law_is_row => k_is)
      (case l__law_is_row => k_is)
      (case c__law_is_row => k_is)
      (case k__law_is_row => k_is)
      (case n__law_is_right => k_is)
      (case l__law_is_right => k_is)
      (case c__law_is_right => k_is)
      (case k__law_is_right => k_is)
      (case n_Machine___eq__ => k_is)
      (case i_Machine___eq__ => k_is)
      (case l_Machine___eq__ => k_is)
      (case c_Machine___eq__ => k_is)
      (case k_Machine___eq__ => k_is)
      (case n_law => k_is)
      (case l_law => k_is)
      (case c_law => k_is)
      (case k_law => k_is)
      (case na_Machine_m_parts => k_is)
      (case na_Machine_m_rows => k_is)
      (case v_FAIL => k_is)
      (case v_LETTERS => k_is)
      (case v_MEND => k_is)
      (case v_MOST_LETTERS => k_is)
      (case z_abs => k_is)
      (case z_all => k_is)
      (case z_bool => k_is)
      (case z_divmod => k_is)
      (case z_int => k_is)
      (case z_isinstance => k_is)
      (case z_len => k_is)
      (case z_list => k_is)
      (case z_max => k_is)
      (case z_min => k_is)
      (case z_range => k_is)
      (case z_set => k_is)
      (case z_sorted => k_is)
      (case z_str => k_is)
      (case z_tuple => k_is)
      (case kt_Machine_NoneType => kit_is)
      (case kt_Machine_bool => kit_is)
      (case kt_Machine_int => kit_is)
      (case kt_Machine_str => kit_is)
      (case kt_Machine_tuple => kit_is)
      (case kt_Machine_list => kit_is)
      (case kt_Machine_dict => kit_is)
      (case kb_bool_Machine => kit_is)
      (case kb_int_Machine => kit_is)
      (case kb_str_Machine => kit_is)
      (case kb_tuple_Machine => kit_is)
      (case a_FaultError => k_is)
      (case xb_FaultError => kernel_rfl)
      (case xa_FaultError => k_is)
      (case xe_FaultError => k_is)
      (case xt_FaultError => k_is)
      (case xk_FaultError => k_is)
      (case xm_FaultError => kernel_rfl)
      (case yc_FaultError => kernel_rfl)
      (case yg_FaultError => k_is)
      (case yh_FaultError => k_is)
      (case ya_FaultError => k_is)
      (case ym_FaultError => k_is)
      (case xx_FaultError_FaultError => kernel_rfl)
      (case xo_FaultError => kernel_rfl)
      (case a_BadMachine => k_is)
      (case xb_BadMachine => kernel_rfl)
      (case xa_BadMachine => k_is)
      (case xe_BadMachine => k_is)
      (case xt_BadMachine => k_is)
      (case xk_BadMachine => k_is)
      (case xm_BadMachine => kernel_rfl)
      (case yc_BadMachine => kernel_rfl)
      (case yg_BadMachine => k_is)
      (case yh_BadMachine => k_is)
      (case ya_BadMachine => k_is)
      (case ym_BadMachine => k_is)
      (case xx_BadMachine_FaultError => kernel_rfl)
      (case xo_BadMachine => kernel_rfl)
      (case yn => k_is)
      (case yt => k_is)
      (case xk_FaultError_BadMachine => kit_is)
      (case xk_BadMachine_BadMachine => kit_is)
      (case e2_Machine => k_is)
      (case e3_Machine_NoneType => k_is)
      (case e3_Machine_bool => k_is)
      (case e3_Machine_int => k_is)
      (case e3_Machine_str => k_is)
      (case e3_Machine_tuple => k_is)
      (case e3_Machine_list => k_is)
      (case e3_Machine_dict => k_is)
      (case e3_Machine_Machine => k_is)
    subst ea
    exact ⟨a.d_law, K20.cl a, ⟨rfl, hpre⟩, hb, fun bs _ _ => K20.g_law T⟩
