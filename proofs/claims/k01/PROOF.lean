import PyProof.Rows.All
import Wide.All
import OpenK.AllK
import Wide.FinOn
import HandS.ForMost
import HandS.Exc
import HandS.Property
import HandS.IsInst
import KE.KDictKeyed
import HandS.Lambda
import HandS.Deep
import HandS.TupAny
import HandS.Style
import HandS.Text
import HandS.Star
import HandS.More
import HandS.SetKeys
import HandS.Zip
import KE.GoesMore
import KE.GoesEnum
import HandS.Comp
import HandS.DictComp
import KE.KDictList
import HandS.IterNext
import HandS.ExcInit
import KE.KUnpackStar
import PyProof.RulesMatchSeq
import PyProof.Rows.MatchSeqLen
import HandS.Words
import KE.KDictWalk
import KE.SortData
import KE.KDictSum
import HandS.SetFor
import HandS.Finally
import HandS.Set
import HandS.SetTxt0
import HandS.Strs
import KE.KDictPairs
import KE.KDictCopyH
import HandS.OwnIter
import KE.KDictDisplayH
import KE.SortCalls
import KE.KEqNest
import HandS.Conv
import HandS.Defaults
import HandS.EndTab
import HandS.EndOwn
import KE.SortKeyHeap
import KE.KSortKey
import HandS.ExcValue
import HandS.ExcField
import HandS.ExcIs
import KE.KExcSuper
import HandS.ExcOwn
import PyProof.EqKinds
import PyProof.FactsAll.dict
import KE.KExcIs
import PyProof.ReprRoads
import HandS.RaiseMore
import PyProof.Rows.CountFlat
import PyProof.CallStr
import HandS.ExcBuiltin
import PySem.Challenge.RW_faultorder_k01_errors_by_class
/-! MP1 -/
set_option Elab.async false
set_option autoImplicit false
set_option linter.all false
set_option maxRecDepth 100000
namespace MP
open PySem PySem.Spec L2

/-! ## data, objects, stores, results -/
inductive D where
  | non | bl (b : Bool) | int (i : Int) | str (s : Str) | tup (ds : List D) | ptr (n : Nat)
  deriving Inhabited

mutual
def D.same : D → D → Bool
  | .non, .non => true
  | .bl a, .bl b => a == b
  | .int a, .int b => decide (a = b)
  | .str a, .str b => decide (a = b)
  | .tup a, .tup b => D.sames a b
  | .ptr a, .ptr b => decide (a = b)
  | _, _ => false
def D.sames : List D → List D → Bool
  | [], [] => true
  | a :: as, b :: bs => D.same a b && D.sames as bs
  | _, _ => false
end
mutual
theorem D.same_self : ∀ a : D, D.same a a = true
  | .non => by simp [D.same]
  | .bl _ => by simp [D.same]
  | .int _ => by simp [D.same]
  | .str _ => by simp [D.same]
  | .tup a => by simp [D.same, D.sames_self a]
  | .ptr _ => by simp [D.same]
theorem D.sames_self : ∀ a : List D, D.sames a a = true
  | [] => by simp [D.sames]
  | a :: as => by simp [D.sames, D.same_self a, D.sames_self as]
end
mutual
theorem D.of_same : ∀ {a b : D}, D.same a b = true → a = b
  | .non, b, h => by cases b <;> simp [D.same] at h ⊢
  | .bl _, b, h => by cases b <;> simp [D.same] at h ⊢; exact h
  | .int _, b, h => by cases b <;> simp [D.same] at h ⊢; exact h
  | .str _, b, h => by cases b <;> simp [D.same] at h ⊢; exact h
  | .tup as, b, h => by
    cases b <;> simp [D.same] at h ⊢
    exact D.of_sames h
  | .ptr _, b, h => by cases b <;> simp [D.same] at h ⊢; exact h
theorem D.of_sames : ∀ {a b : List D}, D.sames a b = true → a = b
  | [], b, h => by cases b <;> simp [D.sames] at h ⊢
  | a :: as, b, h => by
    cases b with
    | nil => simp [D.sames] at h
    | cons b bs =>
      simp [D.sames] at h
      rw [D.of_same h.1, D.of_sames h.2]
end
instance : DecidableEq D := fun a b => if h : D.same a b = true then .isTrue (D.of_same h) else .isFalse fun e => h (e ▸ D.same_self a)

inductive O where
  | lst (ds : List D)
  | rol (ds : List D)
  | dct (kvs : List (D × D))
  | rod (kvs : List (D × D))
  | ins (c : Str) (fs : List (Str × D))
  | vw (T : String) (n : Nat)
  | dkt (kvs : List (D × D))
  | rkt (kvs : List (D × D))
  | exc (c : Str) (fs : List (Str × D))
  | lam
  deriving DecidableEq, Inhabited

abbrev Sto := List O
abbrev Rho := List (Option D)
structure Exn where
  cls : Str
  fs : List (Str × D)

inductive Rs (α : Type) where
  | ok (a : α) (S : Sto)
  | exn (x : Exn) (S : Sto)
  | bad

def Rs.bind {α β : Type} (r : Rs α) (f : α → Sto → Rs β) : Rs β :=
  match r with
  | .ok a S => f a S
  | .exn x S => .exn x S
  | .bad => .bad

abbrev M (α : Type) := Rho → Sto → Rs α
def M.bind {α β : Type} (m : M α) (f : α → M β) : M β := fun ρ S => (m ρ S).bind fun a S1 => f a ρ S1
def M.ret {α : Type} (a : α) : M α := fun _ S => .ok a S
def M.bad {α : Type} : M α := fun _ _ => .bad

@[simp] theorem Rs.bind_ok {α β : Type} (a : α) (S : Sto) (f : α → Sto → Rs β) : (Rs.ok a S).bind f = f a S := rfl
@[simp] theorem Rs.bind_exn {α β : Type} (x : Exn) (S : Sto) (f : α → Sto → Rs β) : (Rs.exn x S : Rs α).bind f = .exn x S := rfl
@[simp] theorem Rs.bind_bad {α β : Type} (f : α → Sto → Rs β) : (Rs.bad : Rs α).bind f = .bad := rfl

/-! ## how they lie in the abstract heap -/
/-- a text that may stand in the machine -/
def okS (s : Str) : Prop := s.length ≤ sizeLine ∧ PyData.strOk s = true
instance (s : Str) : Decidable (okS s) := inferInstanceAs (Decidable (_ ∧ _))
/-- a pair of texts -/
def D.isP2 : D → Bool
  | .tup [.str _, .str _] => true
  | _ => false
/-- a tuple that has no dict of its own -/
def ND (K : PySem.W.Frag) (H : Hp) (a : Addr) : Prop := (∃ o vs, H a = some (.frz o (.tup vs)) ∧ o.dict = none) ∨ (∃ o, K.lookup a = some o ∧ o.dict = none)
/-- a tuple; of pairs of texts alone it is known that it has no dict of its own -/
def SqX (K : PySem.W.Frag) (H : Hp) (a : Addr) (ds : List D) (vs : List V) : Prop := SqT K H a vs ∧ (ds.all D.isP2 = true → ND K H a)
instance {K : PySem.W.Frag} {H : Hp} {a : Addr} {ds : List D} {vs : List V} : CoeOut (SqX K H a ds vs) (SqT K H a vs) := ⟨fun h => h.1⟩
mutual
inductive RelD (K : PySem.W.Frag) (io : List Addr) (H : Hp) : D → V → Prop
  | non : RelD K io H .non .non
  | bl (b : Bool) : RelD K io H (.bl b) (.bl b)
  | int (i : Int) : RelD K io H (.int i) (.int i)
  | str (s : Str) : okS s → RelD K io H (.str s) (.str s)
  | tup {a : Addr} {ds : List D} {vs : List V} : SqX K H a ds vs → RelDs K io H ds vs → RelD K io H (.tup ds) (.ref a)
  | ptr {n : Nat} {a : Addr} : io[n]? = some a → RelD K io H (.ptr n) (.ref a)
inductive RelDs (K : PySem.W.Frag) (io : List Addr) (H : Hp) : List D → List V → Prop
  | nil : RelDs K io H [] []
  | cons {d : D} {ds : List D} {v : V} {vs : List V} : RelD K io H d v → RelDs K io H ds vs → RelDs K io H (d :: ds) (v :: vs)
end

abbrev RelC (K : PySem.W.Frag) (io : List Addr) (H : Hp) : Option D → Option V → Prop
  | some d, some v => RelD K io H d v
  | none, _ => True
  | some _, none => False
abbrev RelRho (K : PySem.W.Frag) (io : List Addr) (H : Hp) : List (Option D) → L2.St → Prop := Paired (RelC K io H)
abbrev RelFs (K : PySem.W.Frag) (io : List Addr) (H : Hp) : List (Str × D) → List (Str × V) → Prop := Paired fun p q => p.1 = q.1 ∧ RelD K io H p.2 q.2
def kD : Key → D
  | .inl i => .int i
  | .inr s => .str s
def okK : Key → Prop
  | .inl _ => True
  | .inr x => okS x
abbrev RelKs (K : PySem.W.Frag) (io : List Addr) (H : Hp) : List (D × D) → List (Key × V) → Prop := Paired fun p q => p.1 = kD q.1 ∧ okK q.1 ∧ RelD K io H p.2 q.2

/-- a list that is read, never written -/
def RoL (K : PySem.W.Frag) (H : Hp) (a : Addr) (vs : List V) : Prop :=
  (∃ o, H a = some (.frz o (.lst vs))) ∨ (SqL K (fun _ => none) a vs)
theorem RoL.sq {K : PySem.W.Frag} {H : Hp} {a : Addr} {vs : List V} (h : RoL K H a vs) : SqL K H a vs := by
  rcases h with h | h | h
  · exact .inl (.inr h)
  · rcases h with h | ⟨_, h⟩ <;> cases h
  · exact .inr h
/-- a view of the dict at d -/
def vwO (T : String) (a d : Addr) : HO := .ext fun h => h.get? a = some { cls := .type T, data := .fields #[.ref d] }
/-- where the classes stand -/
structure Cl where
  at' : Str → Option Addr
  hs : NestedKey → Int
  /-- the tables of code objects, each with the name that its code objects bear -/
  tb : List (Addr × Str)
  /-- lambdas whose place is known -/
  pre : List (Nat × Addr) := []
  /-- what lambdas have captured -/
  cap : List (List (Option D) × L2.St) := []
  /-- where the classes of errors stand -/
  er : Str → Option Addr := fun _ => none
  /-- code objects that are known -/
  co : List (Addr × Str) := []
instance : CoeFun Cl fun _ => Str → Option Addr := ⟨Cl.at'⟩
/-! a dict whose keys are tuples -/
mutual
def D.nk : D → Option NestedKey
  | .int i => some (.num i)
  | .str s => some (.text s)
  | .tup ds => (D.nks ds).map .tup
  | _ => none
def D.nks : List D → Option (List NestedKey)
  | [] => some []
  | d :: ds => match D.nk d, D.nks ds with
    | some k, some ks => some (k :: ks)
    | _, _ => none
end
def nkT : D → Option NestedKey
  | .tup ds => match D.nk (.tup ds) with
    | some k => if k.depth ≤ 8 then some k else none
    | none => none
  | _ => none
/-- the object itself -/
def dkO (hs : NestedKey → Int) (a : Addr) (xs : List (NestedKey × Addr × Value)) : HO := .ext fun h => ∃ o es ep, h.get? a = some o ∧ o.ExactDict ∧ o.data = .dict es ep ∧ es.toList = xs.map fun x => ⟨hs x.1, .ref x.2.1, x.2.2⟩
def EntR (K : PySem.W.Frag) (io : List Addr) (H : Hp) (p : D × D) (q : (NestedKey × Addr × Value) × V) : Prop := nkT p.1 = some q.1.1 ∧ RelD K io H p.1 (.ref q.1.2.1) ∧ RelD K io H p.2 q.2 ∧ RelV q.2 q.1.2.2
/-- an exception that was caught, of the class at C, its fields in the dict d -/
def exV (a C : Addr) (d : Option Addr) : HO := .ext fun h => ∃ (oe : Obj) (vs : Array Value), h.get? a = some oe ∧ Zc (.ref C) d oe ∧ oe.data = .fields vs ∧ ∃ T, vs[1]? = some (.ref T)
def XFs (K : PySem.W.Frag) (io : List Addr) (H : Hp) (d : Option Addr) (fs : List (Str × D)) : Prop := (fs = [] ∧ d = none) ∨ ∃ dd ws, d = some dd ∧ H dd = some (.xd ws) ∧ RelFs K io H fs ws
inductive RelO (K : PySem.W.Frag) (cl : Cl) (io : List Addr) (H : Hp) : O → Addr → Prop
  | lst {a : Addr} {ds : List D} {vs : List V} : H a = some (.lst vs) → RelDs K io H ds vs → RelO K cl io H (.lst ds) a
  | rol {a : Addr} {ds : List D} {vs : List V} : RoL K H a vs → RelDs K io H ds vs → RelO K cl io H (.rol ds) a
  | dct {a : Addr} {kvs : List (D × D)} {ws : List (Key × V)} : H a = some (.dK ws) → RelKs K io H kvs ws → RelO K cl io H (.dct kvs) a
  | rod {a : Addr} {kvs : List (D × D)} {ws : List (Key × V)} {ob : Obj} : H a = some (.frz ob (.dK ws)) → RelKs K io H kvs ws → RelO K cl io H (.rod kvs) a
  | vw {a d : Addr} {T : String} {n : Nat} : H a = some (vwO T a d) → io[n]? = some d → RelO K cl io H (.vw T n) a
  | ins {a C dx : Addr} {c : Str} {fs : List (Str × D)} {ws : List (Str × V)} : cl c = some C → H a = some (.ins C dx ws) → RelFs K io H fs ws → RelO K cl io H (.ins c fs) a
  | dkt {a : Addr} {kvs : List (D × D)} {qs : List ((NestedKey × Addr × Value) × V)} : H a = some (dkO cl.hs a (qs.map (·.1))) → Paired (EntR K io H) kvs qs → (kvs.map (·.1)).Nodup → (a == sysModules) = false → kvs.length ≤ sizeLine → RelO K cl io H (.dkt kvs) a
  | rkt {a : Addr} {kvs : List (D × D)} {qs : List ((NestedKey × Addr × Value) × V)} {ob : Obj} : H a = some (.frz ob (dkO cl.hs a (qs.map (·.1)))) → Paired (EntR K io H) kvs qs → (kvs.map (·.1)).Nodup → (a == sysModules) = false → kvs.length ≤ sizeLine → RelO K cl io H (.rkt kvs) a
  | exc {a C : Addr} {c : Str} {fs : List (Str × D)} {d : Option Addr} : cl.er c = some C → H a = some (exV a C d) → XFs K io H d fs → RelO K cl io H (.exc c fs) a
  | lam {a : Addr} : RelO K cl io H .lam a

def O.isRo : O → Bool
  | .rol _ => true
  | .lam => true
  | _ => false
/-- none of the store's objects that may be written stands at c -/
def NoIo (io : List Addr) (S : Sto) (c : Addr) : Prop := ∀ (j : Nat) (o : O), S[j]? = some o → o.isRo = false → io[j]? ≠ some c
/-- a table of code objects: none of these is of the store -/
def TabI (io : List Addr) (S : Sto) (H : Hp) (P : Addr) (q : Str) : Prop := ∃ ps : Array Value, H P = some (.tbl ps) ∧ TriplesOk ps.toList ∧ ∀ (pos : Pos) (cv : Value), PySem.codeAmong pos ps.toList = some cv → ∃ c, cv = .ref c ∧ H c = some (LamX.CodeO c q) ∧ NoIo io S c
theorem TabI.mono {io io' : List Addr} {S S' : Sto} {H H' : Hp} {P : Addr} {q : Str} (t : TabI io S H P q) (e : ∀ ps, H P = some (.tbl ps) → H' P = some (.tbl ps)) (e2 : ∀ c, NoIo io S c → H c = some (LamX.CodeO c q) → H' c = some (LamX.CodeO c q) ∧ NoIo io' S' c) : TabI io' S' H' P q := by
  obtain ⟨ps, h1, h2, h3⟩ := t
  refine ⟨ps, e _ h1, h2, fun pos cv hc => ?_⟩
  obtain ⟨c, e1, k1, k2⟩ := h3 pos cv hc
  obtain ⟨k3, k4⟩ := e2 c k2 k1
  exact ⟨c, e1, k3, k4⟩
theorem TabI.s {io : List Addr} {S : Sto} {H : Hp} {P : Addr} {q : Str} (t : TabI io S H P q) : LamX.TabS H P q := by
  obtain ⟨ps, h1, h2, h3⟩ := t
  refine ⟨ps, h1, h2, fun pos cv hc => ?_⟩
  obtain ⟨c, e1, k1, k2⟩ := h3 pos cv hc
  exact ⟨c, e1, k1⟩
structure Abs (K : PySem.W.Frag) (cl : Cl) (io : List Addr) (S : Sto) (H : Hp) : Prop where
  len : io.length = S.length
  nd : ∀ (i j : Nat) (a : Addr) (o u : O), S[i]? = some o → S[j]? = some u → io[i]? = some a → io[j]? = some a → o.isRo = false → u.isRo = false → i = j
  obj : ∀ (n : Nat) (o : O), S[n]? = some o → ∃ a, io[n]? = some a ∧ RelO K cl io H o a
  tb : ∀ p ∈ cl.tb, TabI io S H p.1 p.2
  pre : ∀ p ∈ cl.pre, io[p.1]? = some p.2
  cap : ∀ p ∈ cl.cap, RelRho K io H p.1 p.2
  co : ∀ p ∈ cl.co, H p.1 = some (LamX.CodeO p.1 p.2) ∧ NoIo io S p.1

def Gr0 (K : PySem.W.Frag) (io : List Addr) (H : Hp) (io' : List Addr) (H' : Hp) : Prop :=
  (∃ t, io' = io ++ t) ∧ (∀ a vs, SqT K H a vs → SqT K H' a vs) ∧ (∀ a, ND K H a → ND K H' a) ∧ ∀ a ws, H a = some (.xd ws) → H' a = some (.xd ws)

theorem Gr0.rfl' {K : PySem.W.Frag} {io : List Addr} {H : Hp} : Gr0 K io H io H := ⟨⟨[], by simp⟩, fun _ _ h => h, fun _ h => h, fun _ _ h => h⟩
theorem Gr0.trans {K : PySem.W.Frag} {io io1 io2 : List Addr} {H H1 H2 : Hp} (g : Gr0 K io H io1 H1) (g' : Gr0 K io1 H1 io2 H2) : Gr0 K io H io2 H2 := by
  obtain ⟨⟨t, e⟩, k, n, x⟩ := g
  obtain ⟨⟨t', e'⟩, k', n', x'⟩ := g'
  exact ⟨⟨t ++ t', by rw [e', e, List.append_assoc]⟩, fun a vs h => k' a vs (k a vs h), fun a h => n' a (n a h), fun a ws h => x' a ws (x a ws h)⟩
theorem SqX.mono0 {K : PySem.W.Frag} {io io' : List Addr} {H H' : Hp} (g : Gr0 K io H io' H') {a : Addr} {ds : List D} {vs : List V} (h : SqX K H a ds vs) : SqX K H' a ds vs := ⟨g.2.1 _ _ h.1, fun e => g.2.2.1 _ (h.2 e)⟩
theorem Gr0.get {K : PySem.W.Frag} {io io' : List Addr} {H H' : Hp} (g : Gr0 K io H io' H') {n : Nat} {a : Addr} (h : io[n]? = some a) : io'[n]? = some a := by
  obtain ⟨⟨t, e⟩, _⟩ := g
  rw [e, List.getElem?_append_left (List.getElem?_eq_some_iff.mp h).1]
  exact h

mutual
theorem RelD.mono0 {K : PySem.W.Frag} {io io' : List Addr} {H H' : Hp} (g : Gr0 K io H io' H') : ∀ {d : D} {v : V}, RelD K io H d v → RelD K io' H' d v
  | _, _, .non => .non
  | _, _, .bl b => .bl b
  | _, _, .int i => .int i
  | _, _, .str s h => .str s h
  | _, _, .tup h r => .tup (h.mono0 g) (RelDs.mono0 g r)
  | _, _, .ptr h => .ptr (g.get h)
theorem RelDs.mono0 {K : PySem.W.Frag} {io io' : List Addr} {H H' : Hp} (g : Gr0 K io H io' H') : ∀ {ds : List D} {vs : List V}, RelDs K io H ds vs → RelDs K io' H' ds vs
  | _, _, .nil => .nil
  | _, _, .cons h t => .cons (RelD.mono0 g h) (RelDs.mono0 g t)
end
theorem RelC.mono0 {K : PySem.W.Frag} {io io' : List Addr} {H H' : Hp} (g : Gr0 K io H io' H') : ∀ {o : Option D} {p : Option V}, RelC K io H o p → RelC K io' H' o p
  | some _, some _, h => RelD.mono0 g h
  | none, _, _ => trivial
theorem RelRho.mono0 {K : PySem.W.Frag} {io io' : List Addr} {H H' : Hp} (g : Gr0 K io H io' H') {ρ : List (Option D)} {σ : L2.St} (r : RelRho K io H ρ σ) : RelRho K io' H' ρ σ := L2.Paired.mapP r (fun _ _ => RelC.mono0 g)
structure Grow (K : PySem.W.Frag) (io : List Addr) (H : Hp) (io' : List Addr) (H' : Hp) : Prop where
  base : Gr0 K io H io' H'
  frz : ∀ a o u, H a = some (.frz o u) → H' a = some (.frz o u)
theorem Grow.rfl' {K : PySem.W.Frag} {io : List Addr} {H : Hp} : Grow K io H io H := ⟨Gr0.rfl', fun _ _ _ h => h⟩
theorem Grow.trans {K : PySem.W.Frag} {io io1 io2 : List Addr} {H H1 H2 : Hp} (g : Grow K io H io1 H1) (g' : Grow K io1 H1 io2 H2) : Grow K io H io2 H2 := ⟨g.base.trans g'.base, fun a o u h => g'.frz a o u (g.frz a o u h)⟩
theorem Grow.get {K : PySem.W.Frag} {io io' : List Addr} {H H' : Hp} (g : Grow K io H io' H') {n : Nat} {a : Addr} (h : io[n]? = some a) : io'[n]? = some a := g.base.get h
theorem Grow.tup {K : PySem.W.Frag} {io io' : List Addr} {H H' : Hp} (g : Grow K io H io' H') {a : Addr} {vs : List V} (h : SqT K H a vs) : SqT K H' a vs := g.base.2.1 _ _ h
theorem RelD.mono {K : PySem.W.Frag} {io io' : List Addr} {H H' : Hp} (g : Grow K io H io' H') {d : D} {v : V} (r : RelD K io H d v) : RelD K io' H' d v := r.mono0 g.base
theorem RelDs.mono {K : PySem.W.Frag} {io io' : List Addr} {H H' : Hp} (g : Grow K io H io' H') {d : List D} {v : List V} (r : RelDs K io H d v) : RelDs K io' H' d v := r.mono0 g.base
theorem RelC.mono {K : PySem.W.Frag} {io io' : List Addr} {H H' : Hp} (g : Grow K io H io' H') : ∀ {o : Option D} {p : Option V}, RelC K io H o p → RelC K io' H' o p := RelC.mono0 g.base
theorem RelRho.mono {K : PySem.W.Frag} {io io' : List Addr} {H H' : Hp} (g : Grow K io H io' H') {ρ : List (Option D)} {σ : L2.St} (r : RelRho K io H ρ σ) : RelRho K io' H' ρ σ := RelRho.mono0 g.base r
theorem RelDs.length {K : PySem.W.Frag} {io : List Addr} {H : Hp} : ∀ {ds : List D} {vs : List V}, RelDs K io H ds vs → ds.length = vs.length
  | _, _, .nil => rfl
  | _, _, .cons _ t => by rw [List.length_cons, List.length_cons, RelDs.length t]
theorem RelDs.get {K : PySem.W.Frag} {io : List Addr} {H : Hp} : ∀ {ds : List D} {vs : List V} {i : Nat} {d : D}, RelDs K io H ds vs → ds[i]? = some d → ∃ v, vs[i]? = some v ∧ RelD K io H d v
  | _, _, 0, _, .cons h _, e => by
    simp only [List.getElem?_cons_zero, Option.some.injEq] at e
    subst e
    exact ⟨_, rfl, h⟩
  | _, _, i + 1, d, .cons _ t, e => by
    simp only [List.getElem?_cons_succ] at e ⊢
    exact RelDs.get t e
  | _, _, _, _, .nil, e => by simp at e
theorem RelDs.app {K : PySem.W.Frag} {io : List Addr} {H : Hp} : ∀ {ds es : List D} {vs ws : List V}, RelDs K io H ds vs → RelDs K io H es ws → RelDs K io H (ds ++ es) (vs ++ ws)
  | _, _, _, _, .nil, h => h
  | _, _, _, _, .cons h t, h' => .cons h (RelDs.app t h')
theorem RelDs.take {K : PySem.W.Frag} {io : List Addr} {H : Hp} : ∀ {ds : List D} {vs : List V} (n : Nat), RelDs K io H ds vs → RelDs K io H (ds.take n) (vs.take n)
  | _, _, 0, _ => by simpa using RelDs.nil
  | _, _, _ + 1, .nil => by simpa using RelDs.nil
  | _, _, n + 1, .cons h t => by simpa using RelDs.cons h (RelDs.take n t)
theorem RelDs.drop {K : PySem.W.Frag} {io : List Addr} {H : Hp} : ∀ {ds : List D} {vs : List V} (n : Nat), RelDs K io H ds vs → RelDs K io H (ds.drop n) (vs.drop n)
  | _, _, 0, h => by simpa using h
  | _, _, _ + 1, .nil => by simpa using RelDs.nil
  | _, _, n + 1, .cons h t => by simpa using RelDs.drop n t
theorem RelDs.set {K : PySem.W.Frag} {io : List Addr} {H : Hp} {d : D} {v : V} (r : RelD K io H d v) : ∀ {ds : List D} {vs : List V} (n : Nat), RelDs K io H ds vs → RelDs K io H (ds.set n d) (vs.set n v)
  | _, _, _, .nil => by simpa using RelDs.nil
  | _, _, 0, .cons h t => by simpa using RelDs.cons r t
  | _, _, n + 1, .cons h t => by simpa using RelDs.cons h (RelDs.set r n t)
theorem RelDs.erase {K : PySem.W.Frag} {io : List Addr} {H : Hp} : ∀ {ds : List D} {vs : List V} (n : Nat), RelDs K io H ds vs → RelDs K io H (ds.eraseIdx n) (vs.eraseIdx n)
  | _, _, _, .nil => by simpa using RelDs.nil
  | _, _, 0, .cons h t => by simpa using t
  | _, _, n + 1, .cons h t => by simpa using RelDs.cons h (RelDs.erase n t)
theorem paired_mono {α β : Type} {F G : α → β → Prop} (f : ∀ a b, F a b → G a b) {l : List α} {r : List β} (p : Paired F l r) : Paired G l r := L2.Paired.mapP p f
theorem XFs.mono {K : PySem.W.Frag} {io io' : List Addr} {H H' : Hp} (g : Gr0 K io H io' H') {d : Option Addr} {fs : List (Str × D)} (h : XFs K io H d fs) : XFs K io' H' d fs :=
  h.imp (fun z => z) fun ⟨dd, ws, e, k, r⟩ => ⟨dd, ws, e, g.2.2.2 _ _ k, paired_mono (fun p q z => ⟨z.1, z.2.mono0 g⟩) r⟩
theorem RelO.mono {K : PySem.W.Frag} {cl : Cl} {io io' : List Addr} {H H' : Hp} (g : Gr0 K io H io' H') {o : O} {a : Addr} (ha : ∀ u, H a = some u → H' a = some u) (r : RelO K cl io H o a) : RelO K cl io' H' o a := by
  cases r with
  | lst h r => exact .lst (ha _ h) (r.mono0 g)
  | rol h r =>
    refine .rol ?_ (r.mono0 g)
    rcases h with ⟨o, h⟩ | h
    · exact .inl ⟨o, ha _ h⟩
    · exact .inr h
  | dct h r => exact .dct (ha _ h) (paired_mono (fun p q z => ⟨z.1, z.2.1, z.2.2.mono0 g⟩) r)
  | rod h r => exact .rod (ha _ h) (paired_mono (fun p q z => ⟨z.1, z.2.1, z.2.2.mono0 g⟩) r)
  | vw h e => exact .vw (ha _ h) (g.get e)
  | ins c h r => exact .ins c (ha _ h) (paired_mono (fun p q z => ⟨z.1, z.2.mono0 g⟩) r)
  | dkt h r n sm z => exact .dkt (ha _ h) (paired_mono (fun p q z => ⟨z.1, z.2.1.mono0 g, z.2.2.1.mono0 g, z.2.2.2⟩) r) n sm z
  | rkt h r n sm z => exact .rkt (ha _ h) (paired_mono (fun p q z => ⟨z.1, z.2.1.mono0 g, z.2.2.1.mono0 g, z.2.2.2⟩) r) n sm z
  | exc c h r => exact .exc c (ha _ h) (r.mono g)
  | lam => exact .lam

/-- what may be written: a mutable thing, a dict that is locked -/
def LkU : HO → Prop
  | .dK _ => True
  | .ext _ => True
  | _ => False
def Wr (o : Option HO) : Prop := Mut o ∨ ∃ ob u, o = some (.frz ob u) ∧ LkU u
theorem sqT_upd {K : PySem.W.Frag} {H : Hp} {p : Addr} {o : HO} (h : H p = none ∨ Wr (H p)) {a : Addr} {vs : List V} (s : SqT K H a vs) : SqT K (upd H p o) a vs := by
  have ne : ∀ u, H a = some u → ¬ Wr (some u) → upd H p o a = some u := fun u e nm => by
    have hne : a ≠ p := by
      rintro rfl
      rcases h with h | h
      · rw [h] at e; cases e
      · rw [e] at h; exact nm h
    rw [upd_ne hne]; exact e
  rcases s with (s | ⟨ob, s⟩) | s
  · exact .inl (.inl (ne _ s fun z => z.elim (fun z => z) fun ⟨_, _, z, _⟩ => nomatch z))
  · exact .inl (.inr ⟨ob, ne _ s fun z => z.elim (fun z => z) fun ⟨_, _, z, m⟩ => by cases z; exact m⟩)
  · exact .inr s
theorem nd_upd {K : PySem.W.Frag} {H : Hp} {p : Addr} {o : HO} (h : H p = none ∨ Wr (H p)) {a : Addr} (s : ND K H a) : ND K (upd H p o) a := by
  rcases s with ⟨ob, vs, s, d⟩ | s
  · refine .inl ⟨ob, vs, ?_, d⟩
    have hne : a ≠ p := by
      rintro rfl
      rcases h with h | h
      · rw [h] at s; cases s
      · rw [s] at h
        rcases h with h | ⟨_, _, z, m⟩
        · exact h
        · cases z; exact m
    rw [upd_ne hne]; exact s
  · exact .inr s
theorem xd_upd {H : Hp} {p : Addr} {o : HO} (h : H p = none ∨ Wr (H p)) {a : Addr} {ws : List (Str × V)} (s : H a = some (.xd ws)) : upd H p o a = some (.xd ws) := by
  have hne : a ≠ p := by
    rintro rfl
    rcases h with h | h
    · rw [h] at s; cases s
    · rw [s] at h
      rcases h with h | ⟨_, _, z, m⟩
      · exact h
      · cases z
  rw [upd_ne hne]; exact s
theorem gr0_upd {K : PySem.W.Frag} {io : List Addr} {H : Hp} {p : Addr} {o : HO} (h : H p = none ∨ Wr (H p)) : Gr0 K io H io (upd H p o) := ⟨⟨[], by simp⟩, fun _ _ s => sqT_upd h s, fun _ s => nd_upd h s, fun _ _ s => xd_upd h s⟩
theorem gr0_new {K : PySem.W.Frag} {io : List Addr} {H : Hp} {p : Addr} {o : HO} (h : H p = none) : Gr0 K io H (io ++ [p]) (upd H p o) := ⟨⟨[p], rfl⟩, fun _ _ s => sqT_upd (.inl h) s, fun _ s => nd_upd (.inl h) s, fun _ _ s => xd_upd (.inl h) s⟩
theorem frz_upd {H : Hp} {p : Addr} {o : HO} (h : H p = none ∨ Mut (H p)) : ∀ a ob u, H a = some (.frz ob u) → upd H p o a = some (.frz ob u) := fun a ob u e => by
  have : a ≠ p := by
    rintro rfl
    rw [e] at h
    rcases h with h | h
    · cases h
    · exact h
  rw [upd_ne this]; exact e
theorem grow_upd {K : PySem.W.Frag} {io : List Addr} {H : Hp} {p : Addr} {o : HO} (h : H p = none ∨ Mut (H p)) : Grow K io H io (upd H p o) := ⟨gr0_upd (h.imp (fun z => z) .inl), frz_upd h⟩
theorem grow_new {K : PySem.W.Frag} {io : List Addr} {H : Hp} {p : Addr} {o : HO} (h : H p = none) : Grow K io H (io ++ [p]) (upd H p o) := ⟨gr0_new h, frz_upd (.inl h)⟩
section
variable {K : PySem.W.Frag} {cl : Cl} {io : List Addr} {S : Sto} {H : Hp}
theorem RelO.wr {o : O} {a : Addr} (r : RelO K cl io H o a) (h : o.isRo = false) : Wr (H a) := by
  cases r with
  | lst h _ => rw [h]; exact .inl trivial
  | rol _ _ => simp [O.isRo] at h
  | lam => simp [O.isRo] at h
  | dct h _ => rw [h]; exact .inl trivial
  | rod h _ => rw [h]; exact .inr ⟨_, _, rfl, trivial⟩
  | rkt h _ _ _ _ => rw [h]; exact .inr ⟨_, _, rfl, trivial⟩
  | vw h _ => rw [h]; exact .inl trivial
  | dkt h _ _ _ _ => rw [h]; exact .inl trivial
  | ins _ h _ => rw [h]; exact .inl trivial
  | exc _ h _ => rw [h]; exact .inl trivial
theorem RelO.ntbl {o : O} {a : Addr} (r : RelO K cl io H o a) (h : o.isRo = false) (ps : Array Value) : H a ≠ some (.tbl ps) := by
  cases r with
  | lst h _ => rw [h]; exact fun z => nomatch z
  | rol _ _ => simp [O.isRo] at h
  | lam => simp [O.isRo] at h
  | dct h _ => rw [h]; exact fun z => nomatch z
  | rod h _ => rw [h]; exact fun z => nomatch z
  | rkt h _ _ _ _ => rw [h]; exact fun z => nomatch z
  | vw h _ => rw [h]; exact fun z => nomatch z
  | dkt h _ _ _ _ => rw [h]; exact fun z => nomatch z
  | ins _ h _ => rw [h]; exact fun z => nomatch z
  | exc _ h _ => rw [h]; exact fun z => nomatch z
theorem RelO.ro {o : O} {a : Addr} {io' : List Addr} {H' : Hp} (r : RelO K cl io H o a) (h : o.isRo = true) (g : Gr0 K io H io' H') (hk : ∀ ob u, H a = some (.frz ob (.lst u)) → H' a = some (.frz ob (.lst u))) : RelO K cl io' H' o a := by
  cases r with
  | lst _ _ => simp [O.isRo] at h
  | rol h r =>
    refine .rol ?_ (r.mono0 g)
    rcases h with ⟨o, h⟩ | h
    · exact .inl ⟨o, hk _ _ h⟩
    · exact .inr h
  | dct _ _ => simp [O.isRo] at h
  | rod _ _ => simp [O.isRo] at h
  | vw _ _ => simp [O.isRo] at h
  | dkt _ _ _ _ _ => simp [O.isRo] at h
  | rkt _ _ _ _ _ => simp [O.isRo] at h
  | ins _ _ _ => simp [O.isRo] at h
  | exc _ _ _ => simp [O.isRo] at h
  | lam => exact .lam
/-- nothing of the store changes where the heap grows by p -/
theorem Abs.tup (A : Abs K cl io S H) {p : Addr} {o : HO} (hp : H p = none) : Abs K cl io S (upd H p o) :=
  ⟨A.len, A.nd, fun n ob e => by
    obtain ⟨a, ha, r⟩ := A.obj n ob e
    refine ⟨a, ha, ?_⟩
    cases hr : ob.isRo with
    | true => exact r.ro hr (gr0_upd (.inl hp)) fun x u hu => by rw [upd_ne (ne_of_none hu hp)]; exact hu
    | false => exact r.mono (gr0_upd (.inl hp)) fun u hu => by rw [upd_ne (ne_of_none hu hp)]; exact hu,
  fun q hq => (A.tb q hq).mono (fun ps e => by rw [upd_ne (ne_of_none e hp)]; exact e) fun c hc e => ⟨by rw [upd_ne (ne_of_none e hp)]; exact e, hc⟩, A.pre, fun q hq => (A.cap q hq).mono0 (gr0_upd (.inl hp)), fun q hq => ⟨by rw [upd_ne (ne_of_none (A.co q hq).1 hp)]; exact (A.co q hq).1, (A.co q hq).2⟩⟩
/-- a new object -/
theorem Abs.new (A : Abs K cl io S H) {p : Addr} {ho : HO} {o : O} (hp : H p = none) (r : RelO K cl (io ++ [p]) (upd H p ho) o p) : Abs K cl (io ++ [p]) (S ++ [o]) (upd H p ho) := by
  have low : ∀ {n : Nat} {ob : O}, (S ++ [o])[n]? = some ob → (n < S.length ∧ S[n]? = some ob) ∨ (n = S.length ∧ ob = o) := fun {n ob} e => by
    by_cases hn : n < S.length
    · rw [List.getElem?_append_left hn] at e
      exact .inl ⟨hn, e⟩
    · have hn' : n = S.length := by
        have := (List.getElem?_eq_some_iff.mp e).1
        simp only [List.length_append, List.length_singleton] at this
        omega
      subst hn'
      rw [List.getElem?_append_right (Nat.le_refl _)] at e
      simp only [Nat.sub_self, List.getElem?_cons_zero, Option.some.injEq] at e
      exact .inr ⟨rfl, e.symm⟩
  have ioO : ∀ {n : Nat}, n < S.length → (io ++ [p])[n]? = io[n]? := fun {n} h => List.getElem?_append_left (by rw [A.len]; exact h)
  have ioN : (io ++ [p])[S.length]? = some p := by
    rw [List.getElem?_append_right (by rw [A.len]; exact Nat.le_refl _), A.len]
    simp
  have notp : ∀ {n : Nat} {ob : O}, S[n]? = some ob → ob.isRo = false → io[n]? ≠ some p := fun {n ob} e hr z => by
    obtain ⟨a, ha, r'⟩ := A.obj n ob e
    rw [z] at ha
    cases ha
    have := r'.wr hr
    rw [hp] at this
    exact this.elim (fun z => z) fun ⟨_, _, z⟩ => nomatch z
  have cc : ∀ (c : Addr) (q : Str), NoIo io S c → H c = some (LamX.CodeO c q) → upd H p ho c = some (LamX.CodeO c q) ∧ NoIo (io ++ [p]) (S ++ [o]) c := fun c q hc e => ⟨by rw [upd_ne (ne_of_none e hp)]; exact e, fun j ob ej hj z => by
    rcases low ej with ⟨lj, fj⟩ | ⟨kj, qj⟩
    · rw [ioO lj] at z
      exact hc j ob fj hj z
    · rw [kj, ioN] at z
      cases z
      rw [hp] at e
      cases e⟩
  refine ⟨by simp [A.len], fun i j a oi oj ei ej ai aj ri rj => ?_, fun n ob e => ?_, fun q hq => (A.tb q hq).mono (fun ps e => by rw [upd_ne (ne_of_none e hp)]; exact e) fun c hc e => cc c _ hc e, fun q hq => by
    have := A.pre q hq
    rw [List.getElem?_append_left (List.getElem?_eq_some_iff.mp this).1]
    exact this, fun q hq => (A.cap q hq).mono0 (gr0_new hp), fun q hq => cc _ _ (A.co q hq).2 (A.co q hq).1⟩
  · rcases low ei with ⟨li, fi⟩ | ⟨ki, qi⟩ <;> rcases low ej with ⟨lj, fj⟩ | ⟨kj, qj⟩
    · rw [ioO li] at ai
      rw [ioO lj] at aj
      exact A.nd i j a oi oj fi fj ai aj ri rj
    · rw [ioO li] at ai
      rw [kj, ioN] at aj
      cases aj
      exact absurd ai (notp fi ri)
    · rw [ioO lj] at aj
      rw [ki, ioN] at ai
      cases ai
      exact absurd aj (notp fj rj)
    · rw [ki, kj]
  · rcases low e with ⟨ln, e⟩ | ⟨rfl, rfl⟩
    · obtain ⟨a, ha, r'⟩ := A.obj n ob e
      refine ⟨a, by rw [ioO ln]; exact ha, ?_⟩
      cases hr : ob.isRo with
      | true => exact r'.ro hr (gr0_new hp) fun x u hu => by rw [upd_ne (ne_of_none hu hp)]; exact hu
      | false => exact r'.mono (gr0_new hp) fun u hu => by rw [upd_ne (ne_of_none hu hp)]; exact hu
    · exact ⟨p, ioN, r⟩
/-- an object changed -/
theorem Abs.put (A : Abs K cl io S H) {n : Nat} {p : Addr} {ho : HO} {o o₀ : O} (hn : io[n]? = some p) (hS : S[n]? = some o₀) (hm : o₀.isRo = false) (hr : o.isRo = false) (r : RelO K cl io (upd H p ho) o p) : Abs K cl io (S.set n o) (upd H p ho) := by
  have mu : Wr (H p) := by
    obtain ⟨a, ha, r'⟩ := A.obj n o₀ hS
    rw [hn] at ha
    cases ha
    exact r'.wr hm
  have low : ∀ {j : Nat} {ob : O}, (S.set n o)[j]? = some ob → (j = n ∧ ob = o) ∨ (j ≠ n ∧ S[j]? = some ob) := fun {j ob} e => by
    by_cases hj : j = n
    · subst hj
      have hl : j < S.length := (List.getElem?_eq_some_iff.mp hS).1
      rw [List.getElem?_set_self hl] at e
      exact .inl ⟨rfl, (Option.some.inj e).symm⟩
    · rw [List.getElem?_set_ne (Ne.symm hj)] at e
      exact .inr ⟨hj, e⟩
  have ntb : ∀ ps, H p ≠ some (.tbl ps) := fun ps z => by
    obtain ⟨a, ha, r'⟩ := A.obj n o₀ hS
    rw [hn] at ha
    cases ha
    exact r'.ntbl hm ps z
  have cc : ∀ (c : Addr) (q : Str), NoIo io S c → H c = some (LamX.CodeO c q) → upd H p ho c = some (LamX.CodeO c q) ∧ NoIo io (S.set n o) c := fun c q hc e => ⟨by
    have : c ≠ p := fun z => hc n o₀ hS hm (by rw [z]; exact hn)
    rw [upd_ne this]; exact e, fun j ob ej hj z => by
      rcases low ej with ⟨kj, qj⟩ | ⟨_, fj⟩
      · rw [kj] at z
        exact hc n o₀ hS hm z
      · exact hc j ob fj hj z⟩
  refine ⟨by simp [A.len], fun i j a oi oj ei ej ai aj ri rj => ?_, fun j ob e => ?_, fun q hq => (A.tb q hq).mono (fun ps e => by
    have : q.1 ≠ p := fun z => ntb ps (by rw [← z]; exact e)
    rw [upd_ne this]; exact e) fun c hc e => cc c _ hc e, A.pre, fun q hq => (A.cap q hq).mono0 (gr0_upd (.inr mu)), fun q hq => cc _ _ (A.co q hq).2 (A.co q hq).1⟩
  · rcases low ei with ⟨ki, qi⟩ | ⟨_, fi⟩ <;> rcases low ej with ⟨kj, qj⟩ | ⟨_, fj⟩
    · rw [ki, kj]
    · subst ki
      exact A.nd _ _ a o₀ oj hS fj ai aj hm rj
    · subst kj
      exact A.nd _ _ a oi o₀ fi hS ai aj ri hm
    · exact A.nd _ _ a oi oj fi fj ai aj ri rj
  · rcases low e with ⟨rfl, rfl⟩ | ⟨hj, e⟩
    · exact ⟨p, hn, r⟩
    · obtain ⟨a, ha, r'⟩ := A.obj j ob e
      refine ⟨a, ha, ?_⟩
      cases hrb : ob.isRo with
      | true =>
        refine r'.ro hrb (gr0_upd (.inr mu)) fun x u hu => ?_
        have : a ≠ p := by
          rintro rfl
          rw [hu] at mu
          exact mu.elim (fun z => z) fun ⟨_, _, z, m⟩ => by cases z; exact m
        rw [upd_ne this]; exact hu
      | false =>
        refine r'.mono (gr0_upd (.inr mu)) fun u hu => ?_
        have : a ≠ p := by
          rintro rfl
          exact hj (A.nd _ _ a ob o₀ e hS ha hn hrb hm)
        rw [upd_ne this]; exact hu
end
end MP
/-! MP2 -/
set_option Elab.async false
set_option autoImplicit false
set_option linter.all false
set_option maxRecDepth 100000
namespace MP
open PySem PySem.Spec L2

theorem RelRho.get {K : PySem.W.Frag} {io : List Addr} {H : Hp} : ∀ {ρ : Rho} {σ : St} {i : Nat} {d : D}, RelRho K io H ρ σ → ρ[i]? = some (some d) → ∃ v, σ[i]? = some (some v) ∧ RelD K io H d v
  | _, _, _, _, .nil, e => by simp at e
  | o :: _, p :: _, 0, d, .cons r _, e => by
    simp only [List.getElem?_cons_zero, Option.some.injEq] at e
    subst e
    cases p with
    | none => exact False.elim r
    | some v => exact ⟨v, rfl, r⟩
  | _, _, i + 1, d, .cons _ t, e => by
    simp only [List.getElem?_cons_succ] at e ⊢
    exact RelRho.get t e
theorem RelRho.set {K : PySem.W.Frag} {io : List Addr} {H : Hp} {d : D} {v : V} (r : RelD K io H d v) : ∀ {ρ : Rho} {σ : St} (i : Nat), RelRho K io H ρ σ → RelRho K io H (ρ.set i (some d)) (σ.set i (some v))
  | _, _, _, .nil => by simpa using Paired.nil
  | _, _, 0, .cons _ t => by simpa using Paired.cons (show RelC K io H (some d) (some v) from r) t
  | _, _, i + 1, .cons h t => by simpa using Paired.cons h (RelRho.set r i t)
theorem RelRho.setN {K : PySem.W.Frag} {io : List Addr} {H : Hp} {w : Option V} : ∀ {ρ : Rho} {σ : St} (i : Nat), RelRho K io H ρ σ → RelRho K io H (ρ.set i none) (σ.set i w)
  | _, _, _, .nil => by simpa using Paired.nil
  | _, _, 0, .cons _ t => by simpa using Paired.cons (show RelC K io H none w from trivial) t
  | _, _, i + 1, .cons h t => by simpa using Paired.cons h (RelRho.setN i t)
theorem RelRho.length {K : PySem.W.Frag} {io : List Addr} {H : Hp} {ρ : Rho} {σ : St} (r : RelRho K io H ρ σ) : ρ.length = σ.length := Paired.length r

def RelX (K : PySem.W.Frag) (cl : Cl) (io : List Addr) (H : Hp) (x : Exn) (c : Value) (d : Option Addr) : Prop :=
  ∃ C, cl.er x.cls = some C ∧ c = .ref C ∧ ((x.fs = [] ∧ d = none) ∨ ∃ dd ws, d = some dd ∧ H dd = some (.xd ws) ∧ RelFs K io H x.fs ws)

/-- the result is fine: it is covered, and an exception is one that is wished for -/
def Good (W : WX) (K : PySem.W.Frag) (cl : Cl) (io : List Addr) (H : Hp) (σ : St) {α : Type} : Rs α → Prop
  | .ok _ _ => True
  | .exn x S' => ∀ io' H' c d, Abs K cl io' S' H' → Grow K io H io' H' → RelX K cl io' H' x c d → W c d σ H'
  | .bad => False
section
variable {W : WX} {K : PySem.W.Frag} {cl : Cl} {io io' : List Addr} {H H' : Hp} {σ : St} {α β : Type}
theorem Good.mono {r : Rs α} (g : Grow K io H io' H') (h : Good W K cl io H σ r) : Good W K cl io' H' σ r := by
  cases r with
  | ok _ _ => trivial
  | exn x S' => exact fun io2 H2 c d a g' r => h io2 H2 c d a (g.trans g') r
  | bad => exact h
theorem Good.fst {r : Rs α} {f : α → Sto → Rs β} (h : Good W K cl io H σ (r.bind f)) : Good W K cl io H σ r := by
  cases r with
  | ok _ _ => trivial
  | exn x S' => exact h
  | bad => exact h
end

section
variable {X : Cx} {cl : Cl} {W : WX}
/-- what is known behind an expression -/
def EvP (X : Cx) (cl : Cl) (pins : List (Addr × Obj)) (σ : St) (io : List Addr) (H : Hp) (r : Rs D) (u : Value) (s' : Shared) : Prop :=
  ∃ d S' io' H' v, r = .ok d S' ∧ Inv X pins σ H' s' ∧ Abs X.K cl io' S' H' ∧ Grow X.K io H io' H' ∧ RelD X.K io' H' d v ∧ RelV v u
theorem EvP.back {pins : List (Addr × Obj)} {σ : St} {io io1 : List Addr} {H H1 : Hp} {r : Rs D} {u : Value} {s' : Shared} (g : Grow X.K io H io1 H1) (h : EvP X cl pins σ io1 H1 r u s') : EvP X cl pins σ io H r u s' := by
  obtain ⟨d, S', io', H', v, e, I, A, g', rd, rv⟩ := h
  exact ⟨d, S', io', H', v, e, I, A, g.trans g', rd, rv⟩
/-- the expression e computes m -/
structure EvE (X : Cx) (cl : Cl) (W : WX) (e : Expr) (m : M D) : Prop where
  run : ∀ (pins : List (Addr × Obj)) (s : Shared) (σ : St) (H : Hp) (io : List Addr) (ρ : Rho) (S : Sto), Inv X pins σ H s → Abs X.K cl io S H → RelRho X.K io H ρ σ → Good W X.K cl io H σ (m ρ S) →
    wpAny (model X.prog X.w) X.A (eval e X.env) (EvP X cl pins σ io H (m ρ S)) X.xe s
def tE (cl : Cl) (K : PySem.W.Frag) (W : WX) (m : M D) : TE := fun σ H Q =>
  ∃ io ρ S, Abs K cl io S H ∧ RelRho K io H ρ σ ∧ Good W K cl io H σ (m ρ S) ∧
    ∀ d S' io' H' v, m ρ S = .ok d S' → Abs K cl io' S' H' → Grow K io H io' H' → RelD K io' H' d v → Q v H'
theorem EvE.pe {e : Expr} {m : M D} (h : EvE X cl W e m) : PE X e (tE cl X.K W m) := by
  refine ⟨fun pins s σ H Q I ⟨io, ρ, S, A, R, G, k⟩ => ?_⟩
  refine thn (h.run pins s σ H io ρ S I A R G) fun u s' ⟨d, S', io', H', v, e, I', A', g, rd, rv⟩ => ?_
  exact ⟨v, H', I', rv, k d S' io' H' v e A' g rd⟩
theorem EvE.of_pe {e : Expr} {m : M D} {t : TE} (h : PE X e t)
    (k : ∀ σ H io ρ S, Abs X.K cl io S H → RelRho X.K io H ρ σ → Good W X.K cl io H σ (m ρ S) → t σ H fun v H' => ∃ d S' io', m ρ S = .ok d S' ∧ Abs X.K cl io' S' H' ∧ Grow X.K io H io' H' ∧ RelD X.K io' H' d v) : EvE X cl W e m := by
  refine ⟨fun pins s σ H io ρ S I A R G => ?_⟩
  refine thn (h.run pins s σ H _ I (k σ H io ρ S A R G)) fun u s' ⟨v, H', I', rv, d, S', io', e, A', g, rd⟩ => ?_
  exact ⟨d, S', io', H', v, e, I', A', g, rd, rv⟩

/-! tests -/
def TvP (X : Cx) (cl : Cl) (pins : List (Addr × Obj)) (σ : St) (io : List Addr) (H : Hp) (r : Rs Bool) (b : Bool) (s' : Shared) : Prop :=
  ∃ S' io' H', r = .ok b S' ∧ Inv X pins σ H' s' ∧ Abs X.K cl io' S' H' ∧ Grow X.K io H io' H'
theorem TvP.back {pins : List (Addr × Obj)} {σ : St} {io io1 : List Addr} {H H1 : Hp} {r : Rs Bool} {u : Bool} {s' : Shared} (g : Grow X.K io H io1 H1) (h : TvP X cl pins σ io1 H1 r u s') : TvP X cl pins σ io H r u s' := by
  obtain ⟨S', io', H', e, I, A, g'⟩ := h
  exact ⟨S', io', H', e, I, A, g.trans g'⟩
/-- as a test, whatever the value's own run is -/
structure EvW (X : Cx) (cl : Cl) (W : WX) (e : Expr) (m : M Bool) : Prop where
  run : ∀ (whole : Sem Value) (pins : List (Addr × Obj)) (s : Shared) (σ : St) (H : Hp) (io : List Addr) (ρ : Rho) (S : Sto), Inv X pins σ H s → Abs X.K cl io S H → RelRho X.K io H ρ σ → Good W X.K cl io H σ (m ρ S) →
    wpAny (model X.prog X.w) X.A (isTrue e X.env whole) (TvP X cl pins σ io H (m ρ S)) X.xe s
structure EvT (X : Cx) (cl : Cl) (W : WX) (e : Expr) (m : M Bool) : Prop where
  run : ∀ (pins : List (Addr × Obj)) (s : Shared) (σ : St) (H : Hp) (io : List Addr) (ρ : Rho) (S : Sto), Inv X pins σ H s → Abs X.K cl io S H → RelRho X.K io H ρ σ → Good W X.K cl io H σ (m ρ S) →
    wpAny (model X.prog X.w) X.A (isTrue e X.env (eval e X.env)) (TvP X cl pins σ io H (m ρ S)) X.xe s
theorem EvW.t {e : Expr} {m : M Bool} (h : EvW X cl W e m) : EvT X cl W e m := ⟨h.run _⟩
def tT (cl : Cl) (K : PySem.W.Frag) (W : WX) (m : M Bool) : TT := fun σ H Q =>
  ∃ io ρ S, Abs K cl io S H ∧ RelRho K io H ρ σ ∧ Good W K cl io H σ (m ρ S) ∧
    ∀ b S' io' H', m ρ S = .ok b S' → Abs K cl io' S' H' → Grow K io H io' H' → Q b H'
theorem EvT.pt {e : Expr} {m : M Bool} (h : EvT X cl W e m) : PT X e (tT cl X.K W m) := by
  refine ⟨fun pins s σ H Q I ⟨io, ρ, S, A, R, G, k⟩ => ?_⟩
  refine thn (h.run pins s σ H io ρ S I A R G) fun u s' ⟨S', io', H', e, I', A', g⟩ => ?_
  exact ⟨H', I', k u S' io' H' e A' g⟩

/-! lists of expressions -/
def AvP (X : Cx) (cl : Cl) (pins : List (Addr × Obj)) (σ : St) (io : List Addr) (H : Hp) (r : Rs (List D)) (us : List Value) (s' : Shared) : Prop :=
  ∃ ds S' io' H' vs, r = .ok ds S' ∧ Inv X pins σ H' s' ∧ Abs X.K cl io' S' H' ∧ Grow X.K io H io' H' ∧ RelDs X.K io' H' ds vs ∧ Vals vs us
structure EvA (X : Cx) (cl : Cl) (W : WX) (es : List Expr) (m : M (List D)) : Prop where
  run : ∀ (pos : Pos) (pins : List (Addr × Obj)) (s : Shared) (σ : St) (H : Hp) (io : List Addr) (ρ : Rho) (S : Sto), Inv X pins σ H s → Abs X.K cl io S H → RelRho X.K io H ρ σ → Good W X.K cl io H σ (m ρ S) →
    wpAny (model X.prog X.w) X.A (spliced (backTo pos (starEach es X.env))) (AvP X cl pins σ io H (m ρ S)) X.xe s
def tA (cl : Cl) (K : PySem.W.Frag) (W : WX) (m : M (List D)) : TA := fun σ H Q =>
  ∃ io ρ S, Abs K cl io S H ∧ RelRho K io H ρ σ ∧ Good W K cl io H σ (m ρ S) ∧
    ∀ ds S' io' H' vs, m ρ S = .ok ds S' → Abs K cl io' S' H' → Grow K io H io' H' → RelDs K io' H' ds vs → Q vs H'
theorem EvA.pa {es : List Expr} {m : M (List D)} (h : EvA X cl W es m) : PA X es (tA cl X.K W m) := by
  refine ⟨fun pos pins s σ H Q I ⟨io, ρ, S, A, R, G, k⟩ => ?_⟩
  refine thn (h.run pos pins s σ H io ρ S I A R G) fun u s' ⟨d, S', io', H', v, e, I', A', g, rd, rv⟩ => ?_
  exact ⟨v, H', I', rv, k d S' io' H' v e A' g rd⟩

/-! ### values in, values out -/
abbrev F1 := D → Sto → Rs D
abbrev F2 := D → D → Sto → Rs D
abbrev FL := List D → Sto → Rs D
/-- an operation of two values -/
def OpS (X : Cx) (cl : Cl) (W : WX) (f : Value → Value → Sem Value) (g : F2) : Prop :=
  ∀ (pins : List (Addr × Obj)) (s : Shared) (σ : St) (H : Hp) (io : List Addr) (S : Sto) (x y : D) (vx vy : V) (u v : Value), Inv X pins σ H s → Abs X.K cl io S H → RelD X.K io H x vx → RelV vx u → RelD X.K io H y vy → RelV vy v →
    Good W X.K cl io H σ (g x y S) → wpAny (model X.prog X.w) X.A (f u v) (EvP X cl pins σ io H (g x y S)) X.xe s
/-- an operation of one value -/
def UnS (X : Cx) (cl : Cl) (W : WX) (f : Value → Sem Value) (g : F1) : Prop :=
  ∀ (pins : List (Addr × Obj)) (s : Shared) (σ : St) (H : Hp) (io : List Addr) (S : Sto) (x : D) (vx : V) (u : Value), Inv X pins σ H s → Abs X.K cl io S H → RelD X.K io H x vx → RelV vx u →
    Good W X.K cl io H σ (g x S) → wpAny (model X.prog X.w) X.A (f u) (EvP X cl pins σ io H (g x S)) X.xe s
/-- a call of a value -/
def CaS (X : Cx) (cl : Cl) (W : WX) (f : Value) (g : FL) : Prop :=
  ∀ (pins : List (Addr × Obj)) (s : Shared) (σ : St) (H : Hp) (io : List Addr) (S : Sto) (xs : List D) (vs : List V) (us : List Value), Inv X pins σ H s → Abs X.K cl io S H → RelDs X.K io H xs vs → Vals vs us →
    Good W X.K cl io H σ (g xs S) → wpAny (model X.prog X.w) X.A (call f us) (EvP X cl pins σ io H (g xs S)) X.xe s

/-! ### one after the other -/
section
variable {pins : List (Addr × Obj)} {s : Shared} {σ : St} {H : Hp} {io : List Addr} {ρ : Rho} {S : Sto} {α β : Type}
/-- a first expression, then what needs its value -/
theorem EvE.bind {e : Expr} {m : M D} (h : EvE X cl W e m) {f : D → Sto → Rs β} {Q : Value → Shared → Prop} (I : Inv X pins σ H s) (A : Abs X.K cl io S H) (R : RelRho X.K io H ρ σ) (G : Good W X.K cl io H σ ((m ρ S).bind f))
    (k : ∀ d S1 io1 H1 v u s1, m ρ S = .ok d S1 → Inv X pins σ H1 s1 → Abs X.K cl io1 S1 H1 → Grow X.K io H io1 H1 → RelRho X.K io1 H1 ρ σ → RelD X.K io1 H1 d v → RelV v u → Good W X.K cl io1 H1 σ (f d S1) → Q u s1) :
    wpAny (model X.prog X.w) X.A (eval e X.env) Q X.xe s := by
  refine thn (h.run pins s σ H io ρ S I A R G.fst) fun u s1 ⟨d, S1, io1, H1, v, e1, I1, A1, g1, rd, rv⟩ => ?_
  refine k d S1 io1 H1 v u s1 e1 I1 A1 g1 (RelRho.mono g1 R) rd rv ?_
  rw [e1] at G
  exact Good.mono g1 G
theorem EvT.bind {e : Expr} {m : M Bool} (h : EvT X cl W e m) {f : Bool → Sto → Rs β} {Q : Bool → Shared → Prop} (I : Inv X pins σ H s) (A : Abs X.K cl io S H) (R : RelRho X.K io H ρ σ) (G : Good W X.K cl io H σ ((m ρ S).bind f))
    (k : ∀ b S1 io1 H1 s1, m ρ S = .ok b S1 → Inv X pins σ H1 s1 → Abs X.K cl io1 S1 H1 → Grow X.K io H io1 H1 → RelRho X.K io1 H1 ρ σ → Good W X.K cl io1 H1 σ (f b S1) → Q b s1) :
    wpAny (model X.prog X.w) X.A (isTrue e X.env (eval e X.env)) Q X.xe s := by
  refine thn (h.run pins s σ H io ρ S I A R G.fst) fun u s1 ⟨S1, io1, H1, e1, I1, A1, g1⟩ => ?_
  refine k u S1 io1 H1 s1 e1 I1 A1 g1 (RelRho.mono g1 R) ?_
  rw [e1] at G
  exact Good.mono g1 G
theorem EvA.bind {es : List Expr} {pos : Pos} {m : M (List D)} (h : EvA X cl W es m) {f : List D → Sto → Rs β} {Q : List Value → Shared → Prop} (I : Inv X pins σ H s) (A : Abs X.K cl io S H) (R : RelRho X.K io H ρ σ) (G : Good W X.K cl io H σ ((m ρ S).bind f))
    (k : ∀ ds S1 io1 H1 vs us s1, m ρ S = .ok ds S1 → Inv X pins σ H1 s1 → Abs X.K cl io1 S1 H1 → Grow X.K io H io1 H1 → RelRho X.K io1 H1 ρ σ → RelDs X.K io1 H1 ds vs → Vals vs us → Good W X.K cl io1 H1 σ (f ds S1) → Q us s1) :
    wpAny (model X.prog X.w) X.A (spliced (backTo pos (starEach es X.env))) Q X.xe s := by
  refine thn (h.run pos pins s σ H io ρ S I A R G.fst) fun u s1 ⟨d, S1, io1, H1, v, e1, I1, A1, g1, rd, rv⟩ => ?_
  refine k d S1 io1 H1 v u s1 e1 I1 A1 g1 (RelRho.mono g1 R) rd rv ?_
  rw [e1] at G
  exact Good.mono g1 G
end
end
end MP
/-! MP3 -/
set_option Elab.async false
set_option autoImplicit false
set_option linter.all false
set_option maxRecDepth 100000
namespace MP
open PySem PySem.Spec L2
open PyProof.Rows hiding St

/-! ## names, constants, tests, operators -/
def mVar (i : Nat) : M D := fun ρ S => match ρ[i]? with
  | some (some d) => .ok d S
  | _ => .bad
def mC (d : D) : M D := fun _ S => .ok d S
def mStr (x : Str) : M D := fun _ S => if okS x then .ok (.str x) S else .bad
def truD (S : Sto) : D → Option Bool
  | .non => some false
  | .bl b => some b
  | .int i => some (i != 0)
  | .str s => some ((s.length : Int) != 0)
  | .tup ds => some (!ds.isEmpty)
  | .ptr n => match S[n]? with
    | some (.lst ds) => some (!ds.isEmpty)
    | some (.rol ds) => some (!ds.isEmpty)
    | some (.dct kvs) => some (!kvs.isEmpty)
    | _ => none
def tru : D → Sto → Rs Bool := fun d S => match truD S d with
  | some b => .ok b S
  | none => .bad
def mTru (m : M D) : M Bool := fun ρ S => (m ρ S).bind tru
/-- a test whose value is a bool already -/
def blOf : D → Sto → Rs Bool
  | .bl b, S => .ok b S
  | _, _ => .bad
def mBl (m : M D) : M Bool := fun ρ S => (m ρ S).bind blOf
def mBin (g : F2) (a b : M D) : M D := fun ρ S => (a ρ S).bind fun x S1 => (b ρ S1).bind fun y S2 => g x y S2
def mUn (g : F1) (a : M D) : M D := fun ρ S => (a ρ S).bind fun x S1 => g x S1
def mIf {α : Type} (t : M Bool) (a b : M α) : M α := fun ρ S => (t ρ S).bind fun c S1 => if c = true then a ρ S1 else b ρ S1
def mNotT (t : M Bool) : M Bool := fun ρ S => (t ρ S).bind fun c S1 => .ok (!c) S1
def mAndT (a b : M Bool) : M Bool := fun ρ S => (a ρ S).bind fun c S1 => if c = true then b ρ S1 else .ok false S1
def mOrT (a b : M Bool) : M Bool := fun ρ S => (a ρ S).bind fun c S1 => if c = true then .ok true S1 else b ρ S1
/-- a and b, a or b as values -/
def mAndV (a b : M D) : M D := fun ρ S => (a ρ S).bind fun x S1 => (tru x S1).bind fun c S2 => if c = true then b ρ S2 else .ok x S2
def mOrV (a b : M D) : M D := fun ρ S => (a ρ S).bind fun x S1 => (tru x S1).bind fun c S2 => if c = true then .ok x S2 else b ρ S2
def mNotV (a : M D) : M D := fun ρ S => (a ρ S).bind fun x S1 => (tru x S1).bind fun c S2 => .ok (.bl (!c)) S2
/-- a op b op' c -/
def mChain (g g' : F2) (a b c : M D) : M D := fun ρ S => (a ρ S).bind fun x S1 => (b ρ S1).bind fun y S2 => (g x y S2).bind fun z S3 => (blOf z S3).bind fun k S4 =>
  if k = true then (c ρ S4).bind fun w S5 => g' y w S5 else .ok (.bl false) S4
def mNil : M (List D) := fun _ S => .ok [] S
def mCons (a : M D) (r : M (List D)) : M (List D) := fun ρ S => (a ρ S).bind fun x S1 => (r ρ S1).bind fun xs S2 => .ok (x :: xs) S2

section
variable {X : Cx} {cl : Cl} {W : WX} {pos : Pos}
theorem tru_rel {K : PySem.W.Frag} {io : List Addr} {S : Sto} {H : Hp} {d : D} {v : V} {b : Bool} (A : Abs K cl io S H) (r : RelD K io H d v) (h : truD S d = some b) : TruV K v H b := by
  cases r with
  | non => simp only [truD, Option.some.injEq] at h; exact h.symm
  | bl c => simp only [truD, Option.some.injEq] at h; exact h.symm
  | int i => simp only [truD, Option.some.injEq] at h; exact h.symm
  | str x hx => simp only [truD, Option.some.injEq] at h; exact ⟨hx.1, h.symm⟩
  | @tup a ds vs q rs =>
    simp only [truD, Option.some.injEq] at h
    refine .inr (.inl ⟨vs, q, ?_⟩)
    rw [← h]
    cases rs <;> rfl
  | @ptr n a q =>
    simp only [truD] at h
    cases e : S[n]? with
    | none => rw [e] at h; cases h
    | some o =>
      obtain ⟨a', qa, r⟩ := A.obj n o e
      rw [q] at qa
      cases qa
      rw [e] at h
      cases r with
      | @lst _ ds vs hH rs =>
        simp only [Option.some.injEq] at h
        refine .inl ⟨vs, SqL.of hH, ?_⟩
        rw [← h]
        cases rs <;> rfl
      | @rol _ ds vs hH rs =>
        simp only [Option.some.injEq] at h
        refine .inl ⟨vs, hH.sq, ?_⟩
        rw [← h]
        cases rs <;> rfl
      | @dct _ kvs ws hH rs =>
        simp only [Option.some.injEq] at h
        refine .inr (.inr ⟨ws, hH, ?_⟩)
        rw [← h]
        cases rs <;> rfl
      | ins _ _ _ => simp at h
      | exc _ _ _ => simp at h
      | lam => simp at h
      | rod _ _ => simp at h
      | vw _ _ => simp at h
      | dkt _ _ _ _ _ => simp at h
      | rkt _ _ _ _ _ => simp at h
/-- the truth of a value -/
theorem tru_run {A₀ : Around} {E : Value → Shared → Prop} {pins : List (Addr × Obj)} {s : Shared} {σ : L2.St} {H : Hp} {io : List Addr} {S : Sto} {d : D} {v : V} {u : Value} (I : Inv X pins σ H s) (A : Abs X.K cl io S H) (rd : RelD X.K io H d v) (rv : RelV v u)
    (G : Good W X.K cl io H σ (tru d S)) : wpAny (model X.prog X.w) X.A (truthy u) (TvP X cl pins σ io H (tru d S)) X.xe s := by
  unfold tru at G ⊢
  cases h : truD S d with
  | none => rw [h] at G; exact False.elim G
  | some b =>
    refine thn (tru_ok pins s σ H v u (fun k H' => H' = H ∧ k = b) I rv ⟨b, tru_rel A rd h, rfl, rfl⟩) fun k s' ⟨H', I', e, ek⟩ => ?_
    subst e; subst ek
    exact ⟨S, io, H', rfl, I', A, Grow.rfl'⟩

theorem ev_var {i : Nat} {x : Str} (hN : X.N[i]? = some x) (hv : Vis X.env.scope x) (hd : (x == ("__debug__" : Str)) = false) (hcd : (x == ("__classdict__" : Str)) = false) : EvE X cl W (.Name x pos) (mVar i) := by
  refine EvE.of_pe (pe_var hN hv hd hcd) fun σ H io ρ S A R G => ?_
  unfold mVar at G ⊢
  cases e : ρ[i]? with
  | none => rw [e] at G; exact False.elim G
  | some o =>
    cases o with
    | none => rw [e] at G; exact False.elim G
    | some d =>
      obtain ⟨v, hv', rd⟩ := R.get e
      exact ⟨v, hv', d, S, io, rfl, A, Grow.rfl', rd⟩
theorem ev_int {i : Int} {j : Nat} : EvE X cl W (.Constant (.int i) j pos) (mC (.int i)) := EvE.of_pe pe_int fun σ H io ρ S A R G => ⟨_, S, io, rfl, A, Grow.rfl', .int i⟩
theorem ev_bl {b : Bool} {j : Nat} : EvE X cl W (.Constant (.bool b) j pos) (mC (.bl b)) := EvE.of_pe pe_bl fun σ H io ρ S A R G => ⟨_, S, io, rfl, A, Grow.rfl', .bl b⟩
theorem ev_non {j : Nat} : EvE X cl W (.Constant .none j pos) (mC .non) := EvE.of_pe pe_non fun σ H io ρ S A R G => ⟨_, S, io, rfl, A, Grow.rfl', .non⟩
theorem ev_str {x : Str} {j : Nat} : EvE X cl W (.Constant (.str x) j pos) (mStr x) := by
  refine EvE.of_pe pe_str fun σ H io ρ S A R G => ?_
  unfold mStr at G ⊢
  split at G
  · rename_i h
    exact ⟨_, S, io, by rw [if_pos h], A, Grow.rfl', .str x h⟩
  · exact False.elim G
theorem ev_bin {op : Operator} {a b : Expr} {ma mb : M D} {g : F2} (ho : OpS X cl W (binaryOp op) g) (ha : EvE X cl W a ma) (hb : EvE X cl W b mb) : EvE X cl W (.BinOp a op b pos) (mBin g ma mb) := by
  refine ⟨fun pins s σ H io ρ S I A R G => ?_⟩
  refine wpAny_BinOp (ha.bind I A R G fun x S1 io1 H1 vx u s1 e1 I1 A1 g1 R1 rx ru G1 => ?_)
  refine hb.bind I1 A1 R1 G1 fun y S2 io2 H2 vy v s2 e2 I2 A2 g2 R2 ry rv G2 => ?_
  refine thn (ho pins s2 σ H2 io2 S2 x y vx vy u v I2 A2 (rx.mono g2) ru ry rv G2) fun z s3 q => ?_
  have e : mBin g ma mb ρ S = g x y S2 := by unfold mBin; rw [e1, Rs.bind_ok, e2, Rs.bind_ok]
  rw [e]
  exact (q.back g2).back g1
/-- what is left behind a value that must be a bool -/
theorem bl_run {Q : Bool → Shared → Prop} {pins : List (Addr × Obj)} {σ : L2.St} {io : List Addr} {H : Hp} {r : Rs D} {u : Value} {s' : Shared} (q : EvP X cl pins σ io H r u s') (G : Good W X.K cl io H σ (r.bind blOf))
    (k : ∀ b S1 io1 H1, r = .ok (.bl b) S1 → Inv X pins σ H1 s' → Abs X.K cl io1 S1 H1 → Grow X.K io H io1 H1 → Q b s') : wpAny (model X.prog X.w) X.A (truthy u) Q X.xe s' := by
  obtain ⟨d, S1, io1, H1, v, e, I1, A1, g1, rd, rv⟩ := q
  rw [e, Rs.bind_ok] at G
  cases rd with
  | bl b =>
    obtain rfl : u = Value.bool b := rv
    exact wpAny_truthy_bool (k b S1 io1 H1 e I1 A1 g1)
  | _ => exact False.elim G
theorem et_cmp {op : CmpOp} {a b : Expr} {ma mb : M D} {g : F2} (ho : OpS X cl W (compareOp op) g) (ha : EvE X cl W a ma) (hb : EvE X cl W b mb) (hm : behindInMarks op b = false) : EvT X cl W (.Compare a [op] [b] pos) (mBl (mBin g ma mb)) := by
  refine ⟨fun pins s σ H io ρ S I A R G => ?_⟩
  have G0 : Good W X.K cl io H σ (mBin g ma mb ρ S) := Good.fst (f := blOf) G
  refine wpAny_isTrue_Compare1 (ha.bind I A R G0 fun x S1 io1 H1 vx u s1 e1 I1 A1 g1 R1 rx ru G1 => ?_) hm
  refine hb.bind I1 A1 R1 G1 fun y S2 io2 H2 vy v s2 e2 I2 A2 g2 R2 ry rv G2 => ?_
  have e : mBin g ma mb ρ S = g x y S2 := by unfold mBin; rw [e1, Rs.bind_ok, e2, Rs.bind_ok]
  refine thn (ho pins s2 σ H2 io2 S2 x y vx vy u v I2 A2 (rx.mono g2) ru ry rv G2) fun z s3 q => ?_
  have q' := (q.back g2).back g1
  rw [← e] at q'
  refine bl_run q' G fun k S3 io3 H3 e3 I3 A3 g3 => ⟨S3, io3, H3, ?_, I3, A3, g3⟩
  unfold mBl
  rw [e3]
  rfl
theorem et_val {e : Expr} {m : M D} (h : EvE X cl W e m) (he : ∀ whole, isTrue e X.env whole = (do let v ← whole; standAt e.pos; holding [v] (truthy v))) : EvT X cl W e (mTru m) := by
  refine ⟨fun pins s σ H io ρ S I A R G => ?_⟩
  refine isTrue_plain (h.bind I A R G fun x S1 io1 H1 vx u s1 e1 I1 A1 g1 R1 rx ru G1 => ?_) (he _)
  have e : mTru m ρ S = tru x S1 := by unfold mTru; rw [e1, Rs.bind_ok]
  refine thn (tru_run (A₀ := X.A) (E := X.xe) I1 A1 rx ru G1) fun b s2 q => ?_
  rw [e]
  exact q.back g1
theorem et_not {a : Expr} {m : M Bool} (h : EvT X cl W a m) : EvT X cl W (.UnaryOp .Not a pos) (mNotT m) := by
  refine ⟨fun pins s σ H io ρ S I A R G => ?_⟩
  refine isTrue_not (h.bind I A R G fun c S1 io1 H1 s1 e1 I1 A1 g1 R1 G1 => ⟨S1, io1, H1, ?_, I1, A1, g1⟩)
  unfold mNotT
  rw [e1, Rs.bind_ok]
theorem ew_and1 {a : Expr} {m : M Bool} (h : EvT X cl W a m) : EvW X cl W (.BoolOp .And [a] pos) m := by
  refine ⟨fun wh pins s σ H io ρ S I A R G => ?_⟩
  refine isTrue_and (thn (h.run pins s σ H io ρ S I A R G) fun c s1 q => ?_)
  cases c with
  | true => exact isTrue_and_nil q
  | false => exact q
theorem ew_or1 {a : Expr} {m : M Bool} (h : EvT X cl W a m) : EvW X cl W (.BoolOp .Or [a] pos) m := by
  refine ⟨fun wh pins s σ H io ρ S I A R G => ?_⟩
  refine isTrue_or (thn (h.run pins s σ H io ρ S I A R G) fun c s1 q => ?_)
  cases c with
  | false => exact isTrue_or_nil q
  | true => exact q
theorem ew_and {a b : Expr} {rest : List Expr} {ma mb : M Bool} (ha : EvT X cl W a ma) (hb : EvW X cl W (.BoolOp .And (b :: rest) pos) mb) : EvW X cl W (.BoolOp .And (a :: b :: rest) pos) (mAndT ma mb) := by
  refine ⟨fun wh pins s σ H io ρ S I A R G => ?_⟩
  refine isTrue_and (ha.bind I A R G fun c S1 io1 H1 s1 e1 I1 A1 g1 R1 G1 => ?_)
  have e : mAndT ma mb ρ S = if c = true then mb ρ S1 else .ok false S1 := by unfold mAndT; rw [e1, Rs.bind_ok]
  rw [e]
  cases c with
  | true =>
    rw [if_pos rfl] at G1 ⊢
    exact thn (hb.run wh pins s1 σ H1 io1 ρ S1 I1 A1 R1 G1) fun b s2 q => q.back g1
  | false => exact ⟨S1, io1, H1, by rw [if_neg Bool.false_ne_true], I1, A1, g1⟩
theorem ew_or {a b : Expr} {rest : List Expr} {ma mb : M Bool} (ha : EvT X cl W a ma) (hb : EvW X cl W (.BoolOp .Or (b :: rest) pos) mb) : EvW X cl W (.BoolOp .Or (a :: b :: rest) pos) (mOrT ma mb) := by
  refine ⟨fun wh pins s σ H io ρ S I A R G => ?_⟩
  refine isTrue_or (ha.bind I A R G fun c S1 io1 H1 s1 e1 I1 A1 g1 R1 G1 => ?_)
  have e : mOrT ma mb ρ S = if c = true then .ok true S1 else mb ρ S1 := by unfold mOrT; rw [e1, Rs.bind_ok]
  rw [e]
  cases c with
  | false =>
    rw [if_neg Bool.false_ne_true] at G1 ⊢
    exact thn (hb.run wh pins s1 σ H1 io1 ρ S1 I1 A1 R1 G1) fun b s2 q => q.back g1
  | true => exact ⟨S1, io1, H1, by rw [if_pos rfl], I1, A1, g1⟩
theorem ev_un {op : UnaryOp} {a : Expr} {m : M D} {g : F1} (ho : UnS X cl W (unaryOp op) g) (h : EvE X cl W a m) : EvE X cl W (.UnaryOp op a pos) (mUn g m) := by
  refine ⟨fun pins s σ H io ρ S I A R G => ?_⟩
  refine UnaryOp_ (h.bind I A R G fun x S1 io1 H1 vx u s1 e1 I1 A1 g1 R1 rx ru G1 => ?_)
  have e : mUn g m ρ S = g x S1 := by unfold mUn; rw [e1, Rs.bind_ok]
  rw [e]
  exact thn (ho pins s1 σ H1 io1 S1 x vx u I1 A1 rx ru G1) fun z s2 q => q.back g1
theorem ev_if {c a b : Expr} {mc : M Bool} {ma mb : M D} (hc : EvT X cl W c mc) (ha : EvE X cl W a ma) (hb : EvE X cl W b mb) : EvE X cl W (.IfExp c a b pos) (mIf mc ma mb) := by
  refine ⟨fun pins s σ H io ρ S I A R G => ?_⟩
  refine wpAny_IfExp (hc.bind I A R G fun d S1 io1 H1 s1 e1 I1 A1 g1 R1 G1 => ?_)
  have e : mIf mc ma mb ρ S = if d = true then ma ρ S1 else mb ρ S1 := by unfold mIf; rw [e1, Rs.bind_ok]
  rw [e]
  cases d with
  | true =>
    rw [if_pos rfl] at G1 ⊢
    exact thn (ha.run pins s1 σ H1 io1 ρ S1 I1 A1 R1 G1) fun b s2 q => q.back g1
  | false =>
    rw [if_neg Bool.false_ne_true] at G1 ⊢
    exact thn (hb.run pins s1 σ H1 io1 ρ S1 I1 A1 R1 G1) fun b s2 q => q.back g1
/-! ### lists of expressions, displays -/
theorem ea_nil : EvA X cl W [] mNil := ⟨fun _ pins s σ H io ρ S I A R G => Calls.spliced_nil ⟨[], S, io, H, [], rfl, I, A, Grow.rfl', .nil, .nil⟩⟩
theorem ea_cons {e : Expr} {es : List Expr} {m : M D} {r : M (List D)} (h : EvE X cl W e m) (hr : EvA X cl W es r) (hs : starEach (e :: es) X.env = (false, eval e X.env) :: starEach es X.env) : EvA X cl W (e :: es) (mCons m r) := by
  refine ⟨fun pos pins s σ H io ρ S I A R G => ?_⟩
  rw [hs]
  show wpAny _ _ (spliced ((false, eval e X.env) :: backTo pos (starEach es X.env))) _ _ s
  refine Calls.spliced_cons (h.bind I A R G fun x S1 io1 H1 vx u s1 e1 I1 A1 g1 R1 rx ru G1 => ?_)
  refine hr.bind I1 A1 R1 G1 fun xs S2 io2 H2 vs us s2 e2 I2 A2 g2 R2 rs rus G2 => ?_
  refine ⟨x :: xs, S2, io2, H2, vx :: vs, ?_, I2, A2, g1.trans g2, .cons (rx.mono g2) rs, .cons ru rus⟩
  unfold mCons
  rw [e1, Rs.bind_ok, e2, Rs.bind_ok]
end
end MP
/-! MP4 -/
set_option Elab.async false
set_option autoImplicit false
set_option linter.all false
set_option maxRecDepth 100000
namespace MP
open PySem PySem.Spec L2
open PyProof.Rows hiding St

/-! ## operators by values -/
def newL (ds : List D) : Sto → Rs D := fun S => .ok (.ptr S.length) (S ++ [.lst ds])
def listAt (S : Sto) (n : Nat) : Option (List D) := match S[n]? with
  | some (.lst ds) => some ds
  | some (.rol ds) => some ds
  | _ => none

/-- a dict, locked or not -/
def dctAt (S : Sto) (n : Nat) : Option (List (D × D)) := match S[n]? with
  | some (.dct kvs) => some kvs
  | some (.rod kvs) => some kvs
  | _ => none
section
variable {X : Cx} {cl : Cl} {W : WX} {pins : List (Addr × Obj)} {s : Shared} {σ : L2.St} {H : Hp} {io : List Addr} {S : Sto}
/-- what a rule of the hand layer is asked: the answer by res -/
abbrev AnsV (X : Cx) (cl : Cl) (io : List Addr) (H : Hp) (res : Rs D) : VK := fun v H' => ∃ d S' io', res = .ok d S' ∧ Abs X.K cl io' S' H' ∧ Grow X.K io H io' H' ∧ RelD X.K io' H' d v
theorem AnsV.here {d : D} {v : V} (A : Abs X.K cl io S H) (r : RelD X.K io H d v) : AnsV X cl io H (.ok d S) v H := ⟨d, S, io, rfl, A, Grow.rfl', r⟩
theorem AnsV.lst {ds : List D} {vs : List V} (A : Abs X.K cl io S H) (r : RelDs X.K io H ds vs) : ∀ p, H p = none → AnsV X cl io H (newL ds S) (.ref p) (upd H p (.lst vs)) := fun p hp => by
  have g : Grow X.K io H (io ++ [p]) (upd H p (.lst vs)) := grow_new hp
  refine ⟨_, _, _, rfl, A.new hp (.lst upd_same (r.mono g)), g, .ptr ?_⟩
  rw [List.getElem?_append_right (by rw [A.len]; exact Nat.le_refl _), A.len]
  simp
theorem AnsV.tup {ds : List D} {vs : List V} (A : Abs X.K cl io S H) (r : RelDs X.K io H ds vs) (hn : ds.all D.isP2 = false) : ∀ p, H p = none → AnsV X cl io H (.ok (.tup ds) S) (.ref p) (upd H p (.tup vs)) := fun p hp => by
  have g : Grow X.K io H io (upd H p (.tup vs)) := grow_upd (.inl hp)
  exact ⟨_, _, _, rfl, A.tup hp, g, .tup ⟨SqT.of upd_same, fun e => by rw [hn] at e; cases e⟩ (r.mono g)⟩
/-- a new tuple that has no dict of its own -/
theorem AnsV.tupF {ds : List D} {vs : List V} (A : Abs X.K cl io S H) (r : RelDs X.K io H ds vs) : ∀ (p : Addr) (ob : Obj), H p = none → ob.dict = none → AnsV X cl io H (.ok (.tup ds) S) (.ref p) (upd H p (.frz ob (.tup vs))) := fun p ob hp ho => by
  have g : Grow X.K io H io (upd H p (.frz ob (.tup vs))) := grow_upd (.inl hp)
  exact ⟨_, _, _, rfl, A.tup hp, g, .tup ⟨.inl (.inr ⟨ob, upd_same⟩), fun _ => .inl ⟨ob, vs, upd_same, ho⟩⟩ (r.mono g)⟩
theorem inv_newF {vs : List V} {us : List Value} (I : Inv X pins σ H s) (r : Vals vs us) (hz : vs.length ≤ sizeLine) : Inv X pins σ (upd H s.heap.objs.size (.frz { cls := .type "tuple", data := .seq us.toArray } (.tup vs))) { s with heap := s.heap.push { cls := .type "tuple", data := .seq us.toArray } } :=
  I.laid (t' := s.toks) (fun _ _ e => Heap.get?_push_of_some _ e) (Nat.le_refl _) ⟨Heap.get?_push_size _ rfl, hz, us, r, PyProof.Rows.IsTup.new _ _⟩
def rCatF (K : PySem.W.Frag) : R2 := fun x y H Q => ∃ a b xs ys, x = .ref a ∧ y = .ref b ∧ SqT K H a xs ∧ SqT K H b ys ∧ xs.length + ys.length ≤ sizeLine ∧
  (xs = [] → Q (.ref b) H) ∧ (xs ≠ [] → ys = [] → Q (.ref a) H) ∧ (xs ≠ [] → ys ≠ [] → ∀ p ob, H p = none → ob.dict = none → Q (.ref p) (upd H p (.frz ob (.tup (xs ++ ys)))))
theorem op_catF : OpR X (binaryOp .Add) (rCatF X.K) := by
  intro pins s σ H x y u v Q I rx ry h
  obtain ⟨a, b, xs, ys, rfl, rfl, ha, hb, hz, q0, q1, q2⟩ := h
  cases rx; cases ry
  obtain ⟨is, ra, pa, _⟩ := I.tuple ha
  obtain ⟨js, rb, pb, _⟩ := I.tuple hb
  by_cases hx : xs = []
  · subst hx
    cases ra
    exact cat_tup0 pa pb ⟨.ref b, _, I, rfl, q0 rfl⟩
  · refine HT.cat_tup pa pb (fun z => hx (ra.nil_iff.mp z)) (fun z => ⟨.ref a, _, I, rfl, q1 hx (rb.nil_iff.mp z)⟩) (fun z => ?_) (by rw [← ra.length, ← rb.length]; exact hz)
    exact ⟨.ref s.heap.objs.size, _, inv_newF I (ra.append rb) (by rw [List.length_append]; exact hz), rfl, q2 hx (fun w => z (rb.nil_iff.mpr w)) _ _ (I.hok.fresh (Nat.le_refl _)) rfl⟩
theorem AnsV.put {n : Nat} {p : Addr} {o o₀ : O} {ho : HO} {d : D} {v : V} (A : Abs X.K cl io S H) (hn : io[n]? = some p) (hS : S[n]? = some o₀) (hm : o₀.isRo = false) (hr : o.isRo = false) (mu : Mut (H p)) (r : RelO X.K cl io (upd H p ho) o p)
    (rd : RelD X.K io (upd H p ho) d v) : AnsV X cl io H (.ok d (S.set n o)) v (upd H p ho) := ⟨_, _, _, rfl, A.put hn hS hm hr r, grow_upd (.inr mu), rd⟩
theorem opr_use {f : Value → Value → Sem Value} {r : R2} {x y : V} {u v : Value} {res : Rs D} (h : OpR X f r) (I : Inv X pins σ H s) (ru : RelV x u) (rv : RelV y v) (k : r x y H (AnsV X cl io H res)) :
    wpAny (model X.prog X.w) X.A (f u v) (EvP X cl pins σ io H res) X.xe s := by
  refine thn (h pins s σ H x y u v _ I ru rv k) fun z s' ⟨w, H', I', rw', d, S', io', e, A', g', rd⟩ => ?_
  exact ⟨d, S', io', H', w, e, I', A', g', rd, rw'⟩
theorem ptr_obj {n : Nat} {a : Addr} {o : O} (A : Abs X.K cl io S H) (h : io[n]? = some a) (e : S[n]? = some o) : RelO X.K cl io H o a := by
  obtain ⟨a', h', r⟩ := A.obj n o e
  rw [h] at h'
  cases h'
  exact r
theorem ptr_list {n : Nat} {a : Addr} {ds : List D} (A : Abs X.K cl io S H) (h : io[n]? = some a) (e : listAt S n = some ds) : ∃ vs, SqL X.K H a vs ∧ RelDs X.K io H ds vs := by
  unfold listAt at e
  split at e
  · rename_i zs hz
    cases e
    cases ptr_obj A h hz with
    | lst hH r => exact ⟨_, SqL.of hH, r⟩
  · rename_i zs hz
    cases e
    cases ptr_obj A h hz with
    | rol hH r => exact ⟨_, hH.sq, r⟩
  · cases e
theorem ptr_dct {n : Nat} {a : Addr} {ds : List (D × D)} (A : Abs X.K cl io S H) (h : io[n]? = some a) (e : dctAt S n = some ds) : ∃ ws, Rd H a (.dK ws) ∧ RelKs X.K io H ds ws := by
  unfold dctAt at e
  split at e
  · rename_i zs hz
    cases e
    cases ptr_obj A h hz with
    | dct hH r => exact ⟨_, .inl hH, r⟩
  · rename_i zs hz
    cases e
    cases ptr_obj A h hz with
    | rod hH r => exact ⟨_, .inr ⟨_, hH⟩, r⟩
  · cases e
theorem dg_k {H : Hp} {a : Addr} {ws : List (Key × V)} {k : Key} (e : Rd H a (.dK ws)) : DGet H a (kV k) (valV ws k) := .inl ⟨ws, k, e, rfl, rfl⟩
end

/-! ### arithmetic -/
def addS : F2
  | .int i, .int j, S => .ok (.int (i + j)) S
  | .str a, .str b, S => if a.length + b.length ≤ sizeLine then .ok (.str (a ++ b)) S else .bad
  | .tup a, .tup b, S => if a.length + b.length ≤ sizeLine then .ok (.tup (a ++ b)) S else .bad
  | .ptr n, .ptr m, S => match S[n]?, S[m]? with
    | some (.lst a), some (.lst b) => if a.length + b.length ≤ sizeLine then newL (a ++ b) S else .bad
    | _, _ => .bad
  | _, _, _ => .bad
def subS : F2
  | .int i, .int j, S => .ok (.int (i - j)) S
  | _, _, _ => .bad
def mulS : F2
  | .int i, .int j, S => if (-(2 ^ 64) < i ∧ i < 2 ^ 64) ∨ (-(2 ^ 64) < j ∧ j < 2 ^ 64) then .ok (.int (i * j)) S else .bad
  | _, _, _ => .bad
def modS : F2
  | .int i, .int j, S => if 0 < j then .ok (.int (i % j)) S else .bad
  | _, _, _ => .bad
def fdivS : F2
  | .int i, .int j, S => if 0 < j ∧ j < 1073741824 then .ok (.int (i / j)) S else .bad
  | _, _, _ => .bad
def powS : F2
  | .int i, .int j, S => if 0 ≤ j ∧ j ≤ 1000000 ∧ i.natAbs < 2 ^ 64 then .ok (.int (i ^ j.toNat)) S else .bad
  | _, _, _ => .bad
def negS : F1
  | .int i, S => .ok (.int (-i)) S
  | _, _ => .bad

theorem okS_app {a b : Str} (ha : okS a) (hb : okS b) (h : a.length + b.length ≤ sizeLine) : okS (a ++ b) := by
  refine ⟨?_, ?_⟩
  · show (a.cps ++ b.cps).size ≤ sizeLine
    rw [Array.size_append]
    exact h
  · have h1 := ha.2
    have h2 := hb.2
    unfold PyData.strOk at *
    show (a.cps ++ b.cps).all _ = true
    rw [Array.all_append, h1, h2]
    rfl
section
variable {X : Cx} {cl : Cl} {W : WX}
theorem op_addS : OpS X cl W (binaryOp .Add) addS := by
  intro pins s σ H io S x y vx vy u v I A rx ru ry rv G
  cases rx with
  | int i =>
    cases ry with
    | int j => exact opr_use op_add I ru rv ⟨i, j, rfl, rfl, AnsV.here A (.int _)⟩
    | _ => exact False.elim G
  | str a ha =>
    cases ry with
    | str b hb =>
      simp only [addS] at G ⊢
      split at G
      · rename_i hz
        rw [if_pos hz]
        exact opr_use op_add_str I ru rv ⟨a, b, rfl, rfl, hz, AnsV.here A (.str _ (okS_app ha hb hz))⟩
      · exact False.elim G
    | _ => exact False.elim G
  | @tup p a va ha ra =>
    cases ry with
    | @tup q b vb hb rb =>
      simp only [addS] at G ⊢
      split at G
      · rename_i hz
        rw [if_pos hz]
        have hz' : va.length + vb.length ≤ sizeLine := by rw [← ra.length, ← rb.length]; exact hz
        refine opr_use op_catF I ru rv ⟨p, q, va, vb, rfl, rfl, ha, hb, hz', fun e => ?_, fun _ e => ?_, fun _ _ => AnsV.tupF A (ra.app rb)⟩
        · subst e
          cases ra
          exact AnsV.here A (.tup hb rb)
        · subst e
          cases rb
          rw [List.append_nil]
          exact AnsV.here A (.tup ha ra)
      · exact False.elim G
    | _ => exact False.elim G
  | @ptr n p hn =>
    cases ry with
    | @ptr m q hm =>
      simp only [addS] at G ⊢
      split at G
      · rename_i a b ea eb
        cases ptr_obj A hn ea with
        | lst ha ra =>
          cases ptr_obj A hm eb with
          | lst hb rb =>
            split at G
            · rename_i hz
              rw [if_pos hz]
              exact opr_use op_cat I ru rv ⟨p, q, _, _, rfl, rfl, ha, hb, by rw [← ra.length, ← rb.length]; exact hz, AnsV.lst A (ra.app rb)⟩
            · exact False.elim G
      · exact False.elim G
    | _ => exact False.elim G
  | _ => exact False.elim G
theorem op_mulS : OpS X cl W (binaryOp .Mult) mulS := by
  intro pins s σ H io S x y vx vy u v I A rx ru ry rv G
  cases rx with
  | int i =>
    cases ry with
    | int j =>
      simp only [mulS] at G ⊢
      split at G
      · rename_i hz
        rw [if_pos hz]
        exact opr_use op_mul I ru rv ⟨i, j, rfl, rfl, hz, AnsV.here A (.int _)⟩
      · exact False.elim G
    | _ => exact False.elim G
  | _ => exact False.elim G
theorem op_modS : OpS X cl W (binaryOp .Mod) modS := by
  intro pins s σ H io S x y vx vy u v I A rx ru ry rv G
  cases rx with
  | int i =>
    cases ry with
    | int j =>
      simp only [modS] at G ⊢
      split at G
      · rename_i hz
        rw [if_pos hz]
        exact opr_use op_mod I ru rv ⟨i, j, rfl, rfl, hz, AnsV.here A (.int _)⟩
      · exact False.elim G
    | _ => exact False.elim G
  | _ => exact False.elim G
theorem op_powS : OpS X cl W (binaryOp .Pow) powS := by
  intro pins s σ H io S x y vx vy u v I A rx ru ry rv G
  cases rx with
  | int i =>
    cases ry with
    | int j =>
      simp only [powS] at G ⊢
      split at G
      · rename_i hz
        rw [if_pos hz]
        exact opr_use op_pow I ru rv ⟨i, j, rfl, rfl, hz, AnsV.here A (.int _)⟩
      · exact False.elim G
    | _ => exact False.elim G
  | _ => exact False.elim G
theorem un_negS : UnS X cl W (unaryOp .USub) negS := by
  intro pins s σ H io S x vx u I A rx ru G
  cases rx with
  | int i =>
    refine thn (un_neg pins s σ H (.int i) u (AnsV X cl io H (.ok (.int (-i)) S)) I ru ⟨i, rfl, AnsV.here A (.int _)⟩) fun z s' ⟨w, H', I', rw', d, S', io', e, A', g', rd⟩ => ?_
    exact ⟨d, S', io', H', w, e, I', A', g', rd, rw'⟩
  | _ => exact False.elim G
end

/-! ### order of ints and texts -/
def strLt (a b : Str) : Bool := decide (a.cps.toList < b.cps.toList)
def ltS : F2
  | .int i, .int j, S => .ok (.bl (decide (i < j))) S
  | .str a, .str b, S => .ok (.bl (strLt a b)) S
  | _, _, _ => .bad
def leS : F2
  | .int i, .int j, S => .ok (.bl (decide (i ≤ j))) S
  | .str a, .str b, S => .ok (.bl (!strLt b a)) S
  | _, _, _ => .bad
def gtS : F2
  | .int i, .int j, S => .ok (.bl (decide (j < i))) S
  | .str a, .str b, S => .ok (.bl (strLt b a)) S
  | _, _, _ => .bad
def geS : F2
  | .int i, .int j, S => .ok (.bl (decide (j ≤ i))) S
  | .str a, .str b, S => .ok (.bl (!strLt a b)) S
  | _, _, _ => .bad
section
variable {X : Cx} {cl : Cl} {W : WX}
theorem op_ltS : OpS X cl W (compareOp .Lt) ltS := by
  intro pins s σ H io S x y vx vy u v I A rx ru ry rv G
  cases rx with
  | int i =>
    cases ry with
    | int j => exact opr_use op_lt I ru rv ⟨i, j, rfl, rfl, AnsV.here A (.bl _)⟩
    | _ => exact False.elim G
  | str a ha =>
    cases ry with
    | str b hb => exact opr_use op_lt_str I ru rv ⟨a, b, rfl, rfl, AnsV.here A (.bl _)⟩
    | _ => exact False.elim G
  | _ => exact False.elim G
theorem op_geS : OpS X cl W (compareOp .GtE) geS := by
  intro pins s σ H io S x y vx vy u v I A rx ru ry rv G
  cases rx with
  | int i =>
    cases ry with
    | int j => exact opr_use op_ge I ru rv ⟨i, j, rfl, rfl, AnsV.here A (.bl _)⟩
    | _ => exact False.elim G
  | str a ha =>
    cases ry with
    | str b hb => exact opr_use op_ge_str I ru rv ⟨a, b, rfl, rfl, AnsV.here A (.bl _)⟩
    | _ => exact False.elim G
  | _ => exact False.elim G
end

/-! ### equality of data, membership -/
/-- data as they are read: nested at most so deep -/
def view (S : Sto) : Nat → D → Option PyData
  | _, .non => some .none
  | _, .bl b => some (.bool b)
  | _, .int i => some (.int i)
  | _, .str x => some (.str x)
  | k + 1, .tup ds => (ds.mapM (view S k)).map .tuple
  | k + 1, .ptr n => match listAt S n with
    | some ds => (ds.mapM (view S k)).map .list
    | none => none
  | 0, .tup _ => none
  | 0, .ptr _ => none
def eqS : F2 := fun x y S => match view S 60 x, view S 60 y with
  | some p, some q => .ok (.bl (p.eqv q)) S
  | _, _ => .bad
def neS : F2 := fun x y S => match view S 60 x, view S 60 y with
  | some p, some q => .ok (.bl (!p.eqv q)) S
  | _, _ => .bad
def strIn (x z : Str) : Bool := match x.cps.toList with
  | [c] => decide (c ∈ z.cps.toList)
  | _ => !(Builtin.Str.occurrences z x 0 z.length 1).isEmpty
def keyD : D → Option Key
  | .int i => some (.inl i)
  | .str x => some (.inr x)
  | _ => none
/-- the value at a key -/
def dget (kvs : List (D × D)) (k : D) : Option D := (kvs.find? fun p => decide (p.1 = k)).map (·.2)
def inB : D → D → Sto → Option Bool
  | x, .str z, _ => match x with
    | .str y => some (strIn y z)
    | _ => none
  | x, .tup ds, S => match view S 59 x, ds.mapM (view S 58) with
    | some p, some qs => some (qs.any fun q => q.eqv p)
    | _, _ => none
  | x, .ptr n, S => match dctAt S n with
    | some kvs => match keyD x with
      | some _ => some (dget kvs x).isSome
      | none => none
    | none => match listAt S n with
      | some ds => match view S 59 x, ds.mapM (view S 58) with
        | some p, some qs => some (qs.any fun q => q.eqv p)
        | _, _ => none
      | none => none
  | _, _, _ => none
def inS : F2 := fun x y S => match inB x y S with
  | some b => .ok (.bl b) S
  | none => .bad
def ninS : F2 := fun x y S => match inB x y S with
  | some b => .ok (.bl (!b)) S
  | none => .bad
def isS : F2
  | x, .non, S => .ok (.bl (decide (x = .non))) S
  | .bl a, .bl b, S => .ok (.bl (decide (a = b))) S
  | _, _, _ => .bad
def isntS : F2
  | x, .non, S => .ok (.bl (!decide (x = .non))) S
  | .bl a, .bl b, S => .ok (.bl (!decide (a = b))) S
  | _, _, _ => .bad

theorem mapM_cons_some {α β : Type} {f : α → Option β} {a : α} {l : List α} {r : List β} (h : (a :: l).mapM f = some r) : ∃ b bs, r = b :: bs ∧ f a = some b ∧ l.mapM f = some bs := by
  rw [List.mapM_cons] at h
  cases ha : f a with
  | none => rw [ha] at h; cases h
  | some b =>
    rw [ha] at h
    cases hl : l.mapM f with
    | none => rw [hl] at h; cases h
    | some bs =>
      rw [hl] at h
      cases h
      exact ⟨b, bs, rfl, rfl, rfl⟩

section
variable {X : Cx} {cl : Cl} {W : WX} {io : List Addr} {S : Sto} {H : Hp}
/-- what the machine reads is the view -/
theorem view_dp (A : Abs X.K cl io S H) : ∀ (k : Nat) (d : D) (v : V) (p : PyData), view S k d = some p → RelD X.K io H d v → Dp X.K H v p ∧ p.canLay0 = true ∧ p.depth ≤ k
  | k, .non, _, p, h, r => by
    cases r
    simp only [view, Option.some.injEq] at h
    subst h
    exact ⟨.non, rfl, Nat.zero_le _⟩
  | k, .bl b, _, p, h, r => by
    cases r
    simp only [view, Option.some.injEq] at h
    subst h
    exact ⟨.bl b, rfl, Nat.zero_le _⟩
  | k, .int i, _, p, h, r => by
    cases r
    simp only [view, Option.some.injEq] at h
    subst h
    exact ⟨.int i, rfl, Nat.zero_le _⟩
  | k, .str x, _, p, h, r => by
    cases r with
    | str _ hx =>
      simp only [view, Option.some.injEq] at h
      subst h
      exact ⟨.str x, hx.2, Nat.zero_le _⟩
  | 0, .tup ds, _, p, h, r => by simp [view] at h
  | 0, .ptr n, _, p, h, r => by simp [view] at h
  | k + 1, .tup ds, _, p, h, r => by
    have all : ∀ (es : List D) (ws : List V) (qs : List PyData), es.mapM (view S k) = some qs → RelDs X.K io H es ws → DpAll X.K H ws qs ∧ PyData.canLayAll0 qs = true ∧ PyData.depthAll qs ≤ k := by
      intro es
      induction es with
      | nil =>
        intro ws qs hq hr
        cases hr
        simp at hq
        subst hq
        exact ⟨.nil, rfl, Nat.zero_le _⟩
      | cons e es ih =>
        intro ws qs hq hr
        cases hr with
        | cons r1 r2 =>
          obtain ⟨b, bs, rfl, h1, h2⟩ := mapM_cons_some hq
          obtain ⟨p1, p2, p3⟩ := view_dp A k e _ b h1 r1
          obtain ⟨q1, q2, q3⟩ := ih _ bs h2 r2
          refine ⟨.cons p1 q1, ?_, ?_⟩
          · show (PyData.canLay0 b && PyData.canLayAll0 bs) = true
            rw [p2, q2]
            rfl
          · show max (PyData.depth b) (PyData.depthAll bs) ≤ k
            omega
    cases r with
    | tup hq rs =>
      simp only [view] at h
      cases hm : ds.mapM (view S k) with
      | none => rw [hm] at h; cases h
      | some qs =>
        rw [hm] at h
        cases h
        obtain ⟨a1, a2, a3⟩ := all ds _ qs hm rs
        exact ⟨.tup hq a1, a2, Nat.succ_le_succ a3⟩
  | k + 1, .ptr n, _, p, h, r => by
    have all : ∀ (es : List D) (ws : List V) (qs : List PyData), es.mapM (view S k) = some qs → RelDs X.K io H es ws → DpAll X.K H ws qs ∧ PyData.canLayAll0 qs = true ∧ PyData.depthAll qs ≤ k := by
      intro es
      induction es with
      | nil =>
        intro ws qs hq hr
        cases hr
        simp at hq
        subst hq
        exact ⟨.nil, rfl, Nat.zero_le _⟩
      | cons e es ih =>
        intro ws qs hq hr
        cases hr with
        | cons r1 r2 =>
          obtain ⟨b, bs, rfl, h1, h2⟩ := mapM_cons_some hq
          obtain ⟨p1, p2, p3⟩ := view_dp A k e _ b h1 r1
          obtain ⟨q1, q2, q3⟩ := ih _ bs h2 r2
          refine ⟨.cons p1 q1, ?_, ?_⟩
          · show (PyData.canLay0 b && PyData.canLayAll0 bs) = true
            rw [p2, q2]
            rfl
          · show max (PyData.depth b) (PyData.depthAll bs) ≤ k
            omega
    cases r with
    | ptr hn =>
      simp only [view] at h
      cases hl : listAt S n with
      | none => rw [hl] at h; cases h
      | some ds =>
        rw [hl] at h
        simp only at h
        obtain ⟨vs, hq, rs⟩ := ptr_list A hn hl
        cases hm : ds.mapM (view S k) with
        | none => rw [hm] at h; cases h
        | some qs =>
          rw [hm] at h
          cases h
          obtain ⟨a1, a2, a3⟩ := all ds _ qs hm rs
          exact ⟨.lst hq a1, a2, Nat.succ_le_succ a3⟩
theorem shaped_of {p : PyData} (h1 : p.canLay0 = true) (h2 : p.depth ≤ 60) : SeqAt.shaped p = true := by
  unfold SeqAt.shaped
  rw [h1, Bool.true_and]
  exact decide_eq_true (by omega)
theorem op_eqS (hu : X.A.units + 65 < cLine) : OpS X cl W (compareOp .Eq) eqS := by
  intro pins s σ H io S x y vx vy u v I A rx ru ry rv G
  unfold eqS at G ⊢
  split at G
  · rename_i p q hp hq
    obtain ⟨p1, p2, p3⟩ := view_dp A 60 x vx p hp rx
    obtain ⟨q1, q2, q3⟩ := view_dp A 60 y vy q hq ry
    exact opr_use (op_eqD (by omega)) I ru rv ⟨p, q, p1, q1, shaped_of p2 p3, shaped_of q2 q3, AnsV.here A (.bl _)⟩
  · exact False.elim G
theorem op_neS (hu : X.A.units + 65 < cLine) : OpS X cl W (compareOp .NotEq) neS := by
  intro pins s σ H io S x y vx vy u v I A rx ru ry rv G
  unfold neS at G ⊢
  split at G
  · rename_i p q hp hq
    obtain ⟨p1, p2, p3⟩ := view_dp A 60 x vx p hp rx
    obtain ⟨q1, q2, q3⟩ := view_dp A 60 y vy q hq ry
    exact opr_use (op_neD (by omega)) I ru rv ⟨p, q, p1, q1, shaped_of p2 p3, shaped_of q2 q3, AnsV.here A (.bl _)⟩
  · exact False.elim G
theorem keyD_rel {x : D} {v : V} {k : Key} (h : keyD x = some k) (r : RelD X.K io H x v) : x = kD k ∧ v = kV k := by
  cases r with
  | int i => simp only [keyD, Option.some.injEq] at h; subst h; exact ⟨rfl, rfl⟩
  | str z _ => simp only [keyD, Option.some.injEq] at h; subst h; exact ⟨rfl, rfl⟩
  | _ => cases h
theorem keyD_ok {x : D} {v : V} {k : Key} (h : keyD x = some k) (r : RelD X.K io H x v) : okK k := by
  cases r with
  | int i => simp only [keyD, Option.some.injEq] at h; subst h; trivial
  | str z hz => simp only [keyD, Option.some.injEq] at h; subst h; exact hz
  | _ => cases h
theorem kD_inj {a b : Key} (e : kD a = kD b) : a = b := by
  cases a <;> cases b <;> simp [kD] at e ⊢ <;> exact e
/-- look-ups agree -/
theorem relKs_get {kvs : List (D × D)} {ws : List (Key × V)} (r : RelKs X.K io H kvs ws) (k : Key) :
    (dget kvs (kD k) = none ∧ valV ws k = none) ∨ ∃ d v, dget kvs (kD k) = some d ∧ valV ws k = some v ∧ RelD X.K io H d v := by
  induction r with
  | nil => exact .inl ⟨rfl, rfl⟩
  | @cons p q kvs ws h t ih =>
    obtain ⟨h1, _, h2⟩ := h
    by_cases e : q.1 = k
    · refine .inr ⟨p.2, q.2, ?_, valV_pos e, h2⟩
      simp [dget, List.find?_cons, h1, e]
    · have e' : ¬ p.1 = kD k := fun z => e (kD_inj (h1.symm.trans z))
      rw [valV_neg e]
      have : dget (p :: kvs) (kD k) = dget kvs (kD k) := by simp [dget, List.find?_cons, e']
      rw [this]
      exact ih
end
section
variable {X : Cx} {cl : Cl} {W : WX} {io : List Addr} {S : Sto} {H : Hp} {pins : List (Addr × Obj)} {s : Shared} {σ : L2.St}
end
end MP
/-! MP5 -/
set_option Elab.async false
set_option autoImplicit false
set_option linter.all false
set_option maxRecDepth 100000
namespace MP
open PySem PySem.Spec L2
open PyProof.Rows hiding St

/-! ## subscripts, slices, displays -/
def ixS : F2
  | .ptr n, k, S => match dctAt S n with
    | some kvs => match keyD k with
      | some _ => match dget kvs k with
        | some d => .ok d S
        | none => .bad
      | none => .bad
    | none => match listAt S n, k with
      | some ds, .int i => match atI ds i with
        | some d => .ok d S
        | none => .bad
      | _, _ => .bad
  | .tup ds, .int i, S => match atI ds i with
    | some d => .ok d S
    | none => .bad
  | .str z, .int i, S => match atI z.cps.toList i with
    | some c => .ok (.str ⟨#[c]⟩) S
    | none => .bad
  | _, _, _ => .bad
def cutD (ds : List D) (lo hi : Option Int) : List D := (ds.drop (HT.sIx ds.length 0 lo)).take (HT.sIx ds.length ds.length hi - HT.sIx ds.length 0 lo)
def slS : D → Option Int → Option Int → Sto → Rs D
  | .ptr n, lo, hi, S => match listAt S n with
    | some ds => newL (cutD ds lo hi) S
    | none => .bad
  | .tup ds, lo, hi, S => .ok (.tup (cutD ds lo hi)) S
  | .str z, lo, hi, S => .ok (.str (cutS z lo hi)) S
  | _, _, _, _ => .bad
abbrev MO := M (Option Int)
def mNoPart : MO := fun _ S => .ok none S
def intOf : D → Sto → Rs (Option Int)
  | .int i, S => .ok (some i) S
  | _, _ => .bad
def mPart (m : M D) : MO := fun ρ S => (m ρ S).bind intOf
def mSl (m : M D) (lo hi : MO) : M D := fun ρ S => (m ρ S).bind fun x S1 => (lo ρ S1).bind fun l S2 => (hi ρ S2).bind fun u S3 => slS x l u S3
def tupD : List D → Sto → Rs D := fun ds S => if ds.length ≤ sizeLine then .ok (.tup ds) S else .bad
def lstD : List D → Sto → Rs D := fun ds S => if ds.length ≤ sizeLine then newL ds S else .bad
def mDisp (g : List D → Sto → Rs D) (m : M (List D)) : M D := fun ρ S => (m ρ S).bind g
/-- the items of a starred value -/
def itemsOf : D → Sto → Option (List D)
  | .tup ds, _ => some ds
  | .ptr n, S => listAt S n
  | _, _ => none
def mStar (a : M D) (r : M (List D)) : M (List D) := fun ρ S => (a ρ S).bind fun x S1 => match itemsOf x S1 with
  | some ds => (r ρ S1).bind fun xs S2 => .ok (ds ++ xs) S2
  | none => .bad

section
variable {K : PySem.W.Frag} {io : List Addr} {H : Hp}
theorem RelDs.at {ds : List D} {vs : List V} (r : RelDs K io H ds vs) {i : Int} {d : D} (h : atI ds i = some d) : ∃ v, atI vs i = some v ∧ RelD K io H d v := by
  unfold atI at h ⊢
  rw [← r.length]
  cases e : ixN ds.length i with
  | none => rw [e] at h; cases h
  | some j =>
    rw [e] at h
    exact r.get h
theorem okS_sub {a b : Str} (h : okS a) (hl : b.length ≤ a.length) (hm : ∀ c ∈ b.cps.toList, c ∈ a.cps.toList) : okS b := by
  refine ⟨Nat.le_trans hl h.1, ?_⟩
  have h2 := h.2
  unfold PyData.strOk at *
  rw [← Array.all_toList] at *
  rw [List.all_eq_true] at *
  exact fun c hc => h2 c (hm c hc)
theorem okS_one {z : Str} (h : okS z) {c : Nat} (hc : c ∈ z.cps.toList) : okS ⟨#[c]⟩ := by
  refine okS_sub h ?_ fun d hd => ?_
  · show 1 ≤ z.cps.size
    rw [← Array.length_toList]
    exact List.length_pos_of_mem hc
  · have : d = c := by simpa using hd
    subst this
    exact hc
end

section
variable {X : Cx} {cl : Cl} {W : WX} {pos : Pos}
theorem ev_ix {a b : Expr} {ma mb : M D} (hu : X.A.units + 1 < cLine) (ha : EvE X cl W a ma) (hb : EvE X cl W b mb) (hs : PlainIx b) : EvE X cl W (.Subscript a b pos) (mBin ixS ma mb) := by
  refine ⟨fun pins s σ H io ρ S I A R G => ?_⟩
  refine Subscript_ (ha.bind I A R G fun x S1 io1 H1 vx u s1 e1 I1 A1 g1 R1 rx ru G1 => ?_)
  refine hb.bind I1 A1 R1 G1 fun y S2 io2 H2 vy v s2 e2 I2 A2 g2 Rq2 ry rv G2 => ?_
  have e : mBin ixS ma mb ρ S = ixS x y S2 := by unfold mBin; rw [e1, Rs.bind_ok, e2, Rs.bind_ok]
  rw [e]
  have gg := g1.trans g2
  have use : ∀ {r : R2} {res : Rs D}, IxR X r → r vx vy H2 (AnsV X cl io2 H2 res) → wpAny (model X.prog X.w) X.A (subscriptTail a b u v) (EvP X cl pins σ io H res) X.xe s2 := fun {r res} hr k => by
    refine thn (hr a b pins s2 σ H2 vx vy u v _ I2 ru rv k (hs _ _)) fun z s' ⟨w, H', I', rw', d, S', io', e, A', g', rd⟩ => ?_
    exact ⟨d, S', io', H', w, e, I', A', gg.trans g', rd, rw'⟩
  have rx2 := rx.mono g2
  cases rx2 with
  | @ptr n p hn =>
    simp only [ixS] at G2 ⊢
    split at G2
    · rename_i kvs hk
      split at G2
      · rename_i k hkey
        split at G2
        · rename_i d hd
          obtain ⟨ey, ev⟩ := keyD_rel hkey ry
          obtain ⟨ws, hH, rk⟩ := ptr_dct A2 hn hk
          · rw [ey] at hd
            rcases relKs_get rk k with ⟨h1, _⟩ | ⟨d', w, h1, h2, rd⟩
            · rw [h1] at hd; cases hd
            · rw [h1] at hd
              cases hd
              subst ev
              obtain rfl : u = Value.ref p := ru
              have g : DGet H2 p (kV k) (some w) := by rw [← h2]; exact dg_k hH
              refine tail_any (dict_typeIs I2 g) PySem.F.slot_dict_getitem.lookup (d_getItem hu I2 g rv fun w' s3 I3 rw' => ?_) (hs _ _)
              exact ⟨d, S2, io2, H2, w, by simp [hkey, h1], I3, A2, gg, rd, rw'⟩
        · exact False.elim G2
      · exact False.elim G2
    · split at G2
      · rename_i i hl
        split at G2
        · rename_i d hd
          cases ry with
          | int i =>
            obtain ⟨vs, hq, rs⟩ := ptr_list A2 hn hl
            obtain ⟨w, hw, rd⟩ := rs.at hd
            exact use ix_list ⟨p, vs, i, w, rfl, rfl, hq, hw, AnsV.here A2 rd⟩
        · exact False.elim G2
      · exact False.elim G2
  | @tup p ds vs hq rs =>
    cases ry with
    | int i =>
      simp only [ixS] at G2 ⊢
      split at G2
      · rename_i d hd
        obtain ⟨w, hw, rd⟩ := rs.at hd
        exact use ix_tup ⟨p, vs, i, w, rfl, rfl, hq, hw, AnsV.here A2 rd⟩
      · exact False.elim G2
    | _ => exact False.elim G2
  | str z hz =>
    cases ry with
    | int i =>
      simp only [ixS] at G2 ⊢
      split at G2
      · rename_i c hc
        refine use ix_str ⟨z, i, c, rfl, rfl, hz.1, hc, AnsV.here A2 (.str _ (okS_one hz ?_))⟩
        obtain ⟨j, _, h, _⟩ := atI_get hc
        exact List.mem_of_getElem? h
      · exact False.elim G2
    | _ => exact False.elim G2
  | _ => exact False.elim G2

structure EvO (X : Cx) (cl : Cl) (W : WX) (e : Option Expr) (m : MO) : Prop where
  run : ∀ (pins : List (Addr × Obj)) (s : Shared) (σ : L2.St) (H : Hp) (io : List Addr) (ρ : Rho) (S : Sto), Inv X pins σ H s → Abs X.K cl io S H → RelRho X.K io H ρ σ → Good W X.K cl io H σ (m ρ S) →
    wpAny (model X.prog X.w) X.A (evalPart e X.env) (fun u s' => ∃ o S' io' H', m ρ S = .ok o S' ∧ Inv X pins σ H' s' ∧ Abs X.K cl io' S' H' ∧ Grow X.K io H io' H' ∧ IsPart u o) X.xe s
/-- t[lo:hi], the new tuple without a dict of its own -/
def rSlF (K : PySem.W.Frag) : V → Option Int → Option Int → Hp → VK → Prop := fun x lo hi H Q => ∃ a xs, x = .ref a ∧ SqT K H a xs ∧
  (HT.sIx xs.length 0 lo = 0 ∧ HT.sIx xs.length xs.length hi = xs.length → Q (.ref a) H) ∧ ∀ p ob, H p = none → ob.dict = none → Q (.ref p) (upd H p (.frz ob (.tup (cutV xs lo hi))))
/-! ### displays -/
/-- a display; the new tuple has no dict of its own -/
def tTupF (t : TA) : TE := fun σ H Q => t σ H fun xs H1 => xs.length ≤ sizeLine ∧ ∀ p ob, H1 p = none → ob.dict = none → Q (.ref p) (upd H1 p (.frz ob (.tup xs)))
theorem pe_tupF {es : List Expr} {t : TA} {x1 : Nat} (h : PA X es t) : PE X (.Tuple es x1 pos) (tTupF t) := ⟨fun pins s σ H Q I hq =>
  wpAny_Tuple_spliced (thn (h.run pos pins s σ H _ I hq) fun us s1 ⟨xs, H1, I1, r, z, q⟩ => ⟨by rw [← r.length]; exact z, .ref s1.heap.objs.size, _, inv_newF I1 r z, rfl, q _ _ (I1.hok.fresh (Nat.le_refl _)) rfl⟩)⟩
theorem ev_tup {es : List Expr} {x1 : Nat} {m : M (List D)} (h : EvA X cl W es m) : EvE X cl W (.Tuple es x1 pos) (mDisp tupD m) := by
  refine EvE.of_pe (pe_tupF h.pa) fun σ H io ρ S A R G => ?_
  refine ⟨io, ρ, S, A, R, Good.fst G, fun ds S1 io1 H1 vs e1 A1 g1 rs => ?_⟩
  have G1 : Good W X.K cl io H σ (tupD ds S1) := by
    unfold mDisp at G
    rw [e1] at G
    exact G
  have e : mDisp tupD m ρ S = tupD ds S1 := by unfold mDisp; rw [e1, Rs.bind_ok]
  rw [e]
  unfold tupD at G1 ⊢
  split at G1
  · rename_i hz
    rw [if_pos hz]
    refine ⟨by rw [← rs.length]; exact hz, fun p ob hp ho => ?_⟩
    obtain ⟨d, S2, io2, e2, A2, g2, rd⟩ := AnsV.tupF (cl := cl) A1 rs p ob hp ho
    exact ⟨d, S2, io2, e2, A2, g1.trans g2, rd⟩
  · exact False.elim G1
theorem ev_lst {es : List Expr} {m : M (List D)} (h : EvA X cl W es m) : EvE X cl W (.List es pos) (mDisp lstD m) := by
  refine EvE.of_pe (pe_lst h.pa) fun σ H io ρ S A R G => ?_
  refine ⟨io, ρ, S, A, R, Good.fst G, fun ds S1 io1 H1 vs e1 A1 g1 rs => ?_⟩
  have G1 : Good W X.K cl io H σ (lstD ds S1) := by
    unfold mDisp at G
    rw [e1] at G
    exact G
  have e : mDisp lstD m ρ S = lstD ds S1 := by unfold mDisp; rw [e1, Rs.bind_ok]
  rw [e]
  unfold lstD at G1 ⊢
  split at G1
  · rename_i hz
    rw [if_pos hz]
    refine ⟨by rw [← rs.length]; exact hz, fun p hp => ?_⟩
    obtain ⟨d, S2, io2, e2, A2, g2, rd⟩ := AnsV.lst (cl := cl) A1 rs p hp
    exact ⟨d, S2, io2, e2, A2, g1.trans g2, rd⟩
  · exact False.elim G1
end
end MP
/-! MP6 -/
set_option Elab.async false
set_option autoImplicit false
set_option linter.all false
set_option maxRecDepth 100000
namespace MP
open PySem PySem.Spec L2
open PyProof.Rows hiding St

/-! ## methods of built-in types, by values -/
abbrev FM := D → List D → Sto → Rs D
def MtS (X : Cx) (cl : Cl) (W : WX) (id : String) (g : FM) : Prop :=
  ∀ (pins : List (Addr × Obj)) (s : Shared) (σ : L2.St) (H : Hp) (io : List Addr) (S : Sto) (x : D) (xs : List D) (vx : V) (vs : List V) (u : Value) (us : List Value), Inv X pins σ H s → Abs X.K cl io S H → RelD X.K io H x vx → RelV vx u → RelDs X.K io H xs vs → Vals vs us →
    Good W X.K cl io H σ (g x xs S) → wpAny (model X.prog X.w) X.A (call (.builtin id) (u :: us)) (EvP X cl pins σ io H (g x xs S)) X.xe s

def appendS : FM
  | .ptr n, [y], S => match S[n]? with
    | some (.lst xs) => if xs.length < sizeLine then .ok .non (S.set n (.lst (xs ++ [y]))) else .bad
    | _ => .bad
  | _, _, _ => .bad
def extendS : FM
  | .ptr n, [.ptr m], S => match S[n]?, S[m]? with
    | some (.lst xs), some (.lst ys) => if xs.length + ys.length ≤ sizeLine then .ok .non (S.set n (.lst (xs ++ ys))) else .bad
    | _, _ => .bad
  | _, _, _ => .bad
def popS : FM
  | .ptr n, [], S => match S[n]? with
    | some (.lst xs) => match xs[xs.length - 1]? with
      | some y => .ok y (S.set n (.lst xs.dropLast))
      | none => .bad
    | _ => .bad
  | .ptr n, [.int i], S => match S[n]? with
    | some (.lst xs) => if -(2 ^ 63) ≤ i ∧ i < 2 ^ 63 then match seqIndex? i xs.length with
        | some k => match xs[k]? with
          | some y => .ok y (S.set n (.lst (xs.eraseIdx k)))
          | none => .bad
        | none => .bad
      else .bad
    | _ => .bad
  | _, _, _ => .bad
def clearLS : FM
  | .ptr n, [], S => match S[n]? with
    | some (.lst _) => .ok .non (S.set n (.lst []))
    | _ => .bad
  | _, _, _ => .bad
def insertS : FM
  | .ptr n, [.int i, y], S => match S[n]? with
    | some (.lst xs) => if xs.length < sizeLine ∧ 0 ≤ i ∧ i < 2 ^ 63 ∧ i.toNat ≤ xs.length then .ok .non (S.set n (.lst (xs.take i.toNat ++ y :: xs.drop i.toNat))) else .bad
    | _ => .bad
  | _, _, _ => .bad
def dput (kvs : List (D × D)) (k v : D) : List (D × D) :=
  if kvs.any (fun p => decide (p.1 = k)) then kvs.map (fun p => if p.1 = k then (p.1, v) else p) else kvs ++ [(k, v)]
def ddrop (kvs : List (D × D)) (k : D) : List (D × D) := kvs.filter fun p => decide (p.1 ≠ k)
def getS : FM
  | .ptr n, k :: more, S => match dctAt S n with
    | some kvs => match keyD k, more with
      | some _, [] => .ok ((dget kvs k).getD .non) S
      | some _, [d] => .ok ((dget kvs k).getD d) S
      | _, _ => .bad
    | none => .bad
  | _, _, _ => .bad
def setdefaultS : FM
  | .ptr n, [k, d], S => match S[n]? with
    | some (.dct kvs) => match keyD k with
      | some _ => if kvs.length < sizeLine then match dget kvs k with
          | some v => .ok v S
          | none => .ok d (S.set n (.dct (dput kvs k d)))
        else .bad
      | none => .bad
    | _ => .bad
  | _, _, _ => .bad
def dmerge (kvs more : List (D × D)) : List (D × D) := more.foldl (fun acc p => dput acc p.1 p.2) kvs
def updateS : FM
  | .ptr n, [.ptr m], S => match S[n]?, S[m]? with
    | some (.dct kvs), some (.dct more) => if n ≠ m ∧ kvs.length + more.length ≤ sizeLine then .ok .non (S.set n (.dct (dmerge kvs more))) else .bad
    | _, _ => .bad
  | _, _, _ => .bad
def popDS : FM
  | .ptr n, [k], S => match S[n]? with
    | some (.dct kvs) => match keyD k with
      | some _ => match dget kvs k with
        | some v => .ok v (S.set n (.dct (ddrop kvs k)))
        | none => .bad
      | none => .bad
    | _ => .bad
  | _, _, _ => .bad
def viewS (T : String) : FM
  | .ptr n, [], S => match dctAt S n with
    | some _ => .ok (.ptr S.length) (S ++ [.vw T n])
    | none => .bad
  | _, _, _ => .bad
def strsOf : List D → Option (List Str)
  | [] => some []
  | .str x :: r => (strsOf r).map (x :: ·)
  | _ :: _ => none
def joinS : FM
  | .str a, [x], S => match itemsOf x S with
    | some ds => match strsOf ds with
      | some ys => if (ys.map (·.length)).sum + ys.length * a.length ≤ 16777216 then .ok (.str (Txt.join a ys)) S else .bad
      | none => .bad
    | none => .bad
  | _, _, _ => .bad

section
variable {X : Cx} {cl : Cl} {W : WX} {pins : List (Addr × Obj)} {s : Shared} {σ : L2.St} {H : Hp} {io : List Addr} {S : Sto}
theorem mtm_use {id : String} {r : V → List V → Hp → VK → Prop} {x : V} {xs : List V} {u : Value} {us : List Value} {res : Rs D} (h : MtM X id r) (I : Inv X pins σ H s) (ru : RelV x u) (rv : Vals xs us) (k : r x xs H (AnsV X cl io H res)) :
    wpAny (model X.prog X.w) X.A (call (.builtin id) (u :: us)) (EvP X cl pins σ io H res) X.xe s := by
  refine thn (h pins s σ H x xs u us _ I ru rv k) fun z s' ⟨w, H', I', rw', d, S', io', e, A', g', rd⟩ => ?_
  exact ⟨d, S', io', H', w, e, I', A', g', rd, rw'⟩
theorem mut_some {o : HO} {a : Addr} (h : H a = some o) (m : Mut (some o)) : Mut (H a) := by rw [h]; exact m
/-- a list changed: the answer -/
theorem AnsV.setL {n : Nat} {p : Addr} {ds es : List D} {vs ws : List V} {d : D} {v : V} (A : Abs X.K cl io S H) (hn : io[n]? = some p) (hS : S[n]? = some (.lst ds)) (hH : H p = some (.lst vs)) (r : RelDs X.K io H es ws) (rd : RelD X.K io H d v) :
    AnsV X cl io H (.ok d (S.set n (.lst es))) v (upd H p (.lst ws)) := by
  have mu : Mut (H p) := mut_some hH trivial
  have g : Grow X.K io H io (upd H p (.lst ws)) := grow_upd (.inr mu)
  exact AnsV.put A hn hS rfl rfl mu (.lst upd_same (r.mono g)) (rd.mono g)
theorem AnsV.setD {n : Nat} {p : Addr} {ds es : List (D × D)} {vs ws : List (Key × V)} {d : D} {v : V} (A : Abs X.K cl io S H) (hn : io[n]? = some p) (hS : S[n]? = some (.dct ds)) (hH : H p = some (.dK vs)) (r : RelKs X.K io H es ws) (rd : RelD X.K io H d v) :
    AnsV X cl io H (.ok d (S.set n (.dct es))) v (upd H p (.dK ws)) := by
  have mu : Mut (H p) := mut_some hH trivial
  have g : Grow X.K io H io (upd H p (.dK ws)) := grow_upd (.inr mu)
  exact AnsV.put A hn hS rfl rfl mu (.dct upd_same (paired_mono (fun _ _ z => ⟨z.1, z.2.1, z.2.2.mono g⟩) r)) (rd.mono g)
theorem relKs_any {kvs : List (D × D)} {ws : List (Key × V)} (r : RelKs X.K io H kvs ws) (k : Key) : (kvs.any fun p => decide (p.1 = kD k)) = ws.any fun q => decide (q.1 = k) := by
  induction r with
  | nil => rfl
  | @cons p q kvs ws h t ih =>
    rw [List.any_cons, List.any_cons, ih]
    congr 1
    by_cases e : q.1 = k
    · rw [decide_eq_true e, decide_eq_true (h.1.trans (by rw [e]))]
    · rw [decide_eq_false e, decide_eq_false fun z => e (kD_inj (h.1.symm.trans z))]
theorem relKs_map {kvs : List (D × D)} {ws : List (Key × V)} (r : RelKs X.K io H kvs ws) (k : Key) {d : D} {v : V} (rd : RelD X.K io H d v) :
    RelKs X.K io H (kvs.map fun p => if p.1 = kD k then (p.1, d) else p) (ws.map fun q => if q.1 = k then (q.1, v) else q) := by
  induction r with
  | nil => exact .nil
  | @cons p q kvs ws h t ih =>
    rw [List.map_cons, List.map_cons]
    refine .cons ?_ ih
    by_cases e : q.1 = k
    · rw [if_pos e, if_pos (h.1.trans (by rw [e]))]
      exact ⟨h.1, h.2.1, rd⟩
    · rw [if_neg e, if_neg fun z => e (kD_inj (h.1.symm.trans z))]
      exact h
theorem relKs_snoc {kvs : List (D × D)} {ws : List (Key × V)} (r : RelKs X.K io H kvs ws) (k : Key) (hk : okK k) {d : D} {v : V} (rd : RelD X.K io H d v) : RelKs X.K io H (kvs ++ [(kD k, d)]) (ws ++ [(k, v)]) := by
  induction r with
  | nil => exact .cons ⟨rfl, hk, rd⟩ .nil
  | cons h t ih => exact .cons h ih
theorem relKs_put {kvs : List (D × D)} {ws : List (Key × V)} (r : RelKs X.K io H kvs ws) (k : Key) (hk : okK k) {d : D} {v : V} (rd : RelD X.K io H d v) : RelKs X.K io H (dput kvs (kD k) d) (putK ws k v) := by
  unfold dput putK
  rw [relKs_any r k]
  split
  · exact relKs_map r k rd
  · exact relKs_snoc r k hk rd
theorem relKs_merge : ∀ {more : List (D × D)} {rs : List (Key × V)} {kvs : List (D × D)} {ws : List (Key × V)}, RelKs X.K io H more rs → RelKs X.K io H kvs ws → RelKs X.K io H (dmerge kvs more) (mergeK ws rs)
  | _, _, _, _, .nil, h => h
  | _, _, kvs, ws, .cons (a := p) (b := q) h t, h' => by
    show RelKs X.K io H (dmerge (dput kvs p.1 p.2) _) (mergeK (putK ws q.1 q.2) _)
    refine relKs_merge t ?_
    rw [h.1]
    exact relKs_put h' q.1 h.2.1 h.2.2
theorem relKs_length {kvs : List (D × D)} {ws : List (Key × V)} (r : RelKs X.K io H kvs ws) : kvs.length = ws.length := Paired.length r
end
section
variable {X : Cx} {cl : Cl} {W : WX}
theorem RelDs.dropLast {K : PySem.W.Frag} {io : List Addr} {H : Hp} {ds : List D} {vs : List V} (r : RelDs K io H ds vs) : RelDs K io H ds.dropLast vs.dropLast := by
  rw [List.dropLast_eq_take, List.dropLast_eq_take, r.length]
  exact r.take _
theorem mt_popS : MtS X cl W "list.pop" popS := by
  intro pins s σ H io S x xs vx vs u us I A rx ru rxs rus G
  unfold popS at G ⊢
  split at G
  · rename_i n
    split at G
    · rename_i ds hd
      split at G
      · rename_i y hy
        cases rx with
        | @ptr _ p hn =>
          cases rxs
          cases ptr_obj A hn hd with
          | @lst _ _ ws hH r =>
            obtain ⟨v, hv, rv⟩ := r.get hy
            exact mtm_use mt_pop I ru rus ⟨p, ws, v, rfl, rfl, hH, by rw [← r.length]; exact hv, AnsV.setL A hn hd hH r.dropLast rv⟩
      · exact False.elim G
    · exact False.elim G
  · rename_i n i
    split at G
    · rename_i ds hd
      split at G
      · rename_i hi
        rw [if_pos hi]
        split at G
        · rename_i k hk
          split at G
          · rename_i y hy
            cases rx with
            | @ptr _ p hn =>
              cases rxs with
              | cons ri rn =>
                cases rn
                cases ri
                cases ptr_obj A hn hd with
                | @lst _ _ ws hH r =>
                  obtain ⟨v, hv, rv⟩ := r.get hy
                  exact mtm_use mt_popAt I ru rus ⟨p, ws, i, k, v, rfl, rfl, hH, hi.1, hi.2, by rw [← r.length]; exact hk, hv, AnsV.setL A hn hd hH (r.erase k) rv⟩
          · exact False.elim G
        · exact False.elim G
      · exact False.elim G
    · exact False.elim G
  · exact False.elim G
end
end MP
/-! MP7 -/
set_option Elab.async false
set_option autoImplicit false
set_option linter.all false
set_option maxRecDepth 100000
namespace MP
open PySem PySem.Spec L2
open PyProof.Rows hiding St

/-! ## statements -/
inductive Fl where
  | nx (ρ : Rho) | brk (ρ : Rho) | cnt (ρ : Rho) | ret (d : D) | exn (x : Exn) (ρ : Rho)
abbrev MS := Rho → Sto → Rs Fl
abbrev MG := D → Rho → Sto → Rs Rho
def GoodS (W : WX) (K : PySem.W.Frag) (cl : Cl) (io : List Addr) (H : Hp) : Rs Fl → Prop
  | .ok (.exn x ρ') S' => ∀ io' H' c d σ', Abs K cl io' S' H' → Grow K io H io' H' → RelRho K io' H' ρ' σ' → RelX K cl io' H' x c d → W c d σ' H'
  | .ok _ _ => True
  | _ => False
theorem GoodS.mono {W : WX} {K : PySem.W.Frag} {cl : Cl} {io io' : List Addr} {H H' : Hp} {r : Rs Fl} (g : Grow K io H io' H') (h : GoodS W K cl io H r) : GoodS W K cl io' H' r := by
  cases r with
  | ok f S =>
    cases f with
    | exn x ρ => exact fun io2 H2 c d σ a g' rr r => h io2 H2 c d σ a (g.trans g') rr r
    | _ => trivial
  | _ => exact h
def FlQ (K : PySem.W.Frag) (io : List Addr) (H : Hp) (E : Ends) (σ : L2.St) : Fl → Prop
  | .nx ρ => RelRho K io H ρ σ → E.nx σ H
  | .brk ρ => RelRho K io H ρ σ → E.bk σ H
  | .cnt ρ => RelRho K io H ρ σ → E.ct σ H
  | .ret d => ∀ v, RelD K io H d v → E.rt v H
  | .exn _ _ => True
/-- the reading of a statement by its meaning -/
def tS (cl : Cl) (K : PySem.W.Frag) (W : WX) (m : MS) : TS := fun E σ H => ∃ io ρ S, Abs K cl io S H ∧ RelRho K io H ρ σ ∧ GoodS W K cl io H (m ρ S) ∧
  ∀ fl S' io' H' σ', m ρ S = .ok fl S' → Abs K cl io' S' H' → Grow K io H io' H' → FlQ K io' H' E σ' fl
theorem PS.imp {X : Cx} {st : Stmt} {t u : TS} (h : PS X st t) (k : ∀ E σ H, u E σ H → t E σ H) : PS X st u := ⟨fun pins s σ H E I q => h.run pins s σ H E I (k E σ H q)⟩
theorem PSs.imp {X : Cx} {st : List Stmt} {t u : TS} (h : PSs X st t) (k : ∀ E σ H, u E σ H → t E σ H) : PSs X st u := ⟨fun pins s σ H E I q => h.run pins s σ H E I (k E σ H q)⟩
abbrev StE (X : Cx) (cl : Cl) (W : WX) (st : Stmt) (m : MS) : Prop := PS X st (tS cl X.K W m)
abbrev SsE (X : Cx) (cl : Cl) (W : WX) (st : List Stmt) (m : MS) : Prop := PSs X st (tS cl X.K W m)

def mNx : MS := fun ρ S => .ok (.nx ρ) S
def mBrk : MS := fun ρ S => .ok (.brk ρ) S
def mCnt : MS := fun ρ S => .ok (.cnt ρ) S
def mNever : MS := fun _ _ => .bad
def mSeq (a b : MS) : MS := fun ρ S => match a ρ S with
  | .ok (.nx ρ1) S1 => b ρ1 S1
  | r => r
/-- an expression, then what its value leads to -/
def eS {α : Type} (m : M α) (k : α → MS) : MS := fun ρ S => match m ρ S with
  | .ok a S1 => k a ρ S1
  | .exn x S1 => .ok (.exn x ρ) S1
  | .bad => .bad
def mDrop (m : M D) : MS := eS m fun _ ρ S => .ok (.nx ρ) S
def mRet (m : M D) : MS := eS m fun d _ S => .ok (.ret d) S
def mRetN : MS := fun _ S => .ok (.ret .non) S
def mIfS (c : M Bool) (a b : MS) : MS := eS c fun k => if k then a else b
def asg (g : MG) : D → MS := fun d ρ S => match g d ρ S with
  | .ok ρ' S' => .ok (.nx ρ') S'
  | _ => .bad
def mAsg (m : M D) (g : MG) : MS := eS m (asg g)

section
variable {X : Cx} {cl : Cl} {W : WX} {pos : Pos}
theorem eS_good {α : Type} {K : PySem.W.Frag} {io : List Addr} {H : Hp} {σ : L2.St} {m : M α} {k : α → MS} {ρ : Rho} {S : Sto} (R : RelRho K io H ρ σ) (G : GoodS W K cl io H (eS m k ρ S)) : Good W K cl io H σ (m ρ S) := by
  unfold eS at G
  cases e : m ρ S with
  | ok a S1 => trivial
  | exn x S1 =>
    rw [e] at G
    exact fun io' H' c d A g r => G io' H' c d σ A g (RelRho.mono g R) r
  | bad => rw [e] at G; exact G
theorem eS_of {α : Type} {m : M α} {k : α → MS} {ρ : Rho} {S S1 : Sto} {a : α} (h : m ρ S = .ok a S1) : eS m k ρ S = k a ρ S1 := by unfold eS; rw [h]
/-- an expression's reading, out of a statement's -/
theorem tS_e {m : M D} {k : D → MS} {E : Ends} {σ : L2.St} {H : Hp} {Q : VK} (h : tS cl X.K W (eS m k) E σ H)
    (q : ∀ d v S1 io1 H1 ρ, Abs X.K cl io1 S1 H1 → RelRho X.K io1 H1 ρ σ → RelD X.K io1 H1 d v → GoodS W X.K cl io1 H1 (k d ρ S1) → (∀ fl S' io' H' σ', k d ρ S1 = .ok fl S' → Abs X.K cl io' S' H' → Grow X.K io1 H1 io' H' → FlQ X.K io' H' E σ' fl) → Q v H1) :
    tE cl X.K W m σ H Q := by
  obtain ⟨io, ρ, S, A, R, G, k1⟩ := h
  refine ⟨io, ρ, S, A, R, eS_good R G, fun d S1 io1 H1 v e A1 g1 rd => ?_⟩
  rw [eS_of e] at G k1
  exact q d v S1 io1 H1 ρ A1 (RelRho.mono g1 R) rd (GoodS.mono g1 G) fun fl S' io' H' σ' e' A' g' => k1 fl S' io' H' σ' e' A' (g1.trans g')
theorem tS_t {m : M Bool} {k : Bool → MS} {E : Ends} {σ : L2.St} {H : Hp} {Q : Bool → Hp → Prop} (h : tS cl X.K W (eS m k) E σ H)
    (q : ∀ b S1 io1 H1 ρ, Abs X.K cl io1 S1 H1 → RelRho X.K io1 H1 ρ σ → GoodS W X.K cl io1 H1 (k b ρ S1) → (∀ fl S' io' H' σ', k b ρ S1 = .ok fl S' → Abs X.K cl io' S' H' → Grow X.K io1 H1 io' H' → FlQ X.K io' H' E σ' fl) → Q b H1) :
    tT cl X.K W m σ H Q := by
  obtain ⟨io, ρ, S, A, R, G, k1⟩ := h
  refine ⟨io, ρ, S, A, R, eS_good R G, fun b S1 io1 H1 e A1 g1 => ?_⟩
  rw [eS_of e] at G k1
  exact q b S1 io1 H1 ρ A1 (RelRho.mono g1 R) (GoodS.mono g1 G) fun fl S' io' H' σ' e' A' g' => k1 fl S' io' H' σ' e' A' (g1.trans g')

theorem ss_nil : SsE X cl W [] mNx := PSs.imp pss_nil fun E σ H ⟨io, ρ, S, A, R, G, k⟩ => k (.nx ρ) S io H σ rfl A Grow.rfl' R
theorem ss_cons {st : Stmt} {rest : List Stmt} {a b : MS} (h1 : StE X cl W st a) (h2 : SsE X cl W rest b) : SsE X cl W (st :: rest) (mSeq a b) := by
  refine PSs.imp (pss_cons h1 h2) fun E σ H ⟨io, ρ, S, A, R, G, k⟩ => ?_
  have key : ∀ fl S1, a ρ S = .ok fl S1 → mSeq a b ρ S = match fl with
      | .nx ρ1 => b ρ1 S1
      | f => .ok f S1 := fun fl S1 e => by
    unfold mSeq
    rw [e]
    cases fl <;> rfl
  refine ⟨io, ρ, S, A, R, ?_, fun fl S1 io1 H1 σ1 e A1 g1 => ?_⟩
  · cases e : a ρ S with
    | ok fl S1 =>
      cases fl with
      | exn x ρ1 => rw [key _ _ e] at G; exact G
      | _ => trivial
    | exn x S1 =>
      unfold mSeq at G
      rw [e] at G
      exact G
    | bad =>
      unfold mSeq at G
      rw [e] at G
      exact G
  · rw [key _ _ e] at G k
    cases fl with
    | nx ρ1 => exact fun R1 => ⟨io1, ρ1, S1, A1, R1, GoodS.mono g1 G, fun fl S' io' H' σ' e' A' g' => k fl S' io' H' σ' e' A' (g1.trans g')⟩
    | brk ρ1 => exact k _ S1 io1 H1 σ1 rfl A1 g1
    | cnt ρ1 => exact k _ S1 io1 H1 σ1 rfl A1 g1
    | ret d => exact k _ S1 io1 H1 σ1 rfl A1 g1
    | exn x ρ1 => trivial
theorem ss_one {st : Stmt} {a : MS} (h1 : StE X cl W st a) : SsE X cl W [st] a := pss_one h1
theorem s_expr {e : Expr} {m : M D} (he : EvE X cl W e m) (hs : swapsWith e none pos.line X.env = pure false) : StE X cl W (.Expr e pos) (mDrop m) := by
  refine PS.imp (ps_expr he.pe hs) fun E σ H h => ?_
  exact tS_e h fun d v S1 io1 H1 ρ A1 R1 rd G1 k1 => k1 _ S1 io1 H1 σ rfl A1 Grow.rfl' R1
theorem s_ret {e : Expr} {m : M D} (he : EvE X cl W e m) : StE X cl W (.Return (some e) pos) (mRet m) := by
  refine PS.imp (ps_ret he.pe) fun E σ H h => ?_
  exact tS_e h fun d v S1 io1 H1 ρ A1 R1 rd G1 k1 => k1 _ S1 io1 H1 σ rfl A1 Grow.rfl' v rd
theorem s_if {c : Expr} {a b : List Stmt} {mc : M Bool} {ma mb : MS} (hc : EvT X cl W c mc) (ha : SsE X cl W a ma) (hb : SsE X cl W b mb) : StE X cl W (.If c a b pos) (mIfS mc ma mb) := by
  refine PS.imp (ps_if hc.pt ha hb) fun E σ H h => ?_
  refine tS_t h fun b S1 io1 H1 ρ A1 R1 G1 k1 => ?_
  cases b with
  | true =>
    rw [if_pos rfl]
    exact ⟨io1, ρ, S1, A1, R1, G1, k1⟩
  | false =>
    rw [if_neg Bool.false_ne_true]
    exact ⟨io1, ρ, S1, A1, R1, G1, k1⟩

/-! ### targets -/
def GoodG : Rs Rho → Prop
  | .ok _ _ => True
  | _ => False
/-- only the slots of l may differ -/
def Keeps (l : List Nat) (σ σ' : L2.St) : Prop := σ'.length = σ.length ∧ ∀ j, j ∉ l → σ'[j]? = σ[j]?
def tG (cl : Cl) (K : PySem.W.Frag) (g : MG) (l : List Nat) : TG := fun v σ H Q => ∃ io ρ S d, Abs K cl io S H ∧ RelRho K io H ρ σ ∧ RelD K io H d v ∧ GoodG (g d ρ S) ∧
  ∀ ρ' S' io' H' σ', g d ρ S = .ok ρ' S' → Abs K cl io' S' H' → Grow K io H io' H' → RelRho K io' H' ρ' σ' → Keeps l σ σ' → Q σ' H'
theorem PG.imp {tg : Expr} {t u : TG} (h : PG X tg t) (k : ∀ v σ H Q, u v σ H Q → t v σ H Q) : PG X tg u := ⟨fun pins s σ H v w Q I r q => h.run pins s σ H v w Q I r (k v σ H Q q)⟩
abbrev TgE (X : Cx) (cl : Cl) (tg : Expr) (g : MG) (l : List Nat) : Prop := PG X tg (tG cl X.K g l)
def gNm (i : Nat) : MG := fun d ρ S => .ok (ρ.set i (some d)) S
theorem g_name {i : Nat} {x : Str} (hN : X.N.Nodup) (hi : X.N[i]? = some x) (hx : Loc X.env.scope x) (hf : X.fn x = true ∨ X.env.scope.names.lookup x = some .local) : TgE X cl (.Name x pos) (gNm i) [i] :=
  PG.imp (pg_name hN hi hx hf) fun v σ H Q ⟨io, ρ, S, d, A, R, rd, G, k⟩ => k _ S io H _ rfl A Grow.rfl' (RelRho.set rd i R) ⟨by simp, fun j hj => List.getElem?_set_ne fun e => hj (by simp [e])⟩
abbrev MGs := List D → Rho → Sto → Rs Rho
def tGs (cl : Cl) (K : PySem.W.Frag) (g : MGs) (l : List Nat) : TGs := fun vs σ H Q => ∃ io ρ S ds, Abs K cl io S H ∧ RelRho K io H ρ σ ∧ RelDs K io H ds vs ∧ GoodG (g ds ρ S) ∧
  ∀ ρ' S' io' H' σ', g ds ρ S = .ok ρ' S' → Abs K cl io' S' H' → Grow K io H io' H' → RelRho K io' H' ρ' σ' → Keeps l σ σ' → Q σ' H'
theorem PGs.imp {tg : List Expr} {t u : TGs} (h : PGs X tg t) (k : ∀ v σ H Q, u v σ H Q → t v σ H Q) : PGs X tg u := ⟨fun pins s σ H v w Q I r q => h.run pins s σ H v w Q I r (k v σ H Q q)⟩
abbrev TgsE (X : Cx) (cl : Cl) (tg : List Expr) (g : MGs) (l : List Nat) : Prop := PGs X tg (tGs cl X.K g l)
def gsNil : MGs := fun ds ρ S => match ds with
  | [] => .ok ρ S
  | _ => .bad
def gsCons (g : MG) (r : MGs) : MGs := fun ds ρ S => match ds with
  | d :: ds => match g d ρ S with
    | .ok ρ1 S1 => r ds ρ1 S1
    | _ => .bad
  | [] => .bad
theorem gs_nil : TgsE X cl [] gsNil [] := by
  refine PGs.imp pgs_nil fun vs σ H Q ⟨io, ρ, S, ds, A, R, rd, G, k⟩ => ?_
  cases rd with
  | nil => exact ⟨rfl, k _ S io H σ rfl A Grow.rfl' R ⟨rfl, fun _ _ => rfl⟩⟩
  | cons _ _ => exact False.elim G
theorem gs_cons {e : Expr} {es : List Expr} {g : MG} {r : MGs} {l l' : List Nat} (h1 : TgE X cl e g l) (h2 : TgsE X cl es r l') (hs : (assignEach (e :: es) X.env).map (·.2) = assign e X.env :: (assignEach es X.env).map (·.2)) : TgsE X cl (e :: es) (gsCons g r) (l ++ l') := by
  refine PGs.imp (pgs_cons h1 h2 hs) fun vs σ H Q ⟨io, ρ, S, ds, A, R, rd, G, k⟩ => ?_
  cases rd with
  | nil => exact False.elim G
  | @cons d ds v vs r1 r2 =>
    refine ⟨v, vs, rfl, io, ρ, S, d, A, R, r1, ?_, fun ρ1 S1 io1 H1 σ1 e1 A1 g1 R1 kp1 => ⟨io1, ρ1, S1, ds, A1, R1, r2.mono g1, ?_, fun ρ2 S2 io2 H2 σ2 e2 A2 g2 R2 kp2 => ?_⟩⟩
    · unfold gsCons at G
      simp only at G
      cases e : g d ρ S with
      | ok _ _ => trivial
      | exn _ _ => rw [e] at G; exact G
      | bad => rw [e] at G; exact G
    · unfold gsCons at G
      simp only [e1] at G
      exact G
    · refine k ρ2 S2 io2 H2 σ2 ?_ A2 (g1.trans g2) R2 ⟨kp2.1.trans kp1.1, fun j hj => (kp2.2 j fun z => hj (List.mem_append_right _ z)).trans (kp1.2 j fun z => hj (List.mem_append_left _ z))⟩
      unfold gsCons
      simp only [e1]
      exact e2
/-- (a, b, ..) = a tuple; of a list, too, where the form allows it -/
def gTp (n : Nat) (r : MGs) : MG := fun d ρ S => match d with
  | .tup ds => if ds.length = n then r ds ρ S else .bad
  | _ => .bad
theorem g_tup {es : List Expr} {k n : Nat} {r : MGs} {l : List Nat} (hc : X.calm = true) (h : TgsE X cl es r l) (hn : (assignEach es X.env).length = n) (hst : (assignEach es X.env).findIdx? (·.1) = none) : TgE X cl (.Tuple es k pos) (gTp n r) l := by
  refine PG.imp (pg_tup hc h hn hst) fun v σ H Q ⟨io, ρ, S, d, A, R, rd, G, kk⟩ => ?_
  cases rd with
  | @tup a ds vs hq rs =>
    unfold gTp at G kk
    simp only at G kk
    split at G
    · rename_i hl
      rw [if_pos hl] at kk
      exact ⟨a, vs, rfl, hq, by rw [← rs.length]; exact hl, io, ρ, S, ds, A, R, rs, G, kk⟩
    · exact False.elim G
  | _ => exact False.elim G
theorem asg_good {K : PySem.W.Frag} {io : List Addr} {H : Hp} {g : MG} {d : D} {ρ : Rho} {S : Sto} (G : GoodS W K cl io H (asg g d ρ S)) : GoodG (g d ρ S) := by
  unfold asg at G
  cases e : g d ρ S with
  | ok _ _ => trivial
  | exn _ _ => rw [e] at G; exact G
  | bad => rw [e] at G; exact G
theorem s_asg {tg e : Expr} {m : M D} {g : MG} {l : List Nat} (he : EvE X cl W e m) (hg : TgE X cl tg g l) (hs : swapsWithSole [tg] e pos.line X.env = pure false) (hw : swappedStores [tg] e X.env = pure none)
    (h1 : (assignEach [tg] X.env).map (·.2) = [assign tg X.env]) : StE X cl W (.Assign [tg] e pos) (mAsg m g) := by
  refine PS.imp (ps_asg he.pe hg hs hw h1) fun E σ H h => ?_
  refine tS_e h fun d v S1 io1 H1 ρ A1 R1 rd G1 k1 => ?_
  refine ⟨io1, ρ, S1, d, A1, R1, rd, asg_good G1, fun ρ' S' io' H' σ' e A' g' R' _ => ?_⟩
  refine k1 (.nx ρ') S' io' H' σ' ?_ A' g' R'
  unfold asg
  rw [e]
theorem s_set {i : Nat} {x : Str} {e : Expr} {m : M D} {pos' : Pos} (hN : X.N.Nodup) (hi : X.N[i]? = some x) (hx : Loc X.env.scope x) (hf : X.fn x = true ∨ X.env.scope.names.lookup x = some .local) (he : EvE X cl W e m) (hs : swapsWith e (some (.Name x pos')) pos.line X.env = pure false) :
    StE X cl W (.Assign [.Name x pos'] e pos) (mAsg m (gNm i)) := by
  refine PS.imp (ps_set hN hi hx he.pe hs hf) fun E σ H h => ?_
  refine tS_e h fun d v S1 io1 H1 ρ A1 R1 rd G1 k1 => ?_
  exact k1 (.nx _) S1 io1 H1 _ rfl A1 Grow.rfl' (RelRho.set rd i R1)
end
end MP
/-! MP8 -/
set_option Elab.async false
set_option autoImplicit false
set_option linter.all false
set_option maxRecDepth 100000
namespace MP
open PySem PySem.Spec L2
open PyProof.Rows hiding St

/-! ## what a loop walks -/
/-- the items, what must hold of the store at each turn, what becomes of the store at the end -/
structure Src where
  items : List D
  keep : Sto → Bool
  fin : Sto → Option Sto
abbrev MI := M Src
/-- a locked thing is freed -/
def Unl (X : Cx) (H H' : Hp) : Prop := H' = H ∨ ∃ d od u, (∀ o' u', X.H_0 d ≠ some (.frz o' u')) ∧ H d = some (.frz od u) ∧ H' = upd H d u
theorem Unl.inv {X : Cx} {pins : List (Addr × Obj)} {σ : L2.St} {H H' : Hp} {s : Shared} (I : Inv X pins σ H s) (u : Unl X H H') : Inv X pins σ H' s := by
  rcases u with e | ⟨d, od, u, n, h, e⟩
  · subst e; exact I
  · subst e; exact I.unlock h n
def EndsU (X : Cx) (E : Ends) : Ends := ⟨fun σ H => ∃ H', Unl X H H' ∧ E.nx σ H', fun v H => ∃ H', Unl X H H' ∧ E.rt v H', fun σ H => ∃ H', Unl X H H' ∧ E.bk σ H', fun σ H => ∃ H', Unl X H H' ∧ E.ct σ H'⟩
theorem ps_unl {X : Cx} {st : Stmt} {t : TS} (h : PS X st t) : PS X st (fun E σ H => t (EndsU X E) σ H) := by
  refine ⟨fun pins s σ H E I q => thn (h.run pins s σ H (EndsU X E) I q) fun f s1 q => ?_⟩
  cases f with
  | next => obtain ⟨σ', H', I', H'', u, q⟩ := q; exact ⟨σ', H'', u.inv I', q⟩
  | brk => obtain ⟨σ', H', I', H'', u, q⟩ := q; exact ⟨σ', H'', u.inv I', q⟩
  | cont => obtain ⟨σ', H', I', H'', u, q⟩ := q; exact ⟨σ', H'', u.inv I', q⟩
  | ret v => obtain ⟨x, σ', H', I', r, H'', u, q⟩ := q; exact ⟨x, σ', H'', u.inv I', r, q⟩
structure SrcOk (X : Cx) (cl : Cl) (J : It) (src : Src) (io0 : List Addr) (H0 : Hp) (io1 : List Addr) (H1 : Hp) : Prop where
  item : ∀ io S H i d, Abs X.K cl io S H → Grow X.K io1 H1 io H → src.keep S = true → src.items[i]? = some d → J.go i H ∧ ∀ x H', J.yld i H x H' → Abs X.K cl io S H' ∧ Grow X.K io H io H' ∧ RelD X.K io H' d x
  stop : ∀ io S H i, Abs X.K cl io S H → Grow X.K io1 H1 io H → src.keep S = true → src.items.length = i → J.stop i H
  fin : ∀ io S H S', Abs X.K cl io S H → Grow X.K io1 H1 io H → src.fin S = some S' → ∃ H', Unl X H H' ∧ Abs X.K cl io S' H' ∧ Gr0 X.K io H io H' ∧ Grow X.K io0 H0 io H'
def tI (X : Cx) (cl : Cl) (W : WX) (m : MI) : TI := fun σ H R => ∃ io ρ S, Abs X.K cl io S H ∧ RelRho X.K io H ρ σ ∧ Good W X.K cl io H σ (m ρ S) ∧
  ∀ src S1 io1 H1 J, m ρ S = .ok src S1 → Abs X.K cl io1 S1 H1 → Grow X.K io H io1 H1 → SrcOk X cl J src io H io1 H1 → R J H1
abbrev ItE (X : Cx) (cl : Cl) (W : WX) (tg e : Expr) (m : MI) : Prop := PI X tg e (tI X cl W m)

def srcT (ds : List D) : Src := ⟨ds, fun _ => true, some⟩
def srcL (n : Nat) (ds : List D) : Src := ⟨ds, fun S => decide (listAt S n = some ds), some⟩
def unlk (n : Nat) (kvs : List (D × D)) (S : Sto) : Option Sto := if S[n]? = some (.rod kvs) then some (S.set n (.dct kvs)) else none
def srcD (n : Nat) (kvs : List (D × D)) (ds : List D) : Src := ⟨ds, fun S => decide (S[n]? = some (.rod kvs)), unlk n kvs⟩
def srcR (n : Nat) (kvs : List (D × D)) (ds : List D) : Src := ⟨ds, fun S => decide (S[n]? = some (.rod kvs)), some⟩
/-- a dict's keys (values, items) -/
def dIter (f : D × D → D) (n : Nat) (S : Sto) : Rs Src := match S[n]? with
  | some (.dct kvs) => .ok (srcD n kvs (kvs.map f)) (S.set n (.rod kvs))
  | some (.rod kvs) => .ok (srcR n kvs (kvs.map f)) S
  | _ => .bad
def strItems (z : Str) : List D := z.cps.toList.map fun c => .str ⟨#[c]⟩
/-- for x in v -/
def iterS : D → Sto → Rs Src
  | .str z, S => .ok (srcT (strItems z)) S
  | .tup ds, S => .ok (srcT ds) S
  | .ptr n, S => match listAt S n with
    | some ds => .ok (srcL n ds) S
    | none => dIter (·.1) n S
  | _, _ => .bad
def pairD (p : D × D) : D := .tup [p.1, p.2]
def iterDS (f : D × D → D) : D → Sto → Rs Src
  | .ptr n, S => dIter f n S
  | _, _ => .bad
def enumL : Nat → List D → List D
  | _, [] => []
  | i, d :: ds => .tup [.int i, d] :: enumL (i + 1) ds
def enumS : D → Sto → Rs Src
  | .tup ds, S => .ok (srcT (enumL 0 ds)) S
  | .ptr n, S => match listAt S n with
    | some ds => .ok ⟨enumL 0 ds, fun S => decide (listAt S n = some ds), some⟩ S
    | none => .bad
  | _, _ => .bad
def rngL (lo : Int) (n : Nat) : List D := (List.range n).map fun (i : Nat) => .int (lo + i)
def rng1S : List D → Sto → Rs Src
  | [.int j], S => if -(2 ^ 62) ≤ j ∧ j < 2 ^ 62 then .ok (srcT (rngL 0 j.toNat)) S else .bad
  | _, _ => .bad
def rng2S : List D → Sto → Rs Src
  | [.int i, .int j], S => if -(2 ^ 62) ≤ i ∧ i < 2 ^ 62 ∧ -(2 ^ 62) ≤ j ∧ j < 2 ^ 62 then .ok (srcT (rngL i (j - i).toNat)) S else .bad
  | _, _ => .bad
def mIt (g : D → Sto → Rs Src) (m : M D) : MI := fun ρ S => (m ρ S).bind g
def mItA (g : List D → Sto → Rs Src) (m : M (List D)) : MI := fun ρ S => (m ρ S).bind g

section
variable {X : Cx} {cl : Cl} {W : WX} {io : List Addr} {S : Sto} {H : Hp} {pins : List (Addr × Obj)} {s : Shared} {σ : L2.St} {tg : Expr}
/-- a dict locked: store and heap -/
theorem Abs.lock {n : Nat} {a : Addr} {kvs : List (D × D)} {ws : List (Key × V)} {od : Obj} (A : Abs X.K cl io S H) (hn : io[n]? = some a) (hS : S[n]? = some (.dct kvs)) (hH : H a = some (.dK ws)) (r : RelKs X.K io H kvs ws) :
    Abs X.K cl io (S.set n (.rod kvs)) (upd H a (.frz od (.dK ws))) ∧ Grow X.K io H io (upd H a (.frz od (.dK ws))) := by
  have mu : Mut (H a) := mut_some hH trivial
  have g : Grow X.K io H io (upd H a (.frz od (.dK ws))) := grow_upd (.inr mu)
  exact ⟨A.put hn hS rfl rfl (.rod upd_same (paired_mono (fun _ _ z => ⟨z.1, z.2.1, z.2.2.mono g⟩) r)), g⟩
theorem Abs.unlock {n : Nat} {a : Addr} {kvs : List (D × D)} {ws : List (Key × V)} {od : Obj} (A : Abs X.K cl io S H) (hn : io[n]? = some a) (hS : S[n]? = some (.rod kvs)) (hH : H a = some (.frz od (.dK ws))) (r : RelKs X.K io H kvs ws) :
    Abs X.K cl io (S.set n (.dct kvs)) (upd H a (.dK ws)) ∧ Gr0 X.K io H io (upd H a (.dK ws)) := by
  have mu : Wr (H a) := .inr ⟨_, _, hH, trivial⟩
  have g : Gr0 X.K io H io (upd H a (.dK ws)) := gr0_upd (.inr mu)
  exact ⟨A.put hn hS rfl rfl (.dct upd_same (paired_mono (fun _ _ z => ⟨z.1, z.2.1, z.2.2.mono0 g⟩) r)), g⟩
section
variable {io0 io1 : List Addr} {H0 H1 : Hp} {J : It} {src : Src}
theorem srcOk_plain (g01 : Grow X.K io0 H0 io1 H1) (hf : src.fin = some) (h1 : ∀ io S H i d, Abs X.K cl io S H → Grow X.K io1 H1 io H → src.keep S = true → src.items[i]? = some d → J.go i H ∧ ∀ x H', J.yld i H x H' → Abs X.K cl io S H' ∧ Grow X.K io H io H' ∧ RelD X.K io H' d x)
    (h2 : ∀ io S H i, Abs X.K cl io S H → Grow X.K io1 H1 io H → src.keep S = true → src.items.length = i → J.stop i H) : SrcOk X cl J src io0 H0 io1 H1 :=
  ⟨h1, h2, fun io S H S' A g e => by rw [hf] at e; cases e; exact ⟨H, .inl rfl, A, Gr0.rfl', g01.trans g⟩⟩
theorem src_tup {a : Addr} {ds : List D} {vs : List V} (g01 : Grow X.K io0 H0 io1 H1) (hq : SqT X.K H1 a vs) (rs : RelDs X.K io1 H1 ds vs) : SrcOk X cl (Itt X.K a) (srcT ds) io0 H0 io1 H1 := by
  refine srcOk_plain g01 rfl (fun io S H i d A g _ hd => ?_) fun io S H i A g _ hl => ?_
  · obtain ⟨v, hv, rv⟩ := rs.get hd
    have hq1 := g.tup hq
    refine ⟨⟨vs, v, hq1, hv⟩, fun x H' ⟨e, y⟩ => ?_⟩
    subst e
    have := y vs hq1
    rw [hv] at this
    cases this
    exact ⟨A, Grow.rfl', rv.mono g⟩
  · exact ⟨vs, g.tup hq, by rw [← rs.length]; exact Nat.le_of_eq hl⟩
theorem src_lst {a : Addr} {n : Nat} {ds : List D} (g01 : Grow X.K io0 H0 io1 H1) (hn : io1[n]? = some a) : SrcOk X cl (Itl X.K a) (srcL n ds) io0 H0 io1 H1 := by
  refine srcOk_plain g01 rfl (fun io S H i d A g hk hd => ?_) fun io S H i A g hk hl => ?_
  · obtain ⟨vs, hq, rs⟩ := ptr_list A (g.get hn) (of_decide_eq_true hk)
    obtain ⟨v, hv, rv⟩ := rs.get hd
    refine ⟨⟨vs, v, hq, hv⟩, fun x H' ⟨e, y⟩ => ?_⟩
    subst e
    have := y vs hq
    rw [hv] at this
    cases this
    exact ⟨A, Grow.rfl', rv⟩
  · obtain ⟨vs, hq, rs⟩ := ptr_list A (g.get hn) (of_decide_eq_true hk)
    exact ⟨vs, hq, by rw [← rs.length]; exact Nat.le_of_eq hl⟩
theorem src_rng {lo : Int} {n : Nat} (g01 : Grow X.K io0 H0 io1 H1) : SrcOk X cl (Itr lo n) (srcT (rngL lo n)) io0 H0 io1 H1 := by
  refine srcOk_plain g01 rfl (fun io S H i d A g _ hd => ?_) fun io S H i A g _ hl => ?_
  · have hd : ((List.range n).map fun (i : Nat) => D.int (lo + i))[i]? = some d := hd
    rw [List.getElem?_map] at hd
    have hi : i < n := by
      cases e : (List.range n)[i]? with
      | none => rw [e] at hd; cases hd
      | some j => simpa using (List.getElem?_eq_some_iff.mp e).1
    rw [List.getElem?_range hi] at hd
    cases hd
    exact ⟨hi, fun x H' ⟨e, y⟩ => by subst e; subst y; exact ⟨A, Grow.rfl', .int _⟩⟩
  · have hl : ((List.range n).map fun (i : Nat) => D.int (lo + i)).length = i := hl
    rw [List.length_map, List.length_range] at hl
    exact Nat.le_of_eq hl
theorem src_str {z : Str} (hz : okS z) (g01 : Grow X.K io0 H0 io1 H1) : SrcOk X cl (Its z) (srcT (strItems z)) io0 H0 io1 H1 := by
  refine srcOk_plain g01 rfl (fun io S H i d A g _ hd => ?_) fun io S H i A g _ hl => ?_
  · have hd : (z.cps.toList.map fun c => D.str ⟨#[c]⟩)[i]? = some d := hd
    rw [List.getElem?_map] at hd
    cases e : z.cps.toList[i]? with
    | none => rw [e] at hd; cases hd
    | some c =>
      rw [e] at hd
      cases hd
      have hi : i < z.cps.size := by simpa using (List.getElem?_eq_some_iff.mp e).1
      refine ⟨hi, fun x H' ⟨e2, c', hc', ex⟩ => ?_⟩
      subst e2 ex
      have : c' = c := by
        rw [← Array.getElem?_toList, e] at hc'
        exact (Option.some.inj hc').symm
      subst this
      exact ⟨A, Grow.rfl', .str _ (okS_one hz (List.mem_of_getElem? e))⟩
  · have hl : (z.cps.toList.map fun c => D.str ⟨#[c]⟩).length = i := hl
    rw [List.length_map, Array.length_toList] at hl
    exact Nat.le_of_eq hl
/-- a locked dict walked: f tells the item -/
theorem src_dct {a : Addr} {o : Obj} {n : Nat} {kvs : List (D × D)} {ws : List (Key × V)} {f : D × D → D} {fin : Sto → Option Sto} (hn : io1[n]? = some a) (hH : H1 a = some (.frz o (.dK ws)))
    (hfin : ∀ io S H S', Abs X.K cl io S H → Grow X.K io1 H1 io H → fin S = some S' → ∃ H', Unl X H H' ∧ Abs X.K cl io S' H' ∧ Gr0 X.K io H io H' ∧ Grow X.K io0 H0 io H')
    (go : ∀ i H, H a = some (.frz o (.dK ws)) → i < ws.length → J.go i H) (st : ∀ i H, H a = some (.frz o (.dK ws)) → ws.length ≤ i → J.stop i H)
    (yl : ∀ io S H i p q x H', Abs X.K cl io S H → J.yld i H x H' → ws[i]? = some q → p.1 = kD q.1 → RelD X.K io H p.1 (kV q.1) → RelD X.K io H p.2 q.2 → Abs X.K cl io S H' ∧ Grow X.K io H io H' ∧ RelD X.K io H' (f p) x)
    (hlen : kvs.length = ws.length) : SrcOk X cl J ⟨kvs.map f, fun S => decide (S[n]? = some (.rod kvs)), fin⟩ io0 H0 io1 H1 := by
  have same : ∀ io S H, Abs X.K cl io S H → Grow X.K io1 H1 io H → S[n]? = some (.rod kvs) → H a = some (.frz o (.dK ws)) ∧ RelKs X.K io H kvs ws := fun io S H A g hS => by
    have e := g.frz _ _ _ hH
    refine ⟨e, ?_⟩
    cases ptr_obj A (g.get hn) hS with
    | rod h r => rw [e] at h; cases h; exact r
  refine ⟨fun io S H i d A g hk hd => ?_, fun io S H i A g hk hl => ?_, hfin⟩
  · obtain ⟨e, r⟩ := same io S H A g (of_decide_eq_true hk)
    rw [List.getElem?_map] at hd
    cases hp : kvs[i]? with
    | none => rw [hp] at hd; cases hd
    | some p =>
      rw [hp] at hd
      cases hd
      have hi : i < ws.length := by rw [← hlen]; exact (List.getElem?_eq_some_iff.mp hp).1
      refine ⟨go i H e hi, fun x H' y => ?_⟩
      obtain ⟨q, hq, h1, hm, h2⟩ := paired_get r hp
      refine yl io S H i p q x H' A y hq h1 ?_ h2
      rw [h1]
      cases hk2 : q.1 with
      | inl j => exact .int j
      | inr z =>
        rw [hk2] at hm
        exact .str z hm
  · obtain ⟨e, r⟩ := same io S H A g (of_decide_eq_true hk)
    exact st i H e (by rw [← hlen]; exact Nat.le_of_eq (by simpa using hl))
end
end
end MP
/-! MP9 -/
set_option Elab.async false
set_option autoImplicit false
set_option linter.all false
set_option maxRecDepth 100000
namespace MP
open PySem PySem.Spec L2
open PyProof.Rows hiding St

/-! ## loops -/
section
variable {X : Cx} {cl : Cl} {W : WX} {tg e it : Expr} {m : M D}
def tLk (X : Cx) (cl : Cl) (W : WX) (m : M D) : TE := fun σ H Q => tE cl X.K W m σ H fun v H1 => ∃ d u, v = .ref d ∧ H1 d = some u ∧ Mut (some u) ∧ ∀ od, (∀ o' u', X.H_0 d ≠ some (.frz o' u')) → Q v (upd H1 d (.frz od u))
theorem pe_lk (he : PE X e (tE cl X.K W m)) : PE X e (tLk X cl W m) := by
  refine ⟨fun pins s σ H Q I h => thn (he.run pins s σ H _ I h) fun u s1 ⟨v, H1, I1, rv, d, o, ev, hd, mu, k⟩ => ?_⟩
  obtain ⟨od, I2⟩ := I1.lock hd mu
  exact ⟨v, _, I2, rv, k od (I1.nofrz hd mu)⟩
theorem unlk_ok {io0 io1 io : List Addr} {H0 H1 H : Hp} {S S' : Sto} {n : Nat} {a : Addr} {o : Obj} {kvs : List (D × D)} {ws : List (Key × V)} (g01 : Grow X.K io0 H0 io1 H1) (hn : io1[n]? = some a) (hH : H1 a = some (.frz o (.dK ws)))
    (nf : ∀ ob u, H0 a ≠ some (.frz ob u)) (nz : ∀ o' u', X.H_0 a ≠ some (.frz o' u')) (A : Abs X.K cl io S H) (g : Grow X.K io1 H1 io H) (e : unlk n kvs S = some S') : ∃ H', Unl X H H' ∧ Abs X.K cl io S' H' ∧ Gr0 X.K io H io H' ∧ Grow X.K io0 H0 io H' := by
  unfold unlk at e
  split at e
  · rename_i hS
    cases e
    have eH := g.frz _ _ _ hH
    cases ptr_obj A (g.get hn) hS with
    | rod h r =>
      rw [eH] at h
      cases h
      obtain ⟨A', g0⟩ := A.unlock (g.get hn) hS eH r
      refine ⟨_, .inr ⟨a, o, _, nz, eH, rfl⟩, A', g0, (g01.base.trans g.base).trans g0, fun b ob u eb => ?_⟩
      have : b ≠ a := by
        rintro rfl
        exact nf _ _ eb
      rw [upd_ne this]
      exact g.frz _ _ _ (g01.frz _ _ _ eb)
  · cases e
theorem mIt_ok {g : D → Sto → Rs Src} {ρ : Rho} {S S1 : Sto} {d : D} (h : m ρ S = .ok d S1) : mIt g m ρ S = g d S1 := by unfold mIt; rw [h]; rfl
def MonE (td : TE) : Prop := ∀ (σ : L2.St) (H : Hp) (Q Q' : VK), td σ H Q → (∀ v H', Q v H' → Q' v H') → td σ H Q'
theorem tE_mono {m : M D} : MonE (tE cl X.K W m) := fun σ H Q Q' h k => by
  obtain ⟨io, ρ, S, A, R, G, q⟩ := h
  exact ⟨io, ρ, S, A, R, G, fun d S' io' H' v e A' g r => k _ _ (q d S' io' H' v e A' g r)⟩
theorem tLk_mono {m : M D} : MonE (tLk X cl W m) := fun σ H Q Q' h k => tE_mono σ H _ _ h fun v H' ⟨d, u, e, hd, mu, q⟩ => ⟨d, u, e, hd, mu, fun od nz => k _ _ (q od nz)⟩
/-- a dict walked, by its rule -/
theorem it_dct {iD : TE → TI} {f : D × D → D} {J : Addr → Obj → List (Key × V) → It} (he : EvE X cl W e m) (hpi : ∀ td, PE X e td → PI X tg it (iD td))
    (hD : ∀ td σ H R, MonE td → (td σ H fun x H1 => ∃ d o kvs, x = .ref d ∧ H1 d = some (.frz o (.dK kvs)) ∧ R (J d o kvs) H1) → iD td σ H R)
    (go : ∀ a o ws i H, H a = some (.frz o (.dK ws)) → i < ws.length → (J a o ws).go i H) (st : ∀ a o ws i H, H a = some (.frz o (.dK ws)) → ws.length ≤ i → (J a o ws).stop i H)
    (yl : ∀ a o ws io S H i p q x H', Abs X.K cl io S H → (J a o ws).yld i H x H' → ws[i]? = some q → p.1 = kD q.1 → RelD X.K io H p.1 (kV q.1) → RelD X.K io H p.2 q.2 → Abs X.K cl io S H' ∧ Grow X.K io H io H' ∧ RelD X.K io H' (f p) x) :
    ItE X cl W tg it (mIt (iterDS f) m) := by
  refine ⟨fun pins s σ H R I ⟨io, ρ, S, A, Rr, G, k⟩ => ?_⟩
  have G0 : Good W X.K cl io H σ (m ρ S) := Good.fst G
  cases hm : m ρ S with
  | bad => rw [hm] at G0; exact False.elim G0
  | exn x S1 =>
    refine (hpi _ he.pe).run pins s σ H R I (hD _ _ _ _ tE_mono ⟨io, ρ, S, A, Rr, G0, fun d S1 io1 H1 v e => ?_⟩)
    rw [hm] at e; cases e
  | ok d S1 =>
    have ek : mIt (iterDS f) m ρ S = iterDS f d S1 := mIt_ok hm
    rw [ek] at G k
    cases d with
    | ptr n =>
      unfold iterDS dIter at G k
      simp only at G k
      cases hS : S1[n]? with
      | none => rw [hS] at G; exact False.elim G
      | some o =>
        cases o with
        | dct kvs =>
          rw [hS] at G k
          refine (hpi _ (pe_lk he.pe)).run pins s σ H R I (hD _ _ _ _ tLk_mono ⟨io, ρ, S, A, Rr, G0, fun d S2 io1 H1 v e A1 g1 rd => ?_⟩)
          rw [hm] at e
          cases e
          cases rd with
          | @ptr _ a hn =>
            cases ptr_obj A1 hn hS with
            | @dct _ _ ws hH r =>
              refine ⟨a, .dK ws, rfl, hH, trivial, fun od nz => ⟨a, od, ws, rfl, upd_same, ?_⟩⟩
              obtain ⟨A2, g2⟩ := A1.lock (od := od) hn hS hH r
              refine k _ _ io1 _ _ rfl A2 (g1.trans g2) (src_dct hn upd_same (fun io3 S3 H3 S4 A3 g3 e3 => ?_) (go a od ws) (st a od ws) (yl a od ws) (Paired.length r))
              refine unlk_ok (g1.trans g2) hn upd_same (fun ob u z => ?_) nz A3 g3 e3
              have := g1.frz _ _ _ z
              rw [hH] at this
              cases this
        | rod kvs =>
          rw [hS] at G k
          refine (hpi _ he.pe).run pins s σ H R I (hD _ _ _ _ tE_mono ⟨io, ρ, S, A, Rr, G0, fun d S2 io1 H1 v e A1 g1 rd => ?_⟩)
          rw [hm] at e
          cases e
          cases rd with
          | @ptr _ a hn =>
            cases ptr_obj A1 hn hS with
            | @rod _ _ ws od hH r =>
              refine ⟨a, od, ws, rfl, hH, ?_⟩
              refine k _ _ io1 _ _ rfl A1 g1 (src_dct hn hH (fun io3 S3 H3 S4 A3 g3 e3 => ?_) (go a od ws) (st a od ws) (yl a od ws) (Paired.length r))
              cases e3
              exact ⟨H3, .inl rfl, A3, Gr0.rfl', g1.trans g3⟩
        | lst _ => rw [hS] at G; exact False.elim G
        | rol _ => rw [hS] at G; exact False.elim G
        | ins _ _ => rw [hS] at G; exact False.elim G
        | vw _ _ => rw [hS] at G; exact False.elim G
        | dkt _ => rw [hS] at G; exact False.elim G
        | rkt _ => rw [hS] at G; exact False.elim G
        | exc _ _ => rw [hS] at G; exact False.elim G
        | lam => rw [hS] at G; exact False.elim G
    | non => exact False.elim G
    | bl _ => exact False.elim G
    | int _ => exact False.elim G
    | str _ => exact False.elim G
    | tup _ => exact False.elim G
theorem it_keysD (he : EvE X cl W e m) : ItE X cl W tg e (mIt (iterDS (·.1)) m) := by
  refine it_dct (J := Itk) he (fun td h => pi_keys h) (fun td σ H R mo h => mo _ _ _ _ h fun v H' ⟨d, o, kvs, e, hd, q⟩ => ⟨d, o, e, .inl ⟨kvs, hd, q⟩⟩) (fun a o ws i H h hi => ⟨h, hi⟩) (fun a o ws i H h hi => ⟨h, hi⟩) fun a o ws io S H i p q x H' A y hq h1 r1 r2 => ?_
  obtain ⟨e, k, v, hk, ex⟩ := y
  subst e
  rw [hk] at hq
  cases hq
  subst ex
  exact ⟨A, Grow.rfl', r1⟩
/-- for x in e: a tuple, a list, a dict -/
theorem it_val (he : EvE X cl W e m) : ItE X cl W tg e (mIt iterS m) := by
  refine ⟨fun pins s σ H R I ⟨io, ρ, S, A, Rr, G, k⟩ => ?_⟩
  have G0 : Good W X.K cl io H σ (m ρ S) := Good.fst G
  cases hm : m ρ S with
  | bad => rw [hm] at G0; exact False.elim G0
  | exn x S1 =>
    refine (pi_tup he.pe).run pins s σ H R I ⟨io, ρ, S, A, Rr, G0, fun d S1 io1 H1 v e => ?_⟩
    rw [hm] at e; cases e
  | ok d S1 =>
    have ek : mIt iterS m ρ S = iterS d S1 := mIt_ok hm
    have k' := k
    rw [ek] at G k'
    cases d with
    | tup ds =>
      refine (pi_tup he.pe).run pins s σ H R I ⟨io, ρ, S, A, Rr, G0, fun d S2 io1 H1 v e A1 g1 rd => ?_⟩
      rw [hm] at e
      cases e
      cases rd with
      | @tup a _ vs hq rs => exact ⟨a, rfl, ⟨vs, hq⟩, k' _ _ io1 H1 _ rfl A1 g1 (src_tup g1 hq rs)⟩
    | ptr n =>
      unfold iterS at G k'
      simp only at G k'
      cases hL : listAt S1 n with
      | some ds =>
        rw [hL] at k'
        refine (pi_list he.pe).run pins s σ H R I ⟨io, ρ, S, A, Rr, G0, fun d S2 io1 H1 v e A1 g1 rd => ?_⟩
        rw [hm] at e
        cases e
        cases rd with
        | @ptr _ a hn =>
          obtain ⟨vs, hq, rs⟩ := ptr_list A1 hn hL
          exact ⟨a, rfl, ⟨vs, hq⟩, k' _ _ io1 H1 _ rfl A1 g1 (src_lst g1 hn)⟩
      | none =>
        rw [hL] at G k'
        have e2 : mIt (iterDS (·.1)) m ρ S = dIter (·.1) n S1 := mIt_ok hm
        refine (it_keysD (tg := tg) he).run pins s σ H R I ⟨io, ρ, S, A, Rr, by rw [e2]; exact G, fun src S2 io1 H1 J e A1 g1 so => k' src S2 io1 H1 J (by rw [← e2]; exact e) A1 g1 so⟩
    | str z =>
      refine (pi_str he.pe).run pins s σ H R I ⟨io, ρ, S, A, Rr, G0, fun d S2 io1 H1 v e A1 g1 rd => ?_⟩
      rw [hm] at e
      cases e
      cases rd with
      | str _ hz => exact ⟨z, rfl, k' _ _ io1 H1 _ rfl A1 g1 (src_str hz g1)⟩
    | non => exact False.elim G
    | bl _ => exact False.elim G
    | int _ => exact False.elim G
theorem mItA_ok {g : List D → Sto → Rs Src} {m : M (List D)} {ρ : Rho} {S S1 : Sto} {d : List D} (h : m ρ S = .ok d S1) : mItA g m ρ S = g d S1 := by unfold mItA; rw [h]; rfl
theorem it_tail {Q : TI} {e : Expr} {m : MI} (h : PI X tg e Q) (k : ∀ σ H R, tI X cl W m σ H R → Q σ H R) : ItE X cl W tg e m := ⟨fun pins s σ H R I q => h.run pins s σ H R I (k σ H R q)⟩
theorem it_rng1 {a : Expr} {m : M (List D)} {p pos : Pos} (hg : Gl X "range") (hm : X.mg "range" = none) (ha : EvA X cl W [a] m) (hs : starEach [a] X.env = [(false, eval a X.env)]) : ItE X cl W tg (.Call (.Name "range" p) [a] [] pos) (mItA rng1S m) := by
  refine it_tail (pi_range1 hg hm ha.pa hs) fun σ H R ⟨io, ρ, S, A, Rr, G, k⟩ => ?_
  refine ⟨io, ρ, S, A, Rr, Good.fst G, fun ds S1 io1 H1 vs e A1 g1 rs => ?_⟩
  rw [mItA_ok e] at G k
  cases rs with
  | nil => exact False.elim G
  | @cons d ds v vs r1 r2 =>
    cases r2 with
    | nil =>
      cases r1 with
      | int j =>
        unfold rng1S at G k
        simp only at G k
        split at G
        · rename_i hz
          rw [if_pos hz] at k
          exact ⟨j, rfl, hz.1, hz.2, k _ _ io1 H1 _ rfl A1 g1 (src_rng g1)⟩
        · exact False.elim G
      | _ => exact False.elim G
    | cons q1 q2 => cases r1 <;> exact False.elim G
/-! enumerate -/
theorem enumL_get : ∀ (ds : List D) (k i : Nat), (enumL k ds)[i]? = (ds[i]?).map fun d => .tup [.int ((k + i : Nat) : Int), d]
  | [], _, _ => by simp [enumL]
  | d :: ds, k, 0 => by simp [enumL]
  | d :: ds, k, i + 1 => by
    simp only [enumL, List.getElem?_cons_succ]
    rw [enumL_get ds (k + 1) i]
    have : k + 1 + i = k + (i + 1) := by omega
    rw [this]
theorem enumL_length : ∀ (ds : List D) (k : Nat), (enumL k ds).length = ds.length
  | [], _ => rfl
  | _ :: ds, k => by simp [enumL, enumL_length ds]
/-- the tuple's items in new pairs -/
def IteT (K : PySem.W.Frag) (a : Addr) : It :=
  ⟨fun i H => ∃ (xs : List V) (x : V), SqT K H a xs ∧ xs[i]? = some x, fun i H v H' => ∃ T x, v = .ref T ∧ H T = none ∧ H' = upd H T (.tup [.int (i : Nat), x]) ∧ ∀ xs, SqT K H a xs → xs[i]? = some x, fun i H => ∃ xs : List V, SqT K H a xs ∧ xs.length = i⟩
end
end MP
/-! MP10 -/
set_option Elab.async false
set_option autoImplicit false
set_option linter.all false
set_option maxRecDepth 100000
namespace MP
open PySem PySem.Spec L2
open PyProof.Rows hiding St
open Sem (wp)
open AutoSeq1 (wpAny_loadPart')
/-! ## enumerate -/
set_option maxHeartbeats 1000000 in
theorem meets_enum1 {x : Value} {ob : Obj} {P : Heap → Prop} (B : Begins x ob P) :
    Meets (Builtin.«enumerate.__new__» ⟨[.type "enumerate", x], []⟩) (fun _ R s => P s.heap ∧
      R (.ok (.ret (.ref (s.heap.push ob).objs.size))) { s with heap := (s.heap.push ob).push { cls := .type "enumerate", data := .fields #[.none, .bool false, .ref s.heap.objs.size, rawInt 0, .none, .none] } }) :=
  .of_wp fun prog w A R s hh => by
    obtain ⟨hp, g, d, tk, os⟩ := s
    obtain ⟨h1, hh⟩ := hh
    have hsub := sub_enumerate
    have q1 : ∀ {A' : Around} {E : Value → Shared → Prop} {Q : Value → Shared → Prop}, Q (.ref hp.objs.size) ⟨hp.push ob, g, d, tk, os⟩ → wpAny (model prog w) A' (pyIter x) Q E ⟨hp, g, d, tk, os⟩ :=
      fun q => B.iter prog w _ _ _ _ h1 q
    wp_walk using q1
    refine wpAny_stack_any fun st => wpAny_pure ?_
    split
    · rename_i c _ _ _ _ _
      cases (c == Value.type "enumerate") <;> (wp_walk using q1; exact ⟨_, rfl, hh⟩)
    · wp_walk using q1
      exact ⟨_, rfl, hh⟩
theorem enum_new {prog : Program} {w : World} {A : Around} {E : Value → Shared → Prop} {s : Shared} {x : Value} {ob : Obj} {P : Heap → Prop} {Q : Value → Shared → Prop} (B : Begins x ob P) (h1 : P s.heap)
    (hq : ∀ h', IsEnum h' (s.heap.objs.size + 1) s.heap.objs.size 0 .none → h'.get? s.heap.objs.size = some ob → (∀ b o, s.heap.get? b = some o → h'.get? b = some o) → Q (.ref (s.heap.objs.size + 1)) { s with heap := h' }) :
    wpAny (model prog w) A (call (.type "enumerate") [x]) Q E s := by
  refine callType_new F.called_enumerate (by decide) (F.typeCall_enumerate_1 _) (F.newCall_enumerate_1 _) (fun obj => F.args_object_init_2 obj _) F.entry_enumerate_new (meets_enum1 B) ⟨h1, ?_⟩
  have hz : (s.heap.push ob).objs.size = s.heap.objs.size + 1 := Heap.size_push ..
  have he := Heap.get?_push_size (s.heap.push ob) (o := { cls := .type "enumerate", data := .fields #[.none, .bool false, .ref s.heap.objs.size, rawInt 0, .none, .none] }) rfl
  show _ ∧ _
  rw [hz] at he ⊢
  exact ⟨⟨_, he, rfl⟩, hq _ he (Heap.get?_push_of_some _ (Heap.get?_push_size _ B.free)) fun b o z => Heap.get?_push_of_some _ (Heap.get?_push_of_some _ z)⟩
theorem turn_enumT {P : Program} {w : World} {K : PySem.W.Frag} {elts : List Expr} {kk : Nat} {tpos : Pos} (a e it : Addr) :
    Turn P w K (.Tuple elts kk tpos) (IteT K a) [e, it] e (fun i h => (∃ old, IsEnum h e it ((i : Nat) : Int) old) ∧ h.IsTupleIter it a i ∧ e ≠ it ∧ a ≠ e ∧ a ≠ it) where
  mem := by simp
  obj := fun i h ⟨⟨old, he⟩, ⟨o, ho, hc, hd⟩, _⟩ b hb => by
    rcases List.mem_cons.mp hb with z | z
    · rw [z]; exact ⟨_, he, fun v q => nomatch q⟩
    · rw [List.mem_singleton.mp z]; exact ⟨o, ho, fun v q => by rw [hd] at q; cases q⟩
  keep := fun i h h' ⟨⟨old, he⟩, hi, hne⟩ k => ⟨⟨old, k e (by simp) _ he⟩, hi.at fun o q => k it (by simp) o q, hne⟩
  item := by
    intro X hP hw hK hc i pins s σ H E I hf st hg
    subst hP hw hK
    obtain ⟨⟨old, he⟩, hit, hne, hae, hai⟩ := st
    obtain ⟨xs, x, hq, hx⟩ := hg
    obtain ⟨its, rv, p, hz⟩ := I.tuple hq
    obtain ⟨u, hu, ru⟩ := rv.get hx
    have hel : e < s.heap.objs.size := Heap.lt_size he
    have hil : it < s.heap.objs.size := by obtain ⟨_, q, _⟩ := hit; exact Heap.lt_size q
    have hsz : i < its.toArray.size := by simpa using (List.getElem?_eq_some_iff.mp hu).1
    refine wpAny_pyNext_enum_itemC (Draws.tuple (A := X.A.in1) (I.ok.hd hc) it a hai its.toArray) he ⟨hit, p⟩ hsz hne (by simp [hne]; exact Ne.symm hae) fun y h' tk hy ho hst hT hs2 hk => ?_
    obtain rfl : u = y := by
      have hy : its.toArray[i]? = some y := hy
      have : its[i]? = some y := by simpa using hy
      rw [hu] at this
      exact Option.some.inj this
    refine ⟨_, rfl, wpAny_letOwnedTupleGo_enum (s := { s with heap := h', toks := tk + 1 }) ho fun h'' he' sb => ?_⟩
    have hT2 := (sb.2 _ (Nat.ne_of_gt hel)).trans hT
    have new : ObjOk X.prog X.w (upd H s.heap.objs.size (.tup [.int (i : Nat), x])) h'' s.heap.objs.size (.tup [.int (i : Nat), x]) :=
      ⟨by show 2 ≤ sizeLine; decide, [.int i tk, u], .cons ⟨_, rfl⟩ (.cons ru .nil), ⟨_, hT2, rfl, _, rfl⟩⟩
    have I1 : Inv X pins σ (upd H s.heap.objs.size (.tup [.int (i : Nat), x])) { s with heap := h'', toks := tk + 1 } :=
      I.turnedNew (ch := [e, it]) (fun b ob hb q => (sb.2 b (fun z => hb (by simp [z]))).trans (hk b ob (fun z => hb (by simp [z])) (fun z => hb (by simp [z])) q)) hf (Nat.le_refl _) new
    refine ⟨.ref s.heap.objs.size, _, I1, rfl, ⟨_, x, rfl, I.hok.fresh (Nat.le_refl _), rfl, fun ys hy => by rw [I.tuple_inj hy hq]; exact hx⟩, ⟨⟨u, ?_⟩, hst.1.at fun o q => (sb.2 it (Ne.symm hne)).trans q, hne, hae, hai⟩, fun b hb => ?_⟩
    · have e1 : ((i + 1 : Nat) : Int) = (i : Int) + 1 := by omega
      rw [e1]; exact he'
    · have hb' : b < s.heap.objs.size := by
        rcases List.mem_cons.mp hb with z | z
        · rw [z]; exact hel
        · rw [List.mem_singleton.mp z]; exact hil
      rw [upd_ne (Nat.ne_of_lt hb')]
      exact (hf b hb).1
  done := by
    intro X hP hw hK hc i pins s σ H E I hf st hg
    subst hP hw hK
    obtain ⟨⟨old, he⟩, hit, hne, hae, hai⟩ := st
    obtain ⟨xs, hq, hx⟩ := hg
    obtain ⟨its, rv, p, hz⟩ := I.tuple hq
    have el : its.toArray.size = i := by rw [← hx, rv.length]; simp
    exact wpAny_pyNext_enum_endD (Draws.tuple (A := X.A.in1) (I.ok.hd hc) it a hai its.toArray) he (by rw [el]; exact ⟨hit, p⟩) fun h' eb => ⟨rfl, I.turnedL (ch := [e, it]) (t' := s.toks) (fun b o hb q => eb b o (fun z => hb (by simp [z])) q) hf⟩
  self := fun A i s Q E ⟨⟨_, he⟩, _⟩ h => wpAny_pyIter_enum he h
section
variable {X : Cx} {cl : Cl} {W : WX} {e : Expr} {m : M D} {p pos tpos : Pos} {elts : List Expr} {kk : Nat} {io0 io1 : List Addr} {H0 H1 : Hp}
theorem enum_get {ds : List D} {i : Nat} {d : D} (h : (enumL 0 ds)[i]? = some d) : ∃ d', ds[i]? = some d' ∧ d = .tup [.int (i : Nat), d'] := by
  rw [enumL_get, Nat.zero_add] at h
  cases e : ds[i]? with
  | none => rw [e] at h; cases h
  | some d' => rw [e] at h; exact ⟨d', rfl, (Option.some.inj h).symm⟩
theorem pair_new {io : List Addr} {S : Sto} {H : Hp} {T : Addr} {i : Nat} {d : D} {v : V} (A : Abs X.K cl io S H) (hT : H T = none) (r : RelD X.K io H d v) : Abs X.K cl io S (upd H T (.tup [.int i, v])) ∧ Grow X.K io H io (upd H T (.tup [.int i, v])) ∧ RelD X.K io (upd H T (.tup [.int i, v])) (.tup [.int i, d]) (.ref T) := by
  have g : Grow X.K io H io (upd H T (.tup [.int i, v])) := grow_upd (.inl hT)
  exact ⟨A.tup hT, g, .tup ⟨SqT.of upd_same, fun e => by simp [D.isP2] at e⟩ ((RelDs.cons (.int _) (.cons r .nil)).mono g)⟩
theorem src_enumT {a : Addr} {ds : List D} {vs : List V} (g01 : Grow X.K io0 H0 io1 H1) (hq : SqT X.K H1 a vs) (rs : RelDs X.K io1 H1 ds vs) : SrcOk X cl (IteT X.K a) (srcT (enumL 0 ds)) io0 H0 io1 H1 := by
  refine srcOk_plain g01 rfl (fun io S H i d A g _ hd => ?_) fun io S H i A g _ hl => ?_
  · obtain ⟨d', hd', rfl⟩ := enum_get hd
    obtain ⟨v, hv, rv⟩ := rs.get hd'
    refine ⟨⟨vs, v, g.tup hq, hv⟩, fun x H' ⟨T, y, ex, hT, eH, hy⟩ => ?_⟩
    have := hy vs (g.tup hq)
    rw [hv] at this
    cases this
    subst ex eH
    exact pair_new A hT (rv.mono g)
  · have hl : (enumL 0 ds).length = i := hl
    rw [enumL_length] at hl
    exact ⟨vs, g.tup hq, by rw [← rs.length]; exact hl⟩
theorem src_enumLs {a : Addr} {n : Nat} {ds : List D} (g01 : Grow X.K io0 H0 io1 H1) (hn : io1[n]? = some a) : SrcOk X cl (Ite X.K a) ⟨enumL 0 ds, fun S => decide (listAt S n = some ds), some⟩ io0 H0 io1 H1 := by
  refine srcOk_plain g01 rfl (fun io S H i d A g hk hd => ?_) fun io S H i A g hk hl => ?_
  · obtain ⟨vs, hq, rs⟩ := ptr_list A (g.get hn) (of_decide_eq_true hk)
    obtain ⟨d', hd', rfl⟩ := enum_get hd
    obtain ⟨v, hv, rv⟩ := rs.get hd'
    refine ⟨⟨vs, v, hq, hv⟩, fun x H' ⟨T, y, ex, hT, eH, hy⟩ => ?_⟩
    have := hy vs hq
    rw [hv] at this
    cases this
    subst ex eH
    exact pair_new A hT rv
  · obtain ⟨vs, hq, rs⟩ := ptr_list A (g.get hn) (of_decide_eq_true hk)
    have hl : (enumL 0 ds).length = i := hl
    rw [enumL_length] at hl
    exact ⟨vs, hq, by rw [← rs.length]; exact Nat.le_of_eq hl⟩
/-- enumerate(e): a list, a tuple -/
def enumA : List D → Sto → Rs Src
  | [d], S => enumS d S
  | _, _ => .bad
theorem it_enum {m : M (List D)} (hg : Gl X "enumerate") (hm : X.mg "enumerate" = none) (ha : EvA X cl W [e] m) (hs : starEach [e] X.env = [(false, eval e X.env)]) : ItE X cl W (.Tuple elts kk tpos) (.Call (.Name "enumerate" p) [e] [] pos) (mItA enumA m) := by
  refine ⟨fun pins s σ H R I ⟨io, ρ, S, A, Rr, G, k⟩ => ?_⟩
  refine Call_ (ld_blt I hg hm boot_enumerate (PyProof.Rows.callWith_type1 (ha.bind I A Rr G fun ds S1 io1 H1 vs us s1 em I1 A1 g1 R1 rs rv G1 => ?_) hs rfl))
  rw [mItA_ok em] at k
  cases rs with
  | nil => exact False.elim G1
  | @cons d ds v vs r1 r2 =>
    cases r2 with
    | cons _ _ => exact False.elim G1
    | nil =>
      cases rv with
      | @cons _ _ u us u1 u2 =>
        cases u2
        have fp2 : ∀ b, b ∈ [s1.heap.objs.size + 1, s1.heap.objs.size] → FpOk X pins H1 b := fun b hb => by
          have hle : s1.heap.objs.size ≤ b := by
            rcases List.mem_cons.mp hb with z | z
            · rw [z]; exact Nat.le_add_right _ _
            · rw [List.mem_singleton.mp z]; exact Nat.le_refl _
          exact I1.fpOk hle (I1.hok.fresh hle)
        cases r1 with
        | @tup a ds vs hq rs =>
          have eu : _ = Value.ref a := u1
          subst eu
          obtain ⟨its, rv, pp, hz⟩ := I1.tuple hq.1
          have la : a < s1.heap.objs.size := by obtain ⟨_, q, _⟩ := pp; exact Heap.lt_size q
          refine enum_new (begins_tuple a its.toArray) pp fun h' he hit hk => wpAny_pyIter_enum he ?_
          have I2 : Inv X pins σ H1 { s1 with heap := h' } := I1.kept (t' := s1.toks) hk
          exact ⟨s1.heap.objs.size + 1, [s1.heap.objs.size + 1, s1.heap.objs.size], _, _, H1, rfl, I2, turn_enumT a (s1.heap.objs.size + 1) s1.heap.objs.size, ⟨⟨.none, he⟩, ⟨_, hit, rfl, rfl⟩, Nat.succ_ne_self _, Nat.ne_of_lt (Nat.lt_succ_of_lt la), Nat.ne_of_lt la⟩, fp2,
            k _ S1 io1 H1 _ rfl A1 g1 (src_enumT g1 hq rs)⟩
        | @ptr n a hn =>
          have eu : _ = Value.ref a := u1
          subst eu
          unfold enumA enumS at G1 k
          simp only at G1 k
          cases hL : listAt S1 n with
          | none => rw [hL] at G1; exact False.elim G1
          | some ds =>
            rw [hL] at k
            obtain ⟨vs, hq, rs⟩ := ptr_list A1 hn hL
            obtain ⟨its, rv, pp, hz⟩ := I1.list hq
            refine enum_new (begins_list a its.toArray) pp.isList fun h' he hit hk => wpAny_pyIter_enum he ?_
            have I2 : Inv X pins σ H1 { s1 with heap := h' } := I1.kept (t' := s1.toks) hk
            exact ⟨s1.heap.objs.size + 1, [s1.heap.objs.size + 1, s1.heap.objs.size], _, _, H1, rfl, I2, turn_enum a (s1.heap.objs.size + 1) s1.heap.objs.size, ⟨⟨.none, he⟩, ⟨_, hit, rfl, rfl⟩, Nat.succ_ne_self _⟩, fp2,
              k _ S1 io1 H1 _ rfl A1 g1 (src_enumLs g1 hn)⟩
        | _ => exact False.elim G1
end
end MP
/-! MP11 -/
set_option Elab.async false
set_option autoImplicit false
set_option linter.all false
set_option maxRecDepth 100000
namespace MP
open PySem PySem.Spec L2
open PyProof.Rows hiding St

/-! ## for -/
def forE (src : Src) (f : Fl) (S : Sto) : Rs Fl := match src.fin S with
  | some S' => .ok f S'
  | none => .bad
def forK (next : MS) (src : Src) : Rs Fl → Rs Fl
  | .ok (.nx ρ) S => next ρ S
  | .ok (.cnt ρ) S => next ρ S
  | .ok (.brk ρ) S => forE src (.nx ρ) S
  | .ok (.ret d) S => forE src (.ret d) S
  | .ok (.exn x ρ) S => .ok (.exn x ρ) S
  | _ => .bad
def forL (g : MG) (b : MS) (src : Src) : List D → MS
  | [], ρ, S => if src.keep S = true then forE src (.nx ρ) S else .bad
  | d :: ds, ρ, S => if src.keep S = true then (match g d ρ S with
      | .ok ρ1 S1 => forK (forL g b src ds) src (b ρ1 S1)
      | _ => .bad) else .bad
def mFor (mi : MI) (g : MG) (b : MS) : MS := eS mi fun src => forL g b src src.items
section
variable {X : Cx} {cl : Cl} {W : WX} {tg iter : Expr} {body : List Stmt} {pos : Pos} {mi : MI} {g : MG} {b : MS} {l : List Nat}
theorem forE_good {K : PySem.W.Frag} {io : List Addr} {H : Hp} {src : Src} {f : Fl} {S : Sto} (G : GoodS W K cl io H (forE src f S)) : ∃ S', src.fin S = some S' ∧ forE src f S = .ok f S' := by
  unfold forE at G ⊢
  cases e : src.fin S with
  | none => rw [e] at G; exact False.elim G
  | some S' => exact ⟨S', rfl, rfl⟩
theorem s_for (hp : PassesOwn (model X.prog X.w) X.A X.env X.xe) (hc : X.calm = true) (hi : ItE X cl W tg iter mi) (hg : TgE X cl tg g l) (hb : SsE X cl W body b) (hs : ∀ x, foldedSetIterable iter X.env x = pure x) : StE X cl W (.For tg iter body [] pos) (mFor mi g b) := by
  refine PS.imp (ps_unl (ps_for hp hc hi hg hb hs)) fun E σ H ⟨io, ρ, S, A, R, G, k⟩ => ?_
  refine ⟨io, ρ, S, A, R, eS_good R G, fun src S1 io1 H1 J e A1 g1 so => ?_⟩
  have tot : mFor mi g b ρ S = forL g b src src.items ρ S1 := eS_of e
  rw [tot] at G k
  refine ⟨fun i m σ' H' => ∃ io' ρ' S', m = src.items.length - i ∧ i ≤ src.items.length ∧ Abs X.K cl io' S' H' ∧ Grow X.K io1 H1 io' H' ∧ RelRho X.K io' H' ρ' σ' ∧ forL g b src (src.items.drop i) ρ' S' = forL g b src src.items ρ S1,
    ⟨src.items.length, io1, ρ, S1, rfl, Nat.zero_le _, A1, Grow.rfl', RelRho.mono g1 R, by rw [List.drop_zero]⟩, ?_⟩
  rintro i m σ' H' ⟨io', ρ', S', em, hle, A', g', R', et⟩
  rw [← et] at G k
  have endF : ∀ {f : Fl} {io2 H2 S2}, forL g b src (src.items.drop i) ρ' S' = forE src f S2 → Abs X.K cl io2 S2 H2 → Grow X.K io1 H1 io2 H2 → ∃ H3 S3, Unl X H2 H3 ∧ Abs X.K cl io2 S3 H3 ∧ Gr0 X.K io2 H2 io2 H3 ∧ Grow X.K io H io2 H3 ∧ forL g b src (src.items.drop i) ρ' S' = .ok f S3 := fun {f io2 H2 S2} ef A2 g2 => by
    rw [ef] at G
    obtain ⟨S3, e3, ee⟩ := forE_good G
    obtain ⟨H3, un, A3, g3, g4⟩ := so.fin io2 S2 H2 S3 A2 g2 e3
    exact ⟨H3, S3, un, A3, g3, g4, ef.trans ee⟩
  by_cases hi' : i < src.items.length
  · right
    have ed : src.items.drop i = src.items[i] :: src.items.drop (i + 1) := List.drop_eq_getElem_cons hi'
    have eg : src.items[i]? = some src.items[i] := List.getElem?_eq_getElem hi'
    have hk : src.keep S' = true := by
      cases hk : src.keep S' with
      | true => rfl
      | false =>
        rw [ed] at G
        unfold forL at G
        rw [if_neg (by simp [hk])] at G
        exact False.elim G
    have e1 : forL g b src (src.items.drop i) ρ' S' = match g src.items[i] ρ' S' with
        | .ok ρ1 S1 => forK (forL g b src (src.items.drop (i + 1))) src (b ρ1 S1)
        | _ => .bad := by
      rw [ed]
      conv => lhs; unfold forL
      rw [if_pos hk]
    obtain ⟨hgo, hy⟩ := so.item io' S' H' i _ A' g' hk eg
    refine ⟨hgo, fun σ3 H3 => ∃ io3 ρ3 S3, Abs X.K cl io3 S3 H3 ∧ Grow X.K io1 H1 io3 H3 ∧ RelRho X.K io3 H3 ρ3 σ3 ∧ forL g b src (src.items.drop (i + 1)) ρ3 S3 = forL g b src (src.items.drop i) ρ' S',
      fun σ3 H3 ⟨io3, ρ3, S3, A3, g3, R3, e3⟩ => ⟨src.items.length - (i + 1), by omega, io3, ρ3, S3, rfl, hi', A3, g3, R3, e3.trans et⟩, fun x H2 y => ?_⟩
    obtain ⟨A2, g2, rx⟩ := hy x H2 y
    refine ⟨io', ρ', S', _, A2, RelRho.mono g2 R', rx, ?_, fun ρ3 S3 io3 H3 σ3 e3 A3 g3 R3 _ => ?_⟩
    · rw [e1] at G
      cases eg : g src.items[i] ρ' S' with
      | ok _ _ => trivial
      | exn _ _ => rw [eg] at G; exact G
      | bad => rw [eg] at G; exact G
    · rw [e3] at e1
      have e1 : forL g b src (src.items.drop i) ρ' S' = forK (forL g b src (src.items.drop (i + 1))) src (b ρ3 S3) := e1
      have g13 : Grow X.K io1 H1 io3 H3 := (g'.trans g2).trans g3
      refine ⟨io3, ρ3, S3, A3, R3, ?_, fun fl S4 io4 H4 σ4 e4 A4 g4 => ?_⟩
      · rw [e1] at G
        cases eb : b ρ3 S3 with
        | ok f S4 =>
          rw [eb] at G
          cases f with
          | exn x ρ4 => exact GoodS.mono (g1.trans g13) G
          | _ => trivial
        | exn _ _ => rw [eb] at G; exact G
        | bad => rw [eb] at G; exact G
      · rw [e4] at e1
        have g14 := g13.trans g4
        cases fl with
        | nx ρ4 => exact fun R4 => ⟨io4, ρ4, S4, A4, g14, R4, e1.symm⟩
        | cnt ρ4 => exact fun R4 => ⟨io4, ρ4, S4, A4, g14, R4, e1.symm⟩
        | brk ρ4 =>
          intro R4
          obtain ⟨H5, S5, un, A5, g5, g05, e5⟩ := endF e1 A4 g14
          exact ⟨H5, un, k (.nx ρ4) S5 io4 H5 σ4 e5 A5 g05 (RelRho.mono0 g5 R4)⟩
        | ret d =>
          intro v rv
          obtain ⟨H5, S5, un, A5, g5, g05, e5⟩ := endF e1 A4 g14
          exact ⟨H5, un, k (.ret d) S5 io4 H5 σ4 e5 A5 g05 v (rv.mono0 g5)⟩
        | exn x ρ4 => trivial
  · left
    have ei : i = src.items.length := by omega
    have ed : src.items.drop i = [] := by rw [ei, List.drop_length]
    have hk : src.keep S' = true := by
      cases hk : src.keep S' with
      | true => rfl
      | false =>
        rw [ed] at G
        unfold forL at G
        rw [if_neg (by simp [hk])] at G
        exact False.elim G
    have e1 : forL g b src (src.items.drop i) ρ' S' = forE src (.nx ρ') S' := by
      rw [ed]
      unfold forL
      rw [if_pos hk]
    refine ⟨so.stop io' S' H' i A' g' hk ei.symm, ?_⟩
    obtain ⟨H5, S5, un, A5, g5, g05, e5⟩ := endF e1 A' g'
    exact ⟨H5, un, k (.nx ρ') S5 io' H5 σ' e5 A5 g05 (RelRho.mono0 g5 R')⟩

/-! ## while -/
def whF (c : M Bool) (b : MS) : Nat → Rho → Sto → Option (Rs Fl)
  | 0, _, _ => none
  | n + 1, ρ, S => match c ρ S with
    | .ok true S1 => match b ρ S1 with
      | .ok (.nx ρ2) S2 => whF c b n ρ2 S2
      | .ok (.cnt ρ2) S2 => whF c b n ρ2 S2
      | .ok (.brk ρ2) S2 => some (.ok (.nx ρ2) S2)
      | r => some r
    | .ok false S1 => some (.ok (.nx ρ) S1)
    | .exn x S1 => some (.ok (.exn x ρ) S1)
    | .bad => some .bad
open Classical in
noncomputable def mWhile (c : M Bool) (b : MS) : MS := fun ρ S => if h : ∃ n r, whF c b n ρ S = some r then h.choose_spec.choose else .bad
end
end MP
/-! MP12 -/
set_option Elab.async false
set_option autoImplicit false
set_option linter.all false
set_option maxRecDepth 100000
namespace MP
open PySem PySem.Spec L2
open PyProof.Rows hiding St

/-! ## comprehensions -/
/-- no exception leaves a comprehension's block -/
def noX {α : Type} : Rs α → Rs α
  | .ok a S => .ok a S
  | _ => .bad
def WF : WX := fun _ _ _ _ => False
/-- the slots of the block's own names forgotten -/
def wipeR (ρ : Rho) : List Nat → Rho
  | [] => ρ
  | v :: vs => (wipeR ρ vs).set v none
def pushL (n : Nat) (y : D) (S : Sto) : Option Sto := match S[n]? with
  | some (.lst acc) => if acc.length < sizeLine then some (S.set n (.lst (acc ++ [y]))) else none
  | _ => none
def lcL (g : MG) (t : M Bool) (el : M D) (src : Src) (n : Nat) (ρ0 : Rho) : List D → Sto → Rs D
  | [], S => if src.keep S = true then (match src.fin S with
      | some S' => .ok (.ptr n) S'
      | none => .bad) else .bad
  | d :: ds, S => if src.keep S = true then (match g d ρ0 S with
      | .ok ρ1 S1 => (noX (t ρ1 S1)).bind fun c S2 => if c = true then (noX (el ρ1 S2)).bind fun y S3 => match pushL n y S3 with
          | some S4 => lcL g t el src n ρ0 ds S4
          | none => .bad
        else lcL g t el src n ρ0 ds S2
      | _ => .bad) else .bad
def mLc (mi : MI) (g : MG) (t : M Bool) (el : M D) (vs : List Nat) : M D := fun ρ S => (mi ρ S).bind fun src S1 => lcL g t el src S1.length (wipeR ρ vs) src.items (S1 ++ [.lst []])
def pushD (n : Nat) (k v : D) (S : Sto) : Option Sto := match S[n]? with
  | some (.dct kvs) => match keyD k with
    | some _ => if kvs.length < sizeLine then some (S.set n (.dct (dput kvs k v))) else none
    | none => none
  | _ => none
def dcL (g : MG) (t : M Bool) (ek el : M D) (src : Src) (n : Nat) (ρ0 : Rho) : List D → Sto → Rs D
  | [], S => if src.keep S = true then (match src.fin S with
      | some S' => .ok (.ptr n) S'
      | none => .bad) else .bad
  | d :: ds, S => if src.keep S = true then (match g d ρ0 S with
      | .ok ρ1 S1 => (noX (t ρ1 S1)).bind fun c S2 => if c = true then (noX (ek ρ1 S2)).bind fun z S3 => (noX (el ρ1 S3)).bind fun y S5 => match pushD n z y S5 with
          | some S4 => dcL g t ek el src n ρ0 ds S4
          | none => .bad
        else dcL g t ek el src n ρ0 ds S2
      | _ => .bad) else .bad
def mDc (mi : MI) (g : MG) (t : M Bool) (ek el : M D) (vs : List Nat) : M D := fun ρ S => (mi ρ S).bind fun src S1 => dcL g t ek el src S1.length (wipeR ρ vs) src.items (S1 ++ [.dct []])
def mYes : M Bool := fun _ S => .ok true S
section
variable {X : Cx} {cl : Cl} {W : WX}
theorem wipe_rel {K : PySem.W.Frag} {io : List Addr} {H : Hp} {ρ : Rho} {σ : L2.St} (R : RelRho K io H ρ σ) : ∀ vs, RelRho K io H (wipeR ρ vs) (wipe σ vs)
  | [] => R
  | v :: vs => RelRho.setN v (wipe_rel R vs)
theorem wipe_get {σ : L2.St} {i : Nat} : ∀ {vs : List Nat}, i ∈ vs → i < σ.length → (wipe σ vs)[i]? = some none
  | v :: vs, h, hl => by
    unfold wipe
    by_cases e : v = i
    · subst e
      exact List.getElem?_set_self (by rw [wipe_length]; exact hl)
    · rw [List.getElem?_set_ne e]
      rcases List.mem_cons.mp h with z | z
      · exact absurd z.symm e
      · exact wipe_get z hl
/-- behind a store into the block's own names the rest is as it was -/
theorem wipe_keeps {σ σ' : L2.St} {l vs : List Nat} (hl : ∀ j ∈ l, j ∈ vs) (k : Keeps l (wipe σ vs) σ') : wipe σ' vs = wipe σ vs := by
  have len : σ'.length = σ.length := k.1.trans (wipe_length σ vs)
  refine List.ext_getElem? fun i => ?_
  by_cases hi : i ∈ vs
  · by_cases hl2 : i < σ.length
    · rw [wipe_get hi hl2, wipe_get hi (by rw [len]; exact hl2)]
    · rw [List.getElem?_eq_none (by rw [wipe_length, len]; omega), List.getElem?_eq_none (by rw [wipe_length]; omega)]
  · rw [wipe_out hi, k.2 i fun z => hi (hl i z)]
structure EvTs (X : Cx) (cl : Cl) (W : WX) (ifs : List Expr) (m : M Bool) : Prop where
  pt : PTs X ifs (tT cl X.K W m)
theorem ets_one {c : Expr} {m : M Bool} (h : EvT X cl W c m) : EvTs X cl W [c] m := ⟨pts_one h.pt⟩
theorem noX_bind {α β : Type} {K : PySem.W.Frag} {io : List Addr} {H : Hp} {σ : L2.St} {r : Rs α} {f : α → Sto → Rs β} (G : Good W K cl io H σ ((noX r).bind f)) : Good WF K cl io H σ r ∧ ∀ a S, r = .ok a S → (noX r).bind f = f a S := by
  cases r with
  | ok a S => exact ⟨trivial, fun a' S' e => by cases e; rfl⟩
  | exn _ _ => exact False.elim G
  | bad => exact False.elim G
theorem noX_of {α β : Type} {r : Rs α} {f : α → Sto → Rs β} {a : α} {S : Sto} (e : r = .ok a S) : (noX r).bind f = f a S := by rw [e]; rfl
theorem pushL_ok {io : List Addr} {S S' : Sto} {H : Hp} {n : Nat} {p : Addr} {y : D} {v : V} (A : Abs X.K cl io S H) (hn : io[n]? = some p) (r : RelD X.K io H y v) (e : pushL n y S = some S') :
    ∃ acc, H p = some (.lst acc) ∧ acc.length < sizeLine ∧ Abs X.K cl io S' (upd H p (.lst (acc ++ [v]))) ∧ Grow X.K io H io (upd H p (.lst (acc ++ [v]))) := by
  unfold pushL at e
  split at e
  · rename_i ds hS
    split at e
    · rename_i hz
      cases e
      cases ptr_obj A hn hS with
      | @lst _ _ vs hH rs =>
        have mu : Mut (H p) := mut_some hH trivial
        have g : Grow X.K io H io (upd H p (.lst (vs ++ [v]))) := grow_upd (.inr mu)
        exact ⟨vs, hH, by rw [← rs.length]; exact hz, A.put hn hS rfl rfl (.lst upd_same ((rs.app (.cons r .nil)).mono g)), g⟩
    · cases e
  · cases e
/-- the reading of a list comprehension -/
theorem lc_of {mi : MI} {g : MG} {t : M Bool} {el : M D} {l vs : List Nat} (hl : ∀ j ∈ l, j ∈ vs) {σ : L2.St} {H : Hp} {Q : VK} {io : List Addr} {ρ : Rho} {S : Sto} (A : Abs X.K cl io S H) (R : RelRho X.K io H ρ σ) (G : Good W X.K cl io H σ (mLc mi g t el vs ρ S))
    (k : ∀ d S' io' H' v, mLc mi g t el vs ρ S = .ok d S' → Abs X.K cl io' S' H' → Grow X.K io H io' H' → RelD X.K io' H' d v → Q v H') :
    tLc (tI X cl W mi) (tG cl X.K g l) (tT cl X.K WF t) (tE cl X.K WF el) vs σ H (fun v H1 => ∃ H', Unl X H1 H' ∧ Q v H') := by
  refine ⟨io, ρ, S, A, R, Good.fst G, fun src S1 io1 H1 J e A1 g1 so => fun L hL => ?_⟩
  have tot : mLc mi g t el vs ρ S = lcL g t el src S1.length (wipeR ρ vs) src.items (S1 ++ [.lst []]) := by unfold mLc; rw [e]; rfl
  rw [tot] at G k
  have gL : Grow X.K io1 H1 (io1 ++ [L]) (upd H1 L (.lst [])) := grow_new hL
  have AL : Abs X.K cl (io1 ++ [L]) (S1 ++ [.lst []]) (upd H1 L (.lst [])) := A1.new hL (.lst upd_same .nil)
  have hLn : (io1 ++ [L])[S1.length]? = some L := by rw [List.getElem?_append_right (by rw [A1.len]; exact Nat.le_refl _), A1.len]; simp
  have RL : RelRho X.K (io1 ++ [L]) (upd H1 L (.lst [])) (wipeR ρ vs) (wipe σ vs) := RelRho.mono gL (RelRho.mono g1 (wipe_rel R vs))
  refine ⟨fun i m H' => ∃ io' S', m = src.items.length - i ∧ i ≤ src.items.length ∧ Abs X.K cl io' S' H' ∧ Grow X.K (io1 ++ [L]) (upd H1 L (.lst [])) io' H' ∧ lcL g t el src S1.length (wipeR ρ vs) (src.items.drop i) S' = lcL g t el src S1.length (wipeR ρ vs) src.items (S1 ++ [.lst []]),
    ⟨src.items.length, _, _, rfl, Nat.zero_le _, AL, Grow.rfl', by rw [List.drop_zero]⟩, ?_⟩
  rintro i m H' ⟨io', S', em, hle, A', g', et⟩
  rw [← et] at G k
  have hk : src.keep S' = true := by
    cases hk : src.keep S' with
    | true => rfl
    | false =>
      cases ed : src.items.drop i with
      | nil => rw [ed] at G; unfold lcL at G; rw [if_neg (by simp [hk])] at G; exact False.elim G
      | cons d ds => rw [ed] at G; unfold lcL at G; rw [if_neg (by simp [hk])] at G; exact False.elim G
  have g1' : Grow X.K io1 H1 io' H' := gL.trans g'
  by_cases hi' : i < src.items.length
  · right
    have ed : src.items.drop i = src.items[i] :: src.items.drop (i + 1) := List.drop_eq_getElem_cons hi'
    have eg : src.items[i]? = some src.items[i] := List.getElem?_eq_getElem hi'
    obtain ⟨hgo, hy⟩ := so.item io' S' H' i _ A' g1' hk eg
    refine ⟨hgo, fun H3 => ∃ io3 S3, Abs X.K cl io3 S3 H3 ∧ Grow X.K (io1 ++ [L]) (upd H1 L (.lst [])) io3 H3 ∧ lcL g t el src S1.length (wipeR ρ vs) (src.items.drop (i + 1)) S3 = lcL g t el src S1.length (wipeR ρ vs) (src.items.drop i) S',
      fun H3 ⟨io3, S3, A3, g3, e3⟩ => ⟨src.items.length - (i + 1), by omega, io3, S3, rfl, hi', A3, g3, e3.trans et⟩, fun x H2 y => ?_⟩
    obtain ⟨A2, g2, rx⟩ := hy x H2 y
    have e1 : lcL g t el src S1.length (wipeR ρ vs) (src.items.drop i) S' = match g src.items[i] (wipeR ρ vs) S' with
      | .ok ρ1 S1' => (noX (t ρ1 S1')).bind fun c S2 => if c = true then (noX (el ρ1 S2)).bind fun y S3 => match pushL S1.length y S3 with
          | some S4 => lcL g t el src S1.length (wipeR ρ vs) (src.items.drop (i + 1)) S4
          | none => .bad
        else lcL g t el src S1.length (wipeR ρ vs) (src.items.drop (i + 1)) S2
      | _ => .bad := by
      rw [ed]
      conv => lhs; unfold lcL
      rw [if_pos hk]
    have g12 := g'.trans g2
    refine ⟨io', wipeR ρ vs, S', _, A2, RelRho.mono g12 RL, rx, ?_, fun ρ3 S3 io3 H3 σ3 e3 A3 g3 R3 kp => ⟨wipe_keeps hl kp, ?_⟩⟩
    · rw [e1] at G
      cases eg : g src.items[i] (wipeR ρ vs) S' with
      | ok _ _ => trivial
      | exn _ _ => rw [eg] at G; exact G
      | bad => rw [eg] at G; exact G
    · rw [e3] at e1
      dsimp only at e1
      rw [e1] at G
      have G3 := Good.mono ((g1.trans gL).trans (g12.trans g3)) G
      obtain ⟨Gt, _⟩ := noX_bind (σ := σ) G3
      have Gt3 : Good WF X.K cl io3 H3 σ3 (t ρ3 S3) := by
        cases h : t ρ3 S3 with
        | ok _ _ => trivial
        | exn x Sx => rw [h] at G; exact False.elim G
        | bad => rw [h] at G; exact False.elim G
      refine ⟨io3, ρ3, S3, A3, R3, Gt3, fun c S4 io4 H4 e4 A4 g4 => ?_⟩
      rw [noX_of e4] at e1 G
      cases c with
      | false =>
        rw [if_neg Bool.false_ne_true] at e1 ⊢
        exact ⟨io4, S4, A4, (g12.trans g3).trans g4, e1.symm⟩
      | true =>
        rw [if_pos rfl] at e1 G ⊢
        have Ge : Good WF X.K cl io4 H4 σ3 (el ρ3 S4) := by
          cases h : el ρ3 S4 with
          | ok _ _ => trivial
          | exn x Sx => rw [h] at G; exact False.elim G
          | bad => rw [h] at G; exact False.elim G
        refine ⟨io4, ρ3, S4, A4, RelRho.mono g4 R3, Ge, fun y S5 io5 H5 v e5 A5 g5 r5 => ?_⟩
        rw [noX_of e5] at e1 G
        have g15 := ((g12.trans g3).trans g4).trans g5
        cases hp : pushL S1.length y S5 with
        | none => rw [hp] at G; exact False.elim G
        | some S6 =>
          rw [hp] at e1
          obtain ⟨acc, hacc, hz, A6, g6⟩ := pushL_ok A5 (g15.get hLn) r5 hp
          exact ⟨acc, hacc, hz, io5, S6, A6, g15.trans g6, e1.symm⟩
  · left
    have ei : i = src.items.length := by omega
    have ed : src.items.drop i = [] := by rw [ei, List.drop_length]
    have e1 : lcL g t el src S1.length (wipeR ρ vs) (src.items.drop i) S' = match src.fin S' with
      | some S' => .ok (.ptr S1.length) S'
      | none => .bad := by
      rw [ed]
      unfold lcL
      rw [if_pos hk]
    refine ⟨so.stop io' S' H' i A' g1' hk ei.symm, ?_⟩
    cases hf : src.fin S' with
    | none => rw [e1, hf] at G; exact False.elim G
    | some S5 =>
      rw [hf] at e1
      obtain ⟨H5, un, A5, g5, g05⟩ := so.fin io' S' H' S5 A' g1' hf
      exact ⟨H5, un, k _ S5 io' H5 _ e1 A5 g05 (.ptr (g'.get hLn))⟩
theorem s_setLc {i : Nat} {y : Str} {py : Pos} {elt tg iter : Expr} {ifs : List Expr} {scope : Scope} {own : List (Str × Nat)} {pos spos : Pos} {mi : MI} {g : MG} {t : M Bool} {el : M D} {l : List Nat} (hc : X.calm = true) (hN : X.N.Nodup) (hy : X.N[i]? = some y) (hyl : X.env.scope.names.lookup y = some .local)
    (hsw : swapsWith (.ListComp elt [⟨tg, iter, ifs, 0⟩] scope pos) (some (.Name y py)) spos.line X.env = pure true) (hi : ItE X cl W tg iter mi) (ok : BlkOk X.N X.env.scope scope own)
    (hg : ∀ (s : Shared) (H : Hp) (C : Addr) (cs : List (Str × Addr)) (fp : List Addr), TgE (X.blk s H scope (compEnvC scope cs C X.env) fp) cl tg g l) (hl : ∀ j ∈ l, j ∈ own.map (·.2))
    (ht : ∀ (s : Shared) (H : Hp) (C : Addr) (cs : List (Str × Addr)) (fp : List Addr), EvTs (X.blk s H scope (compEnvC scope cs C X.env) fp) cl WF ifs t)
    (he : ∀ (s : Shared) (H : Hp) (C : Addr) (cs : List (Str × Addr)) (fp : List Addr), EvE (X.blk s H scope (compEnvC scope cs C X.env) fp) cl WF elt el) (hs : ∀ x, foldedSetIterable iter X.env x = pure x) :
    StE X cl W (.Assign [.Name y py] (.ListComp elt [⟨tg, iter, ifs, 0⟩] scope pos) spos) (mAsg (mLc mi g t el (own.map (·.2))) (gNm i)) := by
  refine PS.imp (ps_unl (ps_setLc (g := tG cl X.K g l) (tt := tT cl X.K WF t) (te := tE cl X.K WF el) hc hN hy hyl hsw hi ok hg (fun s H C cs fp => (ht s H C cs fp).pt) (fun s H C cs fp => (he s H C cs fp).pe) hs)) fun E σ H ⟨io, ρ, S, A, R, G, k⟩ => ?_
  refine lc_of hl A R (eS_good R G) fun d S' io' H' v e A' g' r => ?_
  have e2 : mAsg (mLc mi g t el (own.map (·.2))) (gNm i) ρ S = .ok (.nx (ρ.set i (some d))) S' := eS_of e
  exact k (.nx _) S' io' H' _ e2 A' g' (RelRho.set r i (RelRho.mono g' R))
end
end MP
/-! MP13 -/
set_option Elab.async false
set_option autoImplicit false
set_option linter.all false
set_option maxRecDepth 100000
namespace MP
open PySem PySem.Spec L2
open PyProof.Rows hiding St

/-! ## defs -/
abbrev GoodE (E : XK) (K : PySem.W.Frag) (cl : Cl) (io : List Addr) (H : Hp) {α : Type} (r : Rs α) : Prop := Good (fun c d _ H' => E c d H') K cl io H [] r
/-- what a def does: its arguments' data and the store, to a result -/
structure FnG (P : Program) (w : World) (K : PySem.W.Frag) (mg : Str → Option Value) (base : Heap) (cl : Cl) (CX : CXT) (k : Nat) (f : Addr) (fd : FuncData) (ps : List Str) (g : FL) : Prop where
  run : ∀ (A : Around) (outer : List Env) (s : Shared) (H : Hp) (args : Args) (us : List Value) (vs : List V) (io : List Addr) (S : Sto) (ds : List D) (Q : VK) (E : XK), Room k A → A.guards = some [] → Env0 P w K mg base A outer s H →
    BindsTo s fd args (ps.zip us) → Vals vs us → vs.length = ps.length → Abs K cl io S H → RelDs K io H ds vs → GoodE E K cl io H (g ds S) →
    (∀ d S' io' H' v, g ds S = .ok d S' → Abs K cl io' S' H' → Grow K io H io' H' → RelD K io' H' d v → Q v H') → codeAny (model P w) A (.call (.ref f) args) (CR CX outer P w H s Q E) s
theorem FnG.mono {P : Program} {w : World} {K : PySem.W.Frag} {mg : Str → Option Value} {base : Heap} {cl : Cl} {CX : CXT} {j k : Nat} {f : Addr} {fd : FuncData} {ps : List Str} {g : FL} (F : FnG P w K mg base cl CX j f fd ps g) (h : j ≤ k) :
    FnG P w K mg base cl CX k f fd ps g := ⟨fun A outer s H args us vs io S ds Q E hr => F.run A outer s H args us vs io S ds Q E (hr.mono h)⟩
/-- a body as a function of the arguments; n names -/
def callS (n : Nat) (m : MS) : FL := fun ds S => match m (ds.map some ++ List.replicate (n - ds.length) none) S with
  | .ok (.nx _) S' => .ok .non S'
  | .ok (.ret d) S' => .ok d S'
  | .ok (.exn x _) S' => .exn x S'
  | _ => .bad
theorem start_rel {K : PySem.W.Frag} {io : List Addr} {H : Hp} {N : List Str} {ds : List D} {vs : List V} (r : RelDs K io H ds vs) : RelRho K io H (ds.map some ++ List.replicate (N.length - ds.length) none) (L2.start N vs) := by
  unfold L2.start
  rw [r.length]
  have rep : ∀ n, RelRho K io H (List.replicate n none) (List.replicate n none) := fun n => by
    induction n with
    | zero => exact .nil
    | succ n ih => exact .cons trivial ih
  have all : ∀ {ds : List D} {vs : List V}, RelDs K io H ds vs → ∀ {ρ σ}, RelRho K io H ρ σ → RelRho K io H (ds.map some ++ ρ) (vs.map some ++ σ) := by
    intro ds
    induction ds with
    | nil => intro vs r ρ σ h; cases r; exact h
    | cons d ds ih =>
      intro vs r ρ σ h
      cases r with
      | cons r1 r2 => exact .cons r1 (ih r2 h)
  exact all r (rep _)
section
variable {CX : CXT} {P : Program} {w : World} {K : PySem.W.Frag} {mg : Str → Option Value} {base : Heap} {cl : Cl} {k : Nat} {f : Addr} {name qual : Str} {params : Arguments} {body : List Stmt} {scope : Scope} {dV kV doc pm cdv ct oc : Value} {an od : Option Addr}
  {osl : Array (Option Value)} {N ps : List Str} {m : MS}
theorem fnG_of (lk : K.lookup f = some ⟨oc, od, .func (PySem.W.fnOf name qual params body scope dV kV doc pm an cdv ct), osl⟩) (hcd : PySem.W.codeIn K cdv qual = true) (S : FnScope N ps scope)
    (hb : ∀ (A : Around) (outer : List Env) (s : Shared) (H : Hp) (E : XK), Room k (A.deeper (envOfC qual scope s.heap.objs.size f cdv)) → (A.deeper (envOfC qual scope s.heap.objs.size f cdv)).guards = some [] →
      SsE (cxOf CX P w K mg base N qual scope f cdv A outer s H E) cl (fun c d _ H' => E c d H') body m) :
    FnG P w K mg base cl CX (k + 1) f (PySem.W.fnOf name qual params body scope dV kV doc pm an cdv ct) ps (callS N.length m) := by
  refine ⟨fun A outer s H args us vs io T ds Q E hr hgd e0 hbd rv hl HA rd G kq => ?_⟩
  have KX : K.In s.heap := e0.mod.kin.keeps fun b o e => (e0.bs b o e).1
  have lim : s.heap.NoLimit := e0.mod.nolimit.keeps fun b o e => (e0.bs b o e).1
  have hkind : ∀ y ∈ ps.zip us, scope.names.lookup y.1 = some .local ∨ (scope.names.lookup y.1 = some .cell ∧ ((cellsFrom (s.heap.objs.size + 1) scope.names []).lookup y.1).isSome = true) := fun ⟨n, v⟩ hy =>
    (S.par n (List.of_mem_zip hy).1).imp (fun q => q) fun q => ⟨q, PySem.W.cellsFrom_some _ _ _ (.inl q)⟩
  refine codeAny_call_function hr.depth (KX _ _ lk) rfl S.co S.gen rfl (PySem.W.codeRec_of KX hcd) (hbd _ _ _ _ (wpAny_newFunctionEnv_cells S.kind hkind fun env he s1 x => ?_))
  subst he
  refine ⟨lim.keeps x.toInCall.keep, codeAny_func ?_⟩
  have I : Inv (cxOf CX P w K mg base N qual scope f cdv A outer s H E) [] (L2.start N vs) H s1 := inv_start S hr.hd e0 hl rv x
  have hgd' : (A.deeper (envOfC qual scope s.heap.objs.size f cdv)).guards = some [] := by simpa [Around.deeper] using hgd
  have ht := hb A outer s H E (hr.deeper _) hgd'
  have R := start_rel (N := N) rd
  have Gs : GoodS (fun c d _ H' => E c d H') K cl io H (m (ds.map some ++ List.replicate (N.length - ds.length) none) T) := by
    unfold callS at G
    cases em : m (ds.map some ++ List.replicate (N.length - ds.length) none) T with
    | ok fl T' =>
      rw [em] at G
      cases fl with
      | exn x ρ => exact fun io' H' c d σ' A' g' _ rx => G io' H' c d A' g' rx
      | nx ρ => trivial
      | ret d => trivial
      | brk ρ => trivial
      | cnt ρ => trivial
    | exn x T' => rw [em] at G; exact G
    | bad => rw [em] at G; exact G
  have fin : ∀ {σ' : L2.St} {H' : Hp} {v : V} {u : Value} {s' : Shared}, Inv (cxOf CX P w K mg base N qual scope f cdv A outer s H E) [] σ' H' s' → RelV v u → Q v H' → CE outer P w H s Q u s' :=
    fun {σ' H' v u s'} J r q => ⟨v, H', J.os, J.bare, J.base, J.hok, r, q⟩
  have noflow : ∀ fl T', m (ds.map some ++ List.replicate (N.length - ds.length) none) T = .ok fl T' → (∃ ρ, fl = .brk ρ) ∨ (∃ ρ, fl = .cnt ρ) → False := fun fl T' e h => by
    unfold callS at G
    rw [e] at G
    rcases h with ⟨ρ, z⟩ | ⟨ρ, z⟩ <;> (subst z; exact G)
  refine wpAny_mono (ht.run [] s1 (L2.start N vs) H ⟨fun _ H' => Q .non H', Q, fun _ _ => False, fun _ _ => False⟩ I ⟨io, _, T, HA, R, Gs, fun fl T' io' H' σ' e A' g' => ?_⟩) (fun fl s' hs => ?_) fun e s' hs => hs
  · have ek : ∀ d, callS N.length m ds T = .ok d T' → ∀ v, RelD K io' H' d v → Q v H' := fun d ed v r => kq d T' io' H' v ed A' g' r
    cases fl with
    | nx ρ => exact fun _ => ek .non (by unfold callS; rw [e]) .non .non
    | ret d => exact fun v r => ek d (by unfold callS; rw [e]) v r
    | brk ρ => exact fun _ => noflow _ _ e (.inl ⟨ρ, rfl⟩)
    | cnt ρ => exact fun _ => noflow _ _ e (.inr ⟨ρ, rfl⟩)
    | exn x ρ => trivial
  · cases fl with
    | ret u =>
      obtain ⟨v, σ', H', J, r, q⟩ := hs
      exact fin J r q
    | next =>
      obtain ⟨σ', H', J, q⟩ := hs
      exact fin (v := V.non) (u := Value.none) J rfl q
    | brk => obtain ⟨_, _, _, q⟩ := hs; exact q.elim
    | cont => obtain ⟨_, _, _, q⟩ := hs; exact q.elim
end
/-- an exception of a callee reaches what this body wishes -/
def PassW (CX : CXT) (X : Cx) (W : WX) : Prop := ∀ (pins : List (Addr × Obj)) (σ : L2.St) (H : Hp) (s : Shared) (e : Value) (s' : Shared), Inv X pins σ H s → CX X.stack H s (fun c d H' => W c d σ H') e s' → X.xe e s'
/-- the arguments given, the defaults behind them -/
def dflS (n : Nat) (dfl : List D) (g : FL) : FL := fun xs S => if xs.length + dfl.length = n then g (xs ++ dfl) S else .bad
section
variable {X : Cx} {cl : Cl} {W : WX} {CX : CXT} {k : Nat} {f C : Addr} {fd : FuncData} {ps : List Str} {g : FL} {dfl : List D} {dvs : List V} {us0 : List Value}
theorem run_g (F : FnG X.prog X.w X.K X.mg X.base cl CX k f fd ps g) (hr : Room k X.A) (hgd : X.A.guards = some []) (hb : Binds X.K fd ps us0) (hd : Vals dvs us0) (hdd : ∀ io H, RelDs X.K io H dfl dvs) (hx : PassW CX X W) : CaS X cl W (.ref f) (dflS ps.length dfl g) := by
  intro pins s σ H io S xs vs us I A rx ru G
  unfold dflS at G ⊢
  split at G
  · rename_i hl
    rw [if_pos hl]
    have r2 : Vals (vs ++ dvs) (us ++ us0) := ru.append hd
    have rd2 : RelDs X.K io H (xs ++ dfl) (vs ++ dvs) := rx.app (hdd io H)
    have hlv : (vs ++ dvs).length = ps.length := by rw [← rd2.length, List.length_append]; exact hl
    have hlu : (us ++ us0).length = ps.length := by rw [← r2.length]; exact hlv
    refine wpAny_call (codeAny_mono (F.run X.A X.stack s H ⟨us, []⟩ (us ++ us0) (vs ++ dvs) io S (xs ++ dfl) (AnsV X cl io H (g (xs ++ dfl) S)) (fun c d H' => W c d σ H') hr hgd I.env0 (hb s us I.kIn hlu) r2 hlv A rd2 ?_ fun d S' io' H' v e A' g' rd => ⟨d, S', io', e, A', g', rd⟩) fun r s' hq => ?_)
    · cases hg : g (xs ++ dfl) S with
      | ok _ _ => trivial
      | exn x S' => rw [hg] at G; exact fun io' H' c d A' g' rx => G io' H' c d A' g' rx
      | bad => rw [hg] at G; exact G
    · cases r with
      | error e => exact hx pins σ H s e s' I hq
      | ok fl =>
        cases fl with
        | ret u =>
          obtain ⟨v, H', I', rv, d, S', io', e, A', g', rd⟩ := I.after hq
          exact ⟨d, S', io', H', v, e, I', A', g', rd, rv⟩
        | next => exact False.elim hq
        | brk => exact False.elim hq
        | cont => exact False.elim hq
  · exact False.elim G

/-! calls by name -/
variable {x : Str} {p pos apos : Pos} {e o : Expr} {es : List Expr} {ma : M (List D)} {id T : String}
theorem cas_bind {F : Value} {pins : List (Addr × Obj)} {s : Shared} {σ : L2.St} {H : Hp} {io : List Addr} {ρ : Rho} {S : Sto} (hc : CaS X cl W F g) (ha : EvA X cl W es ma) (I : Inv X pins σ H s) (A : Abs X.K cl io S H) (R : RelRho X.K io H ρ σ) (G : Good W X.K cl io H σ (mDisp g ma ρ S)) :
    wpAny (model X.prog X.w) X.A (spliced (backTo pos (starEach es X.env))) (fun us s1 => X.K.In s1.heap ∧ wpAny (model X.prog X.w) X.A (call F us) (EvP X cl pins σ io H (mDisp g ma ρ S)) X.xe s1) X.xe s := by
  refine ha.bind I A R G fun ds S1 io1 H1 vs us s1 em I1 A1 g1 R1 rs rv G1 => ⟨I1.kIn, ?_⟩
  have e2 : mDisp g ma ρ S = g ds S1 := by unfold mDisp; rw [em]; rfl
  rw [e2]
  exact thn (hc pins s1 σ H1 io1 S1 ds vs us I1 A1 rs rv G1) fun u s2 q => q.back g1
theorem ev_call {u : Value} (hg : Gl X x) (hm : X.mg x = some u) (hk : PySem.W.keepIn X.K u = true) (hc : CaS X cl W u g) (ha : EvA X cl W (e :: es) ma) (hdb : (x == ("__debug__" : Str)) = false)
    (he : starEach (e :: es) X.env = (false, eval e X.env) :: starEach es X.env) (hpl : (backTo pos (starEach es X.env)).any (·.1) = false) : EvE X cl W (.Call (.Name x p) (e :: es) [] pos) (mDisp g ma) := by
  refine ⟨fun pins s σ H io ρ S I A R G => ?_⟩
  exact wpAny_Call_Name_kw (ld_glob I hg hm (PySem.W.callWith_K (h₀ := X.base) I.ok.mod.kin hk (cas_bind hc ha I A R G) he hpl) hdb)
theorem ev_callB (hc : CaS X cl W (.builtin id) g) (hg : Gl X x) (hm : X.mg x = none) (hv : bootBuiltins x = some (.builtin id)) (ha : EvA X cl W (e :: es) ma) (hn : x ≠ "__name__") (hdb : (x == ("__debug__" : Str)) = false)
    (he : starEach (e :: es) X.env = (false, eval e X.env) :: starEach es X.env) (hpl : (backTo pos (starEach es X.env)).any (·.1) = false) : EvE X cl W (.Call (.Name x p) (e :: es) [] pos) (mDisp g ma) := by
  refine ⟨fun pins s σ H io ρ S I A R G => ?_⟩
  exact wpAny_Call_Name_kw (ld_blt I hg hm hv (PyProof.Rows.callWith_builtin1 (thn (cas_bind hc ha I A R G) fun _ _ q => q.2) he hpl) hn hdb)
theorem ev_callT (hc : CaS X cl W (.type T) g) (hg : Gl X x) (hm : X.mg x = none) (hv : bootBuiltins x = some (.type T)) (ha : EvA X cl W (e :: es) ma) (hn : x ≠ "__name__") (hdb : (x == ("__debug__" : Str)) = false)
    (he : starEach (e :: es) X.env = (false, eval e X.env) :: starEach es X.env) (hpl : (backTo pos (starEach es X.env)).any (·.1) = false) : EvE X cl W (.Call (.Name x p) (e :: es) [] pos) (mDisp g ma) := by
  refine ⟨fun pins s σ H io ρ S I A R G => ?_⟩
  exact wpAny_Call_Name_kw (ld_blt I hg hm hv (PyProof.Rows.callWith_type1 (thn (cas_bind hc ha I A R G) fun _ _ q => q.2) he hpl) hn hdb)
end
end MP
/-! MP14 -/
set_option Elab.async false
set_option autoImplicit false
set_option linter.all false
set_option maxRecDepth 100000
namespace MP
open PySem PySem.Spec L2
open PyProof.Rows hiding St

/-! ## instances -/
def fput (f : Str) (d : D) : List (Str × D) → List (Str × D)
  | [] => [(f, d)]
  | (g, e) :: r => if g = f then (g, d) :: r else (g, e) :: fput f d r
def insAt (c : Str) (S : Sto) (n : Nat) : Option (List (Str × D)) := match S[n]? with
  | some (.ins c' fs) => if c' = c then some fs else none
  | _ => none
/-- x.f, a field of an instance of c -/
def fldS (c f : Str) : F1
  | .ptr n, S => match insAt c S n with
    | some fs => match fs.lookup f with
      | some d => .ok d S
      | none => .bad
    | none => .bad
  | _, _ => .bad
/-- x.f, a property -/
def propS (c : Str) (g : FL) : F1
  | .ptr n, S => match insAt c S n with
    | some _ => noX (g [.ptr n] S)
    | none => .bad
  | _, _ => .bad
def hasM (c m : Str) (x : D) (S : Sto) : Bool := match x with
  | .ptr n => match insAt c S n with
    | some fs => (fs.lookup m).isNone
    | none => false
  | _ => false
/-- o.m(..), a method of c -/
def mMeth (c m : Str) (g : FL) (mo : M D) (ma : M (List D)) : M D := fun ρ S => (mo ρ S).bind fun x S1 => if hasM c m x S1 = true then (ma ρ S1).bind fun xs S2 => g (x :: xs) S2 else .bad
/-- c(..) -/
def mkS (c : Str) (g : FL) : FL := fun xs S => (g (.ptr S.length :: xs) (S ++ [.ins c []])).bind fun r S1 => match r with
  | .non => .ok (.ptr S.length) S1
  | _ => .bad
def setF (c f : Str) (x d : D) (S : Sto) : Option Sto := match x with
  | .ptr n => match insAt c S n with
    | some fs => if fs.length < 1000 then some (S.set n (.ins c (fput f d fs))) else none
    | none => none
  | _ => none
/-- o.f = v -/
def mSetF (c f : Str) (mo mv : M D) : MS := eS mv fun d => eS mo fun x ρ S => match setF c f x d S with
  | some S' => .ok (.nx ρ) S'
  | none => .bad

theorem relFs_look {K : PySem.W.Frag} {io : List Addr} {H : Hp} {fs : List (Str × D)} {ws : List (Str × V)} (r : RelFs K io H fs ws) (f : Str) : (fs.lookup f = none ∧ ws.lookup f = none) ∨ ∃ d v, fs.lookup f = some d ∧ ws.lookup f = some v ∧ RelD K io H d v := by
  induction r with
  | nil => exact .inl ⟨rfl, rfl⟩
  | @cons p q fs ws h t ih =>
    obtain ⟨p1, p2⟩ := p
    obtain ⟨q1, q2⟩ := q
    have h1 : p1 = q1 := h.1
    subst h1
    rw [List.lookup_cons, List.lookup_cons]
    cases e : f == p1 with
    | true => exact .inr ⟨p2, q2, rfl, rfl, h.2⟩
    | false => exact ih
section
variable {X : Cx} {cl : Cl} {W : WX} {CX : CXT} {k : Nat} {c m f : Str} {C fa pa ga : Addr} {fd : FuncData} {ps : List Str} {g : FL} {dfl : List D} {dvs : List V} {us0 : List Value} {e o value : Expr} {es : List Expr} {mo mv : M D} {ma : M (List D)} {pos apos : Pos}
/-- no exception leaves a getter -/
def PassF (CX : CXT) (X : Cx) : Prop := ∀ (H : Hp) (s : Shared) (e : Value) (s' : Shared), CX X.stack H s (fun _ _ _ => False) e s' → False
end
end MP
/-! MP15 -/
set_option Elab.async false
set_option autoImplicit false
set_option linter.all false
set_option maxRecDepth 100000
namespace MP
open PySem PySem.Spec L2
open PyProof.Rows hiding St

section
variable {X : Cx} {cl : Cl} {W : WX} {CX : CXT} {k : Nat} {c m f : Str} {C fa pa ga : Addr} {fd : FuncData} {ps : List Str} {g : FL} {dfl : List D} {dvs : List V} {us0 : List Value} {e o value : Expr} {es : List Expr} {mo mv : M D} {ma : M (List D)} {pos apos cpos : Pos}
/-! methods of built-in types -/
def dktAt (S : Sto) (n : Nat) : Bool := match S[n]? with
  | some (.dkt _) => true
  | _ => false
def tyD (T : String) (x : D) (S : Sto) : Bool := match x with
  | .str _ => T == "str"
  | .ptr n => ((T == "list" && (listAt S n).isSome) || (T == "dict" && (dctAt S n).isSome)) || (T == "dict" && dktAt S n)
  | _ => false
def mBm (T : String) (g : FM) (mo : M D) (ma : M (List D)) : M D := fun ρ S => (mo ρ S).bind fun x S1 => if tyD T x S1 = true then (ma ρ S1).bind fun xs S2 => g x xs S2 else .bad
theorem tyD_is {pins : List (Addr × Obj)} {σ : L2.St} {H : Hp} {s : Shared} {T : String} {io : List Addr} {S : Sto} {x : D} {vx : V} {v : Value} (I : Inv X pins σ H s) (A : Abs X.K cl io S H) (rx : RelD X.K io H x vx) (r : RelV vx v) (ty : tyD T x S = true) :
    s.TypeIs v T ∧ ∀ a, v = .ref a → ∃ ob, s.heap.get? a = some ob ∧ ob.dict = none := by
  cases rx with
  | str z hz =>
    have ty : (T == "str") = true := ty
    exact tyV_is I r (show T = "str" from by simpa using ty)
  | @ptr n a hn =>
    have ty : (((T == "list" && (listAt S n).isSome) || (T == "dict" && (dctAt S n).isSome)) || (T == "dict" && dktAt S n)) = true := ty
    simp only [Bool.or_eq_true, Bool.and_eq_true, beq_iff_eq] at ty
    rcases ty with (⟨rfl, h⟩ | ⟨rfl, h⟩) | ⟨rfl, h⟩
    · obtain ⟨ds, hd⟩ := Option.isSome_iff_exists.mp h
      obtain ⟨vs, hq, _⟩ := ptr_list A hn hd
      exact tyV_is I r (.inl ⟨rfl, vs, hq⟩)
    · obtain ⟨ds, hd⟩ := Option.isSome_iff_exists.mp h
      obtain ⟨ws, hq, _⟩ := ptr_dct A hn hd
      have eu : v = Value.ref a := r
      subst eu
      refine ⟨dict_typeIs I (dg_k (k := .inl 0) hq), fun b e => ?_⟩
      cases e
      exact dict_noDict I (dg_k (k := .inl 0) hq) a rfl
    · unfold dktAt at h
      split at h
      · rename_i kvs hS
        have eu : v = Value.ref a := r
        subst eu
        cases ptr_obj A hn hS with
        | dkt hH _ _ _ _ =>
          obtain ⟨⟨ob, _, _, h1, h2, _, _⟩, _, _⟩ := (show ObjOk X.prog X.w H s.heap a (dkO cl.hs a _) from I.hok a _ hH)
          refine ⟨⟨ob, h1, h2.1⟩, fun b e => ?_⟩
          cases e
          exact ⟨ob, h1, h2.2.1⟩
      · cases h
  | _ => cases ty
variable {T id : String} {gm : FM}
theorem ev_bm (pa : PlainAttrs T) (slot : Slot T m id) (hty : typeOf (.builtin id) = pure (.type "method_descriptor")) (hm : MtS X cl W id gm) (ho : EvE X cl W o mo) (ha : EvA X cl W (e :: es) ma)
    (hbase : attributeBase o m X.env (eval o X.env) = eval o X.env)
    (hfew : ((backTo cpos (starEach (e :: es) X.env)).all (fun x => !x.1) && (backToKw cpos (keywordEach [] X.env)).all (fun x => x.1.isSome) && decide ((e :: es).length + ([] : List Keyword).length + (if ([] : List Keyword).isEmpty then 0 else 1) < 30)) = true)
    (hline : (apos.endLine == cpos.line) = true) (hs : starEach (e :: es) X.env = (false, eval e X.env) :: starEach es X.env) (hplain : (backTo cpos (starEach es X.env)).any (·.1) = false) :
    EvE X cl W (.Call (.Attribute o m apos) (e :: es) [] cpos) (mBm T gm mo ma) := by
  refine ⟨fun pins s σ H io ρ S I A R G => ?_⟩
  refine wpAny_Call_method_late hbase hfew hline rfl (ho.bind I A R G fun x S1 io1 H1 vx u s1 e1 I1 A1 g1 R1 rx ru G1 => ?_)
  split at G1
  · rename_i hh
    obtain ⟨h1, h2⟩ := tyD_is I1 A1 rx ru hh
    refine ⟨T, id, pa, slot, hty, h1, h2, ?_⟩
    have hA := ha.bind (pos := cpos) (Q := fun us s2 => wpAny (model X.prog X.w) X.A (call (.builtin id) (u :: us)) (EvP X cl pins σ io H (mBm T gm mo ma ρ S)) X.xe s2) I1 A1 R1 G1 fun xs S2 io2 H2 vs us s2 e2 I2 A2 g2 R2 rs rus G2 => by
      have e3 : mBm T gm mo ma ρ S = gm x xs S2 := by unfold mBm; rw [e1]; show (if tyD T x S1 = true then _ else _) = _; rw [if_pos hh, e2]; rfl
      rw [e3]
      exact thn (hm pins s2 σ H2 io2 S2 x xs vx vs u us I2 A2 (rx.mono g2) ru rs rus G2) fun z s3 q => (q.back g2).back g1
    rw [hs] at hA ⊢
    exact Calls.callWith_builtin (by show (false || (backTo cpos (starEach es X.env)).any (·.1)) = false; rw [hplain] <;> rfl) (Calls.evalArgs_plain hA)
  · exact False.elim G1
/-! instances made -/
def mkG (c : Str) (k : Nat) (g : FL) : FL := fun xs S => if xs.length + 1 = k then mkS c g xs S else .bad
end
end MP
/-! MP16 -/
set_option Elab.async false
set_option autoImplicit false
set_option linter.all false
set_option maxRecDepth 100000
namespace MP
open PySem PySem.Spec L2
open PyProof.Rows hiding St

/-! ## stores into objects -/
/-- o[i] = d -/
def setS (x i d : D) (S : Sto) : Option Sto := match x with
  | .ptr n => match S[n]? with
    | some (.lst ds) => match i with
      | .int k => match ixN ds.length k with
        | some j => some (S.set n (.lst (ds.set j d)))
        | none => none
      | _ => none
    | some (.dct kvs) => match keyD i with
      | some _ => if kvs.length < sizeLine then some (S.set n (.dct (dput kvs i d))) else none
      | none => none
    | _ => none
  | _ => none
def mSetI (mo mi mv : M D) : MS := eS mv fun d => eS mo fun x => eS mi fun i ρ S => match setS x i d S with
  | some S' => .ok (.nx ρ) S'
  | none => .bad
def gSubS (mo mi : M D) : MG := fun d ρ S => match mo ρ S with
  | .ok x S1 => match mi ρ S1 with
    | .ok i S2 => match setS x i d S2 with
      | some S3 => .ok ρ S3
      | none => .bad
    | _ => .bad
  | _ => .bad
section
variable {X : Cx} {cl : Cl} {W : WX} {c f : Str} {C : Addr} {o i value : Expr} {mo mi mv : M D} {pos pos' tpos : Pos}
theorem tS_e2 {m : M D} {k : D → MS} {E : Ends} {σ : L2.St} {H : Hp} {Q : VK} {io : List Addr} {ρ : Rho} {S : Sto} (A : Abs X.K cl io S H) (R : RelRho X.K io H ρ σ) (G : GoodS W X.K cl io H (eS m k ρ S))
    (kk : ∀ fl S' io' H' σ', eS m k ρ S = .ok fl S' → Abs X.K cl io' S' H' → Grow X.K io H io' H' → FlQ X.K io' H' E σ' fl)
    (q : ∀ d v S1 io1 H1, m ρ S = .ok d S1 → Abs X.K cl io1 S1 H1 → Grow X.K io H io1 H1 → RelRho X.K io1 H1 ρ σ → RelD X.K io1 H1 d v → GoodS W X.K cl io1 H1 (k d ρ S1) → (∀ fl S' io' H' σ', k d ρ S1 = .ok fl S' → Abs X.K cl io' S' H' → Grow X.K io1 H1 io' H' → FlQ X.K io' H' E σ' fl) → Q v H1) :
    tE cl X.K W m σ H Q := by
  refine ⟨io, ρ, S, A, R, eS_good R G, fun d S1 io1 H1 v e A1 g1 rd => ?_⟩
  rw [eS_of e] at G kk
  exact q d v S1 io1 H1 e A1 g1 (RelRho.mono g1 R) rd (GoodS.mono g1 G) fun fl S' io' H' σ' e' A' g' => kk fl S' io' H' σ' e' A' (g1.trans g')
theorem setS_ok {io : List Addr} {S S' : Sto} {H : Hp} {x y d : D} {vx vy vd : V} (A : Abs X.K cl io S H) (rx : RelD X.K io H x vx) (ry : RelD X.K io H y vy) (rd : RelD X.K io H d vd) (h : setS x y d S = some S') :
    ∃ H', (rSetL vx vy vd H (fun H1 => H1 = H') ∨ ∃ a, vx = .ref a ∧ DPut H a vy vd H') ∧ Abs X.K cl io S' H' ∧ Grow X.K io H io H' := by
  cases rx with
  | @ptr n a hn =>
    unfold setS at h
    simp only at h
    split at h
    · rename_i ds hS
      split at h
      · rename_i kk
        split at h
        · rename_i j hj
          cases h
          cases ry with
          | int _ =>
            cases ptr_obj A hn hS with
            | @lst _ _ vs hH r =>
              have mu : Mut (H a) := mut_some hH trivial
              have g : Grow X.K io H io (upd H a (.lst (vs.set j vd))) := grow_upd (.inr mu)
              exact ⟨_, .inl ⟨a, vs, kk, j, rfl, rfl, hH, by rw [← r.length]; exact hj, rfl⟩, A.put hn hS rfl rfl (.lst upd_same ((r.set rd j).mono g)), g⟩
        · cases h
      · cases h
    · rename_i kvs hS
      split at h
      · rename_i key hkey
        split at h
        · rename_i hz
          cases h
          obtain ⟨ez, ev⟩ := keyD_rel hkey ry
          have hok := keyD_ok hkey ry
          subst ez ev
          cases ptr_obj A hn hS with
          | @dct _ _ ws hH r =>
            have mu : Mut (H a) := mut_some hH trivial
            have g : Grow X.K io H io (upd H a (.dK (putK ws key vd))) := grow_upd (.inr mu)
            exact ⟨_, .inr ⟨a, rfl, DPut.k hH (by rw [← relKs_length r]; exact hz)⟩, A.put hn hS rfl rfl (.dct upd_same (paired_mono (fun _ _ q => ⟨q.1, q.2.1, q.2.2.mono g⟩) (relKs_put r key hok rd))), g⟩
        · cases h
      · cases h
    · cases h
  | _ => cases h
/-- o[i] = v, of a list, of a dict -/
def rSetA : TSet := fun o i v H Q => rSetL o i v H Q ∨ ∃ a H', o = .ref a ∧ DPut H a i v H' ∧ Q H'
theorem set_any (hu : X.A.units + 1 < cLine) : PSet X rSetA := by
  intro pins s σ H o i v ov iv u Q I ro ri rv h
  rcases h with h | ⟨a, H', e, g, q⟩
  · exact set_list pins s σ H o i v ov iv u Q I ro ri rv h
  · subst e
    have eu : ov = Value.ref a := ro
    subst eu
    exact d_setItem hu I g ri rv fun s' I' => ⟨H', I', q⟩
theorem s_setI (hu : X.A.units + 1 < cLine) (ho : EvE X cl W o mo) (hi : EvE X cl W i mi) (hv : EvE X cl W value mv) (hs : swapsWith value (some (.Subscript o i pos')) pos.line X.env = pure false) : StE X cl W (.Assign [.Subscript o i pos'] value pos) (mSetI mo mi mv) := by
  refine ⟨fun pins s σ H E I ⟨io, ρ, S, A, R, G, k⟩ => ?_⟩
  have h := tS_e2 (Q := fun vd H1 => tE cl X.K W mo σ H1 fun vx H2 => tE cl X.K W mi σ H2 fun vy H3 => rSetA vx vy vd H3 fun H4 => E.nx σ H4) A R G k fun d vd S1 io1 H1 _ A1 _ R1 rd G1 k1 => by
    refine tS_e2 A1 R1 G1 k1 fun x vx S2 io2 H2 _ A2 g2 R2 rx G2 k2 => ?_
    refine tS_e2 A2 R2 G2 k2 fun y vy S3 io3 H3 _ A3 g3 R3 ry G3 k3 => ?_
    cases h : setS x y d S3 with
    | none => rw [h] at G3; exact False.elim G3
    | some S4 =>
      rw [h] at k3
      obtain ⟨H4, hh, A4, g4⟩ := setS_ok A3 (rx.mono g3) ry ((rd.mono g2).mono g3) h
      have fin := k3 (.nx ρ) S4 io3 H4 σ rfl A4 g4 (RelRho.mono g4 R3)
      rcases hh with ⟨a, xs, kk, j, e1, e2, e3, e4, e5⟩ | ⟨a, e1, e2⟩
      · exact .inl ⟨a, xs, kk, j, e1, e2, e3, e4, by rw [e5]; exact fin⟩
      · exact .inr ⟨a, H4, e1, e2, fin⟩
  refine wpAny_Assign_Subscript (thn (hv.pe.run pins s σ H _ I h) fun r s1 ⟨v, H1, I1, rv, q1⟩ => thn (ho.pe.run pins s1 σ H1 _ I1 q1) fun u s2 ⟨x, H2, I2, rx, q2⟩ => thn (hi.pe.run pins s2 σ H2 _ I2 q2) fun iv s3 ⟨y, H3, I3, ry, q3⟩ => ?_) hs
  exact thn (set_any hu pins s3 σ H3 x y v u iv r _ I3 rx ry rv q3) fun _ s4 ⟨H4, I4, q4⟩ => ⟨σ, H4, I4, q4⟩

/-! ## augmented stores -/
/-- x op= y, by values (no object is changed) -/
def IpS (X : Cx) (cl : Cl) (W : WX) (op : Operator) (g : F2) : Prop := OpS X cl W (inplaceOp op) g
def mAug (j : Nat) (g : F2) (mv : M D) : MS := fun ρ S => match ρ[j]? with
  | some (some x) => eS mv (fun y ρ S => match g x y S with
    | .ok z S1 => .ok (.nx (ρ.set j (some z))) S1
    | .exn x S1 => .ok (.exn x ρ) S1
    | .bad => .bad) ρ S
  | _ => .bad
def augAdd : F2
  | .int i, .int j, S => .ok (.int (i + j)) S
  | _, _, _ => .bad
def augSub : F2
  | .int i, .int j, S => .ok (.int (i - j)) S
  | _, _, _ => .bad
end
end MP
/-! MP17 -/
set_option Elab.async false
set_option autoImplicit false
set_option linter.all false
set_option maxRecDepth 100000
namespace MP
open PySem PySem.Spec L2
open PyProof.Rows hiding St

/-! ## built-in functions by values -/
def lenS : FL
  | [.str z], S => .ok (.int z.length) S
  | [.tup ds], S => .ok (.int ds.length) S
  | [.ptr n], S => match listAt S n with
    | some ds => .ok (.int ds.length) S
    | none => match S[n]? with
      | some (.dct kvs) => .ok (.int kvs.length) S
      | _ => .bad
  | _, _ => .bad
def absS : FL
  | [.int i], S => .ok (.int (if i < 0 then -i else i)) S
  | _, _ => .bad
def intS : FL
  | [.int i], S => .ok (.int i) S
  | [.bl b], S => .ok (.int (if b then 1 else 0)) S
  | _, _ => .bad
def min2S : FL
  | [.int i, .int j], S => .ok (.int (if j < i then j else i)) S
  | _, _ => .bad
def max2S : FL
  | [.int i, .int j], S => .ok (.int (if j > i then j else i)) S
  | _, _ => .bad
def divmodS : FL
  | [.int i, .int j], S => if 0 < j ∧ j < 1073741824 then .ok (.tup [.int (i / j), .int (i % j)]) S else .bad
  | _, _ => .bad
def listS : FL
  | [.tup ds], S => newL ds S
  | [.ptr n], S => match listAt S n with
    | some ds => newL ds S
    | none => match dctAt S n with
      | some kvs => newL (kvs.map (·.1)) S
      | none => match S[n]? with
        | some (.vw "dict_values" m) => match S[m]? with
          | some (.dct kvs) => newL (kvs.map (·.2)) S
          | _ => .bad
        | _ => .bad
  | _, _ => .bad
def tupleS : FL
  | [.tup ds], S => .ok (.tup ds) S
  | [.ptr n], S => match listAt S n with
    | some ds => .ok (.tup ds) S
    | none => .bad
  | _, _ => .bad
def pairsOf : List D → Option (List (D × D))
  | [] => some []
  | .tup [k, v] :: r => match keyD k with
    | some _ => (pairsOf r).map ((k, v) :: ·)
    | none => none
  | _ :: _ => none
def newD (kvs : List (D × D)) : Sto → Rs D := fun S => .ok (.ptr S.length) (S ++ [.dct kvs])
def dictS : FL
  | [.ptr n], S => match dctAt S n with
    | some kvs => newD kvs S
    | none => match listAt S n with
      | some ds => match pairsOf ds with
        | some kvs => newD (dmerge [] kvs) S
        | none => .bad
      | none => .bad
  | _, _ => .bad
def blsOf : List D → Option (List Bool)
  | [] => some []
  | .bl b :: r => (blsOf r).map (b :: ·)
  | _ :: _ => none
def quantS (f : List Bool → Bool) : FL
  | [.ptr n], S => match listAt S n with
    | some ds => match blsOf ds with
      | some bs => .ok (.bl (f bs)) S
      | none => .bad
    | none => .bad
  | _, _ => .bad
def reprS : FL
  | [x], S => match view S 60 x with
    | some p => if p.showable = true ∧ okS p.shown then .ok (.str p.shown) S else .bad
    | none => .bad
  | _, _ => .bad

section
variable {X : Cx} {cl : Cl} {W : WX}
theorem one_arg {K : PySem.W.Frag} {io : List Addr} {H : Hp} {d : D} {vs : List V} (r : RelDs K io H [d] vs) : ∃ v, vs = [v] ∧ RelD K io H d v := by
  cases r with
  | cons r1 r2 => cases r2; exact ⟨_, rfl, r1⟩
theorem two_arg {K : PySem.W.Frag} {io : List Addr} {H : Hp} {d e : D} {vs : List V} (r : RelDs K io H [d, e] vs) : ∃ v w, vs = [v, w] ∧ RelD K io H d v ∧ RelD K io H e w := by
  cases r with
  | cons r1 r2 => cases r2 with
    | cons r2 r3 => cases r3; exact ⟨_, _, rfl, r1, r2⟩
theorem cas_use {f : Value} {r : List V → Hp → VK → Prop} {pins : List (Addr × Obj)} {s : Shared} {σ : L2.St} {H : Hp} {io : List Addr} {vs : List V} {us : List Value} {res : Rs D} (h : CallR X f r) (I : Inv X pins σ H s) (ru : Vals vs us) (k : r vs H (AnsV X cl io H res)) :
    wpAny (model X.prog X.w) X.A (call f us) (EvP X cl pins σ io H res) X.xe s := by
  refine thn (h pins s σ H vs us _ I ru k) fun z s' ⟨w, H', I', rw', d, S', io', e, A', g', rd⟩ => ?_
  exact ⟨d, S', io', H', w, e, I', A', g', rd, rw'⟩
theorem cb_len : CaS X cl W (.builtin "len") lenS := by
  intro pins s σ H io S xs vs us I A rx ru G
  unfold lenS at G ⊢
  split at G
  · rename_i z
    obtain ⟨v, rfl, r⟩ := one_arg rx
    cases r with
    | str _ hz => exact cas_use call_len I ru ⟨_, _, rfl, ⟨hz.1, rfl⟩, AnsV.here A (.int _)⟩
  · rename_i ds
    obtain ⟨v, rfl, r⟩ := one_arg rx
    cases r with
    | tup hq rs => exact cas_use call_len_seq I ru ⟨_, _, rfl, .inr hq, by rw [← rs.length]; exact AnsV.here A (.int _)⟩
  · rename_i n
    obtain ⟨v, rfl, r⟩ := one_arg rx
    cases r with
    | @ptr _ p hn =>
      split at G
      · rename_i ds hd
        obtain ⟨ws, hq, rs⟩ := ptr_list A hn hd
        exact cas_use call_len_seq I ru ⟨_, _, rfl, .inl hq, by rw [← rs.length]; exact AnsV.here A (.int _)⟩
      · split at G
        · rename_i kvs hd
          cases ptr_obj A hn hd with
          | dct hH r => exact cas_use call_lenD I ru ⟨_, _, rfl, hH, by rw [← relKs_length r]; exact AnsV.here A (.int _)⟩
        · exact False.elim G
  · exact False.elim G
theorem cb_abs : CaS X cl W (.builtin "abs") absS := by
  intro pins s σ H io S xs vs us I A rx ru G
  unfold absS at G ⊢
  split at G
  · obtain ⟨v, rfl, r⟩ := one_arg rx
    cases r
    exact cas_use call_abs I ru ⟨_, rfl, AnsV.here A (.int _)⟩
  · exact False.elim G
theorem cb_int : CaS X cl W (.type "int") intS := by
  intro pins s σ H io S xs vs us I A rx ru G
  unfold intS at G ⊢
  split at G
  · obtain ⟨v, rfl, r⟩ := one_arg rx
    cases r
    exact cas_use call_int1 I ru (.inl ⟨_, rfl, AnsV.here A (.int _)⟩)
  · obtain ⟨v, rfl, r⟩ := one_arg rx
    cases r
    exact cas_use call_int1 I ru (.inr ⟨_, rfl, AnsV.here A (.int _)⟩)
  · exact False.elim G
theorem cb_min2 (hc : X.calm = true) : CaS X cl W (.builtin "min") min2S := by
  intro pins s σ H io S xs vs us I A rx ru G
  unfold min2S at G ⊢
  split at G
  · obtain ⟨v, w, rfl, r, q⟩ := two_arg rx
    cases r
    cases q
    exact cas_use (call_min2 hc) I ru ⟨_, _, rfl, AnsV.here A (.int _)⟩
  · exact False.elim G
theorem cb_divmod : CaS X cl W (.builtin "divmod") divmodS := by
  intro pins s σ H io S xs vs us I A rx ru G
  unfold divmodS at G ⊢
  split at G
  · obtain ⟨v, w, rfl, r, q⟩ := two_arg rx
    cases r
    cases q
    split at G
    · rename_i hz
      rw [if_pos hz]
      exact cas_use call_divmod I ru ⟨_, _, rfl, hz, fun p hp => AnsV.tup A (.cons (.int _) (.cons (.int _) .nil)) rfl p hp⟩
    · exact False.elim G
  · exact False.elim G
theorem relKs_keys {K : PySem.W.Frag} {io : List Addr} {H : Hp} {kvs : List (D × D)} {ws : List (Key × V)} (r : RelKs K io H kvs ws) : RelDs K io H (kvs.map (·.1)) (ws.map fun kv => kV kv.1) := by
  induction r with
  | nil => exact .nil
  | @cons p q kvs ws h t ih =>
    refine .cons ?_ ih
    show RelD K io H p.1 (kV q.1)
    rw [h.1]
    have hk := h.2.1
    cases e : q.1 with
    | inl j => exact .int j
    | inr z => rw [e] at hk; exact .str z hk
theorem relKs_vals {K : PySem.W.Frag} {io : List Addr} {H : Hp} {kvs : List (D × D)} {ws : List (Key × V)} (r : RelKs K io H kvs ws) : RelDs K io H (kvs.map (·.2)) (ws.map (·.2)) := by
  induction r with
  | nil => exact .nil
  | cons h t ih => exact .cons h.2.2 ih
theorem kv_vals : ∀ {ws : List (Key × V)} {us : List (Key × Value)}, KV ws us → Vals (ws.map (·.2)) (us.map (·.2))
  | _, _, .nil => .nil
  | _, _, .cons h t => .cons h.2 (kv_vals t)
theorem AnsV.dct {io : List Addr} {S : Sto} {H : Hp} {kvs : List (D × D)} {ws : List (Key × V)} (A : Abs X.K cl io S H) (r : RelKs X.K io H kvs ws) : ∀ p, H p = none → AnsV X cl io H (newD kvs S) (.ref p) (upd H p (.dK ws)) := fun p hp => by
  have g : Grow X.K io H (io ++ [p]) (upd H p (.dK ws)) := grow_new hp
  refine ⟨_, _, _, rfl, A.new hp (.dct upd_same (paired_mono (fun _ _ z => ⟨z.1, z.2.1, z.2.2.mono g⟩) r)), g, .ptr ?_⟩
  rw [List.getElem?_append_right (by rw [A.len]; exact Nat.le_refl _), A.len]
  simp
theorem view_nodict : ∀ (S : Sto) (k : Nat) (d : D) (p : PyData), view S k d = some p → p.hasDict = false := by
  intro S k
  induction k with
  | zero =>
    intro d p h
    cases d <;> simp [view] at h <;> subst h <;> rfl
  | succ k ih =>
    have all : ∀ (es : List D) (qs : List PyData), es.mapM (view S k) = some qs → PyData.hasDictAll qs = false := by
      intro es
      induction es with
      | nil => intro qs h; simp at h; subst h; rfl
      | cons e es ihe =>
        intro qs h
        obtain ⟨b, bs, rfl, h1, h2⟩ := mapM_cons_some h
        show (PyData.hasDict b || PyData.hasDictAll bs) = false
        rw [ih e b h1, ihe bs h2]
        rfl
    intro d p h
    cases d with
    | tup ds =>
      simp only [view] at h
      cases hm : ds.mapM (view S k) with
      | none => rw [hm] at h; cases h
      | some qs => rw [hm] at h; cases h; exact all ds qs hm
    | ptr n =>
      simp only [view] at h
      cases hl : listAt S n with
      | none => rw [hl] at h; cases h
      | some ds =>
        rw [hl] at h
        simp only at h
        cases hm : ds.mapM (view S k) with
        | none => rw [hm] at h; cases h
        | some qs => rw [hm] at h; cases h; exact all ds qs hm
    | _ => simp only [view, Option.some.injEq] at h; subst h; rfl
theorem cb_repr (hg : X.A.guards = some []) (hu : X.A.units + 65 < cLine) : CaS X cl W (.builtin "repr") reprS := by
  intro pins s σ H io S xs vs us I A rx ru G
  unfold reprS at G ⊢
  split at G
  · obtain ⟨v, rfl, r⟩ := one_arg rx
    split at G
    · rename_i p hp
      split at G
      · rename_i hz
        rw [if_pos hz]
        obtain ⟨p1, p2, p3⟩ := view_dp A 60 _ v p hp r
        obtain ⟨u, rfl, ru'⟩ := Vals.one ru
        have fin : ∀ t s', Inv X pins σ H s' → EvP X cl pins σ io H (.ok (.str p.shown) S) (.str p.shown t) s' := fun t s' I' => ⟨_, S, io, H, .str p.shown, rfl, I', A, Grow.rfl', .str _ hz.2, t, rfl⟩
        cases r with
        | non =>
          simp only [view, Option.some.injEq] at hp
          subst hp
          cases (show u = Value.none from ru')
          exact PySem.P.repr_of_none (fin _ _ (I.tok _))
        | bl b =>
          simp only [view, Option.some.injEq] at hp
          subst hp
          cases (show u = Value.bool b from ru')
          exact PySem.P.repr_of_bool (fin _ _ (I.tok _))
        | int i =>
          simp only [view, Option.some.injEq] at hp
          subst hp
          obtain ⟨t, rfl⟩ := ru'
          exact PySem.P.repr_of_int (by simpa [PyData.showable] using hz.1) (fin _ _ (I.tok _))
        | str x hx =>
          simp only [view, Option.some.injEq] at hp
          subst hp
          obtain ⟨t, rfl⟩ := ru'
          exact PySem.P.repr_of_str (fin _ _ (I.tok _)) hz.2.1
        | @tup a ds ws hq rs =>
          cases (show u = Value.ref a from ru')
          obtain ⟨as, rr⟩ := Dp.reads I p _ _ p1 ru'
          exact repr_of_reads' rr hz.1 (fun h => by rw [view_nodict S 60 _ p hp] at h; cases h) hg (by omega) (fun _ _ e => e) (fun h' u tk hk => fin _ _ (I.kept hk)) hz.2.1
        | @ptr n a hn =>
          cases (show u = Value.ref a from ru')
          obtain ⟨as, rr⟩ := Dp.reads I p _ _ p1 ru'
          exact repr_of_reads' rr hz.1 (fun h => by rw [view_nodict S 60 _ p hp] at h; cases h) hg (by omega) (fun _ _ e => e) (fun h' u tk hk => fin _ _ (I.kept hk)) hz.2.1
      · exact False.elim G
    · exact False.elim G
  · exact False.elim G
end
end MP
/-! MP18 -/
set_option Elab.async false
set_option autoImplicit false
set_option linter.all false
set_option maxRecDepth 100000
namespace MP
open PySem PySem.Spec L2
open PyProof.Rows hiding St

section
variable {X : Cx} {cl : Cl} {W : WX}
/-! ## list(x) -/
theorem cb_list (hc : X.calm = true) : CaS X cl W (.type "list") listS := by
  intro pins s σ H io S xs vs us I A rx ru G
  unfold listS at G ⊢
  split at G
  · obtain ⟨v, rfl, r⟩ := one_arg rx
    cases r with
    | tup hq rs => exact cas_use call_list_of I ru ⟨_, _, rfl, .inr hq, fun p hp => AnsV.lst A rs p hp⟩
  · obtain ⟨v, rfl, r⟩ := one_arg rx
    cases r with
    | @ptr n p hn =>
      split at G
      · rename_i ds hd
        obtain ⟨ws, hq, rs⟩ := ptr_list A hn hd
        exact cas_use call_list_of I ru ⟨_, _, rfl, .inl hq, fun p hp => AnsV.lst A rs p hp⟩
      · split at G
        · rename_i kvs hd
          obtain ⟨ws, hq, rs⟩ := ptr_dct A hn hd
          exact cas_use (call_listD hc) I ru ⟨_, _, rfl, hq, fun p hp => AnsV.lst A (relKs_keys rs) p hp⟩
        · split at G
          · rename_i m hv
            split at G
            · rename_i kvs hm
              obtain ⟨u, rfl, ru'⟩ := Vals.one ru
              cases (show u = Value.ref p from ru')
              cases ptr_obj A hn hv with
              | @vw _ d _ _ hH hd =>
                cases ptr_obj A hd hm with
                | @dct _ _ ws hHd rs =>
                  obtain ⟨hφ, _, _⟩ := (show ObjOk X.prog X.w H s.heap p (vwO "dict_values" p d) from I.hok p _ hH)
                  obtain ⟨z, hs, us0, kv, o, es, ep, ho, hx, hdt, rst⟩ := dk_of I.hok hHd
                  have hat : s.heap.DictAt (mixKind X.prog X.w) d us0 ep := ⟨o, es, ho, hx, hdt, rst⟩
                  have hl : us0.length ≤ sizeLine := by rw [← Paired.length kv]; exact z
                  refine PySem.W.kdl_call (PySem.W.kdl_values (knd := mixKind X.prog X.w) (d := d) (r := p) (kvs := us0) (ep := ep)) (I.ok.hd hc) ⟨⟨_, hφ, rfl, rfl⟩, hat⟩ hl fun h' tk acc c hk hnew hit => ?_
                  have eacc : acc.toList = us0.map (·.2) := by
                    refine List.ext_getElem? fun i => ?_
                    rw [List.getElem?_map]
                    cases e : us0[i]? with
                    | none =>
                      rw [List.getElem?_eq_none (by rw [Array.length_toList, hit.1]; exact List.getElem?_eq_none_iff.mp e)]
                      rfl
                    | some q =>
                      have hi : i < acc.size := by rw [hit.1]; exact (List.getElem?_eq_some_iff.mp e).1
                      have ea : acc[i]? = some acc[i] := Array.getElem?_eq_getElem hi
                      obtain ⟨k, hk'⟩ := hit.2 i _ ea
                      rw [e] at hk'
                      cases hk'
                      simp [hi]
                  have hf : H s.heap.objs.size = none := I.hok.fresh (Nat.le_refl _)
                  have new : ObjOk X.prog X.w (upd H s.heap.objs.size (.lst (ws.map (·.2)))) h' s.heap.objs.size (.lst (ws.map (·.2))) := by
                    refine ⟨by rw [List.length_map]; exact z, acc.toList, c, ?_, by simpa using hnew⟩
                    rw [eacc]
                    exact kv_vals kv
                  obtain ⟨d', S', io', e, A', g', rd⟩ := AnsV.lst (cl := cl) A (relKs_vals rs) _ hf
                  exact ⟨d', S', io', _, _, e, I.laid (t' := tk) hk (Nat.le_refl _) new, A', g', rd, rfl⟩
            · exact False.elim G
          · exact False.elim G
  · exact False.elim G
/-! ## d.values() and others -/
end
end MP
/-! MP19 -/
set_option Elab.async false
set_option autoImplicit false
set_option linter.all false
set_option maxRecDepth 100000
namespace MP
open PySem PySem.Spec L2
open PyProof.Rows hiding St

/-! ## isinstance -/
/-- the kind of a value: a built-in type, an own class -/
inductive Kd where
  | t (n : String) | c (c : Str)
  deriving DecidableEq
def kdS : D → Sto → Option Kd
  | .non, _ => some (.t "NoneType")
  | .bl _, _ => some (.t "bool")
  | .int _, _ => some (.t "int")
  | .str _, _ => some (.t "str")
  | .tup _, _ => some (.t "tuple")
  | .ptr n, S => match S[n]? with
    | some (.lst _) => some (.t "list")
    | some (.rol _) => some (.t "list")
    | some (.dct _) => some (.t "dict")
    | some (.rod _) => some (.t "dict")
    | some (.ins c _) => some (.c c)
    | _ => none
def isiS (f : Kd → Option Bool) : F1 := fun x S => match kdS x S with
  | some k => match f k with
    | some b => .ok (.bl b) S
    | none => .bad
  | none => .bad
inductive KdV (cl : Cl) : Kd → Value → Prop
  | t (n : String) : KdV cl (.t n) (.type n)
  | c {c : Str} {C : Addr} : cl c = some C → KdV cl (.c c) (.ref C)
/-- what must be known of a class -/
structure ClsX (K : PySem.W.Frag) (C : Addr) : Prop where
  cl : Cls K C
  ha : PySem.W.findIn K (.ref C) "__class__" = some (some (.builtin "object.__class__"))
  hn : PySem.W.specialIn K (.builtin "object.__class__") "__get__" = some (some (.builtin "getset_descriptor.__get__"))
  htk : PySem.W.takesIn K (.builtin "object.__class__") = some true
  hm : PySem.W.mroIn K C (.type "object") = some true
section
variable {X : Cx} {cl : Cl} {W : WX}
variable {e cx : Expr} {m : M D} {f : Kd → Option Bool} {p pos : Pos}
end
def btys : List String := ["NoneType", "bool", "int", "str", "tuple", "list", "dict"]
/-- a built-in type's answer -/
def tyB (T n : String) : Bool := n == T || (T == "int" && n == "bool")
/-- of some built-in types -/
def isBs (Ts : List String) (cs : List Str) : Kd → Option Bool
  | .t n => if n ∈ btys then some (Ts.any fun T => tyB T n) else none
  | .c c => if c ∈ cs then some false else none
/-- of one own class -/
def isCs (c0 : Str) (cs : List Str) : Kd → Option Bool
  | .t n => if n ∈ btys then some false else none
  | .c c => if c = c0 then some true else if c ∈ cs then some false else none
end MP
/-! MP20 -/
set_option Elab.async false
set_option autoImplicit false
set_option linter.all false
set_option maxRecDepth 100000
namespace MP
open PySem PySem.Spec L2
open PyProof.Rows hiding St

/-! ## a, b, *c, d = t -/
section
variable {prog : Program} {w : World} {A : Around} {E : Value → Shared → Prop} {s : Shared}
end
/-- the items ahead of the star, a new list, the items behind it -/
def gStar (n i : Nat) (r : MGs) : MG := fun d ρ S => match d with
  | .tup ds => if n ≤ ds.length + 1 ∧ ds.length ≤ 16384 then r (ds.take i ++ [.ptr S.length] ++ (ds.drop i).drop (ds.length + 1 - n)) ρ (S ++ [.lst ((ds.drop i).take (ds.length + 1 - n))]) else .bad
  | _ => .bad
section
variable {X : Cx} {cl : Cl} {W : WX}
end
end MP
/-! MP21 -/
set_option Elab.async false
set_option autoImplicit false
set_option linter.all false
set_option maxRecDepth 100000
namespace MP
open PySem PySem.Spec L2
open PyProof.Rows hiding St

/-! ## match -/
abbrev Bs := List (Str × D)
/-- none: not covered; some none: no match -/
abbrev MP' := D → Sto → Option (Option Bs)
abbrev RelB (K : PySem.W.Frag) (io : List Addr) (H : Hp) : Bs → List (Str × Value) → Prop := Paired fun p q => p.1 = q.1 ∧ ∃ v, RelD K io H p.2 v ∧ RelV v q.2
def RelBo (K : PySem.W.Frag) (io : List Addr) (H : Hp) : Option Bs → Option (List (Str × Value)) → Prop
  | none, none => True
  | some b, some c => RelB K io H b c
  | _, _ => False
structure PtE (X : Cx) (cl : Cl) (p : Pattern) (m : MP') : Prop where
  run : ∀ (pins : List (Addr × Obj)) (s : Shared) (σ : L2.St) (H : Hp) (io : List Addr) (S : Sto) (d : D) (v : V) (u : Value) (r : Option Bs), Inv X pins σ H s → Abs X.K cl io S H → RelD X.K io H d v → RelV v u → m d S = some r →
    wpAny (model X.prog X.w) X.A (matchPattern p X.env u) (fun r' s' => Inv X pins σ H s' ∧ RelBo X.K io H r r') X.xe s
structure PfE (X : Cx) (cl : Cl) (ps : List Pattern) (m : MP') : Prop where
  run : ∀ (pins : List (Addr × Obj)) (s : Shared) (σ : L2.St) (H : Hp) (io : List Addr) (S : Sto) (d : D) (v : V) (u : Value) (r : Option Bs), Inv X pins σ H s → Abs X.K cl io S H → RelD X.K io H d v → RelV v u → m d S = some r →
    wpAny (model X.prog X.w) X.A (matchFirst ps X.env u) (fun r' s' => Inv X pins σ H s' ∧ RelBo X.K io H r r') X.xe s
structure PeE (X : Cx) (cl : Cl) (ps : List Pattern) (m : List D → Sto → Option (Option Bs)) : Prop where
  run : ∀ (pins : List (Addr × Obj)) (s : Shared) (σ : L2.St) (H : Hp) (io : List Addr) (S : Sto) (ds : List D) (vs : List V) (us : List Value) (r : Option Bs), Inv X pins σ H s → Abs X.K cl io S H → RelDs X.K io H ds vs → Vals vs us → m ds S = some r →
    wpAny (model X.prog X.w) X.A (matchEach ps X.env us) (fun r' s' => Inv X pins σ H s' ∧ RelBo X.K io H r r') X.xe s
def pStr (x : Str) : MP' := fun d S => (view S 60 d).map fun p => if p.eqv (.str x) = true then some [] else none
def pCap (x : Str) : MP' := fun d _ => some (some [(x, d)])
def pfNil : MP' := fun _ _ => some none
def pfCons (a b : MP') : MP' := fun d S => match a d S with
  | some (some bs) => some (some bs)
  | some none => b d S
  | none => none
def pOr (a : MP') : MP' := fun d S => (a d S).map fun r => r.map fun _ => []
def peNil : List D → Sto → Option (Option Bs) := fun _ _ => some (some [])
def peCons (a : MP') (b : List D → Sto → Option (Option Bs)) : List D → Sto → Option (Option Bs) := fun ds S => match ds with
  | d :: ds => match a d S with
    | some (some bs) => (b ds S).map fun r => r.map fun more => bs ++ more
    | some none => some none
    | none => none
  | [] => none
def pSeq (n : Nat) (b : List D → Sto → Option (Option Bs)) : MP' := fun d S => match d with
  | .tup ds => if ds.length = n then b ds S else some none
  | _ => none
section
variable {X : Cx} {cl : Cl} {W : WX} {pos : Pos}
/-- the names of a match, stored -/
def bindR (ix : List (Str × Nat)) : Bs → Rho → Option Rho
  | [], ρ => some ρ
  | (x, d) :: r, ρ => match ix.lookup x with
    | some i => bindR ix r (ρ.set i (some d))
    | none => none
abbrev MCs := D → MS
def csNil : MCs := fun _ ρ S => .ok (.nx ρ) S
def csCons (m : MP') (ix : List (Str × Nat)) (b : MS) (r : MCs) : MCs := fun d ρ S => match m d S with
  | some none => r d ρ S
  | some (some bs) => match bindR ix bs ρ with
    | some ρ' => b ρ' S
    | none => .bad
  | none => .bad
def mMatch (me : M D) (c : MCs) : MS := eS me c
structure CsE (X : Cx) (cl : Cl) (W : WX) (cs : List MatchCase) (m : MCs) : Prop where
  run : ∀ (first : Bool) (pins : List (Addr × Obj)) (s : Shared) (σ : L2.St) (H : Hp) (io : List Addr) (ρ : Rho) (S : Sto) (d : D) (v : V) (u : Value) (E : Ends), Inv X pins σ H s → Abs X.K cl io S H → RelRho X.K io H ρ σ → RelD X.K io H d v → RelV v u → GoodS W X.K cl io H (m d ρ S) →
    (∀ fl S' io' H' σ', m d ρ S = .ok fl S' → Abs X.K cl io' S' H' → Grow X.K io H io' H' → FlQ X.K io' H' E σ' fl) → wpAny (model X.prog X.w) X.A (matchCases cs X.env u first) (SP X pins E) X.xe s
end
end MP
/-! MP22 -/
set_option Elab.async false
set_option autoImplicit false
set_option linter.all false
set_option maxRecDepth 100000
namespace MP
open PySem PySem.Spec L2
open PyProof.Rows hiding St

section
variable {X : Cx} {cl : Cl} {W : WX} {e : Expr} {m : M D}
/-! ## xs[::-1] -/
def revS : F1
  | .ptr n, S => match listAt S n with
    | some ds => newL ds.reverse S
    | none => .bad
  | _, _ => .bad
/-! ## a, b = x, y with plain local names -/
def mPar (i j : Nat) (ma : M (List D)) : MS := fun ρ S => match ma ρ S with
  | .ok ds S1 => match ds with
    | [x, y] => .ok (.nx ((ρ.set i (some x)).set j (some y))) S1
    | _ => .bad
  | .exn x S1 => .ok (.exn x ρ) S1
  | .bad => .bad
/-! ## next(iter(e), d) -/
def nextS : D → D → Sto → Rs D
  | .ptr n, d, S => match listAt S n with
    | some (x :: _) => .ok x S
    | some [] => .ok d S
    | none => .bad
  | _, _, _ => .bad
def isLst (x : D) (S : Sto) : Bool := match x with
  | .ptr n => (listAt S n).isSome
  | _ => false
def mNext (m md : M D) : M D := fun ρ S => (m ρ S).bind fun x S1 => if isLst x S1 = true then (md ρ S1).bind fun d S2 => nextS x d S2 else .bad
end
end MP
/-! MP23 -/
set_option Elab.async false
set_option autoImplicit false
set_option linter.all false
set_option maxRecDepth 100000
namespace MP
open PySem PySem.Spec L2
open PyProof.Rows hiding St

/-! ## {k: v, ..} -/
abbrev Kv := List (D × D)
abbrev RelPs (K : PySem.W.Frag) (io : List Addr) (H : Hp) : Kv → List (V × V) → Prop := Paired fun p q => RelD K io H p.1 q.1 ∧ RelD K io H p.2 q.2
def mpNil : M Kv := fun _ S => .ok [] S
def mpCons (k v : M D) (r : M Kv) : M Kv := fun ρ S => (k ρ S).bind fun x S1 => (v ρ S1).bind fun y S2 => (r ρ S2).bind fun ps S3 => .ok ((x, y) :: ps) S3
def fillD (n : Nat) (kvs : Kv) (S : Sto) : Rs D := if S[n]? = some (.dct []) ∧ kvs.all (fun p => (keyD p.1).isSome) = true ∧ kvs.length ≤ 15 then .ok (.ptr n) (S.set n (.dct (dmerge [] kvs))) else .bad
def mDict (m : M Kv) : M D := fun ρ S => (m ρ (S ++ [.dct []])).bind fun kvs S1 => fillD S.length kvs S1
def mDict0 : M D := fun _ S => newD [] S
structure EvPs (X : Cx) (cl : Cl) (W : WX) (pos : Pos) (keys : List (Option Expr)) (values : List Expr) (m : M Kv) : Prop where
  run : ∀ (pins : List (Addr × Obj)) (s : Shared) (σ : L2.St) (H : Hp) (io : List Addr) (ρ : Rho) (S : Sto), Inv X pins σ H s → Abs X.K cl io S H → RelRho X.K io H ρ σ → Good W X.K cl io H σ (m ρ S) →
    wpAny (model X.prog X.w) X.A (evalPairs (pairTrees keys values X.env pos)) (fun vs s' => ∃ kvs S' io' H' ps, m ρ S = .ok kvs S' ∧ Inv X pins σ H' s' ∧ Abs X.K cl io' S' H' ∧ Grow X.K io H io' H' ∧ RelPs X.K io' H' kvs ps ∧ VV ps vs) X.xe s
section
variable {X : Cx} {cl : Cl} {W : WX} {pos : Pos}
theorem eps_nil : EvPs X cl W pos [] [] mpNil := ⟨fun pins s σ H io ρ S I A R G => pairTrees_nil_walk ⟨[], S, io, H, [], rfl, I, A, Grow.rfl', .nil, .nil⟩⟩
theorem eps_cons {k v : Expr} {ks : List (Option Expr)} {vs : List Expr} {mk mv : M D} {r : M Kv} (hk : EvE X cl W k mk) (hv : EvE X cl W v mv) (hr : EvPs X cl W pos ks vs r) : EvPs X cl W pos (some k :: ks) (v :: vs) (mpCons mk mv r) := by
  refine ⟨fun pins s σ H io ρ S I A R G => ?_⟩
  refine pairTrees_cons_walk (hk.bind I A R G fun x S1 io1 H1 vx ux s1 e1 I1 A1 g1 R1 rx ru1 G1 => ?_)
  refine hv.bind I1 A1 R1 G1 fun y S2 io2 H2 vy uy s2 e2 I2 A2 g2 R2 ry ru2 G2 => ?_
  refine thn (hr.run pins s2 σ H2 io2 ρ S2 I2 A2 R2 G2.fst) fun ws s3 ⟨kvs, S3, io3, H3, ps, e3, I3, A3, g3, rp, rv⟩ => ?_
  refine ⟨(x, y) :: kvs, S3, io3, H3, (vx, vy) :: ps, ?_, I3, A3, (g1.trans g2).trans g3, .cons ⟨(rx.mono g2).mono g3, ry.mono g3⟩ rp, .cons ⟨ru1, ru2⟩ rv⟩
  unfold mpCons
  rw [e1, Rs.bind_ok, e2, Rs.bind_ok, e3, Rs.bind_ok]
theorem keys_of {io : List Addr} {H : Hp} : ∀ {kvs : Kv} {ps : List (V × V)}, RelPs X.K io H kvs ps → kvs.all (fun p => (keyD p.1).isSome) = true → ∃ ws : List (Key × V), ps = ws.map (fun kv => (kV kv.1, kv.2)) ∧ RelKs X.K io H kvs ws
  | _, _, .nil, _ => ⟨[], rfl, .nil⟩
  | p :: kvs, q :: ps, .cons h t, ha => by
    simp only [List.all_cons, Bool.and_eq_true] at ha
    obtain ⟨ws, e, r⟩ := keys_of t ha.2
    obtain ⟨key, hk⟩ := Option.isSome_iff_exists.mp ha.1
    obtain ⟨ex, ev⟩ := keyD_rel hk h.1
    refine ⟨(key, q.2) :: ws, ?_, .cons ⟨ex, keyD_ok hk h.1, h.2⟩ r⟩
    rw [e, List.map_cons]
    congr 1
    exact Prod.ext ev rfl
theorem ev_dict {keys : List (Option Expr)} {values : List Expr} {m : M Kv} (h : EvPs X cl W pos keys values m) (hall : keys.all (·.isSome) = true) (hl : keys.length = values.length) (h0 : keys ≠ []) (h15 : keys.length ≤ 15) : EvE X cl W (.Dict keys values pos) (mDict m) := by
  refine ⟨fun pins s σ H io ρ S I A R G => ?_⟩
  have hn := I.hok.fresh (Nat.le_refl s.heap.objs.size)
  have I1 := I.laid (a := s.heap.objs.size) (o := .dK []) (h' := s.heap.push { cls := .type "dict", data := .dict #[] }) (t' := s.toks) (fun _ _ q => Heap.get?_push_of_some _ q) (Nat.le_refl _) (dk_empty s.heap I.big)
  have g1 : Grow X.K io H (io ++ [s.heap.objs.size]) (upd H s.heap.objs.size (.dK [])) := grow_new hn
  have A1 : Abs X.K cl (io ++ [s.heap.objs.size]) (S ++ [.dct []]) (upd H s.heap.objs.size (.dK [])) := A.new hn (.dct upd_same .nil)
  have hp : (io ++ [s.heap.objs.size])[S.length]? = some s.heap.objs.size := by rw [List.getElem?_append_right (by rw [A.len]; exact Nat.le_refl _), A.len]; simp
  have G1 : Good W X.K cl (io ++ [s.heap.objs.size]) (upd H s.heap.objs.size (.dK [])) σ ((m ρ (S ++ [.dct []])).bind fun kvs S1 => fillD S.length kvs S1) := Good.mono g1 G
  refine wpAny_Dict_walk (knd := mixKind X.prog X.w) hall hl h0 h15 (thn (h.run pins _ σ _ _ ρ _ I1 A1 (RelRho.mono g1 R) G1.fst) fun ws s2 ⟨kvs, S2, io2, H2, ps, e2, I2, A2, g2, rp, rv⟩ => ?_)
  rw [e2, Rs.bind_ok] at G1
  unfold fillD at G1
  split at G1
  · rename_i hz
    obtain ⟨ks, ep, rk⟩ := keys_of (X := X) rp hz.2.1
    subst ep
    obtain ⟨rs, c, rkv⟩ := carries_of (P := X.prog) (w := X.w) rv
    have hp2 := g2.get hp
    cases ptr_obj A2 hp2 hz.1 with
    | @dct _ _ wz hHd rz =>
      cases rz
      obtain ⟨z, hd, vs0, r0, dd⟩ := dk_of I2.hok hHd
      cases r0
      refine ⟨rs, c, dd, fun h' dd' hs => ?_⟩
      have hlen : (mergeK [] ks).length ≤ sizeLine := by
        have h1 := length_mergeK ks []
        have h2 : ks.length ≤ 15 := by rw [← relKs_length rk]; exact hz.2.2
        rw [List.length_nil] at h1
        rw [sizeLine_eq]; omega
      have he : ∃ q, h'.get? s.heap.objs.size = some q := let ⟨q, _, _, hq, _⟩ := dd'; ⟨q, hq⟩
      have I3 := d_write (t' := s2.toks + ws.length) I2 (by rw [hHd]; exact True.intro) hs he (dk_new hlen hd (rkv.merge .nil) dd')
      obtain ⟨d, S3, io3, e3, A3, g3, rd⟩ := AnsV.setD (cl := cl) (d := .ptr S.length) (v := .ref s.heap.objs.size) A2 hp2 hz.1 hHd (relKs_merge rk .nil) (.ptr hp2)
      refine ⟨d, S3, io3, _, _, ?_, I3, A3, (g1.trans g2).trans g3, rd, rfl⟩
      unfold mDict
      rw [e2, Rs.bind_ok]
      unfold fillD
      rw [if_pos hz]
      exact e3
  · exact False.elim G1
end
end MP
/-! MP24 -/
set_option Elab.async false
set_option autoImplicit false
set_option linter.all false
set_option maxRecDepth 100000
namespace MP
open PySem PySem.Spec L2
open PyProof.Rows hiding St

/-! ## short words -/
section
variable {P : Program} {w : World} {K : PySem.W.Frag} {mg : Str → Option Value} {base : Heap} {cl : Cl} {CX : CXT}
/-- a def of the text by its body -/
theorem okG {x qual : Str} {st : Stmt} {f : Addr} {fd : FuncData} {N ps : List Str} {k : Nat} {m : MS} (F : Fun K x qual st f fd) (S : FnScope N ps (defScope st))
    (hb : ∀ (cdv : Value) (A : Around) (outer : List Env) (s : Shared) (H : Hp) (E : XK), Room k (A.deeper (envOfC qual (defScope st) s.heap.objs.size f cdv)) → (A.deeper (envOfC qual (defScope st) s.heap.objs.size f cdv)).guards = some [] →
      SsE (cxOf CX P w K mg base N qual (defScope st) f cdv A outer s H E) cl (fun c d _ H' => E c d H') (defBody st) m) : FnG P w K mg base cl CX (k + 1) f fd ps (callS N.length m) := by
  obtain ⟨oc, od, kV, doc, pm, an, cdv, ct, osl, rfl, lk, hcd⟩ := F.ex
  exact fnG_of lk hcd S fun A outer s H E hr hg => hb cdv A outer s H E hr hg
theorem room65 {A : Around} {k : Nat} (hr : Room k A) : A.units + 65 < cLine := by have := hr.un; omega
theorem room1 {A : Around} {k : Nat} (hr : Room k A) : A.units + 1 < cLine := by have := hr.un; omega
end
namespace R
section
variable {X : Cx} {cl : Cl} {W : WX} {x y : Str} {pos pos' p p2 p3 apos cpos spos : Pos} {e a b c o i : Expr} {es : List Expr} {m ma mb mc mo mi mv : M D} {mt mt' : M Bool} {mA : M (List D)}
theorem v (i : Nat) (hN : X.N[i]? = some x := by rfl) (hv : Vis X.env.scope x := by first | exact Or.inl rfl | exact Or.inr (Or.inl rfl) | exact Or.inr (Or.inr rfl)) (hd : (x == ("__debug__" : Str)) = false := by decide) (hcd : (x == ("__classdict__" : Str)) = false := by decide) :
    EvE X cl W (.Name x pos) (mVar i) := ev_var hN hv hd hcd
theorem eA0 : EvA X cl W [] mNil := ea_nil
theorem eA (h : EvE X cl W e m) (hr : EvA X cl W es mA) (hs : starEach (e :: es) X.env = (false, eval e X.env) :: starEach es X.env := by rfl) : EvA X cl W (e :: es) (mCons m mA) := ea_cons h hr hs
theorem tcmp {op : CmpOp} {g : F2} (ho : OpS X cl W (compareOp op) g) (ha : EvE X cl W a ma) (hb : EvE X cl W b mb) (hm : behindInMarks op b = false := by first | exact nobehind _ (by decide) (by decide) | rfl) : EvT X cl W (.Compare a [op] [b] pos) (mBl (mBin g ma mb)) := et_cmp ho ha hb hm
theorem tval (h : EvE X cl W e m) (he : ∀ whole, isTrue e X.env whole = (do let v ← whole; standAt e.pos; holding [v] (truthy v)) := by intro _; rfl) : EvT X cl W e (mTru m) := et_val h he
theorem call {u : Value} {g : FL} (hm : X.mg x = some u) (hk : PySem.W.keepIn X.K u = true) (hc : CaS X cl W u g) (ha : EvA X cl W (e :: es) mA) (hg : Gl X x := by rfl) (hdb : (x == ("__debug__" : Str)) = false := by decide)
    (he : starEach (e :: es) X.env = (false, eval e X.env) :: starEach es X.env := by rfl) (hpl : (backTo pos (starEach es X.env)).any (·.1) = false := by rfl) : EvE X cl W (.Call (.Name x p) (e :: es) [] pos) (mDisp g mA) := ev_call hg hm hk hc ha hdb he hpl
theorem callB {id : String} {g : FL} (hc : CaS X cl W (.builtin id) g) (hm : X.mg x = none) (hv : bootBuiltins x = some (.builtin id)) (ha : EvA X cl W (e :: es) mA) (hg : Gl X x := by rfl) (hn : x ≠ "__name__" := by decide) (hdb : (x == ("__debug__" : Str)) = false := by decide)
    (he : starEach (e :: es) X.env = (false, eval e X.env) :: starEach es X.env := by rfl) (hpl : (backTo pos (starEach es X.env)).any (·.1) = false := by rfl) : EvE X cl W (.Call (.Name x p) (e :: es) [] pos) (mDisp g mA) := ev_callB hc hg hm hv ha hn hdb he hpl
theorem callT {T : String} {g : FL} (hc : CaS X cl W (.type T) g) (hm : X.mg x = none) (hv : bootBuiltins x = some (.type T)) (ha : EvA X cl W (e :: es) mA) (hg : Gl X x := by rfl) (hn : x ≠ "__name__" := by decide) (hdb : (x == ("__debug__" : Str)) = false := by decide)
    (he : starEach (e :: es) X.env = (false, eval e X.env) :: starEach es X.env := by rfl) (hpl : (backTo pos (starEach es X.env)).any (·.1) = false := by rfl) : EvE X cl W (.Call (.Name x p) (e :: es) [] pos) (mDisp g mA) := ev_callT hc hg hm hv ha hn hdb he hpl
theorem bty {T : String} (hm : X.mg x = none) (hv : bootBuiltins x = some (.type T)) (hg : Gl X x := by rfl) (hn : x ≠ "__name__" := by decide) (hd : (x == ("__debug__" : Str)) = false := by decide) : PE X (.Name x pos) (tC (.ty T)) := pe_bltn hg hm hv rfl hn hd
theorem ix (hu : X.A.units + 1 < cLine) (ha : EvE X cl W a ma) (hb : EvE X cl W b mb) (hs : PlainIx b := by intro _ _; rfl) : EvE X cl W (.Subscript a b pos) (mBin ixS ma mb) := ev_ix hu ha hb hs
theorem bm {T id : String} {n : Str} {g : FM} (pa : PlainAttrs T) (slot : Slot T n id) (hty : typeOf (.builtin id) = pure (.type "method_descriptor")) (hm : MtS X cl W id g) (ho : EvE X cl W o mo) (ha : EvA X cl W (e :: es) mA)
    (hbase : attributeBase o n X.env (eval o X.env) = eval o X.env := by rfl)
    (hfew : ((backTo cpos (starEach (e :: es) X.env)).all (fun x => !x.1) && (backToKw cpos (keywordEach [] X.env)).all (fun x => x.1.isSome) && decide ((e :: es).length + ([] : List Keyword).length + (if ([] : List Keyword).isEmpty then 0 else 1) < 30)) = true := by rfl)
    (hline : (apos.endLine == cpos.line) = true := by rfl) (hs : starEach (e :: es) X.env = (false, eval e X.env) :: starEach es X.env := by rfl) (hplain : (backTo cpos (starEach es X.env)).any (·.1) = false := by rfl) :
    EvE X cl W (.Call (.Attribute o n apos) (e :: es) [] cpos) (mBm T g mo mA) := ev_bm pa slot hty hm ho ha hbase hfew hline hs hplain
/-! statements -/
variable {st : Stmt} {rest body : List Stmt} {ms mr : MS}
theorem nm (j : Nat) (hN : X.N.Nodup) (hi : X.N[j]? = some x := by rfl) (hx : Loc X.env.scope x := by first | exact Or.inl rfl | exact Or.inr rfl) (hf : X.fn x = true ∨ X.env.scope.names.lookup x = some .local := by first | exact Or.inl rfl | exact Or.inr rfl) : TgE X cl (.Name x pos) (gNm j) [j] := g_name hN hi hx hf
theorem set (j : Nat) (hN : X.N.Nodup) (he : EvE X cl W e m) (hi : X.N[j]? = some x := by rfl) (hx : Loc X.env.scope x := by first | exact Or.inl rfl | exact Or.inr rfl) (hf : X.fn x = true ∨ X.env.scope.names.lookup x = some .local := by first | exact Or.inl rfl | exact Or.inr rfl)
    (hs : swapsWith e (some (.Name x pos')) pos.line X.env = pure false := by rfl) : StE X cl W (.Assign [.Name x pos'] e pos) (mAsg m (gNm j)) := s_set hN hi hx hf he hs
theorem asgn {tg : Expr} {g : MG} {l : List Nat} (he : EvE X cl W e m) (hg : TgE X cl tg g l) (hs : swapsWithSole [tg] e pos.line X.env = pure false := by rfl) (hw : swappedStores [tg] e X.env = pure none := by rfl)
    (h1 : (assignEach [tg] X.env).map (·.2) = [assign tg X.env] := by rfl) : StE X cl W (.Assign [tg] e pos) (mAsg m g) := s_asg he hg hs hw h1
theorem gc {t : Expr} {ts : List Expr} {g : MG} {r : MGs} {l l' : List Nat} (h1 : TgE X cl t g l) (h2 : TgsE X cl ts r l') (hs : (assignEach (t :: ts) X.env).map (·.2) = assign t X.env :: (assignEach ts X.env).map (·.2) := by rfl) : TgsE X cl (t :: ts) (gsCons g r) (l ++ l') := gs_cons h1 h2 hs
theorem gt {ts : List Expr} {k : Nat} {r : MGs} {l : List Nat} (n : Nat) (hc : X.calm = true) (h : TgsE X cl ts r l) (hn : (assignEach ts X.env).length = n := by rfl) (hst : (assignEach ts X.env).findIdx? (·.1) = none := by rfl) : TgE X cl (.Tuple ts k pos) (gTp n r) l := g_tup hc h hn hst
theorem xp (he : EvE X cl W e m) (hs : swapsWith e none pos.line X.env = pure false := by rfl) : StE X cl W (.Expr e pos) (mDrop m) := s_expr he hs
theorem forr {tg it : Expr} {mi : MI} {g : MG} {l : List Nat} (hp : PassesOwn (model X.prog X.w) X.A X.env X.xe) (hc : X.calm = true) (hi : ItE X cl W tg it mi) (hg : TgE X cl tg g l) (hb : SsE X cl W body ms) (hs : ∀ x, foldedSetIterable it X.env x = pure x := by intro _; rfl) : StE X cl W (.For tg it body [] pos) (mFor mi g ms) := s_for hp hc hi hg hb hs
theorem setI (hu : X.A.units + 1 < cLine) (ho : EvE X cl W o mo) (hi : EvE X cl W i mi) (hv : EvE X cl W e mv) (hs : swapsWith e (some (.Subscript o i pos')) pos.line X.env = pure false := by rfl) : StE X cl W (.Assign [.Subscript o i pos'] e pos) (mSetI mo mi mv) := s_setI hu ho hi hv hs
end
end R
end MP
/-! MP25 -/
set_option Elab.async false
set_option autoImplicit false
set_option linter.all false
set_option maxRecDepth 100000
namespace MP
open PySem PySem.Spec L2
open PyProof.Rows hiding St

/-! ## == and != by an own __eq__ -/
section
variable {prog : Program} {w : World} {A : Around} {E : Value → Shared → Prop} {s : Shared} {K : PySem.W.Frag} {x C f : Addr} {ox : Obj} {od : Option Obj} {b : Value}
end
def blOnly : Rs D → Rs D
  | .ok (.bl b) S => .ok (.bl b) S
  | _ => .bad
def notB : Rs D → Rs D
  | .ok (.bl b) S => .ok (.bl (!b)) S
  | _ => .bad
def okKd (cs : List Str) : Kd → Bool
  | .t n => decide (n ∈ btys)
  | .c c => decide (c ∈ cs)
/-- x == y: by the own __eq__ of x's class; of data -/
def eqI (tbl : List (Str × FL)) (cs : List Str) : F2 := fun x y S => match x with
  | .ptr n => match S[n]? with
    | some (.ins c _) => match tbl.lookup c, kdS y S with
      | some g, some k => if okKd cs k = true then blOnly (g [x, y] S) else .bad
      | _, _ => .bad
    | _ => eqS x y S
  | _ => eqS x y S
def neI (tbl : List (Str × FL)) (cs : List Str) : F2 := fun x y S => match x with
  | .ptr n => match S[n]? with
    | some (.ins c _) => match tbl.lookup c, kdS y S with
      | some g, some k => if okKd cs k = true then notB (g [x, y] S) else .bad
      | _, _ => .bad
    | _ => neS x y S
  | _ => neS x y S
/-- what must be known of a class with an own __eq__ -/
structure EqK (P : Program) (w : World) (K : PySem.W.Frag) (mg : Str → Option Value) (base : Heap) (cl : Cl) (CX : CXT) (cs : List Str) (k : Nat) (c : Str) (g : FL) : Prop where
  ex : ∃ (C f : Addr) (fd : FuncData) (ps : List Str), cl c = some C ∧ FnG P w K mg base cl CX k f fd ps g ∧ ps.length = 2 ∧ Binds K fd ps [] ∧ PySem.W.findIn K (.ref C) "__eq__" = some (some (.ref f)) ∧ PySem.W.findIn K (.ref C) "__ne__" = some (some (.builtin "object.__ne__")) ∧
    PySem.W.isFn K (.ref f) = true ∧ PySem.W.mroIn K C (.type "object") = some true ∧ ∀ kd t, okKd cs kd = true → KdV cl kd t → PySem.W.notFirst K C t = true
section
variable {X : Cx} {cl : Cl} {W : WX} {CX : CXT} {k : Nat} {tbl : List (Str × FL)} {cs : List Str}
end
/-! ## stores within patterns -/
section
variable {X : Cx} {cl : Cl} {o i : Expr} {mo mi : M D} {pos : Pos}
theorem g_sub (hu : X.A.units + 1 < cLine) (ho : EvE X cl WF o mo) (hi : EvE X cl WF i mi)
    (ha : ∀ v, assign (.Subscript o i pos) X.env v = (do
      let ov ← holding [v] (eval o X.env)
      let iv ← holding [v, ov] (eval i X.env)
      standAt pos
      holding [v, ov, iv] (setItem ov iv v)
      release [v, ov, iv] [])) : TgE X cl (.Subscript o i pos) (gSubS mo mi) [] := by
  refine PG.imp (pg_sub ho.pe hi.pe (set_any hu) ha) fun v σ H Q ⟨io, ρ, S, d, A, R, rd, G, k⟩ => ?_
  unfold gSubS at G k
  cases e1 : mo ρ S with
  | exn _ _ => rw [e1] at G; exact False.elim G
  | bad => rw [e1] at G; exact False.elim G
  | ok x S1 =>
    rw [e1] at G k
    simp only at G k
    refine ⟨io, ρ, S, A, R, by rw [e1]; trivial, fun x' S1' io1 H1 vx e A1 g1 rx => ?_⟩
    rw [e1] at e
    cases e
    cases e2 : mi ρ S1 with
    | exn _ _ => rw [e2] at G; exact False.elim G
    | bad => rw [e2] at G; exact False.elim G
    | ok y S2 =>
      rw [e2] at G k
      simp only at G k
      refine ⟨io1, ρ, S1, A1, RelRho.mono g1 R, by rw [e2]; trivial, fun y' S2' io2 H2 vy e A2 g2 ry => ?_⟩
      rw [e2] at e
      cases e
      cases h : setS x y d S2 with
      | none => rw [h] at G; exact False.elim G
      | some S3 =>
        rw [h] at k
        obtain ⟨H4, hh, A4, g4⟩ := setS_ok A2 (rx.mono g2) ry ((rd.mono g1).mono g2) h
        have fin := k ρ S3 io2 H4 σ rfl A4 ((g1.trans g2).trans g4) (RelRho.mono ((g1.trans g2).trans g4) R) ⟨rfl, fun _ _ => rfl⟩
        rcases hh with ⟨a, xs, kk, j, q1, q2, q3, q4, q5⟩ | ⟨a, q1, q2⟩
        · exact .inl ⟨a, xs, kk, j, q1, q2, q3, q4, by rw [q5]; exact fin⟩
        · exact .inr ⟨a, H4, q1, q2, fin⟩
end
/-! ## joined texts -/
end MP
/-! MP26 -/
set_option Elab.async false
set_option autoImplicit false
set_option linter.all false
set_option maxRecDepth 100000
namespace MP
open PySem PySem.Spec L2
open PyProof.Rows hiding St

/-! ## chains as tests -/
def mChainT (g g' : F2) (a b c : M D) : M Bool := fun ρ S => (a ρ S).bind fun x S1 => (b ρ S1).bind fun y S2 => (g x y S2).bind fun z S3 => (blOf z S3).bind fun k S4 =>
  if k = true then (c ρ S4).bind fun w S5 => (g' y w S5).bind blOf else .ok false S4
section
variable {X : Cx} {cl : Cl} {W : WX} {a b c : Expr} {ma mb mc : M D} {pos : Pos}
/-! ## keywords -/
structure EvK (X : Cx) (cl : Cl) (W : WX) (kws : List Keyword) (m : M (List D)) : Prop where
  run : ∀ (pos : Pos) (pins : List (Addr × Obj)) (s : Shared) (σ : L2.St) (H : Hp) (io : List Addr) (ρ : Rho) (S : Sto), Inv X pins σ H s → Abs X.K cl io S H → RelRho X.K io H ρ σ → Good W X.K cl io H σ (m ρ S) →
    wpAny (model X.prog X.w) X.A (evalAll ((backToKw pos (keywordEach kws X.env)).map (·.2))) (AvP X cl pins σ io H (m ρ S)) X.xe s
/-- in the parameters' order -/
def reord {α : Type} (perm : List Nat) (ws : List α) : List α := perm.filterMap fun i => ws[i]?
theorem reord_rel {K : PySem.W.Frag} {io : List Addr} {H : Hp} {ds : List D} {vs : List V} (r : RelDs K io H ds vs) : ∀ perm : List Nat, RelDs K io H (reord perm ds) (reord perm vs)
  | [] => .nil
  | i :: perm => by
    unfold reord
    rw [List.filterMap_cons, List.filterMap_cons]
    cases e : ds[i]? with
    | none =>
      have : vs[i]? = none := by rw [List.getElem?_eq_none_iff] at e ⊢; rw [← r.length]; exact e
      rw [this]
      exact reord_rel r perm
    | some d =>
      obtain ⟨v, hv, rd⟩ := r.get e
      rw [hv]
      exact .cons rd (reord_rel r perm)
theorem reord_vals {vs : List V} {us : List Value} (r : Vals vs us) : ∀ perm : List Nat, Vals (reord perm vs) (reord perm us)
  | [] => .nil
  | i :: perm => by
    unfold reord
    rw [List.filterMap_cons, List.filterMap_cons]
    cases e : vs[i]? with
    | none =>
      have : us[i]? = none := by rw [List.getElem?_eq_none_iff] at e ⊢; rw [← r.length]; exact e
      rw [this]
      exact reord_vals r perm
    | some d =>
      obtain ⟨v, hv, rd⟩ := r.get e
      rw [hv]
      exact .cons rd (reord_vals r perm)
def mkKw (c : Str) (k nk : Nat) (perm : List Nat) (g : FL) : FL := fun ws S => if ws.length = nk then mkG c k g (reord perm ws) S else .bad
/-- how an __init__ binds keywords -/
def KwB (K : PySem.W.Frag) (fd : FuncData) (ps ks : List Str) (perm : List Nat) : Prop := ∀ (s : Shared) (self : Value) (ws : List Value), K.In s.heap → ws.length = ks.length → BindsTo s fd ⟨[self], ks.zip ws⟩ (ps.zip (self :: reord perm ws))
variable {CX : CXT} {k : Nat} {x cn : Str} {C fa : Addr} {fd : FuncData} {ps ks : List Str} {g : FL} {perm : List Nat} {kws : List Keyword} {m : M (List D)} {p : Pos}
theorem ev_mkKw (hC : cl cn = some C) (M : Mk X.K C fa) (F : FnG X.prog X.w X.K X.mg X.base cl CX k fa fd ps g) (hr : Room (k + 1) X.A) (hgd : X.A.guards = some []) (hm : X.mg x = some (.ref C)) (hb : KwB X.K fd ps ks perm) (hx : PassW CX X W) (hkw : EvK X cl W kws m)
    (hall : (backToKw pos (keywordEach kws X.env)).all (·.1.isSome) = true) (hks : (backToKw pos (keywordEach kws X.env)).filterMap (·.1) = ks) (hg : Gl X x)
    (hpl : ((backTo pos (starEach [] X.env)).any (·.1) || (backToKw pos (keywordEach kws X.env)).any (·.1.isNone)) = false)
    (hdb : (x == ("__debug__" : Str)) = false := by decide) : EvE X cl W (.Call (.Name x p) [] kws pos) (mDisp (mkKw cn ps.length ks.length perm g) m) := by
  refine ⟨fun pins s σ H io ρ S I A R G => ?_⟩
  refine wpAny_Call_Name_kw (ld_glob I hg hm (PySem.W.callWith_KW0 (h₀ := X.base) I.ok.mod.kin M.kp hall ?_ hpl) hdb)
  refine thn (hkw.run pos pins s σ H io ρ S I A R G.fst) fun ws s1 ⟨ds, S1, io1, H1, vs, e1, I1, A1, g1, rs, rv⟩ => ⟨I1.kIn, ?_⟩
  rw [hks]
  have G0 : Good W X.K cl io1 H1 σ (mkKw cn ps.length ks.length perm g ds S1) := by
    unfold mDisp at G
    rw [e1] at G
    exact Good.mono g1 G
  have hds : ds.length = ks.length := by
    unfold mkKw at G0
    split at G0
    · assumption
    · exact False.elim G0
  have e2 : mDisp (mkKw cn ps.length ks.length perm g) m ρ S = mkG cn ps.length g (reord perm ds) S1 := by unfold mDisp; rw [e1]; show mkKw _ _ _ _ _ _ _ = _; unfold mkKw; rw [if_pos hds]
  have G1 : Good W X.K cl io1 H1 σ (mkG cn ps.length g (reord perm ds) S1) := by
    unfold mkKw at G0
    rw [if_pos hds] at G0
    exact G0
  rw [e2]
  have lw : ws.length = ks.length := by rw [← rv.length, ← rs.length]; exact hds
  have rx := reord_rel rs perm
  have ru := reord_vals rv perm
  unfold mkG at G1 ⊢
  split at G1
  · rename_i hl
    rw [if_pos hl]
    have I2 := Inv.made (C := C) I1
    have f0 : H1 s1.heap.objs.size = none := I1.hok.fresh (Nat.le_refl _)
    have f1 : upd H1 s1.heap.objs.size (.own (s1.heap.objs.size + 1)) (s1.heap.objs.size + 1) = none := by rw [upd_ne (Nat.succ_ne_self _)]; exact I1.hok.fresh (Nat.le_succ _)
    have ga : Grow X.K io1 H1 io1 (upd H1 s1.heap.objs.size (.own (s1.heap.objs.size + 1))) := grow_upd (.inl f0)
    have gb : Grow X.K io1 (upd H1 s1.heap.objs.size (.own (s1.heap.objs.size + 1))) (io1 ++ [s1.heap.objs.size + 1]) (upd (upd H1 s1.heap.objs.size (.own (s1.heap.objs.size + 1))) (s1.heap.objs.size + 1) (.ins C s1.heap.objs.size [])) := grow_new f1
    have g01 := ga.trans gb
    have A2 : Abs X.K cl (io1 ++ [s1.heap.objs.size + 1]) (S1 ++ [.ins cn []]) (upd (upd H1 s1.heap.objs.size (.own (s1.heap.objs.size + 1))) (s1.heap.objs.size + 1) (.ins C s1.heap.objs.size [])) := (A1.tup f0).new f1 (.ins hC upd_same .nil)
    have hn : (io1 ++ [s1.heap.objs.size + 1])[S1.length]? = some (s1.heap.objs.size + 1) := by rw [List.getElem?_append_right (by rw [A1.len]; exact Nat.le_refl _), A1.len]; simp
    have r2 : Vals (V.ref (s1.heap.objs.size + 1) :: reord perm vs) (Value.ref (s1.heap.objs.size + 1) :: reord perm ws) := .cons rfl ru
    have rd2 : RelDs X.K (io1 ++ [s1.heap.objs.size + 1]) (upd (upd H1 s1.heap.objs.size (.own (s1.heap.objs.size + 1))) (s1.heap.objs.size + 1) (.ins C s1.heap.objs.size [])) (.ptr S1.length :: reord perm ds) (V.ref (s1.heap.objs.size + 1) :: reord perm vs) := .cons (.ptr hn) (rx.mono g01)
    have hlv : (V.ref (s1.heap.objs.size + 1) :: reord perm vs).length = ps.length := by rw [← hl, List.length_cons, rx.length]
    refine wpAny_call (make_map (f := fa) I1.kIn M.makes M.init (beq_iff_eq.mp M.fn) (codeAny_mono (F.run _ X.stack _ _ ⟨Value.ref (s1.heap.objs.size + 1) :: [], ks.zip ws⟩ (Value.ref (s1.heap.objs.size + 1) :: reord perm ws) (V.ref (s1.heap.objs.size + 1) :: reord perm vs) _ (S1 ++ [.ins cn []]) (.ptr S1.length :: reord perm ds)
      (fun v H2 => v = .non ∧ AnsV X cl io1 H1 (mkS cn g (reord perm ds) S1) (.ref (s1.heap.objs.size + 1)) H2) (fun c d H' => W c d σ H') (hr.make C [] (ks.zip ws)) ?_ (I2.env0.make C [] (ks.zip ws)) (hb _ _ ws I2.kIn lw) r2 hlv A2 rd2 ?_ fun d S' io' H' v e A' g' rd => ?_) fun r s' hq => ?_))
    · have ng : (Code.builtin "type.__call__" ⟨.ref C :: ([] : List Value), ks.zip ws⟩).isGuard = false := by simp [Code.isGuard, guardIds]
      simp [Around.under, Code.guards, ng, pushGuards, hgd]
    · cases hg' : g (.ptr S1.length :: reord perm ds) (S1 ++ [.ins cn []]) with
      | ok _ _ => trivial
      | exn x S' =>
        unfold mkS at G1
        rw [hg'] at G1
        exact fun io' H' cc d A' g' rx => G1 io' H' cc d A' (g01.trans g') rx
      | bad =>
        unfold mkS at G1
        rw [hg'] at G1
        exact G1
    · unfold mkS at G1
      rw [e] at G1
      cases rd with
      | non => exact ⟨rfl, .ptr S1.length, S', io', by unfold mkS; rw [e]; rfl, A', g01.trans g', .ptr (g'.get hn)⟩
      | _ => exact False.elim G1
    · cases r with
      | error e => exact hx pins σ _ _ e s' I2 hq
      | ok fl =>
        cases fl with
        | ret u =>
          obtain ⟨v, H', I3, rv, ev, d, S', io', e, A', g', rd⟩ := I2.after hq
          subst ev
          exact ⟨rv, d, S', io', H', _, e, I3, A', g1.trans g', rd, rfl⟩
        | next => exact False.elim hq
        | brk => exact False.elim hq
        | cont => exact False.elim hq
  · exact False.elim G1
theorem R.mkKw {n nk : Nat} (hC : cl cn = some C) (M : Mk X.K C fa) (F : FnG X.prog X.w X.K X.mg X.base cl CX k fa fd ps g) (hr : Room (k + 1) X.A) (hgd : X.A.guards = some []) (hm : X.mg x = some (.ref C)) (hb : KwB X.K fd ps ks perm) (hx : PassW CX X W) (hkw : EvK X cl W kws m)
    (hn : ps.length = n := by rfl) (hnk : ks.length = nk := by rfl) (hall : (backToKw pos (keywordEach kws X.env)).all (·.1.isSome) = true := by rfl) (hks : (backToKw pos (keywordEach kws X.env)).filterMap (·.1) = ks := by rfl) (hg : Gl X x := by rfl)
    (hpl : ((backTo pos (starEach [] X.env)).any (·.1) || (backToKw pos (keywordEach kws X.env)).any (·.1.isNone)) = false := by rfl)
    (hdb : (x == ("__debug__" : Str)) = false := by decide) : EvE X cl W (.Call (.Name x p) [] kws pos) (mDisp (MP.mkKw cn n nk perm g) m) := by
  subst hn hnk
  exact ev_mkKw hC M F hr hgd hm hb hx hkw hall hks hg hpl hdb
/-- names of a pattern and their places -/
def ixC (N : List Str) (sc : Scope) (ix : List (Str × Nat)) : Bool := ix.all fun p => decide (N[p.2]? = some p.1) && (match sc.names.lookup p.1 with
  | some .local => true
  | _ => false)
end
end MP
/-! MP27 -/
set_option Elab.async false
set_option autoImplicit false
set_option linter.all false
set_option maxRecDepth 100000
namespace MP
open PySem PySem.Spec L2
open PyProof.Rows hiding St

section
variable {X : Cx} {cl : Cl} {W : WX}
end
end MP
/-! MP28 -/
set_option Elab.async false
set_option autoImplicit false
set_option linter.all false
set_option maxRecDepth 100000
namespace MP
open PySem PySem.Spec L2
open PyProof.Rows hiding St

/-! ## the law's end -/
section
variable {P : Program} {w : World} {K : PySem.W.Frag} {mg mb : Str → Option Value} {cl : Cl} {CX : CXT} {k : Nat} {fa a : Addr} {fd : FuncData} {x : Str} {g : FL} {st : Shared} {vs : List Value} {ns : List Int}
/-- the script alone may stand in the abstract heap -/
structure Alone (P : Program) (w : World) (K : PySem.W.Frag) (st : Shared) (a : Addr) (ns : List Int) (H : Hp) : Prop where
  ok : HOk P w H st.heap
  at_ : ∀ b, H b ≠ none → b = a
  fz : ∀ b, H b = none ∨ ∃ ob xs, H b = some (.frz ob (.lst xs))
  ro : RoL K H a (ns.map V.int)
  kk : H a ≠ none → K.lookup a = none
theorem alone_of (KX : K.In st.heap) (ha : st.heap.get? a = some { cls := .type "list", data := .seq vs.toArray }) (hi : IntsAre vs ns) (hl : ns.length ≤ sizeLine) : ∃ H, Alone P w K st a ns H := by
  have rv := vals_ints hi
  have len := hi.length
  cases hk : K.lookup a with
  | some ob =>
    have e := KX a ob hk
    rw [ha] at e
    cases e
    refine ⟨fun _ => none, fun b u z => ?_, fun b z => absurd rfl z, fun _ => .inl rfl, .inr (.inr ⟨_, vs.toArray, _, hk, rfl, rfl, rfl, ?_, by simpa using rv⟩), fun z => absurd rfl z⟩
    · exact nomatch (show (none : Option HO) = some u from z)
    · rw [List.size_toArray, len]; exact hl
  | none =>
    let ob : Obj := { cls := .type "list", data := .seq vs.toArray }
    let H : Hp := fun b => if b = a then some (.frz ob (.lst (ns.map V.int))) else none
    have hs : H a = some (.frz ob (.lst (ns.map V.int))) := if_pos rfl
    have hn : ∀ b, b ≠ a → H b = none := fun b hb => if_neg hb
    refine ⟨H, fun b u z => ?_, fun b z => ?_, fun b => ?_, .inl ⟨ob, hs⟩, fun _ => hk⟩
    · by_cases hb : b = a
      · rw [hb, hs] at z
        cases z
        rw [hb]
        exact ⟨ha, by rw [List.length_map]; exact hl, vs, _, rv, ha⟩
      · rw [hn b hb] at z
        cases z
    · exact Classical.byContradiction fun hb => z (hn b hb)
    · by_cases hb : b = a
      · rw [hb]; exact .inr ⟨_, _, hs⟩
      · exact .inl (hn b hb)
end
end MP
/-! MP29 -/
set_option Elab.async false
set_option autoImplicit false
set_option linter.all false
set_option maxRecDepth 100000
namespace MP
open PySem PySem.Spec L2

/-! ## what holds behind a result: the plain side's own steps -/
def Wp {α : Type} (r : Rs α) (Q : α → Sto → Prop) : Prop := ∃ a S', r = .ok a S' ∧ Q a S'
section
variable {α β : Type}
theorem Wp.imp {r : Rs α} {Q R : α → Sto → Prop} (h : Wp r Q) (k : ∀ a S, Q a S → R a S) : Wp r R := by
  obtain ⟨a, S, e, q⟩ := h
  exact ⟨a, S, e, k a S q⟩
theorem wp_ok {a : α} {S : Sto} {Q : α → Sto → Prop} : Wp (.ok a S) Q ↔ Q a S := by
  constructor
  · rintro ⟨b, T, e, q⟩; cases e; exact q
  · exact fun q => ⟨a, S, rfl, q⟩
theorem wp_bad {Q : α → Sto → Prop} : Wp (.bad : Rs α) Q ↔ False := ⟨fun ⟨_, _, e, _⟩ => (by cases e), False.elim⟩
theorem wp_exn {x : Exn} {S : Sto} {Q : α → Sto → Prop} : Wp (.exn x S : Rs α) Q ↔ False := ⟨fun ⟨_, _, e, _⟩ => (by cases e), False.elim⟩
theorem wp_bind {r : Rs α} {f : α → Sto → Rs β} {Q : β → Sto → Prop} : Wp (r.bind f) Q ↔ Wp r fun a S => Wp (f a S) Q := by
  cases r with
  | ok a S => simp only [Rs.bind, wp_ok]
  | exn x S => simp only [Rs.bind, wp_exn]
  | bad => simp only [Rs.bind, wp_bad]
theorem wp_noX {r : Rs α} {Q : α → Sto → Prop} : Wp (noX r) Q ↔ Wp r Q := by
  cases r <;> simp only [noX, wp_ok, wp_exn, wp_bad]
/-- if the guard holds -/
theorem wp_guard {c : Prop} [Decidable c] {r : Rs α} {Q : α → Sto → Prop} : Wp (if c then r else .bad) Q ↔ c ∧ Wp r Q := by
  by_cases h : c <;> simp [h, wp_bad]
variable {ρ : Rho} {S : Sto}
theorem wp_mC {d : D} {Q : D → Sto → Prop} : Wp (mC d ρ S) Q ↔ Q d S := wp_ok
theorem wp_mStr {x : Str} {Q : D → Sto → Prop} : Wp (mStr x ρ S) Q ↔ okS x ∧ Q (.str x) S := by
  simp only [mStr, wp_guard, wp_ok]
theorem wp_mTru {m : M D} {Q : Bool → Sto → Prop} : Wp (mTru m ρ S) Q ↔ Wp (m ρ S) fun d S1 => Wp (tru d S1) Q := wp_bind
theorem wp_mBl {m : M D} {Q : Bool → Sto → Prop} : Wp (mBl m ρ S) Q ↔ Wp (m ρ S) fun d S1 => Wp (blOf d S1) Q := wp_bind
theorem wp_blOf {b : Bool} {Q : Bool → Sto → Prop} : Wp (blOf (.bl b) S) Q ↔ Q b S := wp_ok
theorem wp_tru_bl {b : Bool} {Q : Bool → Sto → Prop} : Wp (tru (.bl b) S) Q ↔ Q b S := by simp only [tru, truD, wp_ok]
theorem wp_mBin {g : F2} {a b : M D} {Q : D → Sto → Prop} : Wp (mBin g a b ρ S) Q ↔ Wp (a ρ S) fun x S1 => Wp (b ρ S1) fun y S2 => Wp (g x y S2) Q := by
  simp only [mBin, wp_bind]
theorem wp_mUn {g : F1} {a : M D} {Q : D → Sto → Prop} : Wp (mUn g a ρ S) Q ↔ Wp (a ρ S) fun x S1 => Wp (g x S1) Q := by
  simp only [mUn, wp_bind]
theorem wp_mIf {t : M Bool} {a b : M α} {Q : α → Sto → Prop} : Wp (mIf t a b ρ S) Q ↔ Wp (t ρ S) fun c S1 => if c = true then Wp (a ρ S1) Q else Wp (b ρ S1) Q := by
  simp only [mIf, wp_bind]
  constructor <;> intro h <;> refine h.imp fun c S1 q => ?_ <;> cases c <;> simpa using q
theorem wp_mNotT {t : M Bool} {Q : Bool → Sto → Prop} : Wp (mNotT t ρ S) Q ↔ Wp (t ρ S) fun c S1 => Q (!c) S1 := by
  simp only [mNotT, wp_bind, wp_ok]
theorem wp_mAndT {a b : M Bool} {Q : Bool → Sto → Prop} : Wp (mAndT a b ρ S) Q ↔ Wp (a ρ S) fun c S1 => if c = true then Wp (b ρ S1) Q else Q false S1 := by
  simp only [mAndT, wp_bind]
  constructor <;> intro h <;> refine h.imp fun c S1 q => ?_ <;> cases c <;> simpa [wp_ok] using q
theorem wp_mOrT {a b : M Bool} {Q : Bool → Sto → Prop} : Wp (mOrT a b ρ S) Q ↔ Wp (a ρ S) fun c S1 => if c = true then Q true S1 else Wp (b ρ S1) Q := by
  simp only [mOrT, wp_bind]
  constructor <;> intro h <;> refine h.imp fun c S1 q => ?_ <;> cases c <;> simpa [wp_ok] using q
theorem wp_mAndV {a b : M D} {Q : D → Sto → Prop} : Wp (mAndV a b ρ S) Q ↔ Wp (a ρ S) fun x S1 => Wp (tru x S1) fun c S2 => if c = true then Wp (b ρ S2) Q else Q x S2 := by
  simp only [mAndV, wp_bind]
  constructor <;> intro h <;> refine h.imp fun x S1 q => q.imp fun c S2 q => ?_ <;> cases c <;> simpa [wp_ok] using q
theorem wp_mOrV {a b : M D} {Q : D → Sto → Prop} : Wp (mOrV a b ρ S) Q ↔ Wp (a ρ S) fun x S1 => Wp (tru x S1) fun c S2 => if c = true then Q x S2 else Wp (b ρ S2) Q := by
  simp only [mOrV, wp_bind]
  constructor <;> intro h <;> refine h.imp fun x S1 q => q.imp fun c S2 q => ?_ <;> cases c <;> simpa [wp_ok] using q
theorem wp_mNotV {a : M D} {Q : D → Sto → Prop} : Wp (mNotV a ρ S) Q ↔ Wp (a ρ S) fun x S1 => Wp (tru x S1) fun c S2 => Q (.bl (!c)) S2 := by
  simp only [mNotV, wp_bind, wp_ok]
theorem wp_mChain {g g' : F2} {a b c : M D} {Q : D → Sto → Prop} : Wp (mChain g g' a b c ρ S) Q ↔ Wp (a ρ S) fun x S1 => Wp (b ρ S1) fun y S2 => Wp (g x y S2) fun z S3 => Wp (blOf z S3) fun k S4 => if k = true then Wp (c ρ S4) fun w S5 => Wp (g' y w S5) Q else Q (.bl false) S4 := by
  simp only [mChain, wp_bind]
  constructor <;> intro h <;> refine h.imp fun x S1 q => q.imp fun y S2 q => q.imp fun z S3 q => q.imp fun k S4 q => ?_ <;> cases k <;> simpa [wp_ok, wp_bind] using q
theorem wp_mChainT {g g' : F2} {a b c : M D} {Q : Bool → Sto → Prop} : Wp (mChainT g g' a b c ρ S) Q ↔ Wp (a ρ S) fun x S1 => Wp (b ρ S1) fun y S2 => Wp (g x y S2) fun z S3 => Wp (blOf z S3) fun k S4 => if k = true then Wp (c ρ S4) fun w S5 => Wp (g' y w S5) fun r S6 => Wp (blOf r S6) Q else Q false S4 := by
  simp only [mChainT, wp_bind]
  constructor <;> intro h <;> refine h.imp fun x S1 q => q.imp fun y S2 q => q.imp fun z S3 q => q.imp fun k S4 q => ?_ <;> cases k <;> simpa [wp_ok, wp_bind] using q
theorem wp_mNil {Q : List D → Sto → Prop} : Wp (mNil ρ S) Q ↔ Q [] S := wp_ok
theorem wp_mCons {a : M D} {r : M (List D)} {Q : List D → Sto → Prop} : Wp (mCons a r ρ S) Q ↔ Wp (a ρ S) fun x S1 => Wp (r ρ S1) fun xs S2 => Q (x :: xs) S2 := by
  simp only [mCons, wp_bind, wp_ok]
theorem wp_mDisp {g : List D → Sto → Rs D} {m : M (List D)} {Q : D → Sto → Prop} : Wp (mDisp g m ρ S) Q ↔ Wp (m ρ S) fun xs S1 => Wp (g xs S1) Q := wp_bind
theorem wp_tupD {ds : List D} {Q : D → Sto → Prop} : Wp (tupD ds S) Q ↔ ds.length ≤ sizeLine ∧ Q (.tup ds) S := by simp only [tupD, wp_guard, wp_ok]
theorem wp_lstD {ds : List D} {Q : D → Sto → Prop} : Wp (lstD ds S) Q ↔ ds.length ≤ sizeLine ∧ Q (.ptr S.length) (S ++ [.lst ds]) := by simp only [lstD, newL, wp_guard, wp_ok]
theorem wp_mSl {m : M D} {lo hi : MO} {Q : D → Sto → Prop} : Wp (mSl m lo hi ρ S) Q ↔ Wp (m ρ S) fun x S1 => Wp (lo ρ S1) fun l S2 => Wp (hi ρ S2) fun u S3 => Wp (slS x l u S3) Q := by
  simp only [mSl, wp_bind]
theorem wp_mNoPart {Q : Option Int → Sto → Prop} : Wp (mNoPart ρ S) Q ↔ Q none S := wp_ok
theorem wp_mPart {m : M D} {Q : Option Int → Sto → Prop} : Wp (mPart m ρ S) Q ↔ Wp (m ρ S) fun x S1 => Wp (intOf x S1) Q := wp_bind
theorem wp_intOf {i : Int} {Q : Option Int → Sto → Prop} : Wp (intOf (.int i) S) Q ↔ Q (some i) S := wp_ok
theorem wp_mBm {T : String} {g : FM} {mo : M D} {ma : M (List D)} {Q : D → Sto → Prop} : Wp (mBm T g mo ma ρ S) Q ↔ Wp (mo ρ S) fun x S1 => tyD T x S1 = true ∧ Wp (ma ρ S1) fun xs S2 => Wp (g x xs S2) Q := by
  simp only [mBm, wp_bind, wp_guard]
theorem wp_mMeth {c m : Str} {g : FL} {mo : M D} {ma : M (List D)} {Q : D → Sto → Prop} : Wp (mMeth c m g mo ma ρ S) Q ↔ Wp (mo ρ S) fun x S1 => hasM c m x S1 = true ∧ Wp (ma ρ S1) fun xs S2 => Wp (g (x :: xs) S2) Q := by
  simp only [mMeth, wp_bind, wp_guard]
theorem wp_dflS {n : Nat} {dfl : List D} {g : FL} {xs : List D} {Q : D → Sto → Prop} : Wp (dflS n dfl g xs S) Q ↔ xs.length + dfl.length = n ∧ Wp (g (xs ++ dfl) S) Q := by
  simp only [dflS, wp_guard]
theorem wp_mIt {g : D → Sto → Rs Src} {m : M D} {Q : Src → Sto → Prop} : Wp (mIt g m ρ S) Q ↔ Wp (m ρ S) fun x S1 => Wp (g x S1) Q := wp_bind
theorem wp_mItA {g : List D → Sto → Rs Src} {m : M (List D)} {Q : Src → Sto → Prop} : Wp (mItA g m ρ S) Q ↔ Wp (m ρ S) fun x S1 => Wp (g x S1) Q := wp_bind
theorem wp_mDict {m : M Kv} {Q : D → Sto → Prop} : Wp (mDict m ρ S) Q ↔ Wp (m ρ (S ++ [.dct []])) fun kvs S1 => Wp (fillD S.length kvs S1) Q := by simp only [mDict, wp_bind]
theorem wp_mpNil {Q : Kv → Sto → Prop} : Wp (mpNil ρ S) Q ↔ Q [] S := wp_ok
theorem wp_mpCons {k v : M D} {r : M Kv} {Q : Kv → Sto → Prop} : Wp (mpCons k v r ρ S) Q ↔ Wp (k ρ S) fun x S1 => Wp (v ρ S1) fun y S2 => Wp (r ρ S2) fun ps S3 => Q ((x, y) :: ps) S3 := by
  simp only [mpCons, wp_bind, wp_ok]
theorem wp_mNext {m md : M D} {Q : D → Sto → Prop} : Wp (mNext m md ρ S) Q ↔ Wp (m ρ S) fun x S1 => isLst x S1 = true ∧ Wp (md ρ S1) fun d S2 => Wp (nextS x d S2) Q := by
  simp only [mNext, wp_bind, wp_guard]
theorem wp_mYes {Q : Bool → Sto → Prop} : Wp (mYes ρ S) Q ↔ Q true S := wp_ok
-- statements
def WpS (r : Rs Fl) (N B C : Rho → Sto → Prop) (R : D → Sto → Prop) : Prop := Wp r fun f S => match f with
  | .nx ρ => N ρ S
  | .brk ρ => B ρ S
  | .cnt ρ => C ρ S
  | .ret d => R d S
  | .exn _ _ => False
def Nev : Rho → Sto → Prop := fun _ _ => False
variable {N B C : Rho → Sto → Prop} {R : D → Sto → Prop}
theorem WpS.imp {r : Rs Fl} {N' B' C' : Rho → Sto → Prop} {R' : D → Sto → Prop} (h : WpS r N B C R) (n : ∀ ρ S, N ρ S → N' ρ S) (b : ∀ ρ S, B ρ S → B' ρ S) (c : ∀ ρ S, C ρ S → C' ρ S) (d : ∀ x S, R x S → R' x S) : WpS r N' B' C' R' :=
  Wp.imp h fun f S q => by
    cases f with
    | nx => exact n _ _ q
    | brk => exact b _ _ q
    | cnt => exact c _ _ q
    | ret => exact d _ _ q
    | exn => exact q
theorem ws_nx : WpS (.ok (.nx ρ) S) N B C R ↔ N ρ S := wp_ok
theorem ws_ret {d : D} : WpS (.ok (.ret d) S) N B C R ↔ R d S := wp_ok
theorem ws_mNx : WpS (mNx ρ S) N B C R ↔ N ρ S := wp_ok
theorem ws_mBrk : WpS (mBrk ρ S) N B C R ↔ B ρ S := wp_ok
theorem ws_mCnt : WpS (mCnt ρ S) N B C R ↔ C ρ S := wp_ok
theorem ws_mRetN : WpS (mRetN ρ S) N B C R ↔ R .non S := wp_ok
theorem ws_mSeq {a b : MS} : WpS (mSeq a b ρ S) N B C R ↔ WpS (a ρ S) (fun ρ1 S1 => WpS (b ρ1 S1) N B C R) B C R := by
  unfold mSeq WpS
  cases h : a ρ S with
  | ok f S1 => cases f <;> simp only [wp_ok]
  | exn x S1 => simp only [wp_exn]
  | bad => simp only [wp_bad]
theorem ws_eS {m : M α} {k : α → MS} : WpS (eS m k ρ S) N B C R ↔ Wp (m ρ S) fun a S1 => WpS (k a ρ S1) N B C R := by
  unfold eS WpS
  cases h : m ρ S with
  | ok f S1 => simp only [wp_ok]
  | exn x S1 => simp only [wp_exn, wp_ok]
  | bad => simp only [wp_bad]
theorem ws_mDrop {m : M D} : WpS (mDrop m ρ S) N B C R ↔ Wp (m ρ S) fun _ S1 => N ρ S1 := by simp only [mDrop, ws_eS, ws_nx]
theorem ws_mRet {m : M D} : WpS (mRet m ρ S) N B C R ↔ Wp (m ρ S) R := by simp only [mRet, ws_eS, ws_ret]
theorem ws_mIfS {c : M Bool} {a b : MS} : WpS (mIfS c a b ρ S) N B C R ↔ Wp (c ρ S) fun k S1 => if k = true then WpS (a ρ S1) N B C R else WpS (b ρ S1) N B C R := by
  simp only [mIfS, ws_eS]
  constructor <;> intro h <;> refine h.imp fun k S1 q => ?_ <;> cases k <;> simpa using q
theorem ws_asg {g : MG} {d : D} : WpS (asg g d ρ S) N B C R ↔ Wp (g d ρ S) N := by
  simp only [asg]
  cases h : g d ρ S with
  | ok => simp only [ws_nx, wp_ok]
  | exn => simp only [WpS, wp_bad, wp_exn]
  | bad => simp only [WpS, wp_bad]
theorem ws_mAsg {m : M D} {g : MG} : WpS (mAsg m g ρ S) N B C R ↔ Wp (m ρ S) fun d S1 => Wp (g d ρ S1) N := by simp only [mAsg, ws_eS, ws_asg]
theorem wp_gNm {i : Nat} {d : D} {Q : Rho → Sto → Prop} : Wp (gNm i d ρ S) Q ↔ Q (ρ.set i (some d)) S := wp_ok
theorem wp_gsNil {Q : Rho → Sto → Prop} : Wp (gsNil [] ρ S) Q ↔ Q ρ S := wp_ok
theorem wp_gsCons {g : MG} {r : MGs} {d : D} {ds : List D} {Q : Rho → Sto → Prop} : Wp (gsCons g r (d :: ds) ρ S) Q ↔ Wp (g d ρ S) fun ρ1 S1 => Wp (r ds ρ1 S1) Q := by
  simp only [gsCons]
  cases h : g d ρ S <;> simp only [wp_ok, wp_exn, wp_bad]
theorem wp_gTp {n : Nat} {r : MGs} {ds : List D} {Q : Rho → Sto → Prop} : Wp (gTp n r (.tup ds) ρ S) Q ↔ ds.length = n ∧ Wp (r ds ρ S) Q := by
  simp only [gTp, wp_guard]
/-- a place is set -/
def Put (o : Option Sto) (Q : Sto → Prop) : Prop := ∃ S', o = some S' ∧ Q S'
theorem put_some {Q : Sto → Prop} : Put (some S) Q ↔ Q S := ⟨fun ⟨_, e, q⟩ => by cases e; exact q, fun q => ⟨_, rfl, q⟩⟩
theorem wp_gSubS {mo mi : M D} {d : D} {Q : Rho → Sto → Prop} : Wp (gSubS mo mi d ρ S) Q ↔ Wp (mo ρ S) fun x S1 => Wp (mi ρ S1) fun i S2 => Put (setS x i d S2) (Q ρ) := by
  simp only [gSubS]
  cases h : mo ρ S with
  | ok x S1 =>
    simp only [wp_ok]
    cases h1 : mi ρ S1 with
    | ok i S2 =>
      simp only [wp_ok]
      cases h2 : setS x i d S2 with
      | some S3 => simp only [wp_ok, put_some]
      | none => simp [wp_bad, Put]
    | exn => simp only [wp_exn, wp_bad]
    | bad => simp only [wp_bad]
  | exn => simp only [wp_exn, wp_bad]
  | bad => simp only [wp_bad]
theorem ws_mSetI {mo mi mv : M D} : WpS (mSetI mo mi mv ρ S) N B C R ↔ Wp (mv ρ S) fun d S1 => Wp (mo ρ S1) fun x S2 => Wp (mi ρ S2) fun i S3 => Put (setS x i d S3) (N ρ) := by
  simp only [mSetI, ws_eS]
  constructor <;> intro h <;> refine h.imp fun d S1 q => q.imp fun x S2 q => q.imp fun i S3 q => ?_
  · cases e : setS x i d S3 with
    | some S4 => simp only [e, ws_nx] at q; exact put_some.mpr q
    | none => simp only [e, WpS, wp_bad] at q
  · obtain ⟨S4, e, q⟩ := q
    simp only [e]; exact ws_nx.mpr q
theorem ws_mSetF {c f : Str} {mo mv : M D} : WpS (mSetF c f mo mv ρ S) N B C R ↔ Wp (mv ρ S) fun d S1 => Wp (mo ρ S1) fun x S2 => Put (setF c f x d S2) (N ρ) := by
  simp only [mSetF, ws_eS]
  constructor <;> intro h <;> refine h.imp fun d S1 q => q.imp fun x S2 q => ?_
  · cases e : setF c f x d S2 with
    | some S4 => simp only [e, ws_nx] at q; exact put_some.mpr q
    | none => simp only [e, WpS, wp_bad] at q
  · obtain ⟨S4, e, q⟩ := q
    simp only [e]; exact ws_nx.mpr q
theorem wp_callS {n : Nat} {m : MS} {ds : List D} {Q : D → Sto → Prop} :
    Wp (callS n m ds S) Q ↔ WpS (m (ds.map some ++ List.replicate (n - ds.length) none) S) (fun _ S1 => Q .non S1) Nev Nev Q := by
  unfold callS WpS
  cases h : m (ds.map some ++ List.replicate (n - ds.length) none) S with
  | ok f S1 => cases f <;> simp only [wp_ok, wp_bad, wp_exn, Nev]
  | exn x S1 => simp only [wp_exn, wp_bad]
  | bad => simp only [wp_bad]
/-- a for loop: what holds before each item -/
theorem ws_forL {g : MG} {b : MS} {src : Src} (I : List D → Rho → Sto → Prop)
    (step : ∀ d ds ρ S, I (d :: ds) ρ S → src.keep S = true ∧ Wp (g d ρ S) fun ρ1 S1 => WpS (b ρ1 S1) (I ds) (fun ρ2 S2 => Put (src.fin S2) (N ρ2)) (I ds) (fun d S2 => Put (src.fin S2) (R d)))
    (done : ∀ ρ S, I [] ρ S → src.keep S = true ∧ Put (src.fin S) (N ρ)) :
    ∀ (ds : List D) (ρ : Rho) (S : Sto), I ds ρ S → WpS (forL g b src ds ρ S) N B C R
  | [], ρ, S, h => by
    obtain ⟨k, S', e, q⟩ := done ρ S h
    simp only [forL, k, if_true, forE, e]; exact ws_nx.mpr q
  | d :: ds, ρ, S, h => by
    obtain ⟨k, ρ1, S1, e1, f, S2, e2, q⟩ := step d ds ρ S h
    simp only [forL, k, if_true, e1, e2]
    cases f with
    | nx ρ2 => exact ws_forL I step done ds ρ2 S2 q
    | cnt ρ2 => exact ws_forL I step done ds ρ2 S2 q
    | brk ρ2 => obtain ⟨S3, e3, q⟩ := q; simp only [forK, forE, e3]; exact ws_nx.mpr q
    | ret d => obtain ⟨S3, e3, q⟩ := q; simp only [forK, forE, e3]; exact ws_ret.mpr q
    | exn => exact q.elim
theorem ws_mFor {mi : MI} {g : MG} {b : MS} : WpS (mFor mi g b ρ S) N B C R ↔ Wp (mi ρ S) fun src S1 => WpS (forL g b src src.items ρ S1) N B C R := ws_eS
/-- a comprehension: the list that grows lies at n -/
theorem wp_lcL {g : MG} {t : M Bool} {el : M D} {src : Src} {n : Nat} {ρ0 : Rho} {Q : D → Sto → Prop} (I : List D → List D → Sto → Prop)
    (step : ∀ d ds acc S, I (d :: ds) acc S → S[n]? = some (.lst acc) → src.keep S = true ∧ Wp (g d ρ0 S) fun ρ1 S1 => Wp (t ρ1 S1) fun c S2 => if c = true then Wp (el ρ1 S2) fun y S3 =>
      S3[n]? = some (.lst acc) ∧ acc.length < sizeLine ∧ I ds (acc ++ [y]) (S3.set n (.lst (acc ++ [y]))) else S2[n]? = some (.lst acc) ∧ I ds acc S2)
    (done : ∀ acc S, I [] acc S → S[n]? = some (.lst acc) → src.keep S = true ∧ ∃ S', src.fin S = some S' ∧ Q (.ptr n) S') :
    ∀ (ds acc : List D) (S : Sto), I ds acc S → S[n]? = some (.lst acc) → Wp (lcL g t el src n ρ0 ds S) Q
  | [], acc, S, h, hn => by
    obtain ⟨k, S', e, q⟩ := done acc S h hn
    simp only [lcL, k, if_true, e]; exact wp_ok.mpr q
  | d :: ds, acc, S, h, hn => by
    obtain ⟨k, ρ1, S1, e1, c, S2, e2, q⟩ := step d ds acc S h hn
    simp only [lcL, k, if_true, e1, e2, noX, Rs.bind]
    cases c with
    | true =>
      obtain ⟨y, S3, e3, hn3, hl, q⟩ := q
      simp only [if_true, e3, noX, Rs.bind, pushL, hn3, hl]
      exact wp_lcL I step done ds (acc ++ [y]) _ q (by
        have hlt : n < S3.length := by
          rcases Nat.lt_or_ge n S3.length with h | h
          · exact h
          · rw [List.getElem?_eq_none h] at hn3; cases hn3
        simp [List.getElem?_set, hlt])
    | false => exact wp_lcL I step done ds acc S2 q.2 q.1
theorem wp_mLc {mi : MI} {g : MG} {t : M Bool} {el : M D} {vs : List Nat} {Q : D → Sto → Prop} : Wp (mLc mi g t el vs ρ S) Q ↔ Wp (mi ρ S) fun src S1 => Wp (lcL g t el src S1.length (wipeR ρ vs) src.items (S1 ++ [.lst []])) Q :=
  wp_bind
end
end MP
/-! MP30 -/
set_option Elab.async false
set_option autoImplicit false
set_option linter.all false
set_option maxRecDepth 100000
namespace MP
open PySem PySem.Spec L2

theorem beqd {α : Type} [BEq α] [LawfulBEq α] [DecidableEq α] (a b : α) : (a == b) = decide (a = b) := by by_cases h : a = b <;> simp [h]
/-! ## data without pointers -/
mutual
def D.pl : D → Bool
  | .non => true
  | .int _ => true
  | .str _ => true
  | .tup ds => D.pls ds
  | _ => false
def D.pls : List D → Bool
  | [] => true
  | d :: ds => D.pl d && D.pls ds
end
mutual
def D.dp : D → Nat
  | .tup ds => D.dps ds + 1
  | _ => 0
def D.dps : List D → Nat
  | [] => 0
  | d :: ds => max (D.dp d) (D.dps ds)
end
mutual
def D.vw : D → PyData
  | .non => .none
  | .bl b => .bool b
  | .int i => .int i
  | .str s => .str s
  | .tup ds => .tuple (D.vws ds)
  | .ptr _ => .none
def D.vws : List D → List PyData
  | [] => []
  | d :: ds => D.vw d :: D.vws ds
end
mutual
theorem view_pl (S : Sto) : ∀ (d : D) (k : Nat), d.pl = true → d.dp ≤ k → view S k d = some d.vw
  | .non, k, _, _ => by cases k <;> simp [view, D.vw]
  | .bl _, _, h, _ => by simp [D.pl] at h
  | .int i, k, _, _ => by cases k <;> simp [view, D.vw]
  | .str s, k, _, _ => by cases k <;> simp [view, D.vw]
  | .ptr _, _, h, _ => by simp [D.pl] at h
  | .tup ds, 0, _, h => by simp [D.dp] at h
  | .tup ds, k + 1, h, hd => by
    simp only [D.pl] at h
    simp only [D.dp, Nat.add_le_add_iff_right] at hd
    simp only [view, views_pl S ds k h hd, D.vw, Option.map_some]
theorem views_pl (S : Sto) : ∀ (ds : List D) (k : Nat), D.pls ds = true → D.dps ds ≤ k → ds.mapM (view S k) = some (D.vws ds)
  | [], k, _, _ => by simp [D.vws]
  | d :: ds, k, h, hd => by
    simp only [D.pls, Bool.and_eq_true] at h
    simp only [D.dps, Nat.max_le] at hd
    simp [List.mapM_cons, view_pl S d k h.1 hd.1, views_pl S ds k h.2 hd.2, D.vws]
end
mutual
theorem eqv_pl : ∀ (a b : D), a.pl = true → b.pl = true → PyData.eqv a.vw b.vw = decide (a = b)
  | .non, b, ha, hb => by cases b <;> simp [D.pl] at hb <;> simp [D.vw, PyData.eqv]
  | .bl _, _, h, _ => by simp [D.pl] at h
  | .ptr _, _, h, _ => by simp [D.pl] at h
  | .int i, b, ha, hb => by cases b <;> simp [D.pl] at hb <;> simp [D.vw, PyData.eqv, beqd]
  | .str i, b, ha, hb => by cases b <;> simp [D.pl] at hb <;> simp [D.vw, PyData.eqv, beqd]
  | .tup as, b, ha, hb => by
    cases b <;> simp [D.pl] at ha hb <;> simp [D.vw, PyData.eqv]
    exact eqvs_pl as _ ha hb
theorem eqvs_pl : ∀ (a b : List D), D.pls a = true → D.pls b = true → PyData.eqvAll (D.vws a) (D.vws b) = decide (a = b)
  | [], b, ha, hb => by cases b <;> simp [D.vws, PyData.eqvAll]
  | a :: as, [], ha, hb => by simp [D.vws, PyData.eqvAll]
  | a :: as, b :: bs, ha, hb => by
    simp only [D.pls, Bool.and_eq_true] at ha hb
    simp only [D.vws, PyData.eqvAll, eqv_pl a b ha.1 hb.1, eqvs_pl as bs ha.2 hb.2, List.cons.injEq, Bool.decide_and]
end
/-- shallow and without pointers -/
structure Pl (d : D) : Prop where
  pl : d.pl = true
  dp : d.dp ≤ 20
structure Pls (ds : List D) : Prop where
  pl : D.pls ds = true
  dp : D.dps ds ≤ 19
theorem pl_str (s : Str) : Pl (.str s) := ⟨by simp [D.pl], by simp [D.dp]⟩
theorem pl_int (s : Int) : Pl (.int s) := ⟨by simp [D.pl], by simp [D.dp]⟩
theorem pls_of {ds : List D} (h : ∀ d ∈ ds, d.pl = true ∧ d.dp ≤ 19) : Pls ds := by
  induction ds with
  | nil => exact ⟨by simp [D.pls], by simp [D.dps]⟩
  | cons d ds ih =>
    have h1 := h d (List.mem_cons_self ..)
    have h2 := ih fun e he => h e (List.mem_cons_of_mem _ he)
    exact ⟨by simp [D.pls, h1.1, h2.pl], by simp only [D.dps]; exact Nat.max_le.mpr ⟨h1.2, h2.dp⟩⟩
theorem pls_map {α : Type} {f : α → D} {xs : List α} (h : ∀ x ∈ xs, (f x).pl = true ∧ (f x).dp ≤ 19) : Pls (xs.map f) := pls_of fun d hd => by
  obtain ⟨x, hx, rfl⟩ := List.mem_map.mp hd
  exact h x hx
section
variable {S : Sto} {x y : D} {ds : List D} {n : Nat}
theorem eqS_pl (hx : Pl x) (hy : Pl y) : eqS x y S = .ok (.bl (decide (x = y))) S := by
  simp only [eqS, view_pl S x 60 hx.pl (by have := hx.dp; omega), view_pl S y 60 hy.pl (by have := hy.dp; omega), eqv_pl x y hx.pl hy.pl]
theorem neS_pl (hx : Pl x) (hy : Pl y) : neS x y S = .ok (.bl (!decide (x = y))) S := by
  simp only [neS, view_pl S x 60 hx.pl (by have := hx.dp; omega), view_pl S y 60 hy.pl (by have := hy.dp; omega), eqv_pl x y hx.pl hy.pl]
theorem neS_lst {es : List D} {m : Nat} (h : Pls ds) (h' : Pls es) (hn : S[n]? = some (.lst ds)) (hm : S[m]? = some (.lst es)) : neS (.ptr n) (.ptr m) S = .ok (.bl (!decide (ds = es))) S := by
  simp only [neS, view, listAt, hn, hm, views_pl S ds 59 h.pl (by have := h.dp; omega), views_pl S es 59 h'.pl (by have := h'.dp; omega), Option.map_some, PyData.eqv, eqvs_pl ds es h.pl h'.pl]
end

/-! ## what stays in a store -/
structure Ext (ms : List Nat) (S S' : Sto) : Prop where
  len : S.length ≤ S'.length
  get : ∀ n o, S[n]? = some o → n ∉ ms → S'[n]? = some o
section
variable {S S1 S2 : Sto} {ms : List Nat}
theorem lt_of_get {n : Nat} {o : O} (h : S[n]? = some o) : n < S.length := by
  rcases Nat.lt_or_ge n S.length with k | k
  · exact k
  · rw [List.getElem?_eq_none k] at h; cases h
theorem Ext.rfl' : Ext ms S S := ⟨Nat.le_refl _, fun _ _ h _ => h⟩
theorem Ext.trans (h : Ext ms S S1) (k : Ext ms S1 S2) : Ext ms S S2 := ⟨Nat.le_trans h.len k.len, fun n o e hn => k.get n o (h.get n o e hn) hn⟩
theorem Ext.mono {ns : List Nat} (h : Ext ms S S1) (k : ∀ n ∈ ms, n ∈ ns) : Ext ns S S1 := ⟨h.len, fun n o e hn => h.get n o e fun hm => hn (k n hm)⟩
/-- objects behind the old ones may change at will -/
theorem Ext.fresh {ns : List Nat} (h : Ext ms S S1) (k : ∀ n ∈ ms, n ∈ ns ∨ S.length ≤ n) : Ext ns S S1 := ⟨h.len, fun n o e hn => h.get n o e fun hm => by
  rcases k n hm with h1 | h1
  · exact hn h1
  · have := lt_of_get e; omega⟩
theorem Ext.push (os : List O) : Ext ms S (S ++ os) := ⟨by simp, fun n o e _ => by rw [List.getElem?_append_left (lt_of_get e)]; exact e⟩
theorem Ext.set {n : Nat} {o : O} (h : n ∈ ms) : Ext ms S (S.set n o) := ⟨by simp, fun m o' e hm => by
  rw [List.getElem?_set_ne]
  · exact e
  · intro e'; subst e'; exact hm h⟩
theorem Ext.setf {n : Nat} {o : O} (h : Ext ms S S1) (k : S.length ≤ n) : Ext ms S (S1.set n o) := ⟨by simpa using h.len, fun m o' e hm => by
  have := lt_of_get e
  rw [List.getElem?_set_ne (by omega)]
  exact h.get m o' e hm⟩
theorem get_push {o : O} : (S ++ [o])[S.length]? = some o := by simp
theorem get_old {n : Nat} {o : O} {os : List O} (h : S[n]? = some o) : (S ++ os)[n]? = some o := by rw [List.getElem?_append_left (lt_of_get h)]; exact h
theorem get_set {n : Nat} {o o' : O} (h : S[n]? = some o') : (S.set n o)[n]? = some o := by
  have := lt_of_get h
  simp [List.getElem?_set, this]
theorem get_setne {n m : Nat} {o o' : O} (h : S[m]? = some o') (k : n ≠ m) : (S.set n o)[m]? = some o' := by rw [List.getElem?_set_ne k]; exact h
end
end MP
/-! MP31 -/
set_option Elab.async false
set_option autoImplicit false
set_option linter.all false
set_option maxRecDepth 100000
namespace MP
open PySem PySem.Spec L2
section
variable {S : Sto} {ρ : Rho} {n m : Nat} {kvs : List (D × D)} {ds : List D} {d k : D}
theorem wp_mVar0 {Q : D → Sto → Prop} : Wp (mVar 0 (some d :: ρ) S) Q ↔ Q d S := by simp only [mVar, List.getElem?_cons_zero, wp_ok]
theorem wp_mVarS {i : Nat} {o : Option D} {Q : D → Sto → Prop} : Wp (mVar (i + 1) (o :: ρ) S) Q ↔ Wp (mVar i ρ S) Q := by simp only [mVar, List.getElem?_cons_succ]
theorem ix_dct {Q : D → Sto → Prop} {s : Str} (h : S[n]? = some (.dct kvs)) (e : dget kvs (.str s) = some d) : Wp (ixS (.ptr n) (.str s) S) Q ↔ Q d S := by
  simp only [ixS, dctAt, h, keyD, e, wp_ok]
theorem set_dct {Q : Sto → Prop} {s : Str} (h : S[n]? = some (.dct kvs)) (e : kvs.length < sizeLine) : Put (setS (.ptr n) (.str s) d S) Q ↔ Q (S.set n (.dct (dput kvs (.str s) d))) := by
  simp only [setS, h, keyD, e, if_true, put_some]
theorem atI_int {α : Type} {ds : List α} {i : Int} (h0 : 0 ≤ i) (h1 : i < ds.length) : atI ds i = ds[i.toNat]? := by simp [atI, ixN, h0, h1]
theorem get_ofI {α : Type} {ds : List α} {i : Int} (h0 : 0 ≤ i) (h1 : i < ds.length) : ∃ d, ds[i.toNat]? = some d ∧ d ∈ ds := by
  have : i.toNat < ds.length := by omega
  exact ⟨ds[i.toNat], List.getElem?_eq_getElem this, List.getElem_mem this⟩
theorem ix_lst {Q : D → Sto → Prop} {i : Int} (h : S[n]? = some (.lst ds)) (h0 : 0 ≤ i) (h1 : i < ds.length) (e : ds[i.toNat]? = some d) : Wp (ixS (.ptr n) (.int i) S) Q ↔ Q d S := by
  simp only [ixS, dctAt, listAt, h, atI_int h0 h1, e, wp_ok]
theorem ix_tup {Q : D → Sto → Prop} {i : Int} (h0 : 0 ≤ i) (h1 : i < ds.length) (e : ds[i.toNat]? = some d) : Wp (ixS (.tup ds) (.int i) S) Q ↔ Q d S := by
  simp only [ixS, atI_int h0 h1, e, wp_ok]
theorem eqs_pl {Q : D → Sto → Prop} {x y : D} (hx : Pl x) (hy : Pl y) : Wp (eqS x y S) Q ↔ Q (.bl (decide (x = y))) S := by rw [eqS_pl hx hy, wp_ok]
theorem nes_pl {Q : D → Sto → Prop} {x y : D} (hx : Pl x) (hy : Pl y) : Wp (neS x y S) Q ↔ Q (.bl (!decide (x = y))) S := by rw [neS_pl hx hy, wp_ok]
theorem eqs_int {Q : D → Sto → Prop} {i j : Int} : Wp (eqS (.int i) (.int j) S) Q ↔ Q (.bl (decide (i = j))) S := by
  rw [eqs_pl (pl_int i) (pl_int j)]; simp only [D.int.injEq]
theorem nes_int {Q : D → Sto → Prop} {i j : Int} : Wp (neS (.int i) (.int j) S) Q ↔ Q (.bl (!decide (i = j))) S := by
  rw [nes_pl (pl_int i) (pl_int j)]; simp only [D.int.injEq]
theorem eqs_str {Q : D → Sto → Prop} {i j : Str} : Wp (eqS (.str i) (.str j) S) Q ↔ Q (.bl (decide (i = j))) S := by
  rw [eqs_pl (pl_str i) (pl_str j)]; simp only [D.str.injEq]
theorem nes_str {Q : D → Sto → Prop} {i j : Str} : Wp (neS (.str i) (.str j) S) Q ↔ Q (.bl (!decide (i = j))) S := by
  rw [nes_pl (pl_str i) (pl_str j)]; simp only [D.str.injEq]
theorem adds_int {Q : D → Sto → Prop} {i j : Int} : Wp (addS (.int i) (.int j) S) Q ↔ Q (.int (i + j)) S := by simp only [addS, wp_ok]
/-- a statement, then the next -/
theorem ws_cut {a b : MS} {N B C : Rho → Sto → Prop} {R : D → Sto → Prop} (M : Rho → Sto → Prop) (h : WpS (a ρ S) M B C R) (k : ∀ ρ1 S1, M ρ1 S1 → WpS (b ρ1 S1) N B C R) : WpS (mSeq a b ρ S) N B C R :=
  ws_mSeq.mpr (h.imp k (fun _ _ h => h) (fun _ _ h => h) (fun _ _ h => h))
end
end MP
/-! MP32 -/
set_option Elab.async false
set_option autoImplicit false
set_option linter.all false
set_option maxRecDepth 100000
namespace MP
open PySem PySem.Spec L2
def All2 {α β : Type} (P : α → β → Prop) : List α → List β → Prop
  | [], [] => True
  | a :: as, b :: bs => P a b ∧ All2 P as bs
  | _, _ => False
theorem All2.snoc {α β : Type} {P : α → β → Prop} {a : α} {b : β} : ∀ {as : List α} {bs : List β}, All2 P as bs → P a b → All2 P (as ++ [a]) (bs ++ [b])
  | [], [], _, h => ⟨h, trivial⟩
  | _ :: _, _ :: _, h, k => ⟨h.1, All2.snoc h.2 k⟩
theorem All2.len {α β : Type} {P : α → β → Prop} : ∀ {as : List α} {bs : List β}, All2 P as bs → as.length = bs.length
  | [], [], _ => rfl
  | _ :: _, _ :: _, h => by simp [All2.len h.2]
theorem All2.eq_map {α β : Type} {f : α → β} : ∀ {as : List α} {bs : List β}, All2 (fun a b => b = f a) as bs → bs = as.map f
  | [], [], _ => rfl
  | _ :: _, _ :: _, h => by simp [h.1, All2.eq_map h.2]
theorem All2.mem {α β : Type} {P : α → β → Prop} {b : β} : ∀ {as : List α} {bs : List β}, All2 P as bs → b ∈ bs → ∃ a ∈ as, P a b
  | [], [], _, h => by simp at h
  | a :: as, c :: bs, h, k => by
    rcases List.mem_cons.mp k with rfl | k
    · exact ⟨a, List.mem_cons_self .., h.1⟩
    · obtain ⟨x, hx, px⟩ := All2.mem h.2 k
      exact ⟨x, List.mem_cons_of_mem _ hx, px⟩
/-- a comprehension: what stands in its list -/
theorem wp_lc {g : MG} {t : M Bool} {el : M D} {src : Src} {ρ0 : Rho} {ms : List Nat} {S0 : Sto} {Q : D → Sto → Prop} (X : Sto → Prop) (f : D → Bool) (P : D → D → Prop)
    (hn : S0.length ∉ ms) (hX0 : X (S0 ++ [.lst []])) (hXs : ∀ S o, Ext ms S0 S → X S → X (S.set S0.length o))
    (hk : ∀ S, Ext ms S0 S → src.keep S = true) (hf : ∀ S, Ext ms S0 S → src.fin S = some S) (hl : src.items.length ≤ sizeLine)
    (step : ∀ d ∈ src.items, ∀ S, Ext ms S0 S → X S → Wp (g d ρ0 S) fun ρ1 S1 => Wp (t ρ1 S1) fun c S2 => c = f d ∧ (c = true → Wp (el ρ1 S2) fun y S3 => P d y ∧ Ext ms S S3 ∧ X S3) ∧ (c = false → Ext ms S S2 ∧ X S2))
    (done : ∀ acc S', All2 P (src.items.filter f) acc → Ext ms S0 S' → X S' → S'[S0.length]? = some (.lst acc) → Q (.ptr S0.length) S') :
    Wp (lcL g t el src S0.length ρ0 src.items (S0 ++ [.lst []])) Q := by
  refine wp_lcL (I := fun ds acc S => ∃ pre, src.items = pre ++ ds ∧ All2 P (pre.filter f) acc ∧ acc.length ≤ pre.length ∧ Ext ms S0 S ∧ X S) ?_ ?_ src.items [] _ ⟨[], rfl, trivial, Nat.le_refl _, Ext.push _, hX0⟩ get_push
  · rintro d ds acc S ⟨pre, e, ha, hal, x, hx⟩ hnn
    have hd : d ∈ src.items := by rw [e]; simp
    have hlen : pre.length + 1 + ds.length ≤ sizeLine := by rw [e] at hl; simp at hl; omega
    refine ⟨hk S x, (step d hd S x hx).imp fun ρ1 S1 q => q.imp fun c S2 ⟨ec, q1, q2⟩ => ?_⟩
    cases c with
    | true =>
      simp only [if_true]
      refine (q1 rfl).imp fun y S3 ⟨p, x3, hx3⟩ => ⟨x3.get _ _ hnn hn, by omega, pre ++ [d], by simp [e], ?_, by simp; omega, (x.trans x3).setf (Nat.le_refl _), hXs _ _ (x.trans x3) hx3⟩
      rw [List.filter_append, List.filter_cons, ← ec]
      exact ha.snoc p
    | false =>
      simp only [Bool.false_eq_true, if_false]
      obtain ⟨x3, hx3⟩ := q2 rfl
      refine ⟨x3.get _ _ hnn hn, pre ++ [d], by simp [e], ?_, by simp; omega, x.trans x3, hx3⟩
      rw [List.filter_append, List.filter_cons, ← ec]
      simpa using ha
  · rintro acc S ⟨pre, e, ha, hal, x, hx⟩ hnn
    simp only [List.append_nil] at e
    exact ⟨hk S x, S, hf S x, done acc S (by rw [e]; exact ha) x hx hnn⟩
theorem rng_ok {j : Int} {S : Sto} (h : 0 ≤ j) (h1 : j < 1000) : rng1S [.int j] S = .ok (srcT (rngL 0 j.toNat)) S := by
  have : -(2 ^ 62) ≤ j ∧ j < 2 ^ 62 := by omega
  simp only [rng1S, this, and_self, if_true]
end MP
/-! MP33 -/
set_option Elab.async false
set_option autoImplicit false
set_option linter.all false
set_option maxRecDepth 100000
namespace MP
open PySem PySem.Spec L2
end MP
/-! MP34 -/
set_option Elab.async false
set_option autoImplicit false
set_option linter.all false
set_option maxRecDepth 100000
namespace MP
open PySem PySem.Spec L2
open PyProof.Rows hiding St

/-! ## repr of small plain data -/
mutual
def D.sm : D → Bool
  | .non => true
  | .int i => decide (i.natAbs ≤ 99)
  | .str z => decide (z.length ≤ 6) && z.cps.toList.all fun c => decide (c < 1114112)
  | .tup ds => decide (ds.length ≤ 16) && D.sms ds
  | _ => false
def D.sms : List D → Bool
  | [] => true
  | d :: ds => D.sm d && D.sms ds
end
/-! the signs of what is shown -/
def Sgn (z : Str) : Prop := ∀ c ∈ z.cps.toList, c < 1114112
theorem Sgn.ok {z : Str} (h : Sgn z) : PyData.strOk z = true := by
  rw [PyData.strOk, ← Array.all_toList, List.all_eq_true]
  intro c hc
  simpa using h c hc
theorem Sgn.app {a b : Str} (h : Sgn a) (k : Sgn b) : Sgn (a ++ b) := by
  intro c hc
  have e : (a ++ b).cps = a.cps ++ b.cps := rfl
  rw [e, Array.toList_append, List.mem_append] at hc
  exact hc.elim (h c) (k c)
theorem char_lt (c : Char) : c.toNat < 1114112 := by
  have := c.valid
  rcases this with h | ⟨_, h⟩
  · have : c.toNat < 0xd800 := h
    omega
  · exact h
theorem Sgn.of (s : String) : Sgn (Str.ofString s) := by
  intro c hc
  rw [Str.ofString_eq_toList] at hc
  simp only [List.mem_map] at hc
  obtain ⟨d, _, rfl⟩ := hc
  exact char_lt d
theorem Sgn.join {sep : Str} (h : Sgn sep) : ∀ {ts : List Str}, (∀ t ∈ ts, Sgn t) → Sgn (Str.join sep ts)
  | [], _ => by intro c hc; simp [Str.join, Str.empty] at hc
  | [x], k => by simpa [Str.join] using k x (by simp)
  | x :: y :: r, k => by
    simp only [Str.join]
    exact ((k x (by simp)).app h).app (Sgn.join h fun t ht => k t (List.mem_cons_of_mem _ ht))
theorem sgn_char {q c : Nat} (hq : q < 1114112) (hc : c < 1114112) : ∀ e ∈ Builtin.Str.reprChar q c, e < 1114112 := by
  have hx : ∀ w : Nat, ∀ e ∈ List.replicate (w - ((Nat.toDigits 16 c).map Char.toNat).length) 48 ++ (Nat.toDigits 16 c).map Char.toNat, e < 1114112 := by
    intro w e he
    rw [List.mem_append] at he
    rcases he with he | he
    · have := List.eq_of_mem_replicate he; omega
    · obtain ⟨d, _, rfl⟩ := List.mem_map.mp he
      exact char_lt d
  have h2 := hx 2
  have h4 := hx 4
  have h8 := hx 8
  unfold Builtin.Str.reprChar
  dsimp only
  intro e he
  repeat' split at he
  · simp at he; omega
  · simp at he; omega
  · simp at he; omega
  · simp at he; omega
  · simp at he; omega
  · rw [List.mem_append] at he
    rcases he with he | he
    · simp at he; omega
    · exact h2 e he
  · rw [List.mem_append] at he
    rcases he with he | he
    · simp at he; omega
    · exact h4 e he
  · rw [List.mem_append] at he
    rcases he with he | he
    · simp at he; omega
    · exact h8 e he
theorem sgn_fold {q : Nat} (hq : q < 1114112) : ∀ (l : List Nat) (acc : Array Nat), (∀ c ∈ l, c < 1114112) → (∀ c ∈ acc.toList, c < 1114112) → ∀ c ∈ (l.foldl (fun out c => out ++ (Builtin.Str.reprChar q c).toArray) acc).toList, c < 1114112
  | [], acc, _, h => h
  | c :: r, acc, h, k => by
    refine sgn_fold hq r _ (fun d hd => h d (List.mem_cons_of_mem _ hd)) ?_
    intro d hd
    rw [Array.toList_append, List.mem_append] at hd
    exact hd.elim (k d) (sgn_char hq (h c (List.mem_cons_self ..)) d)
theorem Sgn.repr {z : Str} (h : Sgn z) : Sgn (reprText z) := by
  have hq : reprQuote z < 1114112 := by unfold reprQuote; split <;> decide
  intro c hc
  unfold reprText at hc
  rw [Array.toList_push, ← Array.foldl_toList, List.mem_append] at hc
  rcases hc with hc | hc
  · refine sgn_fold hq z.cps.toList _ h ?_ c hc
    intro d hd
    simp at hd
    omega
  · simp at hc
    omega
end MP
/-! MP35 -/
set_option Elab.async false
set_option autoImplicit false
set_option linter.all false
set_option maxRecDepth 100000
namespace MP
open PySem PySem.Spec L2
open PyProof.Rows hiding St

/-! ## x in d.values(): by iteration -/
section
variable {prog : Program} {w : World} {A : Around} {I : Addr} {fp wr : List Addr} {n : Nat} {St : Nat → Heap → Prop} {zs : List Str} {y : Str} {u : Tok}
end
end MP
/-! MP36 -/
set_option Elab.async false
set_option autoImplicit false
set_option linter.all false
set_option maxRecDepth 100000
namespace MP
open PySem PySem.Spec L2
open PyProof.Rows hiding St

/-! ## sorted(x) of plain data -/
def isTup1 : D → Bool
  | .tup (_ :: _) => true
  | _ => false
def notTup : D → Bool
  | .tup _ => false
  | .non => false
  | _ => true
def srtOk (ds : List D) : Bool := D.pls ds && decide (D.dps ds ≤ 19) && decide (ds.length ≤ 100000) && (ds.all fun a => ds.all fun b => PySem.W.alike a.vw b.vw) && (ds.all isTup1 || ds.all notTup)
def srt (ds : List D) : List D := ds.mergeSort (PySem.W.dataLe false D.vw)
def sortedS : FL
  | [.ptr n], S => match listAt S n with
    | some ds => if srtOk ds = true then newL (srt ds) S else .bad
    | none => match dctAt S n with
      | some kvs => if srtOk (kvs.map (·.1)) = true then newL (srt (kvs.map (·.1))) S else .bad
      | none => .bad
  | [.tup ds], S => if srtOk ds = true then newL (srt ds) S else .bad
  | _, _ => .bad
section
variable {X : Cx} {cl : Cl} {W : WX}
theorem _root_.L2.Inv.dr {X : Cx} {pins : List (Addr × Obj)} {σ : L2.St} {H : Hp} {s : Shared} {d : Drawn} (I : L2.Inv X pins σ H s) : L2.Inv X pins σ H { s with drawn := d } := ⟨I.ok, I.os, I.bare, I.base, I.loc, I.cell, I.free, I.freeC, I.pin, I.hok, I.len⟩
end
end MP
/-! MP37 -/
set_option Elab.async false
set_option autoImplicit false
set_option linter.all false
set_option maxRecDepth 100000
namespace MP
open PySem PySem.Spec L2
open PyProof.Rows hiding St

/-! ## x in d.values() -/
def invS : F2
  | .str y, .ptr n, S => match S[n]? with
    | some (.vw "dict_values" m) => match S[m]? with
      | some (.dct kvs) => match strsOf (kvs.map (·.2)) with
        | some zs => .ok (.bl (decide (y ∈ zs))) S
        | none => .bad
      | _ => .bad
    | _ => .bad
  | _, _, _ => .bad
section
variable {X : Cx} {cl : Cl} {W : WX}
theorem paired_get {α β : Type} {R : α → β → Prop} : ∀ {as : List α} {bs : List β}, Paired R as bs → ∀ (i : Nat) (b : β), bs[i]? = some b → ∃ a, as[i]? = some a ∧ R a b
  | _, _, .nil, i, b, h => by simp at h
  | _, _, .cons h1 t, 0, b, h => by simp at h; subst h; exact ⟨_, rfl, h1⟩
  | _, _, .cons h1 t, i + 1, b, h => by
    obtain ⟨a, e, r⟩ := paired_get t i b (by simpa using h)
    exact ⟨a, by simpa using e, r⟩
/-! ## list.remove of a text, dict.clear -/
def removeS : FM
  | .ptr n, [.str y], S => match S[n]? with
    | some (.lst ds) => match strsOf ds with
      | some zs => if y ∈ zs then .ok .non (S.set n (.lst (ds.eraseIdx (zs.idxOf y)))) else .bad
      | none => .bad
    | _ => .bad
  | _, _, _ => .bad
def clearDS : FM
  | .ptr n, [], S => match S[n]? with
    | some (.dct _) => .ok .non (S.set n (.dct []))
    | _ => .bad
  | _, _, _ => .bad
def eqz (k : Str) (v : Value) : Bool := match v with
  | .str n _ => decide (n = k)
  | _ => false
/-! ## a, b, c = x, y, z with plain local names -/
def mPar3 (i j l : Nat) (ma : M (List D)) : MS := fun ρ S => match ma ρ S with
  | .ok ds S1 => match ds with
    | [x, y, z] => .ok (.nx (((ρ.set i (some x)).set j (some y)).set l (some z))) S1
    | _ => .bad
  | .exn x S1 => .ok (.exn x ρ) S1
  | .bad => .bad
/-! ## o.f, a place for a value -/
def gFld (c f : Str) (mo : M D) : MG := fun d ρ S => match mo ρ S with
  | .ok x S1 => match setF c f x d S1 with
    | some S2 => .ok ρ S2
    | none => .bad
  | _ => .bad
def gsFldG (K : PySem.W.Frag) (to : TE) (f : Str) : TG := fun v σ H Q => to σ H fun x H2 => ∃ a C dx fs, x = .ref a ∧ H2 a = some (.ins C dx fs) ∧ Cls K C ∧ NoAttr K C f ∧ fs.length < 1000 ∧ Q σ (upd H2 a (.ins C dx (putF f v fs)))
end
end MP
/-! MP38 -/
set_option Elab.async false
set_option autoImplicit false
set_option linter.all false
set_option maxRecDepth 100000
namespace MP
open PySem PySem.Spec L2
open PyProof.Rows hiding St

/-! ## repr of a dict of plain things -/
def D.atom : D → Bool
  | .non | .bl _ | .int _ | .str _ => true
  | _ => false
def dvw (kvs : List (D × D)) : PyData := .dict (kvs.map fun p => (p.1.vw, p.2.vw))
def reprA : FL
  | [.ptr n], S => match S[n]? with
    | some (.dct kvs) => if (kvs.all fun p => p.1.atom && p.2.atom) = true ∧ (dvw kvs).showable = true ∧ okS (dvw kvs).shown then .ok (.str (dvw kvs).shown) S else .bad
    | _ => reprS [.ptr n] S
  | xs, S => reprS xs S
section
variable {X : Cx} {cl : Cl} {W : WX}
end
end MP
/-! MP39 -/
set_option Elab.async false
set_option autoImplicit false
set_option linter.all false
set_option maxRecDepth 100000
namespace MP
open PySem PySem.Spec L2
open PyProof.Rows hiding St

/-! ## calls with keywords -/
/-- how a def binds np values, the keywords ks and its defaults -/
def KwG (K : PySem.W.Frag) (fd : FuncData) (ps : List Str) (np : Nat) (ks : List Str) (dvs : List Value) (perm : List Nat) : Prop := ∀ (s : Shared) (us ws : List Value), K.In s.heap → us.length = np → ws.length = ks.length → BindsTo s fd ⟨us, ks.zip ws⟩ (ps.zip (reord perm (us ++ ws ++ dvs)))
def kwS (np nk n : Nat) (dfl : List D) (perm : List Nat) (g : FL) : List D → List D → Sto → Rs D := fun xs ws S => if xs.length = np ∧ ws.length = nk ∧ (reord perm (xs ++ ws ++ dfl)).length = n then g (reord perm (xs ++ ws ++ dfl)) S else .bad
def mKw (g : List D → List D → Sto → Rs D) (ma mk : M (List D)) : M D := fun ρ S => (ma ρ S).bind fun xs S1 => (mk ρ S1).bind fun ws S2 => g xs ws S2
def mMethKw (c m : Str) (g : List D → List D → Sto → Rs D) (mo : M D) (ma mk : M (List D)) : M D := fun ρ S => (mo ρ S).bind fun x S1 => if hasM c m x S1 = true then (ma ρ S1).bind fun xs S2 => (mk ρ S2).bind fun ws S3 => g (x :: xs) ws S3 else .bad
def CaK (X : Cx) (cl : Cl) (W : WX) (f : Value) (ks : List Str) (g : List D → List D → Sto → Rs D) : Prop :=
  ∀ (pins : List (Addr × Obj)) (s : Shared) (σ : L2.St) (H : Hp) (io : List Addr) (S : Sto) (xs kws : List D) (vs kvs : List V) (us kus : List Value), Inv X pins σ H s → Abs X.K cl io S H → RelDs X.K io H xs vs → Vals vs us → RelDs X.K io H kws kvs → Vals kvs kus →
    Good W X.K cl io H σ (g xs kws S) → wpAny (model X.prog X.w) X.A (call f us (ks.zip kus)) (EvP X cl pins σ io H (g xs kws S)) X.xe s
section
variable {X : Cx} {cl : Cl} {W : WX} {CX : CXT} {k : Nat} {f fa C : Addr} {fd : FuncData} {ps ks : List Str} {g : FL} {gk : List D → List D → Sto → Rs D} {perm : List Nat} {kws : List Keyword} {mo : M D} {ma m : M (List D)} {p pos apos : Pos} {dfl : List D} {dvs : List V} {us0 : List Value} {np : Nat} {x c mt : Str} {e o : Expr} {es : List Expr}
end
end MP
/-! MP40 -/
set_option Elab.async false
set_option autoImplicit false
set_option linter.all false
set_option maxRecDepth 100000
namespace MP
open PySem PySem.Spec L2
open PyProof.Rows hiding St

/-! ## sorted lists on the plain side -/
end MP
/-! MP41 -/
set_option Elab.async false
set_option autoImplicit false
set_option linter.all false
set_option maxRecDepth 100000
namespace MP
open PySem PySem.Spec L2
open PyProof.Rows hiding St

/-! ## repr of a dict of names and truths -/
def kvT (t : List (Str × Bool)) : List (D × D) := t.map fun p => (.str p.1, .bl p.2)
def Sn (z : Str) : Prop := z.length ≤ 6 ∧ ∀ c ∈ z.cps.toList, c < 1114112
end MP
/-! MP42 -/
set_option Elab.async false
set_option autoImplicit false
set_option linter.all false
set_option maxRecDepth 100000
namespace MP
open PySem PySem.Spec L2
section
variable {ρ : Rho} {S : Sto} {N B C : Rho → Sto → Prop} {R : D → Sto → Prop}
theorem wp_gFld {c f : Str} {mo : M D} {d : D} {Q : Rho → Sto → Prop} : Wp (gFld c f mo d ρ S) Q ↔ Wp (mo ρ S) fun x S1 => Put (setF c f x d S1) (Q ρ) := by
  unfold gFld
  constructor
  · rintro ⟨a, S', e, q⟩
    cases h : mo ρ S with
    | ok x S1 =>
      rw [h] at e
      simp only at e
      cases h2 : setF c f x d S1 with
      | some S2 =>
        rw [h2] at e
        cases e
        exact ⟨x, S1, rfl, _, h2, q⟩
      | none => rw [h2] at e; cases e
    | exn _ _ => rw [h] at e; cases e
    | bad => rw [h] at e; cases e
  · rintro ⟨x, S1, e, S2, h2, q⟩
    rw [e]
    simp only [h2]
    exact ⟨_, _, rfl, q⟩
theorem wp_mMethKw {c m : Str} {g : List D → List D → Sto → Rs D} {mo : M D} {ma mk : M (List D)} {Q : D → Sto → Prop} : Wp (mMethKw c m g mo ma mk ρ S) Q ↔ Wp (mo ρ S) fun x S1 => hasM c m x S1 = true ∧ Wp (ma ρ S1) fun xs S2 => Wp (mk ρ S2) fun ws S3 => Wp (g (x :: xs) ws S3) Q := by
  simp only [mMethKw, wp_bind, wp_guard]
end
end MP
/-! MP43 -/
set_option Elab.async false
set_option autoImplicit false
set_option linter.all false
set_option maxRecDepth 100000
namespace MP
open PySem PySem.Spec L2
open PyProof.Rows hiding St

/-! ## dicts whose keys are tuples -/
section
variable {X : Cx} {cl : Cl} {W : WX}
def getK : FM
  | .ptr n, [k, d], S => match S[n]?, nkT k with
    | some (.dkt kvs), some _ => .ok ((dget kvs k).getD d) S
    | some (.dct []), some _ => .ok d S
    | _, _ => .bad
  | _, _, _ => .bad
def setKS (x i d : D) (S : Sto) : Option Sto := match x with
  | .ptr n => match S[n]?, nkT i with
    | some (.dkt kvs), some _ => if kvs.length < sizeLine then some (S.set n (.dkt (dput kvs i d))) else none
    | some (.dct []), some _ => some (S.set n (.dkt [(i, d)]))
    | _, _ => none
  | _ => none
def mSetK (mo mi mv : M D) : MS := eS mv fun d => eS mo fun x => eS mi fun i ρ S => match setKS x i d S with
  | some S' => .ok (.nx ρ) S'
  | none => .bad
/-- the entries behind a store -/
def putQ (qs : List ((NestedKey × Addr × Value) × V)) (k : NestedKey) (b : Addr) (u : Value) (v : V) : List ((NestedKey × Addr × Value) × V) :=
  if (atKey (qs.map (·.1)) k).isSome then qs.map (fun q => if q.1.1 = k then ((q.1.1, q.1.2.1, u), v) else q) else qs ++ [((k, b, u), v)]
end
end MP
/-! MP44 -/
set_option Elab.async false
set_option autoImplicit false
set_option linter.all false
set_option maxRecDepth 100000
namespace MP
open PySem PySem.Spec L2
open PyProof.Rows hiding St
section
variable {X : Cx} {cl : Cl} {W : WX}
variable {o i value : Expr} {mo mi mv : M D} {pos pos' : Pos}
/-! ## list(d.values()) -/
def viewK : FM
  | .ptr n, [], S => match S[n]? with
    | some (.dkt _) => .ok (.ptr S.length) (S ++ [.vw "dict_values" n])
    | some (.dct []) => .ok (.ptr S.length) (S ++ [.vw "dict_values" n])
    | _ => .bad
  | _, _, _ => .bad
def listK : FL
  | [.ptr n], S => match S[n]? with
    | some (.vw "dict_values" m) => match S[m]? with
      | some (.dkt kvs) => newL (kvs.map (·.2)) S
      | some (.dct []) => newL [] S
      | _ => .bad
    | _ => .bad
  | _, _ => .bad
end
end MP
/-! MP45 -/
set_option Elab.async false
set_option autoImplicit false
set_option linter.all false
set_option maxRecDepth 100000
namespace MP
open PySem PySem.Spec L2
open PyProof.Rows hiding St
section
variable {X : Cx} {cl : Cl} {W : WX} {x : Str} {p pos : Pos} {kws : List Keyword} {m : M (List D)} {ks : List Str} {gk : List D → List D → Sto → Rs D}
end
end MP
/-! MP46 -/
set_option Elab.async false
set_option autoImplicit false
set_option linter.all false
set_option maxRecDepth 100000
namespace MP
open PySem PySem.Spec L2
open PyProof.Rows hiding St

/-! ## for a, b in zip(xs, ys) -/
def zipL (as bs : List D) : List D := List.zipWith (fun a b => .tup [a, b]) as bs
/-- no item is a tuple of pairs of texts alone -/
def zipOk (as bs : List D) : Bool := (zipL as bs).all fun d => match d with
  | .tup ds => !(ds.all D.isP2)
  | _ => true
def zipA : List D → Sto → Rs Src
  | [.tup as, .tup bs], S => if zipOk as bs = true then .ok (srcT (zipL as bs)) S else .bad
  | [.ptr n, .ptr m], S => match listAt S n, listAt S m with
    | some as, some bs => if zipOk as bs = true then .ok ⟨zipL as bs, fun S => decide (listAt S n = some as) && decide (listAt S m = some bs), some⟩ S else .bad
    | _, _ => .bad
  | _, _ => .bad
section
variable {X : Cx} {cl : Cl} {W : WX} {e e2 : Expr} {m : M (List D)} {p pos tpos : Pos} {elts : List Expr} {kk : Nat} {io0 io1 : List Addr} {H0 H1 : Hp}
end
end MP
/-! MP47 -/
set_option Elab.async false
set_option autoImplicit false
set_option linter.all false
set_option maxRecDepth 100000
namespace MP
open PySem PySem.Spec L2 PySem.Froz
open PyProof.Rows hiding St

/-! ## sorted(set(x)), x a list of texts, none twice -/
/-- at a stands a set of the texts l, and its table may be walked -/
def TxW (P : Program) (w : World) (h : Heap) (a : Addr) (l : List Str) : Prop :=
  ∃ D : SD, h.get? a = some (sObj "set" D) ∧ TxOk P w D l ∧ Ris D.2.2.place.toList ∧ (w.params.followText "set-order" = true ∨ D.2.2.led = true)
abbrev setNew (w : World) : Obj := sObj "set" (#[], 0, .fresh 0 0 (!w.params.followText "set-order"))
section
variable {P : Program} {w : World} {A : Around} {E : Value → Shared → Prop} {s : Shared} {a : Addr} {l : List Str}
theorem TxW.keep {h h' : Heap} (x : TxW P w h a l) (k : ∀ o, h.get? a = some o → h'.get? a = some o) : TxW P w h' a l := x.imp fun _ y => ⟨k _ y.1, y.2⟩
theorem TxW.start {h : Heap} (e : h.get? a = some (setNew w)) : TxW P w h a [] := by
  refine ⟨_, e, TxOk.nil (by rfl), List.Pairwise.nil, ?_⟩
  show _ ∨ (!w.params.followText "set-order") = true
  cases w.params.followText "set-order" <;> simp
end
end MP
/-! MP48 -/
set_option Elab.async false
set_option autoImplicit false
set_option linter.all false
set_option maxRecDepth 100000
namespace MP
open PySem PySem.Spec L2 PySem.Froz
open PyProof.Rows hiding St
section
variable {P : Program} {w : World} {A : Around} {E : Value → Shared → Prop} {s : Shared}
/-- what set(l) leaves -/
def SetLeft (P : Program) (w : World) (s : Shared) (zs : List Str) (s' : Shared) : Prop := ∃ h' tk, s' = { s with heap := h', toks := tk } ∧ TxW P w h' s.heap.objs.size zs.reverse ∧ ∀ b o, s.heap.get? b = some o → h'.get? b = some o
end
end MP
/-! MP49 -/
set_option Elab.async false
set_option autoImplicit false
set_option linter.all false
set_option maxRecDepth 100000
namespace MP
open PySem PySem.Spec L2 PySem.Froz
open PyProof.Rows hiding St
/-- sorted(set(l)), l a list of texts of which none stands twice -/
def ssetS : FL
  | [.ptr n], S => match listAt S n with
    | some ds => match strsOf ds with
      | some zs => if zs.Nodup ∧ zs.length < 4000 ∧ srtOk ds = true then newL (srt ds) S else .bad
      | none => .bad
    | none => .bad
  | _, _ => .bad
section
variable {X : Cx} {cl : Cl} {W : WX}
variable {e : Expr} {m : M D} {p p2 p3 pos pos2 : Pos}
end
end MP
/-! MP50 -/
set_option Elab.async false
set_option autoImplicit false
set_option linter.all false
set_option maxRecDepth 100000
namespace MP
open PySem PySem.Spec L2
open PyProof.Rows hiding St

/-! ## list comprehensions of two clauses -/
def lc2I (g1 : MG) (t1 : M Bool) (el : M D) (src1 : Src) (n : Nat) (ρ2 : Rho) : List D → Sto → Rs Unit
  | [], S => if src1.keep S = true ∧ src1.fin S = some S then .ok () S else .bad
  | d :: ds, S => if src1.keep S = true then (match g1 d ρ2 S with
      | .ok ρ3 S1 => (noX (t1 ρ3 S1)).bind fun c S2 => if c = true then (noX (el ρ3 S2)).bind fun y S3 => match pushL n y S3 with
          | some S4 => lc2I g1 t1 el src1 n ρ2 ds S4
          | none => .bad
        else lc2I g1 t1 el src1 n ρ2 ds S2
      | _ => .bad) else .bad
def lc2L (g : MG) (t : M Bool) (mi1 : MI) (g1 : MG) (t1 : M Bool) (el : M D) (src : Src) (n : Nat) (ρ0 : Rho) (vs1 : List Nat) : List D → Sto → Rs D
  | [], S => if src.keep S = true then (match src.fin S with
      | some S' => .ok (.ptr n) S'
      | none => .bad) else .bad
  | d :: ds, S => if src.keep S = true then (match g d ρ0 S with
      | .ok ρ1 S1 => (noX (t ρ1 S1)).bind fun c S2 => if c = true then (noX (mi1 ρ1 S2)).bind fun src1 S3 => (lc2I g1 t1 el src1 n (wipeR ρ1 vs1) src1.items S3).bind fun _ S4 => lc2L g t mi1 g1 t1 el src n ρ0 vs1 ds S4
        else lc2L g t mi1 g1 t1 el src n ρ0 vs1 ds S2
      | _ => .bad) else .bad
def mLc2 (mi : MI) (g : MG) (t : M Bool) (mi1 : MI) (g1 : MG) (t1 : M Bool) (el : M D) (vs vs1 : List Nat) : M D := fun ρ S => (mi ρ S).bind fun src S1 => lc2L g t mi1 g1 t1 el src S1.length (wipeR ρ vs) vs1 src.items (S1 ++ [.lst []])
section
variable {X : Cx} {cl : Cl} {W : WX}
/-- what an inner clause walks: it frees nothing -/
structure Src0 (K : PySem.W.Frag) (cl : Cl) (J : It) (src : Src) (io1 : List Addr) (H1 : Hp) : Prop where
  item : ∀ io S H i d, Abs K cl io S H → Grow K io1 H1 io H → src.keep S = true → src.items[i]? = some d → J.go i H ∧ ∀ x H', J.yld i H x H' → Abs K cl io S H' ∧ Grow K io H io H' ∧ RelD K io H' d x
  stop : ∀ io S H i, Abs K cl io S H → Grow K io1 H1 io H → src.keep S = true → src.items.length = i → J.stop i H
def tI0 (K : PySem.W.Frag) (cl : Cl) (m : MI) : TI := fun σ H R => ∃ io ρ S, Abs K cl io S H ∧ RelRho K io H ρ σ ∧ Good WF K cl io H σ (m ρ S) ∧
  ∀ src S1 io1 H1 J, m ρ S = .ok src S1 → Abs K cl io1 S1 H1 → Grow K io H io1 H1 → Src0 K cl J src io1 H1 → R J H1
section
variable {elt tg iter tg1 iter1 : Expr} {ifs ifs1 : List Expr} {scope : Scope} {own : List (Str × Nat)} {pos spos py : Pos} {mi mi1 : MI} {g g1 : MG} {t t1 : M Bool} {el : M D} {l l1 vs1 : List Nat} {i : Nat} {y : Str}
end
end
end MP
/-! MP51 -/
set_option Elab.async false
set_option autoImplicit false
set_option linter.all false
set_option maxRecDepth 100000
namespace MP
open PySem PySem.Spec L2
open PyProof.Rows hiding St

/-! ## a dict with tuple keys walked -/
/-- the keys of the locked dict at d -/
def Itq (hs : NestedKey → Int) (d : Addr) (o : Obj) (xs : List (NestedKey × Addr × Value)) : It where
  go := fun i H => H d = some (.frz o (dkO hs d xs)) ∧ i < xs.length
  yld := fun i H x H' => H' = H ∧ ∀ ys, H d = some (.frz o (dkO hs d ys)) → ∃ y, ys[i]? = some y ∧ x = .ref y.2.1
  stop := fun i H => H d = some (.frz o (dkO hs d xs)) ∧ xs.length ≤ i
section
variable {X : Cx} {cl : Cl} {W : WX}
/-! locked, freed -/
def unlkK (n : Nat) (kvs : List (D × D)) (S : Sto) : Option Sto := if S[n]? = some (.rkt kvs) then some (S.set n (.dkt kvs)) else none
def srcK (n : Nat) (kvs : List (D × D)) : Src := ⟨kvs.map (·.1), fun S => decide (S[n]? = some (.rkt kvs)), unlkK n kvs⟩
def srcKR (n : Nat) (kvs : List (D × D)) : Src := ⟨kvs.map (·.1), fun S => decide (S[n]? = some (.rkt kvs)), some⟩
def iterKS : D → Sto → Rs Src
  | .ptr n, S => match S[n]? with
    | some (.dkt kvs) => .ok (srcK n kvs) (S.set n (.rkt kvs))
    | some (.rkt kvs) => .ok (srcKR n kvs) S
    | _ => .bad
  | _, _ => .bad
variable {io0 io1 : List Addr} {H0 H1 : Hp}
variable {tg e : Expr} {m : M D}
end
end MP
/-! MP52 -/
set_option Elab.async false
set_option autoImplicit false
set_option linter.all false
set_option maxRecDepth 100000
namespace MP
open PySem PySem.Spec L2
open PyProof.Rows hiding St

/-! ## dicts with tuple keys: in, [], dict(pairs), update -/
def kAt (S : Sto) (n : Nat) : Option (List (D × D)) := match S[n]? with
  | some (.dkt kvs) => some kvs
  | some (.rkt kvs) => some kvs
  | some (.dct []) => some []
  | _ => none
def inK : F2 := fun x y S => match y with
  | .ptr n => match kAt S n, nkT x with
    | some kvs, some _ => .ok (.bl (dget kvs x).isSome) S
    | _, _ => .bad
  | _ => .bad
def ninK : F2 := fun x y S => match y with
  | .ptr n => match kAt S n, nkT x with
    | some kvs, some _ => .ok (.bl (!(dget kvs x).isSome)) S
    | _, _ => .bad
  | _ => .bad
def keyedAt (x y : D) (S : Sto) : Option D := match x with
  | .ptr n => match kAt S n, nkT y with
    | some kvs, some _ => dget kvs y
    | _, _ => none
  | _ => none
def ixK : F2 := fun x y S => match keyedAt x y S with
  | some v => .ok v S
  | none => ixS x y S
def kpairs : List D → Option (List (D × D))
  | [] => some []
  | .tup [k, v] :: r => match nkT k with
    | some _ => (kpairs r).map ((k, v) :: ·)
    | none => none
  | _ :: _ => none
def dictK : FL
  | [.ptr n], S => match listAt S n with
    | some ds => match kpairs ds with
      | some kvs => if (kvs.map (·.1)).Nodup ∧ kvs.length ≤ sizeLine then .ok (.ptr S.length) (S ++ [.dkt kvs]) else .bad
      | none => .bad
    | none => .bad
  | _, _ => .bad
def updateK : FM
  | .ptr n, [.ptr m], S => match S[n]?, S[m]? with
    | some (.dkt kvs), some (.dkt more) => if n ≠ m ∧ kvs ≠ [] ∧ kvs.length + more.length ≤ sizeLine ∧ ((kvs ++ more).map (·.1)).Nodup then .ok .non (S.set n (.dkt (kvs ++ more))) else .bad
    | _, _ => .bad
  | _, _, _ => .bad
section
variable {X : Cx} {cl : Cl} {W : WX} {pins : List (Addr × Obj)} {σ : L2.St} {H : Hp} {s : Shared} {io : List Addr} {S : Sto}
/-! dict(pairs) -/
end
end MP
/-! MP53 -/
set_option Elab.async false
set_option autoImplicit false
set_option linter.all false
set_option maxRecDepth 100000
namespace MP
open PySem PySem.Spec L2
open PyProof.Rows hiding St

/-! ## for x in o, where o's class has an __iter__ that returns iter(self.f), f a dict with tuple keys -/
def kiO (it d : Addr) (n ep : Nat) : HO := .ext fun h => h.IsKeyIter it d 0 n ep
section
variable {X : Cx} {cl : Cl} {W : WX} {pins : List (Addr × Obj)} {σ : L2.St} {H : Hp} {s : Shared}
def iterOwn (c f : Str) : D → Sto → Rs Src
  | .ptr k, S => match insAt c S k with
    | some fs => match fs.lookup f with
      | some (.ptr n) => iterKS (.ptr n) S
      | _ => .bad
    | none => .bad
  | _, _ => .bad
end
end MP
/-! MP54 -/
set_option Elab.async false
set_option autoImplicit false
set_option linter.all false
set_option maxRecDepth 100000
namespace MP
open PySem PySem.Spec L2
open PyProof.Rows hiding St

/-! ## x in o, where o's class has a __contains__ -/
def inOwn (c : Str) (g : FL) : F2 := fun x y S => match y with
  | .ptr k => match insAt c S k with
    | some _ => match g [.ptr k, x] S with
      | .ok (.bl b) S' => .ok (.bl b) S'
      | _ => .bad
    | none => .bad
  | _ => .bad
def ninOwn (c : Str) (g : FL) : F2 := fun x y S => match y with
  | .ptr k => match insAt c S k with
    | some _ => match g [.ptr k, x] S with
      | .ok (.bl b) S' => .ok (.bl (!b)) S'
      | _ => .bad
    | none => .bad
  | _ => .bad
section
variable {X : Cx} {cl : Cl} {W : WX} {c : Str} {C fi : Addr} {fd : FuncData} {ps : List Str} {k : Nat} {g : FL}
end
end MP
/-! MP55 -/
set_option Elab.async false
set_option autoImplicit false
set_option linter.all false
set_option maxRecDepth 100000
namespace MP
open PySem PySem.Spec L2
open PyProof.Rows hiding St

/-! ## {k: v}, where k is a tuple -/
def fillK (n : Nat) (kvs : Kv) (S : Sto) : Rs D := match kvs with
  | [(k, v)] => if S[n]? = some (.dct []) ∧ (nkT k).isSome = true then .ok (.ptr n) (S.set n (.dkt [(k, v)])) else .bad
  | _ => .bad
def mDictK (m : M Kv) : M D := fun ρ S => (m ρ (S ++ [.dct []])).bind fun kvs S1 => fillK S.length kvs S1
section
variable {X : Cx} {cl : Cl} {W : WX} {pos : Pos}
end
end MP
/-! MP56 -/
set_option Elab.async false
set_option autoImplicit false
set_option linter.all false
set_option maxRecDepth 100000
namespace MP
open PySem PySem.Spec L2
open PyProof.Rows hiding St

/-! ## what the new words yield -/
section
variable {ρ : Rho} {S : Sto} {N B C : Rho → Sto → Prop} {R : D → Sto → Prop}
end
/-! tuples of texts as keys -/
end MP
/-! MP57 -/
set_option Elab.async false
set_option autoImplicit false
set_option linter.all false
set_option maxRecDepth 100000
namespace MP
open PySem PySem.Spec L2
open PyProof.Rows hiding St

/-! ## sorted of tuples of which the first one is () -/
section
open PySem.W PyProof.Rows PySem.Calls PySem.SeqAt PySem.MeetsSeq PySem.MeetsSeq2 PySem.MeetsSeq3 PySem.SeqRoads2
variable {prog : Program} {w : World} {A : Around} {s : Shared}
end
def isTup : D → Bool
  | .tup _ => true
  | _ => false
def hdNil : List D → Bool
  | .tup [] :: r => r.all isTup
  | _ => false
/-- what sorted takes here: tuples with items, or tuples of which the first one is () -/
def srtOkT (ds : List D) : Bool := D.pls ds && decide (D.dps ds ≤ 19) && decide (ds.length ≤ 100000) && (ds.all fun a => ds.all fun b => PySem.W.alike a.vw b.vw) && (ds.all isTup1 || hdNil ds)
/-- the list of the keys of a dict whose keys are tuples -/
def sortedK : FL
  | [.ptr n], S => match S[n]? with
    | some (.dkt kvs) => if srtOkT (kvs.map (·.1)) = true then newL (srt (kvs.map (·.1))) S else .bad
    | _ => .bad
  | _, _ => .bad
section
variable {X : Cx} {cl : Cl} {W : WX}
end
end MP
/-! MP58 -/
set_option Elab.async false
set_option autoImplicit false
set_option linter.all false
set_option maxRecDepth 100000
namespace MP
open PySem PySem.Spec L2
open PyProof.Rows hiding St

/-! ## == of two dicts whose keys lie in the heap -/
section
open PySem.SeqAt (EqIn EqAt)
variable {prog : Program} {w : World} {K : Type} [DecidableEq K] {knd : HeapKind prog w K} {A : Around} {E : Value → Shared → Prop} {s : Shared}
inductive HitsH (prog : Program) (w : World) {K : Type} [DecidableEq K] (A : Around) (s : Shared) (xb : List (K × Addr × Value)) : List (K × Addr × Value) → Bool → Prop
  | nil : HitsH prog w A s xb [] true
  | miss {k : K} {a : Addr} {v : Value} {r : List (K × Addr × Value)} : atKey xb k = none → HitsH prog w A s xb ((k, a, v) :: r) false
  | hit {k : K} {a b' : Addr} {v y : Value} {r : List (K × Addr × Value)} {e b : Bool} : atKey xb k = some (b', y) → EqIn prog w A s v y e → HitsH prog w A s xb r b → HitsH prog w A s xb ((k, a, v) :: r) (e && b)
theorem HitsH.inv {xb : List (K × Addr × Value)} {k : K} {a : Addr} {v : Value} {r : List (K × Addr × Value)} {b : Bool} (h : HitsH prog w A s xb ((k, a, v) :: r) b) :
    (atKey xb k = none ∧ b = false) ∨ ∃ b1 y e b', atKey xb k = some (b1, y) ∧ EqIn prog w A s v y e ∧ HitsH prog w A s xb r b' ∧ b = (e && b') := by
  cases h with
  | miss hn => exact .inl ⟨hn, rfl⟩
  | hit hy he hr => exact .inr ⟨_, _, _, _, hy, he, hr, rfl⟩
end
end MP
/-! MP59 -/
set_option Elab.async false
set_option autoImplicit false
set_option linter.all false
set_option maxRecDepth 100000
namespace MP
open PySem PySem.Spec L2
open PyProof.Rows hiding St

/-! ## dicts with tuple keys: sorted, setdefault, clear, repr, == -/
def setdefaultK : FM
  | .ptr n, [k, d], S => match S[n]?, nkT k with
    | some (.dkt kvs), some _ => match dget kvs k with
      | some x => .ok x S
      | none => if kvs.length < sizeLine then .ok d (S.set n (.dkt (dput kvs k d))) else .bad
    | some (.dct []), some _ => .ok d (S.set n (.dkt [(k, d)]))
    | _, _ => .bad
  | _, _, _ => .bad
def clearK : FM
  | .ptr n, [], S => match S[n]? with
    | some (.dkt _) => .ok .non (S.set n (.dkt []))
    | _ => .bad
  | _, _, _ => .bad
def vwK (kvs : List (D × D)) : PyData := .dict (kvs.map fun p => (p.1.vw, p.2.vw))
def plK (kvs : List (D × D)) : Bool := kvs.all fun p => p.1.pl && decide (p.1.dp ≤ 50) && (p.2.pl && decide (p.2.dp ≤ 50))
def reprK : FL := fun xs S => match xs with
  | [.ptr n] => match S[n]? with
    | some (.dkt kvs) => if plK kvs = true ∧ (vwK kvs).showable = true ∧ okS (vwK kvs).shown ∧ (vwK kvs).depth ≤ 60 then .ok (.str (vwK kvs).shown) S else .bad
    | _ => reprS xs S
  | _ => reprS xs S
def kvsEq (a b : List (D × D)) : Bool := a.length == b.length && a.all fun p => match dget b p.1 with
  | some v => decide (p.2 = v)
  | none => false
def neK (f : F2) : F2 := fun x y S => match x, y with
  | .ptr n, .ptr m => match S[n]?, S[m]? with
    | some (.dkt a), some (.dkt b) => if plK a = true ∧ plK b = true then .ok (.bl (!kvsEq a b)) S else .bad
    | _, _ => f x y S
  | _, _ => f x y S
def eqK (f : F2) : F2 := fun x y S => match x, y with
  | .ptr n, .ptr m => match S[n]?, S[m]? with
    | some (.dkt a), some (.dkt b) => if plK a = true ∧ plK b = true then .ok (.bl (kvsEq a b)) S else .bad
    | _, _ => f x y S
  | _, _ => f x y S
section
variable {X : Cx} {cl : Cl} {W : WX} {pins : List (Addr × Obj)} {σ : L2.St} {H : Hp} {s : Shared} {io : List Addr} {S : Sto}
end
end MP
/-! MP60 -/
set_option Elab.async false
set_option autoImplicit false
set_option linter.all false
set_option maxRecDepth 100000
namespace MP
open PySem PySem.Spec L2
open PyProof.Rows hiding St

section
variable {X : Cx} {cl : Cl} {W : WX} {pins : List (Addr × Obj)} {σ : L2.St} {H : Hp} {s : Shared} {io : List Addr} {S : Sto}
end
end MP
/-! MP61 -/
set_option Elab.async false
set_option autoImplicit false
set_option linter.all false
set_option maxRecDepth 100000
namespace MP
open PySem PySem.Spec L2
open PyProof.Rows hiding St

/-! ## a list times a number -/
def mulL : F2 := fun x y S => match x, y with
  | .ptr n, .int k => match S[n]? with
    | some (.lst ds) => if -(2 ^ 62) ≤ k ∧ k < 2 ^ 62 ∧ ds.length * k.toNat ≤ sizeLine then .ok (.ptr S.length) (S ++ [.lst (List.replicate k.toNat ds).flatten]) else .bad
    | _ => .bad
  | _, _ => mulS x y S
section
variable {X : Cx} {cl : Cl} {W : WX}
end
end MP
/-! MP62 -/
set_option Elab.async false
set_option autoImplicit false
set_option linter.all false
set_option maxRecDepth 100000
namespace MP
open PySem PySem.Spec L2
open PyProof.Rows hiding St

/-! ## tuple(d), d a dict with tuple keys -/
section
variable {prog : Program} {w : World} {A : Around} {E : Value → Shared → Prop} {s : Shared} {d : Addr} {es : Array DictEntry} {ep : Nat}
end
def tupleK : FL := fun xs S => match xs with
  | [.ptr n] => match S[n]? with
    | some (.dkt kvs) => .ok (.tup (kvs.map (·.1))) S
    | some (.dct []) => .ok (.tup []) S
    | _ => tupleS xs S
  | _ => tupleS xs S
section
variable {X : Cx} {cl : Cl} {W : WX}
end
end MP
/-! MP63 -/
set_option Elab.async false
set_option autoImplicit false
set_option linter.all false
set_option maxRecDepth 100000
namespace MP
open PySem PySem.Spec L2
open PyProof.Rows hiding St

/-! ## min of a list of numbers; list(d), d a dict with tuple keys -/
def intsOf : List D → Option (List Int)
  | [] => some []
  | .int b :: r => (intsOf r).map (b :: ·)
  | _ :: _ => none
def minL : FL := fun xs S => match xs with
  | [.ptr n] => match listAt S n with
    | some ds => match intsOf ds with
      | some (i :: r) => .ok (.int (r.foldl min i)) S
      | _ => .bad
    | none => .bad
  | _ => min2S xs S
def listD : FL := fun xs S => match xs with
  | [.ptr n] => match S[n]? with
    | some (.dkt kvs) => newL (kvs.map (·.1)) S
    | some (.dct []) => newL [] S
    | _ => .bad
  | _ => .bad
section
variable {X : Cx} {cl : Cl} {W : WX}
end
/-! ## nested texts: what their order and their text tell -/
mutual
/-- texts, and tuples of such -/
def D.tx : D → Bool
  | .str _ => true
  | .tup l => D.txs l
  | _ => false
def D.txs : List D → Bool
  | [] => true
  | d :: l => d.tx && D.txs l
end
end MP
/-! MP64 -/
set_option Elab.async false
set_option autoImplicit false
set_option linter.all false
set_option maxRecDepth 100000
namespace MP
open PySem PySem.Spec L2
open PyProof.Rows hiding St
open PySem.PyData

/-! ## repr of nested small words tells them apart -/
def lwS (z : Str) : Prop := ∀ c ∈ z.cps.toList, 97 ≤ c ∧ c ≤ 122
mutual
/-- words of small letters, and tuples of such -/
def D.lw : D → Prop
  | .str z => lwS z
  | .tup l => D.lws l
  | _ => False
def D.lws : List D → Prop
  | [] => True
  | d :: l => d.lw ∧ D.lws l
end
def moreC : List (List Nat) → List Nat
  | [] => [41]
  | t :: ts => 44 :: 32 :: (t ++ moreC ts)
def restC : List (List Nat) → List Nat
  | [] => [44, 41]
  | t :: ts => moreC (t :: ts)
def tupC : List (List Nat) → List Nat
  | [] => [40, 41]
  | t :: ts => 40 :: (t ++ restC ts)
def shC (ds : List D) : List (List Nat) := (PyData.shownAll (D.vws ds)).map fun t => t.cps.toList
end MP
/-! MP65 -/
set_option Elab.async false
set_option autoImplicit false
set_option linter.all false
set_option maxRecDepth 100000
namespace MP
open PySem PySem.Spec L2
open PyProof.Rows hiding St

/-! ## dict(t), t a tuple of pairs of texts -/
section
variable {X : Cx} {cl : Cl} {W : WX} {pins : List (Addr × Obj)} {s : Shared} {σ : L2.St} {H : Hp} {io : List Addr} {S : Sto}
def dictT : FL
  | [.tup ds], S => if ds.all D.isP2 = true then match pairsOf ds with
    | some kvs => newD (dmerge [] kvs) S
    | none => .bad
    else .bad
  | xs, S => dictS xs S
end
end MP
/-! MP66 -/
set_option Elab.async false
set_option autoImplicit false
set_option linter.all false
set_option maxRecDepth 100000
namespace MP
open PySem PySem.Spec L2
open PyProof.Rows hiding St

/-! ## calls with defaults: keyword-only parameters that are not written -/
/-- how a def binds, the values of the defaults told -/
def KwD (K : PySem.W.Frag) (fd : FuncData) (ps : List Str) (np : Nat) (ks : List Str) (dV : List V) (perm : List Nat) : Prop := ∃ dvs, Vals dV dvs ∧ KwG K fd ps np ks dvs perm
def BnD (K : PySem.W.Frag) (fd : FuncData) (ps : List Str) (dV : List V) : Prop := ∃ us0, Vals dV us0 ∧ Binds K fd ps us0
/-- a def's keyword-only defaults, by name -/
def KwIn (K : PySem.W.Frag) (D : Addr) (ms : List (Str × Value)) : Prop := ∀ q ∈ ms, PySem.W.nsIn K D q.1 = some (some q.2)
section
variable {X : Cx} {cl : Cl} {W : WX} {CX : CXT} {k n nk : Nat} {f fa C : Addr} {fd : FuncData} {ps ks : List Str} {g : FL} {gk : List D → List D → Sto → Rs D} {perm : List Nat} {kws : List Keyword} {mo : M D} {ma m : M (List D)} {p pos apos : Pos} {dfl : List D} {dvs : List V} {np : Nat} {x c mt : Str} {e o : Expr} {es : List Expr}
end
end MP
/-! MP67 -/
set_option Elab.async false
set_option autoImplicit false
set_option linter.all false
set_option maxRecDepth 100000
namespace MP
open PySem PySem.Spec L2 LamX
open PyProof.Rows hiding St

/-! ## lambdas: tables of code objects -/
theorem code_not {P : Program} {w : World} {K : PySem.W.Frag} {cl : Cl} {io : List Addr} {H : Hp} {h : Heap} {o : O} {c : Addr} {q : Str} (KX : K.In h) (hok : HOk P w H h) (nl : o.isRo = false) (r : RelO K cl io H o c) (hc : H c = some (CodeO c q)) : False := by
  have x : ObjOk P w H h c (.ext fun h => ∃ (oc : Obj) (vs : Array Value) (t : Tok), h.get? c = some oc ∧ oc.data = .fields vs ∧ vs[1]? = some (.str q t)) := hok c _ hc
  obtain ⟨⟨oc, vs, t, e1, e2, e3⟩, _, _⟩ := x
  have ne : ∀ u : HO, (∀ φ, u ≠ .ext φ) → H c = some u → False := fun u nu e => by
    rw [hc] at e
    exact nu _ (Option.some.inj e).symm
  cases r with
  | lst h _ => exact ne _ (by intro φ z; cases z) h
  | rol h _ =>
    rcases h with ⟨o, h⟩ | h
    · exact ne _ (by intro φ z; cases z) h
    · rcases h with h | ⟨o, arr, ob, hk, _, _, hd, _⟩
      · rcases h with h | ⟨_, h⟩ <;> cases h
      · have := KX _ _ hk
        rw [e1] at this
        cases this
        rw [e2] at hd
        cases hd
  | dct h _ => exact ne _ (by intro φ z; cases z) h
  | rod h _ => exact ne _ (by intro φ z; cases z) h
  | rkt h _ _ _ _ => exact ne _ (by intro φ z; cases z) h
  | ins _ h _ => exact ne _ (by intro φ z; cases z) h
  | lam => cases nl
  | @vw _ d T n h _ =>
    have y : ObjOk P w H _ c (.ext fun h => h.get? c = some { cls := .type T, data := .fields #[.ref d] }) := hok c _ h
    have y1 : _ = some ({ cls := .type T, data := .fields #[.ref d] } : Obj) := y.1
    rw [e1] at y1
    cases y1
    cases e2
    simp at e3
  | @dkt _ kvs qs h _ _ _ _ =>
    have y : ObjOk P w H _ c (.ext fun h => ∃ o es ep, h.get? c = some o ∧ o.ExactDict ∧ o.data = .dict es ep ∧ es.toList = (qs.map (·.1)).map fun x => ⟨cl.hs x.1, .ref x.2.1, x.2.2⟩) := hok c _ h
    obtain ⟨o, es, ep, y1, _, y2, _⟩ := y.1
    rw [e1] at y1
    cases y1
    rw [e2] at y2
    cases y2
  | @exc _ C _ _ d _ h _ =>
    have y : ObjOk P w H _ c (.ext fun h => ∃ (oe : Obj) (vs : Array Value), h.get? c = some oe ∧ Zc (.ref C) d oe ∧ oe.data = .fields vs ∧ ∃ T, vs[1]? = some (.ref T)) := hok c _ h
    obtain ⟨oe, vs', y1, _, y2, T, y3⟩ := y.1
    rw [e1] at y1
    cases y1
    rw [e2] at y2
    cases y2
    rw [e3] at y3
    cases y3
theorem extN_grow {K : PySem.W.Frag} {io : List Addr} {H H1 : Hp} (g : ExtN H H1) : Grow K io H io H1 := by
  refine ⟨⟨⟨[], by simp⟩, fun a vs h => ?_, fun a h => ?_, fun a ws h => g a _ h fun _ z => nomatch z⟩, fun a o u h => g a _ h fun _ z => nomatch z⟩
  · rcases h with (h | ⟨ob, h⟩) | h
    · exact .inl (.inl (g a _ h fun _ z => nomatch z))
    · exact .inl (.inr ⟨ob, g a _ h fun _ z => nomatch z⟩)
    · exact .inr h
  · rcases h with ⟨ob, vs, h, d⟩ | h
    · exact .inl ⟨ob, vs, g a _ h (fun _ z => nomatch z), d⟩
    · exact .inr h
theorem Abs.extN {P : Program} {w : World} {K : PySem.W.Frag} {cl : Cl} {io : List Addr} {S : Sto} {H H1 : Hp} {h : Heap} (A : Abs K cl io S H) (g : ExtN H H1) (KX : K.In h) (hok : HOk P w H1 h) (T1 : Tabs cl.tb H1) : Abs K cl io S H1 := by
  have ob : ∀ (n : Nat) (o : O), S[n]? = some o → ∃ a, io[n]? = some a ∧ RelO K cl io H1 o a := fun n o e => by
    obtain ⟨a, ha, r⟩ := A.obj n o e
    refine ⟨a, ha, ?_⟩
    cases hr : o.isRo with
    | true => exact r.ro hr (extN_grow g).base fun ob u hu => g a _ hu fun _ z => nomatch z
    | false => exact r.mono (extN_grow g).base fun u hu => g a _ hu fun ps z => r.ntbl hr ps (by rw [hu, z])
  refine ⟨A.len, A.nd, ob, fun p hp => ?_, A.pre, fun q hq => (A.cap q hq).mono0 (extN_grow g).base, fun q hq => ⟨g _ _ (A.co q hq).1 codeO_ne, (A.co q hq).2⟩⟩
  obtain ⟨ps, h1, h2, h3⟩ := T1 p hp
  refine ⟨ps, h1, h2, fun pos cv hc => ?_⟩
  obtain ⟨c, e1, e2⟩ := h3 pos cv hc
  refine ⟨c, e1, e2, fun j o ej hj z => ?_⟩
  obtain ⟨a, ha, r⟩ := ob j o ej
  rw [z] at ha
  cases ha
  exact code_not KX hok hj r e2
section
variable {X : Cx} {cl : Cl} {W : WX}
/-- a lambda is made -/
theorem lam_mk {pins : List (Addr × Obj)} {s : Shared} {σ : L2.St} {H : Hp} {io : List Addr} {S : Sto} {c P : Addr} {params : Arguments} {body : Expr} {scope : Scope} {pos : Pos} {E : Value → Shared → Prop} {Q : Value → Shared → Prop} (I : Inv X pins σ H s) (A : Abs X.K cl io S H) (TB : TabB X.base X.mg c P) (hcode : X.env.code = .ref c)
    (hm : (P, X.env.qual ++ "<lambda>") ∈ cl.tb) (hu : ∀ p ∈ cl.tb, p.1 = P → p.2 = X.env.qual ++ "<lambda>") (hdef : defaultsOf params X.env = ([], [])) (hfree : ∀ y ∈ scope.names, y.2 = .free → ∃ c, X.env.cells.lookup y.1 = some c)
    (h : ∀ (f c' : Addr) (pm ctv : Value) (H1 : Hp) (s' : Shared), Inv X pins σ H1 s' → Abs X.K cl io S H1 → Grow X.K io H io H1 →
      s'.heap.get? f = some (PySem.W.kla_obj "<lambda>" (X.env.qual ++ "<lambda>") params body scope (cloFrom X.env.cells scope.names []) pm c' ctv) → H1 f = none → f ∉ frs X.stack → H1 c' = some (CodeO c' (X.env.qual ++ "<lambda>")) → Q (.ref f) s') :
    wpAny (model X.prog X.w) X.A (eval (.Lambda params body scope pos) X.env) Q E s :=
  lam_make2 I TB hcode hm hu (fun p hp => (A.tb p hp).s) hdef hfree fun f c' pm ctv H1 s' I1 eN T1 hf hfn hfr hco =>
    h f c' pm ctv H1 s' I1 (A.extN eN I1.kIn I1.hok T1) (extN_grow eN) hf hfn hfr hco
end
/-! ## sorted(x, key = lambda y: (len(y), y)) -/
end MP
/-! MP68 -/
set_option Elab.async false
set_option autoImplicit false
set_option linter.all false
set_option maxRecDepth 100000
namespace MP
open PySem PySem.Spec L2 LamX
open PyProof.Rows hiding St

/-! ## sorted(x, key = lambda y: (len(y), y)), x a list of tuples of texts -/
def txT : D → Option (List Str)
  | .tup ds => strsOf ds
  | _ => none
def txTs : List D → Option (List (List Str))
  | [] => some []
  | d :: ds => match txT d, txTs ds with
    | some z, some zs => some (z :: zs)
    | _, _ => none
def keyZ (z : List Str) : PyData := .tuple [.int z.length, .tuple (z.map .str)]
def srtZ (zs : List (List Str)) : List (List Str) := zs.mergeSort (PySem.W.dataLe false keyZ)
def lenZ (zs : List (List Str)) : Bool := decide (zs.length ≤ 100000) && zs.all fun z => decide (z.length ≤ 100000)
def sortZS : F1
  | .ptr n, S => match listAt S n with
    | some ds => match txTs ds with
      | some zs => if lenZ zs = true then newL ((srtZ zs).map fun z => .tup (z.map D.str)) S else .bad
      | none => .bad
    | none => .bad
  | _, _ => .bad
def mSortZ (m : M D) : M D := fun ρ S => (m ρ S).bind sortZS
section
variable {X : Cx} {cl : Cl} {W : WX}
end
end MP
/-! MP69 -/
set_option Elab.async false
set_option autoImplicit false
set_option linter.all false
set_option maxRecDepth 100000
namespace MP
open PySem PySem.Spec L2 LamX
open PyProof.Rows hiding St

/-! ## the end of a law whose defs make lambdas; exceptions -/
section
variable {P : Program} {w : World} {K : PySem.W.Frag} {mg mb : Str → Option Value} {cl : Cl} {CX : CXT} {k : Nat} {fa a : Addr} {fd : FuncData} {x : Str} {g : FL} {st : Shared} {vs : List Value} {ns : List Int} {cs : List (Addr × Addr)}
theorem law_endT (KX : K.In st.heap) (hns : st.heap.Ns mainGlobals mg) (hb : st.heap.Ns builtinsNs mb) (hbb : ∀ y : Str, y ≠ "__name__" → mb y = bootBuiltins y) (hlim : st.heap.NoLimit) (hgn : st.gens = #[])
    (hT : ∀ p ∈ cs, st.heap.get? p.2 = some { cls := .none, data := .fields #[] }) (nT : ∀ p ∈ cs, K.lookup p.2 = none) (C : ∀ p ∈ cs, PySem.W.CodeHd st.heap p.1 p.2)
    (hbm : ∃ (bm : Addr) (ob : Obj), mg "__builtins__" = some (.ref bm) ∧ bm ≠ builtinsNs ∧ st.heap.get? bm = some ob ∧ ob.cls = .type "module" ∧ ob.dict = some builtinsNs ∧ ob.data = .plain)
    (htb : ∀ q ∈ cl.tb, q.1 ∈ cs.map (·.2)) (hpre : cl.pre = [] ∧ cl.cap = [] ∧ cl.co = [])
    (ha : st.heap.get? a = some { cls := .type "list", data := .seq vs.toArray }) (hi : IntsAre vs ns) (hl : ns.length ≤ sizeLine) (hr : Room k callerA)
    (F : ∀ bs : Heap, K.In bs → bs.Ns mainGlobals mg → (∀ p ∈ cs, TabB bs mg p.1 p.2) → FnG P w K mg bs cl CX k fa fd [x] g) (hbind : ∀ (t : Shared) (u : Value), BindsTo t fd ⟨[u], []⟩ [(x, u)])
    (hg : ∃ S', g [.ptr 0] [.rol (ns.map D.int)] = .ok (.bl true) S') (hCX : ∀ H e t, CX [] H st (fun _ _ _ => False) e t → False) :
    codeAny (model P w) callerA (.call (.ref fa) ⟨[.ref a], []⟩) (fun r t => r = .ok (.ret (.bool true)) ∧ OldK st.heap t.heap ∧ t.os = st.os ∧ AllBare t.gens) st := by
  obtain ⟨H0, hok0, hat0, hfz0, hro0, hkk0⟩ := alone_of (P := P) (w := w) KX ha hi hl
  obtain ⟨S1, eg⟩ := hg
  have isT : ∀ b : Addr, b ∈ cs.map (·.2) → st.heap.get? b = some { cls := .none, data := .fields #[] } := fun b hb => by
    obtain ⟨p, hp, e⟩ := List.mem_map.mp hb
    rw [← e]
    exact hT p hp
  have aT : a ∉ cs.map (·.2) := fun z => by
    have q := isT a z
    rw [ha] at q
    exact nomatch (show Data.seq vs.toArray _ = Data.fields #[] from congrArg Obj.data (Option.some.inj q))
  have memT : ∀ p ∈ cs, p.2 ∈ cs.map (·.2) := fun p hp => List.mem_map.mpr ⟨p, hp, rfl⟩
  obtain ⟨H, hH⟩ : ∃ H : Hp, H = fun b => if b ∈ cs.map (·.2) then some (.tbl #[]) else H0 b := ⟨_, rfl⟩
  have Ht : ∀ b, b ∈ cs.map (·.2) → H b = some (.tbl #[]) := fun b hb => by rw [hH]; exact if_pos hb
  have Hn : ∀ b, b ∉ cs.map (·.2) → H b = H0 b := fun b hb => by rw [hH]; exact if_neg hb
  have hok : HOk P w H st.heap := fun b u z => by
    by_cases hb : b ∈ cs.map (·.2)
    · rw [Ht b hb] at z
      cases z
      exact isT b hb
    · rw [Hn b hb] at z
      refine (hok0 b u z).stay (fun c v hc q => q) (fun c q => ?_) (fun c xs q => ?_)
      · rcases hfz0 c with z | ⟨ob, xs, z⟩ <;> (rw [z] at q; cases q)
      · rcases hfz0 c with z | ⟨ob, ys, z⟩ <;> (rw [z] at q; cases q)
  have noH : ∀ {b : Addr} {ob : Obj}, st.heap.get? b = some ob → (∀ vs n, ob.data ≠ .seq vs n) → ob.data ≠ .fields #[] → H b = none := fun {b ob} e h1 h2 => by
    by_cases hb : b ∈ cs.map (·.2)
    · rw [isT b hb] at e
      cases e
      exact (h2 rfl).elim
    · rw [Hn b hb]
      refine Classical.byContradiction fun z => ?_
      rw [hat0 b z, ha] at e
      cases e
      exact h1 _ _ rfl
  have ns2 : ∀ {b : Addr} {m : Str → Option Value}, st.heap.Ns b m → (hidT st.heap H).Ns b m := fun ⟨ob, es, ep, e, d, r⟩ => ⟨ob, es, ep, hidT_get e (noH e (fun _ _ z => by rw [d] at z; cases z) (fun z => by rw [d] at z; cases z)), d, r⟩
  have kIn : K.In (hidT st.heap H) := fun b ob e => by
    refine hidT_get (KX b ob e) ?_
    by_cases hb : b ∈ cs.map (·.2)
    · obtain ⟨p, hp, ep⟩ := List.mem_map.mp hb
      rw [← ep, nT p hp] at e
      cases e
    · rw [Hn b hb]
      refine Classical.byContradiction fun z => ?_
      have hz := hat0 b z
      subst hz
      rw [hkk0 z] at e
      cases e
  obtain ⟨mc, l1, l2⟩ := hlim
  have M : Mod K mg (hidT st.heap H) := ⟨kIn, ns2 hns, ⟨mb, ns2 hb, hbb⟩, ⟨mc, ns2 l1, l2⟩⟩
  have TB : ∀ p ∈ cs, TabB (hidT st.heap H) mg p.1 p.2 := fun p hp => by
    have hTp := hT p hp
    refine ⟨?_, ?_, fun z => ?_⟩
    · obtain ⟨o, us, file, tf, flags, tg, inF, text, tt, e1, r1, r2, r3, r4, r5, r6, r7, r8, hne⟩ := C p hp
      refine ⟨o, us, file, tf, flags, tg, inF, text, tt, hidT_get e1 (noH e1 (fun vs n z => ?_) fun z => ?_), r1, r2, r3, r4, r5, r6, r7, r8, hne⟩
      · rw [r2] at z
        cases z
      · rw [r2] at z
        cases z
        simp at r3
    · obtain ⟨bm, ob, b1, b2, b3, b4, b5, b6⟩ := hbm
      have nG : bm ≠ mainGlobals := fun q => by
        obtain ⟨o, es, ep, e, hd, _⟩ := hns
        rw [q, e] at b3
        cases b3
        rw [hd] at b6
        cases b6
      have nP : bm ≠ p.2 := fun q => by
        rw [q, hTp] at b3
        cases b3
        cases b6
      refine ⟨bm, ob, b1, b2, nG, nP, hidT_get b3 (noH b3 (fun vs n z => ?_) fun z => ?_), b4, b5, b6⟩
      · rw [b6] at z
        cases z
      · rw [b6] at z
        cases z
    · obtain ⟨o, es, ep, e, hd, _⟩ := hns
      rw [z, hTp] at e
      cases e
      cases hd
  have e0 : Env0 P w K mg (hidT st.heap H) callerA [] st H := ⟨rfl, M, fun b ob e => of_hidT e, Nat.le_of_eq (hidT_size _ _), trivial, (fun b z => absurd (show b ∈ ([] : List Addr) from z) List.not_mem_nil), hok, .of_eq hgn⟩
  have rs : ∀ l : List Int, RelDs K [a] H (l.map D.int) (l.map V.int) := fun l => by
    induction l with
    | nil => exact .nil
    | cons i l ih => exact .cons (.int i) ih
  have hro : RoL K H a (ns.map V.int) := by
    rcases hro0 with ⟨o, h⟩ | h
    · exact .inl ⟨o, by rw [Hn a aT]; exact h⟩
    · exact .inr h
  have A : Abs K cl [a] [.rol (ns.map D.int)] H := by
    refine ⟨rfl, fun i j b o u ei ej ai aj ri rj => ?_, fun n o e => ?_, fun p hp => ⟨#[], Ht _ (htb p hp), trivial, fun pos cv z => ?_⟩, fun p hp => by (rw [hpre.1] at hp; cases hp), fun p hp => by (rw [hpre.2.1] at hp; cases hp), fun p hp => by (rw [hpre.2.2] at hp; cases hp)⟩
    · have hi0 : i = 0 := by have := (List.getElem?_eq_some_iff.mp ai).1; simpa using this
      have hj0 : j = 0 := by have := (List.getElem?_eq_some_iff.mp aj).1; simpa using this
      rw [hi0, hj0]
    · have hn0 : n = 0 := by have := (List.getElem?_eq_some_iff.mp e).1; simpa using this
      subst hn0
      cases e
      exact ⟨a, rfl, .rol hro (rs ns)⟩
    · have z' : codeAmong pos [] = some cv := z
      simp [codeAmong] at z'
  refine codeAny_mono ((F _ kIn (ns2 hns) TB).run callerA [] st H ⟨[.ref a], []⟩ [.ref a] [.ref a] [a] [.rol (ns.map D.int)] [.ptr 0] (fun v _ => v = .bl true) (fun _ _ _ => False) hr rfl e0 (hbind st (.ref a)) (.cons rfl .nil) rfl A (.cons (.ptr rfl) .nil) (by rw [eg]; trivial) fun d S' io' H' v e A' g' rd => ?_) fun r t h => ?_
  · rw [eg] at e
    cases e
    cases rd
    rfl
  · cases r with
    | error e => exact (hCX H e t h).elim
    | ok fl =>
      cases fl with
      | next => exact False.elim h
      | brk => exact False.elim h
      | cont => exact False.elim h
      | ret u =>
        obtain ⟨v, H', os, bare, un, hok', r', q⟩ := h
        have q' : v = .bl true := q
        subst q'
        have eu : u = Value.bool true := r'
        subst eu
        have key : ∀ b o, b ∉ cs.map (·.2) → st.heap.get? b = some o → t.heap.get? b = some o := fun b ob nb e => by
          rcases hfz0 b with z | ⟨ob', xs, z⟩
          · exact un.keep b ob e ((Hn b nb).trans z) (fun z => absurd (show b ∈ ([] : List Addr) from z) List.not_mem_nil) (by simp)
          · obtain ⟨q1, _⟩ := hok0 b _ z
            obtain ⟨q2, _⟩ := hok' b _ (un.frzs b ob' _ ((Hn b nb).trans z))
            rw [e] at q1
            cases q1
            exact q2
        have grown : ∀ p ∈ cs, ∃ more : Array Value, t.heap.get? p.2 = some { cls := .none, data := .fields more } := fun p hp => by
          obtain ⟨more, z⟩ := un.tbls p.2 #[] (Ht _ (memT p hp))
          exact ⟨_, hok' p.2 _ z⟩
        refine ⟨rfl, ⟨fun b o e => ?_, fun b o e => ?_⟩, os, bare⟩
        · by_cases hb : b ∈ cs.map (·.2)
          · obtain ⟨p, hp, ep⟩ := List.mem_map.mp hb
            obtain ⟨more, hm⟩ := grown p hp
            rw [← ep] at e ⊢
            rw [hT p hp] at e
            cases e
            exact .inr (.inl ⟨((C p hp).tab (hT p hp)).isCodeTable, rfl, #[], more, rfl, by rw [Array.empty_append]; exact hm⟩)
          · exact .inl (key b o hb e)
        · by_cases hb : b ∈ cs.map (·.2)
          · obtain ⟨p, hp, ep⟩ := List.mem_map.mp hb
            obtain ⟨more, hm⟩ := grown p hp
            rw [← ep]
            exact ⟨_, hm⟩
          · exact ⟨o, key b o hb e⟩
end
theorem walk_gT {l : PySem.W.OpenLaw} {n k : Nat} {q : Program} {loose : List Str} {XP : (Str → Option Value) → Heap → Prop} {YP : World → Heap → Prop} {d : DefRec} {K : Params → PySem.W.Frag} {CX : World → CXT} {x : Str} {g : FL}
    (hn : l.most = some n) (hn2 : n ≤ sizeLine) (hdf : d.params.defaults = []) (hr : Room k callerA) (hY : ∀ (w : World) (h : Heap), YP w h → (K w.params).In h)
    (F : ∀ (w : World) (mg : Str → Option Value) (fa : Addr) (h : Heap), YP w h → (K w.params).In h → h.Ns mainGlobals mg → mg d.name = some (.ref fa) →
      ∃ (fd : FuncData) (cl : Cl) (cs : List (Addr × Addr)), (∀ p ∈ cs, h.get? p.2 = some { cls := .none, data := .fields #[] } ∧ (K w.params).lookup p.2 = none ∧ PySem.W.CodeHd h p.1 p.2) ∧ (∀ z ∈ cl.tb, z.1 ∈ cs.map (·.2)) ∧ (cl.pre = [] ∧ cl.cap = [] ∧ cl.co = []) ∧
        (∀ (t : Shared) (u : Value), BindsTo t fd ⟨[u], []⟩ [(x, u)]) ∧ ∀ bs : Heap, (K w.params).In bs → bs.Ns mainGlobals mg → (∀ p ∈ cs, TabB bs mg p.1 p.2) → FnG l.prog w (K w.params) mg bs cl (CX w) k fa fd [x] g)
    (hg : ∀ ns : List Int, ns.length ≤ n → ∃ S', g [.ptr 0] [.rol (ns.map D.int)] = .ok (.bl true) S') (hCX : ∀ (w : World) (H : Hp) (s : Shared) (e : Value) (t : Shared), CX w [] H s (fun _ _ _ => False) e t → False) :
    PySem.W.WalkO q loose XP YP l.row.toRowW d [] (fun f vs => PySem.call f vs) := by
  refine Att.attach_callB hn hdf fun w s0 st mg mb fa o pm cd doc a vs ns G Y ho hd hcd hmg hobj hints hlen hbits hgn => ?_
  have KX := hY w _ Y
  obtain ⟨fd, cl, cs, hcs, htb, hpre, hb, hF⟩ := F w mg fa _ Y KX G.T.g hmg
  exact law_endT (cs := cs) KX G.T.g G.T.b G.T.builtins G.T.nolimit hgn (fun p hp => (hcs p hp).1) (fun p hp => (hcs p hp).2.1) (fun p hp => (hcs p hp).2.2) G.T.bmain htb hpre hobj hints (Nat.le_trans hlen hn2) hr hF hb (hg ns hlen) fun H e t => hCX w H st e t
/-- a def of the text, its code at c -/
structure FunC (K : PySem.W.Frag) (x qual : Str) (st : Stmt) (f : Addr) (fd : FuncData) (c : Addr) : Prop where
  ex : ∃ (oc : Value) (od : Option Addr) (kV doc pm : Value) (an : Option Addr) (ct : Value) (osl : Array (Option Value)), fd = PySem.W.fnOf x qual (defArgs st) (defBody st) (defScope st) .none kV doc pm an (.ref c) ct ∧ K.lookup f = some ⟨oc, od, .func fd, osl⟩ ∧ PySem.W.codeIn K (.ref c) qual = true
end MP
/-! MP70 -/
set_option Elab.async false
set_option autoImplicit false
set_option linter.all false
set_option maxRecDepth 100000
namespace MP
open PySem PySem.Spec L2
open PyProof.Rows hiding St
section
variable {P : Program} {w : World} {K : PySem.W.Frag} {mg : Str → Option Value} {base : Heap} {cl : Cl} {CX : CXT}
/-- a def of the text by its body; its code's place is known -/
theorem okC {x qual : Str} {st : Stmt} {f c : Addr} {fd : FuncData} {N ps : List Str} {k : Nat} {m : MS} (F : FunC K x qual st f fd c) (S : FnScope N ps (defScope st))
    (hb : ∀ (A : Around) (outer : List Env) (s : Shared) (H : Hp) (E : XK), Room k (A.deeper (envOfC qual (defScope st) s.heap.objs.size f (.ref c))) → (A.deeper (envOfC qual (defScope st) s.heap.objs.size f (.ref c))).guards = some [] →
      SsE (cxOf CX P w K mg base N qual (defScope st) f (.ref c) A outer s H E) cl (fun c d _ H' => E c d H') (defBody st) m) : FnG P w K mg base cl CX (k + 1) f fd ps (callS N.length m) := by
  obtain ⟨oc, od, kV, doc, pm, an, ct, osl, rfl, lk, hcd⟩ := F.ex
  exact fnG_of lk hcd S fun A outer s H E hr hg => hb A outer s H E hr hg
end

end MP
/-! MP71 -/
set_option Elab.async false
set_option autoImplicit false
set_option linter.all false
set_option maxRecDepth 100000
namespace MP
open PySem PySem.Spec L2
open PyProof.Rows hiding St
/-- sorted(x), x a list whose first item may be the empty tuple -/
def sortedT : FL := fun xs S => match xs with
  | [.ptr n] => match listAt S n with
    | some ds => if srtOkT ds = true then newL (srt ds) S else .bad
    | none => .bad
  | _ => .bad
section
variable {X : Cx} {cl : Cl} {W : WX}
end
end MP
/-! MP72 -/
set_option Elab.async false
set_option autoImplicit false
set_option linter.all false
set_option maxRecDepth 100000
set_option maxHeartbeats 1000000
namespace MP
open PySem PySem.Spec L2
open PyProof.Rows hiding St

/-! ## try .. except x as n -/
/-- the name of the clause is gone -/
def offS (i : Nat) : Rs Fl → Rs Fl
  | .ok (.nx ρ) S => .ok (.nx (ρ.set i none)) S
  | .ok (.brk ρ) S => .ok (.brk (ρ.set i none)) S
  | .ok (.cnt ρ) S => .ok (.cnt (ρ.set i none)) S
  | .ok (.ret d) S => .ok (.ret d) S
  | _ => .bad
def tryK (sub : Str → Bool) (i : Nat) (ms : MS) : Rs Fl → Rs Fl
  | .ok (.exn x ρ) S => if sub x.cls = true then offS i (ms (ρ.set i (some (.ptr S.length))) (S ++ [.exc x.cls x.fs])) else .ok (.exn x ρ) S
  | r => r
def mTry (sub : Str → Bool) (i : Nat) (mb ms : MS) : MS := fun ρ S => tryK sub i ms (mb ρ S)
section
variable {X : Cx} {pins : List (Addr × Obj)} {σ : L2.St} {H : Hp} {s sI : Shared}
/-- the caught exception is known from now on -/
theorem land_exc {B : Heap} {a C : Addr} {d : Option Addr} {l : List Env} {h4 : Heap} (J : L2.Inv X pins σ H sI) (nb : ∀ b o, sI.heap.get? b = some o → b ∉ frs X.stack → B.get? b = some o) (fl : HandSPX.FlyingZ B l a (Zc (.ref C) d) h4)
    (up : sI.heap.UpToSlots h4) (na : H a = none) (nfr : a ∉ frs X.stack) (os : s.os = sI.os) (ag : AllBare s.gens) : L2.Inv X pins σ (upd H a (exV a C d)) { s with heap := h4 } := by
  have nI : sI.heap.get? a = none := by
    cases e : sI.heap.get? a with
    | none => rfl
    | some o =>
      have z := nb a o e nfr
      rw [fl.2.1] at z
      cases z
  obtain ⟨G, g1, g2⟩ := restrict h4 fun b => decide (b ≠ a)
  have gk : ∀ b, b ≠ a → G.get? b = h4.get? b := fun b hb => g1 b (decide_eq_true hb)
  have ga : G.get? a = none := g2 a (by simp)
  have neI : ∀ b o, sI.heap.get? b = some o → b ≠ a := fun b o e z => by rw [z, nI] at e; cases e
  have JG : L2.Inv X pins σ H { s with heap := G } := by
    refine J.landed nb (s' := { s with heap := G }) (fun b o e => ?_) (fun b o e hn => ?_) os ag
    · have hb : b ≠ a := fun z => by rw [z, fl.2.1] at e; cases e
      show G.get? b = some o
      rw [gk b hb]
      exact fl.1 b o e
    · obtain ⟨sl, e2⟩ := up b o e hn
      exact ⟨sl, (gk b (neI b o e)).trans e2⟩
  obtain ⟨oe, vs, T, oT, ts, he, hz, hd, h1, _⟩ := fl.2.2.2
  refine JG.laidN (h' := h4) (t' := s.toks) (fun b o e => ?_) ga na ⟨⟨oe, vs, he, hz, hd, T, h1⟩, ⟨oe, he⟩, fun p q ⟨o, v, q1, q2, q3⟩ k => ⟨o, v, k o q1, q2, q3⟩⟩
  have hb : b ≠ a := fun z => by
    have e' : G.get? b = some o := e
    rw [z, ga] at e'
    cases e'
  exact (gk b hb).symm.trans e
theorem toSuite (I : L2.Inv X pins σ H s) (a : Addr) : L2.Inv (X.suite a (X.pn ++ pins)) [] σ H s :=
  ⟨I.ok.suite _ _, I.os, I.bare, I.base, I.loc, I.cell, I.free, I.freeC, fun p hp => I.pin p (by rw [List.append_nil] at hp; exact hp), I.hok, I.len⟩
theorem ofSuite {a : Addr} {pn' : List (Addr × Obj)} (I : L2.Inv (X.suite a (X.pn ++ pins)) pn' σ H s) (ok : X.Ok) : L2.Inv X pins σ H s :=
  ⟨ok, I.os, I.bare, I.base, I.loc, I.cell, I.free, I.freeC, fun p hp => I.pin p (List.mem_append_left _ hp), I.hok, I.len⟩
end
section
variable {X : Cx} {cl : Cl} {W : WX} {x n : Str} {c : Value} {i : Nat} {sub : Str → Bool} {body suite : List Stmt} {b₀ : Stmt} {np pos pos' : Pos} {mb ms : MS}
theorem s_try (hst : X.stack = X.env :: X.outer) (hfm : X.env.frame = some X.env.locals) (hN : X.N.Nodup) (hi : X.N[i]? = some n) (hln : X.env.kindOf n = some .local) (hc : Names X x c) (tk : Takes X W)
    (hsub : ∀ e E, cl.er e = some E → PySem.W.exmOne X.K (.ref E) c = some (sub e))
    (hb : ∀ (W1 : WX) (pn : List (Addr × Obj)) (xe : Value → Shared → Prop), Takes (X.tr pn xe) W1 → PassesOwn (model X.prog X.w) X.A X.env xe → SsE (X.tr pn xe) cl W1 body mb)
    (hsu : ∀ (a : Addr) (pn : List (Addr × Obj)), SsE (X.suite a pn) cl (fun _ _ _ _ => False) (b₀ :: suite) ms) :
    StE X cl W (.Try body [.ExceptHandler (some (.Name x np)) (some n) (b₀ :: suite) pos'] [] [] pos) (mTry sub i mb ms) := by
  refine ⟨fun pins s σ H D I hD => ?_⟩
  obtain ⟨io, ρ, S, A, R, G, k⟩ := hD
  have ok := I.ok
  have hfr : X.A.frames = some (X.env :: X.outer) := ok.frames.trans (by rw [hst])
  have hloc : Loc X.env.scope n := Or.inl hln
  have em : ∀ r, mb ρ S = r → mTry sub i mb ms ρ S = tryK sub i ms r := fun r e => by unfold mTry; rw [e]
  let W1 : WX := fun cls d σ' H' => ∃ y ρ1 S1 io1, mb ρ S = .ok (.exn y ρ1) S1 ∧ Abs X.K cl io1 S1 H' ∧ Grow X.K io H io1 H' ∧ RelRho X.K io1 H' ρ1 σ' ∧ RelX X.K cl io1 H' y cls d
  have G1 : GoodS W1 X.K cl io H (mb ρ S) := by
    cases e : mb ρ S with
    | ok fl S1 =>
      cases fl with
      | exn y ρ1 => exact fun io' H' c d σ' A' g' r rx => ⟨y, ρ1, S1, io', e, A', g', r, rx⟩
      | nx _ => trivial
      | brk _ => trivial
      | cnt _ => trivial
      | ret _ => trivial
    | exn y S1 => rw [em _ e] at G; exact G
    | bad => rw [em _ e] at G; exact G
  refine wpAny_Try_except (wpAny_mono ((hb W1 (X.pn ++ pins) (fun u s₁ => wpAny (model X.prog X.w) X.A (noteFrame u X.env) (fun _ s₂ => wpAny (model X.prog X.w) X.A (setFlight u none) (fun _ s₃ =>
    wpAny (model X.prog X.w) X.A (handleBy u X.env [.ExceptHandler (some (.Name x np)) (some n) (b₀ :: suite) pos']) (SP X pins D) X.xe s₃) X.xe s₂) X.xe s₁) (fun u s' xx => ?_) PassesOwn.looking).run [] s σ H D (I.toTry _) ⟨io, ρ, S, A, R, G1, fun fl S' io' H' σ' e A' g' => ?_⟩) (fun f s1 hsp => ?_) fun e s1 he => he)
  · -- an exception of the body
    obtain ⟨a, B, sI, pins', σ', H', cls, d, rfl, J', nb, up, sky, na, os, ag, y, ρ1, S1, io1, emb, A1, g1, R1, rx⟩ := xx
    have J : L2.Inv X pins σ' H' sI := J'.ofTry ok
    have sky' : Sky B (X.env :: X.outer) a (Zc cls d) X.env.locals s'.heap := by rw [← hst]; exact sky
    obtain ⟨E, hE, hcls, hfs⟩ := id rx
    subst hcls
    have hm := hsub _ _ hE
    show wpAny (model X.prog X.w) X.A (noteFrame (.ref a) X.env) _ _ _
    refine Sky.land Zc.steady hfr hfm sky' fun h3 fl3 up3 => ?_
    have J3 : L2.Inv X pins σ' H' { s' with heap := h3 } := J.landed nb fl3.1 (up.trans up3) os ag
    have notFr : ∀ {h : Heap}, HandSPX.FlyingZ B (X.env :: X.outer) a (Zc (.ref E) d) h → a ∉ frs (X.env :: X.outer) := fun {h} ff hmm => by
      obtain ⟨oe, vs, _, _, _, he, _, hd, _⟩ := ff.2.2.2
      obtain ⟨_, o', e', hnf⟩ := ff.2.2.1.mem hmm
      rw [he] at e'; cases e'
      exact hnf _ hd
    have nfr := notFr fl3
    have nfr' : a ∉ frs X.stack := by rw [hst]; exact nfr
    refine wpAny_handleBy_cons (codeAny_handlers_test ?_) (by intro q; cases q)
    have LT : PySem.W.Looks (model X.prog X.w) h3 (typeOf (.ref a)) (.ref E) := fun A Q E' s k q => by
      obtain ⟨oe, vs, _, _, _, he, hz, hd, _⟩ := fl3.2.2.2
      exact wpAny_typeOf_ref (k _ _ he) (by rw [hz.1]; exact q)
    have LM := PySem.W.exm_one (M := model X.prog X.w) (J3.kIn) LT hm
    have L3 : L2.Inv X pins σ' (upd H' a (exV a E d)) { s' with heap := h3 } := land_exc (s := s') J nb fl3 (up.trans up3) na nfr' os ag
    have test : ∀ {Q : Value → Shared → Prop} {E' : Value → Shared → Prop}, Q c { s' with heap := h3 } → wpAny (model X.prog X.w) (X.A.mark (some (.ref a))) (eval (.Name x np) X.env) Q E' { s' with heap := h3 } := fun {Q E'} q => by
      obtain ⟨hg, hdbg, hm | ⟨hm, hv, hnn⟩⟩ := hc
      · exact ld_glob (X := X.suite a (X.pn ++ pins)) (toSuite L3 a) hg hm q hdbg
      · exact ld_blt (X := X.suite a (X.pn ++ pins)) (toSuite L3 a) hg hm hv q hnn hdbg
    refine test (LM.here ?_)
    have er : mTry sub i mb ms ρ S = tryK sub i ms (.ok (.exn y ρ1) S1) := em _ emb
    cases eb : sub y.cls with
    | true =>
      have er2 : mTry sub i mb ms ρ S = offS i (ms (ρ1.set i (some (.ptr S1.length))) (S1 ++ [.exc y.cls y.fs])) := by rw [er]; simp only [tryK, eb, if_true]
      refine codeAny_handlers_suite_as (HandSPX.lands_againZ fl3 fun h4 fl4 up4 => ?_)
      have L4 : L2.Inv X pins σ' (upd H' a (exV a E d)) { s' with heap := h4 } := land_exc (s := s') J nb fl4 ((up.trans up3).trans up4) na nfr' os ag
      have A4 : Abs X.K cl (io1 ++ [a]) (S1 ++ [.exc y.cls y.fs]) (upd H' a (exV a E d)) := A1.new na (.exc hE upd_same (XFs.mono (gr0_new na) hfs))
      have g4 : Grow X.K io1 H' (io1 ++ [a]) (upd H' a (exV a E d)) := grow_new na
      have R4 : RelRho X.K (io1 ++ [a]) (upd H' a (exV a E d)) (ρ1.set i (some (.ptr S1.length))) (σ'.set i (some (.ref a))) := RelRho.set (.ptr (by rw [← A1.len]; simp)) i (R1.mono g4)
      refine store_ok (X := X.suite a (X.pn ++ pins)) (v := .ref a) (toSuite L4 a) hN hi hloc rfl (fun s5 S5 => ?_) (.inr hln)
      have Gs : GoodS (fun _ _ _ _ => False) X.K cl (io1 ++ [a]) (upd H' a (exV a E d)) (ms (ρ1.set i (some (.ptr S1.length))) (S1 ++ [.exc y.cls y.fs])) := by
        rw [er2] at G
        cases e : ms (ρ1.set i (some (.ptr S1.length))) (S1 ++ [.exc y.cls y.fs]) with
        | ok fl S2 =>
          rw [e] at G
          cases fl with
          | exn _ _ => exact False.elim G
          | nx _ => trivial
          | brk _ => trivial
          | cnt _ => trivial
          | ret _ => trivial
        | exn _ _ => rw [e] at G; exact False.elim G
        | bad => rw [e] at G; exact False.elim G
      refine wpAny_mono ((hsu a (X.pn ++ pins)).run [] s5 _ _ ⟨fun σ2 H2 => D.nx (σ2.set i none) H2, D.rt, fun σ2 H2 => D.bk (σ2.set i none) H2, fun σ2 H2 => D.ct (σ2.set i none) H2⟩ S5 ⟨_, _, _, A4, R4, Gs, fun fl S2 io2 H2 σ2 e2 A2 g2 => ?_⟩) (fun f s6 hsp => ?_) (fun _ _ z => False.elim z)
      · have gg := (g1.trans g4).trans g2
        have er3 : mTry sub i mb ms ρ S = offS i (.ok fl S2) := by rw [er2, e2]
        cases fl with
        | nx ρ2 => exact fun r => k (.nx (ρ2.set i none)) S2 io2 H2 (σ2.set i none) er3 A2 gg (RelRho.setN i r)
        | brk ρ2 => exact fun r => k (.brk (ρ2.set i none)) S2 io2 H2 (σ2.set i none) er3 A2 gg (RelRho.setN i r)
        | cnt ρ2 => exact fun r => k (.cnt (ρ2.set i none)) S2 io2 H2 (σ2.set i none) er3 A2 gg (RelRho.setN i r)
        | ret dd => exact fun v r => k (.ret dd) S2 io2 H2 σ2 er3 A2 gg v r
        | exn _ _ => trivial
      · have fin : ∀ {σ6 : L2.St} {H6 : Hp} {Q : Shared → Prop}, L2.Inv (X.suite a (X.pn ++ pins)) [] σ6 H6 s6 → (∀ s7, L2.Inv X pins (σ6.set i none) H6 s7 → Q s7) →
            wpAny (model X.prog X.w) X.A (do bindName X.env n .none; unbindBehindTheSuite X.env n pos') (fun _ s7 => Q s7) X.xe s6 := fun {σ6 H6 Q} S6 hq => gone_ok (ofSuite S6 ok) hN hi hln hq
        cases f with
        | next => obtain ⟨σ6, H6, S6, q6⟩ := hsp; exact fin S6 fun s7 J7 => ⟨_, _, J7, q6⟩
        | brk => obtain ⟨σ6, H6, S6, q6⟩ := hsp; exact fin S6 fun s7 J7 => ⟨_, _, J7, q6⟩
        | cont => obtain ⟨σ6, H6, S6, q6⟩ := hsp; exact fin S6 fun s7 J7 => ⟨_, _, J7, q6⟩
        | ret u => obtain ⟨v6, σ6, H6, S6, r6, q6⟩ := hsp; exact fin S6 fun s7 J7 => ⟨_, _, _, J7, r6, q6⟩
    | false =>
      have er2 : mTry sub i mb ms ρ S = .ok (.exn y ρ1) S1 := by rw [er]; simp only [tryK, eb, Bool.false_eq_true, if_false]
      have hw : W (.ref E) d σ' H' := by
        rw [er2] at G
        exact G io1 H' (.ref E) d σ' A1 g1 R1 rx
      show wpAny _ X.A (handleBy (.ref a) X.env []) _ _ _
      refine wpAny_handleBy_nil ?_
      obtain ⟨k1, k2, k3, oe, vs, T, oT, ts', he, hz, hd, h1, hr⟩ := id fl3
      unfold PySem.passOn
      refine wpAny_bind (wpAny_field he hd h1 ?_)
      rw [if_neg (show ¬ ((Value.ref T == Value.none) = true) from by simp)]
      have fin : wpAny (model X.prog X.w) X.A (setFlight (.ref a) X.env.frame) (fun _ s4 => wpAny (model X.prog X.w) X.A (throw (.ref a) : Sem Flow) (SP X pins D) X.xe s4) X.xe { s' with heap := h3 } := by
        rw [hfm]
        refine HandSPX.setFlight_upZ fl3 fun h4 hh4 up4 => wpAny_throw (tk _ _ ?_)
        exact ⟨a, B, sI, pins, σ', H', .ref E, d, rfl, J, nb, (up.trans up3).trans up4, .inr (.inr (by rw [hst]; exact hh4)), na, os, ag, hw⟩
      first
        | exact wpAny_bind (wpAny_pure (wpAny_bind fin))
        | exact wpAny_bind fin
  · -- no exception
    have er := em _ e
    cases fl with
    | nx ρ2 => exact k _ S' io' H' σ' er A' g'
    | brk ρ2 => exact k _ S' io' H' σ' er A' g'
    | cnt ρ2 => exact k _ S' io' H' σ' er A' g'
    | ret dd => exact k _ S' io' H' σ' er A' g'
    | exn _ _ => trivial
  · cases f with
    | next => obtain ⟨σ', H', J', q⟩ := hsp; exact wpAny_execs_nil ⟨σ', H', J'.ofTry ok, q⟩
    | brk => obtain ⟨σ', H', J', q⟩ := hsp; exact ⟨σ', H', J'.ofTry ok, q⟩
    | cont => obtain ⟨σ', H', J', q⟩ := hsp; exact ⟨σ', H', J'.ofTry ok, q⟩
    | ret u => obtain ⟨v, σ', H', J', r, q⟩ := hsp; exact ⟨v, σ', H', J'.ofTry ok, r, q⟩
/-- an exception of a callee, too -/
theorem passW1 (tk : Takes X W) : PassW (L2.CX X.prog X.w) X W := fun _ _ _ _ e s' I c => tk e s' (XE.of_call I (fun _ _ _ h => h) c)
end
end MP
/-! MP73 -/
set_option Elab.async false
set_option autoImplicit false
set_option linter.all false
set_option maxRecDepth 100000
set_option maxHeartbeats 1000000
namespace MP
open PySem PySem.Spec L2
open PyProof.Rows hiding St

/-! ## an error class whose __init__ is  super().__init__("text" + repr(f)); self.f = f -/
def errBody (f msg : Str) (k : Nat) (p0 p1 p2 p3 p4 p5 p6 p7 p8 p9 q0 q1 q2 q3 : Pos) : List Stmt :=
  [.Expr (.Call (.Attribute (.Call (.Name "super" p0) [] [] p1) "__init__" p2) [.BinOp (.Constant (.str msg) k p3) .Add (.Call (.Name "repr" p4) [.Name f p5] [] p6) p7] [] p8) p9,
   .Assign [.Attribute (.Name "self" q0) f q1] (.Name f q2) q3]
def ErrEv (f msg : Str) (k : Nat) (p0 p1 p2 p3 p4 p5 p6 p7 p8 : Pos) : Prop := ∀ env : Env, ∃ pl : Sem Bool, eval (.Call (.Attribute (.Call (.Name "super" p0) [] [] p1) "__init__" p2) [.BinOp (.Constant (.str msg) k p3) .Add (.Call (.Name "repr" p4) [.Name f p5] [] p6) p7] [] p8) env = (do
      let ov ← attributeBase (.Call (.Name "super" p0) [] [] p1) "__init__" env (eval (.Call (.Name "super" p0) [] [] p1) env)
      standAt p2.atName
      let (g, first) ← holding [ov] (getMethod ov "__init__" pl)
      callWith p8 g first (backTo p8 (starEach [.BinOp (.Constant (.str msg) k p3) .Add (.Call (.Name "repr" p4) [.Name f p5] [] p6) p7] env)) [])
/-- a class of the package's errors -/
structure ErrC (K : PySem.W.Frag) (C : Addr) : Prop where
  oex : OexC K C
  mroC : PySem.W.mroIn K C (.ref C) = some true
/-- .. with such an __init__ -/
structure ErrI (P : Program) (K : PySem.W.Frag) (C fI : Addr) (f : Str) (st : Stmt) : Prop extends ErrC K C where
  fno : PySem.W.findIn K (.ref C) f = some none
  iC : PySem.W.findIn K (.ref C) "__init__" = some (some (.ref fI))
  tI : PySem.W.typeIn K (.ref fI) = some (.type "function")
  sup : PySem.W.ks_superIn K C C "__init__" = some (some (.builtin "ValueError.__init__"))
  subV : PySem.W.subIn K (.ref C) (.type "ValueError") = some true
  stat : PySem.W.nsIn K cStatics "thirdparty.any" = some none
  htop : (P.main.scope.names.lookup ("super" : Str)).isSome = false
  body : ∃ msg k p0 p1 p2 p3 p4 p5 p6 p7 p8 p9 q0 q1 q2 q3, defBody st = errBody f msg k p0 p1 p2 p3 p4 p5 p6 p7 p8 p9 q0 q1 q2 q3 ∧ msg.length ≤ 100 ∧ ErrEv f msg k p0 p1 p2 p3 p4 p5 p6 p7 p8 ∧ ∀ env : Env, swapsWith (.Name f q2) (some (.Attribute (.Name "self" q0) f q1)) q3.line env = pure false
  kind : (defScope st).kind = .function
  co : (defScope st).isCoroutine = false
  gen : (defScope st).isGenerator = false
  nocell : ∀ x ∈ (defScope st).names, x.2 ≠ .cell
  kSup : (defScope st).names.lookup ("super" : Str) = some .globalImplicit
  kRep : (defScope st).names.lookup ("repr" : Str) = some .globalImplicit
  kCls : (defScope st).names.lookup ("__class__" : Str) = some .free
  kSelf : (defScope st).names.lookup ("self" : Str) = some .local
  kF : (defScope st).names.lookup f = some .local
  fs : (f == ("self" : Str)) = false
  fd : (f == ("__debug__" : Str)) = false
  hd : ∃ ar : Arg, ((defArgs st).posonlyargs ++ (defArgs st).args).head? = some ar ∧ ar.arg = "self"
  fn : ∃ (name qual : Str) (oc : Value) (od : Option Addr) (dV kV doc pm : Value) (an : Option Addr) (cda : Addr) (ct : Value) (cc : Addr) (osl : Array (Option Value)),
    K.lookup fI = some ⟨oc, od, .func (PySem.W.ksFn name qual (defArgs st) (defBody st) (defScope st) dV kV doc pm an (.ref cda) ct cc), osl⟩ ∧ PySem.W.codeIn K (.ref cda) qual = true ∧
    (∀ us : List Value, us.length = 2 → bindArgs (PySem.W.ksFn name qual (defArgs st) (defBody st) (defScope st) dV kV doc pm an (.ref cda) ct cc) ⟨us, []⟩ = pure ((["self", f] : List Str).zip us)) ∧
    (∀ a b : Value, bindArgs (PySem.W.ksFn name qual (defArgs st) (defBody st) (defScope st) dV kV doc pm an (.ref cda) ct cc) ⟨[a], [(f, b)]⟩ = pure ((["self", f] : List Str).zip [a, b])) ∧
    (∃ ccl cdd vs ccs file tf, K.lookup cda = some ⟨ccl, cdd, .fields vs, ccs⟩ ∧ vs[2]? = some (.str file tf) ∧ ((P.main.file : Str) == file) = true) ∧ ∃ cl cld csl, K.lookup cc = some ⟨cl, cld, .cell (some (.ref C)), csl⟩
  nS : PySem.W.nsIn K mainGlobals "super" = some none
  nR : PySem.W.nsIn K mainGlobals "repr" = some none

section
variable {P : Program} {w : World} {K : PySem.W.Frag} {C fI : Addr} {f : Str} {st : Stmt} {mg : Str → Option Value} {base : Heap} {A : Around} {R : Result → Shared → Prop} {hp : Heap} {g : Array GenState} {d : Drawn} {t : Nat} {os : OsState}
end
section
variable {X : Cx} {C fI : Addr} {f x : Str} {st : Stmt} {e : Expr} {t : TE} {p pos : Pos}
def errQ (C : Addr) (f : Str) (Q : XK) : List V → Hp → Prop
  | [y], H1 => ∃ i : Int, y = .int i ∧ i.natAbs.log2 < 1000 ∧ ∀ dx, H1 dx = none → Q (.ref C) (some dx) (upd H1 dx (.xd [(f, .int i)]))
  | _, _ => False
end
/-! ### raise -/
def mRaise (c f : Str) (m : M D) : MS := eS m fun d ρ S => match d with
  | .int i => if i.natAbs.log2 < 1000 then .ok (.exn ⟨c, [(f, .int i)]⟩ ρ) S else .bad
  | _ => .bad
def mRaise0 (c : Str) : MS := fun ρ S => .ok (.exn ⟨c, []⟩ ρ) S
section
variable {X : Cx} {cl : Cl} {W : WX} {C fI : Addr} {f x : Str} {st : Stmt} {e : Expr} {m : M D} {p pos pos2 : Pos}
end
end MP
/-! MP74 -/
set_option Elab.async false
set_option autoImplicit false
set_option linter.all false
set_option maxRecDepth 100000
set_option maxHeartbeats 1000000
namespace MP
open PySem PySem.Spec L2 LamX
open PyProof.Rows hiding St

/-! ## a lambda without parameters, handed to a def -/
abbrev Th := Sto → Rs D
/-- x(), x at the slot i the lambda at n -/
def mThk (n i : Nat) (th : Th) : M D := fun ρ S => if ρ[i]? = some (some (.ptr n)) then th S else .bad
/-- x(lambda: e): F tells what x makes of the lambda at n -/
def mLam (F : Nat → Th → FL) (mb : M D) : M D := fun ρ S => F S.length (fun S' => mb ρ S') [.ptr S.length] (S ++ [.lam])
def Cl.wit (cl : Cl) (n : Nat) (f c' : Addr) (q : Str) (ρ : Rho) (σ : L2.St) : Cl := { cl with pre := (n, f) :: cl.pre, cap := (ρ, σ) :: cl.cap, co := (c', q) :: cl.co }
section
variable {K : PySem.W.Frag} {cl : Cl} {io : List Addr} {H : Hp} {S : Sto} {n : Nat} {f c' : Addr} {q : Str} {ρ : Rho} {σ : L2.St}
theorem RelO.wit {o : O} {a : Addr} (r : RelO K cl io H o a) : RelO K (cl.wit n f c' q ρ σ) io H o a := by
  cases r with
  | lst a b => exact .lst a b
  | rol a b => exact .rol a b
  | dct a b => exact .dct a b
  | rod a b => exact .rod a b
  | vw a b => exact .vw a b
  | dkt a b c d e => exact .dkt a b c d e
  | rkt a b c d e => exact .rkt a b c d e
  | ins a b c => exact .ins a b c
  | exc a b c => exact .exc a b c
  | lam => exact .lam
theorem RelO.unwit {o : O} {a : Addr} (r : RelO K (cl.wit n f c' q ρ σ) io H o a) : RelO K cl io H o a := by
  cases r with
  | lst a b => exact .lst a b
  | rol a b => exact .rol a b
  | dct a b => exact .dct a b
  | rod a b => exact .rod a b
  | vw a b => exact .vw a b
  | dkt a b c d e => exact .dkt a b c d e
  | rkt a b c d e => exact .rkt a b c d e
  | ins a b c => exact .ins a b c
  | exc a b c => exact .exc a b c
  | lam => exact .lam
theorem Abs.unwit (A : Abs K (cl.wit n f c' q ρ σ) io S H) : Abs K cl io S H :=
  ⟨A.len, A.nd, fun n ob e => (A.obj n ob e).imp fun _ h => ⟨h.1, h.2.unwit⟩, A.tb, fun p hp => A.pre p (.tail _ hp), fun p hp => A.cap p (.tail _ hp), fun p hp => A.co p (.tail _ hp)⟩
/-- the lambda is known from now on -/
theorem Abs.newLam (A : Abs K cl io S H) (hco : H c' = some (CodeO c' q)) (hn : NoIo io S c') (R : RelRho K io H ρ σ) : Abs K (cl.wit S.length f c' q ρ σ) (io ++ [f]) (S ++ [.lam]) H := by
  have g : Gr0 K io H (io ++ [f]) H := ⟨⟨[f], rfl⟩, fun _ _ h => h, fun _ h => h, fun _ _ h => h⟩
  have low : ∀ {n : Nat} {ob : O}, (S ++ [O.lam])[n]? = some ob → (n < S.length ∧ S[n]? = some ob) ∨ (n = S.length ∧ ob = .lam) := fun {n ob} e => by
    by_cases hn : n < S.length
    · rw [List.getElem?_append_left hn] at e
      exact .inl ⟨hn, e⟩
    · have hn' : n = S.length := by
        have := (List.getElem?_eq_some_iff.mp e).1
        simp only [List.length_append, List.length_singleton] at this
        omega
      subst hn'
      rw [List.getElem?_append_right (Nat.le_refl _)] at e
      simp only [Nat.sub_self, List.getElem?_cons_zero, Option.some.injEq] at e
      exact .inr ⟨rfl, e.symm⟩
  have ioO : ∀ {n : Nat}, n < S.length → (io ++ [f])[n]? = io[n]? := fun {n} h => List.getElem?_append_left (by rw [A.len]; exact h)
  have ioN : (io ++ [f])[S.length]? = some f := by
    rw [List.getElem?_append_right (by rw [A.len]; exact Nat.le_refl _), A.len]
    simp
  have cc : ∀ c, NoIo io S c → NoIo (io ++ [f]) (S ++ [O.lam]) c := fun c hc j ob ej hj z => by
    rcases low ej with ⟨lj, fj⟩ | ⟨_, qj⟩
    · rw [ioO lj] at z
      exact hc j ob fj hj z
    · subst qj
      cases hj
  refine ⟨by simp [A.len], fun i j a oi oj ei ej ai aj ri rj => ?_, fun n ob e => ?_, fun p hp => (A.tb p hp).mono (fun _ e => e) fun c hc e => ⟨e, cc c hc⟩, fun p hp => ?_, fun p hp => ?_, fun p hp => ?_⟩
  · rcases low ei with ⟨li, fi⟩ | ⟨_, qi⟩
    · rcases low ej with ⟨lj, fj⟩ | ⟨_, qj⟩
      · rw [ioO li] at ai
        rw [ioO lj] at aj
        exact A.nd i j a oi oj fi fj ai aj ri rj
      · subst qj; cases rj
    · subst qi; cases ri
  · rcases low e with ⟨ln, e⟩ | ⟨rfl, rfl⟩
    · obtain ⟨a, ha, r⟩ := A.obj n ob e
      exact ⟨a, by rw [ioO ln]; exact ha, (r.mono g fun u hu => hu).wit⟩
    · exact ⟨f, ioN, .lam⟩
  · rcases List.mem_cons.mp hp with rfl | hp
    · exact ioN
    · have := A.pre p hp
      rw [List.getElem?_append_left (List.getElem?_eq_some_iff.mp this).1]
      exact this
  · rcases List.mem_cons.mp hp with rfl | hp
    · exact R.mono0 g
    · exact (A.cap p hp).mono0 g
  · rcases List.mem_cons.mp hp with rfl | hp
    · exact ⟨hco, cc _ hn⟩
    · exact ⟨(A.co p hp).1, cc _ (A.co p hp).2⟩
end
/-! ### a def called at one state -/
section
variable {CX : CXT} {P : Program} {w : World} {K : PySem.W.Frag} {mg : Str → Option Value} {base : Heap} {cl : Cl} {k : Nat} {f : Addr} {x qual : Str} {st : Stmt} {fd : FuncData} {N ps : List Str} {m : MS}
theorem fn_at (F : Fun K x qual st f fd) (Sc : FnScope N ps (defScope st)) {A : Around} {outer : List Env} {s : Shared} {H : Hp} {args : Args} {us : List Value} {vs : List V} {io : List Addr} {T : Sto} {ds : List D} {Q : VK} {E : XK}
    (hr : Room (k + 1) A) (hgd : A.guards = some []) (e0 : Env0 P w K mg base A outer s H) (hbd : BindsTo s fd args (ps.zip us)) (rv : Vals vs us) (hl : vs.length = ps.length) (HA : Abs K cl io T H) (rd : RelDs K io H ds vs) (G : GoodE E K cl io H (callS N.length m ds T))
    (kq : ∀ d S' io' H' v, callS N.length m ds T = .ok d S' → Abs K cl io' S' H' → Grow K io H io' H' → RelD K io' H' d v → Q v H')
    (hb : ∀ cdv, Room k (A.deeper (envOfC qual (defScope st) s.heap.objs.size f cdv)) → (A.deeper (envOfC qual (defScope st) s.heap.objs.size f cdv)).guards = some [] →
      SsE (cxOf CX P w K mg base N qual (defScope st) f cdv A outer s H E) cl (fun c d _ H' => E c d H') (defBody st) m) :
    codeAny (model P w) A (.call (.ref f) args) (CR CX outer P w H s Q E) s := by
  obtain ⟨oc, od, kV, doc, pm, an, cdv, ct, osl, rfl, lk, hcd⟩ := F.ex
  have KX : K.In s.heap := e0.mod.kin.keeps fun b o e => (e0.bs b o e).1
  have names : ∀ y ∈ ps.zip us, (defScope st).names.lookup y.1 = some .local ∨ ((defScope st).names.lookup y.1 = some .cell ∧ ((cellsFrom (s.heap.objs.size + 1) (defScope st).names []).lookup y.1).isSome = true) := fun ⟨n, v⟩ hy =>
    (Sc.par n (List.of_mem_zip hy).1).imp (fun q => q) fun q => ⟨q, PySem.W.cellsFrom_some _ _ _ (.inl q)⟩
  refine codeAny_call_function hr.depth (KX _ _ lk) rfl Sc.co Sc.gen rfl (PySem.W.codeRec_of KX hcd) (hbd _ _ _ _ (wpAny_newFunctionEnv_cells Sc.kind names fun env he s1 z => ?_))
  subst he
  refine ⟨(e0.mod.nolimit.keeps fun b o e => (e0.bs b o e).1).keeps z.toInCall.keep, codeAny_func ?_⟩
  have I : Inv (cxOf CX P w K mg base N qual (defScope st) f cdv A outer s H E) [] (L2.start N vs) H s1 := inv_start Sc hr.hd e0 hl rv z
  have ht := hb cdv (hr.deeper _) (by simpa [Around.deeper] using hgd)
  have Gs : GoodS (fun c d _ H' => E c d H') K cl io H (m (ds.map some ++ List.replicate (N.length - ds.length) none) T) := by
    unfold callS at G
    cases em : m (ds.map some ++ List.replicate (N.length - ds.length) none) T with
    | ok fl T' =>
      rw [em] at G
      cases fl with
      | exn y ρ => exact fun io' H' c d σ' A' g' _ ry => G io' H' c d A' g' ry
      | nx ρ => trivial
      | ret d => trivial
      | brk ρ => trivial
      | cnt ρ => trivial
    | exn y T' => rw [em] at G; exact G
    | bad => rw [em] at G; exact G
  have fin : ∀ {σ' : L2.St} {H' : Hp} {v : V} {u : Value} {s' : Shared}, Inv (cxOf CX P w K mg base N qual (defScope st) f cdv A outer s H E) [] σ' H' s' → RelV v u → Q v H' → CE outer P w H s Q u s' :=
    fun {σ' H' v u s'} J r q => ⟨v, H', J.os, J.bare, J.base, J.hok, r, q⟩
  have noflow : ∀ fl T', m (ds.map some ++ List.replicate (N.length - ds.length) none) T = .ok fl T' → (∃ ρ, fl = .brk ρ) ∨ (∃ ρ, fl = .cnt ρ) → False := fun fl T' e h => by
    unfold callS at G
    rw [e] at G
    rcases h with ⟨ρ, z⟩ | ⟨ρ, z⟩ <;> (subst z; exact G)
  refine wpAny_mono (ht.run [] s1 (L2.start N vs) H ⟨fun _ H' => Q .non H', Q, fun _ _ => False, fun _ _ => False⟩ I ⟨io, _, T, HA, start_rel (N := N) rd, Gs, fun fl T' io' H' σ' e A' g' => ?_⟩) (fun fl s' hs => ?_) fun e s' hs => hs
  · have ek : ∀ d, callS N.length m ds T = .ok d T' → ∀ v, RelD K io' H' d v → Q v H' := fun d ed v r => kq d T' io' H' v ed A' g' r
    cases fl with
    | nx ρ => exact fun _ => ek .non (by unfold callS; rw [e]) .non .non
    | ret d => exact fun v r => ek d (by unfold callS; rw [e]) v r
    | brk ρ => exact fun _ => noflow _ _ e (.inl ⟨ρ, rfl⟩)
    | cnt ρ => exact fun _ => noflow _ _ e (.inr ⟨ρ, rfl⟩)
    | exn y ρ => trivial
  · cases fl with
    | ret u =>
      obtain ⟨v, σ', H', J, r, q⟩ := hs
      exact fin J r q
    | next =>
      obtain ⟨σ', H', J, q⟩ := hs
      exact fin (v := V.non) (u := Value.none) J rfl q
    | brk => obtain ⟨_, _, _, q⟩ := hs; exact q.elim
    | cont => obtain ⟨_, _, _, q⟩ := hs; exact q.elim
end
/-! ### the lambda is called -/
section
variable {X : Cx} {pins : List (Addr × Obj)} {σ : L2.St} {H : Hp} {s : Shared} {cl : Cl} {ρ : Rho}
theorem th_act {CXg : CXT} {Eg : XK} {Ng : List Str} {qg : Str} {sg : Scope} {g f c' : Addr} {cdg pm ctv : Value} {params : Arguments} {body : Expr} {scope : Scope} {k i n : Nat} {a : Str} {pn : List (Addr × Obj)} {xe : Value → Shared → Prop} {W : WX} {mb : M D} {p1 p2 : Pos}
    (I : Inv X pins σ H s) (L : LamS X.env.scope scope) (hf : s.heap.get? f = some (PySem.W.kla_obj "<lambda>" (X.env.qual ++ "<lambda>") params body scope (cloFrom X.env.cells scope.names []) pm c' ctv)) (hfn : H f = none) (hfr : f ∉ frs X.stack)
    (hbind : bindArgs (PySem.W.kla_fn "<lambda>" (X.env.qual ++ "<lambda>") params body scope (cloFrom X.env.cells scope.names []) pm (.ref c') ctv) ⟨[], []⟩ = pure [])
    (tk : Takes ((cxOf CXg X.prog X.w X.K X.mg X.base Ng qg sg g cdg X.A X.stack s H Eg).tr pn xe) W) (hr : Room (k + 1) (X.A.deeper (envOfC qg sg s.heap.objs.size g cdg))) (hgd : (X.A.deeper (envOfC qg sg s.heap.objs.size g cdg)).guards = some [])
    (hbody : ∀ (A : Around) (outer : List Env) (s1 : Shared) (H1 : Hp) (E : XK), Room k (A.deeper (lamEnv X scope s1.heap.objs.size f c')) → (A.deeper (lamEnv X scope s1.heap.objs.size f c')).guards = some [] →
      Takes (lamCx X A outer s1 H1 E scope f c') (fun c d _ H' => E c d H') → EvE (lamCx X A outer s1 H1 E scope f c') (cl.wit n f c' (X.env.qual ++ "<lambda>") ρ σ) (fun c d _ H' => E c d H') body mb)
    (hN : Ng[i]? = some a) (hv : Vis sg a) (hd : (a == ("__debug__" : Str)) = false := by decide) (hcd : (a == ("__classdict__" : Str)) = false := by decide) :
    EvE ((cxOf CXg X.prog X.w X.K X.mg X.base Ng qg sg g cdg X.A X.stack s H Eg).tr pn xe) (cl.wit n f c' (X.env.qual ++ "<lambda>") ρ σ) W (.Call (.Name a p1) [] [] p2) (mThk n i fun S => mb ρ S) := by
  refine ⟨fun pinsZ sZ σZ HZ io ρZ S IZ A R G => ?_⟩
  unfold mThk at G ⊢
  by_cases hi : ρZ[i]? = some (some (.ptr n))
  case neg => rw [if_neg hi] at G; exact G.elim
  rw [if_pos hi] at G ⊢
  have G : Good W X.K (cl.wit n f c' (X.env.qual ++ "<lambda>") ρ σ) io HZ σZ (mb ρ S) := G
  have hs : σZ[i]? = some (some (.ref f)) := by
    obtain ⟨v, h1, h2⟩ := R.get hi
    cases h2 with
    | ptr h3 =>
      have := A.pre (n, f) (List.mem_cons_self ..)
      rw [this] at h3
      cases h3
      exact h1
  refine wpAny_Call_Name_kw (thn ((pe_var (pos := p1) (i := i) hN hv hd hcd).run pinsZ sZ σZ HZ (fun v H1 => v = .ref f ∧ H1 = HZ) IZ ⟨.ref f, hs, rfl, rfl⟩) fun u s1 ⟨v, H1, I1, r1, ev, eH⟩ => ?_)
  subst ev
  rw [eH] at I1
  obtain rfl : u = Value.ref f := r1
  have of1 : s1.heap.get? f = some (PySem.W.kla_obj "<lambda>" (X.env.qual ++ "<lambda>") params body scope (cloFrom X.env.cells scope.names []) pm c' ctv) := I1.base.keep f _ hf hfn hfr fun z => nomatch (show f ∈ ([] : List Addr) from z)
  have un : Un (frs X.stack) [] H HZ s.heap s1.heap := I1.base
  have hc : HZ c' = some (CodeO c' (X.env.qual ++ "<lambda>")) := (A.co (c', X.env.qual ++ "<lambda>") (List.mem_cons_self ..)).1
  have Rc : RelRho X.K io HZ ρ σ := A.cap (ρ, σ) (List.mem_cons_self ..)
  obtain ⟨⟨oc, vs, t, hoc, hdc, hvc⟩, _, _⟩ := I1.hok c' _ hc
  refine PySem.W.callWith_F0 ⟨_, _, _, _, of1⟩ ?_
  have rc : codeAny (model X.prog X.w) (X.A.deeper (envOfC qg sg s.heap.objs.size g cdg)) (.call (.ref f) ⟨[], []⟩)
      (CR (L2.CX X.prog X.w) (envOfC qg sg s.heap.objs.size g cdg :: X.stack) X.prog X.w HZ s1 (fun v H' => ∃ d S' io', mb ρ S = .ok d S' ∧ Abs X.K (cl.wit n f c' (X.env.qual ++ "<lambda>") ρ σ) io' S' H' ∧ Grow X.K io HZ io' H' ∧ RelD X.K io' H' d v) (fun c d H' => W c d σZ H')) s1 := by
    refine PySem.W.kla_callFunE hr.depth of1 rfl L.co L.gen rfl ⟨c', oc, vs, t, rfl, hoc, hdc, hvc⟩ ?_
    rw [hbind]
    refine wpAny_pure (wpAny_newFunctionEnv (fun y hy => (L.own y hy).2) (fun y hy => absurd hy (by simp)) (fun h₁ hns hsb => ⟨I1.nolimit.fresh _ hsb, ?_⟩) L.kind)
    show codeAny _ _ (.expr body (lamEnv X scope s1.heap.objs.size f c')) _ _
    have J : Inv (lamCx X (X.A.deeper (envOfC qg sg s.heap.objs.size g cdg)) (envOfC qg sg s.heap.objs.size g cdg :: X.stack) s1 HZ (fun c d H' => W c d σZ H') scope f c') [] σ HZ { s1 with heap := h₁, toks := s1.toks + ([] : List (Str × Value)).length } :=
      lam_start2 I L I1.env0 hr.hd un hns fun b o e => hsb.extBut b o (Nat.ne_of_lt (Heap.lt_size e)) (Heap.get?_push_of_some _ e)
    have Gb : Good (fun c d _ H' => W c d σZ H') X.K (cl.wit n f c' (X.env.qual ++ "<lambda>") ρ σ) io HZ σ (mb ρ S) := by
      cases e : mb ρ S with
      | ok _ _ => trivial
      | exn y S' => rw [e] at G; exact G
      | bad => rw [e] at G; exact G
    refine PySem.W.kla_codeExpr (wpAny_mono ((hbody _ _ s1 HZ _ (hr.deeper _) (by simpa [Around.deeper] using hgd) (takes_of rfl rfl rfl rfl)).run [] _ σ HZ io ρ S J A Rc Gb) (fun v s' hq => ?_) fun e s' hq => hq)
    obtain ⟨d, S', io', H', w', e, J', A', g', rd, rv⟩ := hq
    exact ⟨w', H', J'.os, J'.bare, J'.base, J'.hok, rv, d, S', io', e, A', g', rd⟩
  refine wpAny_call (codeAny_mono rc fun r s' hq => ?_)
  cases r with
  | error e => exact tk _ _ (XE.of_call I1 (fun cls d H' h => h) hq)
  | ok fl =>
    cases fl with
    | ret u =>
      obtain ⟨v, H', I', rv, d, S', io', e, A', g', rd⟩ := I1.after hq
      exact ⟨d, S', io', H', v, e, I', A', g', rd, rv⟩
    | next => exact False.elim hq
    | brk => exact False.elim hq
    | cont => exact False.elim hq
end
/-- the def x by its body, whatever the lambda that it gets as a computes -/
def GivesH (P : Program) (w : World) (K : PySem.W.Frag) (mg : Str → Option Value) (base : Heap) (cl : Cl) (k : Nat) (g : Addr) (st : Stmt) (x a : Str) (Ng : List Str) (ms : Nat → Th → MS) : Prop :=
  ∀ (A : Around) (outer : List Env) (f c' : Addr) (n : Nat) (ρ : Rho) (σ : L2.St) (q : Str) (th : Th) (cdv : Value) (s : Shared) (H : Hp) (E : XK),
    Room k (A.deeper (envOfC x (defScope st) s.heap.objs.size g cdv)) → (A.deeper (envOfC x (defScope st) s.heap.objs.size g cdv)).guards = some [] →
    (∀ (W : WX) (pn : List (Addr × Obj)) (xe : Value → Shared → Prop) (p1 p2 : Pos), Takes ((cxOf (L2.CX P w) P w K mg base Ng x (defScope st) g cdv A outer s H E).tr pn xe) W →
      EvE ((cxOf (L2.CX P w) P w K mg base Ng x (defScope st) g cdv A outer s H E).tr pn xe) (cl.wit n f c' q ρ σ) W (.Call (.Name a p1) [] [] p2) (mThk n 0 th)) →
    SsE (cxOf (L2.CX P w) P w K mg base Ng x (defScope st) g cdv A outer s H E) (cl.wit n f c' q ρ σ) (fun c d _ H' => E c d H') (defBody st) (ms n th)
section
variable {X : Cx} {cl : Cl} {W : WX}
/-- x(lambda: e) -/
theorem ev_lam {x a q : Str} {g c P : Addr} {k : Nat} {st : Stmt} {fd : FuncData} {Ng : List Str} {ms : Nat → Th → MS} {mb : M D} {params : Arguments} {body : Expr} {scope : Scope} {p lpos pos : Pos}
    (hm : X.mg x = some (.ref g)) (Fu : Fun X.K x x st g fd) (Sg : FnScope Ng [a] (defScope st)) (hb : L2.Binds X.K fd [a] [])
    (hG : GivesH X.prog X.w X.K X.mg X.base cl (k + 1) g st x a Ng ms) (TB : TabB X.base X.mg c P) (hmT : (P, q) ∈ cl.tb) (hu : ∀ p ∈ cl.tb, p.1 = P → p.2 = q)
    (hr : Room (k + 2) X.A) (hgd : X.A.guards = some []) (hx : PassW (L2.CX X.prog X.w) X W)
    (hbody : ∀ (A : Around) (outer : List Env) (s : Shared) (H : Hp) (E : XK) (f c' : Addr) (n : Nat) (ρ : Rho) (σ : L2.St), Room k (A.deeper (lamEnv X scope s.heap.objs.size f c')) → (A.deeper (lamEnv X scope s.heap.objs.size f c')).guards = some [] →
      Takes (lamCx X A outer s H E scope f c') (fun c d _ H' => E c d H') → EvE (lamCx X A outer s H E scope f c') (cl.wit n f c' q ρ σ) (fun c d _ H' => E c d H') body mb)
    (hNg : Ng[0]? = some a := by rfl) (hva : Vis (defScope st) a := by exact .inl rfl) (hq : q = X.env.qual ++ "<lambda>" := by rfl) (hcode : X.env.code = .ref c := by rfl) (hLam : lamSB X.env.scope scope = true := by kernel_rfl) (hdef : defaultsOf params X.env = ([], []) := by rfl)
    (hbind : ∀ (q : Str) (cl : List (Str × Addr)) (pm cv ctv : Value), bindArgs (PySem.W.kla_fn "<lambda>" q params body scope cl pm cv ctv) ⟨[], []⟩ = pure [] := by intro _ _ _ _ _; rfl)
    (hg : Gl X x := by rfl) (hdb : (x == ("__debug__" : Str)) = false := by decide) (hd : (a == ("__debug__" : Str)) = false := by decide) (hcd : (a == ("__classdict__" : Str)) = false := by decide) :
    EvE X cl W (.Call (.Name x p) [.Lambda params body scope lpos] [] pos) (mLam (fun n th => callS Ng.length (ms n th)) mb) := by
  subst hq
  have L := lamS_by hLam
  refine ⟨fun pins s σ H io ρ S I A R G => ?_⟩
  refine wpAny_Call_Name_kw (ld_glob I hg hm ?_ hdb)
  refine PySem.W.callWith_K (h₀ := X.base) I.ok.mod.kin Fu.kp ?_ (by rfl) (by rfl)
  show wpAny _ _ (spliced ((false, eval (.Lambda params body scope lpos) X.env) :: backTo pos (starEach [] X.env))) _ _ s
  refine Calls.spliced_cons (lam_mk I A TB hcode hmT hu hdef (L.has I.ok) fun f c' pm' ctv H1 s' I1 A1 g1 hf hfn hfr hco => Calls.spliced_nil ⟨I1.kIn, ?_⟩)
  have nio : NoIo io S c' := fun j o ej hj z => by
    obtain ⟨b, hb2, r⟩ := A1.obj j o ej
    rw [z] at hb2
    cases hb2
    exact code_not I1.kIn I1.hok hj r hco
  have A2 := A1.newLam (f := f) hco nio (RelRho.mono g1 R)
  have g2 : Grow X.K io H1 (io ++ [f]) H1 := ⟨⟨⟨[f], rfl⟩, fun _ _ h => h, fun _ h => h, fun _ _ h => h⟩, fun _ _ _ h => h⟩
  have hn : (io ++ [f])[S.length]? = some f := by rw [← A1.len]; simp
  have e2 : mLam (fun n th => callS Ng.length (ms n th)) mb ρ S = callS Ng.length (ms S.length fun S' => mb ρ S') [.ptr S.length] (S ++ [.lam]) := rfl
  rw [e2] at G ⊢
  refine wpAny_call (codeAny_mono (fn_at (CX := L2.CX X.prog X.w) (E := fun c d H' => W c d σ H') (Q := fun v H' => ∃ d S' io', callS Ng.length (ms S.length fun S' => mb ρ S') [.ptr S.length] (S ++ [.lam]) = .ok d S' ∧ Abs X.K (cl.wit S.length f c' (X.env.qual ++ "<lambda>") ρ σ) io' S' H' ∧ Grow X.K (io ++ [f]) H1 io' H' ∧ RelD X.K io' H' d v)
    (us := [.ref f]) (vs := [.ref f]) Fu Sg hr hgd I1.env0 (hb s' [.ref f] I1.kIn rfl) (.cons rfl .nil) rfl A2 (.cons (.ptr hn) .nil) ?_ (fun d S' io' H' v e A' g' rd => ⟨d, S', io', e, A', g', rd⟩) fun cdv hr1 hg1 => ?_) fun r s2 hq => ?_)
  · cases e : callS Ng.length (ms S.length fun S' => mb ρ S') [.ptr S.length] (S ++ [.lam]) with
    | ok _ _ => trivial
    | exn y S' => rw [e] at G; exact fun io' H' c d A' g' rx => G io' H' c d A'.unwit ((g1.trans g2).trans g') rx
    | bad => rw [e] at G; exact G
  · exact hG X.A X.stack f c' S.length ρ σ (X.env.qual ++ "<lambda>") (fun S' => mb ρ S') cdv s' H1 _ hr1 hg1 fun W1 pn xe p1 p2 tk1 =>
      th_act (i := 0) I1 L hf hfn hfr (hbind _ _ _ _ _) tk1 hr1 hg1 (fun A3 o3 s3 H3 E3 r3 q3 t3 => hbody A3 o3 s3 H3 E3 f c' S.length ρ σ r3 q3 t3) hNg hva hd hcd
  · cases r with
    | error e => exact hx pins σ H1 s' e s2 I1 hq
    | ok fl =>
      cases fl with
      | ret u =>
        obtain ⟨v, H', I', rv, d, S', io', e, A', g', rd⟩ := I1.after hq
        exact ⟨d, S', io', H', v, e, I', A'.unwit, (g1.trans g2).trans g', rd, rv⟩
      | next => exact False.elim hq
      | brk => exact False.elim hq
      | cont => exact False.elim hq
end
end MP
/-! MP75 -/
set_option Elab.async false
set_option autoImplicit false
set_option linter.all false
set_option maxRecDepth 100000
set_option maxHeartbeats 1000000
namespace MP
open PySem PySem.Spec L2
open PyProof.Rows hiding St

/-! ## the field of a caught error -/
def xfS (c f : Str) : F1 := fun x S => match x with
  | .ptr n => match S[n]? with
    | some (.exc c' fs) => if c' = c then (match fs.lookup f with
      | some d => .ok d S
      | none => .bad) else .bad
    | _ => .bad
  | _ => .bad
section
variable {X : Cx} {cl : Cl} {W : WX} {c f : Str} {C : Addr} {e : Expr} {mo : M D} {pos : Pos}
end

/-! ## what holds behind a result, exceptions among them -/
def WpX {α : Type} (E : Exn → Sto → Prop) (r : Rs α) (Q : α → Sto → Prop) : Prop := match r with
  | .ok a S => Q a S
  | .exn x S => E x S
  | .bad => False
section
variable {α : Type} {E : Exn → Sto → Prop}
theorem WpX.imp {r : Rs α} {Q R : α → Sto → Prop} (h : WpX E r Q) (k : ∀ a S, Q a S → R a S) : WpX E r R := by
  cases r with
  | ok a S => exact k a S h
  | exn x S => exact h
  | bad => exact h
theorem WpX.impE {E' : Exn → Sto → Prop} {r : Rs α} {Q R : α → Sto → Prop} (h : WpX E r Q) (k : ∀ a S, Q a S → R a S) (k' : ∀ x S, E x S → E' x S) : WpX E' r R := by
  cases r with
  | ok a S => exact k a S h
  | exn x S => exact k' x S h
  | bad => exact h
theorem Wp.x {r : Rs α} {Q : α → Sto → Prop} (h : Wp r Q) : WpX E r Q := by
  obtain ⟨a, S, e, q⟩ := h
  rw [e]
  exact q
theorem WpX.wp {r : Rs α} {Q : α → Sto → Prop} (h : WpX (fun _ _ => False) r Q) : Wp r Q := by
  cases r with
  | ok a S => exact ⟨a, S, rfl, h⟩
  | exn x S => exact h.elim
  | bad => exact h.elim
theorem wx_ok {a : α} {S : Sto} {Q : α → Sto → Prop} : WpX E (.ok a S) Q ↔ Q a S := Iff.rfl
theorem wx_bad {Q : α → Sto → Prop} : WpX E (.bad : Rs α) Q ↔ False := Iff.rfl
theorem wx_exn {x : Exn} {S : Sto} {Q : α → Sto → Prop} : WpX E (.exn x S : Rs α) Q ↔ E x S := Iff.rfl
end
section
variable {α β : Type} {E : Exn → Sto → Prop}
theorem wx_bind {r : Rs α} {f : α → Sto → Rs β} {Q : β → Sto → Prop} : WpX E (r.bind f) Q ↔ WpX E r fun a S => WpX E (f a S) Q := by
  cases r with
  | ok a S => simp only [Rs.bind, wx_ok]
  | exn x S => simp only [Rs.bind, wx_exn]
  | bad => simp only [Rs.bind, wx_bad]
/-- if the guard holds -/
theorem wx_guard {c : Prop} [Decidable c] {r : Rs α} {Q : α → Sto → Prop} : WpX E (if c then r else .bad) Q ↔ c ∧ WpX E r Q := by
  by_cases h : c <;> simp [h, wx_bad]
variable {ρ : Rho} {S : Sto}
theorem wx_mVar {i : Nat} {Q : D → Sto → Prop} {d : D} (h : ρ[i]? = some (some d)) : WpX E (mVar i ρ S) Q ↔ Q d S := by
  simp only [mVar, h, wx_ok]
theorem wx_mNil {Q : List D → Sto → Prop} : WpX E (mNil ρ S) Q ↔ Q [] S := wx_ok
theorem wx_mCons {a : M D} {r : M (List D)} {Q : List D → Sto → Prop} : WpX E (mCons a r ρ S) Q ↔ WpX E (a ρ S) fun x S1 => WpX E (r ρ S1) fun xs S2 => Q (x :: xs) S2 := by
  simp only [mCons, wx_bind, wx_ok]
theorem wx_mDisp {g : List D → Sto → Rs D} {m : M (List D)} {Q : D → Sto → Prop} : WpX E (mDisp g m ρ S) Q ↔ WpX E (m ρ S) fun xs S1 => WpX E (g xs S1) Q := wx_bind
theorem wx_dflS {n : Nat} {dfl : List D} {g : FL} {xs : List D} {Q : D → Sto → Prop} : WpX E (dflS n dfl g xs S) Q ↔ xs.length + dfl.length = n ∧ WpX E (g (xs ++ dfl) S) Q := by
  simp only [dflS, wx_guard]
def WpY (F : Exn → Rho → Sto → Prop) (r : Rs Fl) (N B C : Rho → Sto → Prop) (R : D → Sto → Prop) : Prop := match r with
  | .ok (.nx ρ) S => N ρ S
  | .ok (.brk ρ) S => B ρ S
  | .ok (.cnt ρ) S => C ρ S
  | .ok (.ret d) S => R d S
  | .ok (.exn x ρ) S => F x ρ S
  | _ => False
variable {N B C : Rho → Sto → Prop} {R : D → Sto → Prop} {F : Exn → Rho → Sto → Prop}
theorem WpY.imp {r : Rs Fl} {N' B' C' : Rho → Sto → Prop} {R' : D → Sto → Prop} {F' : Exn → Rho → Sto → Prop} (h : WpY F r N B C R) (n : ∀ ρ S, N ρ S → N' ρ S) (b : ∀ ρ S, B ρ S → B' ρ S) (c : ∀ ρ S, C ρ S → C' ρ S) (d : ∀ x S, R x S → R' x S)
    (e : ∀ x ρ S, F x ρ S → F' x ρ S) : WpY F' r N' B' C' R' := by
  cases r with
  | ok f S =>
    cases f with
    | nx => exact n _ _ h
    | brk => exact b _ _ h
    | cnt => exact c _ _ h
    | ret => exact d _ _ h
    | exn => exact e _ _ _ h
  | exn _ _ => exact h
  | bad => exact h
theorem WpS.y {r : Rs Fl} (h : WpS r N B C R) : WpY F r N B C R := by
  obtain ⟨f, S, e, q⟩ := h
  rw [e]
  cases f with
  | exn _ _ => exact q.elim
  | _ => exact q
theorem wy_nx : WpY F (.ok (.nx ρ) S) N B C R ↔ N ρ S := Iff.rfl
theorem wy_ret {d : D} : WpY F (.ok (.ret d) S) N B C R ↔ R d S := Iff.rfl
theorem wy_exn {x : Exn} : WpY F (.ok (.exn x ρ) S) N B C R ↔ F x ρ S := Iff.rfl
theorem wy_mSeq {a b : MS} : WpY F (mSeq a b ρ S) N B C R ↔ WpY F (a ρ S) (fun ρ1 S1 => WpY F (b ρ1 S1) N B C R) B C R := by
  unfold mSeq
  cases h : a ρ S with
  | ok f S1 => cases f <;> exact Iff.rfl
  | exn x S1 => exact Iff.rfl
  | bad => exact Iff.rfl
theorem wy_eS {m : M α} {k : α → MS} : WpY F (eS m k ρ S) N B C R ↔ WpX (fun x S1 => F x ρ S1) (m ρ S) fun a S1 => WpY F (k a ρ S1) N B C R := by
  unfold eS
  cases h : m ρ S with
  | ok f S1 => exact Iff.rfl
  | exn x S1 => exact Iff.rfl
  | bad => exact Iff.rfl
theorem wy_mDrop {m : M D} : WpY F (mDrop m ρ S) N B C R ↔ WpX (fun x S1 => F x ρ S1) (m ρ S) fun _ S1 => N ρ S1 := by simp only [mDrop, wy_eS, wy_nx]
theorem wy_mRet {m : M D} : WpY F (mRet m ρ S) N B C R ↔ WpX (fun x S1 => F x ρ S1) (m ρ S) R := by simp only [mRet, wy_eS, wy_ret]
theorem wy_mIfS {c : M Bool} {a b : MS} : WpY F (mIfS c a b ρ S) N B C R ↔ WpX (fun x S1 => F x ρ S1) (c ρ S) fun k S1 => if k = true then WpY F (a ρ S1) N B C R else WpY F (b ρ S1) N B C R := by
  simp only [mIfS, wy_eS]
  constructor <;> intro h <;> refine h.imp fun k S1 q => ?_ <;> cases k <;> simpa using q
theorem wy_asg {g : MG} {d : D} : WpY F (asg g d ρ S) N B C R ↔ Wp (g d ρ S) N := by
  simp only [asg]
  cases h : g d ρ S with
  | ok => simp only [wy_nx, wp_ok]
  | exn => simp only [WpY, wp_exn]
  | bad => simp only [WpY, wp_bad]
theorem wy_mAsg {m : M D} {g : MG} : WpY F (mAsg m g ρ S) N B C R ↔ WpX (fun x S1 => F x ρ S1) (m ρ S) fun d S1 => Wp (g d ρ S1) N := by simp only [mAsg, wy_eS, wy_asg]
theorem wx_callS {n : Nat} {m : MS} {ds : List D} {Q : D → Sto → Prop} :
    WpX E (callS n m ds S) Q ↔ WpY (fun x _ S1 => E x S1) (m (ds.map some ++ List.replicate (n - ds.length) none) S) (fun _ S1 => Q .non S1) Nev Nev Q := by
  unfold callS
  cases h : m (ds.map some ++ List.replicate (n - ds.length) none) S with
  | ok f S1 => cases f <;> exact Iff.rfl
  | exn x S1 => exact Iff.rfl
  | bad => exact Iff.rfl
theorem wy_mTry {sub : Str → Bool} {i : Nat} {mb ms : MS} : WpY F (mTry sub i mb ms ρ S) N B C R ↔
    WpY (fun x ρ1 S1 => if sub x.cls = true then WpS (ms (ρ1.set i (some (.ptr S1.length))) (S1 ++ [.exc x.cls x.fs])) (fun ρ2 => N (ρ2.set i none)) (fun ρ2 => B (ρ2.set i none)) (fun ρ2 => C (ρ2.set i none)) R else F x ρ1 S1) (mb ρ S) N B C R := by
  unfold mTry
  cases h : mb ρ S with
  | ok f S1 =>
    cases f with
    | exn x ρ1 =>
      simp only [tryK]
      by_cases hs : sub x.cls = true
      · simp only [if_pos hs, wy_exn]
        cases h2 : ms (ρ1.set i (some (.ptr S1.length))) (S1 ++ [.exc x.cls x.fs]) with
        | ok f2 S2 =>
          cases f2 with
          | exn _ _ => exact ⟨fun q => q.elim, fun ⟨_, _, e, q⟩ => by cases e; exact q.elim⟩
          | nx ρ2 => exact ⟨fun q => ⟨_, _, rfl, q⟩, fun ⟨_, _, e, q⟩ => by cases e; exact q⟩
          | brk ρ2 => exact ⟨fun q => ⟨_, _, rfl, q⟩, fun ⟨_, _, e, q⟩ => by cases e; exact q⟩
          | cnt ρ2 => exact ⟨fun q => ⟨_, _, rfl, q⟩, fun ⟨_, _, e, q⟩ => by cases e; exact q⟩
          | ret d => exact ⟨fun q => ⟨_, _, rfl, q⟩, fun ⟨_, _, e, q⟩ => by cases e; exact q⟩
        | exn _ _ => exact ⟨fun q => q.elim, fun ⟨_, _, e, q⟩ => by cases e⟩
        | bad => exact ⟨fun q => q.elim, fun ⟨_, _, e, q⟩ => by cases e⟩
      · simp only [if_neg hs, wy_exn]
    | _ => exact Iff.rfl
  | exn x S1 => exact Iff.rfl
  | bad => exact Iff.rfl
theorem wx_mThk {n i : Nat} {th : Th} {Q : D → Sto → Prop} (h : ρ[i]? = some (some (.ptr n))) : WpX E (mThk n i th ρ S) Q ↔ WpX E (th S) Q := by
  unfold mThk
  rw [if_pos h]
theorem wp_mLam {G : Nat → Th → FL} {mb : M D} {Q : D → Sto → Prop} : Wp (mLam G mb ρ S) Q ↔ Wp (G S.length (fun S' => mb ρ S') [.ptr S.length] (S ++ [.lam])) Q := Iff.rfl
end
end MP
/-! MP76 -/
set_option Elab.async false
set_option autoImplicit false
set_option linter.all false
set_option maxRecDepth 100000
namespace MP
open PySem PySem.Spec L2
open PyProof.Rows hiding St

/-! ## what the printed text needs of exceptions -/
theorem endX {P : Program} {w : World} (H : Hp) (st : Shared) (e : Value) (t : Shared) (h : L2.CX P w [] H st (fun _ _ _ => False) e t) : False := by
  obtain ⟨_, _, _, _, _, _, _, _, _, _, _, _, z⟩ := h
  exact z
/-- an error class of the package, in the written part -/
def errB (K : PySem.W.Frag) (C : Addr) : Bool := match K.lookup C with
  | some ⟨.type "type", _, .cls cd, sl⟩ => (match cd.mro, sl.toList with
    | .ref C' :: bm, [_, _, _, _, some (.builtin n), _] => C' == C && n == "ValueError.__new__" && !cd.hasDel && cd.hasDict && PySem.HandSPX.refsVE bm
    | _, _ => false)
  | _ => false
theorem errB_ok {K : PySem.W.Frag} {C : Addr} (q : errB K C = true) :
    ∃ nm q N bs bm sn sub ab col dd k0 k1 k2 k3 k5, K.lookup C = some (excClassObj nm q C N bs bm true sn sub ab col dd k0 k1 k2 k3 k5 "ValueError.__new__") ∧ PySem.HandSPX.refsVE bm = true := by
  unfold errB at q
  split at q
  · rename_i dd cd sl ho
    split at q
    · rename_i C' bm k0 k1 k2 k3 n k5 hm hs
      simp only [Bool.and_eq_true, beq_iff_eq, Bool.not_eq_true'] at q
      obtain ⟨⟨⟨⟨rfl, rfl⟩, hdel⟩, hdict⟩, hve⟩ := q
      obtain ⟨nm, bs, mro, ns, qn, hd, sn, sub, ab, col, del⟩ := cd
      dsimp only at hm hdel hdict
      subst hm hdel hdict
      have hsl : sl = #[k0, k1, k2, k3, some (.builtin "ValueError.__new__"), k5] := by
        obtain ⟨l⟩ := sl
        simp only at hs
        rw [hs]
      subst hsl
      exact ⟨nm, qn, ns, bs, bm, sn, sub, ab, col, dd, k0, k1, k2, k3, k5, ho, hve⟩
    · cases q
  · cases q
theorem errC_mk {K : PySem.W.Frag} {C : Addr} (h1 : errB K C = true) (h2 : PySem.W.findIn K (.ref C) "__setattr__" = some (some (.builtin "object.__setattr__"))) (h3 : PySem.W.subIn K (.ref C) (.type "BaseException") = some true)
    (h4 : PySem.W.typeIn K (.ref C) = some (.type "type")) (h5 : PySem.W.keepIn K (.ref C) = true) (h6 : PySem.W.mroIn K C (.ref C) = some true) : ErrC K C := ⟨⟨errB_ok h1, h2, h3, h4, h5⟩, h6⟩
end MP
/-! MP77 -/
set_option Elab.async false
set_option autoImplicit false
set_option linter.all false
set_option maxRecDepth 100000
set_option maxHeartbeats 1000000
namespace PySem.SeqAt
open AutoSeq1 (wpAny_loadPart')
open MeetsSeq
/-! a tuple is unequal to a dict -/
section
variable {A : Around} {s : Shared}
end
end PySem.SeqAt
namespace MP
open PySem PySem.Spec L2
open PyProof.Rows hiding St
/-! ## x in y, x a dict, y a list of tuples -/
def D.isTup : D → Bool
  | .tup _ => true
  | _ => false
def inTD (n : Nat) (y : D) (S : Sto) : Bool := match S[n]?, y with
  | some (.dct _), .ptr k => match listAt S k with
    | some ds => ds.all D.isTup
    | none => false
  | _, _ => false
def inX : F2 := fun x y S => match x with
  | .ptr n => if inTD n y S = true then .ok (.bl false) S else inS x y S
  | _ => inS x y S
def ninX : F2 := fun x y S => match x with
  | .ptr n => if inTD n y S = true then .ok (.bl true) S else ninS x y S
  | _ => ninS x y S
section
variable {X : Cx} {cl : Cl} {W : WX} {io : List Addr} {S : Sto} {H : Hp} {pins : List (Addr × Obj)} {s : Shared} {σ : L2.St}
end
end MP
/-! MP78 -/
set_option Elab.async false
set_option autoImplicit false
set_option linter.all false
set_option maxRecDepth 100000
set_option maxHeartbeats 1000000
namespace PySem.HandSPX
open PySem PySem.Spec L2
section
variable {prog : Program} {w : World} {A : Around} {E : Value → Shared → Prop} {R : Result → Shared → Prop} {h : Heap} {g : Array GenState} {d : Drawn} {t : Nat} {os : OsState}
variable {nm q : Str} {C N : Addr} {bs bm bmB : List Value} {hdct : Bool} {sn : List Str} {sub : List Value} {ab : Bool} {col : Option Bool} {dd : Option Addr} {k0 k1 k2 k3 k5 : Option Value} {B newId initId : String} {kws : List (Str × Value)}
theorem mp_check_new (F : ExcBaseFacts B newId initId bmB) (hT : ∀ X : String, bm.contains (.type X) = bmB.contains (.type X)) {Q : Unit → Shared → Prop}
    (hC : h.get? C = some (excClassObj nm q C N bs bm hdct sn sub ab col dd k0 k1 k2 k3 k5 newId)) (hq : Q () ⟨h, g, d, t, os⟩) : wpAny (model prog w) A (checkBuiltinCall newId ⟨[.ref C], kws⟩) Q E ⟨h, g, d, t, os⟩ := by
  have c1 : (Value.ref C :: bm).contains (.type B) = true := by rw [List.contains_cons, hT, F.hasB, Bool.or_true]
  have c2 := F.noStar
  simp only [checkBuiltinCall, F.newKind, F.newSplit, F.newRow]
  repeat (first | refine wpAny_loadPart_at hC ?_ | (refine wpAny_isSubtype_exc hC ?_; rw [c1]) | refine wpAny_staticBase_exc hC ?_ | refine wpAny_madeBy_exc hC ?_ | simp only [bne_self_eq_false, Bool.false_eq_true, if_false] | wp_step)
  exact hq
theorem mp_new_kw (F : ExcBaseFacts B newId initId bmB) (hT : ∀ X : String, bm.contains (.type X) = bmB.contains (.type X))
    (hC : h.get? C = some (excClassObj nm q C N bs bm hdct sn sub ab col dd k0 k1 k2 k3 k5 newId))
    (hq : R (.ok (.ret (.ref (h.objs.size + 1)))) ⟨(h.push (W.kdv_tup [])).push (excO C h.objs.size), g, d, t, os⟩) :
    codeAny (model prog w) A (.builtin newId ⟨[.ref C], kws⟩) R ⟨h, g, d, t, os⟩ := by
  have z0 := F.ends
  have z1 : (Value.ref C :: bm).contains (.type B) = true := by rw [List.contains_cons, hT, F.hasB, Bool.or_true]
  have z2 : (Value.ref C :: bm).contains (.type "AttributeError") = false := by rw [List.contains_cons, hT, F.noAttr]; rfl
  have z3 : (Value.ref C :: bm).contains (.type "NameError") = false := by rw [List.contains_cons, hT, F.noName]; rfl
  refine codeAny_builtinAt F.entry ?_
  unfold Builtin.«BaseException.__new__»
  refine wpAt_bind ?_
  show wpAt _ _ _ (stack >>= _) _ _ _
  refine wpAt_bind (wpAt_stack fun p below => wpAt_of_wpAny ?_)
  wp_walk
  refine wpAt_of_wpAny ?_
  rw [F.owner]
  repeat (first | with_reducible refine wpAny_madeHere_exc F.canon hC ?_ | with_reducible refine wpAny_loadPart_at hC ?_ | (with_reducible refine wpAny_isSubtype_exc hC ?_; first | rw [z1] | rw [z2] | rw [z3]) | wp_step)
  show R _ _
  rw [Heap.size_push]
  exact hq
theorem mp_check_tc {f : Str} {u : Value} {Q : Unit → Shared → Prop} (hC : h.get? C = some (excClassObj nm q C N bs bm hdct sn sub ab col dd k0 k1 k2 k3 k5 newId))
    (hq : Q () ⟨h, g, d, t, os⟩) : wpAny (model prog w) A (checkBuiltinCall "type.__call__" ⟨[.ref C], [(f, u)]⟩) Q E ⟨h, g, d, t, os⟩ := by
  have z3 := tc_sub
  have zT : (⟨h, g, d, t, os⟩ : Shared).TypeIs (.ref C) "type" := ⟨_, hC, rfl⟩
  simp only [checkBuiltinCall, tc_kind, tc_split]
  repeat (any_goals (first | assumption | with_reducible refine wpAny_loadPart_at hC ?_ | with_reducible refine wpAny_onRaise ?_ | with_reducible refine wpAny_map ?_ | wp_step))
theorem mp_type_call (F : ExcBaseFacts B newId initId bmB) (hT : ∀ X : String, bm.contains (.type X) = bmB.contains (.type X)) {fI : Addr} {Q : Fin → Shared → Prop}
    (hC : h.get? C = some (excClassObj nm q C N bs bm hdct sn sub ab col dd k0 k1 k2 k3 k5 newId))
    (hi : W.Looks (model prog w) h (typeLookup (.ref C) "__init__") (some (.ref fI))) (hb : ∀ self, W.Looks (model prog w) h (bindSpecial (.ref fI) self) (.ref fI, [self]))
    (hq : codeAny (model prog w) A (.call (.ref fI) ⟨[.ref (h.objs.size + 1)], kws⟩)
      (fun r s' => match r with | .ok (.ret v) => v = .none ∧ Q (.done (.ret (.ref (h.objs.size + 1)))) s' | .ok _ => False | .error e => E e s')
      ⟨(h.push (W.kdv_tup [])).push (excO C h.objs.size), g, d, t, os⟩) :
    wpAny (model prog w) A (Builtin.«type.__call__» ⟨[.ref C], kws⟩) Q E ⟨h, g, d, t, os⟩ := by
  repeat (first | with_reducible refine wpAny_loadPart_at hC ?_ | with_reducible refine wpAny_madeBy_exc hC ?_ | wp_step)
  refine codeAny_call_builtin_code (Code.quiet_builtin _ F.quiet) (mp_check_new F hT hC ?_)
  refine mp_new_kw F hT hC ?_
  show wpAny _ _ _ _ _ _
  have kk : ∀ b o, h.get? b = some o → ((h.push (W.kdv_tup [])).push (excO C h.objs.size)).get? b = some o := fun b o e => Heap.get?_push_of_some _ (Heap.get?_push_of_some _ e)
  have z1 := kk _ _ hC
  have z2 : ((h.push (W.kdv_tup [])).push (excO C h.objs.size)).get? (h.objs.size + 1) = some (excO C h.objs.size) := by heap_get
  have z3 : (Value.ref C :: bm).contains (.ref C) = true := by simp
  have z4 := hi.keeps kk
  have z5 := (hb (.ref (h.objs.size + 1))).keeps kk
  unfold isInstance
  repeat (first | with_reducible refine wpAny_loadPart_at z2 ?_ | (with_reducible refine wpAny_isSubtype_exc z1 ?_; rw [z3]) | wp_step)
  show wpAny _ _ (typeLookup (.ref C) _) _ _ _
  refine z4.at ?_
  refine wpAny_holding (wpAny_bind (z5.at ?_))
  refine wpAny_bind (wpAny_call (codeAny_mono hq fun r s' y => ?_))
  rcases r with e | (v | _ | _ | _) <;> first | exact y | exact y.elim | skip
  obtain ⟨rfl, y⟩ := y
  first
    | exact wpAny_pure (wpAny_pure y)
    | (wp_walk; exact y)
/-- C(f = u), C an own error class with an __init__ -/
theorem mp_call_kw (F : ExcBaseFacts B newId initId bmB) (hT : ∀ X : String, bm.contains (.type X) = bmB.contains (.type X)) {f : Str} {u : Value} {fI : Addr}
    (hC : h.get? C = some (excClassObj nm q C N bs bm hdct sn sub ab col dd k0 k1 k2 k3 k5 newId))
    (hi : W.Looks (model prog w) h (typeLookup (.ref C) "__init__") (some (.ref fI))) (hb : ∀ self, W.Looks (model prog w) h (bindSpecial (.ref fI) self) (.ref fI, [self]))
    (hq : codeAny (model prog w) (A.under (.builtin "type.__call__" ⟨[.ref C], [(f, u)]⟩)) (.call (.ref fI) ⟨[.ref (h.objs.size + 1)], [(f, u)]⟩) (W.InitBack (h.objs.size + 1) R)
      ⟨(h.push (W.kdv_tup [])).push (excO C h.objs.size), g, d, t, os⟩) :
    codeAny (model prog w) A (.call (.ref C) ⟨[], [(f, u)]⟩) R ⟨h, g, d, t, os⟩ := by
  have z1 := tc_lookup
  have z2 := tc_bind (.ref C)
  have z3 : (⟨h, g, d, t, os⟩ : Shared).TypeIs (.ref C) "type" := ⟨_, hC, rfl⟩
  refine codeAny_of_tree ?_
  show wpAny _ _ (callAny (.ref C) _) _ _ _
  repeat (any_goals (first | assumption | with_reducible refine wpAny_loadPart_at hC ?_ | wp_step))
  refine ⟨rfl, ?_⟩
  refine codeAny_call_builtin_at (Code.quiet_builtin _ (by decide +kernel)) entry_typeCall (mp_check_tc hC (mp_type_call F hT hC hi hb ?_))
  refine codeAny_mono hq fun r s' y => ?_
  rcases r with e | (v | _ | _ | _) <;> exact y
end
end PySem.HandSPX
namespace MP
open PySem PySem.Spec L2
open PyProof.Rows hiding St

/-! ## errors that carry any value -/
/-- repr of the value u gives the text z, in all heaps from h0 on -/
def Rp (P : Program) (w : World) (h0 : Heap) (u : Value) (z : Str) : Prop := ∀ {A : Around} {E : Value → Shared → Prop} {s : Shared} {Q : Value → Shared → Prop}, A.guards = some [] → A.units + 65 < cLine →
  (∀ b o, h0.get? b = some o → s.heap.get? b = some o) → (∀ h' tk v, (∀ b o, s.heap.get? b = some o → h'.get? b = some o) → Q (.str z v) { s with heap := h', toks := tk }) → wpAny (model P w) A (call (.builtin "repr") [u]) Q E s
section
variable {X : Cx} {cl : Cl} {W : WX}
theorem rp_of {pins : List (Addr × Obj)} {s : Shared} {σ : L2.St} {H : Hp} {io : List Addr} {S : Sto} {d : D} {v : V} {u : Value} {p : PyData} (I : Inv X pins σ H s) (A : Abs X.K cl io S H) (r : RelD X.K io H d v) (ru : RelV v u) (hp : view S 60 d = some p) (hs : p.showable = true) (hz : okS p.shown) : Rp X.prog X.w s.heap u p.shown := by
  intro A' E s' Q hg hu k q
  obtain ⟨p1, p2, p3⟩ := view_dp A 60 _ v p hp r
  have q0 : ∀ tk v, Q (.str p.shown v) { s' with toks := tk } := fun tk v => q _ tk v fun _ _ z => z
  cases r with
  | non =>
    simp only [view, Option.some.injEq] at hp
    subst hp
    cases (show u = Value.none from ru)
    exact PySem.P.repr_of_none (q0 _ _)
  | bl b =>
    simp only [view, Option.some.injEq] at hp
    subst hp
    cases (show u = Value.bool b from ru)
    exact PySem.P.repr_of_bool (q0 _ _)
  | int i =>
    simp only [view, Option.some.injEq] at hp
    subst hp
    obtain ⟨t, rfl⟩ := ru
    exact PySem.P.repr_of_int (by simpa [PyData.showable] using hs) (q0 _ _)
  | str x hx =>
    simp only [view, Option.some.injEq] at hp
    subst hp
    obtain ⟨t, rfl⟩ := ru
    exact PySem.P.repr_of_str (q0 _ _) hz.1
  | @tup a ds ws hq rs =>
    cases (show u = Value.ref a from ru)
    obtain ⟨as, rr⟩ := Dp.reads I p _ _ p1 ru
    exact repr_of_reads' rr hs (fun h => by rw [view_nodict S 60 _ p hp] at h; cases h) hg (by omega) k (fun h' v tk hk => q h' tk v hk) hz.1
  | @ptr n a hn =>
    cases (show u = Value.ref a from ru)
    obtain ⟨as, rr⟩ := Dp.reads I p _ _ p1 ru
    exact repr_of_reads' rr hs (fun h => by rw [view_nodict S 60 _ p hp] at h; cases h) hg (by omega) k (fun h' v tk hk => q h' tk v hk) hz.1
end
section
variable {P : Program} {w : World} {K : PySem.W.Frag} {C fI : Addr} {f : Str} {st : Stmt} {mg : Str → Option Value} {base : Heap} {A : Around} {R : Result → Shared → Prop} {hp : Heap} {g : Array GenState} {d : Drawn} {t : Nat} {os : OsState}
theorem err_initV (T : ErrI P K C fI f st) (M : Mod K mg base) (kb : ∀ b o, base.get? b = some o → hp.get? b = some o) {e t0 : Addr} (hbe : base.get? e = none) {u : Value} {z : Str} {hz0 : Heap} (rp : Rp P w hz0 u z) (kz : ∀ b o, hz0.get? b = some o → hp.get? b = some o) (hz : z.length ≤ 5000) (kwd : Bool) (hroom : A.depth < recursionLimit) (hgd : A.guards = some []) (hun : A.units + 70 < cLine)
    (he : hp.get? e = some (PySem.HandSPX.excO C t0))
    (hq : ∀ h' tk' t1 dx, (∀ b o, b ≠ e → hp.get? b = some o → h'.get? b = some o) → hp.objs.size ≤ dx → dx ≠ e → h'.get? e = some ({ cls := .ref C, dict := some dx, data := .fields #[.ref t1, .none, .none, .none, .bool false, .none] } : Obj) →
      h'.Ns1 dx (fun y => if y = f then some u else none) → R (.ok (.ret .none)) ⟨h', g, d, tk', os⟩) :
    codeAny (model P w) A (.call (.ref fI) (if kwd = true then ⟨[.ref e], [(f, u)]⟩ else ⟨[.ref e, u], []⟩)) R ⟨hp, g, d, t, os⟩ := by
  obtain ⟨name, qual, oc, od, dV, kV, doc, pm, an, cda, ct, cc, osl, lk, hcd, hbind1, hbind2, ⟨ccl, cdd, vs, ccs, file, tf, lkc, hvs, hfile⟩, cl, cld, csl, lkcell⟩ := T.fn
  obtain ⟨msg, kk, p0, p1, p2, p3, p4, p5, p6, p7, p8, p9, q0, q1, q2, q3, hbody, hmsg, hev, hsw⟩ := T.body
  obtain ⟨nm, q, N, bs, bm, sn, sub, ab, col, dd, k0, k1, k2, k3, k5, hC, hbm⟩ := T.oex.cls
  obtain ⟨ar, har, hself⟩ := T.hd
  obtain ⟨mb, hmb, hbb⟩ := M.blt
  have hB : bindArgs (PySem.W.ksFn name qual (defArgs st) (defBody st) (defScope st) dV kV doc pm an (.ref cda) ct cc) (if kwd = true then ⟨[.ref e], [(f, u)]⟩ else ⟨[.ref e, u], []⟩) = pure ((["self", f] : List Str).zip [.ref e, u]) := by
    cases kwd
    · exact hbind1 _ rfl
    · exact hbind2 _ _
  have KX : K.In hp := M.kin.keeps kb
  have kindE : ∀ {x : Str} {L : Addr}, (PySem.W.ksEnv qual (defScope st) L fI (.ref cda) cc).kindOf x = (defScope st).names.lookup x := fun {x L} => rfl
  refine PySem.ks_codeAny_call_defAt (fd := PySem.W.ksFn name qual (defArgs st) (defBody st) (defScope st) dV kV doc pm an (.ref cda) ct cc) (body := defBody st) (binds := (["self", f] : List Str).zip [.ref e, u]) hroom (KX _ _ lk) rfl (M.nolimit.keeps kb)
    (PySem.W.codeRec_of KX hcd) rfl (.of_eq hB) T.nocell (fun x hx => ?_) (fun h₀ hns hk => ?_) T.co T.gen T.kind
  · rcases List.mem_cons.mp hx with rfl | hx
    · exact T.kSelf
    · rcases List.mem_cons.mp hx with rfl | hx
      · exact T.kF
      · cases hx
  have kb0 : ∀ b o, base.get? b = some o → h₀.get? b = some o := fun b o z => hk b o (kb b o z)
  have X0 : K.In h₀ := M.kin.keeps kb0
  have e0 := hk _ _ he
  have nb := hns
  have rl : (fun x => ((["self", f] : List Str).zip [Value.ref e, u]).reverse.lookup x) = fun x => if x = f then some u else if x = "self" then some (Value.ref e) else none := by
    funext x
    show List.lookup x [(f, u), (("self" : Str), Value.ref e)] = _
    by_cases h1 : x = f
    · subst h1
      simp [List.lookup]
    · have e1 : (x == f) = false := by simpa using h1
      rw [if_neg h1]
      by_cases h2 : x = "self"
      · subst h2
        simp [List.lookup, e1]
      · have e2 : (x == ("self" : Str)) = false := by simpa using h2
        rw [if_neg h2]
        simp [List.lookup, e1, e2]
  rw [rl] at hns
  have fself : ("self" : Str) ≠ f := fun z => by
    have := T.fs
    rw [← z] at this
    simp at this
  have mF : (fun x => if x = f then some u else if x = "self" then some (Value.ref e) else none) f = some u := if_pos rfl
  have mS : (fun x => if x = f then some u else if x = "self" then some (Value.ref e) else none) "self" = some (Value.ref e) := by show (if ("self" : Str) = f then _ else _) = _; rw [if_neg fself, if_pos rfl]
  have mgS := PySem.W.mg_none_of M.kin M.glob T.nS
  have mgR := PySem.W.mg_none_of M.kin M.glob T.nR
  have bS : mb "super" = some (.type "super") := (hbb _ (by decide +kernel)).trans (by first | rfl | kernel_rfl)
  have bR : mb "repr" = some (.builtin "repr") := (hbb _ (by decide +kernel)).trans (by first | rfl | kernel_rfl)
  have hcl : PySem.W.clsIn K C = some { name := nm, bases := bs, mro := .ref C :: bm, ns := N, qualname := q, hasDict := true, slotNames := sn, subclasses := sub, abstract := ab, collection := col, hasDel := false } := by unfold PySem.W.clsIn; rw [hC] <;> rfl
  rw [hbody]
  -- the locals' dict
  have eL : hp.objs.size ≠ e := Nat.ne_of_gt (Heap.lt_size he)
  obtain ⟨pl, hev⟩ := hev (PySem.W.ksEnv qual (defScope st) hp.objs.size fI (.ref cda) cc)
  refine PySem.ks_wpAt_execs_cons (PySem.ks_wpAt_Expr_any (PySem.ks_wpAt_MethodCall (pl := pl) ?_ hev) (hi := by
    unfold interactive
    show ((defScope st).kind == .module && _) = false
    rw [T.kind]
    rfl))
  refine PySem.ks_wpAt_super_base T.kSup T.kCls (by decide) rfl (X0 _ _ lk) rfl har rfl (X0 _ _ lkc) rfl hvs hfile T.htop ?_
  refine PySem.W.ks_loadName_global T.kind T.kSup (PySem.Calls.loadGlobal_builtin (M.glob.keeps kb0) mgS (hmb.keeps kb0) bS ⟨rfl, ?_⟩)
  refine wpAny_loadName_free T.kind T.kCls rfl ⟨_, X0 _ _ lkcell, rfl⟩ ?_
  rw [hself]
  refine wpAny_loadName_local T.kind T.kSelf hns mS ?_
  refine PySem.ks_wpAny_isType_cls (X0 _ _ hC) rfl ⟨rfl, ?_⟩
  refine PySem.ks_wpAny_call_super (X0 _ _ hC) rfl e0 rfl (fun c z => by cases z) (PySem.W.looks_mroIn X0 T.mroC) (fun h1 hso k1 => ?_)
  have kb1 : ∀ b o, base.get? b = some o → h1.get? b = some o := fun b o z => k1 b o (kb0 b o z)
  have X1 : K.In h1 := M.kin.keeps kb1
  have ec : e ≠ C := fun z => by
    have := X1 _ _ hC
    rw [← z, k1 _ _ e0] at this
    cases this
  have hI : PySem.W.Looks (model P w) h1 (isInstance (.ref e) (.type "ValueError")) true := PySem.W.Looks.andThen (fun A Q E s k q => wpAny_typeOf_ref (k _ _ (k1 _ _ e0)) q) (PySem.W.looks_subIn X1 T.subV)
  refine PySem.W.kxs_getMethod PySem.W.kxs_ValueError hso (PySem.W.looks_opaque X1 T.stat) (l₀ := .ref C :: bm) (fun A Q E s k q => wpAny_bind ((PySem.W.looks_clsIn X1 hcl) A _ E s k (wpAny_pure q))) rfl X1 (by have := T.sup; unfold PySem.W.ks_superIn at this; rw [hcl] at this; exact this) hI ec (by decide) ?_
  -- the argument: whatever text it is
  have kw : ∀ b o, h1.get? b = some o → (h1.push (PySem.W.kxs_mw "ValueError.__init__" e)).get? b = some o := fun b o z => Heap.get?_push_of_some _ z
  have gw : (h1.push (PySem.W.kxs_mw "ValueError.__init__" e)).get? h1.objs.size = some (PySem.W.kxs_mw "ValueError.__init__" e) := Heap.get?_push_at rfl rfl
  have kb2 : ∀ b o, base.get? b = some o → (h1.push (PySem.W.kxs_mw "ValueError.__init__" e)).get? b = some o := fun b o z => kw b o (kb1 b o z)
  have ns2 := (hns.at fun o z => kw _ _ (k1 _ _ z) : (h1.push (PySem.W.kxs_mw "ValueError.__init__" e)).Ns hp.objs.size _)
  have X2 : K.In (h1.push (PySem.W.kxs_mw "ValueError.__init__" e)) := M.kin.keeps kb2
  have e2 := kw _ _ (k1 _ _ e0)
  have k2 : ∀ b o, hp.get? b = some o → (h1.push (PySem.W.kxs_mw "ValueError.__init__" e)).get? b = some o := fun b o z => kw b o (k1 b o (hk b o z))
  generalize h1.push (PySem.W.kxs_mw "ValueError.__init__" e) = h2 at kw gw kb2 ns2 X2 e2 k2
  generalize h1.objs.size = um at gw
  refine PySem.W.kxs_callWith (i := "ValueError.__init__") (x := e) rfl (PySem.Calls.evalArgs_plain (PySem.Calls.spliced_cons (wpAny_BinOp (wpAny_Constant_str ?_))))
  refine wpAny_Call_Name_kw (wpAny_Name (PySem.W.ks_loadName_global T.kind T.kRep (PySem.Calls.loadGlobal_builtin (M.glob.keeps kb2) mgR (hmb.keeps kb2) bR ?_)))
  refine PyProof.Rows.callWith_builtin1 (PySem.Calls.spliced_cons (wpAny_Name (wpAny_loadName_local T.kind T.kF ns2 mF (PySem.Calls.spliced_nil ?_)) T.fd))
  have kz2 : ∀ b o, hz0.get? b = some o → h2.get? b = some o := fun b o y => k2 b o (kz b o y)
  refine rp hgd (by show A.units + 3 + 65 < _; omega) kz2 fun h2' tkr tv kr => PySem.P.add_str ?_
  replace gw : h2'.get? um = some (PySem.W.kxs_mw "ValueError.__init__" e) := kr _ _ gw
  replace kb2 : ∀ b o, base.get? b = some o → h2'.get? b = some o := fun b o y => kr b o (kb2 b o y)
  have ns2' := (ns2.at fun o y => kr _ _ y : h2'.Ns hp.objs.size _)
  clear ns2
  have ns2 := ns2'
  clear ns2'
  replace X2 : K.In h2' := M.kin.keeps kb2
  replace e2 := kr _ _ e2
  replace k2 : ∀ b o, hp.get? b = some o → h2'.get? b = some o := fun b o y => kr b o (k2 b o y)
  clear kz2 kr kw
  revert gw kb2 ns2 X2 e2 k2
  generalize h2' = h2
  intro gw kb2 ns2 X2 e2 k2
  have fin : ∀ (v : Value) (tk2 : Nat), wpAny (model P w) (A.deeper (PySem.W.ksEnv qual (defScope st) hp.objs.size fI (.ref cda) cc)) (call (.ref um) [v])
      (fun _ s' => PySem.wpAt (model P w) (A.deeper (PySem.W.ksEnv qual (defScope st) hp.objs.size fI (.ref cda) cc)) (.func (errBody f msg kk p0 p1 p2 p3 p4 p5 p6 p7 p8 p9 q0 q1 q2 q3) (PySem.W.ksEnv qual (defScope st) hp.objs.size fI (.ref cda) cc))
        (execs [.Assign [.Attribute (.Name "self" q0) f q1] (.Name f q2) q3] (PySem.W.ksEnv qual (defScope st) hp.objs.size fI (.ref cda) cc)) (fun fl s'' => R (.ok (.ret (match fl with | .ret v => v | _ => .none))) s'')
        (fun ex s'' => wpAny (model P w) (A.deeper (PySem.W.ksEnv qual (defScope st) hp.objs.size fI (.ref cda) cc)) (leaving (PySem.W.ksEnv qual (defScope st) hp.objs.size fI (.ref cda) cc) ex) (fun _ s3 => R (.error ex) s3) (fun e' s3 => R (.error e') s3) s'') s')
      (fun ex s'' => wpAny (model P w) (A.deeper (PySem.W.ksEnv qual (defScope st) hp.objs.size fI (.ref cda) cc)) (leaving (PySem.W.ksEnv qual (defScope st) hp.objs.size fI (.ref cda) cc) ex) (fun _ s3 => R (.error ex) s3) (fun e' s3 => R (.error e') s3) s'')
      ⟨h2, g, d, tk2, os⟩ := fun v tk2 => by
    have FB := PySem.F.excBase_ValueError
    refine wpAny_call (codeAny_of_tree ?_)
    show wpAny _ _ (callAny (.ref um) ⟨[v], []⟩) _ _ _
    unfold callAny
    refine wpAny_bind (wpAny_load gw ?_)
    simp only [PySem.W.kxs_mw, show ∀ b c : Bool, (b || c || (Value.type "method-wrapper" == Value.type "method-wrapper")) = true from fun b c => by simp, if_true]
    refine PySem.W.KFB.if_so (by decide) (wpAny_bind (PySem.W.check_bound_init FB.toExcCallFacts (X2 _ _ hC) e2 rfl ?_))
    refine wpAny_bind (wpAny_pure (wpAny_pure ⟨plainId_quiet FB.init.plain _, codeAny_builtin FB.initEntry ?_⟩))
    refine PySem.W.exc_init_tree (cls := .ref C) (t0 := t0) (dv := none) (c2 := .none) (c3 := .none) (b4 := .bool false) e2 (by rw [sizeLine_eq]; simp) fun h3 k3 e3 _ => ?_
    generalize h2.objs.size = t1 at e3
    have nbe : ∀ b o, base.get? b = some o → b ≠ e := fun b o z y => by rw [y, hbe] at z; cases z
    have kb3 : ∀ b o, base.get? b = some o → h3.get? b = some o := fun b o z => k3 b o (nbe b o z) (kb2 b o z)
    have X3 : K.In h3 := M.kin.keeps kb3
    have ns3 := (ns2.at fun o z => k3 _ _ eL z : h3.Ns hp.objs.size _)
    refine wpAt_of_wpAny (wpAny_execs_cons (plainObj_wpAny_Assign_Attribute (wpAny_Name (wpAny_loadName_local T.kind T.kF ns3 mF (wpAny_Name (wpAny_loadName_local T.kind T.kSelf ns3 mS ?_))) T.fd) (hsw _)))
    refine PySem.W.set_plain X3 (ox := { cls := .ref C, dict := none, data := .fields #[.ref t1, .none, .none, .none, .bool false, .none] }) (od := none) ⟨e3, rfl, rfl, trivial⟩ T.oex.sa ?_
    refine PySem.HandSPX.exc_osa X3 e3 hcl (show PySem.HandSPX.refsVE (.ref C :: bm) = true from hbm) rfl T.fno fun h4 tk4 dx k4 dn dne hx hn => ?_
    have szs : hp.objs.size ≤ h3.objs.size := by
      obtain ⟨oL, _, _, hL, _⟩ := ns3
      exact Nat.le_of_lt (Heap.lt_size hL)
    exact wpAny_execs_nil (hq h4 tk4 t1 dx (fun b o hb z => k4 b o hb (k3 b o hb (k2 b o z))) (Nat.le_trans szs dn) dne hx hn)
  have gw' : PySem.W.KxsAt "ValueError.__init__" um e h2 := gw
  split
  · exact PySem.Calls.spliced_nil ⟨gw', fin _ _⟩
  · split
    · exact PySem.Calls.spliced_nil ⟨gw', fin _ _⟩
    · refine ⟨?_, PySem.Calls.spliced_nil ⟨gw', fin _ _⟩⟩
      rw [PySem.Str.length_append, sizeLine_eq]
      omega
end
section
variable {X : Cx} {C fI : Addr} {f x : Str} {st : Stmt} {e : Expr} {t : TE} {p pos kp : Pos}
/-- repr of y gives z, wherever H is told of -/
def RpH (X : Cx) (H : Hp) (y : V) (z : Str) : Prop := ∀ (pins : List (Addr × Obj)) (σ : L2.St) (s : Shared) (u : Value), Inv X pins σ H s → RelV y u → Rp X.prog X.w s.heap u z
def errV (X : Cx) (C : Addr) (f : Str) (Q : XK) (y : V) (H1 : Hp) : Prop := ∃ z : Str, z.length ≤ 5000 ∧ RpH X H1 y z ∧ ∀ dx, H1 dx = none → Q (.ref C) (some dx) (upd H1 dx (.xd [(f, y)]))
def errVs (X : Cx) (C : Addr) (f : Str) (Q : XK) : List V → Hp → Prop
  | [y], H1 => errV X C f Q y H1
  | _, _ => False
theorem err_core (T : ErrI X.prog X.K C fI f st) {pins : List (Addr × Obj)} {σ : L2.St} {H1 : Hp} {hp : Heap} {g : Array GenState} {dr : Drawn} {tkk : Nat} {os : OsState} {Q : XK} {y : V} {u : Value} {rest : List Value} {A' : Around} {R : Result → Shared → Prop}
    (I1 : Inv X pins σ H1 ⟨hp, g, dr, tkk, os⟩) (ru : RelV y u) (hh : errV X C f Q y H1) (hroom : Room 1 A') (hgd : A'.guards = some []) (kwd : Bool)
    (hq : ∀ s', MkP X pins σ Q (.ref (hp.objs.size + 1)) s' → R (.ok (.ret (.ref (hp.objs.size + 1)))) s') :
    codeAny (model X.prog X.w) A' (.call (.ref fI) (if kwd = true then ⟨[.ref (hp.objs.size + 1)], [(f, u)]⟩ else ⟨[.ref (hp.objs.size + 1), u], []⟩)) (PySem.W.InitBack (hp.objs.size + 1) R) ⟨(hp.push (PySem.W.kdv_tup rest)).push (PySem.HandSPX.excO C hp.objs.size), g, dr, tkk, os⟩ := by
  obtain ⟨z, hz, hrp, hQ⟩ := hh
  have kk : ∀ b o, hp.get? b = some o → ((hp.push (PySem.W.kdv_tup rest)).push (PySem.HandSPX.excO C hp.objs.size)).get? b = some o := fun b o y => Heap.get?_push_of_some _ (Heap.get?_push_of_some _ y)
  have hget : ((hp.push (PySem.W.kdv_tup rest)).push (PySem.HandSPX.excO C hp.objs.size)).get? (hp.objs.size + 1) = some (PySem.HandSPX.excO C hp.objs.size) := by heap_get
  have hbn : hp.get? (hp.objs.size + 1) = none := Heap.get?_none_of_le (Nat.le_succ _)
  have kbs : ∀ b o, X.base.get? b = some o → hp.get? b = some o := I1.bk
  have hbe : X.base.get? (hp.objs.size + 1) = none := by
    cases y : X.base.get? (hp.objs.size + 1) with
    | none => rfl
    | some o => rw [kbs _ _ y] at hbn; cases hbn
  have hszp : ((hp.push (PySem.W.kdv_tup rest)).push (PySem.HandSPX.excO C hp.objs.size)).objs.size = hp.objs.size + 2 := by rw [Heap.size_push, Heap.size_push]
  refine err_initV T I1.mod (fun b o y => kk b o (kbs b o y)) hbe (hrp pins σ _ u I1 ru) kk hz kwd hroom.depth hgd (by have := hroom.un; omega) hget fun h' tk' t1 dx k hdx hde hx hn => ?_
  rw [hszp] at hdx
  refine ⟨rfl, hq _ ?_⟩
  obtain ⟨G, g1, g2⟩ := restrict h' fun b => decide (b ≠ hp.objs.size + 1)
  have gk : ∀ b, b ≠ hp.objs.size + 1 → G.get? b = h'.get? b := fun b hb => g1 b (decide_eq_true hb)
  have ge : G.get? (hp.objs.size + 1) = none := g2 _ (by simp)
  have hH : H1 (hp.objs.size + 1) = none := I1.hok.fresh (Nat.le_succ _)
  have hHd : H1 dx = none := I1.hok.fresh (Nat.le_trans (Nat.le_add_right _ 2) hdx)
  have keep : ∀ b o, hp.get? b = some o → G.get? b = some o := fun b o y => by
    have hb : b ≠ hp.objs.size + 1 := fun v => by rw [v, hbn] at y; cases y
    rw [gk b hb]
    exact k b o hb (kk b o y)
  have J : Inv X pins σ (upd H1 dx (.xd [(f, y)])) ⟨G, g, dr, tk', os⟩ := I1.laid (t' := tk') (h' := G) (a := dx) (o := .xd [(f, y)]) keep (Nat.le_trans (Nat.le_add_right _ 2) hdx)
    ⟨_, hn.at fun o v => (gk dx hde).trans v, relO_put (fs := []) ru fun g => True.intro⟩
  refine ⟨hp.objs.size + 1, _, _, ⟨G, g, dr, tk', os⟩, _, .ref C, some dx, rfl, J, fun b o v => ?_, ge, hx, ⟨rfl, rfl⟩, rfl, rfl, ?_, rfl, J.bare, raises_own T.oex.exC T.oex.tyC, hQ dx hHd⟩
  · by_cases hb : b = hp.objs.size + 1
    · rw [hb, ge] at v; cases v
    · rw [← gk b hb]; exact v
  · rw [upd_ne (Ne.symm hde)]; exact hH
/-- C(f = e) -/
theorem pmk_errK (T : ErrI X.prog X.K C fI f st) (gC : X.mg x = some (.ref C)) (hg : Gl X x) (hr : Room 2 X.A) (hgd : X.A.guards = some []) (he : PE X e t)
    (hall : (backToKw pos (keywordEach [⟨some f, e, kp⟩] X.env)).all (·.1.isSome) = true := by rfl) (hks : (backToKw pos (keywordEach [⟨some f, e, kp⟩] X.env)).filterMap (·.1) = [f] := by rfl)
    (hpl : ((backTo pos (starEach [] X.env)).any (·.1) || (backToKw pos (keywordEach [⟨some f, e, kp⟩] X.env)).any (·.1.isNone)) = false := by rfl) (hdb : (x == ("__debug__" : Str)) = false := by decide) :
    PMk X (.Call (.Name x p) [] [⟨some f, e, kp⟩] pos) (fun σ H Q => t σ H fun y H1 => errV X C f Q y H1) := by
  intro pins s σ H Q I h
  obtain ⟨nm, q, N, bs, bm, sn, sub, ab, col, dd, k0, k1, k2, k3, k5, hC, hbm⟩ := T.oex.cls
  refine wpAny_Call_Name_kw (ld_glob I hg gC (PySem.W.callWith_KW0 (h₀ := X.base) I.ok.mod.kin T.oex.kC hall ?_ hpl) hdb)
  rw [hks]
  show wpAny _ _ (evalAll [(do let v ← eval e X.env; standAt pos; pure v)]) _ _ s
  refine wpAny_evalAll_cons (wpAny_bind (thn (he.run pins s σ H _ I h) fun u s1 ⟨y, H1, I1, ru, hh⟩ => wpAny_bind (wpAny_standAt (wpAny_pure ?_))))
  refine wpAny_evalAll_nil ⟨I1.kIn, ?_⟩
  obtain ⟨hp, g, dr, tkk, os⟩ := s1
  show wpAny _ _ (call (.ref C) [] [(f, u)]) _ _ _
  refine wpAny_call (PySem.HandSPX.mp_call_kw PySem.F.excBase_ValueError (fun Y => PySem.HandSPX.refsVE_contains Y bm hbm) (I1.kIn _ _ hC) (PySem.W.looks_findIn I1.kIn T.iC) (fun self => PySem.W.bind_fn I1.kIn self T.tI) ?_)
  exact err_core T I1 ru hh (hr.make C [] [(f, u)]) hgd true fun s' q => q
end
end MP
/-! MP79 -/
set_option Elab.async false
set_option autoImplicit false
set_option linter.all false
set_option maxRecDepth 100000
set_option maxHeartbeats 1000000
namespace MP
open PySem PySem.Spec L2
open PyProof.Rows hiding St

/-! ## raise C(e), C(f = e), any e that may be shown -/
def mRaiseV (c f : Str) (m : M D) : MS := eS m fun d ρ S => match view S 60 d with
  | some p => if p.showable = true ∧ okS p.shown ∧ p.shown.length ≤ 5000 then .ok (.exn ⟨c, [(f, d)]⟩ ρ) S else .bad
  | none => .bad
/-- raise C(e), C without an own __init__ -/
def mRaiseS (c : Str) (m : M D) : MS := eS m fun _ ρ S => .ok (.exn ⟨c, []⟩ ρ) S
section
variable {X : Cx} {cl : Cl} {W : WX} {C fI : Addr} {f x : Str} {st : Stmt} {e : Expr} {t : TE} {m : M D} {p pos pos2 kp : Pos}
theorem raiseV_of (hcl : cl.er x = some C) {er : Expr} (hp : PMk X er (fun σ H Q => tE cl X.K W m σ H fun y H1 => errV X C f Q y H1)) (hc : X.calm = true) (tk : Takes X W) : StE X cl W (.Raise (some er) none pos2) (mRaiseV x f m) := by
  refine PS.imp (ps_raise hc tk hp) fun E σ H h => ?_
  refine tS_e h fun d v S1 io1 H1 ρ A1 R1 rd G1 _ => ?_
  cases hv : view S1 60 d with
  | none => simp only [hv] at G1; exact G1.elim
  | some p =>
    by_cases hz : p.showable = true ∧ okS p.shown ∧ p.shown.length ≤ 5000
    · simp only [hv, if_pos hz] at G1
      refine ⟨p.shown, hz.2.2, fun pins σ s u I ru => rp_of I A1 rd ru hv hz.1 hz.2.1, fun dx hdx => ?_⟩
      have g : Grow X.K io1 H1 io1 (upd H1 dx (.xd [(f, v)])) := grow_upd (.inl hdx)
      exact G1 io1 _ (.ref C) (some dx) σ (A1.tup hdx) g (RelRho.mono g R1) ⟨C, hcl, rfl, .inr ⟨dx, _, rfl, upd_same, .cons ⟨rfl, rd.mono g⟩ .nil⟩⟩
    · simp only [hv, if_neg hz] at G1
      exact G1.elim
theorem s_raiseK (hc : X.calm = true) (tk : Takes X W) (T : ErrI X.prog X.K C fI f st) (gC : X.mg x = some (.ref C)) (hg : Gl X x) (hr : Room 2 X.A) (hgd : X.A.guards = some []) (hcl : cl.er x = some C) (he : EvE X cl W e m)
    (hall : (backToKw pos (keywordEach [⟨some f, e, kp⟩] X.env)).all (·.1.isSome) = true := by rfl) (hks : (backToKw pos (keywordEach [⟨some f, e, kp⟩] X.env)).filterMap (·.1) = [f] := by rfl)
    (hpl : ((backTo pos (starEach [] X.env)).any (·.1) || (backToKw pos (keywordEach [⟨some f, e, kp⟩] X.env)).any (·.1.isNone)) = false := by rfl) (hdb : (x == ("__debug__" : Str)) = false := by decide) :
    StE X cl W (.Raise (some (.Call (.Name x p) [] [⟨some f, e, kp⟩] pos)) none pos2) (mRaiseV x f m) :=
  raiseV_of hcl (pmk_errK T gC hg hr hgd he.pe hall hks hpl hdb) hc tk
theorem s_raiseS (hc : X.calm = true) (tk : Takes X W) (T : ErrC X.K C) (q : PySem.W.excIn X.K C [.type "ValueError", .type "Exception", .type "BaseException", .type "object"] "ValueError.__new__" = true) (gC : X.mg x = some (.ref C)) (hg : Gl X x) (hcl : cl.er x = some C) (he : EvE X cl W e m)
    (hs : starEach [e] X.env = (false, eval e X.env) :: starEach [] X.env := by rfl) (hdb : (x == ("__debug__" : Str)) = false := by decide) :
    StE X cl W (.Raise (some (.Call (.Name x p) [e] [] pos)) none pos2) (mRaiseS x m) := by
  refine PS.imp (ps_raise hc tk (SkE.pmk_own1 PySem.F.excBase_ValueError q gC T.oex.kC (raises_own T.oex.exC T.oex.tyC) hg he.pe hs hdb)) fun E σ H h => ?_
  refine tS_e h fun d v S1 io1 H1 ρ A1 R1 rd G1 _ => ?_
  exact G1 io1 H1 (.ref C) none σ A1 Grow.rfl' R1 ⟨C, hcl, rfl, .inl ⟨rfl, rfl⟩⟩
end

/-! ## isinstance(e, C), e a caught error of an own class -/
structure XiC (K : PySem.W.Frag) (C : Addr) : Prop where
  hcl : (PySem.W.clsIn K C).isSome = true
  hga : PySem.W.findIn K (.ref C) "__getattribute__" = some (some (.builtin "BaseException.__getattribute__"))
  hgt : PySem.W.findIn K (.ref C) "__getattr__" = some none
  hsub : PySem.W.subIn K (.ref C) (.type "BaseException") = some true
  ha : PySem.W.findIn K (.ref C) "__class__" = some (some (.builtin "object.__class__"))
  hn : PySem.W.specialIn K (.builtin "object.__class__") "__get__" = some (some (.builtin "getset_descriptor.__get__"))
  ht : PySem.W.takesIn K (.builtin "object.__class__") = some true
  hm : PySem.W.mroIn K C (.type "object") = some true
def isiE (f : Str → Option Bool) : F1 := fun x S => match x with
  | .ptr n => match S[n]? with
    | some (.exc c _) => match f c with
      | some b => .ok (.bl b) S
      | none => .bad
    | _ => .bad
  | _ => .bad
def rIsX (K : PySem.W.Frag) : List V → Hp → VK → Prop := fun xs H Q => ∃ (a C : Addr) (d : Option Addr) (c : V) (u : Value) (b : Bool), xs = [.ref a, c] ∧ H a = some (exV a C d) ∧ (∀ dd, d = some dd → ∃ ws, H dd = some (.xd ws)) ∧ XiC K C ∧ ClsV c u ∧ PySem.W.kitOne K (.ref C) u = some b ∧ Q (.bl b) H
section
variable {X : Cx} {cl : Cl} {W : WX} {e cx : Expr} {m : M D} {p pos : Pos}
theorem call_isX : CallR X (.builtin "isinstance") (rIsX X.K) := by
  intro pins s σ H xs us Q I r h
  obtain ⟨a, C, d, c, u, b, rfl, hH, hd, T, hcv, e, q⟩ := h
  obtain ⟨u1, u2, rfl, r1, r2⟩ := vals2 r
  have e2 := hcv.eq r2
  subst e2
  cases (show u1 = Value.ref a from r1)
  have oa : ObjOk X.prog X.w H s.heap a (exV a C d) := I.hok a _ hH
  obtain ⟨⟨oe, vs, ha, hz, hdt, _⟩, _⟩ := oa
  have hnc : PySem.W.notCls oe := by unfold PySem.W.notCls; rw [hdt] <;> rfl
  cases d with
  | none =>
    have J : PySem.W.InstAt s.heap a oe C none := ⟨ha, hz.1, hnc, by rw [hz.2]; exact trivial⟩
    exact PySem.W.kia_one (PySem.W.kitx_exc T.hcl T.hga T.hgt T.hsub T.ha T.hn T.ht T.hm) I.kIn J e (fun z => nomatch z) fun tk => ⟨.bl b, H, I.tok tk, rfl, q⟩
  | some dd =>
    obtain ⟨ws, hdd⟩ := hd dd rfl
    have hx : ObjOk X.prog X.w H s.heap dd (.xd ws) := I.hok dd _ hdd
    obtain ⟨mA, hns, hr⟩ := hx
    obtain ⟨od, ho, hl⟩ := lookIn_ns hns
    have J : PySem.W.InstAt s.heap a oe C (some od) := ⟨ha, hz.1, hnc, by rw [hz.2]; exact ho⟩
    exact PySem.W.kia_one (PySem.W.kitx_exc T.hcl T.hga T.hgt T.hsub T.ha T.hn T.ht T.hm) I.kIn J e (fun z => nomatch z) fun tk => ⟨.bl b, H, I.tok tk, rfl, q⟩
theorem ev_isiE {f : Str → Option Bool} {v : V} {u : Value} (hX : ∀ c C, cl.er c = some C → XiC X.K C) (hf : ∀ c C b, cl.er c = some C → f c = some b → PySem.W.kitOne X.K (.ref C) u = some b) (hcv : ClsV v u) (hc : PE X cx (tC v)) (he : EvE X cl W e m)
    (hm : X.mg "isinstance" = none) (hg : Gl X "isinstance" := by rfl) (hs : starEach [e, cx] X.env = (false, eval e X.env) :: starEach [cx] X.env := by rfl) (hs2 : starEach [cx] X.env = (false, eval cx X.env) :: starEach [] X.env := by rfl)
    (hpl : (backTo pos (starEach [cx] X.env)).any (·.1) = false := by rfl) : EvE X cl W (.Call (.Name "isinstance" p) [e, cx] [] pos) (mUn (isiE f) m) := by
  refine EvE.of_pe (pe_callB call_isX hg hm PyProof.Rows.boot_isinstance (pa_cons he.pe (pa_cons hc pa_nil hs2) hs) (by decide) (by decide) hs hpl) fun σ H io ρ S A R G => ?_
  refine ⟨io, ρ, S, A, R, Good.fst G, fun d S1 io1 H1 vx em A1 g1 rd => ?_⟩
  have e2 : mUn (isiE f) m ρ S = isiE f d S1 := by unfold mUn; rw [em]; rfl
  rw [e2] at G
  rw [e2]
  cases rd with
  | @ptr n a hn =>
    unfold isiE at G ⊢
    simp only at G ⊢
    cases hi : S1[n]? with
    | none => rw [hi] at G; exact False.elim G
    | some o =>
      rw [hi] at G
      cases ptr_obj A1 hn hi with
      | @exc _ C c fs d hC hH hF =>
        simp only at G ⊢
        cases hb : f c with
        | none => rw [hb] at G; exact False.elim G
        | some b =>
          refine ⟨a, C, d, v, u, b, rfl, hH, fun dd ed => ?_, hX _ _ hC, hcv, hf _ _ _ hC hb, .bl b, S1, io1, rfl, A1, g1, .bl b⟩
          rcases hF with ⟨_, ef⟩ | ⟨dd', ws, e3, hdd, _⟩
          · rw [ed] at ef; cases ef
          · rw [ed] at e3; cases e3; exact ⟨ws, hdd⟩
      | _ => exact False.elim G
  | _ => exact False.elim G
end
end MP
/-! MP80 -/
set_option Elab.async false
set_option autoImplicit false
set_option linter.all false
set_option maxRecDepth 100000
set_option maxHeartbeats 1000000
namespace MP
open PySem PySem.Spec L2
open PyProof.Rows hiding St

/-! ## str(x); count and index of a list of bools -/
def strA : FL
  | [.str x], S => .ok (.str x) S
  | xs, S => reprS xs S
def boolsOf : List D → Option (List Bool)
  | [] => some []
  | .bl b :: ds => (boolsOf ds).map (b :: ·)
  | _ :: _ => none
def countB : FM := fun x xs S => match x, xs with
  | .ptr n, [.bl k] => match S[n]? with
    | some (.lst ds) => match boolsOf ds with
      | some bs => .ok (.int (bs.count k : Nat)) S
      | none => .bad
    | _ => .bad
  | _, _ => .bad
def indexB : FM := fun x xs S => match x, xs with
  | .ptr n, [.bl k] => match S[n]? with
    | some (.lst ds) => match boolsOf ds with
      | some bs => if k ∈ bs then .ok (.int (bs.idxOf k : Nat)) S else .bad
      | none => .bad
    | _ => .bad
  | _, _ => .bad
section
variable {X : Cx} {cl : Cl} {W : WX}
theorem cb_strA (hg : X.A.guards = some []) (hu : X.A.units + 65 < cLine) : CaS X cl W (.type "str") strA := by
  intro pins s σ H io S xs vs us I A rx ru G
  unfold strA at G ⊢
  split at G
  · rename_i z
    obtain ⟨v, rfl, r⟩ := one_arg rx
    cases r with
    | str _ hx =>
      obtain ⟨u, rfl, t, rfl⟩ := vals1 ru
      exact PySem.P.str_of_str ⟨_, S, io, H, .str z, rfl, I, A, Grow.rfl', .str _ hx, t, rfl⟩
  · rename_i hne
    unfold reprS at G ⊢
    split at G
    · obtain ⟨v, rfl, r⟩ := one_arg rx
      split at G
      · rename_i p hp
        split at G
        · rename_i hz
          rw [if_pos hz]
          obtain ⟨p1, p2, p3⟩ := view_dp A 60 _ v p hp r
          obtain ⟨u, rfl, ru'⟩ := Vals.one ru
          have fin : ∀ t s', Inv X pins σ H s' → EvP X cl pins σ io H (.ok (.str p.shown) S) (.str p.shown t) s' := fun t s' I' => ⟨_, S, io, H, .str p.shown, rfl, I', A, Grow.rfl', .str _ hz.2, t, rfl⟩
          cases r with
          | non =>
            simp only [view, Option.some.injEq] at hp
            subst hp
            cases (show u = Value.none from ru')
            exact PySem.P.str_of_none (fin _ _ (I.tok _))
          | bl b =>
            simp only [view, Option.some.injEq] at hp
            subst hp
            cases (show u = Value.bool b from ru')
            exact PySem.P.str_of_bool (fin _ _ (I.tok _))
          | int i =>
            simp only [view, Option.some.injEq] at hp
            subst hp
            obtain ⟨t, rfl⟩ := ru'
            exact PySem.P.str_of_int (by simpa [PyData.showable] using hz.1) (fin _ _ (I.tok _))
          | str x hx => exact absurd rfl (hne x)
          | @tup a ds ws hq rs =>
            cases (show u = Value.ref a from ru')
            obtain ⟨as, rr⟩ := Dp.reads I p _ _ p1 ru'
            exact str_of_reads rr hz.1 (fun h => by rw [view_nodict S 60 _ p hp] at h; cases h) hg (by omega) (fun _ _ e => e) (fun h' u tk hk => fin _ _ (I.kept hk)) hz.2.1
          | @ptr n a hn =>
            cases (show u = Value.ref a from ru')
            obtain ⟨as, rr⟩ := Dp.reads I p _ _ p1 ru'
            exact str_of_reads rr hz.1 (fun h => by rw [view_nodict S 60 _ p hp] at h; cases h) hg (by omega) (fun _ _ e => e) (fun h' u tk hk => fin _ _ (I.kept hk)) hz.2.1
        · exact False.elim G
      · exact False.elim G
    · exact False.elim G
theorem boolsOf_some : ∀ {ds : List D} {bs : List Bool}, boolsOf ds = some bs → ds = bs.map D.bl
  | [], bs, h => by simp only [boolsOf, Option.some.injEq] at h; subst h; rfl
  | d :: ds, bs, h => by
    cases d with
    | bl b =>
      simp only [boolsOf, Option.map_eq_some_iff] at h
      obtain ⟨r, h1, rfl⟩ := h
      rw [boolsOf_some h1]; rfl
    | _ => simp [boolsOf] at h
theorem boolsOf_map (bs : List Bool) : boolsOf (bs.map D.bl) = some bs := by
  induction bs with
  | nil => rfl
  | cons b bs ih => simp [boolsOf, ih]
theorem rel_bools {K : PySem.W.Frag} {io : List Addr} {H : Hp} : ∀ {bs : List Bool} {ws : List V}, RelDs K io H (bs.map D.bl) ws → ws = bs.map V.bl
  | [], _, .nil => rfl
  | b :: bs, _, .cons h t => by
    rw [rel_bools t]
    cases h
    rfl
theorem bools_reads {h : Heap} : ∀ {bs : List Bool} {us : List Value}, Vals (bs.map V.bl) us → ReadsAll h us (bs.map PyData.bool) []
  | [], _, .nil => .nil
  | b :: bs, _, .cons r t => by
    cases (show _ = Value.bool b from r)
    exact .cons (.bool b) (bools_reads t)
theorem countIn_bools (k : Bool) : ∀ bs : List Bool, countIn (.bool k) (bs.map PyData.bool) = (bs.count k : Nat)
  | [] => rfl
  | b :: bs => by
    rw [List.map_cons, countIn, countIn_bools k bs, List.count_cons]
    cases b <;> cases k <;> simp [same] <;> omega
theorem mt_countB : MtS X cl W "list.count" countB := by
  intro pins s σ H io S x xs vx vs u us I A rx ru rxs rus G
  unfold countB at G ⊢
  split at G
  · rename_i n k
    split at G
    · rename_i ds hd
      split at G
      · rename_i bs hb
        cases rx with
        | @ptr _ l hn =>
          cases (show u = Value.ref l from ru)
          obtain ⟨w, rfl, rw'⟩ := one_arg rxs
          obtain ⟨u2, rfl, ru2⟩ := Vals.one rus
          cases rw' with
          | bl _ =>
            cases (show u2 = Value.bool k from ru2)
            have e := boolsOf_some hb
            subst e
            cases ptr_obj A hn hd with
            | @lst _ _ ws hH r =>
              have ev := rel_bools r
              subst ev
              obtain ⟨zz, its, m, rr, hl, e⟩ := I.lstM hH
              refine count_list_bools (xs := bs.map PyData.bool) (as := []) (hp := s.heap) ⟨_, e, rfl, m, rfl⟩ (bools_reads rr) ?_ ?_
              · rw [List.all_eq_true]
                intro q hq
                obtain ⟨b, _, rfl⟩ := List.mem_map.mp hq
                rfl
              · rw [countIn_bools]
                exact ⟨_, S, io, H, .int _, rfl, I.tok _, A, Grow.rfl', .int _, _, rfl⟩
      · exact False.elim G
    · exact False.elim G
  · exact False.elim G
theorem mt_indexB : MtS X cl W "list.index" indexB := by
  intro pins s σ H io S x xs vx vs u us I A rx ru rxs rus G
  unfold indexB at G ⊢
  split at G
  · rename_i n k
    split at G
    · rename_i ds hd
      split at G
      · rename_i bs hb
        split at G
        · rename_i hk
          rw [if_pos hk]
          cases rx with
          | @ptr _ l hn =>
            obtain ⟨w, rfl, rw'⟩ := one_arg rxs
            cases rw' with
            | bl _ =>
              have e := boolsOf_some hb
              subst e
              cases ptr_obj A hn hd with
              | @lst _ _ ws hH r =>
                have ev := rel_bools r
                subst ev
                have hjn : bs.idxOf k < bs.length := List.idxOf_lt_length_of_mem hk
                refine thn (mt_index pins s σ H _ _ _ _ (fun y H' => y = .int (bs.idxOf k : Nat) ∧ H' = H) I ru rus ⟨l, bs.map V.bl, .bl k, bs.idxOf k, .bl k, rfl, rfl, SqL.of hH, rfl, ?_, ?_, ?_, ?_, rfl, rfl⟩) fun v s' ⟨y, H', I', rv, ey, eH⟩ => by subst ey eH; exact ⟨_, S, io, _, _, rfl, I', A, Grow.rfl', .int _, rv⟩
                · rw [List.all_eq_true]
                  intro q hq
                  obtain ⟨b, _, rfl⟩ := List.mem_map.mp hq
                  rfl
                · rw [List.getElem?_map, List.getElem?_eq_getElem hjn, List.getElem_idxOf]; rfl
                · simp [eqV]
                · intro m z' hm hz
                  rw [List.getElem?_map, Option.map_eq_some_iff] at hz
                  obtain ⟨b, hb', rfl⟩ := hz
                  have : b ≠ k := by
                    intro hbk
                    have hml : m < bs.length := by omega
                    rw [List.getElem?_eq_getElem hml] at hb'
                    have h9 := List.not_of_lt_findIdx (p := (· == k)) (xs := bs) hm
                    rw [Option.some.inj hb', hbk] at h9
                    simp at h9
                  simpa [eqV] using this
        · exact False.elim G
      · exact False.elim G
    · exact False.elim G
  · exact False.elim G
end
end MP
/-! MP81 -/
set_option Elab.async false
set_option autoImplicit false
set_option linter.all false
set_option maxRecDepth 100000
set_option maxHeartbeats 1000000
namespace MP
open PySem PySem.Spec L2
open PyProof.Rows hiding St

/-! ## e.f, e an error of one of the classes cs -/
def xfA (cs : List Str) (f : Str) : F1 := fun x S => match x with
  | .ptr n => match S[n]? with
    | some (.exc c fs) => if c ∈ cs then (match fs.lookup f with
      | some d => .ok d S
      | none => .bad) else .bad
    | _ => .bad
  | _ => .bad
section
variable {X : Cx} {cl : Cl} {W : WX} {f : Str} {e : Expr} {mo : M D} {pos : Pos}
theorem ev_xfA {cs : List Str} (hT : ∀ c C, cl.er c = some C → c ∈ cs → XfC X.K C ∧ PySem.W.findIn X.K (.ref C) f = some none) (he : EvE X cl W e mo) (hb : attributeBase e f X.env (eval e X.env) = eval e X.env := by rfl) : EvE X cl W (.Attribute e f pos) (mUn (xfA cs f) mo) := by
  refine ⟨fun pins s σ H io ρ S I A R G => ?_⟩
  refine attr_of hb (he.bind I A R G fun x S1 io1 H1 vx u s1 e1 I1 A1 g1 R1 rx ru G1 => ?_)
  have e2 : mUn (xfA cs f) mo ρ S = xfA cs f x S1 := by unfold mUn; rw [e1]; rfl
  rw [e2]
  cases rx with
  | @ptr n a hio =>
    unfold xfA at G1 ⊢
    simp only at G1 ⊢
    cases hi : S1[n]? with
    | none => rw [hi] at G1; exact False.elim G1
    | some o =>
      rw [hi] at G1
      cases ptr_obj A1 hio hi with
      | @exc _ C c fs d hC hH hF =>
        simp only at G1 ⊢
        by_cases hc : c ∈ cs
        · rw [if_pos hc] at G1 ⊢
          obtain ⟨T, hno⟩ := hT c C hC hc
          have eu : u = Value.ref a := ru
          subst eu
          rcases hF with ⟨ef, _⟩ | ⟨dd, ws, ed, hdd, rf⟩
          · rw [ef] at G1; exact False.elim G1
          · rcases relFs_look rf f with ⟨h1, _⟩ | ⟨d0, v, h1, h2, rd⟩
            · rw [h1] at G1; exact False.elim G1
            · subst ed
              have oa : ObjOk X.prog X.w H1 s1.heap a (exV a C (some dd)) := I1.hok a _ hH
              obtain ⟨⟨oe, vs, ha, hz, hd, _⟩, _⟩ := oa
              have hx : ObjOk X.prog X.w H1 s1.heap dd (.xd ws) := I1.hok dd _ hdd
              obtain ⟨mA, hns, hr⟩ := hx
              obtain ⟨od, ho, hl⟩ := lookIn_ns hns
              obtain ⟨u', hu, ru'⟩ := RelO.some_of (v := v) (o := mA f) (by rw [← h2]; exact hr f)
              have J : PySem.W.InstAt s1.heap a oe C (some od) := ⟨ha, hz.1, by unfold PySem.W.notCls; rw [hd] <;> rfl, by rw [hz.2]; exact ho⟩
              exact HandSPX.exc_get I1.kIn J T.ga T.gg T.exC (PySem.W.findObj_own T.hdC hno rfl (by rw [hl, hu])) (handed_of ru') ⟨d0, S1, io1, H1, v, by rw [h1], I1.tok _, A1, g1, rd, ru'⟩
        · rw [if_neg hc] at G1; exact False.elim G1
      | _ => exact False.elim G1
  | _ => exact False.elim G1
end

/-! ## the plain layer -/
section
variable {ρ : Rho} {S : Sto} {F : Exn → Rho → Sto → Prop} {N B C : Rho → Sto → Prop} {R : D → Sto → Prop}
theorem wy_mRaiseV {c f : Str} {m : M D} : WpY F (mRaiseV c f m ρ S) N B C R ↔ WpX (fun x S1 => F x ρ S1) (m ρ S) fun d S1 => ∃ p : PyData, view S1 60 d = some p ∧ (p.showable = true ∧ okS p.shown ∧ p.shown.length ≤ 5000) ∧ F ⟨c, [(f, d)]⟩ ρ S1 := by
  unfold mRaiseV
  rw [wy_eS]
  constructor <;> intro h <;> refine h.imp fun d S1 q => ?_
  · cases hv : view S1 60 d with
    | none => simp only [hv] at q; exact q.elim
    | some p =>
      by_cases hz : p.showable = true ∧ okS p.shown ∧ p.shown.length ≤ 5000
      · simp only [hv, if_pos hz] at q
        exact ⟨p, rfl, hz, q⟩
      · simp only [hv, if_neg hz] at q
        exact q.elim
  · obtain ⟨p, hv, hz, q⟩ := q
    simp only [hv, if_pos hz]
    exact q
theorem wy_mRaiseS {c : Str} {m : M D} : WpY F (mRaiseS c m ρ S) N B C R ↔ WpX (fun x S1 => F x ρ S1) (m ρ S) fun _ S1 => F ⟨c, []⟩ ρ S1 := by
  unfold mRaiseS
  rw [wy_eS]
  rfl
theorem wp_isiE {g : Str → Option Bool} {n : Nat} {c : Str} {fs : List (Str × D)} {b : Bool} {Q : D → Sto → Prop} (h : S[n]? = some (.exc c fs)) (hg : g c = some b) : Wp (isiE g (.ptr n) S) Q ↔ Q (.bl b) S := by
  simp only [isiE, h, hg, wp_ok]
theorem wp_xfA {cs : List Str} {c f : Str} {n : Nat} {fs : List (Str × D)} {d : D} {Q : D → Sto → Prop} (h : S[n]? = some (.exc c fs)) (hc : c ∈ cs) (hf : fs.lookup f = some d) : Wp (xfA cs f (.ptr n) S) Q ↔ Q d S := by
  simp only [xfA, h, if_pos hc, hf, wp_ok]
end
end MP
/-! K01 -/
set_option Elab.async false
set_option autoImplicit false
set_option linter.all false
set_option maxRecDepth 100000
set_option maxHeartbeats 0
namespace K01
open PySem PySem.Spec L2 MP
open PyProof.Rows hiding St
abbrev PP : Program := PySem.Challenge.pw_faultorder_k01_errors_by_class
def top (i : Nat) : Stmt := PySem.Challenge.pw_faultorder_k01_errors_by_class.main.body.getD i (.Pass ⟨0, 0, 0, 0⟩)
def clss : List Str := []
def isx_BadMachine (c : Str) : Option Bool := if c = "FaultError" then some false else if c = "BadPlant" then some false else if c = "NoPart" then some false else if c = "NoSensor" then some false else if c = "NoEvent" then some false else if c = "NoNumber" then some false else if c = "NoOdds" then some false else if c = "BadMachine" then some true else if c = "Mismatch" then some false else if c = "TooMany" then some false else if c = "NoOperation" then some false else if c = "NothingLeft" then some false else if c = "BadText" then some false else none
def isx_BadPlant (c : Str) : Option Bool := if c = "FaultError" then some false else if c = "BadPlant" then some true else if c = "NoPart" then some false else if c = "NoSensor" then some false else if c = "NoEvent" then some false else if c = "NoNumber" then some false else if c = "NoOdds" then some false else if c = "BadMachine" then some false else if c = "Mismatch" then some false else if c = "TooMany" then some false else if c = "NoOperation" then some false else if c = "NothingLeft" then some false else if c = "BadText" then some false else none
def isx_BadText (c : Str) : Option Bool := if c = "FaultError" then some false else if c = "BadPlant" then some false else if c = "NoPart" then some false else if c = "NoSensor" then some false else if c = "NoEvent" then some false else if c = "NoNumber" then some false else if c = "NoOdds" then some false else if c = "BadMachine" then some false else if c = "Mismatch" then some false else if c = "TooMany" then some false else if c = "NoOperation" then some false else if c = "NothingLeft" then some false else if c = "BadText" then some true else none
def isx_Mismatch (c : Str) : Option Bool := if c = "FaultError" then some false else if c = "BadPlant" then some false else if c = "NoPart" then some false else if c = "NoSensor" then some false else if c = "NoEvent" then some false else if c = "NoNumber" then some false else if c = "NoOdds" then some false else if c = "BadMachine" then some false else if c = "Mismatch" then some true else if c = "TooMany" then some false else if c = "NoOperation" then some false else if c = "NothingLeft" then some false else if c = "BadText" then some false else none
def isx_NoEvent (c : Str) : Option Bool := if c = "FaultError" then some false else if c = "BadPlant" then some false else if c = "NoPart" then some false else if c = "NoSensor" then some false else if c = "NoEvent" then some true else if c = "NoNumber" then some false else if c = "NoOdds" then some false else if c = "BadMachine" then some false else if c = "Mismatch" then some false else if c = "TooMany" then some false else if c = "NoOperation" then some false else if c = "NothingLeft" then some false else if c = "BadText" then some false else none
def isx_NoNumber (c : Str) : Option Bool := if c = "FaultError" then some false else if c = "BadPlant" then some false else if c = "NoPart" then some false else if c = "NoSensor" then some false else if c = "NoEvent" then some false else if c = "NoNumber" then some true else if c = "NoOdds" then some false else if c = "BadMachine" then some false else if c = "Mismatch" then some false else if c = "TooMany" then some false else if c = "NoOperation" then some false else if c = "NothingLeft" then some false else if c = "BadText" then some false else none
def isx_NoOdds (c : Str) : Option Bool := if c = "FaultError" then some false else if c = "BadPlant" then some false else if c = "NoPart" then some false else if c = "NoSensor" then some false else if c = "NoEvent" then some false else if c = "NoNumber" then some false else if c = "NoOdds" then some true else if c = "BadMachine" then some false else if c = "Mismatch" then some false else if c = "TooMany" then some false else if c = "NoOperation" then some false else if c = "NothingLeft" then some false else if c = "BadText" then some false else none
def isx_NoOperation (c : Str) : Option Bool := if c = "FaultError" then some false else if c = "BadPlant" then some false else if c = "NoPart" then some false else if c = "NoSensor" then some false else if c = "NoEvent" then some false else if c = "NoNumber" then some false else if c = "NoOdds" then some false else if c = "BadMachine" then some false else if c = "Mismatch" then some false else if c = "TooMany" then some false else if c = "NoOperation" then some true else if c = "NothingLeft" then some false else if c = "BadText" then some false else none
def isx_NoPart (c : Str) : Option Bool := if c = "FaultError" then some false else if c = "BadPlant" then some false else if c = "NoPart" then some true else if c = "NoSensor" then some false else if c = "NoEvent" then some false else if c = "NoNumber" then some false else if c = "NoOdds" then some false else if c = "BadMachine" then some false else if c = "Mismatch" then some false else if c = "TooMany" then some false else if c = "NoOperation" then some false else if c = "NothingLeft" then some false else if c = "BadText" then some false else none
def isx_NoSensor (c : Str) : Option Bool := if c = "FaultError" then some false else if c = "BadPlant" then some false else if c = "NoPart" then some false else if c = "NoSensor" then some true else if c = "NoEvent" then some false else if c = "NoNumber" then some false else if c = "NoOdds" then some false else if c = "BadMachine" then some false else if c = "Mismatch" then some false else if c = "TooMany" then some false else if c = "NoOperation" then some false else if c = "NothingLeft" then some false else if c = "BadText" then some false else none
def isx_NothingLeft (c : Str) : Option Bool := if c = "FaultError" then some false else if c = "BadPlant" then some false else if c = "NoPart" then some false else if c = "NoSensor" then some false else if c = "NoEvent" then some false else if c = "NoNumber" then some false else if c = "NoOdds" then some false else if c = "BadMachine" then some false else if c = "Mismatch" then some false else if c = "TooMany" then some false else if c = "NoOperation" then some false else if c = "NothingLeft" then some true else if c = "BadText" then some false else none
def isx_TooMany (c : Str) : Option Bool := if c = "FaultError" then some false else if c = "BadPlant" then some false else if c = "NoPart" then some false else if c = "NoSensor" then some false else if c = "NoEvent" then some false else if c = "NoNumber" then some false else if c = "NoOdds" then some false else if c = "BadMachine" then some false else if c = "Mismatch" then some false else if c = "TooMany" then some true else if c = "NoOperation" then some false else if c = "NothingLeft" then some false else if c = "BadText" then some false else none
def isx_ValueError (c : Str) : Option Bool := if c = "FaultError" then some true else if c = "BadPlant" then some true else if c = "NoPart" then some true else if c = "NoSensor" then some true else if c = "NoEvent" then some true else if c = "NoNumber" then some true else if c = "NoOdds" then some true else if c = "BadMachine" then some true else if c = "Mismatch" then some true else if c = "TooMany" then some true else if c = "NoOperation" then some true else if c = "NothingLeft" then some true else if c = "BadText" then some true else none
def xc_index : List Str := ["NoPart", "NoSensor", "NoEvent", "NoOperation"]
def xc_line : List Str := ["BadText"]
def xc_most : List Str := ["TooMany"]
def xc_number : List Str := ["NoNumber"]
def xc_part : List Str := ["BadPlant"]
def sub_FaultError (c : Str) : Bool := decide (c ∈ (["FaultError", "BadPlant", "NoPart", "NoSensor", "NoEvent", "NoNumber", "NoOdds", "BadMachine", "Mismatch", "TooMany", "NoOperation", "NothingLeft", "BadText"] : List Str))
def N__law_begin : List Str := ["script", "large", "cell"]
noncomputable def f__law_begin : FL := callS N__law_begin.length
   (mSeq (mAsg (mLc (mIt iterS (mVar 0)) (gNm 2) (mBl (mBin geS (mDisp absS (mCons (mVar 2) (mNil))) (mBin powS (mC (.int 10)) (mC (.int 18))))) (mDisp absS (mCons (mVar 2) (mNil))) [2]) (gNm 1))
    (mRet (mDict (mpCons (mStr "large") (mVar 1) (mpCons (mStr "cells") (mDisp listS (mCons (mVar 0) (mNil))) (mpCons (mStr "rest") (mC (.int 0)) (mpCons (mStr "turn") (mC (.int 0)) (mpCons (mStr "mix") (mC (.int 7)) (mpNil)))))))))
def N__law_take : List Str := ["draw", "size", "cell", "found"]
noncomputable def f__law_take : FL := callS N__law_take.length
   (mSeq (mIfS (mAndT (mBl (mBin eqS (mBin ixS (mVar 0) (mStr "rest")) (mC (.int 0)))) (mBl (mBin neS (mBin ixS (mVar 0) (mStr "large")) (mDisp lstD (mNil))))) (mSetI (mVar 0) (mStr "rest") (mBm "list" popS (mBin ixS (mVar 0) (mStr "large")) (mCons (mC (.int 0)) (mNil)))) (mIfS (mBl (mBin eqS (mBin ixS (mVar 0) (mStr "rest")) (mC (.int 0)))) (mSeq (mSetI (mVar 0) (mStr "turn") (mBin addS (mBin ixS (mVar 0) (mStr "turn")) (mC (.int 1))))
    (mSeq (mFor (mIt iterS (mBin addS (mDisp lstD (mCons (mBin ixS (mVar 0) (mStr "turn")) (mNil))) (mBin ixS (mVar 0) (mStr "cells")))) (gNm 2) (mSetI (mVar 0) (mStr "mix") (mBin modS (mDisp intS (mCons (mBin addS (mBin addS (mBin mulS (mBin ixS (mVar 0) (mStr "mix")) (mC (.int 69621))) (mBin mulS (mVar 2) (mC (.int 48271)))) (mC (.int 12345))) (mNil))) (mC (.int 2147483629)))))
    (mSetI (mVar 0) (mStr "rest") (mBin modS (mDisp intS (mCons (mBin powS (mBin ixS (mVar 0) (mStr "mix")) (mC (.int 5))) (mNil))) (mC (.int 2305843009213693951)))))) (mNx)))
    (mSeq (mAsg (mDisp divmodS (mCons (mBin ixS (mVar 0) (mStr "rest")) (mCons (mVar 1) (mNil)))) (gTp 2 (gsCons (gSubS (mVar 0) (mStr "rest")) (gsCons (gNm 3) (gsNil)))))
    (mRet (mVar 3))))
def N__law_pick : List Str := ["draw", "some"]
noncomputable def f__law_pick : FL := callS N__law_pick.length
   (mRet (mBin ixS (mVar 1) (mDisp (dflS 2 [] f__law_take) (mCons (mVar 0) (mCons (mDisp lenS (mCons (mVar 1) (mNil))) (mNil))))))
def N__law_caught : List Str := ["work", "caught", "e"]
noncomputable def m__law_caught (n : Nat) (th : Th) : MS :=
   mSeq (mAsg (mC .non) (gNm 1))
    (mSeq (mTry sub_FaultError 2 (mDrop (mThk n 0 th)) (mAsg (mVar 2) (gNm 1)))
    (mRet (mVar 1)))
def N__law_raised : List Str := ["word", "worth"]
noncomputable def f__law_raised : FL := callS N__law_raised.length
   (mSeq (mIfS (mBl (mBin eqS (mVar 0) (mStr "plant"))) (mRaiseV "BadPlant" "part" (mVar 1)) (mNx))
    (mSeq (mIfS (mBl (mBin eqS (mVar 0) (mStr "part"))) (mRaiseV "NoPart" "index" (mVar 1)) (mNx))
    (mSeq (mIfS (mBl (mBin eqS (mVar 0) (mStr "sensor"))) (mRaiseV "NoSensor" "index" (mVar 1)) (mNx))
    (mSeq (mIfS (mBl (mBin eqS (mVar 0) (mStr "event"))) (mRaiseV "NoEvent" "index" (mVar 1)) (mNx))
    (mSeq (mIfS (mBl (mBin eqS (mVar 0) (mStr "operation"))) (mRaiseV "NoOperation" "index" (mVar 1)) (mNx))
    (mSeq (mIfS (mBl (mBin eqS (mVar 0) (mStr "number"))) (mRaiseV "NoNumber" "number" (mVar 1)) (mNx))
    (mSeq (mIfS (mBl (mBin eqS (mVar 0) (mStr "many"))) (mRaiseV "TooMany" "most" (mVar 1)) (mNx))
    (mSeq (mIfS (mBl (mBin eqS (mVar 0) (mStr "text"))) (mRaiseV "BadText" "line" (mVar 1)) (mNx))
    (mSeq (mIfS (mBl (mBin eqS (mVar 0) (mStr "odds"))) (mRaiseS "NoOdds" (mDisp strA (mCons (mVar 1) (mNil)))) (mNx))
    (mSeq (mIfS (mBl (mBin eqS (mVar 0) (mStr "machine"))) (mRaiseS "BadMachine" (mDisp strA (mCons (mVar 1) (mNil)))) (mNx))
    (mSeq (mIfS (mBl (mBin eqS (mVar 0) (mStr "match"))) (mRaiseS "Mismatch" (mDisp strA (mCons (mVar 1) (mNil)))) (mNx))
    (mRaiseS "NothingLeft" (mDisp strA (mCons (mVar 1) (mNil)))))))))))))))
def N__law_field : List Str := ["error", "marks", "spot"]
noncomputable def f__law_field : FL := callS N__law_field.length
   (mSeq (mAsg (mDisp lstD (mCons (mUn (isiE isx_BadPlant) (mVar 0)) (mCons (mUn (isiE isx_NoPart) (mVar 0)) (mCons (mUn (isiE isx_NoSensor) (mVar 0)) (mNil))))) (gNm 1))
    (mSeq (mAsg (mBin addS (mVar 1) (mDisp lstD (mCons (mUn (isiE isx_NoEvent) (mVar 0)) (mCons (mUn (isiE isx_NoOperation) (mVar 0)) (mCons (mUn (isiE isx_NoNumber) (mVar 0)) (mNil)))))) (gNm 1))
    (mSeq (mAsg (mBin addS (mVar 1) (mDisp lstD (mCons (mUn (isiE isx_TooMany) (mVar 0)) (mCons (mUn (isiE isx_BadText) (mVar 0)) (mCons (mUn (isiE isx_NoOdds) (mVar 0)) (mNil)))))) (gNm 1))
    (mSeq (mAsg (mBin addS (mVar 1) (mDisp lstD (mCons (mUn (isiE isx_BadMachine) (mVar 0)) (mCons (mUn (isiE isx_Mismatch) (mVar 0)) (mCons (mUn (isiE isx_NothingLeft) (mVar 0)) (mNil)))))) (gNm 1))
    (mSeq (mIfS (mOrT (mBl (mBin neS (mBm "list" countB (mVar 1) (mCons (mC (.bl true)) (mNil))) (mC (.int 1)))) (mNotT (mTru (mUn (isiE isx_ValueError) (mVar 0))))) (mRet (mC .non)) (mNx))
    (mSeq (mAsg (mBm "list" indexB (mVar 1) (mCons (mC (.bl true)) (mNil))) (gNm 2))
    (mSeq (mIfS (mBl (mBin eqS (mVar 2) (mC (.int 0)))) (mRet (mDisp tupD (mCons (mVar 2) (mCons (mUn (xfA xc_part "part") (mVar 0)) (mNil))))) (mNx))
    (mSeq (mIfS (mBl (mBin ltS (mVar 2) (mC (.int 5)))) (mRet (mDisp tupD (mCons (mVar 2) (mCons (mUn (xfA xc_index "index") (mVar 0)) (mNil))))) (mNx))
    (mSeq (mIfS (mBl (mBin eqS (mVar 2) (mC (.int 5)))) (mRet (mDisp tupD (mCons (mVar 2) (mCons (mUn (xfA xc_number "number") (mVar 0)) (mNil))))) (mNx))
    (mSeq (mIfS (mBl (mBin eqS (mVar 2) (mC (.int 6)))) (mRet (mDisp tupD (mCons (mVar 2) (mCons (mUn (xfA xc_most "most") (mVar 0)) (mNil))))) (mNx))
    (mRet (mIf (mBl (mBin eqS (mVar 2) (mC (.int 7)))) (mDisp tupD (mCons (mVar 2) (mCons (mUn (xfA xc_line "line") (mVar 0)) (mNil)))) (mDisp tupD (mCons (mVar 2) (mCons (mC .non) (mNil))))))))))))))))
def N_law : List Str := ["script", "draw", "words", "turn", "spot", "word", "worth", "error"]
noncomputable def f_law : FL := callS N_law.length
   (mSeq (mAsg (mDisp (dflS 1 [] f__law_begin) (mCons (mVar 0) (mNil))) (gNm 1))
    (mSeq (mAsg (mDisp lstD (mCons (mStr "plant") (mCons (mStr "part") (mCons (mStr "sensor") (mCons (mStr "event") (mCons (mStr "operation") (mCons (mStr "number") (mCons (mStr "many") (mCons (mStr "text") (mNil)))))))))) (gNm 2))
    (mSeq (mAsg (mBin addS (mVar 2) (mDisp lstD (mCons (mStr "odds") (mCons (mStr "machine") (mCons (mStr "match") (mCons (mStr "left") (mNil))))))) (gNm 2))
    (mSeq (mFor (mItA rng1S (mCons (mBin addS (mC (.int 2)) (mDisp min2S (mCons (mDisp lenS (mCons (mVar 0) (mNil))) (mCons (mC (.int 5)) (mNil))))) (mNil))) (gNm 3) (mFor (mItA enumA (mCons (mVar 2) (mNil))) (gTp 2 (gsCons (gNm 4) (gsCons (gNm 5) (gsNil)))) (mSeq (mAsg (mDisp (dflS 2 [] f__law_pick) (mCons (mVar 1) (mCons (mDisp lstD (mCons (mC .non) (mCons (mC (.int 0)) (mCons (mDisp (dflS 2 [] f__law_take) (mCons (mVar 1) (mCons (mC (.int 99)) (mNil)))) (mCons (mStr "a") (mCons (mDisp tupD (mCons (mC (.int 1)) (mCons (mStr "b") (mNil)))) (mCons (mC (.bl true)) (mCons (mUn negS (mC (.int 1))) (mCons (mDisp lstD (mCons (mC (.int 2)) (mNil))) (mNil)))))))))) (mNil)))) (gNm 6))
    (mSeq (mAsg (mLam (fun n th => callS N__law_caught.length (m__law_caught n th)) (mDisp (dflS 2 [] f__law_raised) (mCons (mVar 5) (mCons (mVar 6) (mNil))))) (gNm 7))
    (mIfS (mBl (mBin neS (mDisp reprS (mCons (mDisp (dflS 1 [] f__law_field) (mCons (mVar 7) (mNil))) (mNil))) (mDisp reprS (mCons (mDisp tupD (mCons (mVar 4) (mCons (mIf (mBl (mBin ltS (mVar 4) (mC (.int 8)))) (mVar 6) (mC .non)) (mNil)))) (mNil))))) (mRet (mC (.bl false))) (mNx))))))
    (mRet (mC (.bl true)))))))
noncomputable def eqTbl : List (Str × FL) := []
def eqCs : List Str := clss
/-! the text as it stands -/
structure Adr where
  a__law_begin : Addr
  d__law_begin : FuncData
  a__law_take : Addr
  d__law_take : FuncData
  a__law_pick : Addr
  d__law_pick : FuncData
  a__law_caught : Addr
  d__law_caught : FuncData
  a__law_raised : Addr
  d__law_raised : FuncData
  a__law_field : Addr
  d__law_field : FuncData
  a_law : Addr
  d_law : FuncData
  kk_law : Addr
  pp_law : Addr
  wh : World
  C_FaultError : Addr
  C_BadPlant : Addr
  C_NoPart : Addr
  C_NoSensor : Addr
  C_NoEvent : Addr
  C_NoNumber : Addr
  C_NoOdds : Addr
  C_BadMachine : Addr
  C_Mismatch : Addr
  C_TooMany : Addr
  C_NoOperation : Addr
  C_NothingLeft : Addr
  C_BadText : Addr
  i_BadPlant : Addr
  i_NoPart : Addr
  i_NoSensor : Addr
  i_NoEvent : Addr
  i_NoNumber : Addr
  i_TooMany : Addr
  i_NoOperation : Addr
  i_BadText : Addr
  pre : List (Nat × Addr)
  cap : List (List (Option D) × L2.St)
  co : List (Addr × Str)
def cl (a : Adr) : Cl := { at' := fun c =>  none, hs := fun k => k.hash a.wh, tb := [(a.pp_law, (("law" : Str) ++ ".<locals>.") ++ "<lambda>")], pre := a.pre, cap := a.cap, er := fun c => if c = "FaultError" then some a.C_FaultError else if c = "BadPlant" then some a.C_BadPlant else if c = "NoPart" then some a.C_NoPart else if c = "NoSensor" then some a.C_NoSensor else if c = "NoEvent" then some a.C_NoEvent else if c = "NoNumber" then some a.C_NoNumber else if c = "NoOdds" then some a.C_NoOdds else if c = "BadMachine" then some a.C_BadMachine else if c = "Mismatch" then some a.C_Mismatch else if c = "TooMany" then some a.C_TooMany else if c = "NoOperation" then some a.C_NoOperation else if c = "NothingLeft" then some a.C_NothingLeft else if c = "BadText" then some a.C_BadText else  none, co := a.co }
def Adr.wit (a : Adr) (n : Nat) (f c1 : Addr) (q : Str) (r : List (Option D)) (o : L2.St) : Adr := { a with pre := (n, f) :: a.pre, cap := (r, o) :: a.cap, co := (c1, q) :: a.co }
theorem ifc {P : Str → Addr → Prop} {x c : Str} {A E : Addr} {r : Option Addr} (h : (if c = x then some A else r) = some E) (hx : P x A) (hr : r = some E → P c E) : P c E := by
  by_cases e : c = x
  · subst e; rw [if_pos rfl] at h; cases h; exact hx
  · rw [if_neg e] at h; exact hr h
theorem er_cases (a : Adr) (P : Str → Addr → Prop) (h_FaultError : P "FaultError" a.C_FaultError) (h_BadPlant : P "BadPlant" a.C_BadPlant) (h_NoPart : P "NoPart" a.C_NoPart) (h_NoSensor : P "NoSensor" a.C_NoSensor) (h_NoEvent : P "NoEvent" a.C_NoEvent) (h_NoNumber : P "NoNumber" a.C_NoNumber) (h_NoOdds : P "NoOdds" a.C_NoOdds) (h_BadMachine : P "BadMachine" a.C_BadMachine) (h_Mismatch : P "Mismatch" a.C_Mismatch) (h_TooMany : P "TooMany" a.C_TooMany) (h_NoOperation : P "NoOperation" a.C_NoOperation) (h_NothingLeft : P "NothingLeft" a.C_NothingLeft) (h_BadText : P "BadText" a.C_BadText) : ∀ c E, (cl a).er c = some E → P c E := by
  intro c E h
  have h : (if c = "FaultError" then some a.C_FaultError else if c = "BadPlant" then some a.C_BadPlant else if c = "NoPart" then some a.C_NoPart else if c = "NoSensor" then some a.C_NoSensor else if c = "NoEvent" then some a.C_NoEvent else if c = "NoNumber" then some a.C_NoNumber else if c = "NoOdds" then some a.C_NoOdds else if c = "BadMachine" then some a.C_BadMachine else if c = "Mismatch" then some a.C_Mismatch else if c = "TooMany" then some a.C_TooMany else if c = "NoOperation" then some a.C_NoOperation else if c = "NothingLeft" then some a.C_NothingLeft else if c = "BadText" then some a.C_BadText else  none) = some E := h
  exact ifc h h_FaultError fun h => ifc h h_BadPlant fun h => ifc h h_NoPart fun h => ifc h h_NoSensor fun h => ifc h h_NoEvent fun h => ifc h h_NoNumber fun h => ifc h h_NoOdds fun h => ifc h h_BadMachine fun h => ifc h h_Mismatch fun h => ifc h h_TooMany fun h => ifc h h_NoOperation fun h => ifc h h_NothingLeft fun h => ifc h h_BadText fun h => by cases h
theorem ie1 {b : Bool} {o p : Option Bool} (h : o = some b) (q : p = some b) : ∀ b, o = some b → p = some b := fun b h2 => by rw [q, ← h, h2]
def lamC (a : Adr) : List (Addr × Addr) := [(a.kk_law, a.pp_law)]
theorem tc_law (a : Adr) : (a.kk_law, a.pp_law) ∈ lamC a := .head _
theorem tm_law (a : Adr) : (a.pp_law, (("law" : Str) ++ ".<locals>.") ++ "<lambda>") ∈ (cl a).tb := .head _
structure TX (w : World) (K : PySem.W.Frag) (mg : Str → Option Value) (a : Adr) : Prop where
  f__law_begin : Fun K "_law_begin" "_law_begin" (top 15) a.a__law_begin a.d__law_begin
  b__law_begin : Binds K a.d__law_begin ["script"] []
  m__law_begin : mg "_law_begin" = some (.ref a.a__law_begin)
  f__law_take : Fun K "_law_take" "_law_take" (top 16) a.a__law_take a.d__law_take
  b__law_take : Binds K a.d__law_take ["draw", "size"] []
  m__law_take : mg "_law_take" = some (.ref a.a__law_take)
  f__law_pick : Fun K "_law_pick" "_law_pick" (top 17) a.a__law_pick a.d__law_pick
  b__law_pick : Binds K a.d__law_pick ["draw", "some"] []
  m__law_pick : mg "_law_pick" = some (.ref a.a__law_pick)
  f__law_caught : Fun K "_law_caught" "_law_caught" (top 18) a.a__law_caught a.d__law_caught
  b__law_caught : Binds K a.d__law_caught ["work"] []
  m__law_caught : mg "_law_caught" = some (.ref a.a__law_caught)
  f__law_raised : Fun K "_law_raised" "_law_raised" (top 19) a.a__law_raised a.d__law_raised
  b__law_raised : Binds K a.d__law_raised ["word", "worth"] []
  m__law_raised : mg "_law_raised" = some (.ref a.a__law_raised)
  f__law_field : Fun K "_law_field" "_law_field" (top 20) a.a__law_field a.d__law_field
  b__law_field : Binds K a.d__law_field ["error"] []
  m__law_field : mg "_law_field" = some (.ref a.a__law_field)
  f_law : Fun K "law" "law" (top 21) a.a_law a.d_law
  b_law : Binds K a.d_law ["script"] []
  m_law : mg "law" = some (.ref a.a_law)
  n_ValueError : mg "ValueError" = none
  n_abs : mg "abs" = none
  n_divmod : mg "divmod" = none
  n_enumerate : mg "enumerate" = none
  n_int : mg "int" = none
  n_isinstance : mg "isinstance" = none
  n_len : mg "len" = none
  n_list : mg "list" = none
  n_min : mg "min" = none
  n_range : mg "range" = none
  n_repr : mg "repr" = none
  n_str : mg "str" = none
  fc_law : FunC K "law" "law" (top 21) a.a_law a.d_law a.kk_law
  m_FaultError : mg "FaultError" = some (.ref a.C_FaultError)
  ec_FaultError : ErrC K a.C_FaultError
  ex_FaultError : PySem.W.excIn K a.C_FaultError [.type "ValueError", .type "Exception", .type "BaseException", .type "object"] "ValueError.__new__" = true
  m_BadPlant : mg "BadPlant" = some (.ref a.C_BadPlant)
  er_BadPlant : ErrI PP K a.C_BadPlant a.i_BadPlant "part" (inClass (top 2) 0)
  xf_BadPlant : XfC K a.C_BadPlant
  m_NoPart : mg "NoPart" = some (.ref a.C_NoPart)
  er_NoPart : ErrI PP K a.C_NoPart a.i_NoPart "index" (inClass (top 3) 0)
  xf_NoPart : XfC K a.C_NoPart
  m_NoSensor : mg "NoSensor" = some (.ref a.C_NoSensor)
  er_NoSensor : ErrI PP K a.C_NoSensor a.i_NoSensor "index" (inClass (top 4) 0)
  xf_NoSensor : XfC K a.C_NoSensor
  m_NoEvent : mg "NoEvent" = some (.ref a.C_NoEvent)
  er_NoEvent : ErrI PP K a.C_NoEvent a.i_NoEvent "index" (inClass (top 5) 0)
  xf_NoEvent : XfC K a.C_NoEvent
  m_NoNumber : mg "NoNumber" = some (.ref a.C_NoNumber)
  er_NoNumber : ErrI PP K a.C_NoNumber a.i_NoNumber "number" (inClass (top 6) 0)
  xf_NoNumber : XfC K a.C_NoNumber
  m_NoOdds : mg "NoOdds" = some (.ref a.C_NoOdds)
  ec_NoOdds : ErrC K a.C_NoOdds
  ex_NoOdds : PySem.W.excIn K a.C_NoOdds [.type "ValueError", .type "Exception", .type "BaseException", .type "object"] "ValueError.__new__" = true
  m_BadMachine : mg "BadMachine" = some (.ref a.C_BadMachine)
  ec_BadMachine : ErrC K a.C_BadMachine
  ex_BadMachine : PySem.W.excIn K a.C_BadMachine [.type "ValueError", .type "Exception", .type "BaseException", .type "object"] "ValueError.__new__" = true
  m_Mismatch : mg "Mismatch" = some (.ref a.C_Mismatch)
  ec_Mismatch : ErrC K a.C_Mismatch
  ex_Mismatch : PySem.W.excIn K a.C_Mismatch [.type "ValueError", .type "Exception", .type "BaseException", .type "object"] "ValueError.__new__" = true
  m_TooMany : mg "TooMany" = some (.ref a.C_TooMany)
  er_TooMany : ErrI PP K a.C_TooMany a.i_TooMany "most" (inClass (top 10) 0)
  xf_TooMany : XfC K a.C_TooMany
  m_NoOperation : mg "NoOperation" = some (.ref a.C_NoOperation)
  er_NoOperation : ErrI PP K a.C_NoOperation a.i_NoOperation "index" (inClass (top 11) 0)
  xf_NoOperation : XfC K a.C_NoOperation
  m_NothingLeft : mg "NothingLeft" = some (.ref a.C_NothingLeft)
  ec_NothingLeft : ErrC K a.C_NothingLeft
  ex_NothingLeft : PySem.W.excIn K a.C_NothingLeft [.type "ValueError", .type "Exception", .type "BaseException", .type "object"] "ValueError.__new__" = true
  m_BadText : mg "BadText" = some (.ref a.C_BadText)
  er_BadText : ErrI PP K a.C_BadText a.i_BadText "line" (inClass (top 13) 0)
  xf_BadText : XfC K a.C_BadText
  xs_FaultError : ∀ e E, (cl a).er e = some E → PySem.W.exmOne K (.ref E) (.ref a.C_FaultError) = some (sub_FaultError e)
  xi : ∀ c E, (cl a).er c = some E → XiC K E
  ie_BadMachine : ∀ c E b, (cl a).er c = some E → isx_BadMachine c = some b → PySem.W.kitOne K (.ref E) (.ref a.C_BadMachine) = some b
  ie_BadPlant : ∀ c E b, (cl a).er c = some E → isx_BadPlant c = some b → PySem.W.kitOne K (.ref E) (.ref a.C_BadPlant) = some b
  ie_BadText : ∀ c E b, (cl a).er c = some E → isx_BadText c = some b → PySem.W.kitOne K (.ref E) (.ref a.C_BadText) = some b
  ie_Mismatch : ∀ c E b, (cl a).er c = some E → isx_Mismatch c = some b → PySem.W.kitOne K (.ref E) (.ref a.C_Mismatch) = some b
  ie_NoEvent : ∀ c E b, (cl a).er c = some E → isx_NoEvent c = some b → PySem.W.kitOne K (.ref E) (.ref a.C_NoEvent) = some b
  ie_NoNumber : ∀ c E b, (cl a).er c = some E → isx_NoNumber c = some b → PySem.W.kitOne K (.ref E) (.ref a.C_NoNumber) = some b
  ie_NoOdds : ∀ c E b, (cl a).er c = some E → isx_NoOdds c = some b → PySem.W.kitOne K (.ref E) (.ref a.C_NoOdds) = some b
  ie_NoOperation : ∀ c E b, (cl a).er c = some E → isx_NoOperation c = some b → PySem.W.kitOne K (.ref E) (.ref a.C_NoOperation) = some b
  ie_NoPart : ∀ c E b, (cl a).er c = some E → isx_NoPart c = some b → PySem.W.kitOne K (.ref E) (.ref a.C_NoPart) = some b
  ie_NoSensor : ∀ c E b, (cl a).er c = some E → isx_NoSensor c = some b → PySem.W.kitOne K (.ref E) (.ref a.C_NoSensor) = some b
  ie_NothingLeft : ∀ c E b, (cl a).er c = some E → isx_NothingLeft c = some b → PySem.W.kitOne K (.ref E) (.ref a.C_NothingLeft) = some b
  ie_TooMany : ∀ c E b, (cl a).er c = some E → isx_TooMany c = some b → PySem.W.kitOne K (.ref E) (.ref a.C_TooMany) = some b
  ie_ValueError : ∀ c E b, (cl a).er c = some E → isx_ValueError c = some b → PySem.W.kitOne K (.ref E) (.type "ValueError") = some b
  xa_index : ∀ c E, (cl a).er c = some E → c ∈ xc_index → XfC K E ∧ PySem.W.findIn K (.ref E) "index" = some none
  xa_line : ∀ c E, (cl a).er c = some E → c ∈ xc_line → XfC K E ∧ PySem.W.findIn K (.ref E) "line" = some none
  xa_most : ∀ c E, (cl a).er c = some E → c ∈ xc_most → XfC K E ∧ PySem.W.findIn K (.ref E) "most" = some none
  xa_number : ∀ c E, (cl a).er c = some E → c ∈ xc_number → XfC K E ∧ PySem.W.findIn K (.ref E) "number" = some none
  xa_part : ∀ c E, (cl a).er c = some E → c ∈ xc_part → XfC K E ∧ PySem.W.findIn K (.ref E) "part" = some none
  wh : a.wh = w
structure TY (w : World) (K : PySem.W.Frag) (mg : Str → Option Value) (base : Heap) (a : Adr) : Prop extends TX w K mg a where
  tb : ∀ p ∈ lamC a, LamX.TabB base mg p.1 p.2
section
variable {w : World} {K : PySem.W.Frag} {mg : Str → Option Value} {a : Adr}
theorem TX.wit (T : TX w K mg a) (n : Nat) (f c1 : Addr) (q : Str) (r : List (Option D)) (o : L2.St) : TX w K mg (a.wit n f c1 q r o) :=
  ⟨T.f__law_begin, T.b__law_begin, T.m__law_begin, T.f__law_take, T.b__law_take, T.m__law_take, T.f__law_pick, T.b__law_pick, T.m__law_pick, T.f__law_caught, T.b__law_caught, T.m__law_caught, T.f__law_raised, T.b__law_raised, T.m__law_raised, T.f__law_field, T.b__law_field, T.m__law_field, T.f_law, T.b_law, T.m_law, T.n_ValueError, T.n_abs, T.n_divmod, T.n_enumerate, T.n_int, T.n_isinstance, T.n_len, T.n_list, T.n_min, T.n_range, T.n_repr, T.n_str, T.fc_law, T.m_FaultError, T.ec_FaultError, T.ex_FaultError, T.m_BadPlant, T.er_BadPlant, T.xf_BadPlant, T.m_NoPart, T.er_NoPart, T.xf_NoPart, T.m_NoSensor, T.er_NoSensor, T.xf_NoSensor, T.m_NoEvent, T.er_NoEvent, T.xf_NoEvent, T.m_NoNumber, T.er_NoNumber, T.xf_NoNumber, T.m_NoOdds, T.ec_NoOdds, T.ex_NoOdds, T.m_BadMachine, T.ec_BadMachine, T.ex_BadMachine, T.m_Mismatch, T.ec_Mismatch, T.ex_Mismatch, T.m_TooMany, T.er_TooMany, T.xf_TooMany, T.m_NoOperation, T.er_NoOperation, T.xf_NoOperation, T.m_NothingLeft, T.ec_NothingLeft, T.ex_NothingLeft, T.m_BadText, T.er_BadText, T.xf_BadText, T.xs_FaultError, T.xi, T.ie_BadMachine, T.ie_BadPlant, T.ie_BadText, T.ie_Mismatch, T.ie_NoEvent, T.ie_NoNumber, T.ie_NoOdds, T.ie_NoOperation, T.ie_NoPart, T.ie_NoSensor, T.ie_NothingLeft, T.ie_TooMany, T.ie_ValueError, T.xa_index, T.xa_line, T.xa_most, T.xa_number, T.xa_part, T.wh⟩
theorem TY.wit {base : Heap} (T : TY w K mg base a) (n : Nat) (f c1 : Addr) (q : Str) (r : List (Option D)) (o : L2.St) : TY w K mg base (a.wit n f c1 q r o) := ⟨T.toTX.wit n f c1 q r o, T.tb⟩
theorem TX.ce_BadPlant (_ : TX w K mg a) : (cl a).er "BadPlant" = some a.C_BadPlant := by simp (decide := true) [cl]
theorem TX.ce_NoPart (_ : TX w K mg a) : (cl a).er "NoPart" = some a.C_NoPart := by simp (decide := true) [cl]
theorem TX.ce_NoSensor (_ : TX w K mg a) : (cl a).er "NoSensor" = some a.C_NoSensor := by simp (decide := true) [cl]
theorem TX.ce_NoEvent (_ : TX w K mg a) : (cl a).er "NoEvent" = some a.C_NoEvent := by simp (decide := true) [cl]
theorem TX.ce_NoNumber (_ : TX w K mg a) : (cl a).er "NoNumber" = some a.C_NoNumber := by simp (decide := true) [cl]
theorem TX.ce_NoOdds (_ : TX w K mg a) : (cl a).er "NoOdds" = some a.C_NoOdds := by simp (decide := true) [cl]
theorem TX.ce_BadMachine (_ : TX w K mg a) : (cl a).er "BadMachine" = some a.C_BadMachine := by simp (decide := true) [cl]
theorem TX.ce_Mismatch (_ : TX w K mg a) : (cl a).er "Mismatch" = some a.C_Mismatch := by simp (decide := true) [cl]
theorem TX.ce_TooMany (_ : TX w K mg a) : (cl a).er "TooMany" = some a.C_TooMany := by simp (decide := true) [cl]
theorem TX.ce_NoOperation (_ : TX w K mg a) : (cl a).er "NoOperation" = some a.C_NoOperation := by simp (decide := true) [cl]
theorem TX.ce_NothingLeft (_ : TX w K mg a) : (cl a).er "NothingLeft" = some a.C_NothingLeft := by simp (decide := true) [cl]
theorem TX.ce_BadText (_ : TX w K mg a) : (cl a).er "BadText" = some a.C_BadText := by simp (decide := true) [cl]
theorem TX.tu_law (T : TX w K mg a) : ∀ p ∈ (cl a).tb, p.1 = a.pp_law → p.2 = (("law" : Str) ++ ".<locals>.") ++ "<lambda>" := by
  intro p hp e
  simp only [cl, List.mem_cons, List.not_mem_nil, or_false] at hp
  have hp := hp
  · rw [hp]
end
section
variable {w : World} {K : PySem.W.Frag} {mg : Str → Option Value} {base : Heap} {a : Adr}
theorem g__law_begin (T : TY w K mg base a) : FnG PP w K mg base (cl a) (L2.CX PP w) 1 a.a__law_begin a.d__law_begin ["script"] f__law_begin := by
  refine okG T.f__law_begin (N := N__law_begin) ⟨rfl, rfl, rfl, by decide +kernel, rfl, by decide +kernel, by decide +kernel⟩ fun cdv A outer s H E hr hg => ?_
  have hu := room65 hr
  have nd : N__law_begin.Nodup := by decide +kernel
  have own : PassesOwn (model PP w) _ _ _ := passes_of (X := cxOf (L2.CX PP w) PP w K mg base N__law_begin "_law_begin" (defScope (top 15)) a.a__law_begin cdv A outer s H E) rfl
  have tk : Takes (cxOf (L2.CX PP w) PP w K mg base N__law_begin "_law_begin" (defScope (top 15)) a.a__law_begin cdv A outer s H E) (fun c d _ H' => E c d H') := takes_of rfl rfl rfl rfl
  have pw := passW1 tk
  exact ss_cons (s_setLc (i := 1) rfl nd rfl rfl (sw_true rfl rfl rfl (by kernel_rfl)) (it_val (R.v 0)) (blkOk_by (own := [("cell", 2)]) (by kernel_rfl)) (fun _ _ _ _ _ => R.nm 2 nd) (by decide) (fun _ _ _ _ _ => ets_one (R.tcmp op_geS (R.callB cb_abs T.n_abs boot_abs (R.eA (R.v 2) (R.eA0))) (ev_bin op_powS (ev_int) (ev_int)))) (fun _ _ _ _ _ => R.callB cb_abs T.n_abs boot_abs (R.eA (R.v 2) (R.eA0))) (by intro _; rfl))
    (ss_one (s_ret (ev_dict (eps_cons (ev_str) (R.v 1) (eps_cons (ev_str) (R.callT (cb_list rfl) T.n_list boot_list (R.eA (R.v 0) (R.eA0))) (eps_cons (ev_str) (ev_int) (eps_cons (ev_str) (ev_int) (eps_cons (ev_str) (ev_int) (eps_nil)))))) (by rfl) (by rfl) (by simp) (by decide))))
theorem g__law_take (T : TY w K mg base a) : FnG PP w K mg base (cl a) (L2.CX PP w) 1 a.a__law_take a.d__law_take ["draw", "size"] f__law_take := by
  refine okG T.f__law_take (N := N__law_take) ⟨rfl, rfl, rfl, by decide +kernel, rfl, by decide +kernel, by decide +kernel⟩ fun cdv A outer s H E hr hg => ?_
  have hu := room65 hr
  have nd : N__law_take.Nodup := by decide +kernel
  have own : PassesOwn (model PP w) _ _ _ := passes_of (X := cxOf (L2.CX PP w) PP w K mg base N__law_take "_law_take" (defScope (top 16)) a.a__law_take cdv A outer s H E) rfl
  have tk : Takes (cxOf (L2.CX PP w) PP w K mg base N__law_take "_law_take" (defScope (top 16)) a.a__law_take cdv A outer s H E) (fun c d _ H' => E c d H') := takes_of rfl rfl rfl rfl
  have pw := passW1 tk
  exact ss_cons (s_if ((ew_and (R.tcmp (op_eqS hu) (R.ix (room1 hr) (R.v 0) (ev_str)) (ev_int)) (ew_and1 (R.tcmp (op_neS hu) (R.ix (room1 hr) (R.v 0) (ev_str)) (ev_lst (R.eA0))))).t) (ss_one (R.setI (room1 hr) (R.v 0) (ev_str) (R.bm PySem.F.plainAttrs_list PySem.F.slot_list_pop PySem.F.type_list_pop mt_popS (R.ix (room1 hr) (R.v 0) (ev_str)) (R.eA (ev_int) (R.eA0))))) (ss_one (s_if (R.tcmp (op_eqS hu) (R.ix (room1 hr) (R.v 0) (ev_str)) (ev_int)) (ss_cons (R.setI (room1 hr) (R.v 0) (ev_str) (ev_bin op_addS (R.ix (room1 hr) (R.v 0) (ev_str)) (ev_int)))
    (ss_cons (R.forr own rfl (it_val (ev_bin op_addS (ev_lst (R.eA (R.ix (room1 hr) (R.v 0) (ev_str)) (R.eA0))) (R.ix (room1 hr) (R.v 0) (ev_str)))) (R.nm 2 nd) (ss_one (R.setI (room1 hr) (R.v 0) (ev_str) (ev_bin op_modS (R.callT cb_int T.n_int boot_int (R.eA (ev_bin op_addS (ev_bin op_addS (ev_bin op_mulS (R.ix (room1 hr) (R.v 0) (ev_str)) (ev_int)) (ev_bin op_mulS (R.v 2) (ev_int))) (ev_int)) (R.eA0))) (ev_int)))))
    (ss_one (R.setI (room1 hr) (R.v 0) (ev_str) (ev_bin op_modS (R.callT cb_int T.n_int boot_int (R.eA (ev_bin op_powS (R.ix (room1 hr) (R.v 0) (ev_str)) (ev_int)) (R.eA0))) (ev_int)))))) (ss_nil))))
    (ss_cons (R.asgn (R.callB cb_divmod T.n_divmod boot_divmod (R.eA (R.ix (room1 hr) (R.v 0) (ev_str)) (R.eA (R.v 1) (R.eA0)))) (R.gt 2 rfl (R.gc (g_sub (room1 hr) (R.v 0) (ev_str) (by intro _; rfl)) (R.gc (R.nm 3 nd) (gs_nil)))))
    (ss_one (s_ret (R.v 3))))
theorem g__law_pick (T : TY w K mg base a) : FnG PP w K mg base (cl a) (L2.CX PP w) 2 a.a__law_pick a.d__law_pick ["draw", "some"] f__law_pick := by
  refine okG T.f__law_pick (N := N__law_pick) ⟨rfl, rfl, rfl, by decide +kernel, rfl, by decide +kernel, by decide +kernel⟩ fun cdv A outer s H E hr hg => ?_
  have hu := room65 hr
  have nd : N__law_pick.Nodup := by decide +kernel
  have tk : Takes (cxOf (L2.CX PP w) PP w K mg base N__law_pick "_law_pick" (defScope (top 17)) a.a__law_pick cdv A outer s H E) (fun c d _ H' => E c d H') := takes_of rfl rfl rfl rfl
  have pw := passW1 tk
  exact ss_one (s_ret (R.ix (room1 hr) (R.v 1) (R.call T.m__law_take T.f__law_take.kp (run_g (ps := ["draw", "size"]) (g__law_take T) (hr.mono (by decide)) hg T.b__law_take .nil (fun _ _ => .nil) pw) (R.eA (R.v 0) (R.eA (R.callB cb_len T.n_len boot_len (R.eA (R.v 1) (R.eA0))) (R.eA0))))))
theorem gH__law_caught (T : TY w K mg base a) (k : Nat) : GivesH PP w K mg base (cl a) k a.a__law_caught (top 18) "_law_caught" "work" N__law_caught m__law_caught := fun A outer f1 c1 n r o q th cdv s H E hr hg act => by
  have hu := room65 hr
  have nd : N__law_caught.Nodup := by decide +kernel
  have T := T.wit n f1 c1 q r o
  have tk : Takes (cxOf (L2.CX PP w) PP w K mg base N__law_caught "_law_caught" (defScope (top 18)) a.a__law_caught cdv A outer s H E) (fun c d _ H' => E c d H') := takes_of rfl rfl rfl rfl
  have pw := passW1 tk
  have own : PassesOwn (model PP w) _ _ _ := passes_of (X := cxOf (L2.CX PP w) PP w K mg base N__law_caught "_law_caught" (defScope (top 18)) a.a__law_caught cdv A outer s H E) rfl
  exact ss_cons (R.set 1 nd (ev_non))
    (ss_cons (s_try rfl rfl nd rfl rfl ⟨rfl, by decide, .inl T.m_FaultError⟩ tk T.xs_FaultError (fun W1 pn xe tk own => (have pw := passW1 tk; ss_one (R.xp (act _ _ _ _ _ tk)))) (fun ea pn => (ss_one (R.set 1 nd (R.v 2)))))
    (ss_one (s_ret (R.v 1))))
theorem g__law_raised (T : TY w K mg base a) : FnG PP w K mg base (cl a) (L2.CX PP w) 3 a.a__law_raised a.d__law_raised ["word", "worth"] f__law_raised := by
  refine okG T.f__law_raised (N := N__law_raised) ⟨rfl, rfl, rfl, by decide +kernel, rfl, by decide +kernel, by decide +kernel⟩ fun cdv A outer s H E hr hg => ?_
  have hu := room65 hr
  have nd : N__law_raised.Nodup := by decide +kernel
  have tk : Takes (cxOf (L2.CX PP w) PP w K mg base N__law_raised "_law_raised" (defScope (top 19)) a.a__law_raised cdv A outer s H E) (fun c d _ H' => E c d H') := takes_of rfl rfl rfl rfl
  have pw := passW1 tk
  exact ss_cons (s_if (R.tcmp (op_eqS hu) (R.v 0) (ev_str)) (ss_one (s_raiseK rfl tk T.er_BadPlant T.m_BadPlant rfl (hr.mono (by decide)) hg T.ce_BadPlant (R.v 1))) (ss_nil))
    (ss_cons (s_if (R.tcmp (op_eqS hu) (R.v 0) (ev_str)) (ss_one (s_raiseK rfl tk T.er_NoPart T.m_NoPart rfl (hr.mono (by decide)) hg T.ce_NoPart (R.v 1))) (ss_nil))
    (ss_cons (s_if (R.tcmp (op_eqS hu) (R.v 0) (ev_str)) (ss_one (s_raiseK rfl tk T.er_NoSensor T.m_NoSensor rfl (hr.mono (by decide)) hg T.ce_NoSensor (R.v 1))) (ss_nil))
    (ss_cons (s_if (R.tcmp (op_eqS hu) (R.v 0) (ev_str)) (ss_one (s_raiseK rfl tk T.er_NoEvent T.m_NoEvent rfl (hr.mono (by decide)) hg T.ce_NoEvent (R.v 1))) (ss_nil))
    (ss_cons (s_if (R.tcmp (op_eqS hu) (R.v 0) (ev_str)) (ss_one (s_raiseK rfl tk T.er_NoOperation T.m_NoOperation rfl (hr.mono (by decide)) hg T.ce_NoOperation (R.v 1))) (ss_nil))
    (ss_cons (s_if (R.tcmp (op_eqS hu) (R.v 0) (ev_str)) (ss_one (s_raiseK rfl tk T.er_NoNumber T.m_NoNumber rfl (hr.mono (by decide)) hg T.ce_NoNumber (R.v 1))) (ss_nil))
    (ss_cons (s_if (R.tcmp (op_eqS hu) (R.v 0) (ev_str)) (ss_one (s_raiseK rfl tk T.er_TooMany T.m_TooMany rfl (hr.mono (by decide)) hg T.ce_TooMany (R.v 1))) (ss_nil))
    (ss_cons (s_if (R.tcmp (op_eqS hu) (R.v 0) (ev_str)) (ss_one (s_raiseK rfl tk T.er_BadText T.m_BadText rfl (hr.mono (by decide)) hg T.ce_BadText (R.v 1))) (ss_nil))
    (ss_cons (s_if (R.tcmp (op_eqS hu) (R.v 0) (ev_str)) (ss_one (s_raiseS rfl tk T.ec_NoOdds T.ex_NoOdds T.m_NoOdds rfl T.ce_NoOdds (R.callT (cb_strA hg hu) T.n_str boot_str (R.eA (R.v 1) (R.eA0))))) (ss_nil))
    (ss_cons (s_if (R.tcmp (op_eqS hu) (R.v 0) (ev_str)) (ss_one (s_raiseS rfl tk T.ec_BadMachine T.ex_BadMachine T.m_BadMachine rfl T.ce_BadMachine (R.callT (cb_strA hg hu) T.n_str boot_str (R.eA (R.v 1) (R.eA0))))) (ss_nil))
    (ss_cons (s_if (R.tcmp (op_eqS hu) (R.v 0) (ev_str)) (ss_one (s_raiseS rfl tk T.ec_Mismatch T.ex_Mismatch T.m_Mismatch rfl T.ce_Mismatch (R.callT (cb_strA hg hu) T.n_str boot_str (R.eA (R.v 1) (R.eA0))))) (ss_nil))
    (ss_one (s_raiseS rfl tk T.ec_NothingLeft T.ex_NothingLeft T.m_NothingLeft rfl T.ce_NothingLeft (R.callT (cb_strA hg hu) T.n_str boot_str (R.eA (R.v 1) (R.eA0)))))))))))))))
theorem g__law_field (T : TY w K mg base a) : FnG PP w K mg base (cl a) (L2.CX PP w) 1 a.a__law_field a.d__law_field ["error"] f__law_field := by
  refine okG T.f__law_field (N := N__law_field) ⟨rfl, rfl, rfl, by decide +kernel, rfl, by decide +kernel, by decide +kernel⟩ fun cdv A outer s H E hr hg => ?_
  have hu := room65 hr
  have nd : N__law_field.Nodup := by decide +kernel
  have own : PassesOwn (model PP w) _ _ _ := passes_of (X := cxOf (L2.CX PP w) PP w K mg base N__law_field "_law_field" (defScope (top 20)) a.a__law_field cdv A outer s H E) rfl
  have tk : Takes (cxOf (L2.CX PP w) PP w K mg base N__law_field "_law_field" (defScope (top 20)) a.a__law_field cdv A outer s H E) (fun c d _ H' => E c d H') := takes_of rfl rfl rfl rfl
  have pw := passW1 tk
  exact ss_cons (R.set 1 nd (ev_lst (R.eA (ev_isiE T.xi T.ie_BadPlant (.own _) (pe_glob (by rfl) T.m_BadPlant rfl) (R.v 0) T.n_isinstance) (R.eA (ev_isiE T.xi T.ie_NoPart (.own _) (pe_glob (by rfl) T.m_NoPart rfl) (R.v 0) T.n_isinstance) (R.eA (ev_isiE T.xi T.ie_NoSensor (.own _) (pe_glob (by rfl) T.m_NoSensor rfl) (R.v 0) T.n_isinstance) (R.eA0))))))
    (ss_cons (R.set 1 nd (ev_bin op_addS (R.v 1) (ev_lst (R.eA (ev_isiE T.xi T.ie_NoEvent (.own _) (pe_glob (by rfl) T.m_NoEvent rfl) (R.v 0) T.n_isinstance) (R.eA (ev_isiE T.xi T.ie_NoOperation (.own _) (pe_glob (by rfl) T.m_NoOperation rfl) (R.v 0) T.n_isinstance) (R.eA (ev_isiE T.xi T.ie_NoNumber (.own _) (pe_glob (by rfl) T.m_NoNumber rfl) (R.v 0) T.n_isinstance) (R.eA0)))))))
    (ss_cons (R.set 1 nd (ev_bin op_addS (R.v 1) (ev_lst (R.eA (ev_isiE T.xi T.ie_TooMany (.own _) (pe_glob (by rfl) T.m_TooMany rfl) (R.v 0) T.n_isinstance) (R.eA (ev_isiE T.xi T.ie_BadText (.own _) (pe_glob (by rfl) T.m_BadText rfl) (R.v 0) T.n_isinstance) (R.eA (ev_isiE T.xi T.ie_NoOdds (.own _) (pe_glob (by rfl) T.m_NoOdds rfl) (R.v 0) T.n_isinstance) (R.eA0)))))))
    (ss_cons (R.set 1 nd (ev_bin op_addS (R.v 1) (ev_lst (R.eA (ev_isiE T.xi T.ie_BadMachine (.own _) (pe_glob (by rfl) T.m_BadMachine rfl) (R.v 0) T.n_isinstance) (R.eA (ev_isiE T.xi T.ie_Mismatch (.own _) (pe_glob (by rfl) T.m_Mismatch rfl) (R.v 0) T.n_isinstance) (R.eA (ev_isiE T.xi T.ie_NothingLeft (.own _) (pe_glob (by rfl) T.m_NothingLeft rfl) (R.v 0) T.n_isinstance) (R.eA0)))))))
    (ss_cons (s_if ((ew_or (R.tcmp (op_neS hu) (R.bm PySem.F.plainAttrs_list PySem.F.slot_list_count PySem.F.type_list_count mt_countB (R.v 1) (R.eA (ev_bl) (R.eA0))) (ev_int)) (ew_or1 (et_not (R.tval (ev_isiE T.xi T.ie_ValueError (.ty _) (R.bty T.n_ValueError boot_ValueError) (R.v 0) T.n_isinstance))))).t) (ss_one (s_ret (ev_non))) (ss_nil))
    (ss_cons (R.set 2 nd (R.bm PySem.F.plainAttrs_list PySem.F.slot_list_index PySem.F.type_list_index mt_indexB (R.v 1) (R.eA (ev_bl) (R.eA0))))
    (ss_cons (s_if (R.tcmp (op_eqS hu) (R.v 2) (ev_int)) (ss_one (s_ret (ev_tup (R.eA (R.v 2) (R.eA (ev_xfA T.xa_part (R.v 0)) (R.eA0)))))) (ss_nil))
    (ss_cons (s_if (R.tcmp op_ltS (R.v 2) (ev_int)) (ss_one (s_ret (ev_tup (R.eA (R.v 2) (R.eA (ev_xfA T.xa_index (R.v 0)) (R.eA0)))))) (ss_nil))
    (ss_cons (s_if (R.tcmp (op_eqS hu) (R.v 2) (ev_int)) (ss_one (s_ret (ev_tup (R.eA (R.v 2) (R.eA (ev_xfA T.xa_number (R.v 0)) (R.eA0)))))) (ss_nil))
    (ss_cons (s_if (R.tcmp (op_eqS hu) (R.v 2) (ev_int)) (ss_one (s_ret (ev_tup (R.eA (R.v 2) (R.eA (ev_xfA T.xa_most (R.v 0)) (R.eA0)))))) (ss_nil))
    (ss_one (s_ret (ev_if (R.tcmp (op_eqS hu) (R.v 2) (ev_int)) (ev_tup (R.eA (R.v 2) (R.eA (ev_xfA T.xa_line (R.v 0)) (R.eA0)))) (ev_tup (R.eA (R.v 2) (R.eA (ev_non) (R.eA0))))))))))))))))
theorem g_law (T : TY w K mg base a) : FnG PP w K mg base (cl a) (L2.CX PP w) 6 a.a_law a.d_law ["script"] f_law := by
  refine okC T.fc_law (N := N_law) ⟨rfl, rfl, rfl, by decide +kernel, rfl, by decide +kernel, by decide +kernel⟩ fun A outer s H E hr hg => ?_
  have hu := room65 hr
  have nd : N_law.Nodup := by decide +kernel
  have own : PassesOwn (model PP w) _ _ _ := passes_of (X := cxOf (L2.CX PP w) PP w K mg base N_law "law" (defScope (top 21)) a.a_law (.ref a.kk_law) A outer s H E) rfl
  have tk : Takes (cxOf (L2.CX PP w) PP w K mg base N_law "law" (defScope (top 21)) a.a_law (.ref a.kk_law) A outer s H E) (fun c d _ H' => E c d H') := takes_of rfl rfl rfl rfl
  have pw := passW1 tk
  exact ss_cons (R.set 1 nd (R.call T.m__law_begin T.f__law_begin.kp (run_g (ps := ["script"]) (g__law_begin T) (hr.mono (by decide)) hg T.b__law_begin .nil (fun _ _ => .nil) pw) (R.eA (R.v 0) (R.eA0))))
    (ss_cons (R.set 2 nd (ev_lst (R.eA (ev_str) (R.eA (ev_str) (R.eA (ev_str) (R.eA (ev_str) (R.eA (ev_str) (R.eA (ev_str) (R.eA (ev_str) (R.eA (ev_str) (R.eA0)))))))))))
    (ss_cons (R.set 2 nd (ev_bin op_addS (R.v 2) (ev_lst (R.eA (ev_str) (R.eA (ev_str) (R.eA (ev_str) (R.eA (ev_str) (R.eA0))))))))
    (ss_cons (R.forr own rfl (it_rng1 (by rfl) T.n_range (R.eA (ev_bin op_addS (ev_int) (R.callB (cb_min2 rfl) T.n_min boot_min (R.eA (R.callB cb_len T.n_len boot_len (R.eA (R.v 0) (R.eA0))) (R.eA (ev_int) (R.eA0))))) (R.eA0)) (by rfl)) (R.nm 3 nd) (ss_one (R.forr own rfl (it_enum (by rfl) T.n_enumerate (R.eA (R.v 2) (R.eA0)) (by rfl)) (R.gt 2 rfl (R.gc (R.nm 4 nd) (R.gc (R.nm 5 nd) (gs_nil)))) (ss_cons (R.set 6 nd (R.call T.m__law_pick T.f__law_pick.kp (run_g (ps := ["draw", "some"]) (g__law_pick T) (hr.mono (by decide)) hg T.b__law_pick .nil (fun _ _ => .nil) pw) (R.eA (R.v 1) (R.eA (ev_lst (R.eA (ev_non) (R.eA (ev_int) (R.eA (R.call T.m__law_take T.f__law_take.kp (run_g (ps := ["draw", "size"]) (g__law_take T) (hr.mono (by decide)) hg T.b__law_take .nil (fun _ _ => .nil) pw) (R.eA (R.v 1) (R.eA (ev_int) (R.eA0)))) (R.eA (ev_str) (R.eA (ev_tup (R.eA (ev_int) (R.eA (ev_str) (R.eA0)))) (R.eA (ev_bl) (R.eA (ev_un un_negS (ev_int)) (R.eA (ev_lst (R.eA (ev_int) (R.eA0))) (R.eA0)))))))))) (R.eA0)))))
    (ss_cons (R.set 7 nd (ev_lam (k := 3) T.m__law_caught T.f__law_caught ⟨rfl, rfl, rfl, by decide +kernel, rfl, by decide +kernel, by decide +kernel⟩ T.b__law_caught (gH__law_caught T (3 + 1)) (T.tb _ (tc_law a)) (tm_law a) T.tu_law (hr.mono (by decide)) hg pw (fun A outer s H E f1 c1 n r o hr hg tk => (have hu := room65 hr; have pw := passW1 tk; have T := T.wit n f1 c1 ((("law" : Str) ++ ".<locals>.") ++ "<lambda>") r o; R.call T.m__law_raised T.f__law_raised.kp (run_g (ps := ["word", "worth"]) (g__law_raised T) (hr.mono (by decide)) hg T.b__law_raised .nil (fun _ _ => .nil) pw) (R.eA (R.v 5) (R.eA (R.v 6) (R.eA0)))))))
    (ss_one (s_if (R.tcmp (op_neS hu) (R.callB (cb_repr hg hu) T.n_repr boot_repr (R.eA (R.call T.m__law_field T.f__law_field.kp (run_g (ps := ["error"]) (g__law_field T) (hr.mono (by decide)) hg T.b__law_field .nil (fun _ _ => .nil) pw) (R.eA (R.v 7) (R.eA0))) (R.eA0))) (R.callB (cb_repr hg hu) T.n_repr boot_repr (R.eA (ev_tup (R.eA (R.v 4) (R.eA (ev_if (R.tcmp op_ltS (R.v 4) (ev_int)) (R.v 6) (ev_non)) (R.eA0)))) (R.eA0)))) (ss_one (s_ret (ev_bl))) (ss_nil))))))))
    (ss_one (s_ret (ev_bl))))))
end
end K01
namespace K01
open PySem PySem.Spec L2 MP
open PyProof.Rows hiding St
theorem all_mk {K : PySem.W.Frag} {h : Heap} {mg : Str → Option Value} {fa a__law_begin a__law_take a__law_pick a__law_caught a__law_raised a__law_field a_law kk_law pp_law C_FaultError C_BadPlant i_BadPlant cda_BadPlant cc_BadPlant C_NoPart i_NoPart cda_NoPart cc_NoPart C_NoSensor i_NoSensor cda_NoSensor cc_NoSensor C_NoEvent i_NoEvent cda_NoEvent cc_NoEvent C_NoNumber i_NoNumber cda_NoNumber cc_NoNumber C_NoOdds C_BadMachine C_Mismatch C_TooMany i_TooMany cda_TooMany cc_TooMany C_NoOperation i_NoOperation cda_NoOperation cc_NoOperation C_NothingLeft C_BadText i_BadText cda_BadText cc_BadText : Addr}
    {oc__law_begin kV__law_begin dc__law_begin pm__law_begin cd__law_begin ct__law_begin oc__law_take kV__law_take dc__law_take pm__law_take cd__law_take ct__law_take oc__law_pick kV__law_pick dc__law_pick pm__law_pick cd__law_pick ct__law_pick oc__law_caught kV__law_caught dc__law_caught pm__law_caught cd__law_caught ct__law_caught oc__law_raised kV__law_raised dc__law_raised pm__law_raised cd__law_raised ct__law_raised oc__law_field kV__law_field dc__law_field pm__law_field cd__law_field ct__law_field oc_law kV_law dc_law pm_law ct_law ek_law xoc_BadPlant xkV_BadPlant xdc_BadPlant xpm_BadPlant xct_BadPlant xccl_BadPlant xcl_BadPlant xoc_NoPart xkV_NoPart xdc_NoPart xpm_NoPart xct_NoPart xccl_NoPart xcl_NoPart xoc_NoSensor xkV_NoSensor xdc_NoSensor xpm_NoSensor xct_NoSensor xccl_NoSensor xcl_NoSensor xoc_NoEvent xkV_NoEvent xdc_NoEvent xpm_NoEvent xct_NoEvent xccl_NoEvent xcl_NoEvent xoc_NoNumber xkV_NoNumber xdc_NoNumber xpm_NoNumber xct_NoNumber xccl_NoNumber xcl_NoNumber xoc_TooMany xkV_TooMany xdc_TooMany xpm_TooMany xct_TooMany xccl_TooMany xcl_TooMany xoc_NoOperation xkV_NoOperation xdc_NoOperation xpm_NoOperation xct_NoOperation xccl_NoOperation xcl_NoOperation xoc_BadText xkV_BadText xdc_BadText xpm_BadText xct_BadText xccl_BadText xcl_BadText : Value} {od__law_begin an__law_begin od__law_take an__law_take od__law_pick an__law_pick od__law_caught an__law_caught od__law_raised an__law_raised od__law_field an__law_field od_law an_law dk_law xod_BadPlant xan_BadPlant xcdd_BadPlant xcld_BadPlant xod_NoPart xan_NoPart xcdd_NoPart xcld_NoPart xod_NoSensor xan_NoSensor xcdd_NoSensor xcld_NoSensor xod_NoEvent xan_NoEvent xcdd_NoEvent xcld_NoEvent xod_NoNumber xan_NoNumber xcdd_NoNumber xcld_NoNumber xod_TooMany xan_TooMany xcdd_TooMany xcld_TooMany xod_NoOperation xan_NoOperation xcdd_NoOperation xcld_NoOperation xod_BadText xan_BadText xcdd_BadText xcld_BadText : Option Addr} {sl__law_begin sl__law_take sl__law_pick sl__law_caught sl__law_raised sl__law_field sl_law sk_law xsl_BadPlant xccs_BadPlant xcsl_BadPlant xsl_NoPart xccs_NoPart xcsl_NoPart xsl_NoSensor xccs_NoSensor xcsl_NoSensor xsl_NoEvent xccs_NoEvent xcsl_NoEvent xsl_NoNumber xccs_NoNumber xcsl_NoNumber xsl_TooMany xccs_TooMany xcsl_TooMany xsl_NoOperation xccs_NoOperation xcsl_NoOperation xsl_BadText xccs_BadText xcsl_BadText : Array (Option Value)}  {xtf_BadPlant xtf_NoPart xtf_NoSensor xtf_NoEvent xtf_NoNumber xtf_TooMany xtf_NoOperation xtf_BadText : Tok}
    {vk_law xvs_BadPlant xvs_NoPart xvs_NoSensor xvs_NoEvent xvs_NoNumber xvs_TooMany xvs_NoOperation xvs_BadText : Array Value}
    {xfile_BadPlant xfile_NoPart xfile_NoSensor xfile_NoEvent xfile_NoNumber xfile_TooMany xfile_NoOperation xfile_BadText : Str}
    (w : World) (X : K.In h) (G : h.Ns mainGlobals mg) (hfa : mg "law" = some (.ref fa))
    (n__law_begin : PySem.W.nsIn K mainGlobals "_law_begin" = some (some (.ref a__law_begin)))
    (l__law_begin : K.lookup a__law_begin = some ⟨oc__law_begin, od__law_begin, .func (PySem.W.fnOf "_law_begin" "_law_begin" (defArgs (top 15)) (defBody (top 15)) (defScope (top 15)) .none kV__law_begin dc__law_begin pm__law_begin an__law_begin cd__law_begin ct__law_begin), sl__law_begin⟩)
    (c__law_begin : PySem.W.codeIn K cd__law_begin "_law_begin" = true)
    (k__law_begin : PySem.W.keepIn K (.ref a__law_begin) = true)
    (n__law_take : PySem.W.nsIn K mainGlobals "_law_take" = some (some (.ref a__law_take)))
    (l__law_take : K.lookup a__law_take = some ⟨oc__law_take, od__law_take, .func (PySem.W.fnOf "_law_take" "_law_take" (defArgs (top 16)) (defBody (top 16)) (defScope (top 16)) .none kV__law_take dc__law_take pm__law_take an__law_take cd__law_take ct__law_take), sl__law_take⟩)
    (c__law_take : PySem.W.codeIn K cd__law_take "_law_take" = true)
    (k__law_take : PySem.W.keepIn K (.ref a__law_take) = true)
    (n__law_pick : PySem.W.nsIn K mainGlobals "_law_pick" = some (some (.ref a__law_pick)))
    (l__law_pick : K.lookup a__law_pick = some ⟨oc__law_pick, od__law_pick, .func (PySem.W.fnOf "_law_pick" "_law_pick" (defArgs (top 17)) (defBody (top 17)) (defScope (top 17)) .none kV__law_pick dc__law_pick pm__law_pick an__law_pick cd__law_pick ct__law_pick), sl__law_pick⟩)
    (c__law_pick : PySem.W.codeIn K cd__law_pick "_law_pick" = true)
    (k__law_pick : PySem.W.keepIn K (.ref a__law_pick) = true)
    (n__law_caught : PySem.W.nsIn K mainGlobals "_law_caught" = some (some (.ref a__law_caught)))
    (l__law_caught : K.lookup a__law_caught = some ⟨oc__law_caught, od__law_caught, .func (PySem.W.fnOf "_law_caught" "_law_caught" (defArgs (top 18)) (defBody (top 18)) (defScope (top 18)) .none kV__law_caught dc__law_caught pm__law_caught an__law_caught cd__law_caught ct__law_caught), sl__law_caught⟩)
    (c__law_caught : PySem.W.codeIn K cd__law_caught "_law_caught" = true)
    (k__law_caught : PySem.W.keepIn K (.ref a__law_caught) = true)
    (n__law_raised : PySem.W.nsIn K mainGlobals "_law_raised" = some (some (.ref a__law_raised)))
    (l__law_raised : K.lookup a__law_raised = some ⟨oc__law_raised, od__law_raised, .func (PySem.W.fnOf "_law_raised" "_law_raised" (defArgs (top 19)) (defBody (top 19)) (defScope (top 19)) .none kV__law_raised dc__law_raised pm__law_raised an__law_raised cd__law_raised ct__law_raised), sl__law_raised⟩)
    (c__law_raised : PySem.W.codeIn K cd__law_raised "_law_raised" = true)
    (k__law_raised : PySem.W.keepIn K (.ref a__law_raised) = true)
    (n__law_field : PySem.W.nsIn K mainGlobals "_law_field" = some (some (.ref a__law_field)))
    (l__law_field : K.lookup a__law_field = some ⟨oc__law_field, od__law_field, .func (PySem.W.fnOf "_law_field" "_law_field" (defArgs (top 20)) (defBody (top 20)) (defScope (top 20)) .none kV__law_field dc__law_field pm__law_field an__law_field cd__law_field ct__law_field), sl__law_field⟩)
    (c__law_field : PySem.W.codeIn K cd__law_field "_law_field" = true)
    (k__law_field : PySem.W.keepIn K (.ref a__law_field) = true)
    (n_law : PySem.W.nsIn K mainGlobals "law" = some (some (.ref a_law)))
    (l_law : K.lookup a_law = some ⟨oc_law, od_law, .func (PySem.W.fnOf "law" "law" (defArgs (top 21)) (defBody (top 21)) (defScope (top 21)) .none kV_law dc_law pm_law an_law (.ref kk_law) ct_law), sl_law⟩)
    (c_law : PySem.W.codeIn K (.ref kk_law) "law" = true)
    (tk_law : K.lookup kk_law = some ⟨ek_law, dk_law, .fields vk_law, sk_law⟩)
    (tv_law : vk_law[11]? = some (.ref pp_law))
    (tn_law : K.lookup pp_law = none)
    (tt_law : h.get? pp_law = some { cls := .none, data := .fields #[] })
    (th_law : PySem.W.CodeHd h kk_law pp_law)
    (k_law : PySem.W.keepIn K (.ref a_law) = true)
    (z_ValueError : PySem.W.nsIn K mainGlobals "ValueError" = some none)
    (z_abs : PySem.W.nsIn K mainGlobals "abs" = some none)
    (z_divmod : PySem.W.nsIn K mainGlobals "divmod" = some none)
    (z_enumerate : PySem.W.nsIn K mainGlobals "enumerate" = some none)
    (z_int : PySem.W.nsIn K mainGlobals "int" = some none)
    (z_isinstance : PySem.W.nsIn K mainGlobals "isinstance" = some none)
    (z_len : PySem.W.nsIn K mainGlobals "len" = some none)
    (z_list : PySem.W.nsIn K mainGlobals "list" = some none)
    (z_min : PySem.W.nsIn K mainGlobals "min" = some none)
    (z_range : PySem.W.nsIn K mainGlobals "range" = some none)
    (z_repr : PySem.W.nsIn K mainGlobals "repr" = some none)
    (z_str : PySem.W.nsIn K mainGlobals "str" = some none)
    (a_FaultError : PySem.W.nsIn K mainGlobals "FaultError" = some (some (.ref C_FaultError)))
    (xb_FaultError : errB K C_FaultError = true)
    (xa_FaultError : PySem.W.findIn K (.ref C_FaultError) "__setattr__" = some (some (.builtin "object.__setattr__")))
    (xe_FaultError : PySem.W.subIn K (.ref C_FaultError) (.type "BaseException") = some true)
    (xt_FaultError : PySem.W.typeIn K (.ref C_FaultError) = some (.type "type"))
    (xk_FaultError : PySem.W.keepIn K (.ref C_FaultError) = true)
    (xm_FaultError : PySem.W.mroIn K C_FaultError (.ref C_FaultError) = some true)
    (yc_FaultError : (PySem.W.clsIn K C_FaultError).isSome = true)
    (yg_FaultError : PySem.W.findIn K (.ref C_FaultError) "__getattribute__" = some (some (.builtin "BaseException.__getattribute__")))
    (yh_FaultError : PySem.W.findIn K (.ref C_FaultError) "__getattr__" = some none)
    (ya_FaultError : PySem.W.findIn K (.ref C_FaultError) "__class__" = some (some (.builtin "object.__class__")))
    (ym_FaultError : PySem.W.mroIn K C_FaultError (.type "object") = some true)
    (xx_FaultError_FaultError : PySem.W.exmOne K (.ref C_FaultError) (.ref C_FaultError) = some true)
    (xo_FaultError : PySem.W.excIn K C_FaultError [.type "ValueError", .type "Exception", .type "BaseException", .type "object"] "ValueError.__new__" = true)
    (a_BadPlant : PySem.W.nsIn K mainGlobals "BadPlant" = some (some (.ref C_BadPlant)))
    (xb_BadPlant : errB K C_BadPlant = true)
    (xa_BadPlant : PySem.W.findIn K (.ref C_BadPlant) "__setattr__" = some (some (.builtin "object.__setattr__")))
    (xe_BadPlant : PySem.W.subIn K (.ref C_BadPlant) (.type "BaseException") = some true)
    (xt_BadPlant : PySem.W.typeIn K (.ref C_BadPlant) = some (.type "type"))
    (xk_BadPlant : PySem.W.keepIn K (.ref C_BadPlant) = true)
    (xm_BadPlant : PySem.W.mroIn K C_BadPlant (.ref C_BadPlant) = some true)
    (yc_BadPlant : (PySem.W.clsIn K C_BadPlant).isSome = true)
    (yg_BadPlant : PySem.W.findIn K (.ref C_BadPlant) "__getattribute__" = some (some (.builtin "BaseException.__getattribute__")))
    (yh_BadPlant : PySem.W.findIn K (.ref C_BadPlant) "__getattr__" = some none)
    (ya_BadPlant : PySem.W.findIn K (.ref C_BadPlant) "__class__" = some (some (.builtin "object.__class__")))
    (ym_BadPlant : PySem.W.mroIn K C_BadPlant (.type "object") = some true)
    (xx_BadPlant_FaultError : PySem.W.exmOne K (.ref C_BadPlant) (.ref C_FaultError) = some true)
    (xn_BadPlant : PySem.W.findIn K (.ref C_BadPlant) "part" = some none)
    (xi_BadPlant : PySem.W.findIn K (.ref C_BadPlant) "__init__" = some (some (.ref i_BadPlant)))
    (xf_BadPlant : PySem.W.typeIn K (.ref i_BadPlant) = some (.type "function"))
    (xs_BadPlant : PySem.W.ks_superIn K C_BadPlant C_BadPlant "__init__" = some (some (.builtin "ValueError.__init__")))
    (xv_BadPlant : PySem.W.subIn K (.ref C_BadPlant) (.type "ValueError") = some true)
    (xl_BadPlant : K.lookup i_BadPlant = some ⟨xoc_BadPlant, xod_BadPlant, .func (PySem.W.ksFn "__init__" "BadPlant.__init__" (defArgs (inClass (top 2) 0)) (defBody (inClass (top 2) 0)) (defScope (inClass (top 2) 0)) .none xkV_BadPlant xdc_BadPlant xpm_BadPlant xan_BadPlant (.ref cda_BadPlant) xct_BadPlant cc_BadPlant), xsl_BadPlant⟩)
    (xc_BadPlant : PySem.W.codeIn K (.ref cda_BadPlant) "BadPlant.__init__" = true)
    (xd_BadPlant : K.lookup cda_BadPlant = some ⟨xccl_BadPlant, xcdd_BadPlant, .fields xvs_BadPlant, xccs_BadPlant⟩)
    (xw_BadPlant : xvs_BadPlant[2]? = some (.str xfile_BadPlant xtf_BadPlant))
    (xy_BadPlant : ((PP.main.file : Str) == xfile_BadPlant) = true)
    (xz_BadPlant : K.lookup cc_BadPlant = some ⟨xcl_BadPlant, xcld_BadPlant, .cell (some (.ref C_BadPlant)), xcsl_BadPlant⟩)
    (xg_BadPlant : PySem.W.findIn K (.ref C_BadPlant) "__getattribute__" = some (some (.builtin "BaseException.__getattribute__")))
    (xh_BadPlant : PySem.W.findIn K (.ref C_BadPlant) "__getattr__" = some none)
    (xj_BadPlant : PySem.W.hasDictIn K C_BadPlant = true)
    (a_NoPart : PySem.W.nsIn K mainGlobals "NoPart" = some (some (.ref C_NoPart)))
    (xb_NoPart : errB K C_NoPart = true)
    (xa_NoPart : PySem.W.findIn K (.ref C_NoPart) "__setattr__" = some (some (.builtin "object.__setattr__")))
    (xe_NoPart : PySem.W.subIn K (.ref C_NoPart) (.type "BaseException") = some true)
    (xt_NoPart : PySem.W.typeIn K (.ref C_NoPart) = some (.type "type"))
    (xk_NoPart : PySem.W.keepIn K (.ref C_NoPart) = true)
    (xm_NoPart : PySem.W.mroIn K C_NoPart (.ref C_NoPart) = some true)
    (yc_NoPart : (PySem.W.clsIn K C_NoPart).isSome = true)
    (yg_NoPart : PySem.W.findIn K (.ref C_NoPart) "__getattribute__" = some (some (.builtin "BaseException.__getattribute__")))
    (yh_NoPart : PySem.W.findIn K (.ref C_NoPart) "__getattr__" = some none)
    (ya_NoPart : PySem.W.findIn K (.ref C_NoPart) "__class__" = some (some (.builtin "object.__class__")))
    (ym_NoPart : PySem.W.mroIn K C_NoPart (.type "object") = some true)
    (xx_NoPart_FaultError : PySem.W.exmOne K (.ref C_NoPart) (.ref C_FaultError) = some true)
    (xn_NoPart : PySem.W.findIn K (.ref C_NoPart) "index" = some none)
    (xi_NoPart : PySem.W.findIn K (.ref C_NoPart) "__init__" = some (some (.ref i_NoPart)))
    (xf_NoPart : PySem.W.typeIn K (.ref i_NoPart) = some (.type "function"))
    (xs_NoPart : PySem.W.ks_superIn K C_NoPart C_NoPart "__init__" = some (some (.builtin "ValueError.__init__")))
    (xv_NoPart : PySem.W.subIn K (.ref C_NoPart) (.type "ValueError") = some true)
    (xl_NoPart : K.lookup i_NoPart = some ⟨xoc_NoPart, xod_NoPart, .func (PySem.W.ksFn "__init__" "NoPart.__init__" (defArgs (inClass (top 3) 0)) (defBody (inClass (top 3) 0)) (defScope (inClass (top 3) 0)) .none xkV_NoPart xdc_NoPart xpm_NoPart xan_NoPart (.ref cda_NoPart) xct_NoPart cc_NoPart), xsl_NoPart⟩)
    (xc_NoPart : PySem.W.codeIn K (.ref cda_NoPart) "NoPart.__init__" = true)
    (xd_NoPart : K.lookup cda_NoPart = some ⟨xccl_NoPart, xcdd_NoPart, .fields xvs_NoPart, xccs_NoPart⟩)
    (xw_NoPart : xvs_NoPart[2]? = some (.str xfile_NoPart xtf_NoPart))
    (xy_NoPart : ((PP.main.file : Str) == xfile_NoPart) = true)
    (xz_NoPart : K.lookup cc_NoPart = some ⟨xcl_NoPart, xcld_NoPart, .cell (some (.ref C_NoPart)), xcsl_NoPart⟩)
    (xg_NoPart : PySem.W.findIn K (.ref C_NoPart) "__getattribute__" = some (some (.builtin "BaseException.__getattribute__")))
    (xh_NoPart : PySem.W.findIn K (.ref C_NoPart) "__getattr__" = some none)
    (xj_NoPart : PySem.W.hasDictIn K C_NoPart = true)
    (a_NoSensor : PySem.W.nsIn K mainGlobals "NoSensor" = some (some (.ref C_NoSensor)))
    (xb_NoSensor : errB K C_NoSensor = true)
    (xa_NoSensor : PySem.W.findIn K (.ref C_NoSensor) "__setattr__" = some (some (.builtin "object.__setattr__")))
    (xe_NoSensor : PySem.W.subIn K (.ref C_NoSensor) (.type "BaseException") = some true)
    (xt_NoSensor : PySem.W.typeIn K (.ref C_NoSensor) = some (.type "type"))
    (xk_NoSensor : PySem.W.keepIn K (.ref C_NoSensor) = true)
    (xm_NoSensor : PySem.W.mroIn K C_NoSensor (.ref C_NoSensor) = some true)
    (yc_NoSensor : (PySem.W.clsIn K C_NoSensor).isSome = true)
    (yg_NoSensor : PySem.W.findIn K (.ref C_NoSensor) "__getattribute__" = some (some (.builtin "BaseException.__getattribute__")))
    (yh_NoSensor : PySem.W.findIn K (.ref C_NoSensor) "__getattr__" = some none)
    (ya_NoSensor : PySem.W.findIn K (.ref C_NoSensor) "__class__" = some (some (.builtin "object.__class__")))
    (ym_NoSensor : PySem.W.mroIn K C_NoSensor (.type "object") = some true)
    (xx_NoSensor_FaultError : PySem.W.exmOne K (.ref C_NoSensor) (.ref C_FaultError) = some true)
    (xn_NoSensor : PySem.W.findIn K (.ref C_NoSensor) "index" = some none)
    (xi_NoSensor : PySem.W.findIn K (.ref C_NoSensor) "__init__" = some (some (.ref i_NoSensor)))
    (xf_NoSensor : PySem.W.typeIn K (.ref i_NoSensor) = some (.type "function"))
    (xs_NoSensor : PySem.W.ks_superIn K C_NoSensor C_NoSensor "__init__" = some (some (.builtin "ValueError.__init__")))
    (xv_NoSensor : PySem.W.subIn K (.ref C_NoSensor) (.type "ValueError") = some true)
    (xl_NoSensor : K.lookup i_NoSensor = some ⟨xoc_NoSensor, xod_NoSensor, .func (PySem.W.ksFn "__init__" "NoSensor.__init__" (defArgs (inClass (top 4) 0)) (defBody (inClass (top 4) 0)) (defScope (inClass (top 4) 0)) .none xkV_NoSensor xdc_NoSensor xpm_NoSensor xan_NoSensor (.ref cda_NoSensor) xct_NoSensor cc_NoSensor), xsl_NoSensor⟩)
    (xc_NoSensor : PySem.W.codeIn K (.ref cda_NoSensor) "NoSensor.__init__" = true)
    (xd_NoSensor : K.lookup cda_NoSensor = some ⟨xccl_NoSensor, xcdd_NoSensor, .fields xvs_NoSensor, xccs_NoSensor⟩)
    (xw_NoSensor : xvs_NoSensor[2]? = some (.str xfile_NoSensor xtf_NoSensor))
    (xy_NoSensor : ((PP.main.file : Str) == xfile_NoSensor) = true)
    (xz_NoSensor : K.lookup cc_NoSensor = some ⟨xcl_NoSensor, xcld_NoSensor, .cell (some (.ref C_NoSensor)), xcsl_NoSensor⟩)
    (xg_NoSensor : PySem.W.findIn K (.ref C_NoSensor) "__getattribute__" = some (some (.builtin "BaseException.__getattribute__")))
    (xh_NoSensor : PySem.W.findIn K (.ref C_NoSensor) "__getattr__" = some none)
    (xj_NoSensor : PySem.W.hasDictIn K C_NoSensor = true)
    (a_NoEvent : PySem.W.nsIn K mainGlobals "NoEvent" = some (some (.ref C_NoEvent)))
    (xb_NoEvent : errB K C_NoEvent = true)
    (xa_NoEvent : PySem.W.findIn K (.ref C_NoEvent) "__setattr__" = some (some (.builtin "object.__setattr__")))
    (xe_NoEvent : PySem.W.subIn K (.ref C_NoEvent) (.type "BaseException") = some true)
    (xt_NoEvent : PySem.W.typeIn K (.ref C_NoEvent) = some (.type "type"))
    (xk_NoEvent : PySem.W.keepIn K (.ref C_NoEvent) = true)
    (xm_NoEvent : PySem.W.mroIn K C_NoEvent (.ref C_NoEvent) = some true)
    (yc_NoEvent : (PySem.W.clsIn K C_NoEvent).isSome = true)
    (yg_NoEvent : PySem.W.findIn K (.ref C_NoEvent) "__getattribute__" = some (some (.builtin "BaseException.__getattribute__")))
    (yh_NoEvent : PySem.W.findIn K (.ref C_NoEvent) "__getattr__" = some none)
    (ya_NoEvent : PySem.W.findIn K (.ref C_NoEvent) "__class__" = some (some (.builtin "object.__class__")))
    (ym_NoEvent : PySem.W.mroIn K C_NoEvent (.type "object") = some true)
    (xx_NoEvent_FaultError : PySem.W.exmOne K (.ref C_NoEvent) (.ref C_FaultError) = some true)
    (xn_NoEvent : PySem.W.findIn K (.ref C_NoEvent) "index" = some none)
    (xi_NoEvent : PySem.W.findIn K (.ref C_NoEvent) "__init__" = some (some (.ref i_NoEvent)))
    (xf_NoEvent : PySem.W.typeIn K (.ref i_NoEvent) = some (.type "function"))
    (xs_NoEvent : PySem.W.ks_superIn K C_NoEvent C_NoEvent "__init__" = some (some (.builtin "ValueError.__init__")))
    (xv_NoEvent : PySem.W.subIn K (.ref C_NoEvent) (.type "ValueError") = some true)
    (xl_NoEvent : K.lookup i_NoEvent = some ⟨xoc_NoEvent, xod_NoEvent, .func (PySem.W.ksFn "__init__" "NoEvent.__init__" (defArgs (inClass (top 5) 0)) (defBody (inClass (top 5) 0)) (defScope (inClass (top 5) 0)) .none xkV_NoEvent xdc_NoEvent xpm_NoEvent xan_NoEvent (.ref cda_NoEvent) xct_NoEvent cc_NoEvent), xsl_NoEvent⟩)
    (xc_NoEvent : PySem.W.codeIn K (.ref cda_NoEvent) "NoEvent.__init__" = true)
    (xd_NoEvent : K.lookup cda_NoEvent = some ⟨xccl_NoEvent, xcdd_NoEvent, .fields xvs_NoEvent, xccs_NoEvent⟩)
    (xw_NoEvent : xvs_NoEvent[2]? = some (.str xfile_NoEvent xtf_NoEvent))
    (xy_NoEvent : ((PP.main.file : Str) == xfile_NoEvent) = true)
    (xz_NoEvent : K.lookup cc_NoEvent = some ⟨xcl_NoEvent, xcld_NoEvent, .cell (some (.ref C_NoEvent)), xcsl_NoEvent⟩)
    (xg_NoEvent : PySem.W.findIn K (.ref C_NoEvent) "__getattribute__" = some (some (.builtin "BaseException.__getattribute__")))
    (xh_NoEvent : PySem.W.findIn K (.ref C_NoEvent) "__getattr__" = some none)
    (xj_NoEvent : PySem.W.hasDictIn K C_NoEvent = true)
    (a_NoNumber : PySem.W.nsIn K mainGlobals "NoNumber" = some (some (.ref C_NoNumber)))
    (xb_NoNumber : errB K C_NoNumber = true)
    (xa_NoNumber : PySem.W.findIn K (.ref C_NoNumber) "__setattr__" = some (some (.builtin "object.__setattr__")))
    (xe_NoNumber : PySem.W.subIn K (.ref C_NoNumber) (.type "BaseException") = some true)
    (xt_NoNumber : PySem.W.typeIn K (.ref C_NoNumber) = some (.type "type"))
    (xk_NoNumber : PySem.W.keepIn K (.ref C_NoNumber) = true)
    (xm_NoNumber : PySem.W.mroIn K C_NoNumber (.ref C_NoNumber) = some true)
    (yc_NoNumber : (PySem.W.clsIn K C_NoNumber).isSome = true)
    (yg_NoNumber : PySem.W.findIn K (.ref C_NoNumber) "__getattribute__" = some (some (.builtin "BaseException.__getattribute__")))
    (yh_NoNumber : PySem.W.findIn K (.ref C_NoNumber) "__getattr__" = some none)
    (ya_NoNumber : PySem.W.findIn K (.ref C_NoNumber) "__class__" = some (some (.builtin "object.__class__")))
    (ym_NoNumber : PySem.W.mroIn K C_NoNumber (.type "object") = some true)
    (xx_NoNumber_FaultError : PySem.W.exmOne K (.ref C_NoNumber) (.ref C_FaultError) = some true)
    (xn_NoNumber : PySem.W.findIn K (.ref C_NoNumber) "number" = some none)
    (xi_NoNumber : PySem.W.findIn K (.ref C_NoNumber) "__init__" = some (some (.ref i_NoNumber)))
    (xf_NoNumber : PySem.W.typeIn K (.ref i_NoNumber) = some (.type "function"))
    (xs_NoNumber : PySem.W.ks_superIn K C_NoNumber C_NoNumber "__init__" = some (some (.builtin "ValueError.__init__")))
    (xv_NoNumber : PySem.W.subIn K (.ref C_NoNumber) (.type "ValueError") = some true)
    (xl_NoNumber : K.lookup i_NoNumber = some ⟨xoc_NoNumber, xod_NoNumber, .func (PySem.W.ksFn "__init__" "NoNumber.__init__" (defArgs (inClass (top 6) 0)) (defBody (inClass (top 6) 0)) (defScope (inClass (top 6) 0)) .none xkV_NoNumber xdc_NoNumber xpm_NoNumber xan_NoNumber (.ref cda_NoNumber) xct_NoNumber cc_NoNumber), xsl_NoNumber⟩)
    (xc_NoNumber : PySem.W.codeIn K (.ref cda_NoNumber) "NoNumber.__init__" = true)
    (xd_NoNumber : K.lookup cda_NoNumber = some ⟨xccl_NoNumber, xcdd_NoNumber, .fields xvs_NoNumber, xccs_NoNumber⟩)
    (xw_NoNumber : xvs_NoNumber[2]? = some (.str xfile_NoNumber xtf_NoNumber))
    (xy_NoNumber : ((PP.main.file : Str) == xfile_NoNumber) = true)
    (xz_NoNumber : K.lookup cc_NoNumber = some ⟨xcl_NoNumber, xcld_NoNumber, .cell (some (.ref C_NoNumber)), xcsl_NoNumber⟩)
    (xg_NoNumber : PySem.W.findIn K (.ref C_NoNumber) "__getattribute__" = some (some (.builtin "BaseException.__getattribute__")))
    (xh_NoNumber : PySem.W.findIn K (.ref C_NoNumber) "__getattr__" = some none)
    (xj_NoNumber : PySem.W.hasDictIn K C_NoNumber = true)
    (a_NoOdds : PySem.W.nsIn K mainGlobals "NoOdds" = some (some (.ref C_NoOdds)))
    (xb_NoOdds : errB K C_NoOdds = true)
    (xa_NoOdds : PySem.W.findIn K (.ref C_NoOdds) "__setattr__" = some (some (.builtin "object.__setattr__")))
    (xe_NoOdds : PySem.W.subIn K (.ref C_NoOdds) (.type "BaseException") = some true)
    (xt_NoOdds : PySem.W.typeIn K (.ref C_NoOdds) = some (.type "type"))
    (xk_NoOdds : PySem.W.keepIn K (.ref C_NoOdds) = true)
    (xm_NoOdds : PySem.W.mroIn K C_NoOdds (.ref C_NoOdds) = some true)
    (yc_NoOdds : (PySem.W.clsIn K C_NoOdds).isSome = true)
    (yg_NoOdds : PySem.W.findIn K (.ref C_NoOdds) "__getattribute__" = some (some (.builtin "BaseException.__getattribute__")))
    (yh_NoOdds : PySem.W.findIn K (.ref C_NoOdds) "__getattr__" = some none)
    (ya_NoOdds : PySem.W.findIn K (.ref C_NoOdds) "__class__" = some (some (.builtin "object.__class__")))
    (ym_NoOdds : PySem.W.mroIn K C_NoOdds (.type "object") = some true)
    (xx_NoOdds_FaultError : PySem.W.exmOne K (.ref C_NoOdds) (.ref C_FaultError) = some true)
    (xo_NoOdds : PySem.W.excIn K C_NoOdds [.type "ValueError", .type "Exception", .type "BaseException", .type "object"] "ValueError.__new__" = true)
    (a_BadMachine : PySem.W.nsIn K mainGlobals "BadMachine" = some (some (.ref C_BadMachine)))
    (xb_BadMachine : errB K C_BadMachine = true)
    (xa_BadMachine : PySem.W.findIn K (.ref C_BadMachine) "__setattr__" = some (some (.builtin "object.__setattr__")))
    (xe_BadMachine : PySem.W.subIn K (.ref C_BadMachine) (.type "BaseException") = some true)
    (xt_BadMachine : PySem.W.typeIn K (.ref C_BadMachine) = some (.type "type"))
    (xk_BadMachine : PySem.W.keepIn K (.ref C_BadMachine) = true)
    (xm_BadMachine : PySem.W.mroIn K C_BadMachine (.ref C_BadMachine) = some true)
    (yc_BadMachine : (PySem.W.clsIn K C_BadMachine).isSome = true)
    (yg_BadMachine : PySem.W.findIn K (.ref C_BadMachine) "__getattribute__" = some (some (.builtin "BaseException.__getattribute__")))
    (yh_BadMachine : PySem.W.findIn K (.ref C_BadMachine) "__getattr__" = some none)
    (ya_BadMachine : PySem.W.findIn K (.ref C_BadMachine) "__class__" = some (some (.builtin "object.__class__")))
    (ym_BadMachine : PySem.W.mroIn K C_BadMachine (.type "object") = some true)
    (xx_BadMachine_FaultError : PySem.W.exmOne K (.ref C_BadMachine) (.ref C_FaultError) = some true)
    (xo_BadMachine : PySem.W.excIn K C_BadMachine [.type "ValueError", .type "Exception", .type "BaseException", .type "object"] "ValueError.__new__" = true)
    (a_Mismatch : PySem.W.nsIn K mainGlobals "Mismatch" = some (some (.ref C_Mismatch)))
    (xb_Mismatch : errB K C_Mismatch = true)
    (xa_Mismatch : PySem.W.findIn K (.ref C_Mismatch) "__setattr__" = some (some (.builtin "object.__setattr__")))
    (xe_Mismatch : PySem.W.subIn K (.ref C_Mismatch) (.type "BaseException") = some true)
    (xt_Mismatch : PySem.W.typeIn K (.ref C_Mismatch) = some (.type "type"))
    (xk_Mismatch : PySem.W.keepIn K (.ref C_Mismatch) = true)
    (xm_Mismatch : PySem.W.mroIn K C_Mismatch (.ref C_Mismatch) = some true)
    (yc_Mismatch : (PySem.W.clsIn K C_Mismatch).isSome = true)
    (yg_Mismatch : PySem.W.findIn K (.ref C_Mismatch) "__getattribute__" = some (some (.builtin "BaseException.__getattribute__")))
    (yh_Mismatch : PySem.W.findIn K (.ref C_Mismatch) "__getattr__" = some none)
    (ya_Mismatch : PySem.W.findIn K (.ref C_Mismatch) "__class__" = some (some (.builtin "object.__class__")))
    (ym_Mismatch : PySem.W.mroIn K C_Mismatch (.type "object") = some true)
    (xx_Mismatch_FaultError : PySem.W.exmOne K (.ref C_Mismatch) (.ref C_FaultError) = some true)
    (xo_Mismatch : PySem.W.excIn K C_Mismatch [.type "ValueError", .type "Exception", .type "BaseException", .type "object"] "ValueError.__new__" = true)
    (a_TooMany : PySem.W.nsIn K mainGlobals "TooMany" = some (some (.ref C_TooMany)))
    (xb_TooMany : errB K C_TooMany = true)
    (xa_TooMany : PySem.W.findIn K (.ref C_TooMany) "__setattr__" = some (some (.builtin "object.__setattr__")))
    (xe_TooMany : PySem.W.subIn K (.ref C_TooMany) (.type "BaseException") = some true)
    (xt_TooMany : PySem.W.typeIn K (.ref C_TooMany) = some (.type "type"))
    (xk_TooMany : PySem.W.keepIn K (.ref C_TooMany) = true)
    (xm_TooMany : PySem.W.mroIn K C_TooMany (.ref C_TooMany) = some true)
    (yc_TooMany : (PySem.W.clsIn K C_TooMany).isSome = true)
    (yg_TooMany : PySem.W.findIn K (.ref C_TooMany) "__getattribute__" = some (some (.builtin "BaseException.__getattribute__")))
    (yh_TooMany : PySem.W.findIn K (.ref C_TooMany) "__getattr__" = some none)
    (ya_TooMany : PySem.W.findIn K (.ref C_TooMany) "__class__" = some (some (.builtin "object.__class__")))
    (ym_TooMany : PySem.W.mroIn K C_TooMany (.type "object") = some true)
    (xx_TooMany_FaultError : PySem.W.exmOne K (.ref C_TooMany) (.ref C_FaultError) = some true)
    (xn_TooMany : PySem.W.findIn K (.ref C_TooMany) "most" = some none)
    (xi_TooMany : PySem.W.findIn K (.ref C_TooMany) "__init__" = some (some (.ref i_TooMany)))
    (xf_TooMany : PySem.W.typeIn K (.ref i_TooMany) = some (.type "function"))
    (xs_TooMany : PySem.W.ks_superIn K C_TooMany C_TooMany "__init__" = some (some (.builtin "ValueError.__init__")))
    (xv_TooMany : PySem.W.subIn K (.ref C_TooMany) (.type "ValueError") = some true)
    (xl_TooMany : K.lookup i_TooMany = some ⟨xoc_TooMany, xod_TooMany, .func (PySem.W.ksFn "__init__" "TooMany.__init__" (defArgs (inClass (top 10) 0)) (defBody (inClass (top 10) 0)) (defScope (inClass (top 10) 0)) .none xkV_TooMany xdc_TooMany xpm_TooMany xan_TooMany (.ref cda_TooMany) xct_TooMany cc_TooMany), xsl_TooMany⟩)
    (xc_TooMany : PySem.W.codeIn K (.ref cda_TooMany) "TooMany.__init__" = true)
    (xd_TooMany : K.lookup cda_TooMany = some ⟨xccl_TooMany, xcdd_TooMany, .fields xvs_TooMany, xccs_TooMany⟩)
    (xw_TooMany : xvs_TooMany[2]? = some (.str xfile_TooMany xtf_TooMany))
    (xy_TooMany : ((PP.main.file : Str) == xfile_TooMany) = true)
    (xz_TooMany : K.lookup cc_TooMany = some ⟨xcl_TooMany, xcld_TooMany, .cell (some (.ref C_TooMany)), xcsl_TooMany⟩)
    (xg_TooMany : PySem.W.findIn K (.ref C_TooMany) "__getattribute__" = some (some (.builtin "BaseException.__getattribute__")))
    (xh_TooMany : PySem.W.findIn K (.ref C_TooMany) "__getattr__" = some none)
    (xj_TooMany : PySem.W.hasDictIn K C_TooMany = true)
    (a_NoOperation : PySem.W.nsIn K mainGlobals "NoOperation" = some (some (.ref C_NoOperation)))
    (xb_NoOperation : errB K C_NoOperation = true)
    (xa_NoOperation : PySem.W.findIn K (.ref C_NoOperation) "__setattr__" = some (some (.builtin "object.__setattr__")))
    (xe_NoOperation : PySem.W.subIn K (.ref C_NoOperation) (.type "BaseException") = some true)
    (xt_NoOperation : PySem.W.typeIn K (.ref C_NoOperation) = some (.type "type"))
    (xk_NoOperation : PySem.W.keepIn K (.ref C_NoOperation) = true)
    (xm_NoOperation : PySem.W.mroIn K C_NoOperation (.ref C_NoOperation) = some true)
    (yc_NoOperation : (PySem.W.clsIn K C_NoOperation).isSome = true)
    (yg_NoOperation : PySem.W.findIn K (.ref C_NoOperation) "__getattribute__" = some (some (.builtin "BaseException.__getattribute__")))
    (yh_NoOperation : PySem.W.findIn K (.ref C_NoOperation) "__getattr__" = some none)
    (ya_NoOperation : PySem.W.findIn K (.ref C_NoOperation) "__class__" = some (some (.builtin "object.__class__")))
    (ym_NoOperation : PySem.W.mroIn K C_NoOperation (.type "object") = some true)
    (xx_NoOperation_FaultError : PySem.W.exmOne K (.ref C_NoOperation) (.ref C_FaultError) = some true)
    (xn_NoOperation : PySem.W.findIn K (.ref C_NoOperation) "index" = some none)
    (xi_NoOperation : PySem.W.findIn K (.ref C_NoOperation) "__init__" = some (some (.ref i_NoOperation)))
    (xf_NoOperation : PySem.W.typeIn K (.ref i_NoOperation) = some (.type "function"))
    (xs_NoOperation : PySem.W.ks_superIn K C_NoOperation C_NoOperation "__init__" = some (some (.builtin "ValueError.__init__")))
    (xv_NoOperation : PySem.W.subIn K (.ref C_NoOperation) (.type "ValueError") = some true)
    (xl_NoOperation : K.lookup i_NoOperation = some ⟨xoc_NoOperation, xod_NoOperation, .func (PySem.W.ksFn "__init__" "NoOperation.__init__" (defArgs (inClass (top 11) 0)) (defBody (inClass (top 11) 0)) (defScope (inClass (top 11) 0)) .none xkV_NoOperation xdc_NoOperation xpm_NoOperation xan_NoOperation (.ref cda_NoOperation) xct_NoOperation cc_NoOperation), xsl_NoOperation⟩)
    (xc_NoOperation : PySem.W.codeIn K (.ref cda_NoOperation) "NoOperation.__init__" = true)
    (xd_NoOperation : K.lookup cda_NoOperation = some ⟨xccl_NoOperation, xcdd_NoOperation, .fields xvs_NoOperation, xccs_NoOperation⟩)
    (xw_NoOperation : xvs_NoOperation[2]? = some (.str xfile_NoOperation xtf_NoOperation))
    (xy_NoOperation : ((PP.main.file : Str) == xfile_NoOperation) = true)
    (xz_NoOperation : K.lookup cc_NoOperation = some ⟨xcl_NoOperation, xcld_NoOperation, .cell (some (.ref C_NoOperation)), xcsl_NoOperation⟩)
    (xg_NoOperation : PySem.W.findIn K (.ref C_NoOperation) "__getattribute__" = some (some (.builtin "BaseException.__getattribute__")))
    (xh_NoOperation : PySem.W.findIn K (.ref C_NoOperation) "__getattr__" = some none)
    (xj_NoOperation : PySem.W.hasDictIn K C_NoOperation = true)
    (a_NothingLeft : PySem.W.nsIn K mainGlobals "NothingLeft" = some (some (.ref C_NothingLeft)))
    (xb_NothingLeft : errB K C_NothingLeft = true)
    (xa_NothingLeft : PySem.W.findIn K (.ref C_NothingLeft) "__setattr__" = some (some (.builtin "object.__setattr__")))
    (xe_NothingLeft : PySem.W.subIn K (.ref C_NothingLeft) (.type "BaseException") = some true)
    (xt_NothingLeft : PySem.W.typeIn K (.ref C_NothingLeft) = some (.type "type"))
    (xk_NothingLeft : PySem.W.keepIn K (.ref C_NothingLeft) = true)
    (xm_NothingLeft : PySem.W.mroIn K C_NothingLeft (.ref C_NothingLeft) = some true)
    (yc_NothingLeft : (PySem.W.clsIn K C_NothingLeft).isSome = true)
    (yg_NothingLeft : PySem.W.findIn K (.ref C_NothingLeft) "__getattribute__" = some (some (.builtin "BaseException.__getattribute__")))
    (yh_NothingLeft : PySem.W.findIn K (.ref C_NothingLeft) "__getattr__" = some none)
    (ya_NothingLeft : PySem.W.findIn K (.ref C_NothingLeft) "__class__" = some (some (.builtin "object.__class__")))
    (ym_NothingLeft : PySem.W.mroIn K C_NothingLeft (.type "object") = some true)
    (xx_NothingLeft_FaultError : PySem.W.exmOne K (.ref C_NothingLeft) (.ref C_FaultError) = some true)
    (xo_NothingLeft : PySem.W.excIn K C_NothingLeft [.type "ValueError", .type "Exception", .type "BaseException", .type "object"] "ValueError.__new__" = true)
    (a_BadText : PySem.W.nsIn K mainGlobals "BadText" = some (some (.ref C_BadText)))
    (xb_BadText : errB K C_BadText = true)
    (xa_BadText : PySem.W.findIn K (.ref C_BadText) "__setattr__" = some (some (.builtin "object.__setattr__")))
    (xe_BadText : PySem.W.subIn K (.ref C_BadText) (.type "BaseException") = some true)
    (xt_BadText : PySem.W.typeIn K (.ref C_BadText) = some (.type "type"))
    (xk_BadText : PySem.W.keepIn K (.ref C_BadText) = true)
    (xm_BadText : PySem.W.mroIn K C_BadText (.ref C_BadText) = some true)
    (yc_BadText : (PySem.W.clsIn K C_BadText).isSome = true)
    (yg_BadText : PySem.W.findIn K (.ref C_BadText) "__getattribute__" = some (some (.builtin "BaseException.__getattribute__")))
    (yh_BadText : PySem.W.findIn K (.ref C_BadText) "__getattr__" = some none)
    (ya_BadText : PySem.W.findIn K (.ref C_BadText) "__class__" = some (some (.builtin "object.__class__")))
    (ym_BadText : PySem.W.mroIn K C_BadText (.type "object") = some true)
    (xx_BadText_FaultError : PySem.W.exmOne K (.ref C_BadText) (.ref C_FaultError) = some true)
    (xn_BadText : PySem.W.findIn K (.ref C_BadText) "line" = some none)
    (xi_BadText : PySem.W.findIn K (.ref C_BadText) "__init__" = some (some (.ref i_BadText)))
    (xf_BadText : PySem.W.typeIn K (.ref i_BadText) = some (.type "function"))
    (xs_BadText : PySem.W.ks_superIn K C_BadText C_BadText "__init__" = some (some (.builtin "ValueError.__init__")))
    (xv_BadText : PySem.W.subIn K (.ref C_BadText) (.type "ValueError") = some true)
    (xl_BadText : K.lookup i_BadText = some ⟨xoc_BadText, xod_BadText, .func (PySem.W.ksFn "__init__" "BadText.__init__" (defArgs (inClass (top 13) 0)) (defBody (inClass (top 13) 0)) (defScope (inClass (top 13) 0)) .none xkV_BadText xdc_BadText xpm_BadText xan_BadText (.ref cda_BadText) xct_BadText cc_BadText), xsl_BadText⟩)
    (xc_BadText : PySem.W.codeIn K (.ref cda_BadText) "BadText.__init__" = true)
    (xd_BadText : K.lookup cda_BadText = some ⟨xccl_BadText, xcdd_BadText, .fields xvs_BadText, xccs_BadText⟩)
    (xw_BadText : xvs_BadText[2]? = some (.str xfile_BadText xtf_BadText))
    (xy_BadText : ((PP.main.file : Str) == xfile_BadText) = true)
    (xz_BadText : K.lookup cc_BadText = some ⟨xcl_BadText, xcld_BadText, .cell (some (.ref C_BadText)), xcsl_BadText⟩)
    (xg_BadText : PySem.W.findIn K (.ref C_BadText) "__getattribute__" = some (some (.builtin "BaseException.__getattribute__")))
    (xh_BadText : PySem.W.findIn K (.ref C_BadText) "__getattr__" = some none)
    (xj_BadText : PySem.W.hasDictIn K C_BadText = true)
    (yn : PySem.W.specialIn K (.builtin "object.__class__") "__get__" = some (some (.builtin "getset_descriptor.__get__")))
    (yt : PySem.W.takesIn K (.builtin "object.__class__") = some true)
    (xk_FaultError_BadMachine : PySem.W.kitOne K (.ref C_FaultError) (.ref C_BadMachine) = some false)
    (xk_BadPlant_BadMachine : PySem.W.kitOne K (.ref C_BadPlant) (.ref C_BadMachine) = some false)
    (xk_NoPart_BadMachine : PySem.W.kitOne K (.ref C_NoPart) (.ref C_BadMachine) = some false)
    (xk_NoSensor_BadMachine : PySem.W.kitOne K (.ref C_NoSensor) (.ref C_BadMachine) = some false)
    (xk_NoEvent_BadMachine : PySem.W.kitOne K (.ref C_NoEvent) (.ref C_BadMachine) = some false)
    (xk_NoNumber_BadMachine : PySem.W.kitOne K (.ref C_NoNumber) (.ref C_BadMachine) = some false)
    (xk_NoOdds_BadMachine : PySem.W.kitOne K (.ref C_NoOdds) (.ref C_BadMachine) = some false)
    (xk_BadMachine_BadMachine : PySem.W.kitOne K (.ref C_BadMachine) (.ref C_BadMachine) = some true)
    (xk_Mismatch_BadMachine : PySem.W.kitOne K (.ref C_Mismatch) (.ref C_BadMachine) = some false)
    (xk_TooMany_BadMachine : PySem.W.kitOne K (.ref C_TooMany) (.ref C_BadMachine) = some false)
    (xk_NoOperation_BadMachine : PySem.W.kitOne K (.ref C_NoOperation) (.ref C_BadMachine) = some false)
    (xk_NothingLeft_BadMachine : PySem.W.kitOne K (.ref C_NothingLeft) (.ref C_BadMachine) = some false)
    (xk_BadText_BadMachine : PySem.W.kitOne K (.ref C_BadText) (.ref C_BadMachine) = some false)
    (xk_FaultError_BadPlant : PySem.W.kitOne K (.ref C_FaultError) (.ref C_BadPlant) = some false)
    (xk_BadPlant_BadPlant : PySem.W.kitOne K (.ref C_BadPlant) (.ref C_BadPlant) = some true)
    (xk_NoPart_BadPlant : PySem.W.kitOne K (.ref C_NoPart) (.ref C_BadPlant) = some false)
    (xk_NoSensor_BadPlant : PySem.W.kitOne K (.ref C_NoSensor) (.ref C_BadPlant) = some false)
    (xk_NoEvent_BadPlant : PySem.W.kitOne K (.ref C_NoEvent) (.ref C_BadPlant) = some false)
    (xk_NoNumber_BadPlant : PySem.W.kitOne K (.ref C_NoNumber) (.ref C_BadPlant) = some false)
    (xk_NoOdds_BadPlant : PySem.W.kitOne K (.ref C_NoOdds) (.ref C_BadPlant) = some false)
    (xk_BadMachine_BadPlant : PySem.W.kitOne K (.ref C_BadMachine) (.ref C_BadPlant) = some false)
    (xk_Mismatch_BadPlant : PySem.W.kitOne K (.ref C_Mismatch) (.ref C_BadPlant) = some false)
    (xk_TooMany_BadPlant : PySem.W.kitOne K (.ref C_TooMany) (.ref C_BadPlant) = some false)
    (xk_NoOperation_BadPlant : PySem.W.kitOne K (.ref C_NoOperation) (.ref C_BadPlant) = some false)
    (xk_NothingLeft_BadPlant : PySem.W.kitOne K (.ref C_NothingLeft) (.ref C_BadPlant) = some false)
    (xk_BadText_BadPlant : PySem.W.kitOne K (.ref C_BadText) (.ref C_BadPlant) = some false)
    (xk_FaultError_BadText : PySem.W.kitOne K (.ref C_FaultError) (.ref C_BadText) = some false)
    (xk_BadPlant_BadText : PySem.W.kitOne K (.ref C_BadPlant) (.ref C_BadText) = some false)
    (xk_NoPart_BadText : PySem.W.kitOne K (.ref C_NoPart) (.ref C_BadText) = some false)
    (xk_NoSensor_BadText : PySem.W.kitOne K (.ref C_NoSensor) (.ref C_BadText) = some false)
    (xk_NoEvent_BadText : PySem.W.kitOne K (.ref C_NoEvent) (.ref C_BadText) = some false)
    (xk_NoNumber_BadText : PySem.W.kitOne K (.ref C_NoNumber) (.ref C_BadText) = some false)
    (xk_NoOdds_BadText : PySem.W.kitOne K (.ref C_NoOdds) (.ref C_BadText) = some false)
    (xk_BadMachine_BadText : PySem.W.kitOne K (.ref C_BadMachine) (.ref C_BadText) = some false)
    (xk_Mismatch_BadText : PySem.W.kitOne K (.ref C_Mismatch) (.ref C_BadText) = some false)
    (xk_TooMany_BadText : PySem.W.kitOne K (.ref C_TooMany) (.ref C_BadText) = some false)
    (xk_NoOperation_BadText : PySem.W.kitOne K (.ref C_NoOperation) (.ref C_BadText) = some false)
    (xk_NothingLeft_BadText : PySem.W.kitOne K (.ref C_NothingLeft) (.ref C_BadText) = some false)
    (xk_BadText_BadText : PySem.W.kitOne K (.ref C_BadText) (.ref C_BadText) = some true)
    (xk_FaultError_Mismatch : PySem.W.kitOne K (.ref C_FaultError) (.ref C_Mismatch) = some false)
    (xk_BadPlant_Mismatch : PySem.W.kitOne K (.ref C_BadPlant) (.ref C_Mismatch) = some false)
    (xk_NoPart_Mismatch : PySem.W.kitOne K (.ref C_NoPart) (.ref C_Mismatch) = some false)
    (xk_NoSensor_Mismatch : PySem.W.kitOne K (.ref C_NoSensor) (.ref C_Mismatch) = some false)
    (xk_NoEvent_Mismatch : PySem.W.kitOne K (.ref C_NoEvent) (.ref C_Mismatch) = some false)
    (xk_NoNumber_Mismatch : PySem.W.kitOne K (.ref C_NoNumber) (.ref C_Mismatch) = some false)
    (xk_NoOdds_Mismatch : PySem.W.kitOne K (.ref C_NoOdds) (.ref C_Mismatch) = some false)
    (xk_BadMachine_Mismatch : PySem.W.kitOne K (.ref C_BadMachine) (.ref C_Mismatch) = some false)
    (xk_Mismatch_Mismatch : PySem.W.kitOne K (.ref C_Mismatch) (.ref C_Mismatch) = some true)
    (xk_TooMany_Mismatch : PySem.W.kitOne K (.ref C_TooMany) (.ref C_Mismatch) = some false)
    (xk_NoOperation_Mismatch : PySem.W.kitOne K (.ref C_NoOperation) (.ref C_Mismatch) = some false)
    (xk_NothingLeft_Mismatch : PySem.W.kitOne K (.ref C_NothingLeft) (.ref C_Mismatch) = some false)
    (xk_BadText_Mismatch : PySem.W.kitOne K (.ref C_BadText) (.ref C_Mismatch) = some false)
    (xk_FaultError_NoEvent : PySem.W.kitOne K (.ref C_FaultError) (.ref C_NoEvent) = some false)
    (xk_BadPlant_NoEvent : PySem.W.kitOne K (.ref C_BadPlant) (.ref C_NoEvent) = some false)
    (xk_NoPart_NoEvent : PySem.W.kitOne K (.ref C_NoPart) (.ref C_NoEvent) = some false)
    (xk_NoSensor_NoEvent : PySem.W.kitOne K (.ref C_NoSensor) (.ref C_NoEvent) = some false)
    (xk_NoEvent_NoEvent : PySem.W.kitOne K (.ref C_NoEvent) (.ref C_NoEvent) = some true)
    (xk_NoNumber_NoEvent : PySem.W.kitOne K (.ref C_NoNumber) (.ref C_NoEvent) = some false)
    (xk_NoOdds_NoEvent : PySem.W.kitOne K (.ref C_NoOdds) (.ref C_NoEvent) = some false)
    (xk_BadMachine_NoEvent : PySem.W.kitOne K (.ref C_BadMachine) (.ref C_NoEvent) = some false)
    (xk_Mismatch_NoEvent : PySem.W.kitOne K (.ref C_Mismatch) (.ref C_NoEvent) = some false)
    (xk_TooMany_NoEvent : PySem.W.kitOne K (.ref C_TooMany) (.ref C_NoEvent) = some false)
    (xk_NoOperation_NoEvent : PySem.W.kitOne K (.ref C_NoOperation) (.ref C_NoEvent) = some false)
    (xk_NothingLeft_NoEvent : PySem.W.kitOne K (.ref C_NothingLeft) (.ref C_NoEvent) = some false)
    (xk_BadText_NoEvent : PySem.W.kitOne K (.ref C_BadText) (.ref C_NoEvent) = some false)
    (xk_FaultError_NoNumber : PySem.W.kitOne K (.ref C_FaultError) (.ref C_NoNumber) = some false)
    (xk_BadPlant_NoNumber : PySem.W.kitOne K (.ref C_BadPlant) (.ref C_NoNumber) = some false)
    (xk_NoPart_NoNumber : PySem.W.kitOne K (.ref C_NoPart) (.ref C_NoNumber) = some false)
    (xk_NoSensor_NoNumber : PySem.W.kitOne K (.ref C_NoSensor) (.ref C_NoNumber) = some false)
    (xk_NoEvent_NoNumber : PySem.W.kitOne K (.ref C_NoEvent) (.ref C_NoNumber) = some false)
    (xk_NoNumber_NoNumber : PySem.W.kitOne K (.ref C_NoNumber) (.ref C_NoNumber) = some true)
    (xk_NoOdds_NoNumber : PySem.W.kitOne K (.ref C_NoOdds) (.ref C_NoNumber) = some false)
    (xk_BadMachine_NoNumber : PySem.W.kitOne K (.ref C_BadMachine) (.ref C_NoNumber) = some false)
    (xk_Mismatch_NoNumber : PySem.W.kitOne K (.ref C_Mismatch) (.ref C_NoNumber) = some false)
    (xk_TooMany_NoNumber : PySem.W.kitOne K (.ref C_TooMany) (.ref C_NoNumber) = some false)
    (xk_NoOperation_NoNumber : PySem.W.kitOne K (.ref C_NoOperation) (.ref C_NoNumber) = some false)
    (xk_NothingLeft_NoNumber : PySem.W.kitOne K (.ref C_NothingLeft) (.ref C_NoNumber) = some false)
    (xk_BadText_NoNumber : PySem.W.kitOne K (.ref C_BadText) (.ref C_NoNumber) = some false)
    (xk_FaultError_NoOdds : PySem.W.kitOne K (.ref C_FaultError) (.ref C_NoOdds) = some false)
    (xk_BadPlant_NoOdds : PySem.W.kitOne K (.ref C_BadPlant) (.ref C_NoOdds) = some false)
    (xk_NoPart_NoOdds : PySem.W.kitOne K (.ref C_NoPart) (.ref C_NoOdds) = some false)
    (xk_NoSensor_NoOdds : PySem.W.kitOne K (.ref C_NoSensor) (.ref C_NoOdds) = some false)
    (xk_NoEvent_NoOdds : PySem.W.kitOne K (.ref C_NoEvent) (.ref C_NoOdds) = some false)
    (xk_NoNumber_NoOdds : PySem.W.kitOne K (.ref C_NoNumber) (.ref C_NoOdds) = some false)
    (xk_NoOdds_NoOdds : PySem.W.kitOne K (.ref C_NoOdds) (.ref C_NoOdds) = some true)
    (xk_BadMachine_NoOdds : PySem.W.kitOne K (.ref C_BadMachine) (.ref C_NoOdds) = some false)
    (xk_Mismatch_NoOdds : PySem.W.kitOne K (.ref C_Mismatch) (.ref C_NoOdds) = some false)
    (xk_TooMany_NoOdds : PySem.W.kitOne K (.ref C_TooMany) (.ref C_NoOdds) = some false)
    (xk_NoOperation_NoOdds : PySem.W.kitOne K (.ref C_NoOperation) (.ref C_NoOdds) = some false)
    (xk_NothingLeft_NoOdds : PySem.W.kitOne K (.ref C_NothingLeft) (.ref C_NoOdds) = some false)
    (xk_BadText_NoOdds : PySem.W.kitOne K (.ref C_BadText) (.ref C_NoOdds) = some false)
    (xk_FaultError_NoOperation : PySem.W.kitOne K (.ref C_FaultError) (.ref C_NoOperation) = some false)
    (xk_BadPlant_NoOperation : PySem.W.kitOne K (.ref C_BadPlant) (.ref C_NoOperation) = some false)
    (xk_NoPart_NoOperation : PySem.W.kitOne K (.ref C_NoPart) (.ref C_NoOperation) = some false)
    (xk_NoSensor_NoOperation : PySem.W.kitOne K (.ref C_NoSensor) (.ref C_NoOperation) = some false)
    (xk_NoEvent_NoOperation : PySem.W.kitOne K (.ref C_NoEvent) (.ref C_NoOperation) = some false)
    (xk_NoNumber_NoOperation : PySem.W.kitOne K (.ref C_NoNumber) (.ref C_NoOperation) = some false)
    (xk_NoOdds_NoOperation : PySem.W.kitOne K (.ref C_NoOdds) (.ref C_NoOperation) = some false)
    (xk_BadMachine_NoOperation : PySem.W.kitOne K (.ref C_BadMachine) (.ref C_NoOperation) = some false)
    (xk_Mismatch_NoOperation : PySem.W.kitOne K (.ref C_Mismatch) (.ref C_NoOperation) = some false)
    (xk_TooMany_NoOperation : PySem.W.kitOne K (.ref C_TooMany) (.ref C_NoOperation) = some false)
    (xk_NoOperation_NoOperation : PySem.W.kitOne K (.ref C_NoOperation) (.ref C_NoOperation) = some true)
    (xk_NothingLeft_NoOperation : PySem.W.kitOne K (.ref C_NothingLeft) (.ref C_NoOperation) = some false)
    (xk_BadText_NoOperation : PySem.W.kitOne K (.ref C_BadText) (.ref C_NoOperation) = some false)
    (xk_FaultError_NoPart : PySem.W.kitOne K (.ref C_FaultError) (.ref C_NoPart) = some false)
    (xk_BadPlant_NoPart : PySem.W.kitOne K (.ref C_BadPlant) (.ref C_NoPart) = some false)
    (xk_NoPart_NoPart : PySem.W.kitOne K (.ref C_NoPart) (.ref C_NoPart) = some true)
    (xk_NoSensor_NoPart : PySem.W.kitOne K (.ref C_NoSensor) (.ref C_NoPart) = some false)
    (xk_NoEvent_NoPart : PySem.W.kitOne K (.ref C_NoEvent) (.ref C_NoPart) = some false)
    (xk_NoNumber_NoPart : PySem.W.kitOne K (.ref C_NoNumber) (.ref C_NoPart) = some false)
    (xk_NoOdds_NoPart : PySem.W.kitOne K (.ref C_NoOdds) (.ref C_NoPart) = some false)
    (xk_BadMachine_NoPart : PySem.W.kitOne K (.ref C_BadMachine) (.ref C_NoPart) = some false)
    (xk_Mismatch_NoPart : PySem.W.kitOne K (.ref C_Mismatch) (.ref C_NoPart) = some false)
    (xk_TooMany_NoPart : PySem.W.kitOne K (.ref C_TooMany) (.ref C_NoPart) = some false)
    (xk_NoOperation_NoPart : PySem.W.kitOne K (.ref C_NoOperation) (.ref C_NoPart) = some false)
    (xk_NothingLeft_NoPart : PySem.W.kitOne K (.ref C_NothingLeft) (.ref C_NoPart) = some false)
    (xk_BadText_NoPart : PySem.W.kitOne K (.ref C_BadText) (.ref C_NoPart) = some false)
    (xk_FaultError_NoSensor : PySem.W.kitOne K (.ref C_FaultError) (.ref C_NoSensor) = some false)
    (xk_BadPlant_NoSensor : PySem.W.kitOne K (.ref C_BadPlant) (.ref C_NoSensor) = some false)
    (xk_NoPart_NoSensor : PySem.W.kitOne K (.ref C_NoPart) (.ref C_NoSensor) = some false)
    (xk_NoSensor_NoSensor : PySem.W.kitOne K (.ref C_NoSensor) (.ref C_NoSensor) = some true)
    (xk_NoEvent_NoSensor : PySem.W.kitOne K (.ref C_NoEvent) (.ref C_NoSensor) = some false)
    (xk_NoNumber_NoSensor : PySem.W.kitOne K (.ref C_NoNumber) (.ref C_NoSensor) = some false)
    (xk_NoOdds_NoSensor : PySem.W.kitOne K (.ref C_NoOdds) (.ref C_NoSensor) = some false)
    (xk_BadMachine_NoSensor : PySem.W.kitOne K (.ref C_BadMachine) (.ref C_NoSensor) = some false)
    (xk_Mismatch_NoSensor : PySem.W.kitOne K (.ref C_Mismatch) (.ref C_NoSensor) = some false)
    (xk_TooMany_NoSensor : PySem.W.kitOne K (.ref C_TooMany) (.ref C_NoSensor) = some false)
    (xk_NoOperation_NoSensor : PySem.W.kitOne K (.ref C_NoOperation) (.ref C_NoSensor) = some false)
    (xk_NothingLeft_NoSensor : PySem.W.kitOne K (.ref C_NothingLeft) (.ref C_NoSensor) = some false)
    (xk_BadText_NoSensor : PySem.W.kitOne K (.ref C_BadText) (.ref C_NoSensor) = some false)
    (xk_FaultError_NothingLeft : PySem.W.kitOne K (.ref C_FaultError) (.ref C_NothingLeft) = some false)
    (xk_BadPlant_NothingLeft : PySem.W.kitOne K (.ref C_BadPlant) (.ref C_NothingLeft) = some false)
    (xk_NoPart_NothingLeft : PySem.W.kitOne K (.ref C_NoPart) (.ref C_NothingLeft) = some false)
    (xk_NoSensor_NothingLeft : PySem.W.kitOne K (.ref C_NoSensor) (.ref C_NothingLeft) = some false)
    (xk_NoEvent_NothingLeft : PySem.W.kitOne K (.ref C_NoEvent) (.ref C_NothingLeft) = some false)
    (xk_NoNumber_NothingLeft : PySem.W.kitOne K (.ref C_NoNumber) (.ref C_NothingLeft) = some false)
    (xk_NoOdds_NothingLeft : PySem.W.kitOne K (.ref C_NoOdds) (.ref C_NothingLeft) = some false)
    (xk_BadMachine_NothingLeft : PySem.W.kitOne K (.ref C_BadMachine) (.ref C_NothingLeft) = some false)
    (xk_Mismatch_NothingLeft : PySem.W.kitOne K (.ref C_Mismatch) (.ref C_NothingLeft) = some false)
    (xk_TooMany_NothingLeft : PySem.W.kitOne K (.ref C_TooMany) (.ref C_NothingLeft) = some false)
    (xk_NoOperation_NothingLeft : PySem.W.kitOne K (.ref C_NoOperation) (.ref C_NothingLeft) = some false)
    (xk_NothingLeft_NothingLeft : PySem.W.kitOne K (.ref C_NothingLeft) (.ref C_NothingLeft) = some true)
    (xk_BadText_NothingLeft : PySem.W.kitOne K (.ref C_BadText) (.ref C_NothingLeft) = some false)
    (xk_FaultError_TooMany : PySem.W.kitOne K (.ref C_FaultError) (.ref C_TooMany) = some false)
    (xk_BadPlant_TooMany : PySem.W.kitOne K (.ref C_BadPlant) (.ref C_TooMany) = some false)
    (xk_NoPart_TooMany : PySem.W.kitOne K (.ref C_NoPart) (.ref C_TooMany) = some false)
    (xk_NoSensor_TooMany : PySem.W.kitOne K (.ref C_NoSensor) (.ref C_TooMany) = some false)
    (xk_NoEvent_TooMany : PySem.W.kitOne K (.ref C_NoEvent) (.ref C_TooMany) = some false)
    (xk_NoNumber_TooMany : PySem.W.kitOne K (.ref C_NoNumber) (.ref C_TooMany) = some false)
    (xk_NoOdds_TooMany : PySem.W.kitOne K (.ref C_NoOdds) (.ref C_TooMany) = some false)
    (xk_BadMachine_TooMany : PySem.W.kitOne K (.ref C_BadMachine) (.ref C_TooMany) = some false)
    (xk_Mismatch_TooMany : PySem.W.kitOne K (.ref C_Mismatch) (.ref C_TooMany) = some false)
    (xk_TooMany_TooMany : PySem.W.kitOne K (.ref C_TooMany) (.ref C_TooMany) = some true)
    (xk_NoOperation_TooMany : PySem.W.kitOne K (.ref C_NoOperation) (.ref C_TooMany) = some false)
    (xk_NothingLeft_TooMany : PySem.W.kitOne K (.ref C_NothingLeft) (.ref C_TooMany) = some false)
    (xk_BadText_TooMany : PySem.W.kitOne K (.ref C_BadText) (.ref C_TooMany) = some false)
    (xk_FaultError_ValueError : PySem.W.kitOne K (.ref C_FaultError) (.type "ValueError") = some true)
    (xk_BadPlant_ValueError : PySem.W.kitOne K (.ref C_BadPlant) (.type "ValueError") = some true)
    (xk_NoPart_ValueError : PySem.W.kitOne K (.ref C_NoPart) (.type "ValueError") = some true)
    (xk_NoSensor_ValueError : PySem.W.kitOne K (.ref C_NoSensor) (.type "ValueError") = some true)
    (xk_NoEvent_ValueError : PySem.W.kitOne K (.ref C_NoEvent) (.type "ValueError") = some true)
    (xk_NoNumber_ValueError : PySem.W.kitOne K (.ref C_NoNumber) (.type "ValueError") = some true)
    (xk_NoOdds_ValueError : PySem.W.kitOne K (.ref C_NoOdds) (.type "ValueError") = some true)
    (xk_BadMachine_ValueError : PySem.W.kitOne K (.ref C_BadMachine) (.type "ValueError") = some true)
    (xk_Mismatch_ValueError : PySem.W.kitOne K (.ref C_Mismatch) (.type "ValueError") = some true)
    (xk_TooMany_ValueError : PySem.W.kitOne K (.ref C_TooMany) (.type "ValueError") = some true)
    (xk_NoOperation_ValueError : PySem.W.kitOne K (.ref C_NoOperation) (.type "ValueError") = some true)
    (xk_NothingLeft_ValueError : PySem.W.kitOne K (.ref C_NothingLeft) (.type "ValueError") = some true)
    (xk_BadText_ValueError : PySem.W.kitOne K (.ref C_BadText) (.type "ValueError") = some true)
    (xstat : PySem.W.nsIn K cStatics "thirdparty.any" = some none)
    (xsup : PySem.W.nsIn K mainGlobals "super" = some none)
    (xrep : PySem.W.nsIn K mainGlobals "repr" = some none)
    : ∃ a : Adr, TX w K mg a ∧ a.a_law = fa ∧ (∀ (t : Shared) (u : Value), BindsTo t a.d_law ⟨[u], []⟩ [("script", u)]) ∧ (a.pre = [] ∧ a.cap = [] ∧ a.co = []) ∧ ∀ p ∈ lamC a, h.get? p.2 = some { cls := .none, data := .fields #[] } ∧ List.lookup p.2 K = none ∧ PySem.W.CodeHd h p.1 p.2 := by
  have e := hfa.symm.trans (PySem.W.mg_of X G n_law)
  have e2 : a_law = fa := by cases e; rfl
  clear e hfa
  subst e2
  refine ⟨⟨a__law_begin, (PySem.W.fnOf "_law_begin" "_law_begin" (defArgs (top 15)) (defBody (top 15)) (defScope (top 15)) .none kV__law_begin dc__law_begin pm__law_begin an__law_begin cd__law_begin ct__law_begin), a__law_take, (PySem.W.fnOf "_law_take" "_law_take" (defArgs (top 16)) (defBody (top 16)) (defScope (top 16)) .none kV__law_take dc__law_take pm__law_take an__law_take cd__law_take ct__law_take), a__law_pick, (PySem.W.fnOf "_law_pick" "_law_pick" (defArgs (top 17)) (defBody (top 17)) (defScope (top 17)) .none kV__law_pick dc__law_pick pm__law_pick an__law_pick cd__law_pick ct__law_pick), a__law_caught, (PySem.W.fnOf "_law_caught" "_law_caught" (defArgs (top 18)) (defBody (top 18)) (defScope (top 18)) .none kV__law_caught dc__law_caught pm__law_caught an__law_caught cd__law_caught ct__law_caught), a__law_raised, (PySem.W.fnOf "_law_raised" "_law_raised" (defArgs (top 19)) (defBody (top 19)) (defScope (top 19)) .none kV__law_raised dc__law_raised pm__law_raised an__law_raised cd__law_raised ct__law_raised), a__law_field, (PySem.W.fnOf "_law_field" "_law_field" (defArgs (top 20)) (defBody (top 20)) (defScope (top 20)) .none kV__law_field dc__law_field pm__law_field an__law_field cd__law_field ct__law_field), a_law, (PySem.W.fnOf "law" "law" (defArgs (top 21)) (defBody (top 21)) (defScope (top 21)) .none kV_law dc_law pm_law an_law (.ref kk_law) ct_law), kk_law, pp_law, w, C_FaultError, C_BadPlant, C_NoPart, C_NoSensor, C_NoEvent, C_NoNumber, C_NoOdds, C_BadMachine, C_Mismatch, C_TooMany, C_NoOperation, C_NothingLeft, C_BadText, i_BadPlant, i_NoPart, i_NoSensor, i_NoEvent, i_NoNumber, i_TooMany, i_NoOperation, i_BadText, [], [], []⟩, ?_, rfl, fun t u => .of_eq rfl, ⟨rfl, rfl, rfl⟩, ?_⟩
  rotate_left
  · intro p hp
    simp only [lamC, List.mem_cons, List.not_mem_nil, or_false] at hp
    subst hp
    · exact ⟨tt_law, tn_law, th_law⟩
  have F__law_begin := fun_mk (st := top 15) l__law_begin c__law_begin k__law_begin
  have F__law_take := fun_mk (st := top 16) l__law_take c__law_take k__law_take
  have F__law_pick := fun_mk (st := top 17) l__law_pick c__law_pick k__law_pick
  have F__law_caught := fun_mk (st := top 18) l__law_caught c__law_caught k__law_caught
  have F__law_raised := fun_mk (st := top 19) l__law_raised c__law_raised k__law_raised
  have F__law_field := fun_mk (st := top 20) l__law_field c__law_field k__law_field
  have F_law := fun_mk (st := top 21) l_law c_law k_law
  exact {
    f__law_begin := F__law_begin
    b__law_begin := F__law_begin.binds (ps := ["script"]) fun _ _ _ _ _ _ us hl => match us, hl with | [_], _ => rfl
    m__law_begin := PySem.W.mg_of X G n__law_begin
    f__law_take := F__law_take
    b__law_take := F__law_take.binds (ps := ["draw", "size"]) fun _ _ _ _ _ _ us hl => match us, hl with | [_, _], _ => rfl
    m__law_take := PySem.W.mg_of X G n__law_take
    f__law_pick := F__law_pick
    b__law_pick := F__law_pick.binds (ps := ["draw", "some"]) fun _ _ _ _ _ _ us hl => match us, hl with | [_, _], _ => rfl
    m__law_pick := PySem.W.mg_of X G n__law_pick
    f__law_caught := F__law_caught
    b__law_caught := F__law_caught.binds (ps := ["work"]) fun _ _ _ _ _ _ us hl => match us, hl with | [_], _ => rfl
    m__law_caught := PySem.W.mg_of X G n__law_caught
    f__law_raised := F__law_raised
    b__law_raised := F__law_raised.binds (ps := ["word", "worth"]) fun _ _ _ _ _ _ us hl => match us, hl with | [_, _], _ => rfl
    m__law_raised := PySem.W.mg_of X G n__law_raised
    f__law_field := F__law_field
    b__law_field := F__law_field.binds (ps := ["error"]) fun _ _ _ _ _ _ us hl => match us, hl with | [_], _ => rfl
    m__law_field := PySem.W.mg_of X G n__law_field
    f_law := F_law
    b_law := F_law.binds (ps := ["script"]) fun _ _ _ _ _ _ us hl => match us, hl with | [_], _ => rfl
    m_law := PySem.W.mg_of X G n_law
    n_ValueError := PySem.W.mg_none_of X G z_ValueError
    n_abs := PySem.W.mg_none_of X G z_abs
    n_divmod := PySem.W.mg_none_of X G z_divmod
    n_enumerate := PySem.W.mg_none_of X G z_enumerate
    n_int := PySem.W.mg_none_of X G z_int
    n_isinstance := PySem.W.mg_none_of X G z_isinstance
    n_len := PySem.W.mg_none_of X G z_len
    n_list := PySem.W.mg_none_of X G z_list
    n_min := PySem.W.mg_none_of X G z_min
    n_range := PySem.W.mg_none_of X G z_range
    n_repr := PySem.W.mg_none_of X G z_repr
    n_str := PySem.W.mg_none_of X G z_str
    fc_law := ⟨⟨_, _, _, _, _, _, _, _, rfl, l_law, c_law⟩⟩
    m_FaultError := PySem.W.mg_of X G a_FaultError
    ec_FaultError := errC_mk xb_FaultError xa_FaultError xe_FaultError xt_FaultError xk_FaultError xm_FaultError
    ex_FaultError := xo_FaultError
    m_BadPlant := PySem.W.mg_of X G a_BadPlant
    er_BadPlant := { errC_mk xb_BadPlant xa_BadPlant xe_BadPlant xt_BadPlant xk_BadPlant xm_BadPlant with
      fno := xn_BadPlant
      iC := xi_BadPlant
      tI := xf_BadPlant
      sup := xs_BadPlant
      subV := xv_BadPlant
      stat := xstat
      htop := by first | rfl | decide +kernel
      body := ⟨_, _, _, _, _, _, _, _, _, _, _, _, _, _, _, _, rfl, by decide, fun env => ⟨_, rfl⟩, fun env => rfl⟩
      kind := rfl
      co := rfl
      gen := rfl
      nocell := by decide +kernel
      kSup := by first | rfl | decide +kernel
      kRep := by first | rfl | decide +kernel
      kCls := by first | rfl | decide +kernel
      kSelf := by first | rfl | decide +kernel
      kF := by first | rfl | decide +kernel
      fs := by decide
      fd := by decide
      hd := ⟨_, rfl, rfl⟩
      fn := ⟨"__init__", "BadPlant.__init__", xoc_BadPlant, xod_BadPlant, .none, xkV_BadPlant, xdc_BadPlant, xpm_BadPlant, xan_BadPlant, cda_BadPlant, xct_BadPlant, cc_BadPlant, xsl_BadPlant, xl_BadPlant, xc_BadPlant, fun us hl => match us, hl with | [_, _], _ => rfl, fun _ _ => rfl, ⟨_, _, _, _, _, _, xd_BadPlant, xw_BadPlant, xy_BadPlant⟩, _, _, _, xz_BadPlant⟩
      nS := xsup
      nR := xrep }
    xf_BadPlant := ⟨xg_BadPlant, xh_BadPlant, xe_BadPlant, xj_BadPlant⟩
    m_NoPart := PySem.W.mg_of X G a_NoPart
    er_NoPart := { errC_mk xb_NoPart xa_NoPart xe_NoPart xt_NoPart xk_NoPart xm_NoPart with
      fno := xn_NoPart
      iC := xi_NoPart
      tI := xf_NoPart
      sup := xs_NoPart
      subV := xv_NoPart
      stat := xstat
      htop := by first | rfl | decide +kernel
      body := ⟨_, _, _, _, _, _, _, _, _, _, _, _, _, _, _, _, rfl, by decide, fun env => ⟨_, rfl⟩, fun env => rfl⟩
      kind := rfl
      co := rfl
      gen := rfl
      nocell := by decide +kernel
      kSup := by first | rfl | decide +kernel
      kRep := by first | rfl | decide +kernel
      kCls := by first | rfl | decide +kernel
      kSelf := by first | rfl | decide +kernel
      kF := by first | rfl | decide +kernel
      fs := by decide
      fd := by decide
      hd := ⟨_, rfl, rfl⟩
      fn := ⟨"__init__", "NoPart.__init__", xoc_NoPart, xod_NoPart, .none, xkV_NoPart, xdc_NoPart, xpm_NoPart, xan_NoPart, cda_NoPart, xct_NoPart, cc_NoPart, xsl_NoPart, xl_NoPart, xc_NoPart, fun us hl => match us, hl with | [_, _], _ => rfl, fun _ _ => rfl, ⟨_, _, _, _, _, _, xd_NoPart, xw_NoPart, xy_NoPart⟩, _, _, _, xz_NoPart⟩
      nS := xsup
      nR := xrep }
    xf_NoPart := ⟨xg_NoPart, xh_NoPart, xe_NoPart, xj_NoPart⟩
    m_NoSensor := PySem.W.mg_of X G a_NoSensor
    er_NoSensor := { errC_mk xb_NoSensor xa_NoSensor xe_NoSensor xt_NoSensor xk_NoSensor xm_NoSensor with
      fno := xn_NoSensor
      iC := xi_NoSensor
      tI := xf_NoSensor
      sup := xs_NoSensor
      subV := xv_NoSensor
      stat := xstat
      htop := by first | rfl | decide +kernel
      body := ⟨_, _, _, _, _, _, _, _, _, _, _, _, _, _, _, _, rfl, by decide, fun env => ⟨_, rfl⟩, fun env => rfl⟩
      kind := rfl
      co := rfl
      gen := rfl
      nocell := by decide +kernel
      kSup := by first | rfl | decide +kernel
      kRep := by first | rfl | decide +kernel
      kCls := by first | rfl | decide +kernel
      kSelf := by first | rfl | decide +kernel
      kF := by first | rfl | decide +kernel
      fs := by decide
      fd := by decide
      hd := ⟨_, rfl, rfl⟩
      fn := ⟨"__init__", "NoSensor.__init__", xoc_NoSensor, xod_NoSensor, .none, xkV_NoSensor, xdc_NoSensor, xpm_NoSensor, xan_NoSensor, cda_NoSensor, xct_NoSensor, cc_NoSensor, xsl_NoSensor, xl_NoSensor, xc_NoSensor, fun us hl => match us, hl with | [_, _], _ => rfl, fun _ _ => rfl, ⟨_, _, _, _, _, _, xd_NoSensor, xw_NoSensor, xy_NoSensor⟩, _, _, _, xz_NoSensor⟩
      nS := xsup
      nR := xrep }
    xf_NoSensor := ⟨xg_NoSensor, xh_NoSensor, xe_NoSensor, xj_NoSensor⟩
    m_NoEvent := PySem.W.mg_of X G a_NoEvent
    er_NoEvent := { errC_mk xb_NoEvent xa_NoEvent xe_NoEvent xt_NoEvent xk_NoEvent xm_NoEvent with
      fno := xn_NoEvent
      iC := xi_NoEvent
      tI := xf_NoEvent
      sup := xs_NoEvent
      subV := xv_NoEvent
      stat := xstat
      htop := by first | rfl | decide +kernel
      body := ⟨_, _, _, _, _, _, _, _, _, _, _, _, _, _, _, _, rfl, by decide, fun env => ⟨_, rfl⟩, fun env => rfl⟩
      kind := rfl
      co := rfl
      gen := rfl
      nocell := by decide +kernel
      kSup := by first | rfl | decide +kernel
      kRep := by first | rfl | decide +kernel
      kCls := by first | rfl | decide +kernel
      kSelf := by first | rfl | decide +kernel
      kF := by first | rfl | decide +kernel
      fs := by decide
      fd := by decide
      hd := ⟨_, rfl, rfl⟩
      fn := ⟨"__init__", "NoEvent.__init__", xoc_NoEvent, xod_NoEvent, .none, xkV_NoEvent, xdc_NoEvent, xpm_NoEvent, xan_NoEvent, cda_NoEvent, xct_NoEvent, cc_NoEvent, xsl_NoEvent, xl_NoEvent, xc_NoEvent, fun us hl => match us, hl with | [_, _], _ => rfl, fun _ _ => rfl, ⟨_, _, _, _, _, _, xd_NoEvent, xw_NoEvent, xy_NoEvent⟩, _, _, _, xz_NoEvent⟩
      nS := xsup
      nR := xrep }
    xf_NoEvent := ⟨xg_NoEvent, xh_NoEvent, xe_NoEvent, xj_NoEvent⟩
    m_NoNumber := PySem.W.mg_of X G a_NoNumber
    er_NoNumber := { errC_mk xb_NoNumber xa_NoNumber xe_NoNumber xt_NoNumber xk_NoNumber xm_NoNumber with
      fno := xn_NoNumber
      iC := xi_NoNumber
      tI := xf_NoNumber
      sup := xs_NoNumber
      subV := xv_NoNumber
      stat := xstat
      htop := by first | rfl | decide +kernel
      body := ⟨_, _, _, _, _, _, _, _, _, _, _, _, _, _, _, _, rfl, by decide, fun env => ⟨_, rfl⟩, fun env => rfl⟩
      kind := rfl
      co := rfl
      gen := rfl
      nocell := by decide +kernel
      kSup := by first | rfl | decide +kernel
      kRep := by first | rfl | decide +kernel
      kCls := by first | rfl | decide +kernel
      kSelf := by first | rfl | decide +kernel
      kF := by first | rfl | decide +kernel
      fs := by decide
      fd := by decide
      hd := ⟨_, rfl, rfl⟩
      fn := ⟨"__init__", "NoNumber.__init__", xoc_NoNumber, xod_NoNumber, .none, xkV_NoNumber, xdc_NoNumber, xpm_NoNumber, xan_NoNumber, cda_NoNumber, xct_NoNumber, cc_NoNumber, xsl_NoNumber, xl_NoNumber, xc_NoNumber, fun us hl => match us, hl with | [_, _], _ => rfl, fun _ _ => rfl, ⟨_, _, _, _, _, _, xd_NoNumber, xw_NoNumber, xy_NoNumber⟩, _, _, _, xz_NoNumber⟩
      nS := xsup
      nR := xrep }
    xf_NoNumber := ⟨xg_NoNumber, xh_NoNumber, xe_NoNumber, xj_NoNumber⟩
    m_NoOdds := PySem.W.mg_of X G a_NoOdds
    ec_NoOdds := errC_mk xb_NoOdds xa_NoOdds xe_NoOdds xt_NoOdds xk_NoOdds xm_NoOdds
    ex_NoOdds := xo_NoOdds
    m_BadMachine := PySem.W.mg_of X G a_BadMachine
    ec_BadMachine := errC_mk xb_BadMachine xa_BadMachine xe_BadMachine xt_BadMachine xk_BadMachine xm_BadMachine
    ex_BadMachine := xo_BadMachine
    m_Mismatch := PySem.W.mg_of X G a_Mismatch
    ec_Mismatch := errC_mk xb_Mismatch xa_Mismatch xe_Mismatch xt_Mismatch xk_Mismatch xm_Mismatch
    ex_Mismatch := xo_Mismatch
    m_TooMany := PySem.W.mg_of X G a_TooMany
    er_TooMany := { errC_mk xb_TooMany xa_TooMany xe_TooMany xt_TooMany xk_TooMany xm_TooMany with
      fno := xn_TooMany
      iC := xi_TooMany
      tI := xf_TooMany
      sup := xs_TooMany
      subV := xv_TooMany
      stat := xstat
      htop := by first | rfl | decide +kernel
      body := ⟨_, _, _, _, _, _, _, _, _, _, _, _, _, _, _, _, rfl, by decide, fun env => ⟨_, rfl⟩, fun env => rfl⟩
      kind := rfl
      co := rfl
      gen := rfl
      nocell := by decide +kernel
      kSup := by first | rfl | decide +kernel
      kRep := by first | rfl | decide +kernel
      kCls := by first | rfl | decide +kernel
      kSelf := by first | rfl | decide +kernel
      kF := by first | rfl | decide +kernel
      fs := by decide
      fd := by decide
      hd := ⟨_, rfl, rfl⟩
      fn := ⟨"__init__", "TooMany.__init__", xoc_TooMany, xod_TooMany, .none, xkV_TooMany, xdc_TooMany, xpm_TooMany, xan_TooMany, cda_TooMany, xct_TooMany, cc_TooMany, xsl_TooMany, xl_TooMany, xc_TooMany, fun us hl => match us, hl with | [_, _], _ => rfl, fun _ _ => rfl, ⟨_, _, _, _, _, _, xd_TooMany, xw_TooMany, xy_TooMany⟩, _, _, _, xz_TooMany⟩
      nS := xsup
      nR := xrep }
    xf_TooMany := ⟨xg_TooMany, xh_TooMany, xe_TooMany, xj_TooMany⟩
    m_NoOperation := PySem.W.mg_of X G a_NoOperation
    er_NoOperation := { errC_mk xb_NoOperation xa_NoOperation xe_NoOperation xt_NoOperation xk_NoOperation xm_NoOperation with
      fno := xn_NoOperation
      iC := xi_NoOperation
      tI := xf_NoOperation
      sup := xs_NoOperation
      subV := xv_NoOperation
      stat := xstat
      htop := by first | rfl | decide +kernel
      body := ⟨_, _, _, _, _, _, _, _, _, _, _, _, _, _, _, _, rfl, by decide, fun env => ⟨_, rfl⟩, fun env => rfl⟩
      kind := rfl
      co := rfl
      gen := rfl
      nocell := by decide +kernel
      kSup := by first | rfl | decide +kernel
      kRep := by first | rfl | decide +kernel
      kCls := by first | rfl | decide +kernel
      kSelf := by first | rfl | decide +kernel
      kF := by first | rfl | decide +kernel
      fs := by decide
      fd := by decide
      hd := ⟨_, rfl, rfl⟩
      fn := ⟨"__init__", "NoOperation.__init__", xoc_NoOperation, xod_NoOperation, .none, xkV_NoOperation, xdc_NoOperation, xpm_NoOperation, xan_NoOperation, cda_NoOperation, xct_NoOperation, cc_NoOperation, xsl_NoOperation, xl_NoOperation, xc_NoOperation, fun us hl => match us, hl with | [_, _], _ => rfl, fun _ _ => rfl, ⟨_, _, _, _, _, _, xd_NoOperation, xw_NoOperation, xy_NoOperation⟩, _, _, _, xz_NoOperation⟩
      nS := xsup
      nR := xrep }
    xf_NoOperation := ⟨xg_NoOperation, xh_NoOperation, xe_NoOperation, xj_NoOperation⟩
    m_NothingLeft := PySem.W.mg_of X G a_NothingLeft
    ec_NothingLeft := errC_mk xb_NothingLeft xa_NothingLeft xe_NothingLeft xt_NothingLeft xk_NothingLeft xm_NothingLeft
    ex_NothingLeft := xo_NothingLeft
    m_BadText := PySem.W.mg_of X G a_BadText
    er_BadText := { errC_mk xb_BadText xa_BadText xe_BadText xt_BadText xk_BadText xm_BadText with
      fno := xn_BadText
      iC := xi_BadText
      tI := xf_BadText
      sup := xs_BadText
      subV := xv_BadText
      stat := xstat
      htop := by first | rfl | decide +kernel
      body := ⟨_, _, _, _, _, _, _, _, _, _, _, _, _, _, _, _, rfl, by decide, fun env => ⟨_, rfl⟩, fun env => rfl⟩
      kind := rfl
      co := rfl
      gen := rfl
      nocell := by decide +kernel
      kSup := by first | rfl | decide +kernel
      kRep := by first | rfl | decide +kernel
      kCls := by first | rfl | decide +kernel
      kSelf := by first | rfl | decide +kernel
      kF := by first | rfl | decide +kernel
      fs := by decide
      fd := by decide
      hd := ⟨_, rfl, rfl⟩
      fn := ⟨"__init__", "BadText.__init__", xoc_BadText, xod_BadText, .none, xkV_BadText, xdc_BadText, xpm_BadText, xan_BadText, cda_BadText, xct_BadText, cc_BadText, xsl_BadText, xl_BadText, xc_BadText, fun us hl => match us, hl with | [_, _], _ => rfl, fun _ _ => rfl, ⟨_, _, _, _, _, _, xd_BadText, xw_BadText, xy_BadText⟩, _, _, _, xz_BadText⟩
      nS := xsup
      nR := xrep }
    xf_BadText := ⟨xg_BadText, xh_BadText, xe_BadText, xj_BadText⟩
    xs_FaultError := fun c E => er_cases _ (fun e E => PySem.W.exmOne K (.ref E) (.ref C_FaultError) = some (sub_FaultError e)) (xx_FaultError_FaultError) (xx_BadPlant_FaultError) (xx_NoPart_FaultError) (xx_NoSensor_FaultError) (xx_NoEvent_FaultError) (xx_NoNumber_FaultError) (xx_NoOdds_FaultError) (xx_BadMachine_FaultError) (xx_Mismatch_FaultError) (xx_TooMany_FaultError) (xx_NoOperation_FaultError) (xx_NothingLeft_FaultError) (xx_BadText_FaultError) c E
    xi := fun c E => er_cases _ (fun _ E => XiC K E) (⟨yc_FaultError, yg_FaultError, yh_FaultError, xe_FaultError, ya_FaultError, yn, yt, ym_FaultError⟩) (⟨yc_BadPlant, yg_BadPlant, yh_BadPlant, xe_BadPlant, ya_BadPlant, yn, yt, ym_BadPlant⟩) (⟨yc_NoPart, yg_NoPart, yh_NoPart, xe_NoPart, ya_NoPart, yn, yt, ym_NoPart⟩) (⟨yc_NoSensor, yg_NoSensor, yh_NoSensor, xe_NoSensor, ya_NoSensor, yn, yt, ym_NoSensor⟩) (⟨yc_NoEvent, yg_NoEvent, yh_NoEvent, xe_NoEvent, ya_NoEvent, yn, yt, ym_NoEvent⟩) (⟨yc_NoNumber, yg_NoNumber, yh_NoNumber, xe_NoNumber, ya_NoNumber, yn, yt, ym_NoNumber⟩) (⟨yc_NoOdds, yg_NoOdds, yh_NoOdds, xe_NoOdds, ya_NoOdds, yn, yt, ym_NoOdds⟩) (⟨yc_BadMachine, yg_BadMachine, yh_BadMachine, xe_BadMachine, ya_BadMachine, yn, yt, ym_BadMachine⟩) (⟨yc_Mismatch, yg_Mismatch, yh_Mismatch, xe_Mismatch, ya_Mismatch, yn, yt, ym_Mismatch⟩) (⟨yc_TooMany, yg_TooMany, yh_TooMany, xe_TooMany, ya_TooMany, yn, yt, ym_TooMany⟩) (⟨yc_NoOperation, yg_NoOperation, yh_NoOperation, xe_NoOperation, ya_NoOperation, yn, yt, ym_NoOperation⟩) (⟨yc_NothingLeft, yg_NothingLeft, yh_NothingLeft, xe_NothingLeft, ya_NothingLeft, yn, yt, ym_NothingLeft⟩) (⟨yc_BadText, yg_BadText, yh_BadText, xe_BadText, ya_BadText, yn, yt, ym_BadText⟩) c E
    ie_BadMachine := fun c E b h => er_cases _ (fun c E => ∀ b, isx_BadMachine c = some b → PySem.W.kitOne K (.ref E) (.ref C_BadMachine) = some b) (ie1 (b := false) rfl xk_FaultError_BadMachine) (ie1 (b := false) rfl xk_BadPlant_BadMachine) (ie1 (b := false) rfl xk_NoPart_BadMachine) (ie1 (b := false) rfl xk_NoSensor_BadMachine) (ie1 (b := false) rfl xk_NoEvent_BadMachine) (ie1 (b := false) rfl xk_NoNumber_BadMachine) (ie1 (b := false) rfl xk_NoOdds_BadMachine) (ie1 (b := true) rfl xk_BadMachine_BadMachine) (ie1 (b := false) rfl xk_Mismatch_BadMachine) (ie1 (b := false) rfl xk_TooMany_BadMachine) (ie1 (b := false) rfl xk_NoOperation_BadMachine) (ie1 (b := false) rfl xk_NothingLeft_BadMachine) (ie1 (b := false) rfl xk_BadText_BadMachine) c E h b
    ie_BadPlant := fun c E b h => er_cases _ (fun c E => ∀ b, isx_BadPlant c = some b → PySem.W.kitOne K (.ref E) (.ref C_BadPlant) = some b) (ie1 (b := false) rfl xk_FaultError_BadPlant) (ie1 (b := true) rfl xk_BadPlant_BadPlant) (ie1 (b := false) rfl xk_NoPart_BadPlant) (ie1 (b := false) rfl xk_NoSensor_BadPlant) (ie1 (b := false) rfl xk_NoEvent_BadPlant) (ie1 (b := false) rfl xk_NoNumber_BadPlant) (ie1 (b := false) rfl xk_NoOdds_BadPlant) (ie1 (b := false) rfl xk_BadMachine_BadPlant) (ie1 (b := false) rfl xk_Mismatch_BadPlant) (ie1 (b := false) rfl xk_TooMany_BadPlant) (ie1 (b := false) rfl xk_NoOperation_BadPlant) (ie1 (b := false) rfl xk_NothingLeft_BadPlant) (ie1 (b := false) rfl xk_BadText_BadPlant) c E h b
    ie_BadText := fun c E b h => er_cases _ (fun c E => ∀ b, isx_BadText c = some b → PySem.W.kitOne K (.ref E) (.ref C_BadText) = some b) (ie1 (b := false) rfl xk_FaultError_BadText) (ie1 (b := false) rfl xk_BadPlant_BadText) (ie1 (b := false) rfl xk_NoPart_BadText) (ie1 (b := false) rfl xk_NoSensor_BadText) (ie1 (b := false) rfl xk_NoEvent_BadText) (ie1 (b := false) rfl xk_NoNumber_BadText) (ie1 (b := false) rfl xk_NoOdds_BadText) (ie1 (b := false) rfl xk_BadMachine_BadText) (ie1 (b := false) rfl xk_Mismatch_BadText) (ie1 (b := false) rfl xk_TooMany_BadText) (ie1 (b := false) rfl xk_NoOperation_BadText) (ie1 (b := false) rfl xk_NothingLeft_BadText) (ie1 (b := true) rfl xk_BadText_BadText) c E h b
    ie_Mismatch := fun c E b h => er_cases _ (fun c E => ∀ b, isx_Mismatch c = some b → PySem.W.kitOne K (.ref E) (.ref C_Mismatch) = some b) (ie1 (b := false) rfl xk_FaultError_Mismatch) (ie1 (b := false) rfl xk_BadPlant_Mismatch) (ie1 (b := false) rfl xk_NoPart_Mismatch) (ie1 (b := false) rfl xk_NoSensor_Mismatch) (ie1 (b := false) rfl xk_NoEvent_Mismatch) (ie1 (b := false) rfl xk_NoNumber_Mismatch) (ie1 (b := false) rfl xk_NoOdds_Mismatch) (ie1 (b := false) rfl xk_BadMachine_Mismatch) (ie1 (b := true) rfl xk_Mismatch_Mismatch) (ie1 (b := false) rfl xk_TooMany_Mismatch) (ie1 (b := false) rfl xk_NoOperation_Mismatch) (ie1 (b := false) rfl xk_NothingLeft_Mismatch) (ie1 (b := false) rfl xk_BadText_Mismatch) c E h b
    ie_NoEvent := fun c E b h => er_cases _ (fun c E => ∀ b, isx_NoEvent c = some b → PySem.W.kitOne K (.ref E) (.ref C_NoEvent) = some b) (ie1 (b := false) rfl xk_FaultError_NoEvent) (ie1 (b := false) rfl xk_BadPlant_NoEvent) (ie1 (b := false) rfl xk_NoPart_NoEvent) (ie1 (b := false) rfl xk_NoSensor_NoEvent) (ie1 (b := true) rfl xk_NoEvent_NoEvent) (ie1 (b := false) rfl xk_NoNumber_NoEvent) (ie1 (b := false) rfl xk_NoOdds_NoEvent) (ie1 (b := false) rfl xk_BadMachine_NoEvent) (ie1 (b := false) rfl xk_Mismatch_NoEvent) (ie1 (b := false) rfl xk_TooMany_NoEvent) (ie1 (b := false) rfl xk_NoOperation_NoEvent) (ie1 (b := false) rfl xk_NothingLeft_NoEvent) (ie1 (b := false) rfl xk_BadText_NoEvent) c E h b
    ie_NoNumber := fun c E b h => er_cases _ (fun c E => ∀ b, isx_NoNumber c = some b → PySem.W.kitOne K (.ref E) (.ref C_NoNumber) = some b) (ie1 (b := false) rfl xk_FaultError_NoNumber) (ie1 (b := false) rfl xk_BadPlant_NoNumber) (ie1 (b := false) rfl xk_NoPart_NoNumber) (ie1 (b := false) rfl xk_NoSensor_NoNumber) (ie1 (b := false) rfl xk_NoEvent_NoNumber) (ie1 (b := true) rfl xk_NoNumber_NoNumber) (ie1 (b := false) rfl xk_NoOdds_NoNumber) (ie1 (b := false) rfl xk_BadMachine_NoNumber) (ie1 (b := false) rfl xk_Mismatch_NoNumber) (ie1 (b := false) rfl xk_TooMany_NoNumber) (ie1 (b := false) rfl xk_NoOperation_NoNumber) (ie1 (b := false) rfl xk_NothingLeft_NoNumber) (ie1 (b := false) rfl xk_BadText_NoNumber) c E h b
    ie_NoOdds := fun c E b h => er_cases _ (fun c E => ∀ b, isx_NoOdds c = some b → PySem.W.kitOne K (.ref E) (.ref C_NoOdds) = some b) (ie1 (b := false) rfl xk_FaultError_NoOdds) (ie1 (b := false) rfl xk_BadPlant_NoOdds) (ie1 (b := false) rfl xk_NoPart_NoOdds) (ie1 (b := false) rfl xk_NoSensor_NoOdds) (ie1 (b := false) rfl xk_NoEvent_NoOdds) (ie1 (b := false) rfl xk_NoNumber_NoOdds) (ie1 (b := true) rfl xk_NoOdds_NoOdds) (ie1 (b := false) rfl xk_BadMachine_NoOdds) (ie1 (b := false) rfl xk_Mismatch_NoOdds) (ie1 (b := false) rfl xk_TooMany_NoOdds) (ie1 (b := false) rfl xk_NoOperation_NoOdds) (ie1 (b := false) rfl xk_NothingLeft_NoOdds) (ie1 (b := false) rfl xk_BadText_NoOdds) c E h b
    ie_NoOperation := fun c E b h => er_cases _ (fun c E => ∀ b, isx_NoOperation c = some b → PySem.W.kitOne K (.ref E) (.ref C_NoOperation) = some b) (ie1 (b := false) rfl xk_FaultError_NoOperation) (ie1 (b := false) rfl xk_BadPlant_NoOperation) (ie1 (b := false) rfl xk_NoPart_NoOperation) (ie1 (b := false) rfl xk_NoSensor_NoOperation) (ie1 (b := false) rfl xk_NoEvent_NoOperation) (ie1 (b := false) rfl xk_NoNumber_NoOperation) (ie1 (b := false) rfl xk_NoOdds_NoOperation) (ie1 (b := false) rfl xk_BadMachine_NoOperation) (ie1 (b := false) rfl xk_Mismatch_NoOperation) (ie1 (b := false) rfl xk_TooMany_NoOperation) (ie1 (b := true) rfl xk_NoOperation_NoOperation) (ie1 (b := false) rfl xk_NothingLeft_NoOperation) (ie1 (b := false) rfl xk_BadText_NoOperation) c E h b
    ie_NoPart := fun c E b h => er_cases _ (fun c E => ∀ b, isx_NoPart c = some b → PySem.W.kitOne K (.ref E) (.ref C_NoPart) = some b) (ie1 (b := false) rfl xk_FaultError_NoPart) (ie1 (b := false) rfl xk_BadPlant_NoPart) (ie1 (b := true) rfl xk_NoPart_NoPart) (ie1 (b := false) rfl xk_NoSensor_NoPart) (ie1 (b := false) rfl xk_NoEvent_NoPart) (ie1 (b := false) rfl xk_NoNumber_NoPart) (ie1 (b := false) rfl xk_NoOdds_NoPart) (ie1 (b := false) rfl xk_BadMachine_NoPart) (ie1 (b := false) rfl xk_Mismatch_NoPart) (ie1 (b := false) rfl xk_TooMany_NoPart) (ie1 (b := false) rfl xk_NoOperation_NoPart) (ie1 (b := false) rfl xk_NothingLeft_NoPart) (ie1 (b := false) rfl xk_BadText_NoPart) c E h b
    ie_NoSensor := fun c E b h => er_cases _ (fun c E => ∀ b, isx_NoSensor c = some b → PySem.W.kitOne K (.ref E) (.ref C_NoSensor) = some b) (ie1 (b := false) rfl xk_FaultError_NoSensor) (ie1 (b := false) rfl xk_BadPlant_NoSensor) (ie1 (b := false) rfl xk_NoPart_NoSensor) (ie1 (b := true) rfl xk_NoSensor_NoSensor) (ie1 (b := false) rfl xk_NoEvent_NoSensor) (ie1 (b := false) rfl xk_NoNumber_NoSensor) (ie1 (b := false) rfl xk_NoOdds_NoSensor) (ie1 (b := false) rfl xk_BadMachine_NoSensor) (ie1 (b := false) rfl xk_Mismatch_NoSensor) (ie1 (b := false) rfl xk_TooMany_NoSensor) (ie1 (b := false) rfl xk_NoOperation_NoSensor) (ie1 (b := false) rfl xk_NothingLeft_NoSensor) (ie1 (b := false) rfl xk_BadText_NoSensor) c E h b
    ie_NothingLeft := fun c E b h => er_cases _ (fun c E => ∀ b, isx_NothingLeft c = some b → PySem.W.kitOne K (.ref E) (.ref C_NothingLeft) = some b) (ie1 (b := false) rfl xk_FaultError_NothingLeft) (ie1 (b := false) rfl xk_BadPlant_NothingLeft) (ie1 (b := false) rfl xk_NoPart_NothingLeft) (ie1 (b := false) rfl xk_NoSensor_NothingLeft) (ie1 (b := false) rfl xk_NoEvent_NothingLeft) (ie1 (b := false) rfl xk_NoNumber_NothingLeft) (ie1 (b := false) rfl xk_NoOdds_NothingLeft) (ie1 (b := false) rfl xk_BadMachine_NothingLeft) (ie1 (b := false) rfl xk_Mismatch_NothingLeft) (ie1 (b := false) rfl xk_TooMany_NothingLeft) (ie1 (b := false) rfl xk_NoOperation_NothingLeft) (ie1 (b := true) rfl xk_NothingLeft_NothingLeft) (ie1 (b := false) rfl xk_BadText_NothingLeft) c E h b
    ie_TooMany := fun c E b h => er_cases _ (fun c E => ∀ b, isx_TooMany c = some b → PySem.W.kitOne K (.ref E) (.ref C_TooMany) = some b) (ie1 (b := false) rfl xk_FaultError_TooMany) (ie1 (b := false) rfl xk_BadPlant_TooMany) (ie1 (b := false) rfl xk_NoPart_TooMany) (ie1 (b := false) rfl xk_NoSensor_TooMany) (ie1 (b := false) rfl xk_NoEvent_TooMany) (ie1 (b := false) rfl xk_NoNumber_TooMany) (ie1 (b := false) rfl xk_NoOdds_TooMany) (ie1 (b := false) rfl xk_BadMachine_TooMany) (ie1 (b := false) rfl xk_Mismatch_TooMany) (ie1 (b := true) rfl xk_TooMany_TooMany) (ie1 (b := false) rfl xk_NoOperation_TooMany) (ie1 (b := false) rfl xk_NothingLeft_TooMany) (ie1 (b := false) rfl xk_BadText_TooMany) c E h b
    ie_ValueError := fun c E b h => er_cases _ (fun c E => ∀ b, isx_ValueError c = some b → PySem.W.kitOne K (.ref E) (.type "ValueError") = some b) (ie1 (b := true) rfl xk_FaultError_ValueError) (ie1 (b := true) rfl xk_BadPlant_ValueError) (ie1 (b := true) rfl xk_NoPart_ValueError) (ie1 (b := true) rfl xk_NoSensor_ValueError) (ie1 (b := true) rfl xk_NoEvent_ValueError) (ie1 (b := true) rfl xk_NoNumber_ValueError) (ie1 (b := true) rfl xk_NoOdds_ValueError) (ie1 (b := true) rfl xk_BadMachine_ValueError) (ie1 (b := true) rfl xk_Mismatch_ValueError) (ie1 (b := true) rfl xk_TooMany_ValueError) (ie1 (b := true) rfl xk_NoOperation_ValueError) (ie1 (b := true) rfl xk_NothingLeft_ValueError) (ie1 (b := true) rfl xk_BadText_ValueError) c E h b
    xa_index := fun c E => er_cases _ (fun c E => c ∈ xc_index → XfC K E ∧ PySem.W.findIn K (.ref E) "index" = some none) (fun h2 => absurd h2 (by decide)) (fun h2 => absurd h2 (by decide)) (fun _ => ⟨⟨xg_NoPart, xh_NoPart, xe_NoPart, xj_NoPart⟩, xn_NoPart⟩) (fun _ => ⟨⟨xg_NoSensor, xh_NoSensor, xe_NoSensor, xj_NoSensor⟩, xn_NoSensor⟩) (fun _ => ⟨⟨xg_NoEvent, xh_NoEvent, xe_NoEvent, xj_NoEvent⟩, xn_NoEvent⟩) (fun h2 => absurd h2 (by decide)) (fun h2 => absurd h2 (by decide)) (fun h2 => absurd h2 (by decide)) (fun h2 => absurd h2 (by decide)) (fun h2 => absurd h2 (by decide)) (fun _ => ⟨⟨xg_NoOperation, xh_NoOperation, xe_NoOperation, xj_NoOperation⟩, xn_NoOperation⟩) (fun h2 => absurd h2 (by decide)) (fun h2 => absurd h2 (by decide)) c E
    xa_line := fun c E => er_cases _ (fun c E => c ∈ xc_line → XfC K E ∧ PySem.W.findIn K (.ref E) "line" = some none) (fun h2 => absurd h2 (by decide)) (fun h2 => absurd h2 (by decide)) (fun h2 => absurd h2 (by decide)) (fun h2 => absurd h2 (by decide)) (fun h2 => absurd h2 (by decide)) (fun h2 => absurd h2 (by decide)) (fun h2 => absurd h2 (by decide)) (fun h2 => absurd h2 (by decide)) (fun h2 => absurd h2 (by decide)) (fun h2 => absurd h2 (by decide)) (fun h2 => absurd h2 (by decide)) (fun h2 => absurd h2 (by decide)) (fun _ => ⟨⟨xg_BadText, xh_BadText, xe_BadText, xj_BadText⟩, xn_BadText⟩) c E
    xa_most := fun c E => er_cases _ (fun c E => c ∈ xc_most → XfC K E ∧ PySem.W.findIn K (.ref E) "most" = some none) (fun h2 => absurd h2 (by decide)) (fun h2 => absurd h2 (by decide)) (fun h2 => absurd h2 (by decide)) (fun h2 => absurd h2 (by decide)) (fun h2 => absurd h2 (by decide)) (fun h2 => absurd h2 (by decide)) (fun h2 => absurd h2 (by decide)) (fun h2 => absurd h2 (by decide)) (fun h2 => absurd h2 (by decide)) (fun _ => ⟨⟨xg_TooMany, xh_TooMany, xe_TooMany, xj_TooMany⟩, xn_TooMany⟩) (fun h2 => absurd h2 (by decide)) (fun h2 => absurd h2 (by decide)) (fun h2 => absurd h2 (by decide)) c E
    xa_number := fun c E => er_cases _ (fun c E => c ∈ xc_number → XfC K E ∧ PySem.W.findIn K (.ref E) "number" = some none) (fun h2 => absurd h2 (by decide)) (fun h2 => absurd h2 (by decide)) (fun h2 => absurd h2 (by decide)) (fun h2 => absurd h2 (by decide)) (fun h2 => absurd h2 (by decide)) (fun _ => ⟨⟨xg_NoNumber, xh_NoNumber, xe_NoNumber, xj_NoNumber⟩, xn_NoNumber⟩) (fun h2 => absurd h2 (by decide)) (fun h2 => absurd h2 (by decide)) (fun h2 => absurd h2 (by decide)) (fun h2 => absurd h2 (by decide)) (fun h2 => absurd h2 (by decide)) (fun h2 => absurd h2 (by decide)) (fun h2 => absurd h2 (by decide)) c E
    xa_part := fun c E => er_cases _ (fun c E => c ∈ xc_part → XfC K E ∧ PySem.W.findIn K (.ref E) "part" = some none) (fun h2 => absurd h2 (by decide)) (fun _ => ⟨⟨xg_BadPlant, xh_BadPlant, xe_BadPlant, xj_BadPlant⟩, xn_BadPlant⟩) (fun h2 => absurd h2 (by decide)) (fun h2 => absurd h2 (by decide)) (fun h2 => absurd h2 (by decide)) (fun h2 => absurd h2 (by decide)) (fun h2 => absurd h2 (by decide)) (fun h2 => absurd h2 (by decide)) (fun h2 => absurd h2 (by decide)) (fun h2 => absurd h2 (by decide)) (fun h2 => absurd h2 (by decide)) (fun h2 => absurd h2 (by decide)) (fun h2 => absurd h2 (by decide)) c E
    wh := rfl
  }
end K01
/-! G02 -/
set_option Elab.async false
set_option autoImplicit false
set_option linter.all false
set_option maxRecDepth 100000
set_option maxHeartbeats 1000000
namespace K01
open PySem PySem.Spec L2 MP

def dkv (q r : Nat) (rest turn mix : Int) : List (D × D) := [(.str "large", .ptr q), (.str "cells", .ptr r), (.str "rest", .int rest), (.str "turn", .int turn), (.str "mix", .int mix)]
section
variable {q r : Nat} {rest turn mix x : Int}
theorem dg1 : dget (dkv q r rest turn mix) (.str "large") = some (.ptr q) := rfl
theorem dg2 : dget (dkv q r rest turn mix) (.str "cells") = some (.ptr r) := rfl
theorem dg3 : dget (dkv q r rest turn mix) (.str "rest") = some (.int rest) := rfl
theorem dg4 : dget (dkv q r rest turn mix) (.str "turn") = some (.int turn) := rfl
theorem dg5 : dget (dkv q r rest turn mix) (.str "mix") = some (.int mix) := rfl
theorem dp3 : dput (dkv q r rest turn mix) (.str "rest") (.int x) = dkv q r x turn mix := rfl
theorem dp4 : dput (dkv q r rest turn mix) (.str "turn") (.int x) = dkv q r rest x mix := rfl
theorem dp5 : dput (dkv q r rest turn mix) (.str "mix") (.int x) = dkv q r rest turn x := rfl
theorem dl : (dkv q r rest turn mix).length < sizeLine := by simp only [dkv, List.length]; decide
end
structure Draw (p q r : Nat) (S : Sto) : Prop where
  pq : p ≠ q
  pr : p ≠ r
  qr : q ≠ r
  ex : ∃ (xs cs : List Int) (rest turn mix : Int), S[p]? = some (.dct (dkv q r rest turn mix)) ∧ S[q]? = some (.lst (xs.map .int)) ∧ S[r]? = some (.lst (cs.map .int)) ∧ xs.length ≤ 63 ∧ cs.length ≤ 63 ∧ 0 ≤ mix ∧ mix < 2147483629
theorem Draw.ext {p q r : Nat} {S S' : Sto} (h : Draw p q r S) (e : Ext [] S S') : Draw p q r S' := by
  obtain ⟨pq, pr, qr, xs, cs, rest, turn, mix, h1, h2, h3, h4⟩ := h
  exact ⟨pq, pr, qr, xs, cs, rest, turn, mix, e.get _ _ h1 (by simp), e.get _ _ h2 (by simp), e.get _ _ h3 (by simp), h4⟩
theorem ok_large : okS "large" := by decide +kernel
theorem ok_cells : okS "cells" := by decide +kernel
theorem ok_rest : okS "rest" := by decide +kernel
theorem ok_turn : okS "turn" := by decide +kernel
theorem ok_mix : okS "mix" := by decide +kernel
theorem pls_ints (xs : List Int) : Pls (xs.map .int) := pls_map fun x _ => ⟨by simp [D.pl], by simp [D.dp]⟩
theorem take_ok {p q r : Nat} {S : Sto} {size : Int} (h : Draw p q r S) (h0 : 0 < size) (h1 : size < 1073741824) :
    Wp (f__law_take [.ptr p, .int size] S) fun d S' => ∃ i : Int, d = .int i ∧ 0 ≤ i ∧ i < size ∧ Draw p q r S' ∧ Ext [p, q] S S' := by
  unfold f__law_take
  rw [wp_callS]
  simp only [List.map, List.length, List.replicate, List.cons_append, List.nil_append, N__law_take]
  refine ws_cut (fun ρ1 S1 => ρ1 = [some (.ptr p), some (.int size), ρ1[2]?.join, none] ∧ Draw p q r S1 ∧ Ext [p, q] S S1) ?_ ?_
  · obtain ⟨pq, pr, qr, xs, cs, rest, turn, mix, e1, e2, e3, l1, l2, m1, m2⟩ := h
    simp only [wp_ok, wp_bind, wp_noX, wp_mC, wp_mStr, wp_mTru, wp_mBl, wp_blOf, wp_tru_bl, wp_mBin, wp_mUn, wp_mIf, wp_mNotT, wp_mAndT, wp_mOrT, wp_mAndV, wp_mOrV, wp_mNotV, wp_mChain, wp_mChainT, wp_mNil, wp_mCons, wp_mDisp, wp_tupD, wp_lstD, wp_mSl, wp_mNoPart, wp_mPart, wp_intOf, wp_mBm, wp_mMeth, wp_dflS, wp_mIt, wp_mItA, wp_mDict, wp_mpNil, wp_mpCons, wp_mNext, wp_mYes, wp_mLc, ws_mNx, ws_mBrk, ws_mCnt, ws_mRetN, ws_mSeq, ws_mDrop, ws_mRet, ws_mIfS, ws_mAsg, wp_gNm, wp_gsNil, wp_gsCons, wp_gTp, wp_gSubS, ws_mSetI, ws_mSetF, put_some, wp_callS, ws_mFor, ws_nx, ws_ret, wp_mVar0, ok_rest, ok_large, ix_dct e1 dg3, ix_dct e1 dg1, eqs_int, true_and]
    by_cases hz : rest = 0
    · simp only [hz, decide_true, if_true]
      have f1 : (S ++ [O.lst []])[p]? = some (.dct (dkv q r rest turn mix)) := get_old e1
      have f2 : (S ++ [O.lst []])[q]? = some (.lst (xs.map .int)) := get_old e2
      have f3 : (S ++ [O.lst []])[r]? = some (.lst (cs.map .int)) := get_old e3
      rw [neS_lst (S := S ++ [O.lst []]) (n := q) (m := S.length) (ds := xs.map .int) (es := []) (pls_ints xs) (pls_of (by simp)) f2 get_push]
      have hsz : ([] : List D).length ≤ sizeLine := Nat.zero_le _
      simp only [hsz, true_and]
      have x0 : Ext [p, q] S (S ++ [O.lst []]) := Ext.push _
      revert f1 f2 f3 x0
      generalize S ++ [O.lst []] = T
      intro f1 f2 f3 x0
      simp only [wp_ok, wp_bind, wp_noX, wp_mC, wp_mStr, wp_mTru, wp_mBl, wp_blOf, wp_tru_bl, wp_mBin, wp_mUn, wp_mIf, wp_mNotT, wp_mAndT, wp_mOrT, wp_mAndV, wp_mOrV, wp_mNotV, wp_mChain, wp_mChainT, wp_mNil, wp_mCons, wp_mDisp, wp_tupD, wp_lstD, wp_mSl, wp_mNoPart, wp_mPart, wp_intOf, wp_mBm, wp_mMeth, wp_dflS, wp_mIt, wp_mItA, wp_mDict, wp_mpNil, wp_mpCons, wp_mNext, wp_mYes, wp_mLc, ws_mNx, ws_mBrk, ws_mCnt, ws_mRetN, ws_mSeq, ws_mDrop, ws_mRet, ws_mIfS, ws_mAsg, wp_gNm, wp_gsNil, wp_gsCons, wp_gTp, wp_gSubS, ws_mSetI, ws_mSetF, put_some, wp_callS, ws_mFor, ws_nx, ws_ret]
      cases xs with
      | nil =>
        simp only [List.map_nil, decide_true, Bool.not_true, Bool.false_eq_true, if_false, wp_ok, wp_bind, wp_noX, wp_mC, wp_mStr, wp_mTru, wp_mBl, wp_blOf, wp_tru_bl, wp_mBin, wp_mUn, wp_mIf, wp_mNotT, wp_mAndT, wp_mOrT, wp_mAndV, wp_mOrV, wp_mNotV, wp_mChain, wp_mChainT, wp_mNil, wp_mCons, wp_mDisp, wp_tupD, wp_lstD, wp_mSl, wp_mNoPart, wp_mPart, wp_intOf, wp_mBm, wp_mMeth, wp_dflS, wp_mIt, wp_mItA, wp_mDict, wp_mpNil, wp_mpCons, wp_mNext, wp_mYes, wp_mLc, ws_mNx, ws_mBrk, ws_mCnt, ws_mRetN, ws_mSeq, ws_mDrop, ws_mRet, ws_mIfS, ws_mAsg, wp_gNm, wp_gsNil, wp_gsCons, wp_gTp, wp_gSubS, ws_mSetI, ws_mSetF, put_some, wp_callS, ws_mFor, ws_nx, ws_ret, wp_mVar0, ok_rest, ok_turn, ok_mix, ok_cells, ix_dct f1 dg3, eqs_int, hz, if_true, true_and, ix_dct f1 dg4, adds_int, set_dct f1 dl, dp4]
        have g1 : (T.set p (.dct (dkv q r rest (turn + 1) mix)))[p]? = some (.dct (dkv q r rest (turn + 1) mix)) := get_set f1
        have g2 : (T.set p (.dct (dkv q r rest (turn + 1) mix)))[q]? = some (.lst []) := get_setne f2 pq
        have g3 : (T.set p (.dct (dkv q r rest (turn + 1) mix)))[r]? = some (.lst (cs.map .int)) := get_setne f3 pr
        have x1 : Ext [p, q] S (T.set p (.dct (dkv q r rest (turn + 1) mix))) := x0.trans (Ext.set (by simp))
        revert g1 g2 g3 x1
        simp only [hz]
        generalize T.set p (.dct (dkv q r 0 (turn + 1) mix)) = T1
        intro g1 g2 g3 x1
        rw [ix_dct g1 dg4]
        have h1 : (T1 ++ [O.lst [D.int (turn + 1)]])[p]? = some (.dct (dkv q r 0 (turn + 1) mix)) := get_old g1
        have h2 : (T1 ++ [O.lst [D.int (turn + 1)]])[q]? = some (.lst []) := get_old g2
        have h3 : (T1 ++ [O.lst [D.int (turn + 1)]])[r]? = some (.lst (cs.map .int)) := get_old g3
        have h4 : (T1 ++ [O.lst [D.int (turn + 1)]])[T1.length]? = some (.lst [D.int (turn + 1)]) := get_push
        have x2 : Ext [p, q] S (T1 ++ [O.lst [D.int (turn + 1)]]) := x1.trans (Ext.push _)
        refine ⟨by simp [sizeLine], ?_⟩
        revert h1 h2 h3 h4 x2
        generalize T1 ++ [O.lst [D.int (turn + 1)]] = T2
        intro h1 h2 h3 h4 x2
        have hl : [D.int (turn + 1)].length + (cs.map D.int).length ≤ sizeLine := by
          simp only [List.length_cons, List.length_nil, List.length_map, sizeLine]; omega
        simp only [ix_dct h1 dg2, addS, h3, h4, hl, if_true, newL, wp_ok, wp_bind, wp_noX, wp_mC, wp_mStr, wp_mTru, wp_mBl, wp_blOf, wp_tru_bl, wp_mBin, wp_mUn, wp_mIf, wp_mNotT, wp_mAndT, wp_mOrT, wp_mAndV, wp_mOrV, wp_mNotV, wp_mChain, wp_mChainT, wp_mNil, wp_mCons, wp_mDisp, wp_tupD, wp_lstD, wp_mSl, wp_mNoPart, wp_mPart, wp_intOf, wp_mBm, wp_mMeth, wp_dflS, wp_mIt, wp_mItA, wp_mDict, wp_mpNil, wp_mpCons, wp_mNext, wp_mYes, wp_mLc, ws_mNx, ws_mBrk, ws_mCnt, ws_mRetN, ws_mSeq, ws_mDrop, ws_mRet, ws_mIfS, ws_mAsg, wp_gNm, wp_gsNil, wp_gsCons, wp_gTp, wp_gSubS, ws_mSetI, ws_mSetF, put_some, wp_callS, ws_mFor, ws_nx, ws_ret]
        have i1 : (T2 ++ [O.lst ([D.int (turn + 1)] ++ cs.map D.int)])[p]? = some (.dct (dkv q r 0 (turn + 1) mix)) := get_old h1
        have i2 : (T2 ++ [O.lst ([D.int (turn + 1)] ++ cs.map D.int)])[q]? = some (.lst []) := get_old h2
        have i3 : (T2 ++ [O.lst ([D.int (turn + 1)] ++ cs.map D.int)])[r]? = some (.lst (cs.map .int)) := get_old h3
        have i4 : (T2 ++ [O.lst ([D.int (turn + 1)] ++ cs.map D.int)])[T2.length]? = some (.lst ([D.int (turn + 1)] ++ cs.map D.int)) := get_push
        have x3 : Ext [p, q] S (T2 ++ [O.lst ([D.int (turn + 1)] ++ cs.map D.int)]) := x2.trans (Ext.push _)
        have hpn : p ≠ T2.length := by have := lt_of_get h1; omega
        revert i1 i2 i3 i4 x3
        generalize T2 ++ [O.lst ([D.int (turn + 1)] ++ cs.map D.int)] = T3
        intro i1 i2 i3 i4 x3
        simp only [iterS, listAt, i4, wp_ok, srcL]
        refine ws_forL (I := fun ds ρ1 S1 => ∃ (js : List Int) (mx : Int) (o : Option D), ds = js.map D.int ∧ ρ1 = [some (.ptr p), some (.int size), o, none] ∧ S1[p]? = some (.dct (dkv q r 0 (turn + 1) mx)) ∧ S1[q]? = some (.lst []) ∧ S1[r]? = some (.lst (cs.map .int)) ∧ S1[T2.length]? = some (.lst ([D.int (turn + 1)] ++ cs.map D.int)) ∧ 0 ≤ mx ∧ mx < 2147483629 ∧ Ext [p, q] S S1) ?_ ?_ _ _ _ ⟨(turn + 1) :: cs, mix, none, rfl, rfl, i1, i2, i3, i4, m1, m2, x3⟩
        · rintro d ds ρ1 S1 ⟨js, mx, o, e, rfl, j1, j2, j3, j4, n1, n2, x4⟩
          cases js with
          | nil => simp at e
          | cons j js =>
            simp only [List.map_cons, List.cons.injEq] at e
            obtain ⟨rfl, rfl⟩ := e
            have hm : (-(2 ^ 64) < mx ∧ mx < 2 ^ 64) ∨ (-(2 ^ 64) < (69621 : Int) ∧ (69621 : Int) < 2 ^ 64) := .inr (by decide)
            have hj : (-(2 ^ 64) < j ∧ j < 2 ^ 64) ∨ (-(2 ^ 64) < (48271 : Int) ∧ (48271 : Int) < 2 ^ 64) := .inr (by decide)
            have hmod : (0 : Int) < 2147483629 := by decide
            refine ⟨by simp [listAt, j4], ?_⟩
            simp only [wp_ok, wp_bind, wp_noX, wp_mC, wp_mStr, wp_mTru, wp_mBl, wp_blOf, wp_tru_bl, wp_mBin, wp_mUn, wp_mIf, wp_mNotT, wp_mAndT, wp_mOrT, wp_mAndV, wp_mOrV, wp_mNotV, wp_mChain, wp_mChainT, wp_mNil, wp_mCons, wp_mDisp, wp_tupD, wp_lstD, wp_mSl, wp_mNoPart, wp_mPart, wp_intOf, wp_mBm, wp_mMeth, wp_dflS, wp_mIt, wp_mItA, wp_mDict, wp_mpNil, wp_mpCons, wp_mNext, wp_mYes, wp_mLc, ws_mNx, ws_mBrk, ws_mCnt, ws_mRetN, ws_mSeq, ws_mDrop, ws_mRet, ws_mIfS, ws_mAsg, wp_gNm, wp_gsNil, wp_gsCons, wp_gTp, wp_gSubS, ws_mSetI, ws_mSetF, put_some, wp_callS, ws_mFor, ws_nx, ws_ret, List.set, wp_mVar0, wp_mVarS, ok_mix, ix_dct j1 dg5, true_and, mulS, hm, hj, if_true, addS, intS, modS, hmod, set_dct j1 dl, dp5]
            exact ⟨js, _, _, rfl, rfl, get_set j1, get_setne j2 pq, get_setne j3 pr, get_setne j4 hpn, Int.emod_nonneg _ (by decide), Int.emod_lt_of_pos _ (by decide), x4.trans (Ext.set (by simp))⟩
        · rintro ρ1 S1 ⟨js, mx, o, e, rfl, j1, j2, j3, j4, n1, n2, x4⟩
          refine ⟨by simp [listAt, j4], ?_⟩
          have hpow : (0 : Int) ≤ 5 ∧ (5 : Int) ≤ 1000000 ∧ mx.natAbs < 2 ^ 64 := ⟨by decide, by decide, by omega⟩
          have hmod : (0 : Int) < 2305843009213693951 := by decide
          simp only [wp_ok, wp_bind, wp_noX, wp_mC, wp_mStr, wp_mTru, wp_mBl, wp_blOf, wp_tru_bl, wp_mBin, wp_mUn, wp_mIf, wp_mNotT, wp_mAndT, wp_mOrT, wp_mAndV, wp_mOrV, wp_mNotV, wp_mChain, wp_mChainT, wp_mNil, wp_mCons, wp_mDisp, wp_tupD, wp_lstD, wp_mSl, wp_mNoPart, wp_mPart, wp_intOf, wp_mBm, wp_mMeth, wp_dflS, wp_mIt, wp_mItA, wp_mDict, wp_mpNil, wp_mpCons, wp_mNext, wp_mYes, wp_mLc, ws_mNx, ws_mBrk, ws_mCnt, ws_mRetN, ws_mSeq, ws_mDrop, ws_mRet, ws_mIfS, ws_mAsg, wp_gNm, wp_gsNil, wp_gsCons, wp_gTp, wp_gSubS, ws_mSetI, ws_mSetF, put_some, wp_callS, ws_mFor, ws_nx, ws_ret, wp_mVar0, ok_mix, ok_rest, ix_dct j1 dg5, true_and, powS, hpow, and_self, if_true, intS, modS, hmod, set_dct j1 dl, dp3]
          exact ⟨rfl, ⟨pq, pr, qr, [], cs, _, _, mx, get_set j1, get_setne j2 pq, get_setne j3 pr, by simp, l2, n1, n2⟩, x4.trans (Ext.set (by simp))⟩
      | cons x xs =>
        simp only [List.map_cons, reduceCtorEq, decide_false, Bool.not_false, if_true, wp_ok, wp_bind, wp_noX, wp_mC, wp_mStr, wp_mTru, wp_mBl, wp_blOf, wp_tru_bl, wp_mBin, wp_mUn, wp_mIf, wp_mNotT, wp_mAndT, wp_mOrT, wp_mAndV, wp_mOrV, wp_mNotV, wp_mChain, wp_mChainT, wp_mNil, wp_mCons, wp_mDisp, wp_tupD, wp_lstD, wp_mSl, wp_mNoPart, wp_mPart, wp_intOf, wp_mBm, wp_mMeth, wp_dflS, wp_mIt, wp_mItA, wp_mDict, wp_mpNil, wp_mpCons, wp_mNext, wp_mYes, wp_mLc, ws_mNx, ws_mBrk, ws_mCnt, ws_mRetN, ws_mSeq, ws_mDrop, ws_mRet, ws_mIfS, ws_mAsg, wp_gNm, wp_gsNil, wp_gsCons, wp_gTp, wp_gSubS, ws_mSetI, ws_mSetF, put_some, wp_callS, ws_mFor, ws_nx, ws_ret, wp_mVar0, ok_rest, ok_large, ix_dct f1 dg1, true_and, popS, f2, tyD, listAt, Option.isSome_some, Bool.and_true, BEq.rfl, Bool.true_or]
        simp only [seqIndex?, List.length_cons]
        simp
        rw [wp_ok, set_dct (get_setne f1 (Ne.symm pq)) dl, dp3]
        refine ⟨⟨pq, pr, qr, xs, cs, _, turn, mix, get_set (get_setne f1 (Ne.symm pq)), get_setne (get_set f2) pq, get_setne (get_setne f3 qr) pr, by simp only [List.length_cons] at l1; omega, l2, m1, m2⟩, x0.trans (Ext.trans (Ext.set (by simp)) (Ext.set (by simp)))⟩
    · simp only [hz, decide_false]
      simp
      exact ⟨⟨pq, pr, qr, xs, cs, rest, turn, mix, e1, e2, e3, l1, l2, m1, m2⟩, Ext.rfl'⟩
  · rintro ρ1 S1 ⟨hρ, hd, hx⟩
    obtain ⟨pq, pr, qr, xs, cs, rest, turn, mix, e1, e2, e3, l1, l2, m1, m2⟩ := hd
    rw [hρ]
    simp only [wp_ok, wp_bind, wp_noX, wp_mC, wp_mStr, wp_mTru, wp_mBl, wp_blOf, wp_tru_bl, wp_mBin, wp_mUn, wp_mIf, wp_mNotT, wp_mAndT, wp_mOrT, wp_mAndV, wp_mOrV, wp_mNotV, wp_mChain, wp_mChainT, wp_mNil, wp_mCons, wp_mDisp, wp_tupD, wp_lstD, wp_mSl, wp_mNoPart, wp_mPart, wp_intOf, wp_mBm, wp_mMeth, wp_dflS, wp_mIt, wp_mItA, wp_mDict, wp_mpNil, wp_mpCons, wp_mNext, wp_mYes, wp_mLc, ws_mNx, ws_mBrk, ws_mCnt, ws_mRetN, ws_mSeq, ws_mDrop, ws_mRet, ws_mIfS, ws_mAsg, wp_gNm, wp_gsNil, wp_gsCons, wp_gTp, wp_gSubS, ws_mSetI, ws_mSetF, put_some, wp_callS, ws_mFor, ws_nx, ws_ret, wp_mVar0, wp_mVarS, ok_rest, ix_dct e1 dg3, true_and, divmodS, h0, h1, and_self, if_true, List.length, set_dct e1 dl, dp3, List.set]
    refine ⟨_, rfl, Int.emod_nonneg _ (by omega), Int.emod_lt_of_pos _ h0, ⟨pq, pr, qr, xs, cs, _, turn, mix, get_set e1, get_setne e2 pq, get_setne e3 pr, l1, l2, m1, m2⟩, hx.trans (Ext.set (by simp))⟩
theorem Draw.old {p q r n : Nat} {S : Sto} (h : Draw p q r S) (hn : S.length ≤ n) : n ≠ p ∧ n ≠ q ∧ n ≠ r := by
  obtain ⟨pq, pr, qr, xs, cs, rest, turn, mix, e1, e2, e3, l1⟩ := h
  have := lt_of_get e1
  have := lt_of_get e2
  have := lt_of_get e3
  omega
theorem Draw.get {p q n : Nat} {S S' : Sto} {o : O} (x : Ext [p, q] S S') (e : S[n]? = some o) (hp : n ≠ p) (hq : n ≠ q) : S'[n]? = some o := x.get n o e (by simp [hp, hq])
/-- a list that is none of the draw's own -/
theorem pick_ok {p q r n : Nat} {S : Sto} {ds : List D} (h : Draw p q r S) (e : S[n]? = some (.lst ds)) (hp : n ≠ p) (hq : n ≠ q) (h0 : ds ≠ []) (h1 : ds.length < 1073741824) :
    Wp (f__law_pick [.ptr p, .ptr n] S) fun d S' => d ∈ ds ∧ Draw p q r S' ∧ Ext [p, q] S S' := by
  have hl : 0 < ds.length := List.length_pos_iff.mpr h0
  unfold f__law_pick
  simp only [wp_ok, wp_bind, wp_noX, wp_mC, wp_mStr, wp_mTru, wp_mBl, wp_blOf, wp_tru_bl, wp_mBin, wp_mUn, wp_mIf, wp_mNotT, wp_mAndT, wp_mOrT, wp_mAndV, wp_mOrV, wp_mNotV, wp_mChain, wp_mChainT, wp_mNil, wp_mCons, wp_mDisp, wp_tupD, wp_lstD, wp_mSl, wp_mNoPart, wp_mPart, wp_intOf, wp_mBm, wp_mMeth, wp_dflS, wp_mIt, wp_mItA, wp_mDict, wp_mpNil, wp_mpCons, wp_mNext, wp_mYes, wp_mLc, ws_mNx, ws_mBrk, ws_mCnt, ws_mRetN, ws_mSeq, ws_mDrop, ws_mRet, ws_mIfS, ws_mAsg, wp_gNm, wp_gsNil, wp_gsCons, wp_gTp, wp_gSubS, ws_mSetI, ws_mSetF, put_some, wp_callS, ws_mFor, ws_nx, ws_ret, List.map, List.length, List.replicate, N__law_pick, List.cons_append, List.nil_append, List.append_nil, wp_mVar0, wp_mVarS, lenS, listAt, e, true_and, Nat.zero_add]
  refine (take_ok h (size := ds.length) (by omega) (by omega)).imp fun d S1 ⟨i, ei, i0, i1, hd, x⟩ => ?_
  subst ei
  obtain ⟨d, ed, hm⟩ := get_ofI i0 i1
  rw [ix_lst (Draw.get x e hp hq) i0 i1 ed]
  exact ⟨hm, hd, x⟩
/-- the draw at its beginning -/
theorem begin_ok {xs : List Int} (hl : xs.length ≤ 63) : Wp (f__law_begin [.ptr 0] [.rol (xs.map D.int)]) fun d S' => ∃ p q r, d = .ptr p ∧ Draw p q r S' ∧ S'[0]? = some (.rol (xs.map D.int)) ∧ p ≠ 0 ∧ q ≠ 0 := by
  unfold f__law_begin
  rw [wp_callS]
  simp only [List.map, List.length, List.replicate, List.cons_append, List.nil_append, N__law_begin]
  refine ws_cut (fun ρ1 S1 => ∃ (q : Nat) (ys : List Int), ρ1 = [some (.ptr 0), some (.ptr q), none] ∧ S1[0]? = some (.rol (xs.map D.int)) ∧ S1[q]? = some (.lst (ys.map D.int)) ∧ ys.length ≤ 63) ?_ ?_
  · simp only [wp_ok, wp_bind, wp_noX, wp_mC, wp_mStr, wp_mTru, wp_mBl, wp_blOf, wp_tru_bl, wp_mBin, wp_mUn, wp_mIf, wp_mNotT, wp_mAndT, wp_mOrT, wp_mAndV, wp_mOrV, wp_mNotV, wp_mChain, wp_mChainT, wp_mNil, wp_mCons, wp_mDisp, wp_tupD, wp_lstD, wp_mSl, wp_mNoPart, wp_mPart, wp_intOf, wp_mBm, wp_mMeth, wp_dflS, wp_mIt, wp_mItA, wp_mDict, wp_mpNil, wp_mpCons, wp_mNext, wp_mYes, wp_mLc, ws_mNx, ws_mBrk, ws_mCnt, ws_mRetN, ws_mSeq, ws_mDrop, ws_mRet, ws_mIfS, ws_mAsg, wp_gNm, wp_gsNil, wp_gsCons, wp_gTp, wp_gSubS, ws_mSetI, ws_mSetF, put_some, wp_callS, ws_mFor, ws_nx, ws_ret, wp_mVar0, wp_mVarS, List.set]
    have h0 : ([O.rol (xs.map D.int)] : Sto)[0]? = some (.rol (xs.map D.int)) := rfl
    have hit : iterS (.ptr 0) [O.rol (xs.map D.int)] = .ok (srcL 0 (xs.map D.int)) [O.rol (xs.map D.int)] := by simp only [iterS, listAt, h0]
    rw [hit, wp_ok]
    refine wp_lc (ms := []) (X := fun _ => True) (f := fun d => match d with | .int i => decide ((10 : Int) ^ 18 ≤ if i < 0 then -i else i) | _ => false) (P := fun d y => y = match d with | .int i => .int (if i < 0 then -i else i) | d => d) (by simp) trivial (fun _ _ _ _ => trivial) (fun S9 x9 => by simp [srcL, listAt, x9.get _ _ h0 (by simp)]) (fun _ _ => rfl) (by simp [srcL, sizeLine]; omega) ?_ ?_
    · intro dd hdd S9 x9 _
      simp only [srcL, List.mem_map] at hdd
      obtain ⟨i, hi, rfl⟩ := hdd
      have hp : powS (.int 10) (.int 18) S9 = .ok (.int (10 ^ 18)) S9 := by
        simp only [powS]; rw [if_pos (by decide)]; rfl
      simp only [wp_ok, wp_bind, wp_noX, wp_mC, wp_mStr, wp_mTru, wp_mBl, wp_blOf, wp_tru_bl, wp_mBin, wp_mUn, wp_mIf, wp_mNotT, wp_mAndT, wp_mOrT, wp_mAndV, wp_mOrV, wp_mNotV, wp_mChain, wp_mChainT, wp_mNil, wp_mCons, wp_mDisp, wp_tupD, wp_lstD, wp_mSl, wp_mNoPart, wp_mPart, wp_intOf, wp_mBm, wp_mMeth, wp_dflS, wp_mIt, wp_mItA, wp_mDict, wp_mpNil, wp_mpCons, wp_mNext, wp_mYes, wp_mLc, ws_mNx, ws_mBrk, ws_mCnt, ws_mRetN, ws_mSeq, ws_mDrop, ws_mRet, ws_mIfS, ws_mAsg, wp_gNm, wp_gsNil, wp_gsCons, wp_gTp, wp_gSubS, ws_mSetI, ws_mSetF, put_some, wp_callS, ws_mFor, ws_nx, ws_ret, wipeR, List.set, wp_mVar0, wp_mVarS, absS, hp, geS, true_and]
      exact ⟨fun _ => ⟨Ext.rfl', trivial⟩, fun _ => ⟨Ext.rfl', trivial⟩⟩
    · intro acc S9 ha9 x9 _ hg9
      have hacc := ha9.eq_map
      have hal := ha9.len
      have hys : ∃ ys : List Int, acc = ys.map D.int := by
        have : ∀ y ∈ acc, ∃ i, y = D.int i := fun y hy => by
          obtain ⟨d, hd, e⟩ := ha9.mem hy
          have := (List.mem_filter.mp hd).1
          simp only [srcL, List.mem_map] at this
          obtain ⟨i, _, rfl⟩ := this
          exact ⟨_, e⟩
        clear hacc hal ha9 hg9
        induction acc with
        | nil => exact ⟨[], rfl⟩
        | cons a acc ih =>
          obtain ⟨i, rfl⟩ := this a (List.mem_cons_self ..)
          obtain ⟨ys, rfl⟩ := ih fun y hy => this y (List.mem_cons_of_mem _ hy)
          exact ⟨i :: ys, rfl⟩
      obtain ⟨ys, rfl⟩ := hys
      refine ⟨_, ys, rfl, x9.get _ _ h0 (by simp), hg9, ?_⟩
      have := List.length_filter_le (fun d => match d with | .int i => decide ((10 : Int) ^ 18 ≤ if i < 0 then -i else i) | _ => false) (srcL 0 (xs.map D.int)).items
      rw [hal] at this
      simp only [srcL, List.length_map] at this
      omega
  · rintro ρ1 S1 ⟨q, ys, rfl, e0, eq, hy⟩
    have hq := lt_of_get eq
    have h00 := lt_of_get e0
    have hls : listS [.ptr 0] (S1 ++ [O.dct []]) = newL (xs.map D.int) (S1 ++ [O.dct []]) := by
      simp only [listS, listAt, get_old e0]
    simp only [wp_ok, wp_bind, wp_noX, wp_mC, wp_mStr, wp_mTru, wp_mBl, wp_blOf, wp_tru_bl, wp_mBin, wp_mUn, wp_mIf, wp_mNotT, wp_mAndT, wp_mOrT, wp_mAndV, wp_mOrV, wp_mNotV, wp_mChain, wp_mChainT, wp_mNil, wp_mCons, wp_mDisp, wp_tupD, wp_lstD, wp_mSl, wp_mNoPart, wp_mPart, wp_intOf, wp_mBm, wp_mMeth, wp_dflS, wp_mIt, wp_mItA, wp_mDict, wp_mpNil, wp_mpCons, wp_mNext, wp_mYes, wp_mLc, ws_mNx, ws_mBrk, ws_mCnt, ws_mRetN, ws_mSeq, ws_mDrop, ws_mRet, ws_mIfS, ws_mAsg, wp_gNm, wp_gsNil, wp_gsCons, wp_gTp, wp_gSubS, ws_mSetI, ws_mSetF, put_some, wp_callS, ws_mFor, ws_nx, ws_ret, wp_mVar0, wp_mVarS, ok_large, ok_cells, ok_rest, ok_turn, ok_mix, true_and, hls, newL]
    have g0 : (S1 ++ [O.dct []] ++ [O.lst (xs.map D.int)])[S1.length]? = some (.dct []) := get_old get_push
    have hz : 0 < S1.length := h00
    simp only [fillD, g0]
    rw [if_pos (by simp [keyD]), wp_ok]
    refine ⟨S1.length, q, (S1 ++ [O.dct []]).length, rfl, ⟨by omega, by simp, by simp; omega, ys, xs, 0, 0, 7, get_set g0, get_setne (get_old (get_old eq)) (by omega), get_setne get_push (by simp), hy, hl, by decide, by decide⟩, get_setne (get_old (get_old e0)) (by omega), by omega, ?_⟩
    rintro rfl
    rw [e0] at eq; cases eq
end K01
/-! G03 -/
set_option Elab.async false
set_option autoImplicit false
set_option linter.all false
set_option maxRecDepth 100000
set_option maxHeartbeats 1000000
namespace K01
open PySem PySem.Spec L2 MP
/-! the classes, the words, the fields -/
def cl12 : Nat → Str
  | 0 => "BadPlant"
  | 1 => "NoPart"
  | 2 => "NoSensor"
  | 3 => "NoEvent"
  | 4 => "NoOperation"
  | 5 => "NoNumber"
  | 6 => "TooMany"
  | 7 => "BadText"
  | 8 => "NoOdds"
  | 9 => "BadMachine"
  | 10 => "Mismatch"
  | _ => "NothingLeft"
def wd12 : Nat → Str
  | 0 => "plant"
  | 1 => "part"
  | 2 => "sensor"
  | 3 => "event"
  | 4 => "operation"
  | 5 => "number"
  | 6 => "many"
  | 7 => "text"
  | 8 => "odds"
  | 9 => "machine"
  | 10 => "match"
  | _ => "left"
def fs12 (w : D) : Nat → List (Str × D)
  | 0 => [("part", w)]
  | 1 => [("index", w)]
  | 2 => [("index", w)]
  | 3 => [("index", w)]
  | 4 => [("index", w)]
  | 5 => [("number", w)]
  | 6 => [("most", w)]
  | 7 => [("line", w)]
  | _ => []
theorem x_BadPlant : ∀ i : Fin 12, isx_BadPlant (cl12 i.val) = some (decide (i.val = 0)) := by decide +kernel
theorem x_NoPart : ∀ i : Fin 12, isx_NoPart (cl12 i.val) = some (decide (i.val = 1)) := by decide +kernel
theorem x_NoSensor : ∀ i : Fin 12, isx_NoSensor (cl12 i.val) = some (decide (i.val = 2)) := by decide +kernel
theorem x_NoEvent : ∀ i : Fin 12, isx_NoEvent (cl12 i.val) = some (decide (i.val = 3)) := by decide +kernel
theorem x_NoOperation : ∀ i : Fin 12, isx_NoOperation (cl12 i.val) = some (decide (i.val = 4)) := by decide +kernel
theorem x_NoNumber : ∀ i : Fin 12, isx_NoNumber (cl12 i.val) = some (decide (i.val = 5)) := by decide +kernel
theorem x_TooMany : ∀ i : Fin 12, isx_TooMany (cl12 i.val) = some (decide (i.val = 6)) := by decide +kernel
theorem x_BadText : ∀ i : Fin 12, isx_BadText (cl12 i.val) = some (decide (i.val = 7)) := by decide +kernel
theorem x_NoOdds : ∀ i : Fin 12, isx_NoOdds (cl12 i.val) = some (decide (i.val = 8)) := by decide +kernel
theorem x_BadMachine : ∀ i : Fin 12, isx_BadMachine (cl12 i.val) = some (decide (i.val = 9)) := by decide +kernel
theorem x_Mismatch : ∀ i : Fin 12, isx_Mismatch (cl12 i.val) = some (decide (i.val = 10)) := by decide +kernel
theorem x_NothingLeft : ∀ i : Fin 12, isx_NothingLeft (cl12 i.val) = some (decide (i.val = 11)) := by decide +kernel
theorem x_ValueError : ∀ i : Fin 12, isx_ValueError (cl12 i.val) = some true := by decide +kernel
theorem x_sub : ∀ i : Fin 12, sub_FaultError (cl12 i.val) = true := by decide +kernel
theorem ok_plant : okS "plant" := by decide +kernel
theorem ok_part : okS "part" := by decide +kernel
theorem ok_sensor : okS "sensor" := by decide +kernel
theorem ok_event : okS "event" := by decide +kernel
theorem ok_operation : okS "operation" := by decide +kernel
theorem ok_number : okS "number" := by decide +kernel
theorem ok_many : okS "many" := by decide +kernel
theorem ok_text : okS "text" := by decide +kernel
theorem ok_odds : okS "odds" := by decide +kernel
theorem ok_machine : okS "machine" := by decide +kernel
theorem ok_match : okS "match" := by decide +kernel
theorem ok_left : okS "left" := by decide +kernel
theorem marks_ok : ∀ i : Fin 12, ([decide (i.val = 0), decide (i.val = 1), decide (i.val = 2), decide (i.val = 3), decide (i.val = 4), decide (i.val = 5), decide (i.val = 6), decide (i.val = 7), decide (i.val = 8), decide (i.val = 9), decide (i.val = 10), decide (i.val = 11)].count true = 1 ∧ true ∈ [decide (i.val = 0), decide (i.val = 1), decide (i.val = 2), decide (i.val = 3), decide (i.val = 4), decide (i.val = 5), decide (i.val = 6), decide (i.val = 7), decide (i.val = 8), decide (i.val = 9), decide (i.val = 10), decide (i.val = 11)] ∧ [decide (i.val = 0), decide (i.val = 1), decide (i.val = 2), decide (i.val = 3), decide (i.val = 4), decide (i.val = 5), decide (i.val = 6), decide (i.val = 7), decide (i.val = 8), decide (i.val = 9), decide (i.val = 10), decide (i.val = 11)].idxOf true = i.val) := by decide +kernel
theorem add_ll {T : Sto} {k l : Nat} {A B : List D} {Q : D → Sto → Prop} (h1 : T[k]? = some (.lst A)) (h2 : T[l]? = some (.lst B)) (hl : A.length + B.length ≤ 1000) : Wp (addS (.ptr k) (.ptr l) T) Q ↔ Q (.ptr T.length) (T ++ [.lst (A ++ B)]) := by
  have hs : A.length + B.length ≤ sizeLine := by simp only [sizeLine]; omega
  simp only [addS, h1, h2, if_pos hs, newL, wp_ok]
theorem count_wp {T : Sto} {k : Nat} {bs : List Bool} {Q : D → Sto → Prop} (h : T[k]? = some (.lst (bs.map D.bl))) : Wp (countB (.ptr k) [.bl true] T) Q ↔ Q (.int (bs.count true : Nat)) T := by
  simp only [countB, h, boolsOf_map, wp_ok]
theorem index_wp {T : Sto} {k : Nat} {bs : List Bool} {Q : D → Sto → Prop} (h : T[k]? = some (.lst (bs.map D.bl))) (hm : true ∈ bs) : Wp (indexB (.ptr k) [.bl true] T) Q ↔ Q (.int (bs.idxOf true : Nat)) T := by
  simp only [indexB, h, boolsOf_map, if_pos hm, wp_ok]
/-- what the law's own reading of an error gives -/
def rd12 (w : D) (i : Nat) : D := .tup [.int i, if i < 8 then w else .non]
theorem field_ok {S : Sto} {n : Nat} {w : D} (i : Fin 12) (hn : S[n]? = some (.exc (cl12 i.val) (fs12 w i.val))) : Wp (f__law_field [.ptr n] S) fun y S' => y = rd12 w i.val ∧ Ext [] S S' := by
  unfold f__law_field
  rw [wp_callS]
  simp only [List.map, List.length, List.replicate, List.cons_append, List.nil_append, N__law_field]
  refine ws_cut (fun ρ1 T => ∃ k, ρ1 = [some (.ptr n), some (.ptr k), none] ∧ T[k]? = some (.lst [D.bl (decide (i.val = 0)), D.bl (decide (i.val = 1)), D.bl (decide (i.val = 2))]) ∧ Ext [] S T) ?_ ?_
  · simp only [wp_ok, wp_bind, wp_noX, wp_mC, wp_mStr, wp_mTru, wp_mBl, wp_blOf, wp_tru_bl, wp_mBin, wp_mUn, wp_mIf, wp_mNotT, wp_mAndT, wp_mOrT, wp_mAndV, wp_mOrV, wp_mNotV, wp_mChain, wp_mChainT, wp_mNil, wp_mCons, wp_mDisp, wp_tupD, wp_lstD, wp_mSl, wp_mNoPart, wp_mPart, wp_intOf, wp_mBm, wp_mMeth, wp_dflS, wp_mIt, wp_mItA, wp_mDict, wp_mpNil, wp_mpCons, wp_mNext, wp_mYes, wp_mLc, ws_mNx, ws_mBrk, ws_mCnt, ws_mRetN, ws_mSeq, ws_mDrop, ws_mRet, ws_mIfS, ws_mAsg, wp_gNm, wp_gsNil, wp_gsCons, wp_gTp, wp_gSubS, ws_mSetI, ws_mSetF, put_some, wp_callS, ws_mFor, ws_nx, ws_ret, wp_gFld, wp_mMethKw, wp_mVar0, wp_mVarS, List.set, wp_isiE hn (x_BadPlant i), wp_isiE hn (x_NoPart i), wp_isiE hn (x_NoSensor i)]
    exact ⟨by simp [sizeLine], _, rfl, get_push, Ext.push _⟩
  rintro ρ1 S1 ⟨k, rfl, hk, x1⟩
  refine ws_cut (fun ρ1 T => ∃ k, ρ1 = [some (.ptr n), some (.ptr k), none] ∧ T[k]? = some (.lst [D.bl (decide (i.val = 0)), D.bl (decide (i.val = 1)), D.bl (decide (i.val = 2)), D.bl (decide (i.val = 3)), D.bl (decide (i.val = 4)), D.bl (decide (i.val = 5))]) ∧ Ext [] S T) ?_ ?_
  · have hn1 := x1.get _ _ hn (by simp)
    simp only [wp_ok, wp_bind, wp_noX, wp_mC, wp_mStr, wp_mTru, wp_mBl, wp_blOf, wp_tru_bl, wp_mBin, wp_mUn, wp_mIf, wp_mNotT, wp_mAndT, wp_mOrT, wp_mAndV, wp_mOrV, wp_mNotV, wp_mChain, wp_mChainT, wp_mNil, wp_mCons, wp_mDisp, wp_tupD, wp_lstD, wp_mSl, wp_mNoPart, wp_mPart, wp_intOf, wp_mBm, wp_mMeth, wp_dflS, wp_mIt, wp_mItA, wp_mDict, wp_mpNil, wp_mpCons, wp_mNext, wp_mYes, wp_mLc, ws_mNx, ws_mBrk, ws_mCnt, ws_mRetN, ws_mSeq, ws_mDrop, ws_mRet, ws_mIfS, ws_mAsg, wp_gNm, wp_gsNil, wp_gsCons, wp_gTp, wp_gSubS, ws_mSetI, ws_mSetF, put_some, wp_callS, ws_mFor, ws_nx, ws_ret, wp_gFld, wp_mMethKw, wp_mVar0, wp_mVarS, List.set, wp_isiE hn1 (x_NoEvent i), wp_isiE hn1 (x_NoOperation i), wp_isiE hn1 (x_NoNumber i)]
    refine ⟨by simp [sizeLine], ?_⟩
    rw [add_ll (get_old hk) get_push (by simp)]
    exact ⟨_, rfl, get_push, (x1.trans (Ext.push _)).trans (Ext.push _)⟩
  clear hk x1 k S1
  rintro ρ1 S1 ⟨k, rfl, hk, x1⟩
  refine ws_cut (fun ρ1 T => ∃ k, ρ1 = [some (.ptr n), some (.ptr k), none] ∧ T[k]? = some (.lst [D.bl (decide (i.val = 0)), D.bl (decide (i.val = 1)), D.bl (decide (i.val = 2)), D.bl (decide (i.val = 3)), D.bl (decide (i.val = 4)), D.bl (decide (i.val = 5)), D.bl (decide (i.val = 6)), D.bl (decide (i.val = 7)), D.bl (decide (i.val = 8))]) ∧ Ext [] S T) ?_ ?_
  · have hn1 := x1.get _ _ hn (by simp)
    simp only [wp_ok, wp_bind, wp_noX, wp_mC, wp_mStr, wp_mTru, wp_mBl, wp_blOf, wp_tru_bl, wp_mBin, wp_mUn, wp_mIf, wp_mNotT, wp_mAndT, wp_mOrT, wp_mAndV, wp_mOrV, wp_mNotV, wp_mChain, wp_mChainT, wp_mNil, wp_mCons, wp_mDisp, wp_tupD, wp_lstD, wp_mSl, wp_mNoPart, wp_mPart, wp_intOf, wp_mBm, wp_mMeth, wp_dflS, wp_mIt, wp_mItA, wp_mDict, wp_mpNil, wp_mpCons, wp_mNext, wp_mYes, wp_mLc, ws_mNx, ws_mBrk, ws_mCnt, ws_mRetN, ws_mSeq, ws_mDrop, ws_mRet, ws_mIfS, ws_mAsg, wp_gNm, wp_gsNil, wp_gsCons, wp_gTp, wp_gSubS, ws_mSetI, ws_mSetF, put_some, wp_callS, ws_mFor, ws_nx, ws_ret, wp_gFld, wp_mMethKw, wp_mVar0, wp_mVarS, List.set, wp_isiE hn1 (x_TooMany i), wp_isiE hn1 (x_BadText i), wp_isiE hn1 (x_NoOdds i)]
    refine ⟨by simp [sizeLine], ?_⟩
    rw [add_ll (get_old hk) get_push (by simp)]
    exact ⟨_, rfl, get_push, (x1.trans (Ext.push _)).trans (Ext.push _)⟩
  clear hk x1 k S1
  rintro ρ1 S1 ⟨k, rfl, hk, x1⟩
  refine ws_cut (fun ρ1 T => ∃ k, ρ1 = [some (.ptr n), some (.ptr k), none] ∧ T[k]? = some (.lst [D.bl (decide (i.val = 0)), D.bl (decide (i.val = 1)), D.bl (decide (i.val = 2)), D.bl (decide (i.val = 3)), D.bl (decide (i.val = 4)), D.bl (decide (i.val = 5)), D.bl (decide (i.val = 6)), D.bl (decide (i.val = 7)), D.bl (decide (i.val = 8)), D.bl (decide (i.val = 9)), D.bl (decide (i.val = 10)), D.bl (decide (i.val = 11))]) ∧ Ext [] S T) ?_ ?_
  · have hn1 := x1.get _ _ hn (by simp)
    simp only [wp_ok, wp_bind, wp_noX, wp_mC, wp_mStr, wp_mTru, wp_mBl, wp_blOf, wp_tru_bl, wp_mBin, wp_mUn, wp_mIf, wp_mNotT, wp_mAndT, wp_mOrT, wp_mAndV, wp_mOrV, wp_mNotV, wp_mChain, wp_mChainT, wp_mNil, wp_mCons, wp_mDisp, wp_tupD, wp_lstD, wp_mSl, wp_mNoPart, wp_mPart, wp_intOf, wp_mBm, wp_mMeth, wp_dflS, wp_mIt, wp_mItA, wp_mDict, wp_mpNil, wp_mpCons, wp_mNext, wp_mYes, wp_mLc, ws_mNx, ws_mBrk, ws_mCnt, ws_mRetN, ws_mSeq, ws_mDrop, ws_mRet, ws_mIfS, ws_mAsg, wp_gNm, wp_gsNil, wp_gsCons, wp_gTp, wp_gSubS, ws_mSetI, ws_mSetF, put_some, wp_callS, ws_mFor, ws_nx, ws_ret, wp_gFld, wp_mMethKw, wp_mVar0, wp_mVarS, List.set, wp_isiE hn1 (x_BadMachine i), wp_isiE hn1 (x_Mismatch i), wp_isiE hn1 (x_NothingLeft i)]
    refine ⟨by simp [sizeLine], ?_⟩
    rw [add_ll (get_old hk) get_push (by simp)]
    exact ⟨_, rfl, get_push, (x1.trans (Ext.push _)).trans (Ext.push _)⟩
  clear hk x1 k S1
  rintro ρ1 S1 ⟨k, rfl, hk, x1⟩
  have hn1 := x1.get _ _ hn (by simp)
  obtain ⟨m1, m2, m3⟩ := marks_ok i
  have hk2 : S1[k]? = some (.lst (([decide (i.val = 0), decide (i.val = 1), decide (i.val = 2), decide (i.val = 3), decide (i.val = 4), decide (i.val = 5), decide (i.val = 6), decide (i.val = 7), decide (i.val = 8), decide (i.val = 9), decide (i.val = 10), decide (i.val = 11)] : List Bool).map D.bl)) := hk
  have hty : tyD "list" (.ptr k) S1 = true := by simp [tyD, listAt, hk]
  clear hk
  refine ws_cut (fun ρ1 T => ρ1 = [some (.ptr n), some (.ptr k), none] ∧ T = S1) ?_ ?_
  · simp only [wp_ok, wp_bind, wp_noX, wp_mC, wp_mStr, wp_mTru, wp_mBl, wp_blOf, wp_tru_bl, wp_mBin, wp_mUn, wp_mIf, wp_mNotT, wp_mAndT, wp_mOrT, wp_mAndV, wp_mOrV, wp_mNotV, wp_mChain, wp_mChainT, wp_mNil, wp_mCons, wp_mDisp, wp_tupD, wp_lstD, wp_mSl, wp_mNoPart, wp_mPart, wp_intOf, wp_mBm, wp_mMeth, wp_dflS, wp_mIt, wp_mItA, wp_mDict, wp_mpNil, wp_mpCons, wp_mNext, wp_mYes, wp_mLc, ws_mNx, ws_mBrk, ws_mCnt, ws_mRetN, ws_mSeq, ws_mDrop, ws_mRet, ws_mIfS, ws_mAsg, wp_gNm, wp_gsNil, wp_gsCons, wp_gTp, wp_gSubS, ws_mSetI, ws_mSetF, put_some, wp_callS, ws_mFor, ws_nx, ws_ret, wp_gFld, wp_mMethKw, wp_mVar0, wp_mVarS, hty, true_and, count_wp hk2, m1, nes_int]
    simp only [wp_ok, wp_bind, wp_noX, wp_mC, wp_mStr, wp_mTru, wp_mBl, wp_blOf, wp_tru_bl, wp_mBin, wp_mUn, wp_mIf, wp_mNotT, wp_mAndT, wp_mOrT, wp_mAndV, wp_mOrV, wp_mNotV, wp_mChain, wp_mChainT, wp_mNil, wp_mCons, wp_mDisp, wp_tupD, wp_lstD, wp_mSl, wp_mNoPart, wp_mPart, wp_intOf, wp_mBm, wp_mMeth, wp_dflS, wp_mIt, wp_mItA, wp_mDict, wp_mpNil, wp_mpCons, wp_mNext, wp_mYes, wp_mLc, ws_mNx, ws_mBrk, ws_mCnt, ws_mRetN, ws_mSeq, ws_mDrop, ws_mRet, ws_mIfS, ws_mAsg, wp_gNm, wp_gsNil, wp_gsCons, wp_gTp, wp_gSubS, ws_mSetI, ws_mSetF, put_some, wp_callS, ws_mFor, ws_nx, ws_ret, wp_gFld, wp_mMethKw, wp_mVar0, wp_mVarS, wp_isiE hn1 (x_ValueError i), Int.ofNat_one, decide_true, Bool.not_true, Bool.false_eq_true, if_false]
  rintro ρ1 T ⟨rfl, eT⟩
  subst eT
  refine ws_cut (fun ρ1 U => ρ1 = [some (.ptr n), some (.ptr k), some (.int (i.val : Nat))] ∧ U = T) ?_ ?_
  · simp only [wp_ok, wp_bind, wp_noX, wp_mC, wp_mStr, wp_mTru, wp_mBl, wp_blOf, wp_tru_bl, wp_mBin, wp_mUn, wp_mIf, wp_mNotT, wp_mAndT, wp_mOrT, wp_mAndV, wp_mOrV, wp_mNotV, wp_mChain, wp_mChainT, wp_mNil, wp_mCons, wp_mDisp, wp_tupD, wp_lstD, wp_mSl, wp_mNoPart, wp_mPart, wp_intOf, wp_mBm, wp_mMeth, wp_dflS, wp_mIt, wp_mItA, wp_mDict, wp_mpNil, wp_mpCons, wp_mNext, wp_mYes, wp_mLc, ws_mNx, ws_mBrk, ws_mCnt, ws_mRetN, ws_mSeq, ws_mDrop, ws_mRet, ws_mIfS, ws_mAsg, wp_gNm, wp_gsNil, wp_gsCons, wp_gTp, wp_gSubS, ws_mSetI, ws_mSetF, put_some, wp_callS, ws_mFor, ws_nx, ws_ret, wp_gFld, wp_mMethKw, wp_mVar0, wp_mVarS, List.set, hty, true_and, index_wp hk2 m2, m3]
  rintro ρ1 U ⟨rfl, eT⟩
  subst eT
  clear hk2 hty m1 m2 m3
  match i, hn1 with
  | ⟨0, _⟩, hn1 =>
    have xf : ∀ {Q : D → Sto → Prop}, Wp (xfA xc_part "part" (.ptr n) U) Q ↔ Q w U := fun {Q} => wp_xfA hn1 (show ("BadPlant" : Str) ∈ _ from by decide +kernel) (by rfl)
    simp (decide := true) only [wp_ok, wp_bind, wp_noX, wp_mC, wp_mStr, wp_mTru, wp_mBl, wp_blOf, wp_tru_bl, wp_mBin, wp_mUn, wp_mIf, wp_mNotT, wp_mAndT, wp_mOrT, wp_mAndV, wp_mOrV, wp_mNotV, wp_mChain, wp_mChainT, wp_mNil, wp_mCons, wp_mDisp, wp_tupD, wp_lstD, wp_mSl, wp_mNoPart, wp_mPart, wp_intOf, wp_mBm, wp_mMeth, wp_dflS, wp_mIt, wp_mItA, wp_mDict, wp_mpNil, wp_mpCons, wp_mNext, wp_mYes, wp_mLc, ws_mNx, ws_mBrk, ws_mCnt, ws_mRetN, ws_mSeq, ws_mDrop, ws_mRet, ws_mIfS, ws_mAsg, wp_gNm, wp_gsNil, wp_gsCons, wp_gTp, wp_gSubS, ws_mSetI, ws_mSetF, put_some, wp_callS, ws_mFor, ws_nx, ws_ret, wp_gFld, wp_mMethKw, wp_mVar0, wp_mVarS, eqs_int, ltS, Int.cast_ofNat_Int, xf, if_true, if_false, Bool.false_eq_true]
    exact ⟨by simp [sizeLine], rfl, x1⟩
  | ⟨1, _⟩, hn1 =>
    have xf : ∀ {Q : D → Sto → Prop}, Wp (xfA xc_index "index" (.ptr n) U) Q ↔ Q w U := fun {Q} => wp_xfA hn1 (show ("NoPart" : Str) ∈ _ from by decide +kernel) (by rfl)
    simp (decide := true) only [wp_ok, wp_bind, wp_noX, wp_mC, wp_mStr, wp_mTru, wp_mBl, wp_blOf, wp_tru_bl, wp_mBin, wp_mUn, wp_mIf, wp_mNotT, wp_mAndT, wp_mOrT, wp_mAndV, wp_mOrV, wp_mNotV, wp_mChain, wp_mChainT, wp_mNil, wp_mCons, wp_mDisp, wp_tupD, wp_lstD, wp_mSl, wp_mNoPart, wp_mPart, wp_intOf, wp_mBm, wp_mMeth, wp_dflS, wp_mIt, wp_mItA, wp_mDict, wp_mpNil, wp_mpCons, wp_mNext, wp_mYes, wp_mLc, ws_mNx, ws_mBrk, ws_mCnt, ws_mRetN, ws_mSeq, ws_mDrop, ws_mRet, ws_mIfS, ws_mAsg, wp_gNm, wp_gsNil, wp_gsCons, wp_gTp, wp_gSubS, ws_mSetI, ws_mSetF, put_some, wp_callS, ws_mFor, ws_nx, ws_ret, wp_gFld, wp_mMethKw, wp_mVar0, wp_mVarS, eqs_int, ltS, Int.cast_ofNat_Int, xf, if_true, if_false, Bool.false_eq_true]
    exact ⟨by simp [sizeLine], rfl, x1⟩
  | ⟨2, _⟩, hn1 =>
    have xf : ∀ {Q : D → Sto → Prop}, Wp (xfA xc_index "index" (.ptr n) U) Q ↔ Q w U := fun {Q} => wp_xfA hn1 (show ("NoSensor" : Str) ∈ _ from by decide +kernel) (by rfl)
    simp (decide := true) only [wp_ok, wp_bind, wp_noX, wp_mC, wp_mStr, wp_mTru, wp_mBl, wp_blOf, wp_tru_bl, wp_mBin, wp_mUn, wp_mIf, wp_mNotT, wp_mAndT, wp_mOrT, wp_mAndV, wp_mOrV, wp_mNotV, wp_mChain, wp_mChainT, wp_mNil, wp_mCons, wp_mDisp, wp_tupD, wp_lstD, wp_mSl, wp_mNoPart, wp_mPart, wp_intOf, wp_mBm, wp_mMeth, wp_dflS, wp_mIt, wp_mItA, wp_mDict, wp_mpNil, wp_mpCons, wp_mNext, wp_mYes, wp_mLc, ws_mNx, ws_mBrk, ws_mCnt, ws_mRetN, ws_mSeq, ws_mDrop, ws_mRet, ws_mIfS, ws_mAsg, wp_gNm, wp_gsNil, wp_gsCons, wp_gTp, wp_gSubS, ws_mSetI, ws_mSetF, put_some, wp_callS, ws_mFor, ws_nx, ws_ret, wp_gFld, wp_mMethKw, wp_mVar0, wp_mVarS, eqs_int, ltS, Int.cast_ofNat_Int, xf, if_true, if_false, Bool.false_eq_true]
    exact ⟨by simp [sizeLine], rfl, x1⟩
  | ⟨3, _⟩, hn1 =>
    have xf : ∀ {Q : D → Sto → Prop}, Wp (xfA xc_index "index" (.ptr n) U) Q ↔ Q w U := fun {Q} => wp_xfA hn1 (show ("NoEvent" : Str) ∈ _ from by decide +kernel) (by rfl)
    simp (decide := true) only [wp_ok, wp_bind, wp_noX, wp_mC, wp_mStr, wp_mTru, wp_mBl, wp_blOf, wp_tru_bl, wp_mBin, wp_mUn, wp_mIf, wp_mNotT, wp_mAndT, wp_mOrT, wp_mAndV, wp_mOrV, wp_mNotV, wp_mChain, wp_mChainT, wp_mNil, wp_mCons, wp_mDisp, wp_tupD, wp_lstD, wp_mSl, wp_mNoPart, wp_mPart, wp_intOf, wp_mBm, wp_mMeth, wp_dflS, wp_mIt, wp_mItA, wp_mDict, wp_mpNil, wp_mpCons, wp_mNext, wp_mYes, wp_mLc, ws_mNx, ws_mBrk, ws_mCnt, ws_mRetN, ws_mSeq, ws_mDrop, ws_mRet, ws_mIfS, ws_mAsg, wp_gNm, wp_gsNil, wp_gsCons, wp_gTp, wp_gSubS, ws_mSetI, ws_mSetF, put_some, wp_callS, ws_mFor, ws_nx, ws_ret, wp_gFld, wp_mMethKw, wp_mVar0, wp_mVarS, eqs_int, ltS, Int.cast_ofNat_Int, xf, if_true, if_false, Bool.false_eq_true]
    exact ⟨by simp [sizeLine], rfl, x1⟩
  | ⟨4, _⟩, hn1 =>
    have xf : ∀ {Q : D → Sto → Prop}, Wp (xfA xc_index "index" (.ptr n) U) Q ↔ Q w U := fun {Q} => wp_xfA hn1 (show ("NoOperation" : Str) ∈ _ from by decide +kernel) (by rfl)
    simp (decide := true) only [wp_ok, wp_bind, wp_noX, wp_mC, wp_mStr, wp_mTru, wp_mBl, wp_blOf, wp_tru_bl, wp_mBin, wp_mUn, wp_mIf, wp_mNotT, wp_mAndT, wp_mOrT, wp_mAndV, wp_mOrV, wp_mNotV, wp_mChain, wp_mChainT, wp_mNil, wp_mCons, wp_mDisp, wp_tupD, wp_lstD, wp_mSl, wp_mNoPart, wp_mPart, wp_intOf, wp_mBm, wp_mMeth, wp_dflS, wp_mIt, wp_mItA, wp_mDict, wp_mpNil, wp_mpCons, wp_mNext, wp_mYes, wp_mLc, ws_mNx, ws_mBrk, ws_mCnt, ws_mRetN, ws_mSeq, ws_mDrop, ws_mRet, ws_mIfS, ws_mAsg, wp_gNm, wp_gsNil, wp_gsCons, wp_gTp, wp_gSubS, ws_mSetI, ws_mSetF, put_some, wp_callS, ws_mFor, ws_nx, ws_ret, wp_gFld, wp_mMethKw, wp_mVar0, wp_mVarS, eqs_int, ltS, Int.cast_ofNat_Int, xf, if_true, if_false, Bool.false_eq_true]
    exact ⟨by simp [sizeLine], rfl, x1⟩
  | ⟨5, _⟩, hn1 =>
    have xf : ∀ {Q : D → Sto → Prop}, Wp (xfA xc_number "number" (.ptr n) U) Q ↔ Q w U := fun {Q} => wp_xfA hn1 (show ("NoNumber" : Str) ∈ _ from by decide +kernel) (by rfl)
    simp (decide := true) only [wp_ok, wp_bind, wp_noX, wp_mC, wp_mStr, wp_mTru, wp_mBl, wp_blOf, wp_tru_bl, wp_mBin, wp_mUn, wp_mIf, wp_mNotT, wp_mAndT, wp_mOrT, wp_mAndV, wp_mOrV, wp_mNotV, wp_mChain, wp_mChainT, wp_mNil, wp_mCons, wp_mDisp, wp_tupD, wp_lstD, wp_mSl, wp_mNoPart, wp_mPart, wp_intOf, wp_mBm, wp_mMeth, wp_dflS, wp_mIt, wp_mItA, wp_mDict, wp_mpNil, wp_mpCons, wp_mNext, wp_mYes, wp_mLc, ws_mNx, ws_mBrk, ws_mCnt, ws_mRetN, ws_mSeq, ws_mDrop, ws_mRet, ws_mIfS, ws_mAsg, wp_gNm, wp_gsNil, wp_gsCons, wp_gTp, wp_gSubS, ws_mSetI, ws_mSetF, put_some, wp_callS, ws_mFor, ws_nx, ws_ret, wp_gFld, wp_mMethKw, wp_mVar0, wp_mVarS, eqs_int, ltS, Int.cast_ofNat_Int, xf, if_true, if_false, Bool.false_eq_true]
    exact ⟨by simp [sizeLine], rfl, x1⟩
  | ⟨6, _⟩, hn1 =>
    have xf : ∀ {Q : D → Sto → Prop}, Wp (xfA xc_most "most" (.ptr n) U) Q ↔ Q w U := fun {Q} => wp_xfA hn1 (show ("TooMany" : Str) ∈ _ from by decide +kernel) (by rfl)
    simp (decide := true) only [wp_ok, wp_bind, wp_noX, wp_mC, wp_mStr, wp_mTru, wp_mBl, wp_blOf, wp_tru_bl, wp_mBin, wp_mUn, wp_mIf, wp_mNotT, wp_mAndT, wp_mOrT, wp_mAndV, wp_mOrV, wp_mNotV, wp_mChain, wp_mChainT, wp_mNil, wp_mCons, wp_mDisp, wp_tupD, wp_lstD, wp_mSl, wp_mNoPart, wp_mPart, wp_intOf, wp_mBm, wp_mMeth, wp_dflS, wp_mIt, wp_mItA, wp_mDict, wp_mpNil, wp_mpCons, wp_mNext, wp_mYes, wp_mLc, ws_mNx, ws_mBrk, ws_mCnt, ws_mRetN, ws_mSeq, ws_mDrop, ws_mRet, ws_mIfS, ws_mAsg, wp_gNm, wp_gsNil, wp_gsCons, wp_gTp, wp_gSubS, ws_mSetI, ws_mSetF, put_some, wp_callS, ws_mFor, ws_nx, ws_ret, wp_gFld, wp_mMethKw, wp_mVar0, wp_mVarS, eqs_int, ltS, Int.cast_ofNat_Int, xf, if_true, if_false, Bool.false_eq_true]
    exact ⟨by simp [sizeLine], rfl, x1⟩
  | ⟨7, _⟩, hn1 =>
    have xf : ∀ {Q : D → Sto → Prop}, Wp (xfA xc_line "line" (.ptr n) U) Q ↔ Q w U := fun {Q} => wp_xfA hn1 (show ("BadText" : Str) ∈ _ from by decide +kernel) (by rfl)
    simp (decide := true) only [wp_ok, wp_bind, wp_noX, wp_mC, wp_mStr, wp_mTru, wp_mBl, wp_blOf, wp_tru_bl, wp_mBin, wp_mUn, wp_mIf, wp_mNotT, wp_mAndT, wp_mOrT, wp_mAndV, wp_mOrV, wp_mNotV, wp_mChain, wp_mChainT, wp_mNil, wp_mCons, wp_mDisp, wp_tupD, wp_lstD, wp_mSl, wp_mNoPart, wp_mPart, wp_intOf, wp_mBm, wp_mMeth, wp_dflS, wp_mIt, wp_mItA, wp_mDict, wp_mpNil, wp_mpCons, wp_mNext, wp_mYes, wp_mLc, ws_mNx, ws_mBrk, ws_mCnt, ws_mRetN, ws_mSeq, ws_mDrop, ws_mRet, ws_mIfS, ws_mAsg, wp_gNm, wp_gsNil, wp_gsCons, wp_gTp, wp_gSubS, ws_mSetI, ws_mSetF, put_some, wp_callS, ws_mFor, ws_nx, ws_ret, wp_gFld, wp_mMethKw, wp_mVar0, wp_mVarS, eqs_int, ltS, Int.cast_ofNat_Int, xf, if_true, if_false, Bool.false_eq_true]
    exact ⟨by simp [sizeLine], rfl, x1⟩
  | ⟨8, _⟩, hn1 =>
    simp (decide := true) only [wp_ok, wp_bind, wp_noX, wp_mC, wp_mStr, wp_mTru, wp_mBl, wp_blOf, wp_tru_bl, wp_mBin, wp_mUn, wp_mIf, wp_mNotT, wp_mAndT, wp_mOrT, wp_mAndV, wp_mOrV, wp_mNotV, wp_mChain, wp_mChainT, wp_mNil, wp_mCons, wp_mDisp, wp_tupD, wp_lstD, wp_mSl, wp_mNoPart, wp_mPart, wp_intOf, wp_mBm, wp_mMeth, wp_dflS, wp_mIt, wp_mItA, wp_mDict, wp_mpNil, wp_mpCons, wp_mNext, wp_mYes, wp_mLc, ws_mNx, ws_mBrk, ws_mCnt, ws_mRetN, ws_mSeq, ws_mDrop, ws_mRet, ws_mIfS, ws_mAsg, wp_gNm, wp_gsNil, wp_gsCons, wp_gTp, wp_gSubS, ws_mSetI, ws_mSetF, put_some, wp_callS, ws_mFor, ws_nx, ws_ret, wp_gFld, wp_mMethKw, wp_mVar0, wp_mVarS, eqs_int, ltS, Int.cast_ofNat_Int, if_true, if_false, Bool.false_eq_true]
    exact ⟨by simp [sizeLine], rfl, x1⟩
  | ⟨9, _⟩, hn1 =>
    simp (decide := true) only [wp_ok, wp_bind, wp_noX, wp_mC, wp_mStr, wp_mTru, wp_mBl, wp_blOf, wp_tru_bl, wp_mBin, wp_mUn, wp_mIf, wp_mNotT, wp_mAndT, wp_mOrT, wp_mAndV, wp_mOrV, wp_mNotV, wp_mChain, wp_mChainT, wp_mNil, wp_mCons, wp_mDisp, wp_tupD, wp_lstD, wp_mSl, wp_mNoPart, wp_mPart, wp_intOf, wp_mBm, wp_mMeth, wp_dflS, wp_mIt, wp_mItA, wp_mDict, wp_mpNil, wp_mpCons, wp_mNext, wp_mYes, wp_mLc, ws_mNx, ws_mBrk, ws_mCnt, ws_mRetN, ws_mSeq, ws_mDrop, ws_mRet, ws_mIfS, ws_mAsg, wp_gNm, wp_gsNil, wp_gsCons, wp_gTp, wp_gSubS, ws_mSetI, ws_mSetF, put_some, wp_callS, ws_mFor, ws_nx, ws_ret, wp_gFld, wp_mMethKw, wp_mVar0, wp_mVarS, eqs_int, ltS, Int.cast_ofNat_Int, if_true, if_false, Bool.false_eq_true]
    exact ⟨by simp [sizeLine], rfl, x1⟩
  | ⟨10, _⟩, hn1 =>
    simp (decide := true) only [wp_ok, wp_bind, wp_noX, wp_mC, wp_mStr, wp_mTru, wp_mBl, wp_blOf, wp_tru_bl, wp_mBin, wp_mUn, wp_mIf, wp_mNotT, wp_mAndT, wp_mOrT, wp_mAndV, wp_mOrV, wp_mNotV, wp_mChain, wp_mChainT, wp_mNil, wp_mCons, wp_mDisp, wp_tupD, wp_lstD, wp_mSl, wp_mNoPart, wp_mPart, wp_intOf, wp_mBm, wp_mMeth, wp_dflS, wp_mIt, wp_mItA, wp_mDict, wp_mpNil, wp_mpCons, wp_mNext, wp_mYes, wp_mLc, ws_mNx, ws_mBrk, ws_mCnt, ws_mRetN, ws_mSeq, ws_mDrop, ws_mRet, ws_mIfS, ws_mAsg, wp_gNm, wp_gsNil, wp_gsCons, wp_gTp, wp_gSubS, ws_mSetI, ws_mSetF, put_some, wp_callS, ws_mFor, ws_nx, ws_ret, wp_gFld, wp_mMethKw, wp_mVar0, wp_mVarS, eqs_int, ltS, Int.cast_ofNat_Int, if_true, if_false, Bool.false_eq_true]
    exact ⟨by simp [sizeLine], rfl, x1⟩
  | ⟨11, _⟩, hn1 =>
    simp (decide := true) only [wp_ok, wp_bind, wp_noX, wp_mC, wp_mStr, wp_mTru, wp_mBl, wp_blOf, wp_tru_bl, wp_mBin, wp_mUn, wp_mIf, wp_mNotT, wp_mAndT, wp_mOrT, wp_mAndV, wp_mOrV, wp_mNotV, wp_mChain, wp_mChainT, wp_mNil, wp_mCons, wp_mDisp, wp_tupD, wp_lstD, wp_mSl, wp_mNoPart, wp_mPart, wp_intOf, wp_mBm, wp_mMeth, wp_dflS, wp_mIt, wp_mItA, wp_mDict, wp_mpNil, wp_mpCons, wp_mNext, wp_mYes, wp_mLc, ws_mNx, ws_mBrk, ws_mCnt, ws_mRetN, ws_mSeq, ws_mDrop, ws_mRet, ws_mIfS, ws_mAsg, wp_gNm, wp_gsNil, wp_gsCons, wp_gTp, wp_gSubS, ws_mSetI, ws_mSetF, put_some, wp_callS, ws_mFor, ws_nx, ws_ret, wp_gFld, wp_mMethKw, wp_mVar0, wp_mVarS, eqs_int, ltS, Int.cast_ofNat_Int, if_true, if_false, Bool.false_eq_true]
    exact ⟨by simp [sizeLine], rfl, x1⟩
end K01
/-! G04 -/
set_option Elab.async false
set_option autoImplicit false
set_option linter.all false
set_option maxRecDepth 100000
set_option maxHeartbeats 1000000
namespace K01
open PySem PySem.Spec L2 MP

/-! raising, catching -/
section
variable {F : Exn → Rho → Sto → Prop} {N B C : Rho → Sto → Prop} {R : D → Sto → Prop} {a b : Str} {w : D} {X rest : MS} {S : Sto}
theorem skip_w (hb : okS b) (hab : decide (a = b) = false) (h : WpY F (rest [some (.str a), some w] S) N B C R) : WpY F (mSeq (mIfS (mBl (mBin eqS (mVar 0) (mStr b))) X mNx) rest [some (.str a), some w] S) N B C R := by
  rw [wy_mSeq, wy_mIfS]
  refine Wp.x ?_
  simp only [wp_ok, wp_bind, wp_noX, wp_mC, wp_mStr, wp_mTru, wp_mBl, wp_blOf, wp_tru_bl, wp_mBin, wp_mUn, wp_mIf, wp_mNotT, wp_mAndT, wp_mOrT, wp_mAndV, wp_mOrV, wp_mNotV, wp_mChain, wp_mChainT, wp_mNil, wp_mCons, wp_mDisp, wp_tupD, wp_lstD, wp_mSl, wp_mNoPart, wp_mPart, wp_intOf, wp_mBm, wp_mMeth, wp_dflS, wp_mIt, wp_mItA, wp_mDict, wp_mpNil, wp_mpCons, wp_mNext, wp_mYes, wp_mLc, ws_mNx, ws_mBrk, ws_mCnt, ws_mRetN, ws_mSeq, ws_mDrop, ws_mRet, ws_mIfS, ws_mAsg, wp_gNm, wp_gsNil, wp_gsCons, wp_gTp, wp_gSubS, ws_mSetI, ws_mSetF, put_some, wp_callS, ws_mFor, ws_nx, ws_ret, wp_gFld, wp_mMethKw, wp_mVar0, wp_mVarS]
  refine ⟨hb, ?_⟩
  rw [eqs_str, wp_blOf, hab]
  exact h
theorem take_w (hb : okS a) (h : WpY F (X [some (.str a), some w] S) (fun ρ1 S1 => WpY F (rest ρ1 S1) N B C R) B C R) : WpY F (mSeq (mIfS (mBl (mBin eqS (mVar 0) (mStr a))) X mNx) rest [some (.str a), some w] S) N B C R := by
  rw [wy_mSeq, wy_mIfS]
  refine Wp.x ?_
  simp only [wp_ok, wp_bind, wp_noX, wp_mC, wp_mStr, wp_mTru, wp_mBl, wp_blOf, wp_tru_bl, wp_mBin, wp_mUn, wp_mIf, wp_mNotT, wp_mAndT, wp_mOrT, wp_mAndV, wp_mOrV, wp_mNotV, wp_mChain, wp_mChainT, wp_mNil, wp_mCons, wp_mDisp, wp_tupD, wp_lstD, wp_mSl, wp_mNoPart, wp_mPart, wp_intOf, wp_mBm, wp_mMeth, wp_dflS, wp_mIt, wp_mItA, wp_mDict, wp_mpNil, wp_mpCons, wp_mNext, wp_mYes, wp_mLc, ws_mNx, ws_mBrk, ws_mCnt, ws_mRetN, ws_mSeq, ws_mDrop, ws_mRet, ws_mIfS, ws_mAsg, wp_gNm, wp_gsNil, wp_gsCons, wp_gTp, wp_gSubS, ws_mSetI, ws_mSetF, put_some, wp_callS, ws_mFor, ws_nx, ws_ret, wp_gFld, wp_mMethKw, wp_mVar0, wp_mVarS]
  refine ⟨hb, ?_⟩
  rw [eqs_str, wp_blOf, decide_eq_true rfl]
  exact h
end
theorem WpY.s {r : Rs Fl} {N B C : Rho → Sto → Prop} {R : D → Sto → Prop} (h : WpY (fun _ _ _ => False) r N B C R) : WpS r N B C R := by
  cases r with
  | ok f S =>
    cases f with
    | exn _ _ => exact h.elim
    | _ => exact ⟨_, _, rfl, h⟩
  | exn _ _ => exact h.elim
  | bad => exact h.elim
theorem caught_ok {T : Sto} {n : Nat} {th : Th} {Q : D → Sto → Prop} (h : WpX (fun x T1 => sub_FaultError x.cls = true ∧ Q (.ptr T1.length) (T1 ++ [O.exc x.cls x.fs])) (th T) fun _ _ => False) :
    Wp (callS N__law_caught.length (m__law_caught n th) [.ptr n] T) Q := by
  rw [wp_callS]
  refine WpY.s ?_
  unfold m__law_caught
  simp only [List.map, List.length, List.replicate, List.cons_append, List.nil_append, N__law_caught]
  rw [wy_mSeq, wy_mAsg]
  refine Wp.x ?_
  simp only [wp_ok, wp_bind, wp_noX, wp_mC, wp_mStr, wp_mTru, wp_mBl, wp_blOf, wp_tru_bl, wp_mBin, wp_mUn, wp_mIf, wp_mNotT, wp_mAndT, wp_mOrT, wp_mAndV, wp_mOrV, wp_mNotV, wp_mChain, wp_mChainT, wp_mNil, wp_mCons, wp_mDisp, wp_tupD, wp_lstD, wp_mSl, wp_mNoPart, wp_mPart, wp_intOf, wp_mBm, wp_mMeth, wp_dflS, wp_mIt, wp_mItA, wp_mDict, wp_mpNil, wp_mpCons, wp_mNext, wp_mYes, wp_mLc, ws_mNx, ws_mBrk, ws_mCnt, ws_mRetN, ws_mSeq, ws_mDrop, ws_mRet, ws_mIfS, ws_mAsg, wp_gNm, wp_gsNil, wp_gsCons, wp_gTp, wp_gSubS, ws_mSetI, ws_mSetF, put_some, wp_callS, ws_mFor, ws_nx, ws_ret, wp_gFld, wp_mMethKw, List.set]
  rw [wy_mSeq, wy_mTry, wy_mDrop, wx_mThk rfl]
  refine h.impE (fun d T1 q => q.elim) fun x T1 ⟨e, q⟩ => ?_
  rw [if_pos e]
  simp only [wp_ok, wp_bind, wp_noX, wp_mC, wp_mStr, wp_mTru, wp_mBl, wp_blOf, wp_tru_bl, wp_mBin, wp_mUn, wp_mIf, wp_mNotT, wp_mAndT, wp_mOrT, wp_mAndV, wp_mOrV, wp_mNotV, wp_mChain, wp_mChainT, wp_mNil, wp_mCons, wp_mDisp, wp_tupD, wp_lstD, wp_mSl, wp_mNoPart, wp_mPart, wp_intOf, wp_mBm, wp_mMeth, wp_dflS, wp_mIt, wp_mItA, wp_mDict, wp_mpNil, wp_mpCons, wp_mNext, wp_mYes, wp_mLc, ws_mNx, ws_mBrk, ws_mCnt, ws_mRetN, ws_mSeq, ws_mDrop, ws_mRet, ws_mIfS, ws_mAsg, wp_gNm, wp_gsNil, wp_gsCons, wp_gTp, wp_gSubS, ws_mSetI, ws_mSetF, put_some, wp_callS, ws_mFor, ws_nx, ws_ret, wp_gFld, wp_mMethKw, List.set, wp_mVar0, wp_mVarS]
  rw [wy_mRet]
  refine Wp.x ?_
  simp only [wp_mVar0, wp_mVarS, List.set]
  exact q
theorem strA_ok {S : Sto} {w : D} {p : PyData} (hv : view S 60 w = some p) (h1 : p.showable = true) (h2 : okS p.shown) : ∃ z, strA [w] S = .ok (.str z) S := by
  have e : reprS [w] S = .ok (.str p.shown) S := by simp only [reprS, hv, h1, h2, and_self, if_true]
  cases w with
  | str z => exact ⟨_, rfl⟩
  | _ => exact ⟨_, e⟩
theorem raised_ok {S : Sto} {w : D} {p : PyData} (i : Fin 12) (hv : view S 60 w = some p) (h1 : p.showable = true ∧ okS p.shown ∧ p.shown.length ≤ 5000) :
    WpX (fun x T => x.cls = cl12 i.val ∧ x.fs = fs12 w i.val ∧ T = S) (f__law_raised [.str (wd12 i.val), w] S) fun _ _ => False := by
  obtain ⟨z, hz⟩ := strA_ok hv h1.1 h1.2.1
  unfold f__law_raised
  rw [wx_callS]
  simp only [List.map, List.length, List.replicate, List.cons_append, List.nil_append, N__law_raised]
  match i with
  | ⟨0, _⟩ =>
    refine take_w ok_plant ?_
    rw [wy_mRaiseV, wx_mVar rfl]
    exact ⟨p, hv, h1, rfl, rfl, rfl⟩
  | ⟨1, _⟩ =>
    refine skip_w ok_plant (by show decide ((wd12 1 : Str) = "plant") = false; decide +kernel) ?_
    refine take_w ok_part ?_
    rw [wy_mRaiseV, wx_mVar rfl]
    exact ⟨p, hv, h1, rfl, rfl, rfl⟩
  | ⟨2, _⟩ =>
    refine skip_w ok_plant (by show decide ((wd12 2 : Str) = "plant") = false; decide +kernel) ?_
    refine skip_w ok_part (by show decide ((wd12 2 : Str) = "part") = false; decide +kernel) ?_
    refine take_w ok_sensor ?_
    rw [wy_mRaiseV, wx_mVar rfl]
    exact ⟨p, hv, h1, rfl, rfl, rfl⟩
  | ⟨3, _⟩ =>
    refine skip_w ok_plant (by show decide ((wd12 3 : Str) = "plant") = false; decide +kernel) ?_
    refine skip_w ok_part (by show decide ((wd12 3 : Str) = "part") = false; decide +kernel) ?_
    refine skip_w ok_sensor (by show decide ((wd12 3 : Str) = "sensor") = false; decide +kernel) ?_
    refine take_w ok_event ?_
    rw [wy_mRaiseV, wx_mVar rfl]
    exact ⟨p, hv, h1, rfl, rfl, rfl⟩
  | ⟨4, _⟩ =>
    refine skip_w ok_plant (by show decide ((wd12 4 : Str) = "plant") = false; decide +kernel) ?_
    refine skip_w ok_part (by show decide ((wd12 4 : Str) = "part") = false; decide +kernel) ?_
    refine skip_w ok_sensor (by show decide ((wd12 4 : Str) = "sensor") = false; decide +kernel) ?_
    refine skip_w ok_event (by show decide ((wd12 4 : Str) = "event") = false; decide +kernel) ?_
    refine take_w ok_operation ?_
    rw [wy_mRaiseV, wx_mVar rfl]
    exact ⟨p, hv, h1, rfl, rfl, rfl⟩
  | ⟨5, _⟩ =>
    refine skip_w ok_plant (by show decide ((wd12 5 : Str) = "plant") = false; decide +kernel) ?_
    refine skip_w ok_part (by show decide ((wd12 5 : Str) = "part") = false; decide +kernel) ?_
    refine skip_w ok_sensor (by show decide ((wd12 5 : Str) = "sensor") = false; decide +kernel) ?_
    refine skip_w ok_event (by show decide ((wd12 5 : Str) = "event") = false; decide +kernel) ?_
    refine skip_w ok_operation (by show decide ((wd12 5 : Str) = "operation") = false; decide +kernel) ?_
    refine take_w ok_number ?_
    rw [wy_mRaiseV, wx_mVar rfl]
    exact ⟨p, hv, h1, rfl, rfl, rfl⟩
  | ⟨6, _⟩ =>
    refine skip_w ok_plant (by show decide ((wd12 6 : Str) = "plant") = false; decide +kernel) ?_
    refine skip_w ok_part (by show decide ((wd12 6 : Str) = "part") = false; decide +kernel) ?_
    refine skip_w ok_sensor (by show decide ((wd12 6 : Str) = "sensor") = false; decide +kernel) ?_
    refine skip_w ok_event (by show decide ((wd12 6 : Str) = "event") = false; decide +kernel) ?_
    refine skip_w ok_operation (by show decide ((wd12 6 : Str) = "operation") = false; decide +kernel) ?_
    refine skip_w ok_number (by show decide ((wd12 6 : Str) = "number") = false; decide +kernel) ?_
    refine take_w ok_many ?_
    rw [wy_mRaiseV, wx_mVar rfl]
    exact ⟨p, hv, h1, rfl, rfl, rfl⟩
  | ⟨7, _⟩ =>
    refine skip_w ok_plant (by show decide ((wd12 7 : Str) = "plant") = false; decide +kernel) ?_
    refine skip_w ok_part (by show decide ((wd12 7 : Str) = "part") = false; decide +kernel) ?_
    refine skip_w ok_sensor (by show decide ((wd12 7 : Str) = "sensor") = false; decide +kernel) ?_
    refine skip_w ok_event (by show decide ((wd12 7 : Str) = "event") = false; decide +kernel) ?_
    refine skip_w ok_operation (by show decide ((wd12 7 : Str) = "operation") = false; decide +kernel) ?_
    refine skip_w ok_number (by show decide ((wd12 7 : Str) = "number") = false; decide +kernel) ?_
    refine skip_w ok_many (by show decide ((wd12 7 : Str) = "many") = false; decide +kernel) ?_
    refine take_w ok_text ?_
    rw [wy_mRaiseV, wx_mVar rfl]
    exact ⟨p, hv, h1, rfl, rfl, rfl⟩
  | ⟨8, _⟩ =>
    refine skip_w ok_plant (by show decide ((wd12 8 : Str) = "plant") = false; decide +kernel) ?_
    refine skip_w ok_part (by show decide ((wd12 8 : Str) = "part") = false; decide +kernel) ?_
    refine skip_w ok_sensor (by show decide ((wd12 8 : Str) = "sensor") = false; decide +kernel) ?_
    refine skip_w ok_event (by show decide ((wd12 8 : Str) = "event") = false; decide +kernel) ?_
    refine skip_w ok_operation (by show decide ((wd12 8 : Str) = "operation") = false; decide +kernel) ?_
    refine skip_w ok_number (by show decide ((wd12 8 : Str) = "number") = false; decide +kernel) ?_
    refine skip_w ok_many (by show decide ((wd12 8 : Str) = "many") = false; decide +kernel) ?_
    refine skip_w ok_text (by show decide ((wd12 8 : Str) = "text") = false; decide +kernel) ?_
    refine take_w ok_odds ?_
    rw [wy_mRaiseS]
    rw [wx_mDisp, wx_mCons, wx_mVar rfl, wx_mNil, hz]
    exact ⟨rfl, rfl, rfl⟩
  | ⟨9, _⟩ =>
    refine skip_w ok_plant (by show decide ((wd12 9 : Str) = "plant") = false; decide +kernel) ?_
    refine skip_w ok_part (by show decide ((wd12 9 : Str) = "part") = false; decide +kernel) ?_
    refine skip_w ok_sensor (by show decide ((wd12 9 : Str) = "sensor") = false; decide +kernel) ?_
    refine skip_w ok_event (by show decide ((wd12 9 : Str) = "event") = false; decide +kernel) ?_
    refine skip_w ok_operation (by show decide ((wd12 9 : Str) = "operation") = false; decide +kernel) ?_
    refine skip_w ok_number (by show decide ((wd12 9 : Str) = "number") = false; decide +kernel) ?_
    refine skip_w ok_many (by show decide ((wd12 9 : Str) = "many") = false; decide +kernel) ?_
    refine skip_w ok_text (by show decide ((wd12 9 : Str) = "text") = false; decide +kernel) ?_
    refine skip_w ok_odds (by show decide ((wd12 9 : Str) = "odds") = false; decide +kernel) ?_
    refine take_w ok_machine ?_
    rw [wy_mRaiseS]
    rw [wx_mDisp, wx_mCons, wx_mVar rfl, wx_mNil, hz]
    exact ⟨rfl, rfl, rfl⟩
  | ⟨10, _⟩ =>
    refine skip_w ok_plant (by show decide ((wd12 10 : Str) = "plant") = false; decide +kernel) ?_
    refine skip_w ok_part (by show decide ((wd12 10 : Str) = "part") = false; decide +kernel) ?_
    refine skip_w ok_sensor (by show decide ((wd12 10 : Str) = "sensor") = false; decide +kernel) ?_
    refine skip_w ok_event (by show decide ((wd12 10 : Str) = "event") = false; decide +kernel) ?_
    refine skip_w ok_operation (by show decide ((wd12 10 : Str) = "operation") = false; decide +kernel) ?_
    refine skip_w ok_number (by show decide ((wd12 10 : Str) = "number") = false; decide +kernel) ?_
    refine skip_w ok_many (by show decide ((wd12 10 : Str) = "many") = false; decide +kernel) ?_
    refine skip_w ok_text (by show decide ((wd12 10 : Str) = "text") = false; decide +kernel) ?_
    refine skip_w ok_odds (by show decide ((wd12 10 : Str) = "odds") = false; decide +kernel) ?_
    refine skip_w ok_machine (by show decide ((wd12 10 : Str) = "machine") = false; decide +kernel) ?_
    refine take_w ok_match ?_
    rw [wy_mRaiseS]
    rw [wx_mDisp, wx_mCons, wx_mVar rfl, wx_mNil, hz]
    exact ⟨rfl, rfl, rfl⟩
  | ⟨11, _⟩ =>
    refine skip_w ok_plant (by show decide ((wd12 11 : Str) = "plant") = false; decide +kernel) ?_
    refine skip_w ok_part (by show decide ((wd12 11 : Str) = "part") = false; decide +kernel) ?_
    refine skip_w ok_sensor (by show decide ((wd12 11 : Str) = "sensor") = false; decide +kernel) ?_
    refine skip_w ok_event (by show decide ((wd12 11 : Str) = "event") = false; decide +kernel) ?_
    refine skip_w ok_operation (by show decide ((wd12 11 : Str) = "operation") = false; decide +kernel) ?_
    refine skip_w ok_number (by show decide ((wd12 11 : Str) = "number") = false; decide +kernel) ?_
    refine skip_w ok_many (by show decide ((wd12 11 : Str) = "many") = false; decide +kernel) ?_
    refine skip_w ok_text (by show decide ((wd12 11 : Str) = "text") = false; decide +kernel) ?_
    refine skip_w ok_odds (by show decide ((wd12 11 : Str) = "odds") = false; decide +kernel) ?_
    refine skip_w ok_machine (by show decide ((wd12 11 : Str) = "machine") = false; decide +kernel) ?_
    refine skip_w ok_match (by show decide ((wd12 11 : Str) = "match") = false; decide +kernel) ?_
    rw [wy_mRaiseS]
    rw [wx_mDisp, wx_mCons, wx_mVar rfl, wx_mNil, hz]
    exact ⟨rfl, rfl, rfl⟩
end K01
/-! G05 -/
set_option Elab.async false
set_option autoImplicit false
set_option linter.all false
set_option maxRecDepth 100000
set_option maxHeartbeats 1000000
namespace K01
open PySem PySem.Spec L2 MP

/-! the values that the errors carry -/
structure PW (p : PyData) : Prop where
  sh : p.showable = true
  ok : okS p.shown
  ln : p.shown.length ≤ 5000
  tp : ∀ i : Fin 12, (PyData.tuple [.int (i.val : Nat), p]).showable = true ∧ okS (PyData.tuple [.int (i.val : Nat), p]).shown
theorem pw_none : PW .none := ⟨by decide +kernel, by decide +kernel, by decide +kernel, by decide +kernel⟩
theorem pw_true : PW (.bool true) := ⟨by decide +kernel, by decide +kernel, by decide +kernel, by decide +kernel⟩
theorem pw_m1 : PW (.int (-1)) := ⟨by decide +kernel, by decide +kernel, by decide +kernel, by decide +kernel⟩
theorem pw_a : PW (.str "a") := ⟨by decide +kernel, by decide +kernel, by decide +kernel, by decide +kernel⟩
theorem pw_t : PW (.tuple [.int 1, .str "b"]) := ⟨by decide +kernel, by decide +kernel, by decide +kernel, by decide +kernel⟩
theorem pw_l : PW (.list [.int 2]) := ⟨by decide +kernel, by decide +kernel, by decide +kernel, by decide +kernel⟩
theorem pw_n1 : ∀ n : Fin 99, (PyData.int (n.val : Nat)).showable = true ∧ okS (PyData.int (n.val : Nat)).shown ∧ (PyData.int (n.val : Nat)).shown.length ≤ 5000 := by decide +kernel
theorem pw_n2 : ∀ n : Fin 99, ∀ i : Fin 12, (PyData.tuple [.int (i.val : Nat), .int (n.val : Nat)]).showable = true ∧ okS (PyData.tuple [.int (i.val : Nat), .int (n.val : Nat)]).shown := by decide +kernel
theorem pw_i {i : Int} (h0 : 0 ≤ i) (h1 : i < 99) : PW (.int i) := by
  obtain ⟨n, rfl⟩ := Int.eq_ofNat_of_zero_le h0
  have hn : n < 99 := by omega
  exact ⟨(pw_n1 ⟨n, hn⟩).1, (pw_n1 ⟨n, hn⟩).2.1, (pw_n1 ⟨n, hn⟩).2.2, fun i => pw_n2 ⟨n, hn⟩ i⟩
/-- w looks like p, from S on -/
def Vw1 (S : Sto) (w : D) (p : PyData) : Prop := ∀ T, Ext [] S T → view T 60 w = some p ∧ view T 59 w = some p
theorem Vw1.ext {S S' : Sto} {w : D} {p : PyData} (h : Vw1 S w p) (x : Ext [] S S') : Vw1 S' w p := fun T y => h T (x.trans y)
theorem worth_of {S : Sto} {w : D} {i : Int} {L : Nat} (h0 : 0 ≤ i) (h1 : i < 99) (hL : S[L]? = some (.lst [.int 2])) (hw : w ∈ [D.non, .int 0, .int i, .str "a", .tup [.int 1, .str "b"], .bl true, .int (-1), .ptr L]) : ∃ p, PW p ∧ Vw1 S w p := by
  simp only [List.mem_cons, List.not_mem_nil, or_false] at hw
  rcases hw with rfl | rfl | rfl | rfl | rfl | rfl | rfl | rfl
  · exact ⟨_, pw_none, fun T _ => ⟨rfl, rfl⟩⟩
  · exact ⟨_, pw_i (i := 0) (by decide) (by decide), fun T _ => ⟨rfl, rfl⟩⟩
  · exact ⟨_, pw_i h0 h1, fun T _ => ⟨rfl, rfl⟩⟩
  · exact ⟨_, pw_a, fun T _ => ⟨rfl, rfl⟩⟩
  · exact ⟨_, pw_t, fun T _ => ⟨rfl, rfl⟩⟩
  · exact ⟨_, pw_true, fun T _ => ⟨rfl, rfl⟩⟩
  · exact ⟨_, pw_m1, fun T _ => ⟨rfl, rfl⟩⟩
  · refine ⟨_, pw_l, fun T y => ?_⟩
    have h := y.get _ _ hL (by simp)
    exact ⟨by simp [view, listAt, h], by simp [view, listAt, h]⟩
/-- repr of what is read of an error -/
theorem repr_rd {S : Sto} {w : D} {p : PyData} (i : Fin 12) (hp : PW p) (hv : Vw1 S w p) : ∃ z, ∀ T, Ext [] S T → reprS [rd12 w i.val] T = .ok (.str z) T := by
  by_cases hi : i.val < 8
  · refine ⟨(PyData.tuple [.int (i.val : Nat), p]).shown, fun T y => ?_⟩
    have e : view T 60 (rd12 w i.val) = some (.tuple [.int (i.val : Nat), p]) := by
      have q := (hv T y).2
      rw [rd12, if_pos hi, show view T 60 (.tup [.int (i.val : Nat), w]) = ([D.int (i.val : Nat), w].mapM (view T 59)).map .tuple from rfl]
      simp [List.mapM_cons, q, view]
    simp only [reprS, e, hp.tp i, and_self, if_true]
  · refine ⟨(PyData.tuple [.int (i.val : Nat), .none]).shown, fun T y => ?_⟩
    have e : view T 60 (rd12 w i.val) = some (.tuple [.int (i.val : Nat), .none]) := by
      rw [rd12, if_neg hi, show view T 60 (.tup [.int (i.val : Nat), .non]) = ([D.int (i.val : Nat), .non].mapM (view T 59)).map .tuple from rfl]
      simp [List.mapM_cons, view]
    simp only [reprS, e, pw_none.tp i, and_self, if_true]
end K01
/-! G06 -/
set_option Elab.async false
set_option autoImplicit false
set_option linter.all false
set_option maxRecDepth 100000
set_option maxHeartbeats 1000000
namespace K01
open PySem PySem.Spec L2 MP
def wdL (i k : Nat) : List D := (List.range' i k).map fun j => .str (wd12 j)
theorem Draw.lt {p q r : Nat} {S : Sto} (h : Draw p q r S) : p < S.length ∧ q < S.length ∧ r < S.length := by
  obtain ⟨_, _, _, xs, cs, rest, turn, mix, h1, h2, h3, _⟩ := h
  exact ⟨lt_of_get h1, lt_of_get h2, lt_of_get h3⟩
theorem ok_b : okS "b" := by decide +kernel
theorem ok_a : okS "a" := by decide +kernel
theorem law_ok {xs : List Int} (hl : xs.length ≤ 63) : Wp (f_law [.ptr 0] [.rol (xs.map D.int)]) fun d S' => d = .bl true := by
  unfold f_law
  rw [wp_callS]
  simp only [List.map, List.length, List.replicate, List.cons_append, List.nil_append, N_law]
  refine ws_cut (fun ρ1 S1 => ∃ p q r, ρ1 = [some (.ptr 0), some (.ptr p), none, none, none, none, none, none] ∧ Draw p q r S1 ∧ S1[0]? = some (.rol (xs.map D.int))) ?_ ?_
  · simp only [wp_ok, wp_bind, wp_noX, wp_mC, wp_mStr, wp_mTru, wp_mBl, wp_blOf, wp_tru_bl, wp_mBin, wp_mUn, wp_mIf, wp_mNotT, wp_mAndT, wp_mOrT, wp_mAndV, wp_mOrV, wp_mNotV, wp_mChain, wp_mChainT, wp_mNil, wp_mCons, wp_mDisp, wp_tupD, wp_lstD, wp_mSl, wp_mNoPart, wp_mPart, wp_intOf, wp_mBm, wp_mMeth, wp_dflS, wp_mIt, wp_mItA, wp_mDict, wp_mpNil, wp_mpCons, wp_mNext, wp_mYes, wp_mLc, ws_mNx, ws_mBrk, ws_mCnt, ws_mRetN, ws_mSeq, ws_mDrop, ws_mRet, ws_mIfS, ws_mAsg, wp_gNm, wp_gsNil, wp_gsCons, wp_gTp, wp_gSubS, ws_mSetI, ws_mSetF, put_some, wp_callS, ws_mFor, ws_nx, ws_ret, wp_gFld, wp_mMethKw, wp_mVar0, wp_mVarS, List.set, List.append_nil, List.length_cons, List.length_nil, Nat.zero_add, Nat.add_zero, Nat.reduceAdd, true_and]
    exact (begin_ok hl).imp fun d S1 ⟨p, q, r, ed, hd, e0, _, _⟩ => ⟨p, q, r, by rw [ed], hd, e0⟩
  rintro ρ1 S1 ⟨p, q, r, rfl, hd, e0⟩
  refine ws_cut (fun ρ1 T => ∃ W, ρ1 = [some (.ptr 0), some (.ptr p), some (.ptr W), none, none, none, none, none] ∧ Draw p q r T ∧ T[0]? = some (.rol (xs.map D.int)) ∧ T[W]? = some (.lst [.str "plant", .str "part", .str "sensor", .str "event", .str "operation", .str "number", .str "many", .str "text"])) ?_ ?_
  · simp only [wp_ok, wp_bind, wp_noX, wp_mC, wp_mStr, wp_mTru, wp_mBl, wp_blOf, wp_tru_bl, wp_mBin, wp_mUn, wp_mIf, wp_mNotT, wp_mAndT, wp_mOrT, wp_mAndV, wp_mOrV, wp_mNotV, wp_mChain, wp_mChainT, wp_mNil, wp_mCons, wp_mDisp, wp_tupD, wp_lstD, wp_mSl, wp_mNoPart, wp_mPart, wp_intOf, wp_mBm, wp_mMeth, wp_dflS, wp_mIt, wp_mItA, wp_mDict, wp_mpNil, wp_mpCons, wp_mNext, wp_mYes, wp_mLc, ws_mNx, ws_mBrk, ws_mCnt, ws_mRetN, ws_mSeq, ws_mDrop, ws_mRet, ws_mIfS, ws_mAsg, wp_gNm, wp_gsNil, wp_gsCons, wp_gTp, wp_gSubS, ws_mSetI, ws_mSetF, put_some, wp_callS, ws_mFor, ws_nx, ws_ret, wp_gFld, wp_mMethKw, wp_mVar0, wp_mVarS, List.set, List.append_nil, List.length_cons, List.length_nil, Nat.zero_add, Nat.add_zero, Nat.reduceAdd, true_and]
    exact ⟨ok_plant, ok_part, ok_sensor, ok_event, ok_operation, ok_number, ok_many, ok_text, by simp [sizeLine], _, rfl, hd.ext (Ext.push _), get_old e0, get_push⟩
  clear hd e0 S1
  rintro ρ1 S1 ⟨W0, rfl, hd, e0, eW⟩
  refine ws_cut (fun ρ1 T => ∃ W, ρ1 = [some (.ptr 0), some (.ptr p), some (.ptr W), none, none, none, none, none] ∧ Draw p q r T ∧ T[0]? = some (.rol (xs.map D.int)) ∧ T[W]? = some (.lst (wdL 0 12)) ∧ W ≠ p ∧ W ≠ q) ?_ ?_
  · simp only [wp_ok, wp_bind, wp_noX, wp_mC, wp_mStr, wp_mTru, wp_mBl, wp_blOf, wp_tru_bl, wp_mBin, wp_mUn, wp_mIf, wp_mNotT, wp_mAndT, wp_mOrT, wp_mAndV, wp_mOrV, wp_mNotV, wp_mChain, wp_mChainT, wp_mNil, wp_mCons, wp_mDisp, wp_tupD, wp_lstD, wp_mSl, wp_mNoPart, wp_mPart, wp_intOf, wp_mBm, wp_mMeth, wp_dflS, wp_mIt, wp_mItA, wp_mDict, wp_mpNil, wp_mpCons, wp_mNext, wp_mYes, wp_mLc, ws_mNx, ws_mBrk, ws_mCnt, ws_mRetN, ws_mSeq, ws_mDrop, ws_mRet, ws_mIfS, ws_mAsg, wp_gNm, wp_gsNil, wp_gsCons, wp_gTp, wp_gSubS, ws_mSetI, ws_mSetF, put_some, wp_callS, ws_mFor, ws_nx, ws_ret, wp_gFld, wp_mMethKw, wp_mVar0, wp_mVarS, List.set, List.append_nil, List.length_cons, List.length_nil, Nat.zero_add, Nat.add_zero, Nat.reduceAdd, true_and]
    refine ⟨ok_odds, ok_machine, ok_match, ok_left, by simp [sizeLine], ?_⟩
    rw [add_ll (get_old eW) get_push (by simp)]
    have lt := hd.lt
    exact ⟨_, rfl, (hd.ext (Ext.push _)).ext (Ext.push _), get_old (get_old e0), get_push, by simp; omega, by simp; omega⟩
  clear hd e0 eW S1 W0
  rintro ρ1 S1 ⟨W, rfl, hd, e0, eW, nW⟩
  refine ws_cut (fun ρ1 S1 => True) ?_ (fun ρ1 S1 _ => by simp only [wp_ok, wp_bind, wp_noX, wp_mC, wp_mStr, wp_mTru, wp_mBl, wp_blOf, wp_tru_bl, wp_mBin, wp_mUn, wp_mIf, wp_mNotT, wp_mAndT, wp_mOrT, wp_mAndV, wp_mOrV, wp_mNotV, wp_mChain, wp_mChainT, wp_mNil, wp_mCons, wp_mDisp, wp_tupD, wp_lstD, wp_mSl, wp_mNoPart, wp_mPart, wp_intOf, wp_mBm, wp_mMeth, wp_dflS, wp_mIt, wp_mItA, wp_mDict, wp_mpNil, wp_mpCons, wp_mNext, wp_mYes, wp_mLc, ws_mNx, ws_mBrk, ws_mCnt, ws_mRetN, ws_mSeq, ws_mDrop, ws_mRet, ws_mIfS, ws_mAsg, wp_gNm, wp_gsNil, wp_gsCons, wp_gTp, wp_gSubS, ws_mSetI, ws_mSetF, put_some, wp_callS, ws_mFor, ws_nx, ws_ret, wp_gFld, wp_mMethKw])
  rw [ws_mFor]
  have hlen : lenS [.ptr 0] S1 = .ok (.int (xs.map D.int).length) S1 := by simp only [lenS, listAt, e0]
  simp only [wp_mItA, wp_mCons, wp_mBin, wp_mC, wp_mDisp, wp_mNil, wp_mVar0, wp_mVarS, hlen, wp_ok, min2S, adds_int]
  rw [rng_ok (by split <;> omega) (by split <;> omega), wp_ok]
  refine ws_forL (I := fun ds ρ S => ∃ o3 o4 o5 o6 o7, ρ = [some (.ptr 0), some (.ptr p), some (.ptr W), o3, o4, o5, o6, o7] ∧ Draw p q r S ∧ S[W]? = some (.lst (wdL 0 12))) ?_ (fun ρ S _ => ⟨rfl, _, rfl, trivial⟩) _ _ _ ⟨_, _, _, _, _, rfl, hd, eW⟩
  clear hd e0 hlen eW S1
  rintro d ds ρ S ⟨o3, o4, o5, o6, o7, rfl, hd, eW⟩
  refine ⟨rfl, ?_⟩
  rw [wp_gNm]
  simp only [List.set]
  have hsrc : ∀ T : Sto, T[W]? = some (.lst (wdL 0 12)) → enumA [.ptr W] T = .ok ⟨enumL 0 (wdL 0 12), fun S => decide (listAt S W = some (wdL 0 12)), some⟩ T := fun T h => by simp only [enumA, enumS, listAt, h]
  rw [ws_mFor]
  simp only [wp_mItA, wp_mCons, wp_mNil, wp_mVar0, wp_mVarS, hsrc S eW, wp_ok]
  refine ws_forL (I := fun ds ρ T => ∃ i k o4 o5 o6 o7, i + k = 12 ∧ ds = enumL (i : Nat) (wdL i k) ∧ ρ = [some (.ptr 0), some (.ptr p), some (.ptr W), some d, o4, o5, o6, o7] ∧ Draw p q r T ∧ T[W]? = some (.lst (wdL 0 12))) ?_ ?_ _ _ _ ⟨0, 12, _, _, _, _, rfl, rfl, rfl, hd, eW⟩
  rotate_left
  · rintro ρ T ⟨i, k, o4, o5, o6, o7, _, _, rfl, hd, eW⟩
    exact ⟨by simp [listAt, eW], T, rfl, _, _, _, _, _, rfl, hd, eW⟩
  clear hd eW o4 o5 o6 o7 S
  rintro dd ds2 ρ T ⟨i, k, o4, o5, o6, o7, hik, ed, rfl, hd, eW⟩
  match k, hik, ed with
  | 0, _, ed => simp [wdL, enumL] at ed
  | k + 1, hik, ed =>
    simp only [wdL, List.range'_succ, List.map_cons, enumL, List.cons.injEq] at ed
    obtain ⟨rfl, rfl⟩ := ed
    refine ⟨by simp [listAt, eW], ?_⟩
    simp only [wp_gTp, wp_gsCons, wp_gsNil, wp_gNm, List.length_cons, List.length_nil, List.set, Nat.zero_add, Nat.reduceAdd, true_and]
    have hi : i < 12 := by omega
    refine ws_cut (fun ρ1 T1 => ∃ w pw, ρ1 = [some (.ptr 0), some (.ptr p), some (.ptr W), some d, some (.int (i : Nat)), some (.str (wd12 i)), some w, o7] ∧ PW pw ∧ Vw1 T1 w pw ∧ Draw p q r T1 ∧ T1[W]? = some (.lst (wdL 0 12))) ?_ ?_
    · simp only [wp_ok, wp_bind, wp_noX, wp_mC, wp_mStr, wp_mTru, wp_mBl, wp_blOf, wp_tru_bl, wp_mBin, wp_mUn, wp_mIf, wp_mNotT, wp_mAndT, wp_mOrT, wp_mAndV, wp_mOrV, wp_mNotV, wp_mChain, wp_mChainT, wp_mNil, wp_mCons, wp_mDisp, wp_tupD, wp_lstD, wp_mSl, wp_mNoPart, wp_mPart, wp_intOf, wp_mBm, wp_mMeth, wp_dflS, wp_mIt, wp_mItA, wp_mDict, wp_mpNil, wp_mpCons, wp_mNext, wp_mYes, wp_mLc, ws_mNx, ws_mBrk, ws_mCnt, ws_mRetN, ws_mSeq, ws_mDrop, ws_mRet, ws_mIfS, ws_mAsg, wp_gNm, wp_gsNil, wp_gsCons, wp_gTp, wp_gSubS, ws_mSetI, ws_mSetF, put_some, wp_callS, ws_mFor, ws_nx, ws_ret, wp_gFld, wp_mMethKw, wp_mVar0, wp_mVarS, List.set, List.append_nil, List.length_cons, List.length_nil, Nat.zero_add, Nat.add_zero, Nat.reduceAdd, true_and]
      refine (take_ok hd (by decide) (by decide)).imp fun y T1 ⟨t, ey, t0, t1, hd1, x1⟩ => ?_
      subst ey
      have eW1 := x1.get _ _ eW (by simp only [List.mem_cons, List.not_mem_nil, or_false]; omega)
      have hneg : negS (.int 1) T1 = .ok (.int (-1)) T1 := rfl
      simp only [hneg, wp_ok, wp_bind, wp_noX, wp_mC, wp_mStr, wp_mTru, wp_mBl, wp_blOf, wp_tru_bl, wp_mBin, wp_mUn, wp_mIf, wp_mNotT, wp_mAndT, wp_mOrT, wp_mAndV, wp_mOrV, wp_mNotV, wp_mChain, wp_mChainT, wp_mNil, wp_mCons, wp_mDisp, wp_tupD, wp_lstD, wp_mSl, wp_mNoPart, wp_mPart, wp_intOf, wp_mBm, wp_mMeth, wp_dflS, wp_mIt, wp_mItA, wp_mDict, wp_mpNil, wp_mpCons, wp_mNext, wp_mYes, wp_mLc, ws_mNx, ws_mBrk, ws_mCnt, ws_mRetN, ws_mSeq, ws_mDrop, ws_mRet, ws_mIfS, ws_mAsg, wp_gNm, wp_gsNil, wp_gsCons, wp_gTp, wp_gSubS, ws_mSetI, ws_mSetF, put_some, wp_callS, ws_mFor, ws_nx, ws_ret, wp_gFld, wp_mMethKw]
      refine ⟨ok_a, ok_b, by simp [sizeLine], by simp [sizeLine], by simp [sizeLine], ?_⟩
      have lt := hd1.lt
      have hd2 := (hd1.ext (Ext.push [O.lst [.int 2]])).ext (Ext.push [O.lst [D.non, .int 0, .int t, .str "a", .tup [.int 1, .str "b"], .bl true, .int (-1), .ptr T1.length]])
      refine (pick_ok hd2 get_push (by simp; omega) (by simp; omega) (by simp) (by simp)).imp fun w T2 ⟨hw, hd3, x2⟩ => ?_
      have hL := x2.get _ _ (get_old (os := [O.lst [D.non, .int 0, .int t, .str "a", .tup [.int 1, .str "b"], .bl true, .int (-1), .ptr T1.length]]) (get_push (S := T1) (o := O.lst [.int 2]))) (by simp only [List.mem_cons, List.not_mem_nil, or_false]; omega)
      obtain ⟨pw, h1, h2⟩ := worth_of t0 t1 hL hw
      exact ⟨w, pw, rfl, h1, h2, hd3, x2.get _ _ (get_old (get_old eW1)) (by simp only [List.mem_cons, List.not_mem_nil, or_false]; omega)⟩
    clear hd eW T
    rintro ρ1 T ⟨w, pw, rfl, hpw, hv, hd, eW⟩
    refine ws_cut (fun ρ1 T1 => ∃ e, ρ1 = [some (.ptr 0), some (.ptr p), some (.ptr W), some d, some (.int (i : Nat)), some (.str (wd12 i)), some w, some (.ptr e)] ∧ T1[e]? = some (.exc (cl12 i) (fs12 w i)) ∧ Ext [] T T1) ?_ ?_
    · rw [ws_mAsg, wp_mLam]
      have x1 : Ext [] T (T ++ [O.lam]) := Ext.push _
      refine caught_ok ?_
      rw [wx_mDisp, wx_mCons, wx_mVar rfl, wx_mCons, wx_mVar rfl, wx_mNil, wx_dflS]
      refine ⟨rfl, ?_⟩
      refine (raised_ok ⟨i, hi⟩ (hv _ x1).1 ⟨hpw.sh, hpw.ok, hpw.ln⟩).impE (fun _ _ h => h.elim) fun x T1 ⟨ec, ef, eT⟩ => ?_
      subst eT
      refine ⟨by rw [ec]; exact x_sub ⟨i, hi⟩, ?_⟩
      rw [wp_gNm]
      refine ⟨_, rfl, ?_, x1.trans (Ext.push _)⟩
      rw [ec, ef]
      exact get_push
    rintro ρ1 T1 ⟨e, rfl, he, x1⟩
    obtain ⟨z, hz⟩ := repr_rd ⟨i, hi⟩ hpw (hv.ext x1)
    simp only [ws_mIfS, wp_mBl, wp_mBin, wp_mDisp, wp_mCons, wp_mNil, wp_dflS, wp_mVar0, wp_mVarS, List.append_nil, List.length_cons, List.length_nil, Nat.zero_add, Nat.add_zero, Nat.reduceAdd, true_and]
    refine (field_ok ⟨i, hi⟩ he).imp fun y T2 ⟨ey, x2⟩ => ?_
    subst ey
    rw [hz T2 x2, wp_ok]
    have hz2 := hz T2 x2
    rw [wp_mIf, wp_mBl, wp_mBin]
    simp only [wp_mVar0, wp_mVarS, wp_mC, ltS, wp_ok, wp_blOf]
    by_cases h8 : i < 8
    · have e8 : decide ((i : Int) < 8) = true := by simp; omega
      simp only [e8, if_true, if_false, wp_mVar0, wp_mVarS, wp_mC, wp_tupD]
      refine ⟨by simp [sizeLine], ?_⟩
      have e9 : D.tup [.int (i : Nat), w] = rd12 w i := by rw [rd12, if_pos h8]
      rw [e9, hz2, wp_ok, nes_str, decide_eq_true rfl, wp_blOf]
      simp only [Bool.not_true, Bool.false_eq_true, if_false, ws_mNx]
      exact ⟨i + 1, k, _, _, _, _, by omega, rfl, rfl, (hd.ext x1).ext x2, x2.get _ _ (x1.get _ _ eW (by simp)) (by simp)⟩
    · have e8 : decide ((i : Int) < 8) = false := by simp; omega
      simp only [e8, Bool.false_eq_true, if_true, if_false, wp_mVar0, wp_mVarS, wp_mC, wp_tupD]
      refine ⟨by simp [sizeLine], ?_⟩
      have e9 : D.tup [.int (i : Nat), .non] = rd12 w i := by rw [rd12, if_neg h8]
      rw [e9, hz2, wp_ok, nes_str, decide_eq_true rfl, wp_blOf]
      simp only [Bool.not_true, Bool.false_eq_true, if_false, ws_mNx]
      exact ⟨i + 1, k, _, _, _, _, by omega, rfl, rfl, (hd.ext x1).ext x2, x2.get _ _ (x1.get _ _ eW (by simp)) (by simp)⟩
theorem law_true_k01 : ∀ ns : List Int, ns.length ≤ 63 → ∃ S', f_law [.ptr 0] [.rol (ns.map D.int)] = .ok (.bl true) S' := by
  intro ns hl
  obtain ⟨d, S', e, rfl⟩ := law_ok hl
  exact ⟨S', e⟩
end K01
/-! K01end -/
set_option Elab.async false
set_option linter.all false
set_option maxRecDepth 100000
namespace K01
open PySem MP
theorem law_true : ∀ ns : List Int, ns.length ≤ 63 → ∃ S', f_law [.ptr 0] [.rol (ns.map D.int)] = .ok (.bl true) S' := K01.law_true_k01
end K01
open PySem PySem.W PyProof.Rows in
set_option maxRecDepth 100000 in
set_option maxHeartbeats 0 in
theorem PySem.Challenge.cw_faultorder_k01_errors_by_class_holds : PySem.Challenge.rw_faultorder_k01_errors_by_class.Holds := by
  w_on; o_law; k_head; (case hw => w_witness2)
  k_fill
  refine MP.walk_gT (n := 63) (k := 6) (x := "script") (CX := fun w => L2.CX K01.PP w) (l := PySem.Challenge.rw_faultorder_k01_errors_by_class) rfl (by decide) rfl ⟨rfl, by decide, by decide⟩ (fun w h Y => PySem.W.km_in_of Y) ?F K01.law_true (fun _ H s e t z => MP.endX H s e t z)
  case F =>
    intro w mg fa h Y KX G hmg
    obtain ⟨a, T, ea, hb, hpre, hlam⟩ : ∃ a : K01.Adr, K01.TX w _ mg a ∧ a.a_law = fa ∧ (∀ (t : Shared) (u : Value), BindsTo t a.d_law ⟨[u], []⟩ [("script", u)]) ∧ (a.pre = [] ∧ a.cap = [] ∧ a.co = []) ∧ ∀ p ∈ K01.lamC a, h.get? p.2 = some { cls := .none, data := .fields #[] } ∧ List.lookup p.2 _ = none ∧ PySem.W.CodeHd h p.1 p.2 := by
      refine' K01.all_mk w KX G hmg ?n__law_begin ?l__law_begin ?c__law_begin ?k__law_begin ?n__law_take ?l__law_take ?c__law_take ?k__law_take ?n__law_pick ?l__law_pick ?c__law_pick ?k__law_pick ?n__law_caught ?l__law_caught ?c__law_caught ?k__law_caught ?n__law_raised ?l__law_raised ?c__law_raised ?k__law_raised ?n__law_field ?l__law_field ?c__law_field ?k__law_field ?n_law ?l_law ?c_law ?tk_law ?tv_law ?tn_law ?tt_law ?th_law ?k_law ?z_ValueError ?z_abs ?z_divmod ?z_enumerate ?z_int ?z_isinstance ?z_len ?z_list ?z_min ?z_range ?z_repr ?z_str ?a_FaultError ?xb_FaultError ?xa_FaultError ?xe_FaultError ?xt_FaultError ?xk_FaultError ?xm_FaultError ?yc_FaultError ?yg_FaultError ?yh_FaultError ?ya_FaultError ?ym_FaultError ?xx_FaultError_FaultError ?xo_FaultError ?a_BadPlant ?xb_BadPlant ?xa_BadPlant ?xe_BadPlant ?xt_BadPlant ?xk_BadPlant ?xm_BadPlant ?yc_BadPlant ?yg_BadPlant ?yh_BadPlant ?ya_BadPlant ?ym_BadPlant ?xx_BadPlant_FaultError ?xn_BadPlant ?xi_BadPlant ?xf_BadPlant ?xs_BadPlant ?xv_BadPlant ?xl_BadPlant ?xc_BadPlant ?xd_BadPlant ?xw_BadPlant ?xy_BadPlant ?xz_BadPlant ?xg_BadPlant ?xh_BadPlant ?xj_BadPlant ?a_NoPart ?xb_NoPart ?xa_NoPart ?xe_NoPart ?xt_NoPart ?xk_NoPart ?xm_NoPart ?yc_NoPart ?yg_NoPart ?yh_NoPart ?ya_NoPart ?ym_NoPart ?xx_NoPart_FaultError ?xn_NoPart ?xi_NoPart ?xf_NoPart ?xs_NoPart ?xv_NoPart ?xl_NoPart ?xc_NoPart ?xd_NoPart ?xw_NoPart ?xy_NoPart ?xz_NoPart ?xg_NoPart ?xh_NoPart ?xj_NoPart ?a_NoSensor ?xb_NoSensor ?xa_NoSensor ?xe_NoSensor ?xt_NoSensor ?xk_NoSensor ?xm_NoSensor ?yc_NoSensor ?yg_NoSensor ?yh_NoSensor ?ya_NoSensor ?ym_NoSensor ?xx_NoSensor_FaultError ?xn_NoSensor ?xi_NoSensor ?xf_NoSensor ?xs_NoSensor ?xv_NoSensor ?xl_NoSensor ?xc_NoSensor ?xd_NoSensor ?xw_NoSensor ?xy_NoSensor ?xz_NoSensor ?xg_NoSensor ?xh_NoSensor ?xj_NoSensor ?a_NoEvent ?xb_NoEvent ?xa_NoEvent ?xe_NoEvent ?xt_NoEvent ?xk_NoEvent ?xm_NoEvent ?yc_NoEvent ?yg_NoEvent ?yh_NoEvent ?ya_NoEvent ?ym_NoEvent ?xx_NoEvent_FaultError ?xn_NoEvent ?xi_NoEvent ?xf_NoEvent ?xs_NoEvent ?xv_NoEvent ?xl_NoEvent ?xc_NoEvent ?xd_NoEvent ?xw_NoEvent ?xy_NoEvent ?xz_NoEvent ?xg_NoEvent ?xh_NoEvent ?xj_NoEvent ?a_NoNumber ?xb_NoNumber ?xa_NoNumber ?xe_NoNumber ?xt_NoNumber ?xk_NoNumber ?xm_NoNumber ?yc_NoNumber ?yg_NoNumber ?yh_NoNumber ?ya_NoNumber ?ym_NoNumber ?xx_NoNumber_FaultError ?xn_NoNumber ?xi_NoNumber ?xf_NoNumber ?xs_NoNumber ?xv_NoNumber ?xl_NoNumber ?xc_NoNumber ?xd_NoNumber ?xw_NoNumber ?xy_NoNumber ?xz_NoNumber ?xg_NoNumber ?xh_NoNumber ?xj_NoNumber ?a_NoOdds ?xb_NoOdds ?xa_NoOdds ?xe_NoOdds ?xt_NoOdds ?xk_NoOdds ?xm_NoOdds ?yc_NoOdds ?yg_NoOdds ?yh_NoOdds ?ya_NoOdds ?ym_NoOdds ?xx_NoOdds_FaultError ?xo_NoOdds ?a_BadMachine ?xb_BadMachine ?xa_BadMachine ?xe_BadMachine ?xt_BadMachine ?xk_BadMachine ?xm_BadMachine ?yc_BadMachine ?yg_BadMachine ?yh_BadMachine ?ya_BadMachine ?ym_BadMachine ?xx_BadMachine_FaultError ?xo_BadMachine ?a_Mismatch ?xb_Mismatch ?xa_Mismatch ?xe_Mismatch ?xt_Mismatch ?xk_Mismatch ?xm_Mismatch ?yc_Mismatch ?yg_Mismatch ?yh_Mismatch ?ya_Mismatch ?ym_Mismatch ?xx_Mismatch_FaultError ?xo_Mismatch ?a_TooMany ?xb_TooMany ?xa_TooMany ?xe_TooMany ?xt_TooMany ?xk_TooMany ?xm_TooMany ?yc_TooMany ?yg_TooMany ?yh_TooMany ?ya_TooMany ?ym_TooMany ?xx_TooMany_FaultError ?xn_TooMany ?xi_TooMany ?xf_TooMany ?xs_TooMany ?xv_TooMany ?xl_TooMany ?xc_TooMany ?xd_TooMany ?xw_TooMany ?xy_TooMany ?xz_TooMany ?xg_TooMany ?xh_TooMany ?xj_TooMany ?a_NoOperation ?xb_NoOperation ?xa_NoOperation ?xe_NoOperation ?xt_NoOperation ?xk_NoOperation ?xm_NoOperation ?yc_NoOperation ?yg_NoOperation ?yh_NoOperation ?ya_NoOperation ?ym_NoOperation ?xx_NoOperation_FaultError ?xn_NoOperation ?xi_NoOperation ?xf_NoOperation ?xs_NoOperation ?xv_NoOperation ?xl_NoOperation ?xc_NoOperation ?xd_NoOperation ?xw_NoOperation ?xy_NoOperation ?xz_NoOperation ?xg_NoOperation ?xh_NoOperation ?xj_NoOperation ?a_NothingLeft ?xb_NothingLeft ?xa_NothingLeft ?xe_NothingLeft ?xt_NothingLeft ?xk_NothingLeft ?xm_NothingLeft ?yc_NothingLeft ?yg_NothingLeft ?yh_NothingLeft ?ya_NothingLeft ?ym_NothingLeft ?xx_NothingLeft_FaultError ?xo_NothingLeft ?a_BadText ?xb_BadText ?xa_BadText ?xe_BadText ?xt_BadText ?xk_BadText ?xm_BadText ?yc_BadText ?yg_BadText ?yh_BadText ?ya_BadText ?ym_BadText ?xx_BadText_FaultError ?xn_BadText ?xi_BadText ?xf_BadText ?xs_BadText ?xv_BadText ?xl_BadText ?xc_BadText ?xd_BadText ?xw_BadText ?xy_BadText ?xz_BadText ?xg_BadText ?xh_BadText ?xj_BadText ?yn ?yt ?xk_FaultError_BadMachine ?xk_BadPlant_BadMachine ?xk_NoPart_BadMachine ?xk_NoSensor_BadMachine ?xk_NoEvent_BadMachine ?xk_NoNumber_BadMachine ?xk_NoOdds_BadMachine ?xk_BadMachine_BadMachine ?xk_Mismatch_BadMachine ?xk_TooMany_BadMachine ?xk_NoOperation_BadMachine ?xk_NothingLeft_BadMachine ?xk_BadText_BadMachine ?xk_FaultError_BadPlant ?xk_BadPlant_BadPlant ?xk_NoPart_BadPlant ?xk_NoSensor_BadPlant ?xk_NoEvent_BadPlant ?xk_NoNumber_BadPlant ?xk_NoOdds_BadPlant ?xk_BadMachine_BadPlant ?xk_Mismatch_BadPlant ?xk_TooMany_BadPlant ?xk_NoOperation_BadPlant ?xk_NothingLeft_BadPlant ?xk_BadText_BadPlant ?xk_FaultError_BadText ?xk_BadPlant_BadText ?xk_NoPart_BadText ?xk_NoSensor_BadText ?xk_NoEvent_BadText ?xk_NoNumber_BadText ?xk_NoOdds_BadText ?xk_BadMachine_BadText ?xk_Mismatch_BadText ?xk_TooMany_BadText ?xk_NoOperation_BadText ?xk_NothingLeft_BadText ?xk_BadText_BadText ?xk_FaultError_Mismatch ?xk_BadPlant_Mismatch ?xk_NoPart_Mismatch ?xk_NoSensor_Mismatch ?xk_NoEvent_Mismatch ?xk_NoNumber_Mismatch ?xk_NoOdds_Mismatch ?xk_BadMachine_Mismatch ?xk_Mismatch_Mismatch ?xk_TooMany_Mismatch ?xk_NoOperation_Mismatch ?xk_NothingLeft_Mismatch ?xk_BadText_Mismatch ?xk_FaultError_NoEvent ?xk_BadPlant_NoEvent ?xk_NoPart_NoEvent ?xk_NoSensor_NoEvent ?xk_NoEvent_NoEvent ?xk_NoNumber_NoEvent ?xk_NoOdds_NoEvent ?xk_BadMachine_NoEvent ?xk_Mismatch_NoEvent ?xk_TooMany_NoEvent ?xk_NoOperation_NoEvent ?xk_NothingLeft_NoEvent ?xk_BadText_NoEvent ?xk_FaultError_NoNumber ?xk_BadPlant_NoNumber ?xk_NoPart_NoNumber ?xk_NoSensor_NoNumber ?xk_NoEvent_NoNumber ?xk_NoNumber_NoNumber ?xk_NoOdds_NoNumber ?xk_BadMachine_NoNumber ?xk_Mismatch_NoNumber ?xk_TooMany_NoNumber ?xk_NoOperation_NoNumber ?xk_NothingLeft_NoNumber ?xk_BadText_NoNumber ?xk_FaultError_NoOdds ?xk_BadPlant_NoOdds ?xk_NoPart_NoOdds ?xk_NoSensor_NoOdds ?xk_NoEvent_NoOdds ?xk_NoNumber_NoOdds ?xk_NoOdds_NoOdds ?xk_BadMachine_NoOdds ?xk_Mismatch_NoOdds ?xk_TooMany_NoOdds ?xk_NoOperation_NoOdds ?xk_NothingLeft_NoOdds ?xk_BadText_NoOdds ?xk_FaultError_NoOperation ?xk_BadPlant_NoOperation ?xk_NoPart_NoOperation ?xk_NoSensor_NoOperation ?xk_NoEvent_NoOperation ?xk_NoNumber_NoOperation ?xk_NoOdds_NoOperation ?xk_BadMachine_NoOperation ?xk_Mismatch_NoOperation ?xk_TooMany_NoOperation ?xk_NoOperation_NoOperation ?xk_NothingLeft_NoOperation ?xk_BadText_NoOperation ?xk_FaultError_NoPart ?xk_BadPlant_NoPart ?xk_NoPart_NoPart ?xk_NoSensor_NoPart ?xk_NoEvent_NoPart ?xk_NoNumber_NoPart ?xk_NoOdds_NoPart ?xk_BadMachine_NoPart ?xk_Mismatch_NoPart ?xk_TooMany_NoPart ?xk_NoOperation_NoPart ?xk_NothingLeft_NoPart ?xk_BadText_NoPart ?xk_FaultError_NoSensor ?xk_BadPlant_NoSensor ?xk_NoPart_NoSensor ?xk_NoSensor_NoSensor ?xk_NoEvent_NoSensor ?xk_NoNumber_NoSensor ?xk_NoOdds_NoSensor ?xk_BadMachine_NoSensor ?xk_Mismatch_NoSensor ?xk_TooMany_NoSensor ?xk_NoOperation_NoSensor ?xk_NothingLeft_NoSensor ?xk_BadText_NoSensor ?xk_FaultError_NothingLeft ?xk_BadPlant_NothingLeft ?xk_NoPart_NothingLeft ?xk_NoSensor_NothingLeft ?xk_NoEvent_NothingLeft ?xk_NoNumber_NothingLeft ?xk_NoOdds_NothingLeft ?xk_BadMachine_NothingLeft ?xk_Mismatch_NothingLeft ?xk_TooMany_NothingLeft ?xk_NoOperation_NothingLeft ?xk_NothingLeft_NothingLeft ?xk_BadText_NothingLeft ?xk_FaultError_TooMany ?xk_BadPlant_TooMany ?xk_NoPart_TooMany ?xk_NoSensor_TooMany ?xk_NoEvent_TooMany ?xk_NoNumber_TooMany ?xk_NoOdds_TooMany ?xk_BadMachine_TooMany ?xk_Mismatch_TooMany ?xk_TooMany_TooMany ?xk_NoOperation_TooMany ?xk_NothingLeft_TooMany ?xk_BadText_TooMany ?xk_FaultError_ValueError ?xk_BadPlant_ValueError ?xk_NoPart_ValueError ?xk_NoSensor_ValueError ?xk_NoEvent_ValueError ?xk_NoNumber_ValueError ?xk_NoOdds_ValueError ?xk_BadMachine_ValueError ?xk_Mismatch_ValueError ?xk_TooMany_ValueError ?xk_NoOperation_ValueError ?xk_NothingLeft_ValueError ?xk_BadText_ValueError ?xstat ?xsup ?xrep
      (case n__law_begin => k_is)
      (case l__law_begin => k_is)
      (case c__law_begin => k_is)
      (case k__law_begin => k_is)
      (case n__law_take => k_is)
      (case l__law_take => k_is)
      (case c__law_take => k_is)
      (case k__law_take => k_is)
      (case n__law_pick => k_is)
      (case l__law_pick => k_is)
      (case c__law_pick => k_is)
      (case k__law_pick => k_is)
      (case n__law_caught => k_is)
      (case l__law_caught => k_is)
      (case c__law_caught => k_is)
      (case k__law_caught => k_is)
      (case n__law_raised => k_is)
      (case l__law_raised => k_is)
      (case c__law_raised => k_is)
      (case k__law_raised => k_is)
      (case n__law_field => k_is)
      (case l__law_field => k_is)
      (case c__law_field => k_is)
      (case k__law_field => k_is)
      (case n_law => k_is)
      (case l_law => k_is)
      (case c_law => k_is)
      (case tk_law => k_is)
      (case tv_law => rfl)
      (case tn_law => first | rfl | kernel_rfl)
      (case tt_law => exact PySem.W.km_tabs_of Y _ (by decide))
      (case th_law => exact PySem.W.codeHd_of_K KX (by kernel_rfl))
      (case k_law => k_is)
      (case z_ValueError => k_is)
      (case z_abs => k_is)
      (case z_divmod => k_is)
      (case z_enumerate => k_is)
      (case z_int => k_is)
      (case z_isinstance => k_is)
      (case z_len => k_is)
      (case z_list => k_is)
      (case z_min => k_is)
      (case z_range => k_is)
      (case z_repr => k_is)
      (case z_str => k_is)
      (case a_FaultError => k_is)
      (case xb_FaultError => kernel_rfl)
      (case xa_FaultError => k_is)
      (case xe_FaultError => k_is)
      (case xt_FaultError => k_is)
      (case xk_FaultError => k_is)
      (case xm_FaultError => kernel_rfl)
      (case yc_FaultError => kernel_rfl)
      (case yg_FaultError => k_is)
      (case yh_FaultError => k_is)
      (case ya_FaultError => k_is)
      (case ym_FaultError => k_is)
      (case xx_FaultError_FaultError => kernel_rfl)
      (case xo_FaultError => kernel_rfl)
      (case a_BadPlant => k_is)
      (case xb_BadPlant => kernel_rfl)
      (case xa_BadPlant => k_is)
      (case xe_BadPlant => k_is)
      (case xt_BadPlant => k_is)
      (case xk_BadPlant => k_is)
      (case xm_BadPlant => kernel_rfl)
      (case yc_BadPlant => kernel_rfl)
      (case yg_BadPlant => k_is)
      (case yh_BadPlant => k_is)
      (case ya_BadPlant => k_is)
      (case ym_BadPlant => k_is)
      (case xx_BadPlant_FaultError => kernel_rfl)
      (case xn_BadPlant => k_is)
      (case xi_BadPlant => k_is)
      (case xf_BadPlant => k_is)
      (case xs_BadPlant => kernel_rfl)
      (case xv_BadPlant => k_is)
      (case xl_BadPlant => k_is)
      (case xc_BadPlant => k_is)
      (case xd_BadPlant => k_is)
      (case xw_BadPlant => first | rfl | kernel_rfl)
      (case xy_BadPlant => first | rfl | kernel_rfl)
      (case xz_BadPlant => k_is)
      (case xg_BadPlant => k_is)
      (case xh_BadPlant => k_is)
      (case xj_BadPlant => k_is)
      (case a_NoPart => k_is)
      (case xb_NoPart => kernel_rfl)
      (case xa_NoPart => k_is)
      (case xe_NoPart => k_is)
      (case xt_NoPart => k_is)
      (case xk_NoPart => k_is)
      (case xm_NoPart => kernel_rfl)
      (case yc_NoPart => kernel_rfl)
      (case yg_NoPart => k_is)
      (case yh_NoPart => k_is)
      (case ya_NoPart => k_is)
      (case ym_NoPart => k_is)
      (case xx_NoPart_FaultError => kernel_rfl)
      (case xn_NoPart => k_is)
      (case xi_NoPart => k_is)
      (case xf_NoPart => k_is)
      (case xs_NoPart => kernel_rfl)
      (case xv_NoPart => k_is)
      (case xl_NoPart => k_is)
      (case xc_NoPart => k_is)
      (case xd_NoPart => k_is)
      (case xw_NoPart => first | rfl | kernel_rfl)
      (case xy_NoPart => first | rfl | kernel_rfl)
      (case xz_NoPart => k_is)
      (case xg_NoPart => k_is)
      (case xh_NoPart => k_is)
      (case xj_NoPart => k_is)
      (case a_NoSensor => k_is)
      (case xb_NoSensor => kernel_rfl)
      (case xa_NoSensor => k_is)
      (case xe_NoSensor => k_is)
      (case xt_NoSensor => k_is)
      (case xk_NoSensor => k_is)
      (case xm_NoSensor => kernel_rfl)
      (case yc_NoSensor => kernel_rfl)
      (case yg_NoSensor => k_is)
      (case yh_NoSensor => k_is)
      (case ya_NoSensor => k_is)
      (case ym_NoSensor => k_is)
      (case xx_NoSensor_FaultError => kernel_rfl)
      (case xn_NoSensor => k_is)
      (case xi_NoSensor => k_is)
      (case xf_NoSensor => k_is)
      (case xs_NoSensor => kernel_rfl)
      (case xv_NoSensor => k_is)
      (case xl_NoSensor => k_is)
      (case xc_NoSensor => k_is)
      (case xd_NoSensor => k_is)
      (case xw_NoSensor => first | rfl | kernel_rfl)
      (case xy_NoSensor => first | rfl | kernel_rfl)
      (case xz_NoSensor => k_is)
      (case xg_NoSensor => k_is)
      (case xh_NoSensor => k_is)
      (case xj_NoSensor => k_is)
      (case a_NoEvent => k_is)
      (case xb_NoEvent => kernel_rfl)
      (case xa_NoEvent => k_is)
      (case xe_NoEvent => k_is)
      (case xt_NoEvent => k_is)
      (case xk_NoEvent => k_is)
      (case xm_NoEvent => kernel_rfl)
      (case yc_NoEvent => kernel_rfl)
      (case yg_NoEvent => k_is)
      (case yh_NoEvent => k_is)
      (case ya_NoEvent => k_is)
      (case ym_NoEvent => k_is)
      (case xx_NoEvent_FaultError => kernel_rfl)
      (case xn_NoEvent => k_is)
      (case xi_NoEvent => k_is)
      (case xf_NoEvent => k_is)
      (case xs_NoEvent => kernel_rfl)
      (case xv_NoEvent => k_is)
      (case xl_NoEvent => k_is)
      (case xc_NoEvent => k_is)
      (case xd_NoEvent => k_is)
      (case xw_NoEvent => first | rfl | kernel_rfl)
      (case xy_NoEvent => first | rfl | kernel_rfl)
      (case xz_NoEvent => k_is)
      (case xg_NoEvent => k_is)
      (case xh_NoEvent => k_is)
      (case xj_NoEvent => k_is)
      (case a_NoNumber => k_is)
      (case xb_NoNumber => kernel_rfl)
      (case xa_NoNumber => k_is)
      (case xe_NoNumber => k_is)
      (case xt_NoNumber => k_is)
      (case xk_NoNumber => k_is)
      (case xm_NoNumber => kernel_rfl)
      (case yc_NoNumber => kernel_rfl)
      (case yg_NoNumber => k_is)
      (case yh_NoNumber => k_is)
      (case ya_NoNumber => k_is)
      (case ym_NoNumber => k_is)
      (case xx_NoNumber_FaultError => kernel_rfl)
      (case xn_NoNumber => k_is)
      (case xi_NoNumber => k_is)
      (case xf_NoNumber => k_is)
      (case xs_NoNumber => kernel_rfl)
      (case xv_NoNumber => k_is)
      (case xl_NoNumber => k_is)
      (case xc_NoNumber => k_is)
      (case xd_NoNumber => k_is)
      (case xw_NoNumber => first | rfl | kernel_rfl)
      (case xy_NoNumber => first | rfl | kernel_rfl)
      (case xz_NoNumber => k_is)
      (case xg_NoNumber => k_is)
      (case xh_NoNumber => k_is)
      (case xj_NoNumber => k_is)
      (case a_NoOdds => k_is)
      (case xb_NoOdds => kernel_rfl)
      (case xa_NoOdds => k_is)
      (case xe_NoOdds => k_is)
      (case xt_NoOdds => k_is)
      (case xk_NoOdds => k_is)
      (case xm_NoOdds => kernel_rfl)
      (case yc_NoOdds => kernel_rfl)
      (case yg_NoOdds => k_is)
      (case yh_NoOdds => k_is)
      (case ya_NoOdds => k_is)
      (case ym_NoOdds => k_is)
      (case xx_NoOdds_FaultError => kernel_rfl)
      (case xo_NoOdds => kernel_rfl)
      (case a_BadMachine => k_is)
      (case xb_BadMachine => kernel_rfl)
      (case xa_BadMachine => k_is)
      (case xe_BadMachine => k_is)
      (case xt_BadMachine => k_is)
      (case xk_BadMachine => k_is)
      (case xm_BadMachine => kernel_rfl)
      (case yc_BadMachine => kernel_rfl)
      (case yg_BadMachine => k_is)
      (case yh_BadMachine => k_is)
      (case ya_BadMachine => k_is)
      (case ym_BadMachine => k_is)
      (case xx_BadMachine_FaultError => kernel_rfl)
      (case xo_BadMachine => kernel_rfl)
      (case a_Mismatch => k_is)
      (case xb_Mismatch => kernel_rfl)
      (case xa_Mismatch => k_is)
      (case xe_Mismatch => k_is)
      (case xt_Mismatch => k_is)
      (case xk_Mismatch => k_is)
      (case xm_Mismatch => kernel_rfl)
      (case yc_Mismatch => kernel_rfl)
      (case yg_Mismatch => k_is)
      (case yh_Mismatch => k_is)
      (case ya_Mismatch => k_is)
      (case ym_Mismatch => k_is)
      (case xx_Mismatch_FaultError => kernel_rfl)
      (case xo_Mismatch => kernel_rfl)
      (case a_TooMany => k_is)
      (case xb_TooMany => kernel_rfl)
      (case xa_TooMany => k_is)
      (case xe_TooMany => k_is)
      (case xt_TooMany => k_is)
      (case xk_TooMany => k_is)
      (case xm_TooMany => kernel_rfl)
      (case yc_TooMany => kernel_rfl)
      (case yg_TooMany => k_is)
      (case yh_TooMany => k_is)
      (case ya_TooMany => k_is)
      (case ym_TooMany => k_is)
      (case xx_TooMany_FaultError => kernel_rfl)
      (case xn_TooMany => k_is)
      (case xi_TooMany => k_is)
      (case xf_TooMany => k_is)
      (case xs_TooMany => kernel_rfl)
      (case xv_TooMany => k_is)
      (case xl_TooMany => k_is)
      (case xc_TooMany => k_is)
      (case xd_TooMany => k_is)
      (case xw_TooMany => first | rfl | kernel_rfl)
      (case xy_TooMany => first | rfl | kernel_rfl)
      (case xz_TooMany => k_is)
      (case xg_TooMany => k_is)
      (case xh_TooMany => k_is)
      (case xj_TooMany => k_is)
      (case a_NoOperation => k_is)
      (case xb_NoOperation => kernel_rfl)
      (case xa_NoOperation => k_is)
      (case xe_NoOperation => k_is)
      (case xt_NoOperation => k_is)
      (case xk_NoOperation => k_is)
      (case xm_NoOperation => kernel_rfl)
      (case yc_NoOperation => kernel_rfl)
      (case yg_NoOperation => k_is)
      (case yh_NoOperation => k_is)
      (case ya_NoOperation => k_is)
      (case ym_NoOperation => k_is)
      (case xx_NoOperation_FaultError => kernel_rfl)
      (case xn_NoOperation => k_is)
      (case xi_NoOperation => k_is)
      (case xf_NoOperation => k_is)
      (case xs_NoOperation => kernel_rfl)
      (case xv_NoOperation => k_is)
      (case xl_NoOperation => k_is)
      (case xc_NoOperation => k_is)
      (case xd_NoOperation => k_is)
      (case xw_NoOperation => first | rfl | kernel_rfl)
      (case xy_NoOperation => first | rfl | kernel_rfl)
      (case xz_NoOperation => k_is)
      (case xg_NoOperation => k_is)
      (case xh_NoOperation => k_is)
      (case xj_NoOperation => k_is)
      (case a_NothingLeft => k_is)
      (case xb_NothingLeft => kernel_rfl)
      (case xa_NothingLeft => k_is)
      (case xe_NothingLeft => k_is)
      (case xt_NothingLeft => k_is)
      (case xk_NothingLeft => k_is)
      (case xm_NothingLeft => kernel_rfl)
      (case yc_NothingLeft => kernel_rfl)
      (case yg_NothingLeft => k_is)
      (case yh_NothingLeft => k_is)
      (case ya_NothingLeft => k_is)
      (case ym_NothingLeft => k_is)
      (case xx_NothingLeft_FaultError => kernel_rfl)
      (case xo_NothingLeft => kernel_rfl)
      (case a_BadText => k_is)
      (case xb_BadText => kernel_rfl)
      (case xa_BadText => k_is)
      (case xe_BadText => k_is)
      (case xt_BadText => k_is)
      (case xk_BadText => k_is)
      (case xm_BadText => kernel_rfl)
      (case yc_BadText => kernel_rfl)
      (case yg_BadText => k_is)
      (case yh_BadText => k_is)
      (case ya_BadText => k_is)
      (case ym_BadText => k_is)
      (case xx_BadText_FaultError => kernel_rfl)
      (case xn_BadText => k_is)
      (case xi_BadText => k_is)
      (case xf_BadText => k_is)
      (case xs_BadText => kernel_rfl)
      (case xv_BadText => k_is)
      (case xl_BadText => k_is)
      (case xc_BadText => k_is)
      (case xd_BadText => k_is)
      (case xw_BadText => first | rfl | kernel_rfl)
      (case xy_BadText => first | rfl | kernel_rfl)
      (case xz_BadText => k_is)
      (case xg_BadText => k_is)
      (case xh_BadText => k_is)
      (case xj_BadText => k_is)
      (case yn => k_is)
      (case yt => k_is)
      (case xk_FaultError_BadMachine => kit_is)
      (case xk_BadPlant_BadMachine => kit_is)
      (case xk_NoPart_BadMachine => kit_is)
      (case xk_NoSensor_BadMachine => kit_is)
      (case xk_NoEvent_BadMachine => kit_is)
      (case xk_NoNumber_BadMachine => kit_is)
      (case xk_NoOdds_BadMachine => kit_is)
      (case xk_BadMachine_BadMachine => kit_is)
      (case xk_Mismatch_BadMachine => kit_is)
      (case xk_TooMany_BadMachine => kit_is)
      (case xk_NoOperation_BadMachine => kit_is)
      (case xk_NothingLeft_BadMachine => kit_is)
      (case xk_BadText_BadMachine => kit_is)
      (case xk_FaultError_BadPlant => kit_is)
      (case xk_BadPlant_BadPlant => kit_is)
      (case xk_NoPart_BadPlant => kit_is)
      (case xk_NoSensor_BadPlant => kit_is)
      (case xk_NoEvent_BadPlant => kit_is)
      (case xk_NoNumber_BadPlant => kit_is)
      (case xk_NoOdds_BadPlant => kit_is)
      (case xk_BadMachine_BadPlant => kit_is)
      (case xk_Mismatch_BadPlant => kit_is)
      (case xk_TooMany_BadPlant => kit_is)
      (case xk_NoOperation_BadPlant => kit_is)
      (case xk_NothingLeft_BadPlant => kit_is)
      (case xk_BadText_BadPlant => kit_is)
      (case xk_FaultError_BadText => kit_is)
      (case xk_BadPlant_BadText => kit_is)
      (case xk_NoPart_BadText => kit_is)
      (case xk_NoSensor_BadText => kit_is)
      (case xk_NoEvent_BadText => kit_is)
      (case xk_NoNumber_BadText => kit_is)
      (case xk_NoOdds_BadText => kit_is)
      (case xk_BadMachine_BadText => kit_is)
      (case xk_Mismatch_BadText => kit_is)
      (case xk_TooMany_BadText => kit_is)
      (case xk_NoOperation_BadText => kit_is)
      (case xk_NothingLeft_BadText => kit_is)
      (case xk_BadText_BadText => kit_is)
      (case xk_FaultError_Mismatch => kit_is)
      (case xk_BadPlant_Mismatch => kit_is)
      (case xk_NoPart_Mismatch => kit_is)
      (case xk_NoSensor_Mismatch => kit_is)
      (case xk_NoEvent_Mismatch => kit_is)
      (case xk_NoNumber_Mismatch => kit_is)
      (case xk_NoOdds_Mismatch => kit_is)
      (case xk_BadMachine_Mismatch => kit_is)
      (case xk_Mismatch_Mismatch => kit_is)
      (case xk_TooMany_Mismatch => kit_is)
      (case xk_NoOperation_Mismatch => kit_is)
      (case xk_NothingLeft_Mismatch => kit_is)
      (case xk_BadText_Mismatch => kit_is)
      (case xk_FaultError_NoEvent => kit_is)
      (case xk_BadPlant_NoEvent => kit_is)
      (case xk_NoPart_NoEvent => kit_is)
      (case xk_NoSensor_NoEvent => kit_is)
      (case xk_NoEvent_NoEvent => kit_is)
      (case xk_NoNumber_NoEvent => kit_is)
      (case xk_NoOdds_NoEvent => kit_is)
      (case xk_BadMachine_NoEvent => kit_is)
      (case xk_Mismatch_NoEvent => kit_is)
      (case xk_TooMany_NoEvent => kit_is)
      (case xk_NoOperation_NoEvent => kit_is)
      (case xk_NothingLeft_NoEvent => kit_is)
      (case xk_BadText_NoEvent => kit_is)
      (case xk_FaultError_NoNumber => kit_is)
      (case xk_BadPlant_NoNumber => kit_is)
      (case xk_NoPart_NoNumber => kit_is)
      (case xk_NoSensor_NoNumber => kit_is)
      (case xk_NoEvent_NoNumber => kit_is)
      (case xk_NoNumber_NoNumber => kit_is)
      (case xk_NoOdds_NoNumber => kit_is)
      (case xk_BadMachine_NoNumber => kit_is)
      (case xk_Mismatch_NoNumber => kit_is)
      (case xk_TooMany_NoNumber => kit_is)
      (case xk_NoOperation_NoNumber => kit_is)
      (case xk_NothingLeft_NoNumber => kit_is)
      (case xk_BadText_NoNumber => kit_is)
      (case xk_FaultError_NoOdds => kit_is)
      (case xk_BadPlant_NoOdds => kit_is)
      (case xk_NoPart_NoOdds => kit_is)
      (case xk_NoSensor_NoOdds => kit_is)
      (case xk_NoEvent_NoOdds => kit_is)
      (case xk_NoNumber_NoOdds => kit_is)
      (case xk_NoOdds_NoOdds => kit_is)
      (case xk_BadMachine_NoOdds => kit_is)
      (case xk_Mismatch_NoOdds => kit_is)
      (case xk_TooMany_NoOdds => kit_is)
      (case xk_NoOperation_NoOdds => kit_is)
      (case xk_NothingLeft_NoOdds => kit_is)
      (case xk_BadText_NoOdds => kit_is)
      (case xk_FaultError_NoOperation => kit_is)
      (case xk_BadPlant_NoOperation => kit_is)
      (case xk_NoPart_NoOperation => kit_is)
      (case xk_NoSensor_NoOperation => kit_is)
      (case xk_NoEvent_NoOperation => kit_is)
      (case xk_NoNumber_NoOperation => kit_is)
      (case xk_NoOdds_NoOperation => kit_is)
      (case xk_BadMachine_NoOperation => kit_is)
      (case xk_Mismatch_NoOperation => kit_is)
      (case xk_TooMany_NoOperation => kit_is)
      (case xk_NoOperation_NoOperation => kit_is)
      (case xk_NothingLeft_NoOperation => kit_is)
      (case xk_BadText_NoOperation => kit_is)
      (case xk_FaultError_NoPart => kit_is)
      (case xk_BadPlant_NoPart => kit_is)
      (case xk_NoPart_NoPart => kit_is)
      (case xk_NoSensor_NoPart => kit_is)
      (case xk_NoEvent_NoPart => kit_is)
      (case xk_NoNumber_NoPart => kit_is)
      (case xk_NoOdds_NoPart => kit_is)
      (case xk_BadMachine_NoPart => kit_is)
      (case xk_Mismatch_NoPart => kit_is)
      (case xk_TooMany_NoPart => kit_is)
      (case xk_NoOperation_NoPart => kit_is)
      (case xk_NothingLeft_NoPart => kit_is)
      (case xk_BadText_NoPart => kit_is)
      (case xk_FaultError_NoSensor => kit_is)
      (case xk_BadPlant_NoSensor => kit_is)
      (case xk_NoPart_NoSensor => kit_is)
      (case xk_NoSensor_NoSensor => kit_is)
      (case xk_NoEvent_NoSensor => kit_is)
      (case xk_NoNumber_NoSensor => kit_is)
      (case xk_NoOdds_NoSensor => kit_is)
      (case xk_BadMachine_NoSensor => kit_is)
      (case xk_Mismatch_NoSensor => kit_is)
      (case xk_TooMany_NoSensor => kit_is)
      (case xk_NoOperation_NoSensor => kit_is)
      (case xk_NothingLeft_NoSensor => kit_is)
      (case xk_BadText_NoSensor => kit_is)
      (case xk_FaultError_NothingLeft => kit_is)
      (case xk_BadPlant_NothingLeft => kit_is)
      (case xk_NoPart_NothingLeft => kit_is)
      (case xk_NoSensor_NothingLeft => kit_is)
      (case xk_NoEvent_NothingLeft => kit_is)
      (case xk_NoNumber_NothingLeft => kit_is)
      (case xk_NoOdds_NothingLeft => kit_is)
      (case xk_BadMachine_NothingLeft => kit_is)
      (case xk_Mismatch_NothingLeft => kit_is)
      (case xk_TooMany_NothingLeft => kit_is)
      (case xk_NoOperation_NothingLeft => kit_is)
      (case xk_NothingLeft_NothingLeft => kit_is)
      (case xk_BadText_NothingLeft => kit_is)
      (case xk_FaultError_TooMany => kit_is)
      (case xk_BadPlant_TooMany => kit_is)
      (case xk_NoPart_TooMany => kit_is)
      (case xk_NoSensor_TooMany => kit_is)
      (case xk_NoEvent_TooMany => kit_is)
      (case xk_NoNumber_TooMany => kit_is)
      (case xk_NoOdds_TooMany => kit_is)
      (case xk_BadMachine_TooMany => kit_is)
      (case xk_Mismatch_TooMany => kit_is)
      (case xk_TooMany_TooMany => kit_is)
      (case xk_NoOperation_TooMany => kit_is)
      (case xk_NothingLeft_TooMany => kit_is)
      (case xk_BadText_TooMany => kit_is)
      (case xk_FaultError_ValueError => kit_is)
      (case xk_BadPlant_ValueError => kit_is)
      (case xk_NoPart_ValueError => kit_is)
      (case xk_NoSensor_ValueError => kit_is)
      (case xk_NoEvent_ValueError => kit_is)
      (case xk_NoNumber_ValueError => kit_is)
      (case xk_NoOdds_ValueError => kit_is)
      (case xk_BadMachine_ValueError => kit_is)
      (case xk_Mismatch_ValueError => kit_is)
      (case xk_TooMany_ValueError => kit_is)
      (case xk_NoOperation_ValueError => kit_is)
      (case xk_NothingLeft_ValueError => kit_is)
      (case xk_BadText_ValueError => kit_is)
      (case xstat => k_is)
      (case xsup => k_is)
      (case xrep => k_is)
    subst ea
    refine ⟨a.d_law, K01.cl a, K01.lamC a, hlam, fun z hz => ?_, hpre, hb, fun bs _ _ TB => K01.g_law (base := bs) ⟨T, TB⟩⟩
    simp only [K01.cl, List.mem_cons, List.not_mem_nil, or_false] at hz
    subst hz
    · simp [K01.lamC]
