import PyProof.Rows.All
import Wide.All
import OpenK.AllK
import Wide.FinOn
import HandS.ForMost
import HandS.Lambda
import HandS.IsInst
import HandS.ForExc
import HandS.CallSlots
import HandS.Defaults
import HandS.Wide
import HandS.Style
import HandS.TupAny
import HandS.StrMore
import HandS.Text
import HandS.WordsExc
import HandS.ExcInit
import HandS.ExcIs
import HandS.ExcField
import HandS.Small
import KE.KExcIs
import HandS.Zip
import HandS.RaiseMore
import HandS.Deep
import HandS.HeadHook4
import HandS.HeadWalk
import HandS.NestedK
import HandS.ClsMeth
import HandS.Property
import HandS.EndTab
import HandS.More
import HandS.HeadNt
import HandS.Star
import KE.KFmtOwn
import HandS.FStr
import HandS.Conv
import HandS.SetFor
import HandS.Dict
import PySem.Challenge.RW_heardasmeant_k36_questions_asked
import HandS.Head0
import HandS.Head1
import HandS.Head2
import HandS.HeadEnd
import HandS.Codes
set_option Elab.async false
set_option linter.all false
set_option maxRecDepth 100000
set_option maxHeartbeats 2000000
set_option autoImplicit false
/-! Iv: deep data over the hand layer. Part A: data, the store, how both stand in the heap. -/
namespace Iv
open PySem PySem.Spec PyProof.Rows L2

/-- data that stands still -/
inductive D where
  | non | bl (b : Bool) | int (i : Int) | str (x : Str)
  | tup (l : List D) | lst (l : List D)
  | dic (ks : List Key) (vs : List D) | dit (ks : List (List Key)) (vs : List D)
  | obj (c : Nat) (ns : List Str) (vs : List D)
  | exc (c : Nat) (ns : List Str) (vs : List D)
  | clo (k : Nat) (vs : List D)
  | cls (c : Nat)
/-- what a name holds: data, or a place of the store -/
inductive U where
  | d (x : D) | p (n : Nat)
/-- what a place of the store holds -/
inductive Ob where
  | fz (x : D)
  | lst (l : List U)
  | dic (ks : List Key) (vs : List U) | dit (ks : List (List Key)) (vs : List U)
  | ins (c : Nat) (ns : List Str) (vs : List U)
abbrev Mu := List Ob
def Ob.live : Ob → Bool
  | .fz _ => false
  | _ => true
/-- a lambda of the text: its names are caps, slot by slot -/
structure LamI where
  qual : Str
  params : Arguments
  body : Expr
  scope : Scope
  caps : List Str
/-- what is known of the program's text as it stands in the heap -/
structure Gc where
  K : PySem.W.Frag
  cls : Nat → Addr
  lam : Nat → LamI
  T : List (Addr × Str)

def NT (o : HO) : Prop := ∀ ps, o ≠ .tbl ps
/-- a tuple, a list that is read -/
def TupR (G : Gc) (S : Addr → Prop) (H : Hp) (a : Addr) (vs : List V) : Prop := (¬ S a ∧ Rd H a (.tup vs)) ∨
  ∃ (o : Obj) (its : Array Value) (n : Nat), G.K.lookup a = some o ∧ o.cls = .type "tuple" ∧ o.data = .seq its n ∧ its.size ≤ sizeLine ∧ Vals vs its.toList
def LstR (G : Gc) (S : Addr → Prop) (H : Hp) (a : Addr) (vs : List V) : Prop := (¬ S a ∧ Rd H a (.lst vs)) ∨
  ∃ (o : Obj) (its : Array Value) (n : Nat), G.K.lookup a = some o ∧ o.cls = .type "list" ∧ o.dict = none ∧ o.data = .seq its n ∧ its.size ≤ sizeLine ∧ Vals vs its.toList
theorem TupR.sq {G : Gc} {S : Addr → Prop} {H : Hp} {a : Addr} {vs : List V} (h : TupR G S H a vs) : SqT G.K H a vs := h.elim (fun z => .inl z.2) fun z => .inr z
theorem LstR.sq {G : Gc} {S : Addr → Prop} {H : Hp} {a : Addr} {vs : List V} (h : LstR G S H a vs) : SqL G.K H a vs := h.elim (fun z => .inl z.2) fun z => .inr z
/-- the object of an exception that stands as a value: its class, its own dict -/
def ExcHO (C : Addr) (dx : Option Addr) (a : Addr) : HO := .ext fun h => ∃ (oe : Obj) (vs : Array Value), h.get? a = some oe ∧ Zc (.ref C) dx oe ∧ oe.data = .fields vs
/-- the cells of a closure, by the names, hold the values -/
def CellsR (S : Addr → Prop) (H : Hp) (clo : List (Str × Addr)) : List Str → List V → Prop
  | [], vs => vs = []
  | x :: xs, vs => ∃ v r c o u, vs = v :: r ∧ clo.lookup x = some c ∧ ¬ S c ∧ H c = some (.frz o (.own c)) ∧ o.data = .cell (some u) ∧ RelV v u ∧ CellsR S H clo xs r

/-- a closure's cells: of its own names, no cell twice -/
def CloF (caps : List Str) (clo : List (Str × Addr)) : Prop := (∀ y c, clo.lookup y = some c → y ∈ caps) ∧ ∀ y z c, clo.lookup y = some c → clo.lookup z = some c → y = z

mutual
/-- d is what v is -/
def Rp (G : Gc) (S : Addr → Prop) (H : Hp) : D → V → Prop
  | .non, v => v = .non
  | .bl b, v => v = .bl b
  | .int i, v => v = .int i
  | .str x, v => v = .str x
  | .cls c, v => v = .ref (G.cls c)
  | .tup ds, v => ∃ a vs, v = .ref a ∧ TupR G S H a vs ∧ RpL G S H ds vs
  | .lst ds, v => ∃ a vs, v = .ref a ∧ LstR G S H a vs ∧ RpL G S H ds vs
  | .dic ks ds, v => ∃ a vs, v = .ref a ∧ ¬ S a ∧ Rd H a (.dK (ks.zip vs)) ∧ ks.length = vs.length ∧ RpL G S H ds vs
  | .dit ks ds, v => ∃ a vs, v = .ref a ∧ ¬ S a ∧ Rd H a (.dT (ks.zip vs)) ∧ ks.length = vs.length ∧ RpL G S H ds vs
  | .obj c ns ds, v => ∃ a dx vs, v = .ref a ∧ ¬ S a ∧ H a = some (.ins (G.cls c) dx (ns.zip vs)) ∧ ns.length = vs.length ∧ RpL G S H ds vs
  | .exc c ns ds, v => ∃ a dx vs, v = .ref a ∧ ¬ S a ∧ H a = some (ExcHO (G.cls c) dx a) ∧ ns.length = vs.length ∧ (dx = none ∧ ns = [] ∨ ∃ d, dx = some d ∧ ¬ S d ∧ H d = some (.xd (ns.zip vs))) ∧ RpL G S H ds vs
  | .clo k ds, v => ∃ a c' pm ctv fo clo vs, v = .ref a ∧ ¬ S a ∧ H a = some (.frz fo (.own a)) ∧ fo = PySem.W.kla_obj "<lambda>" (G.lam k).qual (G.lam k).params (G.lam k).body (G.lam k).scope clo pm c' ctv ∧
      ¬ S c' ∧ H c' = some (LamX.CodeO c' (G.lam k).qual) ∧ CloF (G.lam k).caps clo ∧ CellsR S H clo (G.lam k).caps vs ∧ RpL G S H ds vs
def RpL (G : Gc) (S : Addr → Prop) (H : Hp) : List D → List V → Prop
  | [], vs => vs = []
  | d :: ds, vs => ∃ v r, vs = v :: r ∧ Rp G S H d v ∧ RpL G S H ds r
end

/-- what stands still goes on standing -/
structure Ex (S : Addr → Prop) (H : Hp) (S' : Addr → Prop) (H' : Hp) : Prop where
  keep : ∀ (a : Addr) (o : HO), H a = some o → ¬ S a → NT o → H' a = some o ∧ ¬ S' a
theorem Ex.refl {S : Addr → Prop} {H : Hp} : Ex S H S H := ⟨fun _ _ h n _ => ⟨h, n⟩⟩
theorem Ex.trans {S S1 S2 : Addr → Prop} {H H1 H2 : Hp} (a : Ex S H S1 H1) (b : Ex S1 H1 S2 H2) : Ex S H S2 H2 :=
  ⟨fun x o h n t => b.keep x o (a.keep x o h n t).1 (a.keep x o h n t).2 t⟩
theorem nt_tup {vs : List V} : NT (.tup vs) := fun ps z => nomatch z
theorem nt_lst {vs : List V} : NT (.lst vs) := fun ps z => nomatch z
theorem nt_dK {kvs : List (Key × V)} : NT (.dK kvs) := fun ps z => nomatch z
theorem nt_dT {kvs : List (List Key × V)} : NT (.dT kvs) := fun ps z => nomatch z
theorem nt_ins {C dx : Addr} {fs : List (Str × V)} : NT (.ins C dx fs) := fun ps z => nomatch z
theorem nt_xd {fs : List (Str × V)} : NT (.xd fs) := fun ps z => nomatch z
theorem nt_ext {p : Heap → Prop} : NT (.ext p) := fun ps z => nomatch z
theorem nt_code {c : Addr} {q : Str} : NT (LamX.CodeO c q) := fun ps z => LamX.codeO_ne ps z
theorem nt_exc {C : Addr} {dx : Option Addr} {a : Addr} : NT (ExcHO C dx a) := fun ps z => nomatch z
theorem nt_frz {o : Obj} {u : HO} : NT (.frz o u) := fun ps z => nomatch z
/-- what may be reserved -/
def NR (o : HO) : Prop := NT o ∧ ∀ c q, o ≠ LamX.CodeO c q
theorem nr_tup {vs : List V} : NR (.tup vs) := ⟨nt_tup, fun c q z => by unfold LamX.CodeO at z; cases z⟩
theorem nr_lst {vs : List V} : NR (.lst vs) := ⟨nt_lst, fun c q z => by unfold LamX.CodeO at z; cases z⟩
theorem nr_dK {kvs : List (Key × V)} : NR (.dK kvs) := ⟨nt_dK, fun c q z => by unfold LamX.CodeO at z; cases z⟩
theorem nr_dT {kvs : List (List Key × V)} : NR (.dT kvs) := ⟨nt_dT, fun c q z => by unfold LamX.CodeO at z; cases z⟩
theorem nr_ins {C dx : Addr} {fs : List (Str × V)} : NR (.ins C dx fs) := ⟨nt_ins, fun c q z => by unfold LamX.CodeO at z; cases z⟩
section
variable {G : Gc} {S S' : Addr → Prop} {H H' : Hp}
theorem Ex.rd (e : Ex S H S' H') {a : Addr} {u : HO} (n : ¬ S a) (t : NT u) (h : Rd H a u) : Rd H' a u ∧ ¬ S' a := by
  rcases h with h | ⟨o, h⟩
  · exact ⟨.inl (e.keep a u h n t).1, (e.keep a u h n t).2⟩
  · exact ⟨.inr ⟨o, (e.keep a _ h n nt_frz).1⟩, (e.keep a _ h n nt_frz).2⟩
theorem TupR.mono (e : Ex S H S' H') {a : Addr} {vs : List V} (h : TupR G S H a vs) : TupR G S' H' a vs := h.elim
  (fun z => .inl ⟨(e.rd z.1 nt_tup z.2).2, (e.rd z.1 nt_tup z.2).1⟩) fun z => .inr z
theorem LstR.mono (e : Ex S H S' H') {a : Addr} {vs : List V} (h : LstR G S H a vs) : LstR G S' H' a vs := h.elim
  (fun z => .inl ⟨(e.rd z.1 nt_lst z.2).2, (e.rd z.1 nt_lst z.2).1⟩) fun z => .inr z
theorem CellsR.mono (e : Ex S H S' H') {clo : List (Str × Addr)} : ∀ {xs : List Str} {vs : List V}, CellsR S H clo xs vs → CellsR S' H' clo xs vs
  | [], _, h => h
  | x :: xs, _, ⟨v, r, c, o, u, e1, e2, e3, e4, e5, e6, e7⟩ =>
    ⟨v, r, c, o, u, e1, e2, (e.keep c _ e4 e3 nt_frz).2, (e.keep c _ e4 e3 nt_frz).1, e5, e6, e7.mono e⟩
mutual
theorem Rp.mono (e : Ex S H S' H') : ∀ {d : D} {v : V}, Rp G S H d v → Rp G S' H' d v
  | .non, _, h => h
  | .bl _, _, h => h
  | .int _, _, h => h
  | .str _, _, h => h
  | .cls _, _, h => h
  | .tup ds, _, ⟨a, vs, e1, e2, e3⟩ => ⟨a, vs, e1, e2.mono e, RpL.mono e e3⟩
  | .lst ds, _, ⟨a, vs, e1, e2, e3⟩ => ⟨a, vs, e1, e2.mono e, RpL.mono e e3⟩
  | .dic ks ds, _, ⟨a, vs, e1, e2, e3, e4, e5⟩ => ⟨a, vs, e1, (e.rd e2 nt_dK e3).2, (e.rd e2 nt_dK e3).1, e4, RpL.mono e e5⟩
  | .dit ks ds, _, ⟨a, vs, e1, e2, e3, e4, e5⟩ => ⟨a, vs, e1, (e.rd e2 nt_dT e3).2, (e.rd e2 nt_dT e3).1, e4, RpL.mono e e5⟩
  | .obj c ns ds, _, ⟨a, dx, vs, e1, e2, e3, e4, e5⟩ => ⟨a, dx, vs, e1, (e.keep a _ e3 e2 nt_ins).2, (e.keep a _ e3 e2 nt_ins).1, e4, RpL.mono e e5⟩
  | .exc c ns ds, _, ⟨a, dx, vs, e1, e2, e3, e4, e5, e6⟩ => ⟨a, dx, vs, e1, (e.keep a _ e3 e2 nt_exc).2, (e.keep a _ e3 e2 nt_exc).1, e4,
      e5.elim (fun z => .inl z) (fun ⟨d, z1, z2, z3⟩ => .inr ⟨d, z1, (e.keep d _ z3 z2 nt_xd).2, (e.keep d _ z3 z2 nt_xd).1⟩), RpL.mono e e6⟩
  | .clo k ds, _, ⟨a, c', pm, ctv, fo, clo, vs, e1, e2, e3, e4, e5, e6, ef, e7, e8⟩ => ⟨a, c', pm, ctv, fo, clo, vs, e1, (e.keep a _ e3 e2 nt_frz).2, (e.keep a _ e3 e2 nt_frz).1, e4,
      (e.keep c' _ e6 e5 nt_code).2, (e.keep c' _ e6 e5 nt_code).1, ef, e7.mono e, RpL.mono e e8⟩
theorem RpL.mono (e : Ex S H S' H') : ∀ {ds : List D} {vs : List V}, RpL G S H ds vs → RpL G S' H' ds vs
  | [], _, h => h
  | d :: ds, _, ⟨v, r, e1, e2, e3⟩ => ⟨v, r, e1, Rp.mono e e2, RpL.mono e e3⟩
end
end

/-! ### the store -/
def RpU (G : Gc) (φ : List Addr) (S : Addr → Prop) (H : Hp) : U → V → Prop
  | .d x, v => Rp G S H x v
  | .p n, v => ∃ a, v = .ref a ∧ φ[n]? = some a
def RpUs (G : Gc) (φ : List Addr) (S : Addr → Prop) (H : Hp) : List U → List V → Prop
  | [], vs => vs = []
  | u :: us, vs => ∃ v r, vs = v :: r ∧ RpU G φ S H u v ∧ RpUs G φ S H us r
def ObR (G : Gc) (φ : List Addr) (S : Addr → Prop) (H : Hp) (a : Addr) : Ob → Prop
  | .fz x => Rp G S H x (.ref a)
  | .lst us => ∃ vs, H a = some (.lst vs) ∧ RpUs G φ S H us vs
  | .dic ks us => ∃ vs, H a = some (.dK (ks.zip vs)) ∧ ks.length = vs.length ∧ RpUs G φ S H us vs
  | .dit ks us => ∃ vs, H a = some (.dT (ks.zip vs)) ∧ ks.length = vs.length ∧ RpUs G φ S H us vs
  | .ins c ns us => ∃ dx vs, H a = some (.ins (G.cls c) dx (ns.zip vs)) ∧ ns.length = vs.length ∧ RpUs G φ S H us vs
/-- the addresses that may change -/
def Sof (Z : Addr → Prop) (φ : List Addr) (μ : Mu) : Addr → Prop := fun a => Z a ∨ ∃ (n : Nat) (ob : Ob), φ[n]? = some a ∧ μ[n]? = some ob ∧ ob.live = true
structure Rep (G : Gc) (Z : Addr → Prop) (φ : List Addr) (H : Hp) (μ : Mu) : Prop where
  len : φ.length = μ.length
  one : ∀ (n m : Nat) (a : Addr) (o u : Ob), φ[n]? = some a → φ[m]? = some a → μ[n]? = some o → μ[m]? = some u → o.live = true → u.live = true → n = m
  at_ : ∀ (n : Nat) (a : Addr) (o : Ob), φ[n]? = some a → μ[n]? = some o → ObR G φ (Sof Z φ μ) H a o
  res : ∀ (a : Addr), Z a → ∃ o, H a = some o ∧ NR o
  apart : ∀ (n : Nat) (a : Addr) (o : Ob), φ[n]? = some a → μ[n]? = some o → o.live = true → ¬ Z a
  tab : LamX.Tabs G.T H
/-- the state goes on -/
structure Go (Z : Addr → Prop) (φ : List Addr) (μ : Mu) (H : Hp) (φ' : List Addr) (μ' : Mu) (H' : Hp) : Prop where
  ph : ∀ (n : Nat) (a : Addr), φ[n]? = some a → φ'[n]? = some a
  ex : Ex (Sof Z φ μ) H (Sof Z φ' μ') H'
  rs : ∀ (a : Addr), Z a → H' a = H a
theorem Go.refl {Z : Addr → Prop} {φ : List Addr} {μ : Mu} {H : Hp} : Go Z φ μ H φ μ H := ⟨fun _ _ h => h, Ex.refl, fun _ _ => rfl⟩
theorem Go.trans {Z : Addr → Prop} {φ φ1 φ2 : List Addr} {μ μ1 μ2 : Mu} {H H1 H2 : Hp} (a : Go Z φ μ H φ1 μ1 H1) (b : Go Z φ1 μ1 H1 φ2 μ2 H2) : Go Z φ μ H φ2 μ2 H2 :=
  ⟨fun n x h => b.ph n x (a.ph n x h), a.ex.trans b.ex, fun x h => (b.rs x h).trans (a.rs x h)⟩
section
variable {G : Gc} {Z : Addr → Prop} {φ φ' : List Addr} {μ μ' : Mu} {H H' : Hp}
theorem RpU.mono (g : Go Z φ μ H φ' μ' H') : ∀ {u : U} {v : V}, RpU G φ (Sof Z φ μ) H u v → RpU G φ' (Sof Z φ' μ') H' u v
  | .d _, _, h => Rp.mono g.ex h
  | .p n, _, ⟨a, e1, e2⟩ => ⟨a, e1, g.ph n a e2⟩
theorem RpUs.mono (g : Go Z φ μ H φ' μ' H') : ∀ {us : List U} {vs : List V}, RpUs G φ (Sof Z φ μ) H us vs → RpUs G φ' (Sof Z φ' μ') H' us vs
  | [], _, h => h
  | u :: us, _, ⟨v, r, e1, e2, e3⟩ => ⟨v, r, e1, e2.mono g, e3.mono g⟩
end
end Iv
set_option Elab.async false
set_option linter.all false
set_option maxRecDepth 100000
set_option maxHeartbeats 2000000
set_option autoImplicit false
/-! Iv, part B: meanings, and what it is that a reading is held by a meaning. -/
namespace Iv
open PySem PySem.Spec PyProof.Rows L2

inductive Res (α : Type) where
  | ok (a : α) (μ : Mu) | err (c : Nat) (ns : List Str) (vs : List D) (μ : Mu) | bad
def Res.bind {α β : Type} (r : Res α) (f : α → Mu → Res β) : Res β := match r with
  | .ok a μ => f a μ
  | .err c ns vs μ => .err c ns vs μ
  | .bad => .bad
abbrev Rho := List (Option U)
abbrev Sm (α : Type) := Rho → Mu → Res α
inductive RS where
  | nx (ρ : Rho) (μ : Mu) | ret (u : U) (μ : Mu) | brk (ρ : Rho) (μ : Mu) | ct (ρ : Rho) (μ : Mu)
  | err (c : Nat) (ns : List Str) (vs : List D) (ρ : Rho) (μ : Mu) | bad
abbrev SmS := Rho → Mu → RS

/-! ### states -/
def OptR (G : Gc) (φ : List Addr) (S : Addr → Prop) (H : Hp) : Option U → Option V → Prop
  | none, _ => True
  | some u, v => ∃ x, v = some x ∧ RpU G φ S H u x
def Sls (G : Gc) (φ : List Addr) (S : Addr → Prop) (H : Hp) : Rho → L2.St → Prop
  | [], σ => σ = []
  | o :: ρ, σ => ∃ v r, σ = v :: r ∧ OptR G φ S H o v ∧ Sls G φ S H ρ r
structure SR (G : Gc) (Z : Addr → Prop) (φ : List Addr) (H : Hp) (μ : Mu) (ρ : Rho) (σ : L2.St) : Prop where
  rep : Rep G Z φ H μ
  sl : Sls G φ (Sof Z φ μ) H ρ σ
def ErrR (G : Gc) (S : Addr → Prop) (H : Hp) (c : Nat) (ns : List Str) (vs : List D) (cls : Value) (dx : Option Addr) : Prop :=
  cls = .ref (G.cls c) ∧ ((dx = none ∧ ns = [] ∧ vs = []) ∨ ∃ d ws, dx = some d ∧ ¬ S d ∧ H d = some (.xd (ns.zip ws)) ∧ ns.length = ws.length ∧ RpL G S H vs ws)
abbrev Rl (α β : Type) := List Addr → (Addr → Prop) → Hp → α → β → Prop
def RlB : Rl Bool Bool := fun _ _ _ a b => a = b
section
variable {G : Gc} {Z : Addr → Prop} {φ φ' : List Addr} {μ μ' : Mu} {H H' : Hp}
theorem OptR.mono (g : Go Z φ μ H φ' μ' H') : ∀ {o : Option U} {v : Option V}, OptR G φ (Sof Z φ μ) H o v → OptR G φ' (Sof Z φ' μ') H' o v
  | none, _, _ => True.intro
  | some _, _, ⟨x, e, r⟩ => ⟨x, e, r.mono g⟩
theorem Sls.mono (g : Go Z φ μ H φ' μ' H') : ∀ {ρ : Rho} {σ : L2.St}, Sls G φ (Sof Z φ μ) H ρ σ → Sls G φ' (Sof Z φ' μ') H' ρ σ
  | [], _, h => h
  | o :: ρ, _, ⟨v, r, e, a, b⟩ => ⟨v, r, e, a.mono g, b.mono g⟩
theorem SR.go {ρ : Rho} {σ : L2.St} (g : Go Z φ μ H φ' μ' H') (r : Rep G Z φ' H' μ') (s : SR G Z φ H μ ρ σ) : SR G Z φ' H' μ' ρ σ := ⟨r, s.sl.mono g⟩
theorem ErrR.mono {S S' : Addr → Prop} (e : Ex S H S' H') {c : Nat} {ns : List Str} {vs : List D} {cls : Value} {dx : Option Addr} (h : ErrR G S H c ns vs cls dx) : ErrR G S' H' c ns vs cls dx :=
  ⟨h.1, h.2.elim (fun z => .inl z) fun ⟨d, ws, e1, e2, e3, e4, e5⟩ => .inr ⟨d, ws, e1, (e.keep d _ e3 e2 nt_xd).2, (e.keep d _ e3 e2 nt_xd).1, e4, RpL.mono e e5⟩⟩
theorem Sls.get {S : Addr → Prop} : ∀ {ρ : Rho} {σ : L2.St} {i : Nat} {u : U}, Sls G φ S H ρ σ → ρ[i]? = some (some u) → ∃ x, σ[i]? = some (some x) ∧ RpU G φ S H u x
  | o :: ρ, _, 0, u, ⟨v, r, e, a, b⟩, h => by
    have h' : o = some u := Option.some.inj h
    subst h'
    obtain ⟨x, e2, rx⟩ := a
    subst e; subst e2
    exact ⟨x, rfl, rx⟩
  | o :: ρ, _, i + 1, u, ⟨v, r, e, a, b⟩, h => by
    subst e
    exact Sls.get (i := i) (u := u) b h
theorem Sls.set {S : Addr → Prop} {u : Option U} {x : Option V} (r : OptR G φ S H u x) : ∀ {ρ : Rho} {σ : L2.St} (i : Nat), Sls G φ S H ρ σ → Sls G φ S H (ρ.set i u) (σ.set i x)
  | [], _, i, h => by
    obtain rfl := (show _ = [] from h)
    cases i <;> exact rfl
  | o :: ρ, _, 0, ⟨v, r', e, a, b⟩ => by subst e; exact ⟨x, r', rfl, r, b⟩
  | o :: ρ, _, i + 1, ⟨v, r', e, a, b⟩ => by subst e; exact ⟨v, _, rfl, a, Sls.set r i b⟩
theorem Sls.put {S : Addr → Prop} {u : U} {x : V} {ρ : Rho} {σ : L2.St} (i : Nat) (h : Sls G φ S H ρ σ) (r : RpU G φ S H u x) : Sls G φ S H (ρ.set i (some u)) (σ.set i (some x)) := Sls.set (u := some u) (x := some x) ⟨x, rfl, r⟩ i h
theorem Sls.length {S : Addr → Prop} : ∀ {ρ : Rho} {σ : L2.St}, Sls G φ S H ρ σ → ρ.length = σ.length
  | [], _, h => by
    obtain rfl := (show _ = [] from h)
    rfl
  | o :: ρ, _, ⟨v, r, e, a, b⟩ => by subst e; rw [List.length_cons, List.length_cons, b.length]
end

/-! ### meanings -/
def Po {α β : Type} (R : Rl α β) (G : Gc) (Z : Addr → Prop) (W : WX) (φ : List Addr) (μ : Mu) (H : Hp) (σ : L2.St) (r : Res α) (Q : β → Hp → Prop) : Prop := match r with
  | .ok a μ' => ∀ (φ' : List Addr) (H' : Hp) (b : β), Go Z φ μ H φ' μ' H' → Rep G Z φ' H' μ' → R φ' (Sof Z φ' μ') H' a b → Q b H'
  | .err c ns vs μ' => ∀ (φ' : List Addr) (H' : Hp) (cls : Value) (dx : Option Addr), Go Z φ μ H φ' μ' H' → Rep G Z φ' H' μ' → ErrR G (Sof Z φ' μ') H' c ns vs cls dx → W cls dx σ H'
  | .bad => False
def rd {α β : Type} (R : Rl α β) (G : Gc) (W : WX) (m : Sm α) (σ : L2.St) (H : Hp) (Q : β → Hp → Prop) : Prop :=
  ∃ Z φ ρ μ, SR G Z φ H μ ρ σ ∧ Po R G Z W φ μ H σ (m ρ μ) Q
abbrev rdE (G : Gc) (W : WX) (m : Sm U) : TE := rd (RpU G) G W m
abbrev rdT (G : Gc) (W : WX) (m : Sm Bool) : TT := rd RlB G W m
abbrev rdA (G : Gc) (W : WX) (m : Sm (List U)) : TA := rd (RpUs G) G W m
def PoS (G : Gc) (Z : Addr → Prop) (W : WX) (φ : List Addr) (μ : Mu) (H : Hp) (r : RS) (D : Ends) : Prop := match r with
  | .nx ρ' μ' => ∀ (φ' : List Addr) (H' : Hp) (σ' : L2.St), Go Z φ μ H φ' μ' H' → SR G Z φ' H' μ' ρ' σ' → D.nx σ' H'
  | .ret u μ' => ∀ (φ' : List Addr) (H' : Hp) (v : V), Go Z φ μ H φ' μ' H' → Rep G Z φ' H' μ' → RpU G φ' (Sof Z φ' μ') H' u v → D.rt v H'
  | .brk ρ' μ' => ∀ (φ' : List Addr) (H' : Hp) (σ' : L2.St), Go Z φ μ H φ' μ' H' → SR G Z φ' H' μ' ρ' σ' → D.bk σ' H'
  | .ct ρ' μ' => ∀ (φ' : List Addr) (H' : Hp) (σ' : L2.St), Go Z φ μ H φ' μ' H' → SR G Z φ' H' μ' ρ' σ' → D.ct σ' H'
  | .err c ns vs ρ' μ' => ∀ (φ' : List Addr) (H' : Hp) (σ' : L2.St) (cls : Value) (dx : Option Addr), Go Z φ μ H φ' μ' H' → SR G Z φ' H' μ' ρ' σ' → ErrR G (Sof Z φ' μ') H' c ns vs cls dx → W cls dx σ' H'
  | .bad => False
def rdS (G : Gc) (W : WX) (m : SmS) : TS := fun D σ H => ∃ Z φ ρ μ, SR G Z φ H μ ρ σ ∧ PoS G Z W φ μ H (m ρ μ) D

section
variable {G : Gc} {Z : Addr → Prop} {W : WX} {φ φ' : List Addr} {μ μ' : Mu} {H H' : Hp} {σ : L2.St} {ρ : Rho}
theorem Po.go {α β : Type} {R : Rl α β} {r : Res α} {Q : β → Hp → Prop} (g : Go Z φ μ H φ' μ' H') (h : Po R G Z W φ μ H σ r Q) : Po R G Z W φ' μ' H' σ r Q := by
  cases r with
  | ok a μ2 => exact fun φ2 H2 b g2 => h φ2 H2 b (g.trans g2)
  | err c ns vs μ2 => exact fun φ2 H2 cls dx g2 => h φ2 H2 cls dx (g.trans g2)
  | bad => exact h
theorem PoS.go {r : RS} {D : Ends} (g : Go Z φ μ H φ' μ' H') (h : PoS G Z W φ μ H r D) : PoS G Z W φ' μ' H' r D := by
  cases r with
  | nx ρ2 μ2 => exact fun φ2 H2 σ2 g2 => h φ2 H2 σ2 (g.trans g2)
  | ret u μ2 => exact fun φ2 H2 σ2 g2 => h φ2 H2 σ2 (g.trans g2)
  | brk ρ2 μ2 => exact fun φ2 H2 σ2 g2 => h φ2 H2 σ2 (g.trans g2)
  | ct ρ2 μ2 => exact fun φ2 H2 σ2 g2 => h φ2 H2 σ2 (g.trans g2)
  | err c ns vs ρ2 μ2 => exact fun φ2 H2 σ2 cls dx g2 => h φ2 H2 σ2 cls dx (g.trans g2)
  | bad => exact h
theorem Po.mono {α β : Type} {R : Rl α β} {r : Res α} {Q Q' : β → Hp → Prop} (h : Po R G Z W φ μ H σ r Q) (k : ∀ b H', Q b H' → Q' b H') : Po R G Z W φ μ H σ r Q' := by
  cases r with
  | ok a μ2 => exact fun φ2 H2 b g2 r2 rr => k _ _ (h φ2 H2 b g2 r2 rr)
  | err c ns vs μ2 => exact h
  | bad => exact h
theorem rd_mono {α β : Type} {R : Rl α β} {m : Sm α} {Q Q' : β → Hp → Prop} (h : rd R G W m σ H Q) (k : ∀ b H', Q b H' → Q' b H') : rd R G W m σ H Q' :=
  let ⟨Z, φ, ρ, μ, sr, po⟩ := h
  ⟨Z, φ, ρ, μ, sr, po.mono k⟩
/-- first m, then f -/
theorem po_step {α β γ δ : Type} {R1 : Rl α β} {R2 : Rl γ δ} {m : Sm α} {f : α → Mu → Res γ} {Q : δ → Hp → Prop} (sr : SR G Z φ H μ ρ σ) (po : Po R2 G Z W φ μ H σ ((m ρ μ).bind f) Q) :
    rd R1 G W m σ H (fun b H1 => ∃ φ1 μ1 a, Go Z φ μ H φ1 μ1 H1 ∧ SR G Z φ1 H1 μ1 ρ σ ∧ R1 φ1 (Sof Z φ1 μ1) H1 a b ∧ Po R2 G Z W φ1 μ1 H1 σ (f a μ1) Q) := by
  refine ⟨Z, φ, ρ, μ, sr, ?_⟩
  cases e : m ρ μ with
  | ok a μ1 =>
    rw [e] at po
    exact fun φ1 H1 b g r rr => ⟨φ1, μ1, a, g, sr.go g r, rr, Po.go g po⟩
  | err c ns vs μ1 => rw [e] at po; exact po
  | bad => rw [e] at po; exact po
/-- first m, then a statement's end -/
def Res.thenS {α : Type} (r : Res α) (ρ : Rho) (f : α → Mu → RS) : RS := match r with
  | .ok a μ => f a μ
  | .err c ns vs μ => .err c ns vs ρ μ
  | .bad => .bad
theorem pos_step {α β : Type} {R1 : Rl α β} {m : Sm α} {f : α → Mu → RS} {D : Ends} (sr : SR G Z φ H μ ρ σ) (po : PoS G Z W φ μ H ((m ρ μ).thenS ρ f) D) :
    rd R1 G W m σ H (fun b H1 => ∃ φ1 μ1 a, Go Z φ μ H φ1 μ1 H1 ∧ SR G Z φ1 H1 μ1 ρ σ ∧ R1 φ1 (Sof Z φ1 μ1) H1 a b ∧ PoS G Z W φ1 μ1 H1 (f a μ1) D) := by
  refine ⟨Z, φ, ρ, μ, sr, ?_⟩
  cases e : m ρ μ with
  | ok a μ1 =>
    rw [e] at po
    exact fun φ1 H1 b g r rr => ⟨φ1, μ1, a, g, sr.go g r, rr, PoS.go g po⟩
  | err c ns vs μ1 => rw [e] at po; exact fun φ1 H1 cls dx g r er => po φ1 H1 σ cls dx g (sr.go g r) er
  | bad => rw [e] at po; exact po
end
section
variable {X : Cx} {e : Expr} {es : List Expr} {st : Stmt} {sts : List Stmt}
theorem PE.imp {t t' : TE} (h : PE X e t) (k : ∀ σ H Q, t' σ H Q → t σ H Q) : PE X e t' := ⟨fun pins s σ H Q I q => h.run pins s σ H Q I (k σ H Q q)⟩
theorem PT.imp {t t' : TT} (h : PT X e t) (k : ∀ σ H Q, t' σ H Q → t σ H Q) : PT X e t' := ⟨fun pins s σ H Q I q => h.run pins s σ H Q I (k σ H Q q)⟩
theorem PW.imp {t t' : TT} (h : PW X e t) (k : ∀ σ H Q, t' σ H Q → t σ H Q) : PW X e t' := ⟨fun wh pins s σ H Q I q => h.run wh pins s σ H Q I (k σ H Q q)⟩
theorem PA.imp {t t' : TA} (h : PA X es t) (k : ∀ σ H Q, t' σ H Q → t σ H Q) : PA X es t' := ⟨fun pos pins s σ H Q I q => h.run pos pins s σ H Q I (k σ H Q q)⟩
theorem PS.imp {t t' : TS} (h : PS X st t) (k : ∀ D σ H, t' D σ H → t D σ H) : PS X st t' := ⟨fun pins s σ H D I q => h.run pins s σ H D I (k D σ H q)⟩
theorem PSs.imp {t t' : TS} (h : PSs X sts t) (k : ∀ D σ H, t' D σ H → t D σ H) : PSs X sts t' := ⟨fun pins s σ H D I q => h.run pins s σ H D I (k D σ H q)⟩
end

/-! ### names, constants -/
section
variable {G : Gc} {W : WX} {X : Cx} {pos : Pos}
def vVar (i : Nat) : Sm U := fun ρ μ => match ρ[i]? with
  | some (some u) => .ok u μ
  | _ => .bad
def vC (d : D) : Sm U := fun _ μ => .ok (.d d) μ
theorem i_var {i : Nat} {x : Str} (hN : X.N[i]? = some x) (hv : Vis X.env.scope x) (hd : (x == ("__debug__" : Str)) = false := by decide) (hcd : (x == ("__classdict__" : Str)) = false := by decide) : PE X (.Name x pos) (rdE G W (vVar i)) :=
  PE.imp (pe_var hN hv hd hcd) fun σ H Q ⟨Z, φ, ρ, μ, sr, po⟩ => by
    unfold vVar at po
    split at po
    · rename_i u hu
      obtain ⟨x, e, r⟩ := sr.sl.get hu
      exact ⟨x, e, po φ H x Go.refl sr.rep r⟩
    · exact False.elim po
/-- a constant of scalars -/
def scD : D → V → Prop
  | .non, v => v = .non
  | .bl b, v => v = .bl b
  | .int i, v => v = .int i
  | .str x, v => v = .str x
  | _, _ => False
theorem scD.rp {S : Addr → Prop} {H : Hp} {d : D} {v : V} (h : scD d v) : Rp G S H d v := by
  cases d <;> first | exact h | exact False.elim h
theorem i_c {e : Expr} {d : D} {v : V} (h : PE X e (tC v)) (r : scD d v) : PE X e (rdE G W (vC d)) :=
  PE.imp h fun σ H Q ⟨Z, φ, ρ, μ, sr, po⟩ => po φ H v Go.refl sr.rep (scD.rp r)
theorem i_int {i : Int} {j : Nat} : PE X (.Constant (.int i) j pos) (rdE G W (vC (.int i))) := i_c pe_int rfl
theorem i_bl {b : Bool} {j : Nat} : PE X (.Constant (.bool b) j pos) (rdE G W (vC (.bl b))) := i_c pe_bl rfl
theorem i_non {j : Nat} : PE X (.Constant .none j pos) (rdE G W (vC .non)) := i_c pe_non rfl
theorem i_str {x : Str} {j : Nat} : PE X (.Constant (.str x) j pos) (rdE G W (vC (.str x))) := i_c pe_str rfl
theorem i_glob {x : Str} {v : V} {u : Value} {d : D} (hg : Gl X x) (hm : X.mg x = some u) (r : RelV v u) (rd : scD d v) (hd : (x == ("__debug__" : Str)) = false := by decide) : PE X (.Name x pos) (rdE G W (vC d)) := i_c (pe_glob hg hm r hd) rd
end

/-! ### operations by values -/
/-- f tells what the reading r of two values asks -/
def Op2 (G : Gc) (f : U → U → Mu → Res U) (r : R2) : Prop := ∀ (Z : Addr → Prop) (W : WX) (φ : List Addr) (μ : Mu) (H : Hp) (σ : L2.St) (x y : V) (u w : U) (Q : VK), Rep G Z φ H μ → RpU G φ (Sof Z φ μ) H u x → RpU G φ (Sof Z φ μ) H w y → Po (RpU G) G Z W φ μ H σ (f u w μ) Q → r x y H Q
def Op1 (G : Gc) (f : U → Mu → Res U) (r : V → Hp → VK → Prop) : Prop := ∀ (Z : Addr → Prop) (W : WX) (φ : List Addr) (μ : Mu) (H : Hp) (σ : L2.St) (x : V) (u : U) (Q : VK), Rep G Z φ H μ → RpU G φ (Sof Z φ μ) H u x → Po (RpU G) G Z W φ μ H σ (f u μ) Q → r x H Q
def OpN (G : Gc) (f : List U → Mu → Res U) (r : List V → Hp → VK → Prop) : Prop := ∀ (Z : Addr → Prop) (W : WX) (φ : List Addr) (μ : Mu) (H : Hp) (σ : L2.St) (xs : List V) (us : List U) (Q : VK), Rep G Z φ H μ → RpUs G φ (Sof Z φ μ) H us xs → Po (RpU G) G Z W φ μ H σ (f us μ) Q → r xs H Q
def v2 (f : U → U → Mu → Res U) (ma mb : Sm U) : Sm U := fun ρ μ => (ma ρ μ).bind fun u μ1 => (mb ρ μ1).bind fun w μ2 => f u w μ2
def v1 (f : U → Mu → Res U) (ma : Sm U) : Sm U := fun ρ μ => (ma ρ μ).bind f
def vN (f : List U → Mu → Res U) (ma : Sm (List U)) : Sm U := fun ρ μ => (ma ρ μ).bind f
section
variable {G : Gc} {W : WX} {X : Cx} {pos : Pos} {a b : Expr} {ma mb : Sm U}
theorem rd2 {f : U → U → Mu → Res U} {r : R2} (hf : Op2 G f r) (σ : L2.St) (H : Hp) (Q : VK) (h : rdE G W (v2 f ma mb) σ H Q) : tOp r (rdE G W ma) (rdE G W mb) σ H Q := by
  obtain ⟨Z, φ, ρ, μ, sr, po⟩ := h
  refine rd_mono (po_step (R1 := RpU G) sr po) fun x H1 ⟨φ1, μ1, u, g1, sr1, ru, po1⟩ => ?_
  refine rd_mono (po_step (R1 := RpU G) sr1 po1) fun y H2 ⟨φ2, μ2, w, g2, sr2, rw, po2⟩ => ?_
  exact hf Z W φ2 μ2 H2 σ x y u w Q sr2.rep (ru.mono g2) rw po2
theorem rd1 {f : U → Mu → Res U} {r : V → Hp → VK → Prop} (hf : Op1 G f r) (σ : L2.St) (H : Hp) (Q : VK) (h : rdE G W (v1 f ma) σ H Q) : tUn r (rdE G W ma) σ H Q := by
  obtain ⟨Z, φ, ρ, μ, sr, po⟩ := h
  refine rd_mono (po_step (R1 := RpU G) sr po) fun x H1 ⟨φ1, μ1, u, g1, sr1, ru, po1⟩ => ?_
  exact hf Z W φ1 μ1 H1 σ x u Q sr1.rep ru po1
theorem i_bin {op : Operator} {r : R2} {f : U → U → Mu → Res U} (ho : OpR X (binaryOp op) r) (hf : Op2 G f r) (ha : PE X a (rdE G W ma)) (hb : PE X b (rdE G W mb)) : PE X (.BinOp a op b pos) (rdE G W (v2 f ma mb)) :=
  PE.imp (pe_op ho ha hb) (rd2 hf)
theorem i_un {op : UnaryOp} {r : V → Hp → VK → Prop} {f : U → Mu → Res U} (ho : UnR X (unaryOp op) r) (hf : Op1 G f r) (ha : PE X a (rdE G W ma)) : PE X (.UnaryOp op a pos) (rdE G W (v1 f ma)) :=
  PE.imp (pe_un ho ha) (rd1 hf)
theorem i_cmp {op : CmpOp} {r : R2} {f : U → U → Mu → Res U} (ho : OpR X (compareOp op) r) (hf : Op2 G f r) (ha : PE X a (rdE G W ma)) (hb : PE X b (rdE G W mb)) (hm : behindInMarks op b = false) : PE X (.Compare a [op] [b] pos) (rdE G W (v2 f ma mb)) :=
  PE.imp (pe_cmpR ho ha hb hm) (rd2 hf)
theorem i_ix {r : R2} {f : U → U → Mu → Res U} (hr : IxR X r) (hf : Op2 G f r) (ha : PE X a (rdE G W ma)) (hb : PE X b (rdE G W mb)) (hs : PlainIx b) : PE X (.Subscript a b pos) (rdE G W (v2 f ma mb)) :=
  PE.imp (pe_ix hr ha hb hs) (rd2 hf)

/-! ### tests -/
def tOf (m : Sm U) : Sm Bool := fun ρ μ => (m ρ μ).bind fun u μ1 => match u with
  | .d (.bl b) => .ok b μ1
  | _ => .bad
theorem rdTest {m : Sm U} (σ : L2.St) (H : Hp) (Q : Bool → Hp → Prop) (h : rdT G W (tOf m) σ H Q) : tTest (rdE G W m) σ H Q := by
  obtain ⟨Z, φ, ρ, μ, sr, po⟩ := h
  refine rd_mono (po_step (R1 := RpU G) sr po) fun x H1 ⟨φ1, μ1, u, g1, sr1, ru, po1⟩ => ?_
  split at po1
  · rename_i b
    exact ⟨b, ru, po1 φ1 H1 b Go.refl sr1.rep rfl⟩
  · exact False.elim po1
theorem i_tcmp {op : CmpOp} {r : R2} {f : U → U → Mu → Res U} (ho : OpR X (compareOp op) r) (hf : Op2 G f r) (ha : PE X a (rdE G W ma)) (hb : PE X b (rdE G W mb)) (hm : behindInMarks op b = false) : PT X (.Compare a [op] [b] pos) (rdT G W (tOf (v2 f ma mb))) :=
  PT.imp (pt_cmpR ho ha hb hm) fun σ H Q h => by
    have k := rdTest σ H Q h
    obtain ⟨Z, φ, ρ, μ, sr, po⟩ := k
    exact rd2 hf σ H _ ⟨Z, φ, ρ, μ, sr, po⟩
theorem i_tval {e : Expr} {m : Sm U} (h : PE X e (rdE G W m)) (he : ∀ whole, isTrue e X.env whole = (do let v ← whole; standAt e.pos; holding [v] (truthy v)) := by intro _; rfl) : PT X e (rdT G W (tOf m)) :=
  PT.imp (pt_val h he) fun σ H Q q => rdTest σ H Q q
def tAnd' (s t : Sm Bool) : Sm Bool := fun ρ μ => (s ρ μ).bind fun b μ1 => if b = true then t ρ μ1 else .ok false μ1
def tOr' (s t : Sm Bool) : Sm Bool := fun ρ μ => (s ρ μ).bind fun b μ1 => if b = true then .ok true μ1 else t ρ μ1
def tNot' (s : Sm Bool) : Sm Bool := fun ρ μ => (s ρ μ).bind fun b μ1 => .ok (!b) μ1
variable {tA tB : Sm Bool} {rest : List Expr}
theorem i_wand1 (ha : PT X a (rdT G W tA)) : PW X (.BoolOp .And [a] pos) (rdT G W tA) := pw_and1 ha
theorem i_wor1 (ha : PT X a (rdT G W tA)) : PW X (.BoolOp .Or [a] pos) (rdT G W tA) := pw_or1 ha
theorem i_wand (ha : PT X a (rdT G W tA)) (hb : PW X (.BoolOp .And (b :: rest) pos) (rdT G W tB)) : PW X (.BoolOp .And (a :: b :: rest) pos) (rdT G W (tAnd' tA tB)) :=
  PW.imp (pw_and ha hb) fun σ H Q ⟨Z, φ, ρ, μ, sr, po⟩ => by
    refine rd_mono (po_step (R1 := RlB) sr po) fun x H1 ⟨φ1, μ1, u, g1, sr1, ru, po1⟩ => ?_
    obtain rfl : u = x := ru
    cases u with
    | true =>
      rw [if_pos rfl] at po1 ⊢
      exact ⟨Z, φ1, ρ, μ1, sr1, po1⟩
    | false =>
      rw [if_neg Bool.false_ne_true] at po1 ⊢
      exact po1 φ1 H1 false Go.refl sr1.rep rfl
theorem i_wor (ha : PT X a (rdT G W tA)) (hb : PW X (.BoolOp .Or (b :: rest) pos) (rdT G W tB)) : PW X (.BoolOp .Or (a :: b :: rest) pos) (rdT G W (tOr' tA tB)) :=
  PW.imp (pw_or ha hb) fun σ H Q ⟨Z, φ, ρ, μ, sr, po⟩ => by
    refine rd_mono (po_step (R1 := RlB) sr po) fun x H1 ⟨φ1, μ1, u, g1, sr1, ru, po1⟩ => ?_
    obtain rfl : u = x := ru
    cases u with
    | true =>
      rw [if_pos rfl] at po1 ⊢
      exact po1 φ1 H1 true Go.refl sr1.rep rfl
    | false =>
      rw [if_neg Bool.false_ne_true] at po1 ⊢
      exact ⟨Z, φ1, ρ, μ1, sr1, po1⟩
theorem i_tnot (ha : PT X a (rdT G W tA)) : PT X (.UnaryOp .Not a pos) (rdT G W (tNot' tA)) :=
  PT.imp (pt_not ha) fun σ H Q ⟨Z, φ, ρ, μ, sr, po⟩ => by
    refine rd_mono (po_step (R1 := RlB) sr po) fun x H1 ⟨φ1, μ1, u, g1, sr1, ru, po1⟩ => ?_
    obtain rfl : u = x := ru
    exact po1 φ1 H1 (!u) Go.refl sr1.rep rfl
/-! ### and, or, not as values; a if t else b -/
def vAnd (s t : Sm U) : Sm U := fun ρ μ => (s ρ μ).bind fun u μ1 => match u with
  | .d (.bl true) => t ρ μ1
  | .d (.bl false) => .ok (.d (.bl false)) μ1
  | _ => .bad
def vOr (s t : Sm U) : Sm U := fun ρ μ => (s ρ μ).bind fun u μ1 => match u with
  | .d (.bl false) => t ρ μ1
  | .d (.bl true) => .ok (.d (.bl true)) μ1
  | _ => .bad
def vNot (s : Sm U) : Sm U := fun ρ μ => (s ρ μ).bind fun u μ1 => match u with
  | .d (.bl b) => .ok (.d (.bl (!b))) μ1
  | _ => .bad
def vIf (c : Sm Bool) (s t : Sm U) : Sm U := fun ρ μ => (c ρ μ).bind fun b μ1 => if b = true then s ρ μ1 else t ρ μ1
theorem i_one {op : BoolOp} (h : PE X a (rdE G W ma)) : PE X (.BoolOp op [a] pos) (rdE G W ma) := pe_one h
theorem i_and (ha : PE X a (rdE G W ma)) (hb : PE X (.BoolOp .And (b :: rest) pos) (rdE G W mb)) : PE X (.BoolOp .And (a :: b :: rest) pos) (rdE G W (vAnd ma mb)) :=
  PE.imp (pe_and ha hb) fun σ H Q ⟨Z, φ, ρ, μ, sr, po⟩ => by
    refine rd_mono (po_step (R1 := RpU G) sr po) fun x H1 ⟨φ1, μ1, u, g1, sr1, ru, po1⟩ => ?_
    split at po1
    · exact ⟨true, ru, by rw [if_pos rfl]; exact ⟨Z, φ1, ρ, μ1, sr1, po1⟩⟩
    · exact ⟨false, ru, by rw [if_neg Bool.false_ne_true]; exact po1 φ1 H1 _ Go.refl sr1.rep rfl⟩
    · exact False.elim po1
theorem i_or (ha : PE X a (rdE G W ma)) (hb : PE X (.BoolOp .Or (b :: rest) pos) (rdE G W mb)) : PE X (.BoolOp .Or (a :: b :: rest) pos) (rdE G W (vOr ma mb)) :=
  PE.imp (pe_or ha hb) fun σ H Q ⟨Z, φ, ρ, μ, sr, po⟩ => by
    refine rd_mono (po_step (R1 := RpU G) sr po) fun x H1 ⟨φ1, μ1, u, g1, sr1, ru, po1⟩ => ?_
    split at po1
    · exact ⟨false, ru, by rw [if_neg Bool.false_ne_true]; exact ⟨Z, φ1, ρ, μ1, sr1, po1⟩⟩
    · exact ⟨true, ru, by rw [if_pos rfl]; exact po1 φ1 H1 _ Go.refl sr1.rep rfl⟩
    · exact False.elim po1
theorem i_not (ha : PE X a (rdE G W ma)) : PE X (.UnaryOp .Not a pos) (rdE G W (vNot ma)) :=
  PE.imp (pe_not ha) fun σ H Q ⟨Z, φ, ρ, μ, sr, po⟩ => by
    refine rd_mono (po_step (R1 := RpU G) sr po) fun x H1 ⟨φ1, μ1, u, g1, sr1, ru, po1⟩ => ?_
    split at po1
    · rename_i c
      exact ⟨c, ru, po1 φ1 H1 _ Go.refl sr1.rep rfl⟩
    · exact False.elim po1
theorem i_ifexp {c : Expr} {tc : Sm Bool} (hc : PT X c (rdT G W tc)) (ha : PE X a (rdE G W ma)) (hb : PE X b (rdE G W mb)) : PE X (.IfExp c a b pos) (rdE G W (vIf tc ma mb)) :=
  PE.imp (pe_ifExp hc ha hb) fun σ H Q ⟨Z, φ, ρ, μ, sr, po⟩ => by
    refine rd_mono (po_step (R1 := RlB) sr po) fun x H1 ⟨φ1, μ1, u, g1, sr1, ru, po1⟩ => ?_
    obtain rfl : u = x := ru
    cases u with
    | true => rw [if_pos rfl] at po1 ⊢; exact ⟨Z, φ1, ρ, μ1, sr1, po1⟩
    | false => rw [if_neg Bool.false_ne_true] at po1 ⊢; exact ⟨Z, φ1, ρ, μ1, sr1, po1⟩
/-! ### arguments -/
def aNil : Sm (List U) := fun _ μ => .ok [] μ
def aCons (m : Sm U) (r : Sm (List U)) : Sm (List U) := fun ρ μ => (m ρ μ).bind fun u μ1 => (r ρ μ1).bind fun us μ2 => .ok (u :: us) μ2
theorem i_anil : PA X [] (rdA G W aNil) := PA.imp pa_nil fun σ H Q ⟨Z, φ, ρ, μ, sr, po⟩ => po φ H [] Go.refl sr.rep rfl
theorem i_acons {e : Expr} {es : List Expr} {m : Sm U} {r : Sm (List U)} (ha : PE X e (rdE G W m)) (hr : PA X es (rdA G W r)) (hs : starEach (e :: es) X.env = (false, eval e X.env) :: starEach es X.env := by rfl) : PA X (e :: es) (rdA G W (aCons m r)) :=
  PA.imp (pa_cons ha hr hs) fun σ H Q ⟨Z, φ, ρ, μ, sr, po⟩ => by
    refine rd_mono (po_step (R1 := RpU G) sr po) fun x H1 ⟨φ1, μ1, u, g1, sr1, ru, po1⟩ => ?_
    refine rd_mono (po_step (R1 := RpUs G) sr1 po1) fun xs H2 ⟨φ2, μ2, us, g2, sr2, rus, po2⟩ => ?_
    exact po2 φ2 H2 (x :: xs) Go.refl sr2.rep ⟨x, xs, rfl, ru.mono g2, rus⟩
theorem rdN {f : List U → Mu → Res U} {r : List V → Hp → VK → Prop} {m : Sm (List U)} (hf : OpN G f r) (σ : L2.St) (H : Hp) (Q : VK) (h : rdE G W (vN f m) σ H Q) : tCB r (rdA G W m) σ H Q := by
  obtain ⟨Z, φ, ρ, μ, sr, po⟩ := h
  refine rd_mono (po_step (R1 := RpUs G) sr po) fun xs H1 ⟨φ1, μ1, us, g1, sr1, rus, po1⟩ => ?_
  exact hf Z W φ1 μ1 H1 σ xs us Q sr1.rep rus po1
end
end Iv
set_option Elab.async false
set_option linter.all false
set_option maxRecDepth 100000
set_option maxHeartbeats 2000000
set_option autoImplicit false
/-! Iv, part C: the store's moves; what is frozen; displays; statements; targets. -/
namespace Iv
open PySem PySem.Spec PyProof.Rows L2

section
variable {G : Gc} {Z : Addr → Prop} {φ φ' : List Addr} {μ μ' : Mu} {H H' : Hp}
theorem ObR.mono (g : Go Z φ μ H φ' μ' H') {a : Addr} : ∀ {ob : Ob}, (ob.live = true → ∀ o, H a = some o → H' a = some o) → ObR G φ (Sof Z φ μ) H a ob → ObR G φ' (Sof Z φ' μ') H' a ob
  | .fz x, _, h => Rp.mono g.ex h
  | .lst us, k, ⟨vs, e, r⟩ => ⟨vs, k rfl _ e, r.mono g⟩
  | .dic ks us, k, ⟨vs, e, l, r⟩ => ⟨vs, k rfl _ e, l, r.mono g⟩
  | .dit ks us, k, ⟨vs, e, l, r⟩ => ⟨vs, k rfl _ e, l, r.mono g⟩
  | .ins c ns us, k, ⟨dx, vs, e, l, r⟩ => ⟨dx, vs, k rfl _ e, l, r.mono g⟩
theorem Rep.out (r : Rep G Z φ H μ) {n : Nat} {a : Addr} {ob : Ob} (h1 : φ[n]? = some a) (h2 : μ[n]? = some ob) (h3 : ob.live = true) : ∃ o, H a = some o := by
  have h := r.at_ n a ob h1 h2
  cases ob with
  | fz x => cases h3
  | lst us => obtain ⟨vs, e, _⟩ := h; exact ⟨_, e⟩
  | dic ks us => obtain ⟨vs, e, _⟩ := h; exact ⟨_, e⟩
  | dit ks us => obtain ⟨vs, e, _⟩ := h; exact ⟨_, e⟩
  | ins c ns us => obtain ⟨dx, vs, e, _⟩ := h; exact ⟨_, e⟩
theorem Rep.there (r : Rep G Z φ H μ) {a : Addr} (h : Sof Z φ μ a) : ∃ o, H a = some o := by
  rcases h with h | ⟨n, ob, h1, h2, h3⟩
  · obtain ⟨o, e, _⟩ := r.res a h
    exact ⟨o, e⟩
  · exact r.out h1 h2 h3
/-- a new object that stands still -/
theorem Go.newD (r : Rep G Z φ H μ) {p : Addr} {o : HO} (hp : H p = none) : Go Z φ μ H φ μ (upd H p o) :=
  ⟨fun _ _ h => h, ⟨fun a u h n _ => ⟨by rw [upd_ne (ne_of_none h hp)]; exact h, n⟩⟩, fun a h => by
    obtain ⟨w, e, _⟩ := r.res a h
    rw [upd_ne (ne_of_none e hp)]⟩
theorem Rep.newD (r : Rep G Z φ H μ) {p : Addr} {o : HO} (hp : H p = none) : Rep G Z φ (upd H p o) μ where
  len := r.len
  one := r.one
  at_ := fun n a ob h1 h2 => (r.at_ n a ob h1 h2).mono (Go.newD r hp) fun _ u e => by rw [upd_ne (ne_of_none e hp)]; exact e
  res := fun a h => by
    obtain ⟨w, e, nt⟩ := r.res a h
    exact ⟨w, by rw [upd_ne (ne_of_none e hp)]; exact e, nt⟩
  apart := r.apart
  tab := r.tab.ext fun b u e => by rw [upd_ne (ne_of_none e hp)]; exact e
theorem getElem?_snoc {α : Type} {l : List α} {x y : α} {n : Nat} (h : (l ++ [x])[n]? = some y) : l[n]? = some y ∨ (n = l.length ∧ y = x) := by
  by_cases hn : n < l.length
  · rw [List.getElem?_append_left hn] at h
    exact .inl h
  · rw [List.getElem?_append_right (by omega)] at h
    have e : n - l.length = 0 := by
      cases q : n - l.length with
      | zero => rfl
      | succ k => rw [q] at h; simp at h
    rw [e] at h
    exact .inr ⟨by omega, (Option.some.inj h).symm⟩
theorem snoc_of {α : Type} {l : List α} {x y : α} {n : Nat} (h : l[n]? = some y) : (l ++ [x])[n]? = some y := by
  have hn : n < l.length := (List.getElem?_eq_some_iff.mp h).1
  rw [List.getElem?_append_left hn]
  exact h
theorem snoc_last {α : Type} {l : List α} {x : α} : (l ++ [x])[l.length]? = some x := by simp
theorem Sof.snoc (hl : φ.length = μ.length) {p a : Addr} {ob : Ob} (h : Sof Z (φ ++ [p]) (μ ++ [ob]) a) : Sof Z φ μ a ∨ a = p := by
  rcases h with h | ⟨n, o, h1, h2, h3⟩
  · exact .inl (.inl h)
  rcases getElem?_snoc h1 with e1 | ⟨e1, e1'⟩
  · rcases getElem?_snoc h2 with e2 | ⟨e2, e2'⟩
    · exact .inl (.inr ⟨n, o, e1, e2, h3⟩)
    · have := (List.getElem?_eq_some_iff.mp e1).1
      omega
  · exact .inr e1'
/-- a new object that may change -/
theorem Go.newP (r : Rep G Z φ H μ) {p : Addr} {o : HO} {ob : Ob} (hp : H p = none) : Go Z φ μ H (φ ++ [p]) (μ ++ [ob]) (upd H p o) :=
  ⟨fun _ _ h => snoc_of h, ⟨fun a u h n _ => ⟨by rw [upd_ne (ne_of_none h hp)]; exact h, fun z => (Sof.snoc r.len z).elim n (ne_of_none h hp)⟩⟩, fun a h => by
    obtain ⟨w, e, _⟩ := r.res a h
    rw [upd_ne (ne_of_none e hp)]⟩
theorem Rep.newP (r : Rep G Z φ H μ) {p : Addr} {o : HO} {ob : Ob} (hp : H p = none) (h : ObR G (φ ++ [p]) (Sof Z (φ ++ [p]) (μ ++ [ob])) (upd H p o) p ob) : Rep G Z (φ ++ [p]) (upd H p o) (μ ++ [ob]) where
  len := by rw [List.length_append, List.length_append, r.len]; rfl
  one := fun n m a o1 u1 h1 h2 h3 h4 l1 l2 => by
    rcases getElem?_snoc h3 with e3 | ⟨e3, e3'⟩
    · rcases getElem?_snoc h4 with e4 | ⟨e4, e4'⟩
      · have z1 : n < φ.length := by have := (List.getElem?_eq_some_iff.mp e3).1; rw [r.len]; exact this
        have z2 : m < φ.length := by have := (List.getElem?_eq_some_iff.mp e4).1; rw [r.len]; exact this
        rw [List.getElem?_append_left z1] at h1
        rw [List.getElem?_append_left z2] at h2
        exact r.one n m a o1 u1 h1 h2 e3 e4 l1 l2
      · have z1 : n < φ.length := by have := (List.getElem?_eq_some_iff.mp e3).1; rw [r.len]; exact this
        rw [List.getElem?_append_left z1] at h1
        rw [e4, ← r.len, snoc_last] at h2
        obtain ⟨w, e⟩ := r.out h1 e3 l1
        cases h2
        rw [hp] at e; cases e
    · rcases getElem?_snoc h4 with e4 | ⟨e4, e4'⟩
      · have z2 : m < φ.length := by have := (List.getElem?_eq_some_iff.mp e4).1; rw [r.len]; exact this
        rw [List.getElem?_append_left z2] at h2
        rw [e3, ← r.len, snoc_last] at h1
        obtain ⟨w, e⟩ := r.out h2 e4 l2
        cases h1
        rw [hp] at e; cases e
      · omega
  at_ := fun n a ob1 h1 h2 => by
    rcases getElem?_snoc h2 with e2 | ⟨e2, e2'⟩
    · have z1 : n < φ.length := by have := (List.getElem?_eq_some_iff.mp e2).1; rw [r.len]; exact this
      rw [List.getElem?_append_left z1] at h1
      exact (r.at_ n a ob1 h1 e2).mono (Go.newP r hp) fun _ u e => by rw [upd_ne (ne_of_none e hp)]; exact e
    · rw [e2, ← r.len, snoc_last] at h1
      cases h1
      rw [e2']
      exact h
  res := fun a h => by
    obtain ⟨w, e, nt⟩ := r.res a h
    exact ⟨w, by rw [upd_ne (ne_of_none e hp)]; exact e, nt⟩
  apart := fun n a o1 h1 h2 l => by
    rcases getElem?_snoc h2 with e2 | ⟨e2, e2'⟩
    · have z1 : n < φ.length := by have := (List.getElem?_eq_some_iff.mp e2).1; rw [r.len]; exact this
      rw [List.getElem?_append_left z1] at h1
      exact r.apart n a o1 h1 e2 l
    · rw [e2, ← r.len, snoc_last] at h1
      cases h1
      intro z
      obtain ⟨w, e, _⟩ := r.res _ z
      rw [hp] at e; cases e
  tab := r.tab.ext fun b u e => by rw [upd_ne (ne_of_none e hp)]; exact e
/-- a place of the store is written -/
theorem Sof.set {n : Nat} {ob : Ob} (hn : ∃ o, μ[n]? = some o ∧ o.live = true) {a : Addr} (h : Sof Z φ (μ.set n ob) a) : Sof Z φ μ a := by
  rcases h with h | ⟨m, o, h1, h2, h3⟩
  · exact .inl h
  by_cases e : n = m
  · subst e
    obtain ⟨o', h4, h5⟩ := hn
    exact .inr ⟨n, o', h1, h4, h5⟩
  · rw [List.getElem?_set_ne e] at h2
    exact .inr ⟨m, o, h1, h2, h3⟩
theorem Go.wr (r : Rep G Z φ H μ) {n : Nat} {a : Addr} {o : HO} {ob ob' : Ob} (h1 : φ[n]? = some a) (h2 : μ[n]? = some ob) (h3 : ob.live = true) : Go Z φ μ H φ (μ.set n ob') (upd H a o) :=
  ⟨fun _ _ h => h, ⟨fun b u h hs _ => ⟨by rw [upd_ne (fun e => hs (by rw [e]; exact .inr ⟨n, ob, h1, h2, h3⟩))]; exact h, fun z => hs (Sof.set ⟨ob, h2, h3⟩ z)⟩⟩, fun b hb => by
    rw [upd_ne (fun e => r.apart n a ob h1 h2 h3 (by rw [← e]; exact hb))]⟩
theorem Rep.wr (r : Rep G Z φ H μ) {n : Nat} {a : Addr} {o : HO} {ob ob' : Ob} (h1 : φ[n]? = some a) (h2 : μ[n]? = some ob) (h3 : ob.live = true) (ht : ∀ ps, H a ≠ some (.tbl ps)) (hT : ∀ b, H a ≠ some (LamX.CodeO a b))
    (h : ObR G φ (Sof Z φ (μ.set n ob')) (upd H a o) a ob') : Rep G Z φ (upd H a o) (μ.set n ob') where
  len := by rw [List.length_set]; exact r.len
  one := fun i j b o1 u1 e1 e2 e3 e4 l1 l2 => by
    have back : ∀ {k : Nat} {w : Ob}, (μ.set n ob')[k]? = some w → w.live = true → ∃ w', μ[k]? = some w' ∧ w'.live = true := fun {k w} hk hw => by
      by_cases e : n = k
      · subst e; exact ⟨ob, h2, h3⟩
      · rw [List.getElem?_set_ne e] at hk; exact ⟨w, hk, hw⟩
    obtain ⟨w1, f1, g1⟩ := back e3 l1
    obtain ⟨w2, f2, g2⟩ := back e4 l2
    exact r.one i j b w1 w2 e1 e2 f1 f2 g1 g2
  at_ := fun m b ob1 e1 e2 => by
    by_cases e : n = m
    · subst e
      rw [h1] at e1
      cases e1
      have hn : n < μ.length := (List.getElem?_eq_some_iff.mp h2).1
      rw [List.getElem?_set_self hn] at e2
      cases e2
      exact h
    · rw [List.getElem?_set_ne e] at e2
      refine (r.at_ m b ob1 e1 e2).mono (Go.wr r h1 h2 h3) fun l u hu => ?_
      have ne : b ≠ a := fun z => by
        subst z
        exact e (r.one n m b ob ob1 h1 e1 h2 e2 h3 l)
      rw [upd_ne ne]; exact hu
  res := fun b hb => by
    obtain ⟨w, e, nt⟩ := r.res b hb
    exact ⟨w, by rw [upd_ne (fun e => r.apart n a ob h1 h2 h3 (by rw [← e]; exact hb))]; exact e, nt⟩
  apart := fun m b o1 e1 e2 l => by
    by_cases e : n = m
    · subst e
      exact r.apart n b ob e1 h2 h3
    · rw [List.getElem?_set_ne e] at e2
      exact r.apart m b o1 e1 e2 l
  tab := fun p hp => by
    obtain ⟨ps, a1, a2, a3⟩ := r.tab p hp
    have n1 : p.1 ≠ a := fun z => ht ps (by rw [← z]; exact a1)
    refine ⟨ps, by rw [upd_ne n1]; exact a1, a2, fun pos cv hc => ?_⟩
    obtain ⟨c, e1, e2⟩ := a3 pos cv hc
    refine ⟨c, e1, ?_⟩
    have n2 : c ≠ a := fun z => hT p.2 (by rw [← z]; exact e2)
    rw [upd_ne n2]; exact e2
/-- a place of the store stands still from now on -/
theorem Go.fz {n : Nat} {ob : Ob} {x : D} (h2 : μ[n]? = some ob) : Go Z φ μ H φ (μ.set n (.fz x)) H :=
  ⟨fun _ _ h => h, ⟨fun b u h hs _ => ⟨h, fun z => by
    rcases z with z | ⟨m, o, h1, h3, h4⟩
    · exact hs (.inl z)
    by_cases e : n = m
    · subst e
      have hn : n < μ.length := (List.getElem?_eq_some_iff.mp h2).1
      rw [List.getElem?_set_self hn] at h3
      cases h3
      cases h4
    · rw [List.getElem?_set_ne e] at h3
      exact hs (.inr ⟨m, o, h1, h3, h4⟩)⟩⟩, fun _ _ => rfl⟩
theorem Rep.fz (r : Rep G Z φ H μ) {n : Nat} {a : Addr} {ob : Ob} {x : D} (h1 : φ[n]? = some a) (h2 : μ[n]? = some ob) (h : Rp G (Sof Z φ (μ.set n (.fz x))) H x (.ref a)) : Rep G Z φ H (μ.set n (.fz x)) := by
  have hn : n < μ.length := (List.getElem?_eq_some_iff.mp h2).1
  have back : ∀ {k : Nat} {w : Ob}, (μ.set n (.fz x))[k]? = some w → w.live = true → μ[k]? = some w := fun {k w} hk hw => by
    by_cases e : n = k
    · subst e
      rw [List.getElem?_set_self hn] at hk
      cases hk
      cases hw
    · rw [List.getElem?_set_ne e] at hk; exact hk
  exact {
    len := by rw [List.length_set]; exact r.len
    one := fun i j b o1 u1 e1 e2 e3 e4 l1 l2 => r.one i j b o1 u1 e1 e2 (back e3 l1) (back e4 l2) l1 l2
    at_ := fun m b ob1 e1 e2 => by
      by_cases e : n = m
      · subst e
        rw [h1] at e1
        cases e1
        rw [List.getElem?_set_self hn] at e2
        cases e2
        exact h
      · rw [List.getElem?_set_ne e] at e2
        exact (r.at_ m b ob1 e1 e2).mono (Go.fz h2) fun _ u hu => hu
    res := r.res
    apart := fun m b o1 e1 e2 l => r.apart m b o1 e1 (back e2 l) l
    tab := r.tab }
end

/-! ### freezing -/
def frzLW (f : U → Mu → Option (D × Mu)) : List U → Mu → Option (List D × Mu)
  | [], μ => some ([], μ)
  | u :: us, μ => match f u μ with
    | some (d, μ1) => match frzLW f us μ1 with
      | some (ds, μ2) => some (d :: ds, μ2)
      | none => none
    | none => none
def frzU : Nat → U → Mu → Option (D × Mu)
  | _, .d x, μ => some (x, μ)
  | 0, .p _, _ => none
  | n + 1, .p k, μ => match μ[k]? with
    | some (.fz x) => some (x, μ)
    | some (.lst us) => match frzLW (frzU n) us μ with
      | some (ds, μ1) => some (.lst ds, μ1.set k (.fz (.lst ds)))
      | none => none
    | some (.dic ks us) => match frzLW (frzU n) us μ with
      | some (ds, μ1) => some (.dic ks ds, μ1.set k (.fz (.dic ks ds)))
      | none => none
    | some (.dit ks us) => match frzLW (frzU n) us μ with
      | some (ds, μ1) => some (.dit ks ds, μ1.set k (.fz (.dit ks ds)))
      | none => none
    | some (.ins c ns us) => match frzLW (frzU n) us μ with
      | some (ds, μ1) => some (.obj c ns ds, μ1.set k (.fz (.obj c ns ds)))
      | none => none
    | none => none
/-- places only stop living -/
structure Lv (μ μ' : Mu) : Prop where
  len : μ'.length = μ.length
  lv : ∀ (n : Nat) (o : Ob), μ'[n]? = some o → o.live = true → μ[n]? = some o
theorem Lv.refl (μ : Mu) : Lv μ μ := ⟨rfl, fun _ _ h _ => h⟩
theorem Lv.trans {μ μ1 μ2 : Mu} (a : Lv μ μ1) (b : Lv μ1 μ2) : Lv μ μ2 := ⟨b.len.trans a.len, fun n o h l => a.lv n o (b.lv n o h l) l⟩
theorem Lv.fz {μ : Mu} {n : Nat} {x : D} : Lv μ (μ.set n (.fz x)) := ⟨List.length_set, fun m o h l => by
  by_cases e : n = m
  · subst e
    by_cases hn : n < μ.length
    · rw [List.getElem?_set_self hn] at h
      cases h
      cases l
    · rw [List.getElem?_eq_none (by rw [List.length_set]; omega)] at h
      cases h
  · rw [List.getElem?_set_ne e] at h
    exact h⟩
theorem Lv.has {μ μ1 : Mu} (l : Lv μ μ1) {k : Nat} {ob : Ob} (h : μ[k]? = some ob) : ∃ o1, μ1[k]? = some o1 := by
  have hk : k < μ1.length := by rw [l.len]; exact (List.getElem?_eq_some_iff.mp h).1
  exact ⟨_, List.getElem?_eq_getElem hk⟩
structure Frz (G : Gc) (Z : Addr → Prop) (φ : List Addr) (H : Hp) (μ μ' : Mu) : Prop where
  go : Go Z φ μ H φ μ' H
  rep : Rep G Z φ H μ'
  lv : Lv μ μ'
section
variable {G : Gc} {Z : Addr → Prop} {φ : List Addr} {H : Hp}
theorem frzLW_ok {f : U → Mu → Option (D × Mu)} (hf : ∀ {u : U} {μ μ' : Mu} {d : D} {v : V}, f u μ = some (d, μ') → Rep G Z φ H μ → RpU G φ (Sof Z φ μ) H u v → Frz G Z φ H μ μ' ∧ Rp G (Sof Z φ μ') H d v) :
    ∀ {us : List U} {μ μ' : Mu} {ds : List D} {vs : List V}, frzLW f us μ = some (ds, μ') → Rep G Z φ H μ → RpUs G φ (Sof Z φ μ) H us vs → Frz G Z φ H μ μ' ∧ RpL G (Sof Z φ μ') H ds vs
  | [], μ, μ', ds, vs, h, r, q => by
    cases h
    exact ⟨⟨Go.refl, r, Lv.refl μ⟩, q⟩
  | u :: us, μ, μ', ds, vs, h, r, q => by
    obtain ⟨v, vs', e, q1, q2⟩ := q
    unfold frzLW at h
    split at h
    · rename_i d μ1 hd
      split at h
      · rename_i ds' μ2 hds
        cases h
        obtain ⟨a1, a2⟩ := hf hd r q1
        obtain ⟨b1, b2⟩ := frzLW_ok hf hds a1.rep (q2.mono a1.go)
        exact ⟨⟨a1.go.trans b1.go, b1.rep, a1.lv.trans b1.lv⟩, v, vs', e, Rp.mono b1.go.ex a2, b2⟩
      · cases h
    · cases h
theorem nolive {μ μ1 : Mu} (r : Rep G Z φ H μ) (l : Lv μ μ1) {k : Nat} {a : Addr} {ob : Ob} {x : D} (h1 : φ[k]? = some a) (h2 : μ[k]? = some ob) (h3 : ob.live = true) : ¬ Sof Z φ (μ1.set k (.fz x)) a := fun z => by
  rcases z with z | ⟨m, o, e1, e2, e3⟩
  · exact r.apart k a ob h1 h2 h3 z
  have hk : k < μ1.length := by rw [l.len]; exact (List.getElem?_eq_some_iff.mp h2).1
  by_cases e : k = m
  · subst e
    rw [List.getElem?_set_self hk] at e2
    cases e2
    cases e3
  · rw [List.getElem?_set_ne e] at e2
    exact e (r.one k m a ob o h1 e1 h2 (l.lv m o e2 e3) h3 e3)
theorem frz_close {μ μ1 : Mu} (r : Rep G Z φ H μ) (F : Frz G Z φ H μ μ1) {k : Nat} {a : Addr} {ob : Ob} {x : D} (h1 : φ[k]? = some a) (h2 : μ[k]? = some ob)
    (h : Rp G (Sof Z φ (μ1.set k (.fz x))) H x (.ref a)) : Frz G Z φ H μ (μ1.set k (.fz x)) ∧ Rp G (Sof Z φ (μ1.set k (.fz x))) H x (.ref a) := by
  have hk : k < μ1.length := by rw [F.lv.len]; exact (List.getElem?_eq_some_iff.mp h2).1
  have e : μ1[k]? = some μ1[k] := List.getElem?_eq_getElem hk
  exact ⟨⟨F.go.trans (Go.fz e), F.rep.fz h1 e h, F.lv.trans Lv.fz⟩, h⟩
theorem frzU_ok : ∀ {n : Nat} {u : U} {μ μ' : Mu} {d : D} {v : V}, frzU n u μ = some (d, μ') → Rep G Z φ H μ → RpU G φ (Sof Z φ μ) H u v → Frz G Z φ H μ μ' ∧ Rp G (Sof Z φ μ') H d v
  | n, .d x, μ, μ', d, v, h, r, q => by
    have h' : some (x, μ) = some (d, μ') := by cases n <;> exact h
    cases h'
    exact ⟨⟨Go.refl, r, Lv.refl μ⟩, q⟩
  | 0, .p k, μ, μ', d, v, h, r, q => by cases h
  | n + 1, .p k, μ, μ', d, v, h, r, q => by
    obtain ⟨a, rfl, ha⟩ := q
    unfold frzU at h
    split at h
    · rename_i x hx
      cases h
      exact ⟨⟨Go.refl, r, Lv.refl μ⟩, r.at_ k a _ ha hx⟩
    · rename_i us hx
      split at h
      · rename_i ds μ1 hds
        cases h
        obtain ⟨vs, e, q⟩ := r.at_ k a _ ha hx
        obtain ⟨F, rl⟩ := frzLW_ok (fun hh rr qq => frzU_ok (n := n) hh rr qq) hds r q
        obtain ⟨o1, hk⟩ := F.lv.has hx
        exact frz_close r F ha hx ⟨a, vs, rfl, .inl ⟨nolive r F.lv ha hx rfl, .inl e⟩, RpL.mono (Go.fz hk).ex rl⟩
      · cases h
    · rename_i ks us hx
      split at h
      · rename_i ds μ1 hds
        cases h
        obtain ⟨vs, e, hl, q⟩ := r.at_ k a _ ha hx
        obtain ⟨F, rl⟩ := frzLW_ok (fun hh rr qq => frzU_ok (n := n) hh rr qq) hds r q
        obtain ⟨o1, hk⟩ := F.lv.has hx
        exact frz_close r F ha hx ⟨a, vs, rfl, nolive r F.lv ha hx rfl, .inl e, hl, RpL.mono (Go.fz hk).ex rl⟩
      · cases h
    · rename_i ks us hx
      split at h
      · rename_i ds μ1 hds
        cases h
        obtain ⟨vs, e, hl, q⟩ := r.at_ k a _ ha hx
        obtain ⟨F, rl⟩ := frzLW_ok (fun hh rr qq => frzU_ok (n := n) hh rr qq) hds r q
        obtain ⟨o1, hk⟩ := F.lv.has hx
        exact frz_close r F ha hx ⟨a, vs, rfl, nolive r F.lv ha hx rfl, .inl e, hl, RpL.mono (Go.fz hk).ex rl⟩
      · cases h
    · rename_i c ns us hx
      split at h
      · rename_i ds μ1 hds
        cases h
        obtain ⟨dx, vs, e, hl, q⟩ := r.at_ k a _ ha hx
        obtain ⟨F, rl⟩ := frzLW_ok (fun hh rr qq => frzU_ok (n := n) hh rr qq) hds r q
        obtain ⟨o1, hk⟩ := F.lv.has hx
        exact frz_close r F ha hx ⟨a, dx, vs, rfl, nolive r F.lv ha hx rfl, e, hl, RpL.mono (Go.fz hk).ex rl⟩
      · cases h
    · cases h
/-- a list of such -/
def frzL (us : List U) (μ : Mu) : Option (List D × Mu) := frzLW (frzU 9) us μ
theorem frzL_ok {us : List U} {μ μ' : Mu} {ds : List D} {vs : List V} (h : frzL us μ = some (ds, μ')) (r : Rep G Z φ H μ) (q : RpUs G φ (Sof Z φ μ) H us vs) : Frz G Z φ H μ μ' ∧ RpL G (Sof Z φ μ') H ds vs :=
  frzLW_ok (fun hh rr qq => frzU_ok hh rr qq) h r q
end
theorem frzL_d (ds : List D) (μ : Mu) : frzL (ds.map .d) μ = some (ds, μ) := by
  unfold frzL
  induction ds with
  | nil => rfl
  | cons d ds ih =>
    show (match frzU 9 (.d d) μ with | some (d, μ1) => (match frzLW (frzU 9) (ds.map .d) μ1 with | some (ds, μ2) => some (d :: ds, μ2) | none => none) | none => none) = _
    show (match frzLW (frzU 9) (ds.map .d) μ with | some (ds, μ2) => some (d :: ds, μ2) | none => none) = _
    rw [ih]
end Iv
set_option Elab.async false
set_option linter.all false
set_option maxRecDepth 100000
set_option maxHeartbeats 2000000
set_option autoImplicit false
/-! Iv, part D: displays, statements, targets, what is walked, loops, comprehensions. -/
namespace Iv
open PySem PySem.Spec PyProof.Rows L2

section
variable {G : Gc} {W : WX} {X : Cx} {pos : Pos} {e : Expr} {es : List Expr} {m : Sm U} {ma : Sm (List U)}
/-! ### displays -/
/-- a new tuple of data -/
def oTup (us : List U) (μ : Mu) : Res U := match frzL us μ with
  | some (ds, μ1) => if ds.length ≤ 100000 then .ok (.d (.tup ds)) μ1 else .bad
  | none => .bad
def oLst (us : List U) (μ : Mu) : Res U := match frzL us μ with
  | some (ds, μ1) => if ds.length ≤ 100000 then .ok (.d (.lst ds)) μ1 else .bad
  | none => .bad
/-- a new list that may change -/
def oLstP (us : List U) (μ : Mu) : Res U := if us.length ≤ 100000 then .ok (.p μ.length) (μ ++ [.lst us]) else .bad
theorem sz5 {n : Nat} (h : n ≤ 100000) : n ≤ sizeLine := Nat.le_trans h (by decide)
theorem RpL.length {S : Addr → Prop} {H : Hp} : ∀ {ds : List D} {vs : List V}, RpL G S H ds vs → vs.length = ds.length
  | [], _, h => by rw [show _ = [] from h]; rfl
  | d :: ds, _, ⟨v, r, e, a, b⟩ => by rw [e, List.length_cons, List.length_cons, RpL.length b]
theorem RpUs.length {φ : List Addr} {S : Addr → Prop} {H : Hp} : ∀ {us : List U} {vs : List V}, RpUs G φ S H us vs → vs.length = us.length
  | [], _, h => by rw [show _ = [] from h]; rfl
  | d :: ds, _, ⟨v, r, e, a, b⟩ => by rw [e, List.length_cons, List.length_cons, RpUs.length b]
theorem i_tup {k : Nat} (h : PA X es (rdA G W ma)) : PE X (.Tuple es k pos) (rdE G W (vN oTup ma)) :=
  PE.imp (pe_tup h) fun σ H Q ⟨Z, φ, ρ, μ, sr, po⟩ => by
    refine rd_mono (po_step (R1 := RpUs G) sr po) fun xs H1 ⟨φ1, μ1, us, g1, sr1, rus, po1⟩ => ?_
    unfold oTup at po1
    split at po1
    · rename_i ds μ2 hf
      split at po1
      · rename_i hl
        obtain ⟨F, rl⟩ := frzL_ok hf sr1.rep rus
        refine ⟨sz5 (by rw [rl.length]; exact hl), fun p hp => ?_⟩
        have g2 : Go Z φ1 μ2 H1 φ1 μ2 (upd H1 p (.tup xs)) := Go.newD F.rep hp
        have ns : ¬ Sof Z φ1 μ2 p := fun z => by
          obtain ⟨o, ho⟩ := F.rep.there z
          rw [hp] at ho; cases ho
        exact po1 φ1 _ _ (F.go.trans g2) (F.rep.newD hp) ⟨p, xs, rfl, .inl ⟨ns, .inl upd_same⟩, RpL.mono g2.ex rl⟩
      · exact False.elim po1
    · exact False.elim po1
theorem i_lst (h : PA X es (rdA G W ma)) : PE X (.List es pos) (rdE G W (vN oLst ma)) :=
  PE.imp (pe_lst h) fun σ H Q ⟨Z, φ, ρ, μ, sr, po⟩ => by
    refine rd_mono (po_step (R1 := RpUs G) sr po) fun xs H1 ⟨φ1, μ1, us, g1, sr1, rus, po1⟩ => ?_
    unfold oLst at po1
    split at po1
    · rename_i ds μ2 hf
      split at po1
      · rename_i hl
        obtain ⟨F, rl⟩ := frzL_ok hf sr1.rep rus
        refine ⟨sz5 (by rw [rl.length]; exact hl), fun p hp => ?_⟩
        have g2 : Go Z φ1 μ2 H1 φ1 μ2 (upd H1 p (.lst xs)) := Go.newD F.rep hp
        have ns : ¬ Sof Z φ1 μ2 p := fun z => by
          obtain ⟨o, ho⟩ := F.rep.there z
          rw [hp] at ho; cases ho
        exact po1 φ1 _ _ (F.go.trans g2) (F.rep.newD hp) ⟨p, xs, rfl, .inl ⟨ns, .inl upd_same⟩, RpL.mono g2.ex rl⟩
      · exact False.elim po1
    · exact False.elim po1
theorem i_lstP (h : PA X es (rdA G W ma)) : PE X (.List es pos) (rdE G W (vN oLstP ma)) :=
  PE.imp (pe_lst h) fun σ H Q ⟨Z, φ, ρ, μ, sr, po⟩ => by
    refine rd_mono (po_step (R1 := RpUs G) sr po) fun xs H1 ⟨φ1, μ1, us, g1, sr1, rus, po1⟩ => ?_
    unfold oLstP at po1
    split at po1
    · rename_i hl
      refine ⟨sz5 (by rw [rus.length]; exact hl), fun p hp => ?_⟩
      have g2 : Go Z φ1 μ1 H1 (φ1 ++ [p]) (μ1 ++ [.lst us]) (upd H1 p (.lst xs)) := Go.newP sr1.rep hp
      exact po1 _ _ _ g2 (sr1.rep.newP hp ⟨xs, upd_same, rus.mono g2⟩) ⟨p, rfl, by rw [← sr1.rep.len]; exact snoc_last⟩
    · exact False.elim po1

/-! ### statements -/
def sNil : SmS := fun ρ μ => .nx ρ μ
def sSeq (a b : SmS) : SmS := fun ρ μ => match a ρ μ with
  | .nx ρ1 μ1 => b ρ1 μ1
  | r => r
def sIf (c : Sm Bool) (a b : SmS) : SmS := fun ρ μ => (c ρ μ).thenS ρ fun t μ1 => if t = true then a ρ μ1 else b ρ μ1
def sRet (m : Sm U) : SmS := fun ρ μ => (m ρ μ).thenS ρ fun u μ1 => .ret u μ1
def sRetN : SmS := fun _ μ => .ret (.d .non) μ
def sExpr (m : Sm U) : SmS := fun ρ μ => (m ρ μ).thenS ρ fun _ μ1 => .nx ρ μ1
def sSet (i : Nat) (m : Sm U) : SmS := fun ρ μ => (m ρ μ).thenS ρ fun u μ1 => .nx (ρ.set i (some u)) μ1
def sBrk : SmS := fun ρ μ => .brk ρ μ
def sCt : SmS := fun ρ μ => .ct ρ μ
variable {st : Stmt} {sts : List Stmt} {a b : SmS} {tc : Sm Bool}
theorem i_pnil : PSs X [] (rdS G W sNil) := PSs.imp pss_nil fun D σ H ⟨Z, φ, ρ, μ, sr, po⟩ => po φ H σ Go.refl sr
theorem rdSeq (D : Ends) (σ : L2.St) (H : Hp) (h : rdS G W (sSeq a b) D σ H) : tSeq (rdS G W a) (rdS G W b) D σ H := by
  obtain ⟨Z, φ, ρ, μ, sr, po⟩ := h
  refine ⟨Z, φ, ρ, μ, sr, ?_⟩
  unfold sSeq at po
  cases e : a ρ μ with
  | nx ρ1 μ1 => rw [e] at po; exact fun φ1 H1 σ1 g s => ⟨Z, φ1, ρ1, μ1, s, PoS.go g po⟩
  | ret u μ1 => rw [e] at po; exact po
  | brk ρ1 μ1 => rw [e] at po; exact po
  | ct ρ1 μ1 => rw [e] at po; exact po
  | err c ns vs ρ1 μ1 => rw [e] at po; exact po
  | bad => rw [e] at po; exact po
theorem i_pcons (h1 : PS X st (rdS G W a)) (h2 : PSs X sts (rdS G W b)) : PSs X (st :: sts) (rdS G W (sSeq a b)) := PSs.imp (pss_cons h1 h2) rdSeq
theorem i_pone (h1 : PS X st (rdS G W a)) : PSs X [st] (rdS G W a) := pss_one h1
theorem i_pass : PS X (.Pass pos) (rdS G W sNil) := PS.imp ps_pass fun D σ H ⟨Z, φ, ρ, μ, sr, po⟩ => po φ H σ Go.refl sr
theorem i_brk : PS X (.Break pos) (rdS G W sBrk) := PS.imp ps_break fun D σ H ⟨Z, φ, ρ, μ, sr, po⟩ => po φ H σ Go.refl sr
theorem i_ct : PS X (.Continue pos) (rdS G W sCt) := PS.imp ps_continue fun D σ H ⟨Z, φ, ρ, μ, sr, po⟩ => po φ H σ Go.refl sr
theorem i_if {c : Expr} {ba bb : List Stmt} (hc : PT X c (rdT G W tc)) (ha : PSs X ba (rdS G W a)) (hb : PSs X bb (rdS G W b)) : PS X (.If c ba bb pos) (rdS G W (sIf tc a b)) :=
  PS.imp (ps_if hc ha hb) fun D σ H ⟨Z, φ, ρ, μ, sr, po⟩ => by
    refine rd_mono (pos_step (R1 := RlB) sr po) fun x H1 ⟨φ1, μ1, u, g1, sr1, ru, po1⟩ => ?_
    obtain rfl : u = x := ru
    cases u with
    | true => rw [if_pos rfl] at po1 ⊢; exact ⟨Z, φ1, ρ, μ1, sr1, po1⟩
    | false => rw [if_neg Bool.false_ne_true] at po1 ⊢; exact ⟨Z, φ1, ρ, μ1, sr1, po1⟩
theorem i_ret (he : PE X e (rdE G W m)) : PS X (.Return (some e) pos) (rdS G W (sRet m)) :=
  PS.imp (ps_ret he) fun D σ H ⟨Z, φ, ρ, μ, sr, po⟩ => by
    refine rd_mono (pos_step (R1 := RpU G) sr po) fun x H1 ⟨φ1, μ1, u, g1, sr1, ru, po1⟩ => ?_
    exact po1 φ1 H1 x Go.refl sr1.rep ru
theorem i_retN : PS X (.Return none pos) (rdS G W sRetN) := PS.imp ps_retN fun D σ H ⟨Z, φ, ρ, μ, sr, po⟩ => po φ H .non Go.refl sr.rep rfl
theorem i_expr (he : PE X e (rdE G W m)) (hs : swapsWith e none pos.line X.env = pure false := by rfl) : PS X (.Expr e pos) (rdS G W (sExpr m)) :=
  PS.imp (ps_expr he hs) fun D σ H ⟨Z, φ, ρ, μ, sr, po⟩ => by
    refine rd_mono (pos_step (R1 := RpU G) sr po) fun x H1 ⟨φ1, μ1, u, g1, sr1, ru, po1⟩ => ?_
    exact po1 φ1 H1 σ Go.refl sr1
theorem rdSet {i : Nat} (D : Ends) (σ : L2.St) (H : Hp) (h : rdS G W (sSet i m) D σ H) : tAsg (rdE G W m) (gName i) D σ H := by
  obtain ⟨Z, φ, ρ, μ, sr, po⟩ := h
  refine rd_mono (pos_step (R1 := RpU G) sr po) fun x H1 ⟨φ1, μ1, u, g1, sr1, ru, po1⟩ => ?_
  exact po1 φ1 H1 _ Go.refl ⟨sr1.rep, sr1.sl.put i ru⟩
theorem i_set {i : Nat} {x : Str} {pos' : Pos} (hN : X.N.Nodup) (hi : X.N[i]? = some x) (hx : Loc X.env.scope x) (he : PE X e (rdE G W m)) (hs : swapsWith e (some (.Name x pos')) pos.line X.env = pure false := by rfl) (hf : X.fn x = true ∨ X.env.scope.names.lookup x = some .local := by first | exact .inl rfl | exact .inr rfl | assumption) :
    PS X (.Assign [.Name x pos'] e pos) (rdS G W (sSet i m)) := PS.imp (ps_set hN hi hx he hs hf) rdSet
end

/-! ### targets -/
inductive Tg where
  | nm (i : Nat) | tp (l : List Tg)
/-- what is unpacked -/
def U.parts : U → Option (List U)
  | .d (.tup ds) => some (ds.map .d)
  | _ => none
mutual
def tgG (K : PySem.W.Frag) : Tg → TG
  | .nm i => gName i
  | .tp l => gTup K l.length (tgGs K l)
def tgGs (K : PySem.W.Frag) : List Tg → TGs
  | [] => gNil
  | t :: r => gCons (tgG K t) (tgGs K r)
end
mutual
def tgM : Tg → U → Rho → Option Rho
  | .nm i, u, ρ => some (ρ.set i (some u))
  | .tp l, u, ρ => match u.parts with
    | some us => tgMs l us ρ
    | none => none
def tgMs : List Tg → List U → Rho → Option Rho
  | [], [], ρ => some ρ
  | t :: r, u :: us, ρ => match tgM t u ρ with
    | some ρ1 => tgMs r us ρ1
    | none => none
  | _, _, _ => none
end
mutual
def Tg.slots : Tg → List Nat
  | .nm i => [i]
  | .tp l => Tg.slotsL l
def Tg.slotsL : List Tg → List Nat
  | [] => []
  | t :: r => t.slots ++ Tg.slotsL r
end
theorem wipe_set {x : Option V} {i : Nat} : ∀ {vs : List Nat} {σ : L2.St}, i ∈ vs → wipe (σ.set i x) vs = wipe σ vs
  | v :: vs, σ, h => by
    show (wipe (σ.set i x) vs).set v none = (wipe σ vs).set v none
    by_cases hi : i ∈ vs
    · rw [wipe_set hi]
    · have e : i = v := (List.mem_cons.mp h).elim id fun z => absurd z hi
      subst e
      have k : ∀ (ws : List Nat) (τ : L2.St), i ∉ ws → wipe (τ.set i x) ws = (wipe τ ws).set i x := by
        intro ws
        induction ws with
        | nil => intro τ _; rfl
        | cons w ws ih =>
          intro τ hw
          show (wipe (τ.set i x) ws).set w none = ((wipe τ ws).set w none).set i x
          rw [ih τ fun z => hw (List.mem_cons_of_mem _ z)]
          exact List.set_comm _ _ (fun z => hw (by rw [z]; exact List.mem_cons_self))
      rw [k vs σ hi, List.set_set]
section
variable {G : Gc} {Z : Addr → Prop} {φ : List Addr} {H : Hp} {μ : Mu}
theorem RpL.us {S : Addr → Prop} : ∀ {ds : List D} {vs : List V}, RpL G S H ds vs → RpUs G φ S H (ds.map .d) vs
  | [], _, h => h
  | d :: ds, _, ⟨v, r, e, a, b⟩ => ⟨v, r, e, a, RpL.us b⟩
mutual
theorem tg_ok : ∀ {t : Tg} {u : U} {ρ ρ' : Rho} {σ : L2.St} {v : V} {Q : L2.St → Hp → Prop}, tgM t u ρ = some ρ' → SR G Z φ H μ ρ σ → RpU G φ (Sof Z φ μ) H u v →
    (∀ σ', SR G Z φ H μ ρ' σ' → (∀ ws : List Nat, (∀ i ∈ t.slots, i ∈ ws) → wipe σ' ws = wipe σ ws) → Q σ' H) → tgG G.K t v σ H Q
  | .nm i, u, ρ, ρ', σ, v, Q, h, sr, ru, k => by
    cases h
    exact k _ ⟨sr.rep, sr.sl.put i ru⟩ fun ws hw => wipe_set (hw i (List.mem_singleton.mpr rfl))
  | .tp l, u, ρ, ρ', σ, v, Q, h, sr, ru, k => by
    unfold tgM at h
    cases u with
    | p n => cases h
    | d x =>
      cases x with
      | tup ds =>
        have h' : tgMs l (ds.map .d) ρ = some ρ' := h
        obtain ⟨a, vs, e, e2, e3⟩ := ru
        refine ⟨a, vs, e, e2.sq, ?_, tgs_ok h' sr e3.us fun σ' s' hw => k σ' s' hw⟩
        rw [e3.length]
        have len : ∀ (l : List Tg) (us : List U) (ρ ρ' : Rho), tgMs l us ρ = some ρ' → us.length = l.length := by
          intro l
          induction l with
          | nil => intro us ρ ρ' h; cases us with
            | nil => rfl
            | cons u us => cases h
          | cons t r ih => intro us ρ ρ' h; cases us with
            | nil => cases h
            | cons u us =>
              unfold tgMs at h
              split at h
              · rw [List.length_cons, List.length_cons, ih _ _ _ h]
              · cases h
        have := len _ _ _ _ h'
        rw [List.length_map] at this
        exact this
      | _ => cases h
theorem tgs_ok : ∀ {l : List Tg} {us : List U} {ρ ρ' : Rho} {σ : L2.St} {vs : List V} {Q : L2.St → Hp → Prop}, tgMs l us ρ = some ρ' → SR G Z φ H μ ρ σ → RpUs G φ (Sof Z φ μ) H us vs →
    (∀ σ', SR G Z φ H μ ρ' σ' → (∀ ws : List Nat, (∀ i ∈ Tg.slotsL l, i ∈ ws) → wipe σ' ws = wipe σ ws) → Q σ' H) → tgGs G.K l vs σ H Q
  | [], [], ρ, ρ', σ, vs, Q, h, sr, ru, k => by
    cases h
    exact ⟨ru, k σ sr fun _ _ => rfl⟩
  | [], u :: us, ρ, ρ', σ, vs, Q, h, sr, ru, k => by cases h
  | t :: r, [], ρ, ρ', σ, vs, Q, h, sr, ru, k => by cases h
  | t :: r, u :: us, ρ, ρ', σ, vs, Q, h, sr, ru, k => by
    obtain ⟨v, vs', e, r1, r2⟩ := ru
    unfold tgMs at h
    split at h
    · rename_i ρ1 h1
      refine ⟨v, vs', e, tg_ok h1 sr r1 fun σ1 s1 w1 => tgs_ok h s1 r2 fun σ2 s2 w2 => k σ2 s2 fun ws hw => ?_⟩
      rw [w2 ws fun i hi => hw i (List.mem_append_right _ hi), w1 ws fun i hi => hw i (List.mem_append_left _ hi)]
    · cases h
end
end
/-- target = value -/
def sAsg (t : Tg) (m : Sm U) : SmS := fun ρ μ => (m ρ μ).thenS ρ fun u μ1 => match tgM t u ρ with
  | some ρ1 => .nx ρ1 μ1
  | none => .bad
/-- a, b = x, y by way of a tuple -/
def sAsgs (l : List Tg) (m : Sm (List U)) : SmS := fun ρ μ => (m ρ μ).thenS ρ fun us μ1 => if us.length ≤ 100000 then (match tgMs l us ρ with
  | some ρ1 => .nx ρ1 μ1
  | none => .bad) else .bad
def sPar (i j : Nat) (m : Sm (List U)) : SmS := fun ρ μ => (m ρ μ).thenS ρ fun us μ1 => match us with
  | [u, w] => .nx ((ρ.set i (some u)).set j (some w)) μ1
  | _ => .bad
section
variable {G : Gc} {W : WX} {X : Cx} {pos : Pos} {e tg : Expr} {es : List Expr} {m : Sm U} {ma : Sm (List U)}
theorem i_gnm {K : PySem.W.Frag} {i : Nat} {x : Str} (hN : X.N.Nodup) (hi : X.N[i]? = some x) (hx : Loc X.env.scope x) (hf : X.fn x = true ∨ X.env.scope.names.lookup x = some .local := by first | exact .inl rfl | exact .inr rfl | assumption) : PG X (.Name x pos) (tgG K (.nm i)) := pg_name hN hi hx hf
theorem i_gs0 {K : PySem.W.Frag} : PGs X [] (tgGs K []) := pgs_nil
theorem i_gs {K : PySem.W.Frag} {t : Tg} {l : List Tg} (h1 : PG X e (tgG K t)) (h2 : PGs X es (tgGs K l)) (hs : (assignEach (e :: es) X.env).map (·.2) = assign e X.env :: (assignEach es X.env).map (·.2) := by rfl) : PGs X (e :: es) (tgGs K (t :: l)) := pgs_cons h1 h2 hs
theorem i_gtp {k : Nat} {l : List Tg} (hc : X.calm = true) (h : PGs X es (tgGs X.K l)) (hn : (assignEach es X.env).length = l.length := by rfl) (hst : (assignEach es X.env).findIdx? (·.1) = none := by rfl) : PG X (.Tuple es k pos) (tgG X.K (.tp l)) := pg_tup hc h hn hst
theorem i_asg {t : Tg} (hK : G.K = X.K) (he : PE X e (rdE G W m)) (hg : PG X tg (tgG X.K t)) (hs : swapsWithSole [tg] e pos.line X.env = pure false := by rfl) (hw : swappedStores [tg] e X.env = pure none := by rfl)
    (h1 : (assignEach [tg] X.env).map (·.2) = [assign tg X.env] := by rfl) : PS X (.Assign [tg] e pos) (rdS G W (sAsg t m)) :=
  PS.imp (ps_asg he hg hs hw h1) fun D σ H ⟨Z, φ, ρ, μ, sr, po⟩ => by
    refine rd_mono (pos_step (R1 := RpU G) sr po) fun x H1 ⟨φ1, μ1, u, g1, sr1, ru, po1⟩ => ?_
    split at po1
    · rename_i ρ1 h
      rw [← hK]
      exact tg_ok h sr1 ru fun σ' s' _ => po1 φ1 H1 σ' Go.refl s'
    · exact False.elim po1
theorem i_asgs {l : List Tg} {k1 k2 : Nat} {p1 p2 : Pos} {ts : List Expr} (hK : G.K = X.K) (he : PA X es (rdA G W ma)) (hg : PG X (.Tuple ts k1 p1) (tgG X.K (.tp l)))
    (hs : swapsWithSole [.Tuple ts k1 p1] (.Tuple es k2 p2) pos.line X.env = pure false := by rfl) (hw : swappedStores [.Tuple ts k1 p1] (.Tuple es k2 p2) X.env = pure none := by rfl)
    (h1 : (assignEach [.Tuple ts k1 p1] X.env).map (·.2) = [assign (.Tuple ts k1 p1) X.env] := by rfl) : PS X (.Assign [.Tuple ts k1 p1] (.Tuple es k2 p2) pos) (rdS G W (sAsgs l ma)) :=
  PS.imp (ps_asg (pe_tup he) hg hs hw h1) fun D σ H ⟨Z, φ, ρ, μ, sr, po⟩ => by
    refine rd_mono (pos_step (R1 := RpUs G) sr po) fun xs H1 ⟨φ1, μ1, us, g1, sr1, rus, po1⟩ => ?_
    split at po1
    · rename_i hl
      split at po1
      · rename_i ρ1 h
        refine ⟨sz5 (by rw [rus.length]; exact hl), fun p hp => ?_⟩
        have g2 : Go Z φ1 μ1 H1 φ1 μ1 (upd H1 p (.tup xs)) := Go.newD sr1.rep hp
        have sr2 := sr1.go g2 (sr1.rep.newD hp)
        have len : us.length = l.length := by
          have len : ∀ (l : List Tg) (us : List U) (ρ ρ' : Rho), tgMs l us ρ = some ρ' → us.length = l.length := by
            intro l
            induction l with
            | nil => intro us ρ ρ' h; cases us with
              | nil => rfl
              | cons u us => cases h
            | cons t r ih => intro us ρ ρ' h; cases us with
              | nil => cases h
              | cons u us =>
                unfold tgMs at h
                split at h
                · rw [List.length_cons, List.length_cons, ih _ _ _ h]
                · cases h
          exact len _ _ _ _ h
        refine ⟨p, xs, rfl, .inl (.inl upd_same), by rw [rus.length]; exact len, ?_⟩
        rw [← hK]
        exact tgs_ok h sr2 (rus.mono g2) fun σ' s' _ => po1 φ1 _ σ' g2 s'
      · exact False.elim po1
    · exact False.elim po1
theorem i_par {i j : Nat} {x y : Str} {a b : Expr} {px py pt : Pos} {kt k2 : Nat} {pt2 : Pos} (hc : X.calm = true) (hN : X.N.Nodup) (hi : X.N[i]? = some x) (hj : X.N[j]? = some y) (hij : i ≠ j)
    (hx : X.env.scope.names.lookup x = some .local) (hy : X.env.scope.names.lookup y = some .local) (ha : PA X [a, b] (rdA G W ma))
    (hw : swappedStores [.Tuple [.Name x px, .Name y py] kt pt] (.Tuple [a, b] k2 pt2) X.env = pure (some [x, y]))
    (hs : swapsWithSole [.Tuple [.Name x px, .Name y py] kt pt] (.Tuple [a, b] k2 pt2) pos.line X.env = pure false := by rfl) :
    PS X (.Assign [.Tuple [.Name x px, .Name y py] kt pt] (.Tuple [a, b] k2 pt2) pos) (rdS G W (sPar i j ma)) :=
  PS.imp (ps_par hc hN hi hj hij hx hy ha hw hs) fun D σ H ⟨Z, φ, ρ, μ, sr, po⟩ => by
    refine rd_mono (pos_step (R1 := RpUs G) sr po) fun xs H1 ⟨φ1, μ1, us, g1, sr1, rus, po1⟩ => ?_
    split at po1
    · rename_i u w
      obtain ⟨v, r, e, q1, v2, r2, e2, q2, e3⟩ := rus
      subst e; subst e2
      rw [show r2 = [] from e3]
      exact ⟨v, v2, rfl, po1 φ1 H1 _ Go.refl ⟨sr1.rep, (sr1.sl.put i q1).put j q2⟩⟩
    · exact False.elim po1
end

/-! ### what is walked -/
/-- at turn i: an item, or the end, or nothing is known -/
abbrev Nxt := Nat → Mu → Option (Option U)
structure Wk (G : Gc) (J : It) (nxt : Nxt) (Src : List Addr → (Addr → Prop) → Hp → Prop) : Prop where
  mono : ∀ {φ φ' : List Addr} {S S' : Addr → Prop} {H H' : Hp}, (∀ (n : Nat) (a : Addr), φ[n]? = some a → φ'[n]? = some a) → Ex S H S' H' → Src φ S H → Src φ' S' H'
  go : ∀ {Z : Addr → Prop} {φ : List Addr} {μ : Mu} {H : Hp} {i : Nat} {u : U}, Rep G Z φ H μ → Src φ (Sof Z φ μ) H → nxt i μ = some (some u) → J.go i H
  stop : ∀ {Z : Addr → Prop} {φ : List Addr} {μ : Mu} {H : Hp} {i : Nat}, Rep G Z φ H μ → Src φ (Sof Z φ μ) H → nxt i μ = some none → J.stop i H
  yld : ∀ {Z : Addr → Prop} {φ : List Addr} {μ : Mu} {H H' : Hp} {i : Nat} {u : U} {x : V}, Rep G Z φ H μ → Src φ (Sof Z φ μ) H → nxt i μ = some (some u) → J.yld i H x H' → Go Z φ μ H φ μ H' ∧ Rep G Z φ H' μ ∧ RpU G φ (Sof Z φ μ) H' u x
/-- a walk begins: how many turns at most, the items -/
structure Wlk where
  fuel : Nat
  nxt : Nxt
def PoI (G : Gc) (Z : Addr → Prop) (W : WX) (φ : List Addr) (μ : Mu) (H : Hp) (σ : L2.St) (r : Res Wlk) (R : It → Hp → Prop) : Prop := match r with
  | .ok w μ' => ∀ (φ' : List Addr) (H' : Hp) (J : It) (Src : List Addr → (Addr → Prop) → Hp → Prop), Go Z φ μ H φ' μ' H' → Rep G Z φ' H' μ' → Wk G J w.nxt Src → Src φ' (Sof Z φ' μ') H' → R J H'
  | .err c ns vs μ' => ∀ (φ' : List Addr) (H' : Hp) (cls : Value) (dx : Option Addr), Go Z φ μ H φ' μ' H' → Rep G Z φ' H' μ' → ErrR G (Sof Z φ' μ') H' c ns vs cls dx → W cls dx σ H'
  | .bad => False
def rdI (G : Gc) (W : WX) (m : Sm Wlk) : TI := fun σ H R => ∃ Z φ ρ μ, SR G Z φ H μ ρ σ ∧ PoI G Z W φ μ H σ (m ρ μ) R
theorem PoI.go {G : Gc} {Z : Addr → Prop} {W : WX} {φ φ' : List Addr} {μ μ' : Mu} {H H' : Hp} {σ : L2.St} {r : Res Wlk} {R : It → Hp → Prop} (g : Go Z φ μ H φ' μ' H') (h : PoI G Z W φ μ H σ r R) : PoI G Z W φ' μ' H' σ r R := by
  cases r with
  | ok a μ2 => exact fun φ2 H2 J Src g2 => h φ2 H2 J Src (g.trans g2)
  | err c ns vs μ2 => exact fun φ2 H2 cls dx g2 => h φ2 H2 cls dx (g.trans g2)
  | bad => exact h
theorem pi_step {G : Gc} {Z : Addr → Prop} {W : WX} {φ : List Addr} {μ : Mu} {ρ : Rho} {H : Hp} {σ : L2.St} {α β : Type} {R1 : Rl α β} {m : Sm α} {f : α → Mu → Res Wlk} {R : It → Hp → Prop} (sr : SR G Z φ H μ ρ σ) (po : PoI G Z W φ μ H σ ((m ρ μ).bind f) R) :
    rd R1 G W m σ H (fun b H1 => ∃ φ1 μ1 a, Go Z φ μ H φ1 μ1 H1 ∧ SR G Z φ1 H1 μ1 ρ σ ∧ R1 φ1 (Sof Z φ1 μ1) H1 a b ∧ PoI G Z W φ1 μ1 H1 σ (f a μ1) R) := by
  refine ⟨Z, φ, ρ, μ, sr, ?_⟩
  cases e : m ρ μ with
  | ok a μ1 =>
    rw [e] at po
    exact fun φ1 H1 b g r rr => ⟨φ1, μ1, a, g, sr.go g r, rr, PoI.go g po⟩
  | err c ns vs μ1 => rw [e] at po; exact po
  | bad => rw [e] at po; exact po
/-- the items of data that stands still -/
def itemsD : D → Option (List D)
  | .lst ds => some ds
  | .tup ds => some ds
  | .str x => some (x.cps.toList.map fun c => .str ⟨#[c]⟩)
  | _ => none
def wkD (ds : List D) : Wlk := ⟨ds.length + 1, fun i _ => some ((ds[i]?).map .d)⟩
/-- over a value: a list, a tuple, a text; a list that may change as it stands at each turn -/
def wSeq (m : Sm U) : Sm Wlk := fun ρ μ => (m ρ μ).bind fun u μ1 => match u with
  | .d x => match itemsD x with
    | some ds => .ok (wkD ds) μ1
    | none => .bad
  | .p n => match μ1[n]? with
    | some (.lst us) => .ok ⟨100001, fun i μ => match μ[n]? with
        | some (.lst us) => some us[i]?
        | some (.fz (.lst ds)) => some ((ds[i]?).map .d)
        | _ => none⟩ μ1
    | some (.fz x) => match itemsD x with
      | some ds => .ok (wkD ds) μ1
      | none => .bad
    | _ => .bad
theorem PI.or {X : Cx} {tg iter : Expr} {w1 w2 : TI} (h1 : PI X tg iter w1) (h2 : PI X tg iter w2) : PI X tg iter (fun σ H R => w1 σ H R ∨ w2 σ H R) :=
  ⟨fun pins s σ H R I h => h.elim (h1.run pins s σ H R I) (h2.run pins s σ H R I)⟩
theorem PI.imp {X : Cx} {tg iter : Expr} {w w' : TI} (h : PI X tg iter w) (k : ∀ σ H R, w' σ H R → w σ H R) : PI X tg iter w' := ⟨fun pins s σ H R I q => h.run pins s σ H R I (k σ H R q)⟩
theorem RpL.get {G : Gc} {S : Addr → Prop} {H : Hp} : ∀ {ds : List D} {vs : List V} {i : Nat} {d : D}, RpL G S H ds vs → ds[i]? = some d → ∃ v, vs[i]? = some v ∧ Rp G S H d v
  | d :: ds, _, 0, x, ⟨v, r, e, a, b⟩, h => by
    cases h; subst e
    exact ⟨v, rfl, a⟩
  | d :: ds, _, i + 1, x, ⟨v, r, e, a, b⟩, h => by
    subst e
    exact RpL.get (i := i) b h
theorem RpUs.get {G : Gc} {φ : List Addr} {S : Addr → Prop} {H : Hp} : ∀ {us : List U} {vs : List V} {i : Nat} {u : U}, RpUs G φ S H us vs → us[i]? = some u → ∃ v, vs[i]? = some v ∧ RpU G φ S H u v
  | d :: ds, _, 0, x, ⟨v, r, e, a, b⟩, h => by
    cases h; subst e
    exact ⟨v, rfl, a⟩
  | d :: ds, _, i + 1, x, ⟨v, r, e, a, b⟩, h => by
    subst e
    exact RpUs.get (i := i) b h
theorem opt_map_some {α β : Type} {f : α → β} {o : Option α} {y : β} (h : some (o.map f) = some (some y)) : ∃ x, o = some x ∧ f x = y := by
  cases o with
  | none => cases h
  | some x => exact ⟨x, rfl, Option.some.inj (Option.some.inj h)⟩
theorem opt_map_none {α β : Type} {f : α → β} {o : Option α} (h : some (o.map f) = some none) : o = none := by
  cases o with
  | none => rfl
  | some x => cases h
section
variable {G : Gc}
theorem wk_lst {ds : List D} {a : Addr} : Wk G (Itl G.K a) (wkD ds).nxt (fun _ S H => Rp G S H (.lst ds) (.ref a)) where
  mono := fun _ e h => Rp.mono e h
  go := fun {Z φ μ H i u} r ⟨b, vs, e, l, q⟩ h => by
    cases e
    obtain ⟨d, hd, rfl⟩ := opt_map_some h
    obtain ⟨v, hv, rv⟩ := q.get hd
    exact ⟨vs, v, l.sq, hv⟩
  stop := fun {Z φ μ H i} r ⟨b, vs, e, l, q⟩ h => by
    cases e
    have hn := List.getElem?_eq_none_iff.mp (opt_map_none h)
    exact ⟨vs, l.sq, by rw [q.length]; exact hn⟩
  yld := fun {Z φ μ H H' i u x} r ⟨b, vs, e, l, q⟩ h y => by
    cases e
    obtain ⟨d, hd, rfl⟩ := opt_map_some h
    obtain ⟨v, hv, rv⟩ := q.get hd
    obtain ⟨rfl, y2⟩ := y
    have e2 := (y2 vs l.sq).symm.trans hv
    cases e2
    exact ⟨Go.refl, r, rv⟩
theorem wk_tup {ds : List D} {a : Addr} : Wk G (Itt G.K a) (wkD ds).nxt (fun _ S H => Rp G S H (.tup ds) (.ref a)) where
  mono := fun _ e h => Rp.mono e h
  go := fun {Z φ μ H i u} r ⟨b, vs, e, l, q⟩ h => by
    cases e
    obtain ⟨d, hd, rfl⟩ := opt_map_some h
    obtain ⟨v, hv, rv⟩ := q.get hd
    exact ⟨vs, v, l.sq, hv⟩
  stop := fun {Z φ μ H i} r ⟨b, vs, e, l, q⟩ h => by
    cases e
    have hn := List.getElem?_eq_none_iff.mp (opt_map_none h)
    exact ⟨vs, l.sq, by rw [q.length]; exact hn⟩
  yld := fun {Z φ μ H H' i u x} r ⟨b, vs, e, l, q⟩ h y => by
    cases e
    obtain ⟨d, hd, rfl⟩ := opt_map_some h
    obtain ⟨v, hv, rv⟩ := q.get hd
    obtain ⟨rfl, y2⟩ := y
    have e2 := (y2 vs l.sq).symm.trans hv
    cases e2
    exact ⟨Go.refl, r, rv⟩
theorem wk_str {x : Str} : Wk G (Its x) (wkD (x.cps.toList.map fun c => D.str ⟨#[c]⟩)).nxt (fun _ _ _ => True) where
  mono := fun _ _ _ => True.intro
  go := fun {Z φ μ H i u} r _ h => by
    obtain ⟨d, hd, rfl⟩ := opt_map_some h
    have := (List.getElem?_eq_some_iff.mp hd).1
    rw [List.length_map] at this
    show i < x.cps.size
    simpa using this
  stop := fun {Z φ μ H i} r _ h => by
    have := List.getElem?_eq_none_iff.mp (opt_map_none h)
    rw [List.length_map] at this
    show x.cps.size ≤ i
    simpa using this
  yld := fun {Z φ μ H H' i u y} r _ h q => by
    obtain ⟨d, hd, rfl⟩ := opt_map_some h
    obtain ⟨rfl, c, hc, rfl⟩ := q
    rw [List.getElem?_map] at hd
    have hc' : x.cps.toList[i]? = some c := by simpa using hc
    rw [hc'] at hd
    cases hd
    exact ⟨Go.refl, r, rfl⟩
theorem wk_live {n : Nat} {a : Addr} : Wk G (Itl G.K a) (fun i μ => match μ[n]? with
        | some (.lst us) => some us[i]?
        | some (.fz (.lst ds)) => some ((ds[i]?).map .d)
        | _ => none) (fun φ _ _ => φ[n]? = some a) where
  mono := fun p _ h => p n a h
  go := fun {Z φ μ H i u} r s h => by
    split at h
    · rename_i us hu
      obtain ⟨vs, e, q⟩ := r.at_ n a _ s hu
      have h' : us[i]? = some u := Option.some.inj h
      obtain ⟨v, hv, rv⟩ := q.get h'
      exact ⟨vs, v, SqL.of e, hv⟩
    · rename_i ds hu
      obtain ⟨b, vs, e, l, q⟩ := (show Rp G (Sof Z φ μ) H (.lst ds) (.ref a) from r.at_ n a _ s hu)
      cases e
      obtain ⟨d, hd, rfl⟩ := opt_map_some h
      obtain ⟨v, hv, rv⟩ := q.get hd
      exact ⟨vs, v, l.sq, hv⟩
    · cases h
  stop := fun {Z φ μ H i} r s h => by
    split at h
    · rename_i us hu
      obtain ⟨vs, e, q⟩ := r.at_ n a _ s hu
      have h' : us[i]? = none := Option.some.inj h
      exact ⟨vs, SqL.of e, by rw [q.length]; exact List.getElem?_eq_none_iff.mp h'⟩
    · rename_i ds hu
      obtain ⟨b, vs, e, l, q⟩ := (show Rp G (Sof Z φ μ) H (.lst ds) (.ref a) from r.at_ n a _ s hu)
      cases e
      exact ⟨vs, l.sq, by rw [q.length]; exact List.getElem?_eq_none_iff.mp (opt_map_none h)⟩
    · cases h
  yld := fun {Z φ μ H H' i u x} r s h y => by
    obtain ⟨rfl, y2⟩ := y
    split at h
    · rename_i us hu
      obtain ⟨vs, e, q⟩ := r.at_ n a _ s hu
      have h' : us[i]? = some u := Option.some.inj h
      obtain ⟨v, hv, rv⟩ := q.get h'
      have e2 := (y2 vs (SqL.of e)).symm.trans hv
      cases e2
      exact ⟨Go.refl, r, rv⟩
    · rename_i ds hu
      obtain ⟨b, vs, e, l, q⟩ := (show Rp G (Sof Z φ μ) H' (.lst ds) (.ref a) from r.at_ n a _ s hu)
      cases e
      obtain ⟨d, hd, rfl⟩ := opt_map_some h
      obtain ⟨v, hv, rv⟩ := q.get hd
      have e2 := (y2 vs l.sq).symm.trans hv
      cases e2
      exact ⟨Go.refl, r, rv⟩
    · cases h
end
end Iv
set_option Elab.async false
set_option linter.all false
set_option maxRecDepth 100000
set_option maxHeartbeats 2000000
set_option autoImplicit false
/-! Iv, part E: walks begin; for; while; list comprehensions. -/
namespace Iv
open PySem PySem.Spec PyProof.Rows L2

section
variable {G : Gc} {W : WX} {X : Cx} {pos : Pos} {e tg : Expr} {m : Sm U}
theorem i_wseq (hK : G.K = X.K) (he : PE X e (rdE G W m)) : PI X tg e (rdI G W (wSeq m)) :=
  PI.imp (PI.or (pi_list he) (PI.or (pi_tup he) (pi_str he))) fun σ H R ⟨Z, φ, ρ, μ, sr, po⟩ => by
    unfold wSeq at po
    cases hm : m ρ μ with
    | bad => rw [hm] at po; exact False.elim po
    | err c ns vs μ1 =>
      rw [hm] at po
      exact .inl ⟨Z, φ, ρ, μ, sr, by rw [hm]; exact po⟩
    | ok u μ1 =>
      rw [hm] at po
      have lst : ∀ (ds : List D), (∀ (φ' : List Addr) (H' : Hp) (b : V), Rep G Z φ' H' μ1 → RpU G φ' (Sof Z φ' μ1) H' u b → Rp G (Sof Z φ' μ1) H' (.lst ds) b) →
          (∀ (φ' : List Addr) (H' : Hp) (J : It) (Src : List Addr → (Addr → Prop) → Hp → Prop), Go Z φ μ H φ' μ1 H' → Rep G Z φ' H' μ1 → Wk G J (wkD ds).nxt Src → Src φ' (Sof Z φ' μ1) H' → R J H') → iList X.K (rdE G W m) σ H R := fun ds k po => by
        refine ⟨Z, φ, ρ, μ, sr, ?_⟩
        rw [hm]
        intro φ' H' b g r ru
        obtain ⟨a, vs, e, l, q⟩ := k φ' H' b r ru
        subst e
        exact ⟨a, rfl, ⟨vs, by rw [← hK]; exact l.sq⟩, by rw [← hK]; exact po φ' H' _ _ g r wk_lst ⟨a, vs, rfl, l, q⟩⟩
      have tup : ∀ (ds : List D), (∀ (φ' : List Addr) (H' : Hp) (b : V), Rep G Z φ' H' μ1 → RpU G φ' (Sof Z φ' μ1) H' u b → Rp G (Sof Z φ' μ1) H' (.tup ds) b) →
          (∀ (φ' : List Addr) (H' : Hp) (J : It) (Src : List Addr → (Addr → Prop) → Hp → Prop), Go Z φ μ H φ' μ1 H' → Rep G Z φ' H' μ1 → Wk G J (wkD ds).nxt Src → Src φ' (Sof Z φ' μ1) H' → R J H') → iTup X.K (rdE G W m) σ H R := fun ds k po => by
        refine ⟨Z, φ, ρ, μ, sr, ?_⟩
        rw [hm]
        intro φ' H' b g r ru
        obtain ⟨a, vs, e, l, q⟩ := k φ' H' b r ru
        subst e
        exact ⟨a, rfl, ⟨vs, by rw [← hK]; exact l.sq⟩, by rw [← hK]; exact po φ' H' _ _ g r wk_tup ⟨a, vs, rfl, l, q⟩⟩
      cases u with
      | d x =>
        cases x with
        | lst ds => exact .inl (lst ds (fun _ _ _ _ h => h) po)
        | tup ds => exact .inr (.inl (tup ds (fun _ _ _ _ h => h) po))
        | str x =>
          refine .inr (.inr ⟨Z, φ, ρ, μ, sr, ?_⟩)
          rw [hm]
          intro φ' H' b g r ru
          exact ⟨x, ru, po φ' H' _ _ g r wk_str True.intro⟩
        | _ => exact False.elim po
      | p n =>
        cases ho : μ1[n]? with
        | none => simp only [ho, Res.bind] at po; exact False.elim po
        | some ob =>
          cases ob with
          | fz x =>
            have at_ : ∀ (φ' : List Addr) (H' : Hp) (b : V), Rep G Z φ' H' μ1 → RpU G φ' (Sof Z φ' μ1) H' (.p n) b → Rp G (Sof Z φ' μ1) H' x b := fun φ' H' b r ru => by
              obtain ⟨a, rfl, ha⟩ := ru
              exact r.at_ n a _ ha ho
            cases x with
            | lst ds => simp only [ho, Res.bind, itemsD] at po; exact .inl (lst ds at_ po)
            | tup ds => simp only [ho, Res.bind, itemsD] at po; exact .inr (.inl (tup ds at_ po))
            | str x =>
              simp only [ho, Res.bind, itemsD] at po
              refine .inr (.inr ⟨Z, φ, ρ, μ, sr, ?_⟩)
              rw [hm]
              intro φ' H' b g r ru
              exact ⟨x, at_ φ' H' b r ru, po φ' H' _ _ g r wk_str True.intro⟩
            | _ => simp only [ho, Res.bind, itemsD] at po; exact False.elim po
          | lst us =>
            simp only [ho, Res.bind] at po
            refine .inl ⟨Z, φ, ρ, μ, sr, ?_⟩
            rw [hm]
            intro φ' H' b g r ru
            obtain ⟨a, rfl, ha⟩ := ru
            obtain ⟨vs, e1, _⟩ := r.at_ n a _ ha ho
            exact ⟨a, rfl, ⟨vs, SqL.of e1⟩, by rw [← hK]; exact po φ' H' _ _ g r wk_live ha⟩
          | _ => simp only [ho, Res.bind] at po; exact False.elim po
/-- range(n), range(a, b) -/
def rngW (lo : Int) (n : Nat) : Wlk := ⟨n + 1, fun i _ => some (if i < n then some (.d (.int (lo + (i : Nat)))) else none)⟩
def wRng1 (m : Sm (List U)) : Sm Wlk := fun ρ μ => (m ρ μ).bind fun us μ1 => match us with
  | [.d (.int j)] => if -(2 ^ 62) ≤ j ∧ j < 2 ^ 62 then .ok (rngW 0 j.toNat) μ1 else .bad
  | _ => .bad
def wRng2 (m : Sm (List U)) : Sm Wlk := fun ρ μ => (m ρ μ).bind fun us μ1 => match us with
  | [.d (.int i), .d (.int j)] => if -(2 ^ 62) ≤ i ∧ i < 2 ^ 62 ∧ -(2 ^ 62) ≤ j ∧ j < 2 ^ 62 then .ok (rngW i (j - i).toNat) μ1 else .bad
  | _ => .bad
theorem wk_rng {G : Gc} {lo : Int} {n : Nat} : Wk G (Itr lo n) (rngW lo n).nxt (fun _ _ _ => True) where
  mono := fun _ _ _ => True.intro
  go := fun {Z φ μ H i u} r _ h => by
    show i < n
    by_cases hi : i < n
    · exact hi
    · have h' : some (if i < n then some (U.d (.int (lo + (i : Nat)))) else none) = some (some u) := h
      rw [if_neg hi] at h'
      cases h'
  stop := fun {Z φ μ H i} r _ h => by
    show n ≤ i
    by_cases hi : i < n
    · have h' : some (if i < n then some (U.d (.int (lo + (i : Nat)))) else none) = some none := h
      rw [if_pos hi] at h'
      cases h'
    · omega
  yld := fun {Z φ μ H H' i u x} r _ h y => by
    obtain ⟨rfl, rfl⟩ := y
    by_cases hi : i < n
    · have h' : some (if i < n then some (U.d (.int (lo + (i : Nat)))) else none) = some (some u) := h
      rw [if_pos hi] at h'
      cases h'
      exact ⟨Go.refl, r, rfl⟩
    · have h' : some (if i < n then some (U.d (.int (lo + (i : Nat)))) else none) = some (some u) := h
      rw [if_neg hi] at h'
      cases h'
theorem i_wrng1 {a : Expr} {ma : Sm (List U)} {p pos : Pos} (hg : Gl X "range") (hm : X.mg "range" = none) (ha : PA X [a] (rdA G W ma)) (hs : starEach [a] X.env = [(false, eval a X.env)] := by rfl) : PI X tg (.Call (.Name "range" p) [a] [] pos) (rdI G W (wRng1 ma)) :=
  PI.imp (pi_range1 hg hm ha hs) fun σ H R ⟨Z, φ, ρ, μ, sr, po⟩ => by
    refine rd_mono (pi_step (R1 := RpUs G) sr po) fun xs H1 ⟨φ1, μ1, us, g1, sr1, rus, po1⟩ => ?_
    split at po1
    · rename_i j
      split at po1
      · rename_i hj
        obtain ⟨v, rr, e, q1, q2⟩ := rus
        obtain rfl := (show v = .int j from q1)
        obtain rfl := (show rr = [] from q2)
        exact ⟨j, e, hj.1, hj.2, po1 φ1 H1 _ _ Go.refl sr1.rep wk_rng True.intro⟩
      · exact False.elim po1
    · exact False.elim po1
theorem i_wrng2 {a b : Expr} {ma : Sm (List U)} {p pos : Pos} (hg : Gl X "range") (hm : X.mg "range" = none) (ha : PA X [a, b] (rdA G W ma)) (hs : starEach [a, b] X.env = [(false, eval a X.env), (false, eval b X.env)] := by rfl) (hs2 : starEach [b] X.env = [(false, eval b X.env)] := by rfl) : PI X tg (.Call (.Name "range" p) [a, b] [] pos) (rdI G W (wRng2 ma)) :=
  PI.imp (pi_range2 hg hm ha hs hs2) fun σ H R ⟨Z, φ, ρ, μ, sr, po⟩ => by
    refine rd_mono (pi_step (R1 := RpUs G) sr po) fun xs H1 ⟨φ1, μ1, us, g1, sr1, rus, po1⟩ => ?_
    split at po1
    · rename_i i j
      split at po1
      · rename_i hj
        obtain ⟨v, rr, e, q1, v2, r2, e2, q2, q3⟩ := rus
        obtain rfl := (show v = .int i from q1)
        obtain rfl := (show v2 = .int j from q2)
        obtain rfl := (show r2 = [] from q3)
        subst e2
        exact ⟨i, j, e, hj, po1 φ1 H1 _ _ Go.refl sr1.rep wk_rng True.intro⟩
      · exact False.elim po1
    · exact False.elim po1
end

/-! ### for -/
def loopG (t : Tg) (body : SmS) (nxt : Nxt) : Nat → Nat → SmS
  | 0, _, _, _ => .bad
  | k + 1, i, ρ, μ => match nxt i μ with
    | none => .bad
    | some none => .nx ρ μ
    | some (some u) => match tgM t u ρ with
      | none => .bad
      | some ρ1 => match body ρ1 μ with
        | .nx ρ2 μ2 => loopG t body nxt k (i + 1) ρ2 μ2
        | .ct ρ2 μ2 => loopG t body nxt k (i + 1) ρ2 μ2
        | .brk ρ2 μ2 => .nx ρ2 μ2
        | .ret u μ2 => .ret u μ2
        | .err c ns vs ρ2 μ2 => .err c ns vs ρ2 μ2
        | .bad => .bad
def sFor (w : Sm Wlk) (t : Tg) (body : SmS) : SmS := fun ρ μ => (w ρ μ).thenS ρ fun w μ1 => loopG t body w.nxt w.fuel 0 ρ μ1
def sWhile : Nat → Sm Bool → SmS → SmS
  | 0, _, _, _, _ => .bad
  | k + 1, c, body, ρ, μ => (c ρ μ).thenS ρ fun b μ1 => if b = true then (match body ρ μ1 with
      | .nx ρ2 μ2 => sWhile k c body ρ2 μ2
      | .ct ρ2 μ2 => sWhile k c body ρ2 μ2
      | .brk ρ2 μ2 => .nx ρ2 μ2
      | .ret u μ2 => .ret u μ2
      | .err c ns vs ρ2 μ2 => .err c ns vs ρ2 μ2
      | .bad => .bad) else .nx ρ μ1
section
variable {G : Gc} {W : WX} {X : Cx} {pos : Pos} {tg iter : Expr} {body : List Stmt} {w : Sm Wlk} {t : Tg} {b : SmS}
theorem i_for (hK : G.K = X.K) (hp : PassesOwn (model X.prog X.w) X.A X.env X.xe) (hc : X.calm = true) (hi : PI X tg iter (rdI G W w)) (hg : PG X tg (tgG X.K t)) (hb : PSs X body (rdS G W b))
    (hs : ∀ x, foldedSetIterable iter X.env x = pure x := by intro _; rfl) : PS X (.For tg iter body [] pos) (rdS G W (sFor w t b)) :=
  PS.imp (ps_for hp hc hi hg hb hs) fun D σ H ⟨Z, φ, ρ, μ, sr, po⟩ => by
    refine ⟨Z, φ, ρ, μ, sr, ?_⟩
    unfold sFor at po
    cases hw : w ρ μ with
    | bad => rw [hw] at po; exact po
    | err c ns vs μ1 => rw [hw] at po; exact fun φ1 H1 cls dx g r er => po φ1 H1 σ cls dx g (sr.go g r) er
    | ok wk μ1 =>
      rw [hw] at po
      intro φ1 H1 J Src g1 r1 K s1
      refine ⟨fun i k σ H => ∃ φ ρ μ, SR G Z φ H μ ρ σ ∧ Src φ (Sof Z φ μ) H ∧ PoS G Z W φ μ H (loopG t b wk.nxt k i ρ μ) D, ⟨wk.fuel, φ1, ρ, μ1, sr.go g1 r1, s1, PoS.go g1 po⟩, ?_⟩
      rintro i k σ2 H2 ⟨φ2, ρ2, μ2, sr2, s2, po2⟩
      cases k with
      | zero => exact False.elim po2
      | succ k =>
        unfold loopG at po2
        split at po2
        · exact False.elim po2
        · rename_i hn
          exact .inl ⟨K.stop sr2.rep s2 hn, po2 φ2 H2 σ2 Go.refl sr2⟩
        · rename_i u hn
          refine .inr ⟨K.go sr2.rep s2 hn, fun σ' H' => ∃ φ ρ μ, SR G Z φ H' μ ρ σ' ∧ Src φ (Sof Z φ μ) H' ∧ PoS G Z W φ μ H' (loopG t b wk.nxt k (i + 1) ρ μ) D, fun σ' H' q => ⟨k, Nat.lt_succ_self k, q⟩, fun x H3 y => ?_⟩
          obtain ⟨g3, r3, ru⟩ := K.yld sr2.rep s2 hn y
          split at po2
          · exact False.elim po2
          · rename_i ρ3 ht
            rw [← hK]
            refine tg_ok ht (sr2.go g3 r3) ru fun σ4 sr4 _ => ⟨Z, φ2, ρ3, μ2, sr4, ?_⟩
            have s3 : Src φ2 (Sof Z φ2 μ2) H3 := K.mono g3.ph g3.ex s2
            cases hbody : b ρ3 μ2 with
            | nx ρ5 μ5 => simp only [hbody] at po2; exact fun φ5 H5 σ5 g5 sr5 => ⟨φ5, ρ5, μ5, sr5, K.mono g5.ph g5.ex s3, PoS.go (g3.trans g5) po2⟩
            | ct ρ5 μ5 => simp only [hbody] at po2; exact fun φ5 H5 σ5 g5 sr5 => ⟨φ5, ρ5, μ5, sr5, K.mono g5.ph g5.ex s3, PoS.go (g3.trans g5) po2⟩
            | brk ρ5 μ5 => simp only [hbody] at po2; exact PoS.go g3 po2
            | ret u5 μ5 => simp only [hbody] at po2; exact PoS.go g3 po2
            | err c ns vs ρ5 μ5 => simp only [hbody] at po2; exact PoS.go g3 po2
            | bad => simp only [hbody] at po2; exact po2
theorem i_while {c : Expr} {k : Nat} {tc : Sm Bool} (hp : PassesOwn (model X.prog X.w) X.A X.env X.xe) (hc : PT X c (rdT G W tc)) (hb : PSs X body (rdS G W b)) : PS X (.While c body [] pos) (rdS G W (sWhile k tc b)) :=
  PS.imp (ps_while hp hc hb) fun D σ H ⟨Z, φ, ρ, μ, sr, po⟩ => by
    refine ⟨fun k σ H => ∃ φ ρ μ, SR G Z φ H μ ρ σ ∧ PoS G Z W φ μ H (sWhile k tc b ρ μ) D, ⟨k, φ, ρ, μ, sr, po⟩, ?_⟩
    rintro k σ2 H2 ⟨φ2, ρ2, μ2, sr2, po2⟩
    cases k with
    | zero => exact False.elim po2
    | succ k =>
      unfold sWhile at po2
      refine rd_mono (pos_step (R1 := RlB) sr2 po2) fun x H3 ⟨φ3, μ3, u, g3, sr3, ru, po3⟩ => ?_
      obtain rfl : u = x := ru
      cases u with
      | false =>
        rw [if_neg Bool.false_ne_true] at po3 ⊢
        exact po3 φ3 H3 σ2 Go.refl sr3
      | true =>
        rw [if_pos rfl] at po3 ⊢
        refine ⟨fun σ' H' => ∃ φ ρ μ, SR G Z φ H' μ ρ σ' ∧ PoS G Z W φ μ H' (sWhile k tc b ρ μ) D, fun σ' H' q => ⟨k, Nat.lt_succ_self k, q⟩, Z, φ3, ρ2, μ3, sr3, ?_⟩
        cases hbody : b ρ2 μ3 with
        | nx ρ5 μ5 => simp only [hbody] at po3; exact fun φ5 H5 σ5 g5 sr5 => ⟨φ5, ρ5, μ5, sr5, PoS.go g5 po3⟩
        | ct ρ5 μ5 => simp only [hbody] at po3; exact fun φ5 H5 σ5 g5 sr5 => ⟨φ5, ρ5, μ5, sr5, PoS.go g5 po3⟩
        | brk ρ5 μ5 => simp only [hbody] at po3; exact po3
        | ret u5 μ5 => simp only [hbody] at po3; exact po3
        | err c ns vs ρ5 μ5 => simp only [hbody] at po3; exact po3
        | bad => simp only [hbody] at po3; exact po3
end

/-! ### comprehensions -/
def W0 : WX := fun _ _ _ _ => False
def wipeR (ρ : Rho) : List Nat → Rho
  | [] => ρ
  | v :: vs => (wipeR ρ vs).set v none
def compG (t : Tg) (own : List Nat) (cond : Sm Bool) (elt : Sm U) (nxt : Nxt) : Nat → Nat → Rho → Mu → List U → Res (List U)
  | 0, _, _, _, _ => .bad
  | k + 1, i, ρ, μ, acc => match nxt i μ with
    | none => .bad
    | some none => .ok acc μ
    | some (some u) => match tgM t u (wipeR ρ own) with
      | none => .bad
      | some ρ1 => match cond ρ1 μ with
        | .ok true μ1 => match elt ρ1 μ1 with
          | .ok y μ2 => if acc.length < 100000 then compG t own cond elt nxt k (i + 1) ρ μ2 (acc ++ [y]) else .bad
          | _ => .bad
        | .ok false μ1 => compG t own cond elt nxt k (i + 1) ρ μ1 acc
        | _ => .bad
def vComp (w : Sm Wlk) (t : Tg) (own : List Nat) (cond : Sm Bool) (elt : Sm U) : Sm U := fun ρ μ => (w ρ μ).bind fun w μ1 => (compG t own cond elt w.nxt w.fuel 0 ρ μ1 []).bind fun acc μ2 => match frzL acc μ2 with
  | some (ds, μ3) => .ok (.d (.lst ds)) μ3
  | none => .bad
def vCompP (w : Sm Wlk) (t : Tg) (own : List Nat) (cond : Sm Bool) (elt : Sm U) : Sm U := fun ρ μ => (w ρ μ).bind fun w μ1 => (compG t own cond elt w.nxt w.fuel 0 ρ μ1 []).bind fun acc μ2 => .ok (.p μ2.length) (μ2 ++ [.lst acc])
def tYes' : Sm Bool := fun _ μ => .ok true μ
section
variable {G : Gc} {Z : Addr → Prop} {φ : List Addr} {μ : Mu} {H : Hp}
abbrev resv (Z : Addr → Prop) (p : Addr) : Addr → Prop := fun a => Z a ∨ a = p
theorem Sof.ofR {p a : Addr} (h : Sof (resv Z p) φ μ a) : Sof Z φ μ a ∨ a = p := by
  rcases h with (h | h) | h
  · exact .inl (.inl h)
  · exact .inr h
  · exact .inl (.inr h)
theorem Sof.toR {p a : Addr} (h : Sof Z φ μ a) : Sof (resv Z p) φ μ a := by
  rcases h with h | h
  · exact .inl (.inl h)
  · exact .inr h
theorem Ex.toR {p : Addr} {o : HO} (hp : H p = none) : Ex (Sof Z φ μ) H (Sof (resv Z p) φ μ) (upd H p o) :=
  ⟨fun a u h n _ => ⟨by rw [upd_ne (ne_of_none h hp)]; exact h, fun z => (Sof.ofR z).elim n (ne_of_none h hp)⟩⟩
theorem Ex.ofR (p : Addr) : Ex (Sof (resv Z p) φ μ) H (Sof Z φ μ) H := ⟨fun a u h n _ => ⟨h, fun z => n (Sof.toR z)⟩⟩
theorem RpU.ex {φ : List Addr} {S S' : Addr → Prop} {H H' : Hp} (e : Ex S H S' H') : ∀ {u : U} {v : V}, RpU G φ S H u v → RpU G φ S' H' u v
  | .d _, _, h => Rp.mono e h
  | .p _, _, h => h
theorem RpUs.ex {φ : List Addr} {S S' : Addr → Prop} {H H' : Hp} (e : Ex S H S' H') : ∀ {us : List U} {vs : List V}, RpUs G φ S H us vs → RpUs G φ S' H' us vs
  | [], _, h => h
  | _ :: _, _, ⟨v, r, e1, a, b⟩ => ⟨v, r, e1, a.ex e, b.ex e⟩
theorem ObR.ex {S S' : Addr → Prop} {H H' : Hp} (e : Ex S H S' H') {a : Addr} : ∀ {ob : Ob}, (ob.live = true → ∀ o, H a = some o → H' a = some o) → ObR G φ S H a ob → ObR G φ S' H' a ob
  | .fz x, _, h => Rp.mono e h
  | .lst us, k, ⟨vs, q, r⟩ => ⟨vs, k rfl _ q, r.ex e⟩
  | .dic ks us, k, ⟨vs, q, l, r⟩ => ⟨vs, k rfl _ q, l, r.ex e⟩
  | .dit ks us, k, ⟨vs, q, l, r⟩ => ⟨vs, k rfl _ q, l, r.ex e⟩
  | .ins c ns us, k, ⟨dx, vs, q, l, r⟩ => ⟨dx, vs, k rfl _ q, l, r.ex e⟩
theorem Sls.ex {S S' : Addr → Prop} {H H' : Hp} (e : Ex S H S' H') : ∀ {ρ : Rho} {σ : L2.St}, Sls G φ S H ρ σ → Sls G φ S' H' ρ σ
  | [], _, h => h
  | none :: ρ, _, ⟨v, r, q, _, b⟩ => ⟨v, r, q, True.intro, b.ex e⟩
  | some u :: ρ, _, ⟨v, r, q, ⟨x, q2, a⟩, b⟩ => ⟨v, r, q, ⟨x, q2, a.ex e⟩, b.ex e⟩
theorem Rep.toR (r : Rep G Z φ H μ) {p : Addr} {o : HO} (ho : NR o) (hp : H p = none) : Rep G (resv Z p) φ (upd H p o) μ where
  len := r.len
  one := r.one
  at_ := fun n a ob h1 h2 => (r.at_ n a ob h1 h2).ex (Ex.toR hp) fun _ u e => by rw [upd_ne (ne_of_none e hp)]; exact e
  res := fun a h => by
    rcases h with h | h
    · obtain ⟨w, e, nt⟩ := r.res a h
      exact ⟨w, by rw [upd_ne (ne_of_none e hp)]; exact e, nt⟩
    · exact ⟨o, by rw [h, upd_same], ho⟩
  apart := fun n a ob h1 h2 l z => by
    rcases z with z | z
    · exact r.apart n a ob h1 h2 l z
    · obtain ⟨w, e⟩ := r.out h1 h2 l
      rw [z, hp] at e; cases e
  tab := r.tab.ext fun b u e => by rw [upd_ne (ne_of_none e hp)]; exact e
theorem Rep.ofR {p : Addr} (r : Rep G (resv Z p) φ H μ) : Rep G Z φ H μ where
  len := r.len
  one := r.one
  at_ := fun n a ob h1 h2 => (r.at_ n a ob h1 h2).ex (Ex.ofR p) fun _ _ e => e
  res := fun a h => r.res a (.inl h)
  apart := fun n a ob h1 h2 l z => r.apart n a ob h1 h2 l (.inl z)
  tab := r.tab
/-- a reserved list is written -/
theorem Rep.rwr (r : Rep G Z φ H μ) {p : Addr} {xs ys : List V} (hz : Z p) (hp : H p = some (.lst xs)) : Rep G Z φ (upd H p (.lst ys)) μ ∧ Ex (Sof Z φ μ) H (Sof Z φ μ) (upd H p (.lst ys)) := by
  have ex : Ex (Sof Z φ μ) H (Sof Z φ μ) (upd H p (.lst ys)) := ⟨fun a u h n _ => ⟨by rw [upd_ne (fun e => n (.inl (by rw [e]; exact hz)))]; exact h, n⟩⟩
  refine ⟨⟨r.len, r.one, fun n a ob h1 h2 => (r.at_ n a ob h1 h2).ex ex fun l u e => ?_, fun a h => ?_, r.apart, fun q hq => ?_⟩, ex⟩
  · rw [upd_ne (fun e => r.apart n a ob h1 h2 l (by rw [e]; exact hz))]; exact e
  · by_cases e : a = p
    · exact ⟨_, by rw [e, upd_same], nr_lst⟩
    · obtain ⟨w, q, nt⟩ := r.res a h
      exact ⟨w, by rw [upd_ne e]; exact q, nt⟩
  · obtain ⟨ps, a1, a2, a3⟩ := r.tab q hq
    refine ⟨ps, by rw [upd_ne (ne_of a1 hp (fun z => nomatch z))]; exact a1, a2, fun pos cv hc => ?_⟩
    obtain ⟨c, e1, e2⟩ := a3 pos cv hc
    exact ⟨c, e1, by rw [upd_ne (ne_of e2 hp (fun z => nomatch z))]; exact e2⟩
theorem Sls.wipe {S : Addr → Prop} {ρ : Rho} {σ : L2.St} (h : Sls G φ S H ρ σ) : ∀ (vs : List Nat), Sls G φ S H (wipeR ρ vs) (L2.wipe σ vs)
  | [] => h
  | v :: vs => Sls.set (u := none) (x := none) True.intro v (Sls.wipe h vs)
theorem wipe_mem {σ : L2.St} {i : Nat} : ∀ {vs : List Nat}, i ∈ vs → (wipe σ vs).set i none = wipe σ vs
  | v :: vs, h => by
    show ((wipe σ vs).set v none).set i none = (wipe σ vs).set v none
    by_cases e : i = v
    · rw [e, List.set_set]
    · rw [List.set_comm _ _ (fun z => e z.symm), wipe_mem ((List.mem_cons.mp h).elim (fun z => absurd z e) id)]
theorem wipe_sub {σ : L2.St} : ∀ {ws vs : List Nat}, (∀ i ∈ ws, i ∈ vs) → wipe (wipe σ vs) ws = wipe σ vs
  | [], vs, _ => rfl
  | w :: ws, vs, h => by
    show (wipe (wipe σ vs) ws).set w none = wipe σ vs
    rw [wipe_sub fun i hi => h i (List.mem_cons_of_mem _ hi), wipe_mem (h w List.mem_cons_self)]
end
section
variable {G : Gc} {W : WX} {X : Cx} {pos : Pos} {tg iter : Expr} {w : Sm Wlk} {t : Tg} {cond : Sm Bool} {elt : Sm U}
/-- what has been done so far -/
structure CW (G : Gc) (Z : Addr → Prop) (Dl : Addr) (φ0 : List Addr) (μ0 : Mu) (H0 : Hp) (φ : List Addr) (μ : Mu) (H : Hp) : Prop where
  ph : ∀ (n : Nat) (a : Addr), φ0[n]? = some a → φ[n]? = some a
  ex : Ex (Sof Z φ0 μ0) H0 (Sof (resv Z Dl) φ μ) H
  rs : ∀ (a : Addr), Z a → H a = H0 a
theorem rdComp {own : List Nat} (hsl : ∀ i ∈ t.slots, i ∈ own) {fin : List U → Mu → Res U} (σ : L2.St) (H : Hp) (Q : VK)
    (hfin : ∀ (Z : Addr → Prop) (φ0 : List Addr) (μ0 : Mu) (H0 : Hp) (Dl : Addr) (φ : List Addr) (μ : Mu) (H : Hp) (acc : List U) (vs : List V), Rep G Z φ0 H0 μ0 → H0 Dl = none → CW G Z Dl φ0 μ0 H0 φ μ H → Rep G (resv Z Dl) φ H μ → H Dl = some (.lst vs) → RpUs G φ (Sof (resv Z Dl) φ μ) H acc vs →
      Po (RpU G) G Z W φ0 μ0 H0 σ (fin acc μ) Q → Q (.ref Dl) H)
    (h : rdE G W (fun ρ μ => (w ρ μ).bind fun w μ1 => (compG t own cond elt w.nxt w.fuel 0 ρ μ1 []).bind fin) σ H Q) :
    tLc (rdI G W w) (tgG G.K t) (rdT G W0 cond) (rdE G W0 elt) own σ H Q := by
  obtain ⟨Z, φ, ρ, μ, sr, po⟩ := h
  dsimp only at po
  refine ⟨Z, φ, ρ, μ, sr, ?_⟩
  cases hw : w ρ μ with
  | bad => rw [hw] at po; exact po
  | err c ns vs μ1 => rw [hw] at po; exact po
  | ok wk μ1 =>
    rw [hw] at po
    intro φ0 H0 J Src g0 r0 K s0 Dl hD
    have po0 : Po (RpU G) G Z W φ0 μ1 H0 σ ((compG t own cond elt wk.nxt wk.fuel 0 ρ μ1 []).bind fin) Q := Po.go g0 po
    have sr0 := sr.go g0 r0
    refine ⟨fun i k Hc => ∃ φ μ acc vs, CW G Z Dl φ0 μ1 H0 φ μ Hc ∧ Rep G (resv Z Dl) φ Hc μ ∧ Hc Dl = some (.lst vs) ∧ RpUs G φ (Sof (resv Z Dl) φ μ) Hc acc vs ∧ Sls G φ (Sof (resv Z Dl) φ μ) Hc ρ σ ∧ Src φ (Sof (resv Z Dl) φ μ) Hc ∧
        Po (RpU G) G Z W φ0 μ1 H0 σ ((compG t own cond elt wk.nxt k i ρ μ acc).bind fin) Q, ⟨wk.fuel, φ0, μ1, [], [], ⟨fun _ _ h => h, Ex.toR hD, fun a h => ?_⟩, r0.toR nr_lst hD, upd_same, rfl, sr0.sl.ex (Ex.toR hD), K.mono (fun _ _ h => h) (Ex.toR hD) s0, po0⟩, ?_⟩
    · obtain ⟨o, e, _⟩ := r0.res a h
      rw [upd_ne (ne_of_none e hD)]
    rintro i k H2 ⟨φ2, μ2, acc, vs, C2, r2, hD2, ra2, sl2, s2, po2⟩
    cases k with
    | zero => exact False.elim po2
    | succ k =>
      unfold compG at po2
      split at po2
      · exact False.elim po2
      · rename_i hn
        exact .inl ⟨K.stop r2 s2 hn, hfin Z φ0 μ1 H0 Dl φ2 μ2 H2 acc vs r0 hD C2 r2 hD2 ra2 po2⟩
      · rename_i u hn
        refine .inr ⟨K.go r2 s2 hn, fun Hc => ∃ φ μ acc vs, CW G Z Dl φ0 μ1 H0 φ μ Hc ∧ Rep G (resv Z Dl) φ Hc μ ∧ Hc Dl = some (.lst vs) ∧ RpUs G φ (Sof (resv Z Dl) φ μ) Hc acc vs ∧ Sls G φ (Sof (resv Z Dl) φ μ) Hc ρ σ ∧ Src φ (Sof (resv Z Dl) φ μ) Hc ∧
          Po (RpU G) G Z W φ0 μ1 H0 σ ((compG t own cond elt wk.nxt k (i + 1) ρ μ acc).bind fin) Q, fun H' q => ⟨k, Nat.lt_succ_self k, q⟩, fun x H3 y => ?_⟩
        obtain ⟨g3, r3, ru⟩ := K.yld r2 s2 hn y
        split at po2
        · exact False.elim po2
        · rename_i ρ3 ht
          have sr3 : SR G (resv Z Dl) φ2 H3 μ2 (wipeR ρ own) (wipe σ own) := ⟨r3, (sl2.mono g3).wipe own⟩
          refine tg_ok ht sr3 ru fun σ4 sr4 hwp => ?_
          have e4 : wipe σ4 own = wipe σ own := by
            rw [hwp own hsl]
            exact wipe_sub fun _ h => h
          refine ⟨e4, ⟨resv Z Dl, φ2, ρ3, μ2, sr4, ?_⟩⟩
          have cw : ∀ {φ' : List Addr} {μ' : Mu} {H' : Hp}, Go (resv Z Dl) φ2 μ2 H2 φ' μ' H' → CW G Z Dl φ0 μ1 H0 φ' μ' H' := fun g => ⟨fun n a h => g.ph n a (C2.ph n a h), C2.ex.trans g.ex, fun a h => (g.rs a (.inl h)).trans (C2.rs a h)⟩
          cases hc : cond ρ3 μ2 with
          | bad => simp only [hc] at po2; exact False.elim po2
          | err c ns vs μ5 => simp only [hc] at po2; exact False.elim po2
          | ok b μ5 =>
            intro φ5 H5 b' g5 r5 eb
            obtain rfl : b = b' := eb
            have g35 := g3.trans g5
            cases b with
            | false =>
              simp only [hc] at po2
              rw [if_neg Bool.false_ne_true]
              exact ⟨φ5, μ5, acc, vs, cw g35, r5, (g35.rs Dl (.inr rfl)).trans hD2, ra2.mono g35, sl2.mono g35, K.mono g35.ph g35.ex s2, po2⟩
            | true =>
              simp only [hc] at po2
              rw [if_pos rfl]
              refine ⟨resv Z Dl, φ5, ρ3, μ5, sr4.go g5 r5, ?_⟩
              cases he : elt ρ3 μ5 with
              | bad => simp only [he] at po2; exact False.elim po2
              | err c ns vs μ6 => simp only [he] at po2; exact False.elim po2
              | ok yv μ6 =>
                simp only [he] at po2
                intro φ6 H6 v6 g6 r6 ru6
                have g36 := g35.trans g6
                split at po2
                · rename_i hlen
                  have hD6 : H6 Dl = some (.lst vs) := (g36.rs Dl (.inr rfl)).trans hD2
                  have ra6 := ra2.mono g36
                  obtain ⟨r7, ex7⟩ := r6.rwr (p := Dl) (ys := vs ++ [v6]) (.inr rfl) hD6
                  have app : ∀ {us : List U} {xs : List V}, RpUs G φ6 (Sof (resv Z Dl) φ6 μ6) H6 us xs → RpUs G φ6 (Sof (resv Z Dl) φ6 μ6) H6 (us ++ [yv]) (xs ++ [v6]) := by
                    intro us
                    induction us with
                    | nil => intro xs h; rw [show xs = [] from h]; exact ⟨v6, [], rfl, ru6, rfl⟩
                    | cons u us ih => intro xs h; obtain ⟨v, r, e, a, b⟩ := h; subst e; exact ⟨v, r ++ [v6], rfl, a, ih b⟩
                  refine ⟨vs, hD6, ?_, φ6, μ6, acc ++ [yv], vs ++ [v6], ?_, r7, upd_same, (app ra6).ex ex7, (sl2.mono g36).ex ex7, K.mono (fun _ _ h => h) (ex7) (K.mono g36.ph g36.ex s2), po2⟩
                  · rw [ra6.length]
                    exact Nat.lt_of_lt_of_le hlen (by decide)
                  · have c6 := cw g36
                    refine ⟨c6.ph, c6.ex.trans ex7, fun a h => ?_⟩
                    rw [upd_ne (fun e => ?_)]
                    · exact c6.rs a h
                    · obtain ⟨o, q, _⟩ := r0.res a h
                      rw [e, hD] at q; cases q
                · exact False.elim po2
theorem CW.go {Z : Addr → Prop} {Dl : Addr} {φ0 φ : List Addr} {μ0 μ : Mu} {H0 H : Hp} (C : CW G Z Dl φ0 μ0 H0 φ μ H) : Go Z φ0 μ0 H0 φ μ H := ⟨C.ph, C.ex.trans (Ex.ofR _), C.rs⟩
theorem rdVComp {own : List Nat} (hsl : ∀ i ∈ t.slots, i ∈ own) (σ : L2.St) (H : Hp) (Q : VK) (h : rdE G W (vComp w t own cond elt) σ H Q) : tLc (rdI G W w) (tgG G.K t) (rdT G W0 cond) (rdE G W0 elt) own σ H Q := by
  refine rdComp hsl (fin := fun acc μ2 => match frzL acc μ2 with | some (ds, μ3) => .ok (.d (.lst ds)) μ3 | none => .bad) σ H Q (fun Z φ0 μ0 H0 Dl φ μ H acc vs r0 hD C r hDl ra po => ?_) h
  split at po
  · rename_i ds μ3 hf
    obtain ⟨F, rl⟩ := frzL_ok hf r.ofR (ra.ex (Ex.ofR _))
    have g := C.go.trans F.go
    refine po φ H (.ref Dl) g F.rep ⟨Dl, vs, rfl, .inl ⟨fun z => ?_, .inl hDl⟩, rl⟩
    rcases z with z | ⟨n, ob, e1, e2, e3⟩
    · obtain ⟨o, q, _⟩ := r0.res Dl z
      rw [hD] at q; cases q
    · exact r.apart n Dl ob e1 (F.lv.lv n ob e2 e3) e3 (.inr rfl)
  · exact False.elim po
theorem rdVCompP {own : List Nat} (hsl : ∀ i ∈ t.slots, i ∈ own) (σ : L2.St) (H : Hp) (Q : VK) (h : rdE G W (vCompP w t own cond elt) σ H Q) : tLc (rdI G W w) (tgG G.K t) (rdT G W0 cond) (rdE G W0 elt) own σ H Q := by
  refine rdComp hsl (fin := fun (acc : List U) (μ2 : Mu) => Res.ok (U.p μ2.length) (μ2 ++ [Ob.lst acc])) σ H Q (fun Z φ0 μ0 H0 Dl φ μ H acc vs r0 hD C r hDl ra po => ?_) h
  have nl : ∀ (n : Nat) (ob : Ob), φ[n]? = some Dl → μ[n]? = some ob → ob.live = true → False := fun n ob e1 e2 e3 => r.apart n Dl ob e1 e2 e3 (.inr rfl)
  have nz : ¬ Z Dl := fun z => by
    obtain ⟨o, q, _⟩ := r0.res Dl z
    rw [hD] at q; cases q
  have exq : Ex (Sof (resv Z Dl) φ μ) H (Sof Z (φ ++ [Dl]) (μ ++ [.lst acc])) H := ⟨fun a u h n _ => ⟨h, fun z => (Sof.snoc r.len z).elim (fun z => n (Sof.toR z)) fun e => n (.inl (.inr e))⟩⟩
  have g : Go Z φ0 μ0 H0 (φ ++ [Dl]) (μ ++ [.lst acc]) H := ⟨fun n a h => snoc_of (C.ph n a h), C.ex.trans exq, C.rs⟩
  have upU : ∀ {u : U} {v : V}, RpU G φ (Sof (resv Z Dl) φ μ) H u v → RpU G (φ ++ [Dl]) (Sof Z (φ ++ [Dl]) (μ ++ [.lst acc])) H u v := fun {u v} h => by
    cases u with
    | d x => exact Rp.mono exq h
    | p n => obtain ⟨a, e1, e2⟩ := h; exact ⟨a, e1, snoc_of e2⟩
  have upUs : ∀ {us : List U} {vs : List V}, RpUs G φ (Sof (resv Z Dl) φ μ) H us vs → RpUs G (φ ++ [Dl]) (Sof Z (φ ++ [Dl]) (μ ++ [.lst acc])) H us vs := by
    intro us
    induction us with
    | nil => intro vs h; exact h
    | cons u us ih => intro vs h; obtain ⟨v, r, e, a, b⟩ := h; exact ⟨v, r, e, upU a, ih b⟩
  refine po (φ ++ [Dl]) H (.ref Dl) g ?_ ⟨Dl, rfl, by rw [← r.len]; exact snoc_last⟩
  refine ⟨by rw [List.length_append, List.length_append, r.len]; rfl, fun n m a o1 u1 h1 h2 h3 h4 l1 l2 => ?_, fun n a ob h1 h2 => ?_, fun a h => r.res a (.inl h), fun n a o1 h1 h2 l => ?_, r.tab⟩
  · rcases getElem?_snoc h3 with e3 | ⟨e3, e3'⟩
    · have z1 : n < φ.length := by have := (List.getElem?_eq_some_iff.mp e3).1; rw [r.len]; exact this
      rw [List.getElem?_append_left z1] at h1
      rcases getElem?_snoc h4 with e4 | ⟨e4, e4'⟩
      · have z2 : m < φ.length := by have := (List.getElem?_eq_some_iff.mp e4).1; rw [r.len]; exact this
        rw [List.getElem?_append_left z2] at h2
        exact r.one n m a o1 u1 h1 h2 e3 e4 l1 l2
      · rw [e4, ← r.len, snoc_last] at h2
        cases h2
        exact (nl n o1 h1 e3 l1).elim
    · rw [e3, ← r.len, snoc_last] at h1
      cases h1
      rcases getElem?_snoc h4 with e4 | ⟨e4, e4'⟩
      · have z2 : m < φ.length := by have := (List.getElem?_eq_some_iff.mp e4).1; rw [r.len]; exact this
        rw [List.getElem?_append_left z2] at h2
        exact (nl m u1 h2 e4 l2).elim
      · omega
  · rcases getElem?_snoc h2 with e2 | ⟨e2, e2'⟩
    · have z1 : n < φ.length := by have := (List.getElem?_eq_some_iff.mp e2).1; rw [r.len]; exact this
      rw [List.getElem?_append_left z1] at h1
      have q := r.at_ n a ob h1 e2
      cases ob with
      | fz x => exact Rp.mono exq q
      | lst us => obtain ⟨vs, e, q⟩ := q; exact ⟨vs, e, upUs q⟩
      | dic ks us => obtain ⟨vs, e, l, q⟩ := q; exact ⟨vs, e, l, upUs q⟩
      | dit ks us => obtain ⟨vs, e, l, q⟩ := q; exact ⟨vs, e, l, upUs q⟩
      | ins c ns us => obtain ⟨dx, vs, e, l, q⟩ := q; exact ⟨dx, vs, e, l, upUs q⟩
    · rw [e2, ← r.len, snoc_last] at h1
      cases h1
      subst e2'
      exact ⟨vs, hDl, upUs ra⟩
  · rcases getElem?_snoc h2 with e2 | ⟨e2, e2'⟩
    · have z1 : n < φ.length := by have := (List.getElem?_eq_some_iff.mp e2).1; rw [r.len]; exact this
      rw [List.getElem?_append_left z1] at h1
      exact fun z => r.apart n a o1 h1 e2 l (.inl z)
    · rw [e2, ← r.len, snoc_last] at h1
      cases h1
      exact nz
section
variable {own : List (Str × Nat)} {ifs : List Expr} {scope : Scope} {elte : Expr}
theorem i_comp (hK : G.K = X.K) (hsl : ∀ i ∈ t.slots, i ∈ own.map (·.2)) (hc : X.calm = true) (hN : X.N.Nodup) (hi : PI X tg iter (rdI G W w)) (ok : BlkOk X.N X.env.scope scope own)
    (hg : ∀ (s : Shared) (H : Hp) (C : Addr) (cl : List (Str × Addr)) (fp : List Addr), PG (X.blk s H scope (compEnvC scope cl C X.env) fp) tg (tgG X.K t)) (ht : ∀ (s : Shared) (H : Hp) (C : Addr) (cl : List (Str × Addr)) (fp : List Addr), PTs (X.blk s H scope (compEnvC scope cl C X.env) fp) ifs (rdT G W0 cond))
    (he : ∀ (s : Shared) (H : Hp) (C : Addr) (cl : List (Str × Addr)) (fp : List Addr), PE (X.blk s H scope (compEnvC scope cl C X.env) fp) elte (rdE G W0 elt)) (hs : ∀ x, foldedSetIterable iter X.env x = pure x := by intro _; rfl) :
    PE X (.ListComp elte [⟨tg, iter, ifs, 0⟩] scope pos) (rdE G W (vComp w t (own.map (·.2)) cond elt)) :=
  PE.imp (pe_lc hc hN hi ok hg ht he hs) fun σ H Q h => by rw [← hK]; exact rdVComp hsl σ H Q h
theorem i_compP (hK : G.K = X.K) (hsl : ∀ i ∈ t.slots, i ∈ own.map (·.2)) (hc : X.calm = true) (hN : X.N.Nodup) (hi : PI X tg iter (rdI G W w)) (ok : BlkOk X.N X.env.scope scope own)
    (hg : ∀ (s : Shared) (H : Hp) (C : Addr) (cl : List (Str × Addr)) (fp : List Addr), PG (X.blk s H scope (compEnvC scope cl C X.env) fp) tg (tgG X.K t)) (ht : ∀ (s : Shared) (H : Hp) (C : Addr) (cl : List (Str × Addr)) (fp : List Addr), PTs (X.blk s H scope (compEnvC scope cl C X.env) fp) ifs (rdT G W0 cond))
    (he : ∀ (s : Shared) (H : Hp) (C : Addr) (cl : List (Str × Addr)) (fp : List Addr), PE (X.blk s H scope (compEnvC scope cl C X.env) fp) elte (rdE G W0 elt)) (hs : ∀ x, foldedSetIterable iter X.env x = pure x := by intro _; rfl) :
    PE X (.ListComp elte [⟨tg, iter, ifs, 0⟩] scope pos) (rdE G W (vCompP w t (own.map (·.2)) cond elt)) :=
  PE.imp (pe_lc hc hN hi ok hg ht he hs) fun σ H Q h => by rw [← hK]; exact rdVCompP hsl σ H Q h
variable {i : Nat} {y : Str} {py spos : Pos}
theorem i_setComp (hK : G.K = X.K) (hsl : ∀ i ∈ t.slots, i ∈ own.map (·.2)) (hc : X.calm = true) (hN : X.N.Nodup) (hy : X.N[i]? = some y) (hyl : X.env.scope.names.lookup y = some .local)
    (hsw : swapsWith (.ListComp elte [⟨tg, iter, ifs, 0⟩] scope pos) (some (.Name y py)) spos.line X.env = pure true) (hi : PI X tg iter (rdI G W w)) (ok : BlkOk X.N X.env.scope scope own)
    (hg : ∀ (s : Shared) (H : Hp) (C : Addr) (cl : List (Str × Addr)) (fp : List Addr), PG (X.blk s H scope (compEnvC scope cl C X.env) fp) tg (tgG X.K t)) (ht : ∀ (s : Shared) (H : Hp) (C : Addr) (cl : List (Str × Addr)) (fp : List Addr), PTs (X.blk s H scope (compEnvC scope cl C X.env) fp) ifs (rdT G W0 cond))
    (he : ∀ (s : Shared) (H : Hp) (C : Addr) (cl : List (Str × Addr)) (fp : List Addr), PE (X.blk s H scope (compEnvC scope cl C X.env) fp) elte (rdE G W0 elt)) (hs : ∀ x, foldedSetIterable iter X.env x = pure x := by intro _; rfl) :
    PS X (.Assign [.Name y py] (.ListComp elte [⟨tg, iter, ifs, 0⟩] scope pos) spos) (rdS G W (sSet i (vComp w t (own.map (·.2)) cond elt))) :=
  PS.imp (ps_setLc hc hN hy hyl hsw hi ok hg ht he hs) fun D σ H h => by
    have q := rdSet D σ H h
    rw [← hK]
    exact rdVComp hsl σ H _ q
theorem i_setCompP (hK : G.K = X.K) (hsl : ∀ i ∈ t.slots, i ∈ own.map (·.2)) (hc : X.calm = true) (hN : X.N.Nodup) (hy : X.N[i]? = some y) (hyl : X.env.scope.names.lookup y = some .local)
    (hsw : swapsWith (.ListComp elte [⟨tg, iter, ifs, 0⟩] scope pos) (some (.Name y py)) spos.line X.env = pure true) (hi : PI X tg iter (rdI G W w)) (ok : BlkOk X.N X.env.scope scope own)
    (hg : ∀ (s : Shared) (H : Hp) (C : Addr) (cl : List (Str × Addr)) (fp : List Addr), PG (X.blk s H scope (compEnvC scope cl C X.env) fp) tg (tgG X.K t)) (ht : ∀ (s : Shared) (H : Hp) (C : Addr) (cl : List (Str × Addr)) (fp : List Addr), PTs (X.blk s H scope (compEnvC scope cl C X.env) fp) ifs (rdT G W0 cond))
    (he : ∀ (s : Shared) (H : Hp) (C : Addr) (cl : List (Str × Addr)) (fp : List Addr), PE (X.blk s H scope (compEnvC scope cl C X.env) fp) elte (rdE G W0 elt)) (hs : ∀ x, foldedSetIterable iter X.env x = pure x := by intro _; rfl) :
    PS X (.Assign [.Name y py] (.ListComp elte [⟨tg, iter, ifs, 0⟩] scope pos) spos) (rdS G W (sSet i (vCompP w t (own.map (·.2)) cond elt))) :=
  PS.imp (ps_setLc hc hN hy hyl hsw hi ok hg ht he hs) fun D σ H h => by
    have q := rdSet D σ H h
    rw [← hK]
    exact rdVCompP hsl σ H _ q
theorem i_ifs0 : PTs X [] (rdT G W tYes') := ⟨fun pins s σ H Q I ⟨Z, φ, ρ, μ, sr, po⟩ => (pts_nil (X := X)).run pins s σ H Q I (po φ H true Go.refl sr.rep rfl)⟩
theorem i_ifs1 {c : Expr} (h : PT X c (rdT G W cond)) : PTs X [c] (rdT G W cond) := pts_one h
end
end
end Iv
set_option Elab.async false
set_option linter.all false
set_option maxRecDepth 100000
set_option maxHeartbeats 2000000
set_option autoImplicit false
/-! Iv, part F: what a def promises; a body keeps it; a caller uses it. -/
namespace Iv
open PySem PySem.Spec PyProof.Rows L2

/-- an object handed to a def: its contents are data -/
inductive OD where
  | fz (x : D) | lst (l : List D) | dic (ks : List Key) (vs : List D) | dit (ks : List (List Key)) (vs : List D) | ins (c : Nat) (ns : List Str) (vs : List D)
def OD.ob : OD → Ob
  | .fz x => .fz x
  | .lst l => .lst (l.map .d)
  | .dic ks vs => .dic ks (vs.map .d)
  | .dit ks vs => .dit ks (vs.map .d)
  | .ins c ns vs => .ins c ns (vs.map .d)
def OD.live : OD → Bool
  | .fz _ => false
  | _ => true
theorem OD.ob_live (o : OD) : o.ob.live = o.live := by cases o <;> rfl
inductive FR where
  | ok (u : U) (os : List OD) (new : Option OD) | err (c : Nat) (ns : List Str) (vs : List D) (os : List OD) | bad
abbrev Fn := List U → List OD → FR
abbrev obs (os : List OD) : Mu := os.map OD.ob

def PoF (G : Gc) (Z : Addr → Prop) (E : XK) (φ : List Addr) (μ : Mu) (H : Hp) (r : FR) (Q : VK) : Prop := match r with
  | .ok u os none => ∀ (H' : Hp) (v : V), Go Z φ μ H φ (obs os) H' → Rep G Z φ H' (obs os) → RpU G φ (Sof Z φ (obs os)) H' u v → Q v H'
  | .ok u os (some o) => ∀ (a : Addr) (H' : Hp) (v : V), Go Z φ μ H (φ ++ [a]) (obs os ++ [o.ob]) H' → Rep G Z (φ ++ [a]) H' (obs os ++ [o.ob]) → RpU G (φ ++ [a]) (Sof Z (φ ++ [a]) (obs os ++ [o.ob])) H' u v → Q v H'
  | .err c ns vs os => ∀ (H' : Hp) (cls : Value) (dx : Option Addr), Go Z φ μ H φ (obs os) H' → Rep G Z φ H' (obs os) → ErrR G (Sof Z φ (obs os)) H' c ns vs cls dx → E cls dx H'
  | .bad => False
/-- the promise of a def that means f -/
def spD (G : Gc) (f : Fn) (n : Nat) : Sp := fun vs H Q E => vs.length = n ∧ ∃ Z φ os us, Rep G Z φ H (obs os) ∧ RpUs G φ (Sof Z φ (obs os)) H us vs ∧ PoF G Z E φ (obs os) H (f us os) Q

/-! ### the way out of a body -/
def Ob.us : Ob → List U
  | .fz _ => []
  | .lst us => us
  | .dic _ us => us
  | .dit _ us => us
  | .ins _ _ us => us
def Ob.re : Ob → List D → Ob
  | .fz x, _ => .fz x
  | .lst _, ds => .lst (ds.map .d)
  | .dic ks _, ds => .dic ks (ds.map .d)
  | .dit ks _, ds => .dit ks (ds.map .d)
  | .ins c ns _, ds => .ins c ns (ds.map .d)
/-- the contents of a place become data -/
def clean (i : Nat) (μ : Mu) : Option Mu := match μ[i]? with
  | some ob => if ob.live = true then (match frzL ob.us μ with
      | some (ds, μ1) => (match μ1[i]? with
        | some ob1 => if ob1.live = true then some (μ1.set i (ob.re ds)) else some μ1
        | none => none)
      | none => none) else some μ
  | none => none
def cleans : Nat → Mu → Option Mu
  | 0, μ => some μ
  | n + 1, μ => match cleans n μ with
    | some μ1 => clean n μ1
    | none => none
def dOnly : List U → Option (List D)
  | [] => some []
  | .d x :: us => match dOnly us with
    | some ds => some (x :: ds)
    | none => none
  | .p _ :: _ => none
theorem dOnly_map (ds : List D) : dOnly (ds.map .d) = some ds := by
  induction ds with
  | nil => rfl
  | cons d ds ih =>
    show (match dOnly (ds.map .d) with | some ds => some (d :: ds) | none => none) = _
    rw [ih]
theorem dOnly_eq : ∀ {us : List U} {ds : List D}, dOnly us = some ds → us = ds.map .d
  | [], ds, h => by cases h; rfl
  | .d x :: us, ds, h => by
    unfold dOnly at h
    split at h
    · rename_i ds' h'
      cases h
      rw [dOnly_eq h']
      rfl
    · cases h
  | .p _ :: _, ds, h => by cases h
def readO : Ob → Option OD
  | .fz x => some (.fz x)
  | .lst us => (dOnly us).map .lst
  | .dic ks us => (dOnly us).map (.dic ks)
  | .dit ks us => (dOnly us).map (.dit ks)
  | .ins c ns us => (dOnly us).map (.ins c ns)
theorem readO_ob (o : OD) : readO o.ob = some o := by
  cases o <;> first | rfl | (simp only [OD.ob, readO, dOnly_map]; rfl)
theorem readO_eq {ob : Ob} {o : OD} (h : readO ob = some o) : ob = o.ob := by
  cases ob with
  | fz x => cases h; rfl
  | lst us =>
    obtain ⟨ds, h1, rfl⟩ := Option.map_eq_some_iff.mp h
    rw [dOnly_eq h1]; rfl
  | dic ks us =>
    obtain ⟨ds, h1, rfl⟩ := Option.map_eq_some_iff.mp h
    rw [dOnly_eq h1]; rfl
  | dit ks us =>
    obtain ⟨ds, h1, rfl⟩ := Option.map_eq_some_iff.mp h
    rw [dOnly_eq h1]; rfl
  | ins c ns us =>
    obtain ⟨ds, h1, rfl⟩ := Option.map_eq_some_iff.mp h
    rw [dOnly_eq h1]; rfl
def readOs : Mu → Option (List OD)
  | [] => some []
  | o :: μ => match readO o with
    | some x => match readOs μ with
      | some xs => some (x :: xs)
      | none => none
    | none => none
theorem readOs_obs (os : List OD) : readOs (obs os) = some os := by
  induction os with
  | nil => rfl
  | cons o os ih =>
    show (match readO o.ob with | some x => (match readOs (obs os) with | some xs => some (x :: xs) | none => none) | none => none) = _
    rw [readO_ob, ih]
theorem readOs_eq : ∀ {μ : Mu} {os : List OD}, readOs μ = some os → μ = obs os
  | [], os, h => by cases h; rfl
  | o :: μ, os, h => by
    unfold readOs at h
    split at h
    · rename_i x hx
      split at h
      · rename_i xs hxs
        cases h
        rw [readO_eq hx, readOs_eq hxs]
        rfl
      · cases h
    · cases h
/-- what a def hands back: k objects were handed in -/
def finF (k : Nat) (u : U) (μ : Mu) : FR := match (match u with
    | .p n => if n < k then some (.p n, μ) else (frzU 9 (.p n) μ).map fun p => (.d p.1, p.2)
    | .d x => some (.d x, μ) : Option (U × Mu)) with
  | some (u1, μ1) => match cleans k μ1 with
    | some μ2 => match readOs (μ2.take k) with
      | some os => .ok u1 os none
      | none => .bad
    | none => .bad
  | none => .bad
/-- a def that hands back a new object of its own -/
def finN (k : Nat) (u : U) (μ : Mu) : FR := match u with
  | .p n => if n < k then .bad else match cleans k μ with
    | some μ1 => match clean n μ1 with
      | some μ2 => match readOs (μ2.take k), μ2[n]? with
        | some os, some ob => if ob.live = true then (match readO ob with
          | some o => .ok (.p k) os (some o)
          | none => .bad) else .bad
        | _, _ => .bad
      | none => .bad
    | none => .bad
  | .d _ => .bad
def exitF (k : Nat) (fresh : Bool) (r : RS) : FR := match r with
  | .nx _ μ => finF k (.d .non) μ
  | .ret u μ => if fresh = true then finN k u μ else finF k u μ
  | .err c ns vs _ μ => match cleans k μ with
    | some μ1 => match readOs (μ1.take k) with
      | some os => .err c ns vs os
      | none => .bad
    | none => .bad
  | _ => .bad
def entry (N : Nat) (fresh : Bool) (b : SmS) : Fn := fun us os => exitF os.length fresh (b (us.map some ++ List.replicate (N - us.length) none) (obs os))

section
variable {G : Gc} {Z : Addr → Prop} {φ φ' : List Addr} {μ μ' : Mu} {H H' : Hp}
structure Fq (G : Gc) (Z : Addr → Prop) (φ : List Addr) (H : Hp) (μ μ' : Mu) : Prop where
  go : Go Z φ μ H φ μ' H
  rep : Rep G Z φ H μ'
  len : μ'.length = μ.length
theorem Fq.refl (r : Rep G Z φ H μ) : Fq G Z φ H μ μ := ⟨Go.refl, r, rfl⟩
theorem Fq.trans {μ1 μ2 : Mu} (a : Fq G Z φ H μ μ1) (b : Fq G Z φ H μ1 μ2) : Fq G Z φ H μ μ2 := ⟨a.go.trans b.go, b.rep, b.len.trans a.len⟩
theorem Frz.fq {μ1 : Mu} (F : Frz G Z φ H μ μ1) : Fq G Z φ H μ μ1 := ⟨F.go, F.rep, F.lv.len⟩
theorem Ob.re_live {ob : Ob} {ds : List D} : (ob.re ds).live = ob.live := by cases ob <;> rfl
/-- a live place told anew -/
theorem Rep.re (r : Rep G Z φ H μ) {n : Nat} {a : Addr} {ob ob' : Ob} (h1 : φ[n]? = some a) (h2 : μ[n]? = some ob) (h3 : ob.live = true) (h4 : ob'.live = true) (h : ObR G φ (Sof Z φ μ) H a ob') : Fq G Z φ H μ (μ.set n ob') := by
  have hn : n < μ.length := (List.getElem?_eq_some_iff.mp h2).1
  have s1 : ∀ {b : Addr}, Sof Z φ (μ.set n ob') b → Sof Z φ μ b := fun z => Sof.set ⟨ob, h2, h3⟩ z
  have s2 : ∀ {b : Addr}, Sof Z φ μ b → Sof Z φ (μ.set n ob') b := fun {b} z => by
    rcases z with z | ⟨m, o, e1, e2, e3⟩
    · exact .inl z
    by_cases e : n = m
    · subst e
      exact .inr ⟨n, ob', e1, List.getElem?_set_self hn, h4⟩
    · exact .inr ⟨m, o, e1, by rw [List.getElem?_set_ne e]; exact e2, e3⟩
  have ex : Ex (Sof Z φ μ) H (Sof Z φ (μ.set n ob')) H := ⟨fun b u h hs _ => ⟨h, fun z => hs (s1 z)⟩⟩
  have back : ∀ {k : Nat} {w : Ob}, (μ.set n ob')[k]? = some w → w.live = true → ∃ w', μ[k]? = some w' ∧ w'.live = true := fun {k w} hk hw => by
    by_cases e : n = k
    · subst e; exact ⟨ob, h2, h3⟩
    · rw [List.getElem?_set_ne e] at hk; exact ⟨w, hk, hw⟩
  refine ⟨⟨fun _ _ h => h, ex, fun _ _ => rfl⟩, ⟨by rw [List.length_set]; exact r.len, fun i j b o1 u1 e1 e2 e3 e4 l1 l2 => ?_, fun m b ob1 e1 e2 => ?_, r.res, fun m b o1 e1 e2 l => ?_, r.tab⟩, List.length_set⟩
  · obtain ⟨w1, f1, g1⟩ := back e3 l1
    obtain ⟨w2, f2, g2⟩ := back e4 l2
    exact r.one i j b w1 w2 e1 e2 f1 f2 g1 g2
  · by_cases e : n = m
    · subst e
      rw [h1] at e1
      cases e1
      rw [List.getElem?_set_self hn] at e2
      cases e2
      exact h.ex ex fun _ _ q => q
    · rw [List.getElem?_set_ne e] at e2
      exact (r.at_ m b ob1 e1 e2).ex ex fun _ _ q => q
  · obtain ⟨w, f, g⟩ := back e2 l
    exact r.apart m b w e1 f g
theorem ObR.us {a : Addr} : ∀ {ob : Ob}, ob.live = true → ObR G φ (Sof Z φ μ) H a ob → ∃ vs, RpUs G φ (Sof Z φ μ) H ob.us vs ∧ ∀ {μ' : Mu} {ds : List D}, RpL G (Sof Z φ μ') H ds vs → ObR G φ (Sof Z φ μ') H a (ob.re ds)
  | .fz _, l, _ => by cases l
  | .lst us, _, ⟨vs, e, r⟩ => ⟨vs, r, fun q => ⟨vs, e, q.us⟩⟩
  | .dic ks us, _, ⟨vs, e, l, r⟩ => ⟨vs, r, fun q => ⟨vs, e, l, q.us⟩⟩
  | .dit ks us, _, ⟨vs, e, l, r⟩ => ⟨vs, r, fun q => ⟨vs, e, l, q.us⟩⟩
  | .ins c ns us, _, ⟨dx, vs, e, l, r⟩ => ⟨vs, r, fun q => ⟨dx, vs, e, l, q.us⟩⟩
theorem clean_ok {i : Nat} (h : clean i μ = some μ') (r : Rep G Z φ H μ) : Fq G Z φ H μ μ' := by
  unfold clean at h
  split at h
  · rename_i ob hob
    split at h
    · rename_i hl
      split at h
      · rename_i ds μ1 hf
        obtain ⟨a, ha⟩ : ∃ a, φ[i]? = some a := ⟨_, List.getElem?_eq_getElem (by rw [r.len]; exact (List.getElem?_eq_some_iff.mp hob).1)⟩
        obtain ⟨vs, q1, q2⟩ := ObR.us hl (r.at_ i a ob ha hob)
        obtain ⟨F, rl⟩ := frzL_ok hf r q1
        split at h
        · rename_i ob1 hob1
          split at h
          · rename_i hl1
            cases h
            exact F.fq.trans (F.rep.re ha hob1 hl1 (by rw [Ob.re_live]; exact hl) (q2 rl))
          · cases h; exact F.fq
        · cases h
      · cases h
    · cases h; exact Fq.refl r
  · cases h
theorem cleans_ok : ∀ {n : Nat} {μ' : Mu}, cleans n μ = some μ' → Rep G Z φ H μ → Fq G Z φ H μ μ'
  | 0, μ', h, r => by cases h; exact Fq.refl r
  | n + 1, μ', h, r => by
    unfold cleans at h
    split at h
    · rename_i μ1 h1
      have F := cleans_ok h1 r
      exact F.trans (clean_ok h F.rep)
    · cases h
theorem Sof.take {k : Nat} {a : Addr} (h : Sof Z (φ.take k) (μ.take k) a) : Sof Z φ μ a := by
  rcases h with h | ⟨n, o, h1, h2, h3⟩
  · exact .inl h
  · have hk : n < k := by
      have := (List.getElem?_eq_some_iff.mp h1).1
      rw [List.length_take] at this
      omega
    rw [List.getElem?_take_of_lt hk] at h1 h2
    exact .inr ⟨n, o, h1, h2, h3⟩
theorem Ex.take {k : Nat} : Ex (Sof Z φ μ) H (Sof Z (φ.take k) (μ.take k)) H := ⟨fun a u h n _ => ⟨h, fun z => n z.take⟩⟩
theorem dOnlyUs {S S' : Addr → Prop} {ψ : List Addr} {H' : Hp} (e : Ex S H S' H') : ∀ {ds : List D} {vs : List V}, RpUs G φ S H (ds.map .d) vs → RpUs G ψ S' H' (ds.map .d) vs
  | [], _, h => h
  | d :: ds, _, ⟨v, r, q, a, b⟩ => ⟨v, r, q, Rp.mono e a, dOnlyUs e b⟩
theorem ObR.od {S S' : Addr → Prop} {ψ : List Addr} {H' : Hp} (e : Ex S H S' H') {a : Addr} : ∀ {o : OD}, (o.live = true → ∀ u, H a = some u → H' a = some u) → ObR G φ S H a o.ob → ObR G ψ S' H' a o.ob
  | .fz x, _, h => Rp.mono e h
  | .lst us, k, ⟨vs, q, r⟩ => ⟨vs, k rfl _ q, dOnlyUs e r⟩
  | .dic ks us, k, ⟨vs, q, l, r⟩ => ⟨vs, k rfl _ q, l, dOnlyUs e r⟩
  | .dit ks us, k, ⟨vs, q, l, r⟩ => ⟨vs, k rfl _ q, l, dOnlyUs e r⟩
  | .ins c ns us, k, ⟨dx, vs, q, l, r⟩ => ⟨dx, vs, k rfl _ q, l, dOnlyUs e r⟩
theorem Rep.take (r : Rep G Z φ H μ) {k : Nat} {os : List OD} (h : μ.take k = obs os) : Rep G Z (φ.take k) H (obs os) := by
  rw [← h]
  refine ⟨by rw [List.length_take, List.length_take, r.len], fun n m a o u h1 h2 h3 h4 l1 l2 => ?_, fun n a o h1 h2 => ?_, r.res, fun n a o h1 h2 l => ?_, r.tab⟩
  · have k1 : n < k := by have := (List.getElem?_eq_some_iff.mp h1).1; rw [List.length_take] at this; omega
    have k2 : m < k := by have := (List.getElem?_eq_some_iff.mp h2).1; rw [List.length_take] at this; omega
    rw [List.getElem?_take_of_lt k1] at h1 h3
    rw [List.getElem?_take_of_lt k2] at h2 h4
    exact r.one n m a o u h1 h2 h3 h4 l1 l2
  · have k1 : n < k := by have := (List.getElem?_eq_some_iff.mp h1).1; rw [List.length_take] at this; omega
    have h2' := h2
    rw [h] at h2'
    obtain ⟨od, _, rfl⟩ : ∃ od, os[n]? = some od ∧ od.ob = o := by
      rw [List.getElem?_map] at h2'
      cases q : os[n]? with
      | none => rw [q] at h2'; cases h2'
      | some x => rw [q] at h2'; exact ⟨x, rfl, Option.some.inj h2'⟩
    rw [List.getElem?_take_of_lt k1] at h1 h2
    exact (r.at_ n a _ h1 h2).od Ex.take fun _ _ e => e
  · have k1 : n < k := by have := (List.getElem?_eq_some_iff.mp h1).1; rw [List.length_take] at this; omega
    rw [List.getElem?_take_of_lt k1] at h1 h2
    exact r.apart n a o h1 h2 l
end
theorem take_pre {φ φ' : List Addr} (h : ∀ (n : Nat) (a : Addr), φ[n]? = some a → φ'[n]? = some a) : φ'.take φ.length = φ := by
  apply List.ext_getElem?
  intro n
  by_cases hn : n < φ.length
  · rw [List.getElem?_take_of_lt hn, List.getElem?_eq_getElem hn]
    exact h n _ (List.getElem?_eq_getElem hn)
  · rw [List.getElem?_eq_none (by rw [List.length_take]; omega), List.getElem?_eq_none (by omega)]

section
variable {G : Gc} {Z : Addr → Prop} {E : XK} {φ : List Addr} {os : List OD} {H : Hp} {Q : VK}
theorem Go.takeO {φ' : List Addr} {μ μ' : Mu} {H' : Hp} (g : Go Z φ μ H φ' μ' H') (hp : φ'.take φ.length = φ) {os' : List OD} (h : μ'.take φ.length = obs os') : Go Z φ μ H φ (obs os') H' := by
  refine ⟨fun _ _ h => h, g.ex.trans ?_, g.rs⟩
  have e := Ex.take (Z := Z) (φ := φ') (μ := μ') (H := H') (k := φ.length)
  rw [hp, h] at e
  exact e
/-- the way out, told to the promise -/
theorem fin_ok {u : U} {μ' : Mu} (r0 : Rep G Z φ H (obs os)) (po : PoF G Z E φ (obs os) H (finF os.length u μ') Q) {φ' : List Addr} {H' : Hp} {v : V} (g : Go Z φ (obs os) H φ' μ' H') (r : Rep G Z φ' H' μ') (ru : RpU G φ' (Sof Z φ' μ') H' u v) : Q v H' := by
  have hlen : os.length = φ.length := by rw [r0.len, List.length_map]
  have hp := take_pre g.ph
  unfold finF at po
  split at po
  · rename_i u1 μ1 h1
    have step : Fq G Z φ' H' μ' μ1 ∧ RpU G φ' (Sof Z φ' μ1) H' u1 v ∧ (∀ n, u1 = .p n → n < os.length) := by
      cases u with
      | d x => cases h1; exact ⟨Fq.refl r, ru, fun n e => nomatch e⟩
      | p n =>
        dsimp only at h1
        split at h1
        · rename_i hn; cases h1; exact ⟨Fq.refl r, ru, fun m e => by cases e; exact hn⟩
        · obtain ⟨⟨d, μ2⟩, h2, h3⟩ := Option.map_eq_some_iff.mp h1
          cases h3
          obtain ⟨F, rd⟩ := frzU_ok h2 r ru
          exact ⟨F.fq, rd, fun m e => nomatch e⟩
    obtain ⟨F1, ru1, hu1⟩ := step
    split at po
    · rename_i μ2 h2
      have F2 := cleans_ok h2 F1.rep
      split at po
      · rename_i os' h3
        have e3 := readOs_eq h3
        rw [hlen] at e3
        have g2 := (g.trans F1.go).trans F2.go
        have rt := F2.rep.take e3
        rw [hp] at rt
        refine po H' v (Go.takeO g2 hp e3) rt ?_
        have ru2 := ru1.mono F2.go
        cases u1 with
        | d x =>
          have e := Ex.take (Z := Z) (φ := φ') (μ := μ2) (H := H') (k := φ.length)
          rw [hp, e3] at e
          exact Rp.mono e ru2
        | p n =>
          obtain ⟨a, q1, q2⟩ := ru2
          refine ⟨a, q1, ?_⟩
          rw [← hp, List.getElem?_take_of_lt (by rw [← hlen]; exact hu1 n rfl)]
          exact q2
      · exact False.elim po
    · exact False.elim po
  · exact False.elim po
theorem finN_ok {u : U} {μ' : Mu} (r0 : Rep G Z φ H (obs os)) (po : PoF G Z E φ (obs os) H (finN os.length u μ') Q) {φ' : List Addr} {H' : Hp} {v : V} (g : Go Z φ (obs os) H φ' μ' H') (r : Rep G Z φ' H' μ') (ru : RpU G φ' (Sof Z φ' μ') H' u v) : Q v H' := by
  have hlen : os.length = φ.length := by rw [r0.len, List.length_map]
  have hp := take_pre g.ph
  unfold finN at po
  split at po
  · rename_i n
    split at po
    · exact False.elim po
    · rename_i hn
      obtain ⟨a, rfl, ha⟩ := ru
      split at po
      · rename_i μ1 h1
        have F1 := cleans_ok h1 r
        split at po
        · rename_i μ2 h2
          have F2 := F1.trans (clean_ok h2 F1.rep)
          split at po
          · rename_i os' ob h3 h4
            split at po
            · rename_i hl
              split at po
              · rename_i o h5
                have e3 := readOs_eq h3
                rw [hlen] at e3
                have e5 := readO_eq h5
                subst e5
                have g2 := g.trans F2.go
                have rt := F2.rep.take e3
                rw [hp] at rt
                have hk : (obs os').length = φ.length := rt.len.symm
                have sub : ∀ {b : Addr}, Sof Z (φ ++ [a]) (obs os' ++ [o.ob]) b → Sof Z φ' μ2 b := fun {b} z => by
                  rcases Sof.snoc (by rw [hk]) z with z | z
                  · have z' : Sof Z (φ'.take φ.length) (μ2.take φ.length) b := by rw [hp, e3]; exact z
                    exact z'.take
                  · exact .inr ⟨n, o.ob, by rw [z]; exact ha, h4, hl⟩
                have ex : Ex (Sof Z φ' μ2) H' (Sof Z (φ ++ [a]) (obs os' ++ [o.ob])) H' := ⟨fun b u h hs _ => ⟨h, fun z => hs (sub z)⟩⟩
                have at_ : ObR G (φ ++ [a]) (Sof Z (φ ++ [a]) (obs os' ++ [o.ob])) H' a o.ob := (F2.rep.at_ n a _ ha h4).od ex fun _ _ e => e
                have inn : ∀ {m : Nat} {w : Ob}, (obs os')[m]? = some w → μ2[m]? = some w ∧ m < φ.length := fun {m w} hm => by
                  have hmk : m < φ.length := by have := (List.getElem?_eq_some_iff.mp hm).1; omega
                  rw [← e3, List.getElem?_take_of_lt hmk] at hm
                  exact ⟨hm, hmk⟩
                have inφ : ∀ {m : Nat} {b : Addr}, m < φ.length → φ[m]? = some b → φ'[m]? = some b := fun {m b} hm hb => g.ph m b hb
                refine po a H' (.ref a) ⟨fun m b h => snoc_of h, g2.ex.trans ex, g2.rs⟩ ⟨?_, ?_, ?_, F2.rep.res, ?_, F2.rep.tab⟩ ⟨a, rfl, by rw [hlen]; exact snoc_last⟩
                · rw [List.length_append, List.length_append, hk]; rfl
                · intro i j b o1 u1 e1 e2 f1 f2 l1 l2
                  rcases getElem?_snoc f1 with q1 | ⟨q1, q1'⟩
                  · obtain ⟨p1, m1⟩ := inn q1
                    rw [List.getElem?_append_left m1] at e1
                    rcases getElem?_snoc f2 with q2 | ⟨q2, q2'⟩
                    · obtain ⟨p2, m2⟩ := inn q2
                      rw [List.getElem?_append_left m2] at e2
                      exact F2.rep.one i j b o1 u1 (inφ m1 e1) (inφ m2 e2) p1 p2 l1 l2
                    · rw [q2, hk, snoc_last] at e2
                      cases e2
                      have := F2.rep.one i n a o1 o.ob (inφ m1 e1) ha p1 h4 l1 hl
                      omega
                  · rw [q1, hk, snoc_last] at e1
                    cases e1
                    rcases getElem?_snoc f2 with q2 | ⟨q2, q2'⟩
                    · obtain ⟨p2, m2⟩ := inn q2
                      rw [List.getElem?_append_left m2] at e2
                      have := F2.rep.one j n a u1 o.ob (inφ m2 e2) ha p2 h4 l2 hl
                      omega
                    · omega
                · intro m b o1 e1 f1
                  rcases getElem?_snoc f1 with q1 | ⟨q1, q1'⟩
                  · obtain ⟨p1, m1⟩ := inn q1
                    rw [List.getElem?_append_left m1] at e1
                    obtain ⟨od, _, rfl⟩ : ∃ od, os'[m]? = some od ∧ od.ob = o1 := by
                      rw [List.getElem?_map] at q1
                      cases q : os'[m]? with
                      | none => rw [q] at q1; cases q1
                      | some x => rw [q] at q1; exact ⟨x, rfl, Option.some.inj q1⟩
                    exact (F2.rep.at_ m b _ (inφ m1 e1) p1).od ex fun _ _ e => e
                  · rw [q1, hk, snoc_last] at e1
                    cases e1
                    rw [q1']
                    exact at_
                · intro m b o1 e1 f1 l
                  rcases getElem?_snoc f1 with q1 | ⟨q1, q1'⟩
                  · obtain ⟨p1, m1⟩ := inn q1
                    rw [List.getElem?_append_left m1] at e1
                    exact F2.rep.apart m b o1 (inφ m1 e1) p1 l
                  · rw [q1, hk, snoc_last] at e1
                    cases e1
                    exact F2.rep.apart n a _ ha h4 hl
              · exact False.elim po
            · exact False.elim po
          · exact False.elim po
        · exact False.elim po
      · exact False.elim po
  · exact False.elim po
theorem sls_start : ∀ {us : List U} {vs : List V} {S : Addr → Prop}, RpUs G φ S H us vs → ∀ (k : Nat), Sls G φ S H (us.map some ++ List.replicate k none) (vs.map some ++ List.replicate k none)
  | [], _, S, h, k => by
    obtain rfl := (show _ = [] from h)
    show Sls G φ S H (List.replicate k none) (List.replicate k none)
    induction k with
    | zero => exact rfl
    | succ k ih => exact ⟨none, _, rfl, True.intro, ih⟩
  | u :: us, _, S, ⟨v, r, e, a, b⟩, k => by
    subst e
    exact ⟨some v, _, rfl, ⟨v, rfl, a⟩, sls_start b k⟩
theorem entry_ok {N : List Str} {vs : List V} {fresh : Bool} {b : SmS} {n : Nat} (h : spD G (entry N.length fresh b) n vs H Q E) : rdS G (fun cls d _ H => E cls d H) b { nx := fun _ H' => Q .non H', rt := Q } (L2.start N vs) H := by
  obtain ⟨hn, Z, φ, os, us, r, ru, po⟩ := h
  have hl := ru.length
  refine ⟨Z, φ, us.map some ++ List.replicate (N.length - us.length) none, obs os, ⟨r, ?_⟩, ?_⟩
  · have s := sls_start ru (N.length - us.length)
    unfold L2.start
    rw [hl]
    exact s
  · have po' : PoF G Z E φ (obs os) H (exitF os.length fresh (b (us.map some ++ List.replicate (N.length - us.length) none) (obs os))) Q := po
    cases hb : b (us.map some ++ List.replicate (N.length - us.length) none) (obs os) with
    | nx ρ1 μ1 =>
      rw [hb] at po'
      exact fun φ1 H1 σ1 g s => fin_ok (u := .d .non) (v := .non) r po' g s.rep (show Rp G (Sof Z φ1 μ1) H1 .non .non from rfl)
    | ret u μ1 =>
      rw [hb] at po'
      intro φ1 H1 v g r1 ru1
      unfold exitF at po'
      dsimp only at po'
      split at po'
      · exact finN_ok r po' g r1 ru1
      · exact fin_ok r po' g r1 ru1
    | brk ρ1 μ1 => rw [hb] at po'; exact False.elim po'
    | ct ρ1 μ1 => rw [hb] at po'; exact False.elim po'
    | bad => rw [hb] at po'; exact False.elim po'
    | err c ns vs ρ1 μ1 =>
      rw [hb] at po'
      intro φ1 H1 σ1 cls dx g s er
      unfold exitF at po'
      dsimp only at po'
      have hlen : os.length = φ.length := by rw [r.len, List.length_map]
      have hp := take_pre g.ph
      split at po'
      · rename_i μ2 h2
        have F2 := cleans_ok h2 s.rep
        split at po'
        · rename_i os' h3
          have e3 := readOs_eq h3
          rw [hlen] at e3
          have g2 := g.trans F2.go
          have rt := F2.rep.take e3
          rw [hp] at rt
          have e := Ex.take (Z := Z) (φ := φ1) (μ := μ2) (H := H1) (k := φ.length)
          rw [hp, e3] at e
          exact po' H1 cls dx (Go.takeO g2 hp e3) rt ((er.mono F2.go.ex).mono e)
        · exact False.elim po'
      · exact False.elim po'
end
end Iv
set_option Elab.async false
set_option linter.all false
set_option maxRecDepth 100000
set_option maxHeartbeats 2000000
set_option autoImplicit false
/-! Iv, part G: calls of defs, by the caller. -/
namespace Iv
open PySem PySem.Spec PyProof.Rows L2

/-- the objects handed over are told anew -/
def setAll : List Nat → List OD → Mu → Mu
  | n :: ns, o :: os, μ => setAll ns os (μ.set n o.ob)
  | _, _, μ => μ
/-- what is handed over: where fl says so the object itself, else data -/
def pass : List Bool → List U → Mu → List Nat → Option (List U × List Nat × Mu)
  | _, [], μ, ns => some ([], ns, μ)
  | fl, u :: us, μ, ns => match (match fl, u with
      | true :: _, .p n => (clean n μ).map fun μ1 => (.p ns.length, ns ++ [n], μ1)
      | _, u => (frzU 9 u μ).map fun p => (.d p.1, ns, p.2) : Option (U × List Nat × Mu)) with
    | some (w, ns1, μ1) => match pass fl.tail us μ1 ns1 with
      | some (ws, ns2, μ2) => some (w :: ws, ns2, μ2)
      | none => none
    | none => none
def readAt (μ : Mu) : List Nat → Option (List OD)
  | [] => some []
  | n :: ns => match μ[n]? with
    | some ob => if ob.live = true then (match readO ob with
      | some o => match readAt μ ns with
        | some os => some (o :: os)
        | none => none
      | none => none) else none
    | none => none
def back (ns : List Nat) (μ : Mu) : FR → Res U
  | .ok u os none => if os.length = ns.length then (match u with
      | .d d => .ok (.d d) (setAll ns os μ)
      | .p i => match ns[i]? with
        | some n => .ok (.p n) (setAll ns os μ)
        | none => .bad) else .bad
  | .ok u os (some o) => if os.length = ns.length then (match u with
      | .d d => .bad
      | .p i => if i = ns.length then .ok (.p μ.length) (setAll ns os μ ++ [o.ob]) else .bad) else .bad
  | .err c es vs os => if os.length = ns.length then .err c es vs (setAll ns os μ) else .bad
  | .bad => .bad
def callL (f : Fn) (fl : List Bool) (us : List U) (μ : Mu) : Res U := match pass fl us μ [] with
  | some (ws, ns, μ1) => if ns.Nodup then (match readAt μ1 ns with
      | some os => back ns μ1 (f ws os)
      | none => .bad) else .bad
  | none => .bad

theorem setAll_length : ∀ {ns : List Nat} {os : List OD} {μ : Mu}, (setAll ns os μ).length = μ.length
  | [], _, _ => rfl
  | n :: ns, [], _ => rfl
  | n :: ns, o :: os, μ => by
    show (setAll ns os (μ.set n o.ob)).length = μ.length
    rw [setAll_length, List.length_set]
theorem setAll_out : ∀ {ns : List Nat} {os : List OD} {μ : Mu} {m : Nat}, m ∉ ns → (setAll ns os μ)[m]? = μ[m]?
  | [], _, _, _, _ => rfl
  | n :: ns, [], _, _, _ => rfl
  | n :: ns, o :: os, μ, m, h => by
    show (setAll ns os (μ.set n o.ob))[m]? = μ[m]?
    rw [setAll_out fun z => h (List.mem_cons_of_mem _ z), List.getElem?_set_ne fun z => h (by rw [z]; exact List.mem_cons_self)]
theorem setAll_in : ∀ {ns : List Nat} {os : List OD} {μ : Mu} {i n : Nat} {o : OD}, ns.Nodup → ns[i]? = some n → os[i]? = some o → n < μ.length → (setAll ns os μ)[n]? = some o.ob
  | n0 :: ns, o0 :: os, μ, 0, n, o, nd, h1, h2, hn => by
    cases h1; cases h2
    show (setAll ns os (μ.set n0 o0.ob))[n0]? = some o0.ob
    rw [setAll_out (List.nodup_cons.mp nd).1, List.getElem?_set_self hn]
  | n0 :: ns, o0 :: os, μ, i + 1, n, o, nd, h1, h2, hn => by
    show (setAll ns os (μ.set n0 o0.ob))[n]? = some o.ob
    exact setAll_in (List.nodup_cons.mp nd).2 h1 h2 (by rw [List.length_set]; exact hn)
theorem nodup_at : ∀ {ns : List Nat} {i j n : Nat}, ns.Nodup → ns[i]? = some n → ns[j]? = some n → i = j
  | n0 :: ns, 0, 0, n, nd, h1, h2 => rfl
  | n0 :: ns, 0, j + 1, n, nd, h1, h2 => by
    cases h1
    exact absurd (List.mem_of_getElem? (show ns[j]? = some n0 from h2)) (List.nodup_cons.mp nd).1
  | n0 :: ns, i + 1, 0, n, nd, h1, h2 => by
    cases h2
    exact absurd (List.mem_of_getElem? (show ns[i]? = some n0 from h1)) (List.nodup_cons.mp nd).1
  | n0 :: ns, i + 1, j + 1, n, nd, h1, h2 => congrArg Nat.succ (nodup_at (i := i) (j := j) (n := n) (List.nodup_cons.mp nd).2 h1 h2)
theorem mem_get {ns : List Nat} {n : Nat} (h : n ∈ ns) : ∃ i : Nat, ns[i]? = some n := List.getElem?_of_mem h
theorem obs_get {os : List OD} {i : Nat} {ob : Ob} (h : (obs os)[i]? = some ob) : ∃ o, os[i]? = some o ∧ o.ob = ob := by
  rw [List.getElem?_map] at h
  cases q : os[i]? with
  | none => rw [q] at h; cases h
  | some x => rw [q] at h; exact ⟨x, rfl, Option.some.inj h⟩
theorem obs_at {os : List OD} {i : Nat} {o : OD} (h : os[i]? = some o) : (obs os)[i]? = some o.ob := by
  rw [List.getElem?_map, h]; rfl

section
variable {G : Gc} {Z : Addr → Prop} {φ : List Addr} {μ : Mu} {H : Hp}
/-- what is handed over, as it stands with the caller: ψ are new objects of the callee's own -/
structure Loc (φ : List Addr) (μ : Mu) (ns : List Nat) (os : List OD) (φl : List Addr) : Prop where
  nd : ns.Nodup
  len : os.length = ns.length
  at_ : ∀ (i n : Nat), ns[i]? = some n → ∃ a o, φ[n]? = some a ∧ φl[i]? = some a ∧ os[i]? = some o ∧ μ[n]? = some o.ob ∧ o.live = true
/-- for the callee all that may change but what is handed over is out of reach -/
def Zl (Z : Addr → Prop) (φ : List Addr) (μ : Mu) (φl : List Addr) : Addr → Prop := fun a => Sof Z φ μ a ∧ a ∉ φl
theorem Loc.out {ns : List Nat} {os : List OD} {φl : List Addr} (L : Loc φ μ ns os φl) (r : Rep G Z φ H μ) {m : Nat} {a : Addr} {ob : Ob} (h1 : φ[m]? = some a) (h2 : μ[m]? = some ob) (h3 : ob.live = true) (hm : m ∉ ns) {i : Nat} (hi : i < ns.length) : φl[i]? ≠ some a := fun z => by
  obtain ⟨b, o, e1, e2, e3, e4, e5⟩ := L.at_ i ns[i] (List.getElem?_eq_getElem hi)
  rw [z] at e2
  cases e2
  have := r.one m ns[i] a ob o.ob h1 e1 h2 e4 h3 (by rw [OD.ob_live]; exact e5)
  exact hm (by rw [this]; exact List.getElem_mem hi)
/-- behind the call: φl' the callee's places (the handed ones first), os' what stands there -/
theorem loc_back {ns : List Nat} {os : List OD} {φl φl' : List Addr} {μl μl' : Mu} {os' : List OD} {H1 H' : Hp} (r : Rep G Z φ H μ) (L : Loc φ μ ns os φl) (hll : ∀ (i : Nat), ns.length ≤ i → ∀ a, φl[i]? = some a → ¬ Sof Z φ μ a)
    (E1 : Ex (Sof Z φ μ) H (Sof (Zl Z φ μ φl) φl μl) H1) (hL : ∀ a, Sof Z φ μ a → H1 a = H a)
    (g : Go (Zl Z φ μ φl) φl μl H1 φl' μl' H') (r' : Rep G (Zl Z φ μ φl) φl' H' μl') (hos : os'.length = ns.length) (hμ : ∀ (i : Nat) (o : OD), os'[i]? = some o → μl'[i]? = some o.ob) :
    Go Z φ μ H φ (setAll ns os' μ) H' ∧ Rep G Z φ H' (setAll ns os' μ) ∧ ∀ a, Sof Z φ (setAll ns os' μ) a → Sof (Zl Z φ μ φl) φl' μl' a := by
  -- places of the caller that live behind the call
  have inn : ∀ {i n : Nat}, ns[i]? = some n → ∃ a o', φ[n]? = some a ∧ φl[i]? = some a ∧ φl'[i]? = some a ∧ os'[i]? = some o' ∧ (setAll ns os' μ)[n]? = some o'.ob ∧ μl'[i]? = some o'.ob ∧ ∃ ob, μ[n]? = some ob ∧ ob.live = true := fun {i n} hi => by
    obtain ⟨a, o, e1, e2, e3, e4, e5⟩ := L.at_ i n hi
    have hil : i < os'.length := by rw [hos]; exact (List.getElem?_eq_some_iff.mp hi).1
    have e6 : os'[i]? = some os'[i] := List.getElem?_eq_getElem hil
    exact ⟨a, os'[i], e1, e2, g.ph i a e2, e6, setAll_in L.nd hi e6 (List.getElem?_eq_some_iff.mp e4).1, hμ i _ e6, o.ob, e4, by rw [OD.ob_live]; exact e5⟩
  have live0 : ∀ {m : Nat} {a : Addr} {ob : Ob}, φ[m]? = some a → (setAll ns os' μ)[m]? = some ob → ob.live = true → m ∉ ns → μ[m]? = some ob ∧ Zl Z φ μ φl a := fun {m a ob} h1 h2 h3 hm => by
    rw [setAll_out hm] at h2
    refine ⟨h2, .inr ⟨m, ob, h1, h2, h3⟩, fun z => ?_⟩
    obtain ⟨i, hi⟩ := List.getElem?_of_mem z
    by_cases hn : i < ns.length
    · exact L.out r h1 h2 h3 hm hn hi
    · exact hll i (by omega) a hi (.inr ⟨m, ob, h1, h2, h3⟩)
  have zz : ∀ {a : Addr}, Z a → Zl Z φ μ φl a := fun {a} h => ⟨.inl h, fun z => by
    obtain ⟨i, hi⟩ := List.getElem?_of_mem z
    by_cases hn : i < ns.length
    · obtain ⟨b, o, e1, e2, e3, e4, e5⟩ := L.at_ i ns[i] (List.getElem?_eq_getElem hn)
      rw [hi] at e2
      cases e2
      exact r.apart _ a _ e1 e4 (by rw [OD.ob_live]; exact e5) h
    · exact hll i (by omega) a hi (.inl h)⟩
  have sub : ∀ a, Sof Z φ (setAll ns os' μ) a → Sof (Zl Z φ μ φl) φl' μl' a := fun a z => by
    rcases z with z | ⟨m, ob, h1, h2, h3⟩
    · exact .inl (zz z)
    by_cases hm : m ∈ ns
    · obtain ⟨i, hi⟩ := mem_get hm
      obtain ⟨b, o', e1, e2, e3, e4, e5, e6, _⟩ := inn hi
      rw [h1] at e1
      cases e1
      rw [h2] at e5
      cases e5
      exact .inr ⟨i, o'.ob, e3, e6, h3⟩
    · exact .inl (live0 h1 h2 h3 hm).2
  have back0 : ∀ {m : Nat} {ob : Ob}, (setAll ns os' μ)[m]? = some ob → ob.live = true → ∃ ob0, μ[m]? = some ob0 ∧ ob0.live = true := fun {m ob} h2 h3 => by
    by_cases hm : m ∈ ns
    · obtain ⟨i, hi⟩ := mem_get hm
      obtain ⟨b, o', e1, e2, e3, e4, e5, e6, ob0, q1, q2⟩ := inn hi
      exact ⟨ob0, q1, q2⟩
    · rw [setAll_out hm] at h2
      exact ⟨ob, h2, h3⟩
  have exS : Ex (Sof (Zl Z φ μ φl) φl' μl') H' (Sof Z φ (setAll ns os' μ)) H' := ⟨fun a o h hs _ => ⟨h, fun z => hs (sub a z)⟩⟩
  have ex : Ex (Sof Z φ μ) H (Sof Z φ (setAll ns os' μ)) H' := (E1.trans g.ex).trans exS
  have stay : ∀ {a : Addr}, Zl Z φ μ φl a → H' a = H a := fun {a} z => (g.rs a z).trans (hL a z.1)
  refine ⟨⟨fun _ _ h => h, ex, fun a h => stay (zz h)⟩, ⟨by rw [setAll_length]; exact r.len, fun i j b o1 u1 e1 e2 e3 e4 l1 l2 => ?_, fun m b ob1 e1 e2 => ?_, fun a h => ?_, fun m b o1 e1 e2 l => ?_, r'.tab⟩, sub⟩
  · obtain ⟨w1, f1, g1⟩ := back0 e3 l1
    obtain ⟨w2, f2, g2⟩ := back0 e4 l2
    exact r.one i j b w1 w2 e1 e2 f1 f2 g1 g2
  · by_cases hm : m ∈ ns
    · obtain ⟨i, hi⟩ := mem_get hm
      obtain ⟨a, o', q1, q2, q3, q4, q5, q6, _⟩ := inn hi
      rw [e1] at q1
      cases q1
      rw [e2] at q5
      cases q5
      exact (r'.at_ i b _ q3 q6).od exS fun _ _ e => e
    · rw [setAll_out hm] at e2
      refine (r.at_ m b ob1 e1 e2).ex ex fun l u hu => ?_
      rw [stay (live0 e1 (by rw [setAll_out hm]; exact e2) l hm).2]
      exact hu
  · obtain ⟨o, e, nt⟩ := r.res a h
    exact ⟨o, by rw [stay (zz h)]; exact e, nt⟩
  · obtain ⟨w, f, gl⟩ := back0 e2 l
    exact r.apart m b w e1 f gl
/-- what pass hands over -/
theorem pass_ok : ∀ {fl : List Bool} {us : List U} {vs : List V} {μ μ' : Mu} {ns0 ns : List Nat} {ws : List U}, pass fl us μ ns0 = some (ws, ns, μ') → Rep G Z φ H μ → RpUs G φ (Sof Z φ μ) H us vs →
    Fq G Z φ H μ μ' ∧ (∃ more, ns = ns0 ++ more) ∧ ∀ {ψ : List Addr} {S : Addr → Prop}, Ex (Sof Z φ μ') H S H → (∀ (i n : Nat) (a : Addr), ns[i]? = some n → φ[n]? = some a → ψ[i]? = some a) → RpUs G ψ S H ws vs
  | fl, [], vs, μ, μ', ns0, ns, ws, h, r, ru => by
    have h' : some (([] : List U), ns0, μ) = some (ws, ns, μ') := by cases fl <;> exact h
    cases h'
    exact ⟨Fq.refl r, ⟨[], (List.append_nil _).symm⟩, fun _ _ => ru⟩
  | fl, u :: us, vs, μ, μ', ns0, ns, ws, h, r, ⟨v, vs', e, ru, rus⟩ => by
    unfold pass at h
    split at h
    · rename_i w ns1 μ1 h1
      split at h
      · rename_i ws' ns2 μ2 h2
        cases h
        have dcase : (frzU 9 u μ).map (fun p => ((U.d p.1, ns0, p.2) : U × List Nat × Mu)) = some (w, ns1, μ1) → Fq G Z φ H μ μ' ∧ (∃ more, ns = ns0 ++ more) ∧ ∀ {ψ : List Addr} {S : Addr → Prop}, Ex (Sof Z φ μ') H S H → (∀ (i n : Nat) (a : Addr), ns[i]? = some n → φ[n]? = some a → ψ[i]? = some a) → RpUs G ψ S H (w :: ws') vs := fun q => by
          obtain ⟨⟨d, μ3⟩, h3, h4⟩ := Option.map_eq_some_iff.mp q
          cases h4
          obtain ⟨F, rd⟩ := frzU_ok h3 r ru
          obtain ⟨F2, m2, k2⟩ := pass_ok h2 F.rep (rus.mono F.go)
          exact ⟨F.fq.trans F2, m2, fun {ψ S} ex hψ => ⟨v, vs', e, Rp.mono ex (Rp.mono F2.go.ex rd), k2 ex hψ⟩⟩
        cases u with
        | d x => exact dcase (by cases fl with
          | nil => exact h1
          | cons b fl => cases b <;> exact h1)
        | p n =>
          cases fl with
          | nil => exact dcase h1
          | cons b fl =>
            cases b with
            | false => exact dcase h1
            | true =>
              obtain ⟨μ3, h3, h4⟩ := Option.map_eq_some_iff.mp (show (clean n μ).map (fun μ1 => ((U.p ns0.length, ns0 ++ [n], μ1) : U × List Nat × Mu)) = some (w, ns1, μ1) from h1)
              cases h4
              have F := clean_ok h3 r
              obtain ⟨F2, ⟨more, m2⟩, k2⟩ := pass_ok h2 F.rep (rus.mono F.go)
              refine ⟨F.trans F2, ⟨n :: more, by rw [m2, List.append_assoc]; rfl⟩, fun {ψ S} ex hψ => ⟨v, vs', e, ?_, k2 ex hψ⟩⟩
              obtain ⟨a, e1, e2⟩ := ru
              exact ⟨a, e1, hψ ns0.length n a (by rw [m2, List.append_assoc, List.getElem?_append_right (Nat.le_refl _)]; simp) e2⟩
      · cases h
    · cases h
theorem readAt_len : ∀ {ns : List Nat} {os : List OD}, readAt μ ns = some os → os.length = ns.length
  | [], os, h => by cases h; rfl
  | n :: ns, os, h => by
    unfold readAt at h
    split at h
    · split at h
      · split at h
        · split at h
          · rename_i os' h'
            cases h
            rw [List.length_cons, List.length_cons, readAt_len h']
          · cases h
        · cases h
      · cases h
    · cases h
theorem readAt_at : ∀ {ns : List Nat} {os : List OD} {i n : Nat}, readAt μ ns = some os → ns[i]? = some n → ∃ o, os[i]? = some o ∧ μ[n]? = some o.ob ∧ o.live = true
  | n0 :: ns, os, i, n, h, hi => by
    unfold readAt at h
    split at h
    · rename_i ob hob
      split at h
      · rename_i hl
        split at h
        · rename_i o ho
          split at h
          · rename_i os' h'
            cases h
            cases i with
            | zero =>
              cases hi
              have e := readO_eq ho
              subst e
              exact ⟨o, rfl, hob, by rw [← OD.ob_live]; exact hl⟩
            | succ i => exact readAt_at (i := i) h' hi
          · cases h
        · cases h
      · cases h
    · cases h
/-- the callee's places -/
def placesOf (φ : List Addr) (ns : List Nat) : List Addr := ns.map fun n => φ.getD n 0
theorem placesOf_at {ns : List Nat} {i n : Nat} {a : Addr} (h : ns[i]? = some n) (ha : φ[n]? = some a) : (placesOf φ ns)[i]? = some a := by
  unfold placesOf
  rw [List.getElem?_map, h]
  show some (φ.getD n 0) = some a
  rw [List.getD_eq_getElem?_getD, ha]
  rfl
theorem loc_of {ns : List Nat} {os : List OD} (r : Rep G Z φ H μ) (nd : ns.Nodup) (h : readAt μ ns = some os) : Loc φ μ ns os (placesOf φ ns) := ⟨nd, readAt_len h, fun i n hi => by
  obtain ⟨o, e1, e2, e3⟩ := readAt_at h hi
  have hn : n < φ.length := by rw [r.len]; exact (List.getElem?_eq_some_iff.mp e2).1
  have ha : φ[n]? = some φ[n] := List.getElem?_eq_getElem hn
  exact ⟨φ[n], o, ha, placesOf_at hi ha, e1, e2, e3⟩⟩
/-- for the callee as much may change as for the caller -/
theorem Loc.same {ns : List Nat} {os : List OD} {φl : List Addr} (L : Loc φ μ ns os φl) (hl : φl.length = ns.length) : ∀ a, Sof (Zl Z φ μ φl) φl (obs os) a ↔ Sof Z φ μ a := fun a => by
  constructor
  · intro z
    rcases z with z | ⟨i, ob, h1, h2, h3⟩
    · exact z.1
    · obtain ⟨o, q1, q2⟩ := obs_get h2
      have hi : i < ns.length := by rw [← hl]; exact (List.getElem?_eq_some_iff.mp h1).1
      obtain ⟨b, o', e1, e2, e3, e4, e5⟩ := L.at_ i ns[i] (List.getElem?_eq_getElem hi)
      rw [h1] at e2
      cases e2
      exact .inr ⟨_, _, e1, e4, by rw [OD.ob_live]; exact e5⟩
  · intro z
    by_cases ha : a ∈ φl
    · obtain ⟨i, hi⟩ := List.getElem?_of_mem ha
      have hn : i < ns.length := by rw [← hl]; exact (List.getElem?_eq_some_iff.mp hi).1
      obtain ⟨b, o', e1, e2, e3, e4, e5⟩ := L.at_ i ns[i] (List.getElem?_eq_getElem hn)
      exact .inr ⟨i, o'.ob, hi, obs_at e3, by rw [OD.ob_live]; exact e5⟩
    · exact .inl ⟨z, ha⟩
theorem Loc.rep {ns : List Nat} {os : List OD} {φl : List Addr} (L : Loc φ μ ns os φl) (hl : φl.length = ns.length) (r : Rep G Z φ H μ) : Rep G (Zl Z φ μ φl) φl H (obs os) := by
  have ex : Ex (Sof Z φ μ) H (Sof (Zl Z φ μ φl) φl (obs os)) H := ⟨fun a u h hs _ => ⟨h, fun z => hs ((L.same hl a).mp z)⟩⟩
  have inn : ∀ {i : Nat} {a : Addr}, φl[i]? = some a → ∃ n o, ns[i]? = some n ∧ φ[n]? = some a ∧ os[i]? = some o ∧ μ[n]? = some o.ob ∧ o.live = true := fun {i a} h => by
    have hi : i < ns.length := by rw [← hl]; exact (List.getElem?_eq_some_iff.mp h).1
    obtain ⟨b, o', e1, e2, e3, e4, e5⟩ := L.at_ i ns[i] (List.getElem?_eq_getElem hi)
    rw [h] at e2
    cases e2
    exact ⟨ns[i], o', List.getElem?_eq_getElem hi, e1, e3, e4, e5⟩
  refine ⟨by rw [List.length_map, hl, L.len], fun i j a o u h1 h2 h3 h4 l1 l2 => ?_, fun i a ob h1 h2 => ?_, fun a h => ?_, fun i a o h1 h2 _ z => z.2 (List.mem_of_getElem? h1), r.tab⟩
  · obtain ⟨n, o1, a1, a2, a3, a4, a5⟩ := inn h1
    obtain ⟨m, o2, b1, b2, b3, b4, b5⟩ := inn h2
    have e := r.one n m a _ _ a2 b2 a4 b4 (by rw [OD.ob_live]; exact a5) (by rw [OD.ob_live]; exact b5)
    subst e
    exact nodup_at L.nd a1 b1
  · obtain ⟨n, o1, a1, a2, a3, a4, a5⟩ := inn h1
    obtain ⟨o, q1, q2⟩ := obs_get h2
    rw [a3] at q1
    cases q1
    subst q2
    exact (r.at_ n a _ a2 a4).od ex fun _ _ e => e
  · rcases h.1 with z | ⟨n, ob, h1, h2, h3⟩
    · exact r.res a z
    · have q := r.at_ n a ob h1 h2
      cases ob with
      | fz x => cases h3
      | lst us => obtain ⟨vs, e, _⟩ := q; exact ⟨_, e, nr_lst⟩
      | dic ks us => obtain ⟨vs, e, _⟩ := q; exact ⟨_, e, nr_dK⟩
      | dit ks us => obtain ⟨vs, e, _⟩ := q; exact ⟨_, e, nr_dT⟩
      | ins c ns us => obtain ⟨dx, vs, e, _⟩ := q; exact ⟨_, e, nr_ins⟩
theorem placesOf_len {ns : List Nat} : (placesOf φ ns).length = ns.length := List.length_map _
/-- A CALL: what the caller wants is what the callee promises -/
theorem callL_sp {W : WX} {σ : L2.St} {f : Fn} {fl : List Bool} {us : List U} {vs : List V} {n : Nat} {Q : VK} (r : Rep G Z φ H μ) (ru : RpUs G φ (Sof Z φ μ) H us vs) (hn : vs.length = n) (po : Po (RpU G) G Z W φ μ H σ (callL f fl us μ) Q) :
    spD G f n vs H Q (fun cls dx H' => W cls dx σ H') := by
  unfold callL at po
  split at po
  · rename_i ws ns μ1 hp
    split at po
    · rename_i nd
      split at po
      · rename_i os hos
        obtain ⟨F, _, k⟩ := pass_ok hp r ru
        have L := loc_of F.rep nd hos
        have hl : (placesOf φ ns).length = ns.length := placesOf_len
        have rl := L.rep hl F.rep
        have exL : Ex (Sof Z φ μ1) H (Sof (Zl Z φ μ1 (placesOf φ ns)) (placesOf φ ns) (obs os)) H := ⟨fun a u h hs _ => ⟨h, fun z => hs ((L.same hl a).mp z)⟩⟩
        have hll : ∀ (i : Nat), ns.length ≤ i → ∀ a, (placesOf φ ns)[i]? = some a → ¬ Sof Z φ μ1 a := fun i hi a ha => by
          have := (List.getElem?_eq_some_iff.mp ha).1
          omega
        refine ⟨hn, Zl Z φ μ1 (placesOf φ ns), placesOf φ ns, os, ws, rl, k exL fun i m a h1 h2 => placesOf_at h1 h2, ?_⟩
        cases hr : f ws os with
        | bad => rw [hr] at po; exact False.elim po
        | err c es vs' os' =>
          rw [hr] at po
          unfold back at po
          dsimp only at po
          split at po
          · rename_i ho
            intro H' cls dx g r' er
            obtain ⟨g2, r2, sub⟩ := loc_back F.rep L hll exL (fun _ _ => rfl) g r' ho (fun i o h => obs_at h)
            exact po φ H' cls dx (F.go.trans g2) r2 (er.mono ⟨fun a u h hs _ => ⟨h, fun z => hs (sub a z)⟩⟩)
          · exact False.elim po
        | ok u os' new =>
          rw [hr] at po
          cases new with
          | none =>
            unfold back at po
            dsimp only at po
            split at po
            · rename_i ho
              intro H' v g r' rv
              obtain ⟨g2, r2, sub⟩ := loc_back F.rep L hll exL (fun _ _ => rfl) g r' ho (fun i o h => obs_at h)
              cases u with
              | d d => exact po φ H' v (F.go.trans g2) r2 (Rp.mono ⟨fun a u h hs _ => ⟨h, fun z => hs (sub a z)⟩⟩ rv)
              | p i =>
                dsimp only at po
                split at po
                · rename_i m hm
                  obtain ⟨a, e1, e2⟩ := rv
                  obtain ⟨b, o, q1, q2, _⟩ := L.at_ i m hm
                  rw [e2] at q2
                  cases q2
                  exact po φ H' v (F.go.trans g2) r2 ⟨a, e1, q1⟩
                · exact False.elim po
            · exact False.elim po
          | some o =>
            unfold back at po
            dsimp only at po
            split at po
            · rename_i ho
              intro a H' v g r' rv
              cases u with
              | d d => exact False.elim po
              | p i =>
                dsimp only at po
                split at po
                · rename_i hi
                  have hk : (obs os').length = (placesOf φ ns).length := by rw [List.length_map, ho, hl]
                  have hμ : ∀ (i : Nat) (o1 : OD), os'[i]? = some o1 → (obs os' ++ [o.ob])[i]? = some o1.ob := fun i o1 h => snoc_of (obs_at h)
                  obtain ⟨g2, r2, sub⟩ := loc_back F.rep L hll exL (fun _ _ => rfl) g r' ho hμ
                  have ea : (placesOf φ ns ++ [a])[i]? = some a := by rw [hi, ← hl]; exact snoc_last
                  have eo : (obs os' ++ [o.ob])[i]? = some o.ob := by rw [hi, ← hl, ← hk]; exact snoc_last
                  obtain ⟨b, e1, e2⟩ := rv
                  rw [ea] at e2
                  cases e2
                  -- the new object lies apart from all that the caller may change
                  have hfz : Sof Z φ (setAll ns os' μ1) a → o.ob.live = true → False := fun z lo => by
                    rcases z with z | ⟨m, ob, h1, h2, h3⟩
                    · refine r'.apart i a o.ob ea eo lo ⟨.inl z, fun hm => ?_⟩
                      obtain ⟨j, hj⟩ := List.getElem?_of_mem hm
                      have hjn : j < ns.length := by rw [← hl]; exact (List.getElem?_eq_some_iff.mp hj).1
                      obtain ⟨b, o1, q1, q2, q3, q4, q5⟩ := L.at_ j ns[j] (List.getElem?_eq_getElem hjn)
                      rw [hj] at q2
                      cases q2
                      exact F.rep.apart _ a _ q1 q4 (by rw [OD.ob_live]; exact q5) z
                    · by_cases hm : m ∈ ns
                      · obtain ⟨j, hj⟩ := mem_get hm
                        obtain ⟨b, o1, q1, q2, q3, q4, q5⟩ := L.at_ j m hj
                        rw [h1] at q1
                        cases q1
                        have hjl : j < os'.length := by rw [ho]; exact (List.getElem?_eq_some_iff.mp hj).1
                        have e6 : os'[j]? = some os'[j] := List.getElem?_eq_getElem hjl
                        have e7 := setAll_in nd hj e6 (List.getElem?_eq_some_iff.mp q4).1
                        rw [h2] at e7
                        cases e7
                        have := r'.one j i a _ _ (snoc_of q2) ea (hμ j _ e6) eo h3 lo
                        have := (List.getElem?_eq_some_iff.mp hj).1
                        omega
                      · have h2' := h2
                        rw [setAll_out hm] at h2'
                        refine r'.apart i a o.ob ea eo lo ⟨.inr ⟨m, ob, h1, h2', h3⟩, fun hmm => ?_⟩
                        obtain ⟨j, hj⟩ := List.getElem?_of_mem hmm
                        have hjn : j < ns.length := by rw [← hl]; exact (List.getElem?_eq_some_iff.mp hj).1
                        exact L.out F.rep h1 h2' h3 hm hjn hj
                  have sub2 : ∀ b, Sof Z (φ ++ [a]) (setAll ns os' μ1 ++ [o.ob]) b → Sof (Zl Z φ μ1 (placesOf φ ns)) (placesOf φ ns ++ [a]) (obs os' ++ [o.ob]) b := fun b z => by
                    rcases z with z | ⟨m, ob, h1, h2, h3⟩
                    · exact sub b (.inl z)
                    rcases getElem?_snoc h1 with q | ⟨q, q'⟩
                    · rcases getElem?_snoc h2 with p | ⟨p, p'⟩
                      · exact sub b (.inr ⟨m, ob, q, p, h3⟩)
                      · have := (List.getElem?_eq_some_iff.mp q).1
                        rw [r2.len] at this
                        omega
                    · rcases getElem?_snoc h2 with p | ⟨p, p'⟩
                      · have := (List.getElem?_eq_some_iff.mp p).1
                        rw [← r2.len] at this
                        omega
                      · subst q'; subst p'
                        exact .inr ⟨i, o.ob, ea, eo, h3⟩
                  have ex2 : Ex (Sof (Zl Z φ μ1 (placesOf φ ns)) (placesOf φ ns ++ [a]) (obs os' ++ [o.ob])) H' (Sof Z (φ ++ [a]) (setAll ns os' μ1 ++ [o.ob])) H' := ⟨fun b u h hs _ => ⟨h, fun z => hs (sub2 b z)⟩⟩
                  have exF : Ex (Sof Z φ μ1) H (Sof Z (φ ++ [a]) (setAll ns os' μ1 ++ [o.ob])) H' := (exL.trans g.ex).trans ex2
                  have g3 : Go Z φ μ1 H (φ ++ [a]) (setAll ns os' μ1 ++ [o.ob]) H' := ⟨fun m b h => snoc_of h, exF, g2.rs⟩
                  have hsl : (setAll ns os' μ1).length = φ.length := r2.len.symm
                  refine po (φ ++ [a]) H' v (F.go.trans g3) ⟨?_, ?_, ?_, r2.res, ?_, r'.tab⟩ ⟨a, e1, by rw [← F.rep.len]; exact snoc_last⟩
                  · rw [List.length_append, List.length_append, hsl]; rfl
                  · intro i' j' b o1 u1 h1 h2 h3 h4 l1 l2
                    rcases getElem?_snoc h3 with q1 | ⟨q1, q1'⟩
                    · have m1 : i' < φ.length := by rw [← hsl]; exact (List.getElem?_eq_some_iff.mp q1).1
                      rw [List.getElem?_append_left m1] at h1
                      rcases getElem?_snoc h4 with q2 | ⟨q2, q2'⟩
                      · have m2 : j' < φ.length := by rw [← hsl]; exact (List.getElem?_eq_some_iff.mp q2).1
                        rw [List.getElem?_append_left m2] at h2
                        exact r2.one i' j' b o1 u1 h1 h2 q1 q2 l1 l2
                      · rw [q2, hsl, snoc_last] at h2
                        cases h2
                        rw [q2'] at l2
                        exact (hfz (.inr ⟨i', o1, h1, q1, l1⟩) l2).elim
                    · rw [q1, hsl, snoc_last] at h1
                      cases h1
                      rcases getElem?_snoc h4 with q2 | ⟨q2, q2'⟩
                      · have m2 : j' < φ.length := by rw [← hsl]; exact (List.getElem?_eq_some_iff.mp q2).1
                        rw [List.getElem?_append_left m2] at h2
                        rw [q1'] at l1
                        exact (hfz (.inr ⟨j', u1, h2, q2, l2⟩) l1).elim
                      · omega
                  · intro m b ob h1 h2
                    rcases getElem?_snoc h2 with q | ⟨q, q'⟩
                    · have m1 : m < φ.length := by rw [← hsl]; exact (List.getElem?_eq_some_iff.mp q).1
                      rw [List.getElem?_append_left m1] at h1
                      have q3 := r2.at_ m b ob h1 q
                      by_cases hm : m ∈ ns
                      · obtain ⟨j, hj⟩ := mem_get hm
                        obtain ⟨c, o1, p1, p2, p3, p4, p5⟩ := L.at_ j m hj
                        rw [h1] at p1
                        cases p1
                        have hjl : j < os'.length := by rw [ho]; exact (List.getElem?_eq_some_iff.mp hj).1
                        have e6 : os'[j]? = some os'[j] := List.getElem?_eq_getElem hjl
                        have e7 := setAll_in nd hj e6 (List.getElem?_eq_some_iff.mp p4).1
                        rw [q] at e7
                        cases e7
                        exact (r'.at_ j b _ (snoc_of p2) (hμ j _ e6)).od ex2 fun _ _ e => e
                      · have q4 := q
                        rw [setAll_out hm] at q4
                        refine (F.rep.at_ m b ob h1 q4).mono g3 fun l u hu => ?_
                        rw [g.rs b ⟨.inr ⟨m, ob, h1, q4, l⟩, fun hmm => by
                          obtain ⟨j, hj⟩ := List.getElem?_of_mem hmm
                          have hjn : j < ns.length := by rw [← hl]; exact (List.getElem?_eq_some_iff.mp hj).1
                          exact L.out F.rep h1 q4 l hm hjn hj⟩]
                        exact hu
                    · rw [q, hsl, snoc_last] at h1
                      cases h1
                      rw [q']
                      exact (r'.at_ i a _ ea eo).od ex2 fun _ _ e => e
                  · intro m b ob h1 h2 l
                    rcases getElem?_snoc h2 with q | ⟨q, q'⟩
                    · have m1 : m < φ.length := by rw [← hsl]; exact (List.getElem?_eq_some_iff.mp q).1
                      rw [List.getElem?_append_left m1] at h1
                      exact r2.apart m b ob h1 q l
                    · rw [q, hsl, snoc_last] at h1
                      cases h1
                      rw [q'] at l
                      exact fun z => hfz (.inl z) l
                · exact False.elim po
            · exact False.elim po
      · exact False.elim po
    · exact False.elim po
  · exact False.elim po
end
end Iv
set_option Elab.async false
set_option linter.all false
set_option maxRecDepth 100000
set_option maxHeartbeats 2000000
set_option autoImplicit false
/-! Iv, part H: operations and built-ins by data. -/
namespace Iv
open PySem PySem.Spec PyProof.Rows L2

/-! ### what is read off a value -/
section
variable {G : Gc} {Z : Addr → Prop} {φ : List Addr} {μ : Mu} {H : Hp}
abbrev S0 : Addr → Prop := fun _ => False
theorem Ex.s0 {S : Addr → Prop} : Ex S H S0 H := ⟨fun _ _ h _ _ => ⟨h, fun z => z⟩⟩
/-- a list's items -/
def lsU (μ : Mu) : U → Option (List U)
  | .d (.lst ds) => some (ds.map .d)
  | .p n => match μ[n]? with
    | some (.lst us) => some us
    | some (.fz (.lst ds)) => some (ds.map .d)
    | _ => none
  | _ => none
theorem lsU_ok (r : Rep G Z φ H μ) {u : U} {us : List U} {x : V} (h : lsU μ u = some us) (ru : RpU G φ (Sof Z φ μ) H u x) : ∃ a vs, x = .ref a ∧ SqL G.K H a vs ∧ RpUs G φ (Sof Z φ μ) H us vs := by
  cases u with
  | d d =>
    cases d with
    | lst ds =>
      cases h
      obtain ⟨a, vs, e, l, q⟩ := ru
      exact ⟨a, vs, e, l.sq, q.us⟩
    | _ => cases h
  | p n =>
    obtain ⟨a, e, ha⟩ := ru
    unfold lsU at h
    dsimp only at h
    split at h
    · rename_i us' hu
      cases h
      obtain ⟨vs, e2, q⟩ := r.at_ n a _ ha hu
      exact ⟨a, vs, e, SqL.of e2, q⟩
    · rename_i ds hu
      cases h
      obtain ⟨b, vs, e2, l, q⟩ := (show Rp G (Sof Z φ μ) H (.lst ds) (.ref a) from r.at_ n a _ ha hu)
      cases e2
      exact ⟨a, vs, e, l.sq, q.us⟩
    · cases h
/-- a tuple's items -/
def tpU (μ : Mu) : U → Option (List D)
  | .d (.tup ds) => some ds
  | .p n => match μ[n]? with
    | some (.fz (.tup ds)) => some ds
    | _ => none
  | _ => none
theorem tpU_ok (r : Rep G Z φ H μ) {u : U} {ds : List D} {x : V} (h : tpU μ u = some ds) (ru : RpU G φ (Sof Z φ μ) H u x) : Rp G (Sof Z φ μ) H (.tup ds) x := by
  cases u with
  | d d =>
    cases d with
    | tup ds => cases h; exact ru
    | _ => cases h
  | p n =>
    obtain ⟨a, e, ha⟩ := ru
    unfold tpU at h
    dsimp only at h
    split at h
    · rename_i ds' hu
      cases h
      subst e
      exact r.at_ n a _ ha hu
    · cases h
/-- the data that a value is at this moment -/
def valD (μ : Mu) : U → Option D
  | .d x => some x
  | .p n => match μ[n]? with
    | some (.fz x) => some x
    | some (.lst us) => (dOnly us).map .lst
    | _ => none
theorem valD_ok (r : Rep G Z φ H μ) {u : U} {d : D} {x : V} (h : valD μ u = some d) (ru : RpU G φ (Sof Z φ μ) H u x) : Rp G S0 H d x := by
  cases u with
  | d x => cases h; exact Rp.mono Ex.s0 ru
  | p n =>
    obtain ⟨a, e, ha⟩ := ru
    subst e
    unfold valD at h
    dsimp only at h
    split at h
    · rename_i x hu
      cases h
      exact Rp.mono Ex.s0 (r.at_ n a _ ha hu)
    · rename_i us hu
      obtain ⟨ds, h1, rfl⟩ := Option.map_eq_some_iff.mp h
      have e1 := dOnly_eq h1
      subst e1
      obtain ⟨vs, e2, q⟩ := r.at_ n a _ ha hu
      have q' : RpL G S0 H ds vs := by
        have k : ∀ {ds : List D} {vs : List V}, RpUs G φ (Sof Z φ μ) H (ds.map .d) vs → RpL G S0 H ds vs := by
          intro ds
          induction ds with
          | nil => intro vs h; exact h
          | cons d ds ih => intro vs h; obtain ⟨v, r, e, a, b⟩ := h; exact ⟨v, r, e, Rp.mono Ex.s0 a, ih b⟩
        exact k q
      exact ⟨a, vs, rfl, .inl ⟨fun z => z, .inl e2⟩, q'⟩
    · cases h
mutual
def D.py : D → Option PyData
  | .non => some .none
  | .bl b => some (.bool b)
  | .int i => some (.int i)
  | .str x => some (.str x)
  | .lst ds => (D.pyL ds).map .list
  | .tup ds => (D.pyL ds).map .tuple
  | _ => none
def D.pyL : List D → Option (List PyData)
  | [] => some []
  | d :: ds => match d.py, D.pyL ds with
    | some p, some ps => some (p :: ps)
    | _, _ => none
end
mutual
theorem py_ok {S : Addr → Prop} : ∀ {d : D} {p : PyData} {v : V}, d.py = some p → Rp G S H d v → Dp G.K H v p
  | .non, p, v, h, r => by simp only [D.py, Option.some.injEq] at h; subst h; rw [show v = .non from r]; exact .non
  | .bl b, p, v, h, r => by simp only [D.py, Option.some.injEq] at h; subst h; rw [show v = .bl b from r]; exact .bl b
  | .int i, p, v, h, r => by simp only [D.py, Option.some.injEq] at h; subst h; rw [show v = .int i from r]; exact .int i
  | .str x, p, v, h, r => by simp only [D.py, Option.some.injEq] at h; subst h; rw [show v = .str x from r]; exact .str x
  | .lst ds, p, v, h, ⟨a, vs, e, l, q⟩ => by
    simp only [D.py] at h
    obtain ⟨ps, h1, rfl⟩ := Option.map_eq_some_iff.mp h
    subst e
    exact .lst l.sq (pyL_ok h1 q)
  | .tup ds, p, v, h, ⟨a, vs, e, l, q⟩ => by
    simp only [D.py] at h
    obtain ⟨ps, h1, rfl⟩ := Option.map_eq_some_iff.mp h
    subst e
    exact .tup l.sq (pyL_ok h1 q)
  | .dic _ _, p, v, h, r => by simp only [D.py] at h; cases h
  | .dit _ _, p, v, h, r => by simp only [D.py] at h; cases h
  | .obj _ _ _, p, v, h, r => by simp only [D.py] at h; cases h
  | .exc _ _ _, p, v, h, r => by simp only [D.py] at h; cases h
  | .clo _ _, p, v, h, r => by simp only [D.py] at h; cases h
theorem pyL_ok {S : Addr → Prop} : ∀ {ds : List D} {ps : List PyData} {vs : List V}, D.pyL ds = some ps → RpL G S H ds vs → DpAll G.K H vs ps
  | [], ps, vs, h, r => by simp only [D.pyL, Option.some.injEq] at h; subst h; rw [show vs = [] from r]; exact .nil
  | d :: ds, ps, vs, h, ⟨v, r, e, a, b⟩ => by
    simp only [D.pyL] at h
    split at h
    · rename_i p ps' h1 h2
      cases h
      subst e
      exact .cons (py_ok h1 a) (pyL_ok h2 b)
    · cases h
end
end

/-! ### arithmetic -/
section
variable {G : Gc} {X : Cx}
def fI (g : Int → Int → D) : U → U → Mu → Res U
  | .d (.int i), .d (.int j), μ => .ok (.d (g i j)) μ
  | _, _, _ => .bad
def fIC (c : Int → Int → Bool) (g : Int → Int → D) : U → U → Mu → Res U
  | .d (.int i), .d (.int j), μ => if c i j = true then .ok (.d (g i j)) μ else .bad
  | _, _, _ => .bad
theorem fI_ok {g : Int → Int → D} {g' : Int → Int → V} (h : ∀ i j, scD (g i j) (g' i j)) : Op2 G (fI g) (rI0 g') := fun Z W φ μ H σ x y u w Q r ru rw po => by
  unfold fI at po
  split at po
  · rename_i i j
    exact ⟨i, j, ru, rw, po φ H _ Go.refl r (scD.rp (h i j))⟩
  · exact False.elim po
theorem fIC_ok {c : Int → Int → Bool} {C : Int → Int → Prop} {g : Int → Int → D} {g' : Int → Int → V} (hC : ∀ i j, c i j = true → C i j) (h : ∀ i j, scD (g i j) (g' i j)) : Op2 G (fIC c g) (rI C g') := fun Z W φ μ H σ x y u w Q r ru rw po => by
  unfold fIC at po
  split at po
  · rename_i i j
    split at po
    · rename_i hc
      exact ⟨i, j, ru, rw, hC i j hc, po φ H _ Go.refl r (scD.rp (h i j))⟩
    · exact False.elim po
  · exact False.elim po
/-- list + list, whatever they stand in -/
def rCatL (K : PySem.W.Frag) : R2 := fun x y H Q => ∃ l b xs zs, x = .ref l ∧ y = .ref b ∧ SqL K H l xs ∧ SqL K H b zs ∧ xs.length + zs.length ≤ sizeLine ∧ ∀ p, H p = none → Q (.ref p) (upd H p (.lst (xs ++ zs)))
theorem op_catL : OpR X (binaryOp .Add) (rCatL X.K) := by
  intro pins s σ H x y v u Q I rx ry h
  obtain ⟨l, b, xs, zs, rfl, rfl, hl, hb, hz, q⟩ := h
  cases rx
  cases ry
  obtain ⟨its, r, ⟨o, n, ho, hc, hd, hs⟩, _⟩ := I.list hl
  obtain ⟨its2, r2, ⟨o2, n2, ho2, hc2, hd2, hs2⟩, _⟩ := I.list hb
  obtain ⟨cls, dd, data, sl⟩ := o
  obtain ⟨cls2, dd2, data2, sl2⟩ := o2
  simp only at hc hd hs hc2 hd2 hs2
  subst hc hd hs hc2 hd2 hs2
  have l1 := r.length
  have l2 := r2.length
  refine concat_meets ⟨_, ho, rfl⟩ ⟨_, ho2, rfl⟩ noFill_list_add seq_list_add PySem.F.slot_list_add PySem.F.entry_list_add (PySem.F.args_list_add_2 _ _) (PyProof.Rows.list_addW l b its.toArray its2.toArray n n2 none none sl sl2 (by rw [List.size_toArray, List.size_toArray]; omega)) ⟨ho, ho2, ?_⟩
  have ea : its.toArray ++ its2.toArray = (its ++ its2).toArray := by simp
  rw [ea]
  exact ⟨.ref _, _, I.lnew (t' := s.toks) (r.append r2) (by rw [List.length_append]; omega), rfl, q _ I.fresh⟩
def fAdd : U → U → Mu → Res U := fun u w μ => match u, w with
  | .d (.int i), .d (.int j) => .ok (.d (.int (i + j))) μ
  | .d (.str x), .d (.str y) => if x.length + y.length ≤ 1000000 then .ok (.d (.str (x ++ y))) μ else .bad
  | u, w => match lsU μ u, lsU μ w with
    | some us, some ws => oLst (us ++ ws) μ
    | _, _ => match tpU μ u, tpU μ w with
      | some us, some ws => if us.length + ws.length ≤ 100000 then .ok (.d (.tup (us ++ ws))) μ else .bad
      | _, _ => .bad
theorem RpUs.app {φ : List Addr} {S : Addr → Prop} {H : Hp} : ∀ {us ws : List U} {xs ys : List V}, RpUs G φ S H us xs → RpUs G φ S H ws ys → RpUs G φ S H (us ++ ws) (xs ++ ys)
  | [], _, _, _, h, q => by rw [show _ = [] from h]; exact q
  | u :: us, _, _, _, ⟨v, r, e, a, b⟩, q => by subst e; exact ⟨v, _, rfl, a, RpUs.app b q⟩
theorem RpL.app {S : Addr → Prop} {H : Hp} : ∀ {us ws : List D} {xs ys : List V}, RpL G S H us xs → RpL G S H ws ys → RpL G S H (us ++ ws) (xs ++ ys)
  | [], _, _, _, h, q => by rw [show _ = [] from h]; exact q
  | u :: us, _, _, _, ⟨v, r, e, a, b⟩, q => by subst e; exact ⟨v, _, rfl, a, RpL.app b q⟩
/-- a new list or tuple of what is told -/
theorem newLst {Z : Addr → Prop} {W : WX} {φ : List Addr} {μ : Mu} {H : Hp} {σ : L2.St} {us : List U} {xs : List V} {Q : VK} (r : Rep G Z φ H μ) (ru : RpUs G φ (Sof Z φ μ) H us xs) (po : Po (RpU G) G Z W φ μ H σ (oLst us μ) Q) : xs.length ≤ sizeLine ∧ ∀ p, H p = none → Q (.ref p) (upd H p (.lst xs)) := by
  unfold oLst at po
  split at po
  · rename_i ds μ2 hf
    split at po
    · rename_i hl
      obtain ⟨F, rl⟩ := frzL_ok hf r ru
      refine ⟨sz5 (by rw [rl.length]; exact hl), fun p hp => ?_⟩
      have g2 : Go Z φ μ2 H φ μ2 (upd H p (.lst xs)) := Go.newD F.rep hp
      have ns : ¬ Sof Z φ μ2 p := fun z => by
        obtain ⟨o, ho⟩ := F.rep.there z
        rw [hp] at ho; cases ho
      exact po φ _ _ (F.go.trans g2) (F.rep.newD hp) ⟨p, xs, rfl, .inl ⟨ns, .inl upd_same⟩, RpL.mono g2.ex rl⟩
    · exact False.elim po
  · exact False.elim po
theorem newTup {Z : Addr → Prop} {W : WX} {φ : List Addr} {μ : Mu} {H : Hp} {σ : L2.St} {ds : List D} {xs : List V} {Q : VK} (r : Rep G Z φ H μ) (ru : RpL G (Sof Z φ μ) H ds xs) (po : Po (RpU G) G Z W φ μ H σ (.ok (.d (.tup ds)) μ) Q) : ∀ p, H p = none → Q (.ref p) (upd H p (.tup xs)) := fun p hp => by
  have g2 : Go Z φ μ H φ μ (upd H p (.tup xs)) := Go.newD r hp
  have ns : ¬ Sof Z φ μ p := fun z => by
    obtain ⟨o, ho⟩ := r.there z
    rw [hp] at ho; cases ho
  exact po φ _ _ g2 (r.newD hp) ⟨p, xs, rfl, .inl ⟨ns, .inl upd_same⟩, RpL.mono g2.ex ru⟩
def rAddX (K : PySem.W.Frag) : R2 := fun x y H Q => (rI0 (fun i j => .int (i + j)) x y H Q ∨ (∃ i j, x = .str i ∧ y = .str j ∧ i.length + j.length ≤ sizeLine ∧ Q (.str (i ++ j)) H)) ∨ rCatL K x y H Q ∨ rCatA K x y H Q
theorem op_addX : OpR X (binaryOp .Add) (rAddX X.K) := (OpR.or op_add op_add_str).or (op_catL.or op_catA)
theorem fAdd_ok (hK : G.K = X.K) : Op2 G fAdd (rAddX X.K) := fun Z W φ μ H σ x y u w Q r ru rw po => by
  unfold fAdd at po
  split at po
  · rename_i i j
    exact .inl (.inl ⟨i, j, ru, rw, po φ H _ Go.refl r rfl⟩)
  · rename_i i j
    split at po
    · rename_i hl
      exact .inl (.inr ⟨i, j, ru, rw, Nat.le_trans hl (by decide), po φ H _ Go.refl r rfl⟩)
    · exact False.elim po
  · split at po
    · rename_i us ws h1 h2
      obtain ⟨a, xs, rfl, l1, q1⟩ := lsU_ok r h1 ru
      obtain ⟨b, ys, rfl, l2, q2⟩ := lsU_ok r h2 rw
      obtain ⟨hz, k⟩ := newLst r (q1.app q2) po
      rw [List.length_append] at hz
      exact .inr (.inl ⟨a, b, xs, ys, rfl, rfl, by rw [← hK]; exact l1, by rw [← hK]; exact l2, hz, k⟩)
    · split at po
      · rename_i us ws h1 h2
        split at po
        · rename_i hl
          have t1 := tpU_ok r h1 ru
          have t2 := tpU_ok r h2 rw
          obtain ⟨a, xs, rfl, l1, q1⟩ := t1
          obtain ⟨b, ys, rfl, l2, q2⟩ := t2
          have k := newTup r (q1.app q2) po
          refine .inr (.inr ⟨a, b, xs, ys, rfl, rfl, by rw [← hK]; exact l1.sq, by rw [← hK]; exact l2.sq, ?_, fun e => ?_, fun e e2 => ?_, fun _ _ => k⟩)
          · rw [q1.length, q2.length]; exact sz5 hl
          · have e0 : us = [] := List.eq_nil_of_length_eq_zero (by rw [← q1.length, e]; rfl)
            subst e0
            exact po φ H _ Go.refl r ⟨b, ys, rfl, l2, q2⟩
          · have e0 : ws = [] := List.eq_nil_of_length_eq_zero (by rw [← q2.length, e2]; rfl)
            subst e0
            rw [List.append_nil] at po
            exact po φ H _ Go.refl r ⟨a, xs, rfl, l1, q1⟩
        · exact False.elim po
      · exact False.elim po
theorem i_add {W : WX} {pos : Pos} {a b : Expr} {ma mb : Sm U} (hK : G.K = X.K) (ha : PE X a (rdE G W ma)) (hb : PE X b (rdE G W mb)) : PE X (.BinOp a .Add b pos) (rdE G W (v2 fAdd ma mb)) := i_bin op_addX (fAdd_ok hK) ha hb
def fSub := fI fun i j => D.int (i - j)
def cMul (i j : Int) : Bool := decide (i.natAbs < 2 ^ 64) || decide (j.natAbs < 2 ^ 64)
def fMul := fIC cMul fun i j => D.int (i * j)
def cDiv (_ j : Int) : Bool := decide (0 < j) && decide (j.natAbs < 2 ^ 64)
def fDiv := fIC cDiv fun i j => D.int (i / j)
def cMod (_ j : Int) : Bool := decide (0 < j)
def fMod := fIC cMod fun i j => D.int (i % j)
def cPow (i j : Int) : Bool := decide (0 ≤ j) && decide (j ≤ 1000000) && decide (i.natAbs < 2 ^ 64)
def fPow := fIC cPow fun i j => D.int (i ^ j.toNat)
section
variable {W : WX} {pos : Pos} {a b : Expr} {ma mb : Sm U}
theorem i_sub (ha : PE X a (rdE G W ma)) (hb : PE X b (rdE G W mb)) : PE X (.BinOp a .Sub b pos) (rdE G W (v2 fSub ma mb)) := i_bin op_sub (fI_ok fun _ _ => rfl) ha hb
theorem i_mul (ha : PE X a (rdE G W ma)) (hb : PE X b (rdE G W mb)) : PE X (.BinOp a .Mult b pos) (rdE G W (v2 fMul ma mb)) := i_bin op_mul (fIC_ok (fun i j h => by
  unfold cMul at h
  rw [Bool.or_eq_true, decide_eq_true_eq, decide_eq_true_eq] at h
  unfold CMul
  rcases h with h | h
  · exact .inl (by omega)
  · exact .inr (by omega)) fun _ _ => rfl) ha hb
theorem i_div (ha : PE X a (rdE G W ma)) (hb : PE X b (rdE G W mb)) : PE X (.BinOp a .FloorDiv b pos) (rdE G W (v2 fDiv ma mb)) := i_bin op_fdivW (fIC_ok (fun i j h => by
  unfold cDiv at h
  rw [Bool.and_eq_true, decide_eq_true_eq, decide_eq_true_eq] at h
  exact wide_div h.1 h.2 (by decide) (by decide)) fun _ _ => rfl) ha hb
theorem i_mod (ha : PE X a (rdE G W ma)) (hb : PE X b (rdE G W mb)) : PE X (.BinOp a .Mod b pos) (rdE G W (v2 fMod ma mb)) := i_bin op_mod (fIC_ok (fun i j h => by
  unfold cMod at h
  exact of_decide_eq_true h) fun _ _ => rfl) ha hb
theorem i_pow (ha : PE X a (rdE G W ma)) (hb : PE X b (rdE G W mb)) : PE X (.BinOp a .Pow b pos) (rdE G W (v2 fPow ma mb)) := i_bin op_pow (fIC_ok (fun i j h => by
  unfold cPow at h
  rw [Bool.and_eq_true, Bool.and_eq_true, decide_eq_true_eq, decide_eq_true_eq, decide_eq_true_eq] at h
  exact ⟨h.1.1, h.1.2, h.2⟩) fun _ _ => rfl) ha hb
def fNeg : U → Mu → Res U
  | .d (.int i), μ => .ok (.d (.int (-i))) μ
  | _, _ => .bad
theorem i_neg (ha : PE X a (rdE G W ma)) : PE X (.UnaryOp .USub a pos) (rdE G W (v1 fNeg ma)) := i_un un_neg (fun Z W φ μ H σ x u Q r ru po => by
  unfold fNeg at po
  split at po
  · rename_i i; exact ⟨i, ru, po φ H _ Go.refl r rfl⟩
  · exact False.elim po) ha
end

/-! ### comparisons -/
def scB : D → D → Option Bool
  | .non, .non => some true
  | .non, .int _ => some false
  | .int _, .non => some false
  | .non, .bl _ => some false
  | .bl _, .non => some false
  | .non, .str _ => some false
  | .str _, .non => some false
  | .int i, .int j => some (decide (i = j))
  | .bl i, .bl j => some (decide (i = j))
  | .str i, .str j => some (decide (i = j))
  | .int _, .str _ => some false
  | .str _, .int _ => some false
  | .bl _, .str _ => some false
  | .str _, .bl _ => some false
  | _, _ => none
def eqD (μ : Mu) (u w : U) : Option Bool := match valD μ u, valD μ w with
  | some a, some b => match scB a b with
    | some k => some k
    | none => match a.py, b.py with
      | some p, some q => if SeqAt.shaped p = true ∧ SeqAt.shaped q = true then some (PyData.eqv p q) else none
      | _, _ => none
  | _, _ => none
def fEq : U → U → Mu → Res U := fun u w μ => match eqD μ u w with
  | some k => .ok (.d (.bl k)) μ
  | none => .bad
def fNe : U → U → Mu → Res U := fun u w μ => match eqD μ u w with
  | some k => .ok (.d (.bl (!k))) μ
  | none => .bad
theorem scB_ok {S : Addr → Prop} {H : Hp} {a b : D} {x y : V} {k : Bool} (h : scB a b = some k) (ra : Rp G S H a x) (rb : Rp G S H b y) : scal x y = true ∧ decide (x = y) = k := by
  cases a <;> cases b <;> first
    | (cases h; done)
    | (obtain rfl := (show x = _ from ra); obtain rfl := (show y = _ from rb); cases h; exact ⟨rfl, by simp⟩)
theorem eqD_ok {Z : Addr → Prop} {φ : List Addr} {μ : Mu} {H : Hp} (r : Rep G Z φ H μ) {u w : U} {x y : V} {k : Bool} (h : eqD μ u w = some k) (ru : RpU G φ (Sof Z φ μ) H u x) (rw' : RpU G φ (Sof Z φ μ) H w y) :
    (scal x y = true ∧ decide (x = y) = k) ∨ ∃ d e, Dp G.K H x d ∧ Dp G.K H y e ∧ SeqAt.shaped d = true ∧ SeqAt.shaped e = true ∧ PyData.eqv d e = k := by
  unfold eqD at h
  split at h
  · rename_i a b h1 h2
    have ra := valD_ok r h1 ru
    have rb := valD_ok r h2 rw'
    split at h
    · rename_i k' hk
      cases h
      exact .inl (scB_ok hk ra rb)
    · split at h
      · rename_i p q hp hq
        split at h
        · rename_i hs
          cases h
          exact .inr ⟨p, q, py_ok hp ra, py_ok hq rb, hs.1, hs.2, rfl⟩
        · cases h
      · cases h
  · cases h
theorem fEq_ok (hK : G.K = X.K) : Op2 G fEq (fun x y H Q => rEq x y H Q ∨ rEqD X.K x y H Q) := fun Z W φ μ H σ x y u w Q r ru rw po => by
  unfold fEq at po
  split at po
  · rename_i k hk
    rcases eqD_ok r hk ru rw with ⟨h1, h2⟩ | ⟨d, e, h1, h2, h3, h4, h5⟩
    · exact .inl ⟨h1, by rw [h2]; exact po φ H _ Go.refl r rfl⟩
    · exact .inr ⟨d, e, by rw [← hK]; exact h1, by rw [← hK]; exact h2, h3, h4, by rw [h5]; exact po φ H _ Go.refl r rfl⟩
  · exact False.elim po
theorem fNe_ok (hK : G.K = X.K) : Op2 G fNe (fun x y H Q => rNe x y H Q ∨ rNeD X.K x y H Q) := fun Z W φ μ H σ x y u w Q r ru rw po => by
  unfold fNe at po
  split at po
  · rename_i k hk
    rcases eqD_ok r hk ru rw with ⟨h1, h2⟩ | ⟨d, e, h1, h2, h3, h4, h5⟩
    · exact .inl ⟨h1, by rw [h2]; exact po φ H _ Go.refl r rfl⟩
    · exact .inr ⟨d, e, by rw [← hK]; exact h1, by rw [← hK]; exact h2, h3, h4, by rw [h5]; exact po φ H _ Go.refl r rfl⟩
  · exact False.elim po
theorem op_eqX (hu : X.A.units + 64 < cLine) : OpR X (compareOp .Eq) (fun x y H Q => rEq x y H Q ∨ rEqD X.K x y H Q) := op_eq.or (op_eqD hu)
theorem op_neX (hu : X.A.units + 64 < cLine) : OpR X (compareOp .NotEq) (fun x y H Q => rNe x y H Q ∨ rNeD X.K x y H Q) := op_ne.or (op_neD hu)
def fLt := fI fun i j => D.bl (decide (i < j))
def fLe := fI fun i j => D.bl (decide (i ≤ j))
def fGt := fI fun i j => D.bl (decide (j < i))
def fGe := fI fun i j => D.bl (decide (j ≤ i))
theorem fLt_ok : Op2 G fLt (rI0 fun i j => .bl (decide (i < j))) := fI_ok fun _ _ => rfl
theorem fLe_ok : Op2 G fLe (rI0 fun i j => .bl (decide (i ≤ j))) := fI_ok fun _ _ => rfl
theorem fGt_ok : Op2 G fGt (rI0 fun i j => .bl (decide (j < i))) := fI_ok fun _ _ => rfl
theorem fGe_ok : Op2 G fGe (rI0 fun i j => .bl (decide (j ≤ i))) := fI_ok fun _ _ => rfl
/-- is None, is True, is False -/
def isNonU : U → Bool
  | .d .non => true
  | _ => false
def isU (u w : U) : Option Bool := match w with
  | .d .non => some (isNonU u)
  | .d (.bl b) => match u with
    | .d (.bl c) => some (decide (c = b))
    | _ => none
  | _ => none
def fIs : U → U → Mu → Res U := fun u w μ => match isU u w with
  | some k => .ok (.d (.bl k)) μ
  | none => .bad
def fIsn : U → U → Mu → Res U := fun u w μ => match isU u w with
  | some k => .ok (.d (.bl (!k))) μ
  | none => .bad
theorem isN_ok {Z : Addr → Prop} {φ : List Addr} {μ : Mu} {H : Hp} {u : U} {x : V} (ru : RpU G φ (Sof Z φ μ) H u x) : decide (x = .non) = isNonU u := by
  cases u with
  | p n => obtain ⟨a, rfl, _⟩ := ru; rfl
  | d d =>
    cases d with
    | non => rw [show x = .non from ru]; rfl
    | bl b => rw [show x = .bl b from ru]; rfl
    | int b => rw [show x = .int b from ru]; rfl
    | str b => rw [show x = .str b from ru]; rfl
    | tup ds => obtain ⟨a, vs, rfl, _⟩ := ru; rfl
    | lst ds => obtain ⟨a, vs, rfl, _⟩ := ru; rfl
    | dic ks ds => obtain ⟨a, vs, rfl, _⟩ := ru; rfl
    | dit ks ds => obtain ⟨a, vs, rfl, _⟩ := ru; rfl
    | obj c ns ds => obtain ⟨a, dx, vs, rfl, _⟩ := ru; rfl
    | exc c ns ds => obtain ⟨a, dx, vs, rfl, _⟩ := ru; rfl
    | clo k ds => obtain ⟨a, c', pm, ctv, fo, clo, vs, rfl, _⟩ := ru; rfl
    | cls c => rw [show x = .ref (G.cls c) from ru]; rfl
theorem fIs_ok : Op2 G fIs (fun x y H Q => (y = .non ∧ Q (.bl (decide (x = .non))) H) ∨ rIsB x y H Q) := fun Z W φ μ H σ x y u w Q r ru rw' po => by
  unfold fIs at po
  cases w with
  | p n => exact False.elim po
  | d d =>
    cases d with
    | non => exact .inl ⟨rw', by rw [isN_ok ru]; exact po φ H _ Go.refl r rfl⟩
    | bl b =>
      cases u with
      | p n => exact False.elim po
      | d d =>
        cases d with
        | bl c => exact .inr ⟨c, b, ru, rw', po φ H _ Go.refl r rfl⟩
        | _ => exact False.elim po
    | _ => exact False.elim po
theorem fIsn_ok : Op2 G fIsn (fun x y H Q => (y = .non ∧ Q (.bl (!decide (x = .non))) H) ∨ rNotB x y H Q) := fun Z W φ μ H σ x y u w Q r ru rw' po => by
  unfold fIsn at po
  cases w with
  | p n => exact False.elim po
  | d d =>
    cases d with
    | non => exact .inl ⟨rw', by rw [isN_ok ru]; exact po φ H _ Go.refl r rfl⟩
    | bl b =>
      cases u with
      | p n => exact False.elim po
      | d d =>
        cases d with
        | bl c => exact .inr ⟨c, b, ru, rw', po φ H _ Go.refl r rfl⟩
        | _ => exact False.elim po
    | _ => exact False.elim po
end
end Iv
set_option Elab.async false
set_option linter.all false
set_option maxRecDepth 100000
set_option maxHeartbeats 2000000
set_option autoImplicit false
/-! Iv, part I: calls of defs. -/
namespace Iv
open PySem PySem.Spec PyProof.Rows L2

/-- the values at the places ix, in that order -/
def ixL {α : Type} (ix : List Nat) (l : List α) : List α := ix.filterMap fun i => l[i]?
theorem vals_ix {vs : List V} {us : List Value} (r : Vals vs us) : ∀ ix : List Nat, Vals (ixL ix vs) (ixL ix us)
  | [] => .nil
  | i :: ix => by
    unfold ixL
    rw [List.filterMap_cons, List.filterMap_cons]
    cases e : vs[i]? with
    | none =>
      have e2 : us[i]? = none := List.getElem?_eq_none (by rw [← r.length]; exact List.getElem?_eq_none_iff.mp e)
      rw [e2]
      exact vals_ix r ix
    | some v =>
      obtain ⟨u, e2, rv⟩ := r.get e
      rw [e2]
      exact .cons rv (vals_ix r ix)
theorem RpUs.at2 {G : Gc} {φ : List Addr} {S : Addr → Prop} {H : Hp} : ∀ {us : List U} {vs : List V} (i : Nat), RpUs G φ S H us vs → (us[i]? = none ∧ vs[i]? = none) ∨ ∃ u v, us[i]? = some u ∧ vs[i]? = some v ∧ RpU G φ S H u v
  | [], vs, i, h => by
    obtain rfl := (show vs = [] from h)
    exact .inl ⟨by simp, by simp⟩
  | u :: us, _, 0, ⟨v, r, e, a, b⟩ => by subst e; exact .inr ⟨u, v, rfl, rfl, a⟩
  | u :: us, _, i + 1, ⟨v, r, e, a, b⟩ => by subst e; exact RpUs.at2 i b
theorem RpUs.ix {G : Gc} {φ : List Addr} {S : Addr → Prop} {H : Hp} {us : List U} {vs : List V} (r : RpUs G φ S H us vs) : ∀ ix : List Nat, RpUs G φ S H (ixL ix us) (ixL ix vs)
  | [] => rfl
  | i :: ix => by
    unfold ixL
    rw [List.filterMap_cons, List.filterMap_cons]
    rcases r.at2 i with ⟨e1, e2⟩ | ⟨u, v, e1, e2, q⟩
    · rw [e1, e2]
      exact RpUs.ix r ix
    · rw [e1, e2]
      exact ⟨v, _, rfl, q, RpUs.ix r ix⟩
/-- how a call binds: n values, keywords named ks, defaults ds; ix: which of them goes where -/
structure BindA (G : Gc) (K : PySem.W.Frag) (fd : FuncData) (ps : List Str) (n : Nat) (ks : List Str) (ix : List Nat) (ds : List D) : Prop where
  ex : ∃ (dvs : List V) (dus : List Value), Vals dvs dus ∧ (∀ (S : Addr → Prop) (H : Hp), RpL G S H ds dvs) ∧
    ∀ (s : Shared) (us ws : List Value), K.In s.heap → us.length = n → ws.length = ks.length → BindsTo s fd ⟨us, ks.zip ws⟩ (ps.zip (ixL ix (us ++ ws ++ dus)))
theorem BindA.of {G : Gc} {K : PySem.W.Frag} {x qual : Str} {st : Stmt} {f : Addr} {fd : FuncData} {ps ks : List Str} {n : Nat} {ix : List Nat} (F : Fun K x qual st f fd)
    (h : ∀ (kV doc pm : Value) (an : Option Addr) (cdv ct : Value) (us ws : List Value), us.length = n → ws.length = ks.length → bindArgs (PySem.W.fnOf x qual (defArgs st) (defBody st) (defScope st) .none kV doc pm an cdv ct) ⟨us, ks.zip ws⟩ = pure (ps.zip (ixL ix (us ++ ws)))) : BindA G K fd ps n ks ix [] := by
  obtain ⟨oc, od, kV, doc, pm, an, cdv, ct, osl, rfl, lk, hcd⟩ := F.ex
  exact ⟨[], [], .nil, fun _ _ => rfl, fun s us ws _ h1 h2 => .of_eq (by rw [List.append_nil]; exact h kV doc pm an cdv ct us ws h1 h2)⟩

section
variable {g g' : Bool} {G : Gc} {X : Cx} {W : WX} {k n : Nat} {f : Addr} {fd : FuncData} {ps ks : List Str} {fn : Fn} {ix : List Nat} {ds : List D} {fl : List Bool} {x : Str} {p pos : Pos} {e : Expr} {es : List Expr} {kws : List Keyword} {m mk : Sm (List U)}
/-- room for calls; g: nothing is being shown -/
structure RoomG (g : Bool) (k : Nat) (A : Around) : Prop where
  rm : Room k A
  gd : g = true → A.guards = some []
theorem RoomG.weak {g g' : Bool} {k : Nat} {A : Around} (r : RoomG g k A) (h : g' = true → g = true) : RoomG g' k A := ⟨r.rm, fun z => r.gd (h z)⟩
theorem RoomG.deeper {g : Bool} {k : Nat} {A : Around} (r : RoomG g (k + 1) A) (env : Env) : RoomG g k (A.deeper env) := ⟨r.rm.deeper env, fun z => (r.gd z : _)⟩
theorem RoomG.in1 {g : Bool} {k : Nat} {A : Around} (r : RoomG g (k + 1) A) : RoomG g k A.in1 := ⟨r.rm.in1, fun z => r.gd z⟩
theorem RoomG.mono {g : Bool} {j k : Nat} {A : Around} (r : RoomG g k A) (h : j ≤ k) : RoomG g j A := ⟨r.rm.mono h, r.gd⟩
/-- a def with its meaning; g: it is called only where nothing is being shown -/
structure FnG (g : Bool) (G : Gc) (P : Program) (w : World) (K : PySem.W.Frag) (mg : Str → Option Value) (base : Heap) (k : Nat) (f : Addr) (fd : FuncData) (ps : List Str) (fn : Fn) : Prop where
  run : ∀ (A : Around) (outer : List Env) (s : Shared) (H : Hp) (args : Args) (us : List Value) (vs : List V) (Q : VK) (E : XK), RoomG g k A → Env0 P w K mg base A outer s H →
    BindsTo s fd args (ps.zip us) → Vals vs us → spD G fn ps.length vs H Q E → codeAny (model P w) A (.call (.ref f) args) (CR (L2.CX P w) outer P w H s Q E) s
theorem FnG.weak {g : Bool} {P : Program} {w : World} {K : PySem.W.Frag} {mg : Str → Option Value} {base : Heap} (F : FnG false G P w K mg base k f fd ps fn) : FnG g G P w K mg base k f fd ps fn :=
  ⟨fun A outer s H args us vs Q E hr => F.run A outer s H args us vs Q E (hr.weak fun z => nomatch z)⟩
/-- .. as the hand layer has it -/
theorem FnG.ok {P : Program} {w : World} {K : PySem.W.Frag} {mg : Str → Option Value} {base : Heap} (F : FnG false G P w K mg base k f fd ps fn) : FnOk P w K mg base (L2.CX P w) k f fd ps (spD G fn ps.length) :=
  ⟨fun vs H Q E h => h.1, fun A outer s H args us vs Q E hr => F.run A outer s H args us vs Q E ⟨hr, fun z => nomatch z⟩⟩
/-- what a call's end has to be -/
def RR (X : Cx) (pins : List (Addr × Obj)) (σ : L2.St) (Q : VK) : Result → Shared → Prop := fun r s' => match r with
  | .ok (.ret v) => EP X pins σ Q v s'
  | .ok _ => False
  | .error e => X.xe e s'
theorem run_c {pins : List (Addr × Obj)} {σ : L2.St} {H : Hp} {s : Shared} {Q : VK} {us ws : List Value} {vs zs : List V} {Z : Addr → Prop} {φ : List Addr} {μ : Mu} {as bs : List U}
    (F : FnG g' G X.prog X.w X.K X.mg X.base k f fd ps fn) (hr : RoomG g k X.A) (gg : g' = true → g = true) (hb : BindA G X.K fd ps n ks ix ds) (tk : Takes X W) (hl : ix.length = ps.length) (hix : ix.all (· < n + ks.length + ds.length) = true)
    (I : Inv X pins σ H s) (r : Vals vs us) (rz : Vals zs ws) (l1 : as.length = n) (l2 : bs.length = ks.length) (rp : Rep G Z φ H μ) (ra : RpUs G φ (Sof Z φ μ) H as vs) (rb : RpUs G φ (Sof Z φ μ) H bs zs)
    (h : Po (RpU G) G Z W φ μ H σ (callL fn fl (ixL ix (as ++ bs ++ ds.map .d)) μ) Q) : codeAny (model X.prog X.w) X.A (.call (.ref f) ⟨us, ks.zip ws⟩) (RR X pins σ Q) s := by
  obtain ⟨dvs, dus, r3, rd, to⟩ := hb.ex
  have rd' : RpUs G φ (Sof Z φ μ) H (ds.map .d) dvs := (rd _ _).us
  have ru := ((ra.app rb).app rd').ix ix
  have r2 : Vals (ixL ix (vs ++ zs ++ dvs)) (ixL ix (us ++ ws ++ dus)) := vals_ix ((r.append rz).append r3) ix
  have len : ∀ {us : List U} {vs : List V}, RpUs G φ (Sof Z φ μ) H us vs → vs.length = us.length := fun {us} => by
    induction us with
    | nil => intro vs h; rw [show vs = [] from h]; rfl
    | cons u us ih => rintro vs ⟨v, r, rfl, _, b⟩; rw [List.length_cons, List.length_cons, ih b]
  have lall : (as ++ bs ++ ds.map U.d).length = n + ks.length + ds.length := by rw [List.length_append, List.length_append, List.length_map, l1, l2]
  have ixl : ∀ {ix : List Nat} {l : List U}, ix.all (· < l.length) = true → (ixL ix l).length = ix.length := fun {ix l} => by
    induction ix with
    | nil => intro _; rfl
    | cons i ix ih =>
      intro h
      rw [List.all_cons, Bool.and_eq_true, decide_eq_true_eq] at h
      unfold ixL
      rw [List.filterMap_cons, List.getElem?_eq_getElem h.1]
      exact congrArg Nat.succ (ih h.2)
  have hn : (ixL ix (vs ++ zs ++ dvs)).length = ps.length := by
    rw [len ru, ixl (by rw [lall]; exact hix), hl]
  have hq := callL_sp rp ru hn h
  refine codeAny_mono (F.run X.A X.stack s H ⟨us, ks.zip ws⟩ _ _ Q _ (hr.weak gg) I.env0 (to s us ws I.kIn (by rw [← r.length, len ra, l1]) (by rw [← rz.length, len rb, l2])) r2 hq) fun r s' hq => ?_
  cases r with
  | error e => exact passAt tk σ pins H s e s' I hq
  | ok fl =>
    cases fl with
    | ret u => exact I.after hq
    | next => exact False.elim hq
    | brk => exact False.elim hq
    | cont => exact False.elim hq
theorem run_i {pins : List (Addr × Obj)} {σ : L2.St} {H : Hp} {s : Shared} {Q : VK} {us ws : List Value} {vs zs : List V} {Z : Addr → Prop} {φ : List Addr} {μ : Mu} {as bs : List U}
    (F : FnG g' G X.prog X.w X.K X.mg X.base k f fd ps fn) (hr : RoomG g k X.A) (gg : g' = true → g = true) (hb : BindA G X.K fd ps n ks ix ds) (tk : Takes X W) (hl : ix.length = ps.length) (hix : ix.all (· < n + ks.length + ds.length) = true)
    (I : Inv X pins σ H s) (r : Vals vs us) (rz : Vals zs ws) (l1 : as.length = n) (l2 : bs.length = ks.length) (rp : Rep G Z φ H μ) (ra : RpUs G φ (Sof Z φ μ) H as vs) (rb : RpUs G φ (Sof Z φ μ) H bs zs)
    (h : Po (RpU G) G Z W φ μ H σ (callL fn fl (ixL ix (as ++ bs ++ ds.map .d)) μ) Q) : wpAny (model X.prog X.w) X.A (call (.ref f) us (ks.zip ws)) (EP X pins σ Q) X.xe s :=
  wpAny_call (run_c F hr gg hb tk hl hix I r rz l1 l2 rp ra rb h)
/-- f(e, .., k = v, ..): fl says which parameters are handed over as themselves -/
def vCall (fn : Fn) (n : Nat) (nk : Nat) (ix : List Nat) (ds : List D) (fl : List Bool) (m mk : Sm (List U)) : Sm U := fun ρ μ => (m ρ μ).bind fun us μ1 => (mk ρ μ1).bind fun ws μ2 =>
  if us.length = n ∧ ws.length = nk then callL fn fl (ixL ix (us ++ ws ++ ds.map .d)) μ2 else .bad
theorem pk_imp {t t' : TA} (h : PK X kws t) (k : ∀ σ H Q, t' σ H Q → t σ H Q) : PK X kws t' := ⟨fun pos pins s σ H Q I q => h.run pos pins s σ H Q I (k σ H Q q)⟩
theorem i_knil : PK X [] (rdA G W aNil) := pk_imp pk_nil fun σ H Q ⟨Z, φ, ρ, μ, sr, po⟩ => po φ H [] Go.refl sr.rep rfl
theorem i_kcons {nm : Option Str} {kpos : Pos} {a : Sm U} (ha : PE X e (rdE G W a)) (hr : PK X kws (rdA G W m)) : PK X (⟨nm, e, kpos⟩ :: kws) (rdA G W (aCons a m)) :=
  pk_imp (pk_cons ha hr) fun σ H Q ⟨Z, φ, ρ, μ, sr, po⟩ => by
    refine rd_mono (po_step (R1 := RpU G) sr po) fun x H1 ⟨φ1, μ1, u, g1, sr1, ru, po1⟩ => ?_
    refine rd_mono (po_step (R1 := RpUs G) sr1 po1) fun xs H2 ⟨φ2, μ2, us, g2, sr2, rus, po2⟩ => ?_
    exact po2 φ2 H2 (x :: xs) Go.refl sr2.rep ⟨x, xs, rfl, ru.mono g2, rus⟩
/-- the readings that the four shapes of a call have in common -/
def tCallI (G : Gc) (W : WX) (fn : Fn) (n nk : Nat) (ix : List Nat) (ds : List D) (fl : List Bool) (m mk : Sm (List U)) : TE := fun σ H Q =>
  rdA G W m σ H fun vs H1 => rdA G W mk σ H1 fun zs H2 => ∃ Z φ μ as bs, as.length = n ∧ bs.length = nk ∧ Rep G Z φ H2 μ ∧ RpUs G φ (Sof Z φ μ) H2 as vs ∧ RpUs G φ (Sof Z φ μ) H2 bs zs ∧ Po (RpU G) G Z W φ μ H2 σ (callL fn fl (ixL ix (as ++ bs ++ ds.map .d)) μ) Q
theorem callI_of (σ : L2.St) (H : Hp) (Q : VK) (h : rdE G W (vCall fn n ks.length ix ds fl m mk) σ H Q) : tCallI G W fn n ks.length ix ds fl m mk σ H Q := by
  obtain ⟨Z, φ, ρ, μ, sr, po⟩ := h
  refine rd_mono (po_step (R1 := RpUs G) sr po) fun vs H1 ⟨φ1, μ1, us, g1, sr1, rus, po1⟩ => ?_
  refine rd_mono (po_step (R1 := RpUs G) sr1 po1) fun zs H2 ⟨φ2, μ2, ws, g2, sr2, rws, po2⟩ => ?_
  split at po2
  · rename_i hl
    exact ⟨Z, φ2, μ2, us, ws, hl.1, hl.2, sr2.rep, rus.mono g2, rws, po2⟩
  · exact False.elim po2
theorem i_call (F : FnG g' G X.prog X.w X.K X.mg X.base k f fd ps fn) (hr : RoomG g k X.A) (gg : g' = true → g = true) (hg : Gl X x) (hm : X.mg x = some (.ref f)) (hk : PySem.W.keepIn X.K (.ref f) = true) (hb : BindA G X.K fd ps n [] ix ds) (tk : Takes X W)
    (ha : PA X (e :: es) (rdA G W m)) (hl : ix.length = ps.length := by decide) (hix : ix.all (· < n + 0 + ds.length) = true := by decide) (hdb : (x == ("__debug__" : Str)) = false := by decide) (he : starEach (e :: es) X.env = (false, eval e X.env) :: starEach es X.env := by rfl) (hpl : (backTo pos (starEach es X.env)).any (·.1) = false := by rfl) :
    PE X (.Call (.Name x p) (e :: es) [] pos) (rdE G W (vCall fn n 0 ix ds fl m aNil)) := by
  refine ⟨fun pins s σ H Q I h => ?_⟩
  refine wpAny_Call_Name_kw (ld_glob I hg hm ?_ hdb)
  obtain h := callI_of (ks := []) σ H Q h
  refine PySem.W.callWith_K (h₀ := X.base) I.ok.mod.kin hk (thn (ha.run pos pins s σ H _ I h) fun us s1 ⟨vs, H1, I1, r, q⟩ => ⟨I1.kIn, ?_⟩) he hpl
  have q' := (i_knil (X := X) (G := G) (W := W)).run pos pins s1 σ H1 _ I1 q
  obtain ⟨Z', φ', ρ', μ', sr', po'⟩ := q
  obtain ⟨Z, φ, μ, as, bs, l1, l2, rp, ra, rb, po⟩ := po' φ' H1 [] Go.refl sr'.rep rfl
  exact run_i (ws := []) (zs := []) (ks := []) F hr gg hb tk hl hix I1 r .nil l1 l2 rp ra rb po
theorem i_call0 (F : FnG g' G X.prog X.w X.K X.mg X.base k f fd ps fn) (hr : RoomG g k X.A) (gg : g' = true → g = true) (hg : Gl X x) (hm : X.mg x = some (.ref f)) (hk : PySem.W.keepIn X.K (.ref f) = true) (hb : BindA G X.K fd ps 0 [] ix ds) (tk : Takes X W)
    (hl : ix.length = ps.length := by decide) (hix : ix.all (· < 0 + 0 + ds.length) = true := by decide) (hdb : (x == ("__debug__" : Str)) = false := by decide) :
    PE X (.Call (.Name x p) [] [] pos) (rdE G W (vCall fn 0 0 ix ds fl aNil aNil)) := by
  refine ⟨fun pins s σ H Q I h => ?_⟩
  refine wpAny_Call_Name_kw (ld_glob I hg hm ?_ hdb)
  obtain ⟨Z', φ', ρ', μ', sr', po'⟩ := callI_of (ks := []) σ H Q h
  obtain ⟨Z1, φ1, ρ1, μ1, sr1, po1⟩ := po' φ' H [] Go.refl sr'.rep rfl
  obtain ⟨Z, φ, μ, as, bs, l1, l2, rp, ra, rb, po⟩ := po1 φ1 H [] Go.refl sr1.rep rfl
  exact PySem.W.callWith_K0 I.kIn hk (run_i (us := []) (vs := []) (ws := []) (zs := []) (ks := []) F hr gg hb tk hl hix I .nil .nil l1 l2 rp ra rb po)
theorem i_callK (F : FnG g' G X.prog X.w X.K X.mg X.base k f fd ps fn) (hr : RoomG g k X.A) (gg : g' = true → g = true) (hg : Gl X x) (hm : X.mg x = some (.ref f)) (hk : PySem.W.keepIn X.K (.ref f) = true) (hb : BindA G X.K fd ps n ks ix ds) (tk : Takes X W)
    (ha : PA X (e :: es) (rdA G W m)) (hkw : PK X kws (rdA G W mk)) (hall : (backToKw pos (keywordEach kws X.env)).all (·.1.isSome) = true := by rfl) (hks : (backToKw pos (keywordEach kws X.env)).filterMap (·.1) = ks := by rfl)
    (hl : ix.length = ps.length := by decide) (hix : ix.all (· < n + ks.length + ds.length) = true := by decide) (hdb : (x == ("__debug__" : Str)) = false := by decide) (he : starEach (e :: es) X.env = (false, eval e X.env) :: starEach es X.env := by rfl)
    (hpl : ((backTo pos (starEach (e :: es) X.env)).any (·.1) || (backToKw pos (keywordEach kws X.env)).any (·.1.isNone)) = false := by rfl) :
    PE X (.Call (.Name x p) (e :: es) kws pos) (rdE G W (vCall fn n ks.length ix ds fl m mk)) := by
  refine ⟨fun pins s σ H Q I h => ?_⟩
  refine wpAny_Call_Name_kw (ld_glob I hg hm ?_ hdb)
  obtain h := callI_of σ H Q h
  refine PySem.W.callWith_KW (h₀ := X.base) I.ok.mod.kin hk hall (thn (ha.run pos pins s σ H _ I h) fun us s1 ⟨vs, H1, I1, r, q⟩ => ?_) hpl he
  refine thn (hkw.run pos pins s1 σ H1 _ I1 q) fun ws s2 ⟨zs, H2, I2, rz, Z, φ, μ, as, bs, l1, l2, rp, ra, rb, po⟩ => ⟨I2.kIn, ?_⟩
  rw [hks]
  exact run_i F hr gg hb tk hl hix I2 r rz l1 l2 rp ra rb po
theorem i_callK0 {e : Expr} {nm : Option Str} {kpos : Pos} (F : FnG g' G X.prog X.w X.K X.mg X.base k f fd ps fn) (hr : RoomG g k X.A) (gg : g' = true → g = true) (hg : Gl X x) (hm : X.mg x = some (.ref f)) (hk : PySem.W.keepIn X.K (.ref f) = true) (hb : BindA G X.K fd ps 0 ks ix ds) (tk : Takes X W)
    (hkw : PK X (⟨nm, e, kpos⟩ :: kws) (rdA G W mk)) (hall : (backToKw pos (keywordEach (⟨nm, e, kpos⟩ :: kws) X.env)).all (·.1.isSome) = true := by rfl) (hks : (backToKw pos (keywordEach (⟨nm, e, kpos⟩ :: kws) X.env)).filterMap (·.1) = ks := by rfl)
    (hl : ix.length = ps.length := by decide) (hix : ix.all (· < 0 + ks.length + ds.length) = true := by decide) (hdb : (x == ("__debug__" : Str)) = false := by decide)
    (hpl : ((backTo pos (starEach [] X.env)).any (·.1) || (backToKw pos (keywordEach (⟨nm, e, kpos⟩ :: kws) X.env)).any (·.1.isNone)) = false := by rfl) :
    PE X (.Call (.Name x p) [] (⟨nm, e, kpos⟩ :: kws) pos) (rdE G W (vCall fn 0 ks.length ix ds fl aNil mk)) := by
  refine ⟨fun pins s σ H Q I h => ?_⟩
  refine wpAny_Call_Name_kw (ld_glob I hg hm ?_ hdb)
  obtain ⟨Z', φ', ρ', μ', sr', po'⟩ := callI_of σ H Q h
  have q := po' φ' H [] Go.refl sr'.rep rfl
  refine PySem.W.callWith_KW0 (h₀ := X.base) I.ok.mod.kin hk hall ?_ hpl
  refine thn (hkw.run pos pins s σ H _ I q) fun ws s2 ⟨zs, H2, I2, rz, Z, φ, μ, as, bs, l1, l2, rp, ra, rb, po⟩ => ⟨I2.kIn, ?_⟩
  rw [hks]
  exact run_i (us := []) (vs := []) F hr gg hb tk hl hix I2 .nil rz l1 l2 rp ra rb po
end
end Iv
set_option Elab.async false
set_option linter.all false
set_option maxRecDepth 100000
set_option maxHeartbeats 2000000
set_option autoImplicit false
/-! Iv, part J: exceptions. -/
namespace Iv
open PySem PySem.Spec PyProof.Rows L2

/-! ### a caught exception stands as a value -/
def ExcV (cls : Value) (dx : Option Addr) (a : Addr) : HO := .ext fun h => ∃ (oe : Obj) (vs : Array Value), h.get? a = some oe ∧ Zc cls dx oe ∧ oe.data = .fields vs
theorem excV_ok {P : Program} {w : World} {H : Hp} {h : Heap} {a : Addr} {cls : Value} {dx : Option Addr} {oe : Obj} {vs : Array Value} (e : h.get? a = some oe) (z : Zc cls dx oe) (d : oe.data = .fields vs) : ObjOk P w H h a (ExcV cls dx a) :=
  ⟨⟨oe, vs, e, z, d⟩, ⟨oe, e⟩, fun _ _ ⟨o, v, q, r⟩ k => ⟨o, v, k o q, r⟩⟩
section
variable {X : Cx} {pins : List (Addr × Obj)} {σ : L2.St} {H : Hp} {s : Shared}
theorem suiteT (I : L2.Inv X pins σ H s) {a : Addr} {oe : Obj} {vs : Array Value} {cls : Value} {dx : Option Addr} (ha : s.heap.get? a = some oe) (hz : Zc cls dx oe) (hd : oe.data = .fields vs) (na : H a = none) (n0 : X.s_0.heap.get? a = none)
    (nL : a ≠ X.env.locals) (np : ∀ p ∈ X.pn ++ pins, p.1 ≠ a) : L2.Inv (X.suite a (X.pn ++ pins)) [] σ (upd H a (ExcV cls dx a)) s := by
  have ne : ∀ {b : Addr} {o : Obj}, X.s_0.heap.get? b = some o → b ≠ a := fun {b o} e z => by rw [z, n0] at e; cases e
  refine ⟨I.ok.suite _ _, I.os, I.bare, ?_, I.loc, I.cell, by rw [upd_ne (Ne.symm nL)]; exact I.free, fun x c e => ?_, fun p hp => ?_, fun b o e => ?_, I.len⟩
  · exact ⟨I.base.keep, I.base.slot, fun b o e n hx => by rw [upd_ne (ne e)]; exact I.base.free b o e n hx, I.base.there, fun b xs e => by
      have z := I.base.tups b xs e
      rw [upd_ne (ne_of_none z na)]; exact z, fun b o u e => by
      have z := I.base.frzs b o u e
      rw [upd_ne (ne_of_none z na)]; exact z, fun b ps e => by
      obtain ⟨m, z⟩ := I.base.tbls b ps e
      exact ⟨m, by rw [upd_ne (ne_of_none z na)]; exact z⟩⟩
  · have hc : c ≠ a := fun z => by
      obtain ⟨v, o, e1, e2⟩ := I.cell x c e
      rw [z, ha] at e1
      cases e1
      rw [hd] at e2
      cases e2
    rw [upd_ne hc]
    exact I.freeC x c e
  · have hp' : p ∈ X.pn ++ pins := by rw [List.append_nil] at hp; exact hp
    obtain ⟨e1, e2, e3⟩ := I.pin p hp'
    exact ⟨e1, by rw [upd_ne (np p hp')]; exact e2, e3⟩
  · by_cases hb : b = a
    · subst hb
      rw [upd_same] at e
      cases e
      exact excV_ok ha hz hd
    · rw [upd_ne hb] at e
      exact (I.hok b o e).stay (fun c v _ q => q) (fun c q => by rw [upd_ne (ne_of_none q na)]; exact q) fun c xs q => by rw [upd_ne (ne_of_none q na)]; exact q
theorem unsuiteT {a : Addr} {pn' : List (Addr × Obj)} (I : L2.Inv (X.suite a (X.pn ++ pins)) pn' σ H s) (ok : X.Ok) : L2.Inv X pins σ H s :=
  ⟨ok, I.os, I.bare, I.base, I.loc, I.cell, I.free, I.freeC, fun p hp => I.pin p (List.mem_append_left _ hp), I.hok, I.len⟩
end
/-- what 'except x as n' wishes: the exception stands as a value -/
def wAsT (K : PySem.W.Frag) (c : Value) (i : Nat) (ts : TS) (Wout : WX) (D : Ends) : WX := fun cls d σ H =>
  ∃ b, PySem.W.exmOne K cls c = some b ∧ (b = true → ∀ a, H a = none → ts { nx := fun σ' H' => D.nx (σ'.set i none) H', rt := D.rt, bk := fun σ' H' => D.bk (σ'.set i none) H', ct := fun σ' H' => D.ct (σ'.set i none) H' } (σ.set i (some (.ref a))) (upd H a (ExcV cls d a))) ∧
    (b = false → Wout cls d σ H)
section
variable {X : Cx} {x n : Str} {c : Value} {i : Nat} {body suite : List Stmt} {b₀ : Stmt} {np pos pos' : Pos} {tb : WX → TS} {ts : TS} {Wout : WX}
theorem ps_try_asT (hs : X.stack = X.env :: X.outer) (hf : X.env.frame = some X.env.locals) (hex : X.ex = []) (hN : X.N.Nodup) (hi : X.N[i]? = some n) (hln : X.env.kindOf n = some .local) (hc : Names X x c) (tk : Takes X Wout)
    (hb : ∀ (W : WX) (pn : List (Addr × Obj)) (xe : Value → Shared → Prop), Takes (X.tr pn xe) W → PassesOwn (model X.prog X.w) X.A X.env xe → PSs (X.tr pn xe) body (tb W))
    (hsu : ∀ (a : Addr) (pn : List (Addr × Obj)), PSs (X.suite a pn) (b₀ :: suite) ts) :
    PS X (.Try body [.ExceptHandler (some (.Name x np)) (some n) (b₀ :: suite) pos'] [] [] pos) (fun D σ H => tb (wAsT X.K c i ts Wout D) D σ H) := by
  refine ⟨fun pins s σ H D I h => ?_⟩
  have ok := I.ok
  have hfr : X.A.frames = some (X.env :: X.outer) := by rw [ok.frames, hs]
  have hloc : L2.Loc X.env.scope n := .inl hln
  refine wpAny_Try_except ?_
  refine wpAny_mono ((hb (wAsT X.K c i ts Wout D) (X.pn ++ pins) (fun e s₁ => wpAny (model X.prog X.w) X.A (noteFrame e X.env) (fun _ s₂ => wpAny (model X.prog X.w) X.A (setFlight e none) (fun _ s₃ =>
    wpAny (model X.prog X.w) X.A (handleBy e X.env [.ExceptHandler (some (.Name x np)) (some n) (b₀ :: suite) pos']) (SP X pins D) X.xe s₃) X.xe s₂) X.xe s₁) (fun u s' xx => ?_) PassesOwn.looking).run [] s σ H D (I.toTry _) h) (fun f s1 hsp => ?_) (fun e s1 he => he)
  · obtain ⟨a, B, sI, pins', σ', H', cls, d, rfl, J', nb, up, sky, na, os, ag, b, hb1, hyes, hno⟩ := xx
    have J : L2.Inv X pins σ' H' sI := J'.ofTry ok
    have sky' : Sky B (X.env :: X.outer) a (Zc cls d) X.env.locals s'.heap := by rw [← hs]; exact sky
    show wpAny (model X.prog X.w) X.A (noteFrame (.ref a) X.env) _ _ _
    refine Sky.land Zc.steady hfr hf sky' fun h3 fl3 up3 => ?_
    have J3 : L2.Inv X pins σ' H' { s' with heap := h3 } := J.landed nb fl3.1 (up.trans up3) os ag
    obtain ⟨oe3, vs3, he3, hz3, hd3⟩ := fl3.there
    have notFr : ∀ {h : Heap} {o : Obj} {vs : Array Value}, h.FunFrames B (X.env :: X.outer) → h.get? a = some o → o.data = .fields vs → a ∉ frs (X.env :: X.outer) := fun {h o vs} ff e dd hm => by
      obtain ⟨_, o', e', hnf⟩ := ff.mem hm
      rw [e] at e'; cases e'
      exact hnf _ dd
    have nfr := notFr fl3.2.2.1 he3 hd3
    have nL : a ≠ X.env.locals := fun z => nfr (List.mem_filterMap.mpr ⟨X.env, List.mem_cons_self, by rw [hf, z]⟩)
    have nfs : a ∉ frs X.stack := by rw [hs]; exact nfr
    have nB : B.get? a = none := fl3.2.1
    have nI : sI.heap.get? a = none := by
      cases e : sI.heap.get? a with
      | none => rfl
      | some o => rw [nb a o e nfs] at nB; cases nB
    have n0 : X.s_0.heap.get? a = none := by
      cases e : X.s_0.heap.get? a with
      | none => rfl
      | some o =>
        obtain ⟨o', e'⟩ := J.base.there a o e (by rw [hex]; exact fun z => nomatch z)
        rw [nI] at e'; cases e'
    have np' : ∀ p ∈ X.pn ++ pins, p.1 ≠ a := fun p hp z => by
      have e1 := (J.pin p hp).1
      rw [z, nI] at e1; cases e1
    have S3 := suiteT J3 he3 hz3 hd3 na n0 nL np'
    refine wpAny_handleBy_cons (codeAny_handlers_test ?_) (by intro q; cases q)
    have LT : PySem.W.Looks (model X.prog X.w) h3 (typeOf (.ref a)) cls := fun A Q E s k q => wpAny_typeOf_ref (k _ _ he3) (by rw [hz3.1]; exact q)
    have LM := PySem.W.exm_one (M := model X.prog X.w) (J3.kIn) LT hb1
    have test : ∀ {Q : Value → Shared → Prop} {E : Value → Shared → Prop}, Q c { s' with heap := h3 } → wpAny (model X.prog X.w) (X.A.mark (some (.ref a))) (eval (.Name x np) X.env) Q E { s' with heap := h3 } := fun {Q E} q => by
      obtain ⟨hg, hdbg, hm | ⟨hm, hv, hnn⟩⟩ := hc
      · exact ld_glob (X := X.suite a (X.pn ++ pins)) S3 hg hm q hdbg
      · exact ld_blt (X := X.suite a (X.pn ++ pins)) S3 hg hm hv q hnn hdbg
    refine test (LM.here ?_)
    cases b with
    | true =>
      refine codeAny_handlers_suite_as ?_
      refine HandSPX.lands_againZ fl3 fun h4 fl4 up4 => ?_
      have J4 : L2.Inv X pins σ' H' { s' with heap := h4 } := J.landed nb fl4.1 ((up.trans up3).trans up4) os ag
      obtain ⟨oe4, vs4, he4, hz4, hd4⟩ := fl4.there
      have S4 := suiteT J4 he4 hz4 hd4 na n0 nL np'
      refine store_ok (X := X.suite a (X.pn ++ pins)) (v := .ref a) S4 hN hi hloc rfl (fun s5 S5 => ?_) (.inr hln)
      refine wpAny_mono ((hsu a (X.pn ++ pins)).run [] s5 _ _ _ S5 (hyes rfl a na)) (fun f s6 hsp => ?_) (fun _ _ z => False.elim z)
      have end_ : ∀ {σ6 : L2.St} {H6 : Hp} {Q : Shared → Prop}, L2.Inv (X.suite a (X.pn ++ pins)) [] σ6 H6 s6 → (∀ s7, L2.Inv X pins (σ6.set i none) H6 s7 → Q s7) →
          wpAny (model X.prog X.w) X.A (do bindName X.env n .none; unbindBehindTheSuite X.env n pos') (fun _ s7 => Q s7) X.xe s6 := fun {σ6 H6 Q} S6 hq => gone_ok (unsuiteT S6 ok) hN hi hln hq
      cases f with
      | next =>
        obtain ⟨σ6, H6, S6, q6⟩ := hsp
        exact end_ S6 fun s7 J7 => ⟨_, _, J7, q6⟩
      | brk =>
        obtain ⟨σ6, H6, S6, q6⟩ := hsp
        exact end_ S6 fun s7 J7 => ⟨_, _, J7, q6⟩
      | cont =>
        obtain ⟨σ6, H6, S6, q6⟩ := hsp
        exact end_ S6 fun s7 J7 => ⟨_, _, J7, q6⟩
      | ret u =>
        obtain ⟨v6, σ6, H6, S6, r6, q6⟩ := hsp
        exact end_ S6 fun s7 J7 => ⟨_, _, _, J7, r6, q6⟩
    | false =>
      show wpAny _ X.A (handleBy (.ref a) X.env []) _ _ _
      refine wpAny_handleBy_nil ?_
      obtain ⟨k1, k2, k3, oe, vs, T, oT, ts', he, hz, hd, h1, hr⟩ := id fl3
      unfold PySem.passOn
      refine wpAny_bind (wpAny_field he hd h1 ?_)
      rw [if_neg (show ¬ ((Value.ref T == Value.none) = true) from by simp)]
      have fin : wpAny (model X.prog X.w) X.A (setFlight (.ref a) X.env.frame) (fun _ s4 => wpAny (model X.prog X.w) X.A (throw (.ref a) : Sem Flow) (SP X pins D) X.xe s4) X.xe { s' with heap := h3 } := by
        rw [hf]
        refine HandSPX.setFlight_upZ fl3 fun h4 hh4 up4 => wpAny_throw (tk _ _ ?_)
        exact ⟨a, B, sI, pins, σ', H', cls, d, rfl, J, nb, (up.trans up3).trans up4, .inr (.inr (by rw [hs]; exact hh4)), na, os, ag, hno rfl⟩
      first
        | exact wpAny_bind (wpAny_pure (wpAny_bind fin))
        | exact wpAny_bind fin
  · cases f with
    | next =>
      obtain ⟨σ', H', J', q⟩ := hsp
      exact wpAny_execs_nil ⟨σ', H', J'.ofTry ok, q⟩
    | brk =>
      obtain ⟨σ', H', J', q⟩ := hsp
      exact ⟨σ', H', J'.ofTry ok, q⟩
    | cont =>
      obtain ⟨σ', H', J', q⟩ := hsp
      exact ⟨σ', H', J'.ofTry ok, q⟩
    | ret u =>
      obtain ⟨v, σ', H', J', r, q⟩ := hsp
      exact ⟨v, σ', H', J'.ofTry ok, r, q⟩
end

/-! ### try, raise: meanings -/
def RS.drop (i : Nat) : RS → RS
  | .nx ρ μ => .nx (ρ.set i none) μ
  | .brk ρ μ => .brk (ρ.set i none) μ
  | .ct ρ μ => .ct (ρ.set i none) μ
  | .ret u μ => .ret u μ
  | .err _ _ _ _ _ => .bad
  | .bad => .bad
/-- try: body, except as i: suite; cov: the classes that the clause was asked for -/
def sTryAs (cov : List (Nat × Bool)) (i : Nat) (body suite : SmS) : SmS := fun ρ μ => match body ρ μ with
  | .err c ns vs ρ' μ' => match cov.lookup c with
    | some true => (suite (ρ'.set i (some (.d (.exc c ns vs)))) μ').drop i
    | some false => .err c ns vs ρ' μ'
    | none => .bad
  | r => r
section
variable {G : Gc} {X : Cx} {W : WX} {pos pos' np : Pos} {mb ms : SmS} {x n : Str} {c : Value} {i : Nat} {body suite : List Stmt} {b₀ : Stmt} {cov : List (Nat × Bool)}
theorem cov_mem {c : Nat} {b : Bool} : ∀ {cov : List (Nat × Bool)}, cov.lookup c = some b → (c, b) ∈ cov
  | (k, v) :: r, h => by
    rw [List.lookup_cons] at h
    split at h
    · rename_i e
      have e' := beq_iff_eq.mp e
      cases h
      subst e'
      exact List.mem_cons_self
    · exact List.mem_cons_of_mem _ (cov_mem h)
theorem excV_rp {Z : Addr → Prop} {φ : List Addr} {μ : Mu} {H : Hp} {c : Nat} {ns : List Str} {vs : List D} {cls : Value} {dx : Option Addr} {a : Addr} (r : Rep G Z φ H μ) (e : ErrR G (Sof Z φ μ) H c ns vs cls dx) (na : H a = none) :
    Rp G (Sof Z φ μ) (upd H a (ExcV cls dx a)) (.exc c ns vs) (.ref a) := by
  have g := Go.newD (Z := Z) (φ := φ) (μ := μ) (o := ExcV cls dx a) r na
  have nS : ¬ Sof Z φ μ a := fun z => by
    obtain ⟨o, ho⟩ := r.there z
    rw [na] at ho; cases ho
  obtain ⟨e1, e2⟩ := e
  subst e1
  rcases e2 with ⟨e2, e3, e4⟩ | ⟨d, ws, e2, e3, e4, e5, e6⟩
  · subst e2 e3 e4
    exact ⟨a, none, [], rfl, nS, upd_same, rfl, .inl ⟨rfl, rfl⟩, rfl⟩
  · subst e2
    exact ⟨a, some d, ws, rfl, nS, upd_same, e5, .inr ⟨d, rfl, (g.ex.keep d _ e4 e3 nt_xd).2, (g.ex.keep d _ e4 e3 nt_xd).1⟩, RpL.mono g.ex e6⟩
theorem i_try (hs : X.stack = X.env :: X.outer) (hf : X.env.frame = some X.env.locals) (hex : X.ex = []) (hN : X.N.Nodup) (hi : X.N[i]? = some n) (hln : X.env.kindOf n = some .local) (hc : Names X x c) (tk : Takes X W)
    (hcov : ∀ p ∈ cov, PySem.W.exmOne X.K (.ref (G.cls p.1)) c = some p.2)
    (hb : ∀ (W : WX) (pn : List (Addr × Obj)) (xe : Value → Shared → Prop), Takes (X.tr pn xe) W → PassesOwn (model X.prog X.w) X.A X.env xe → PSs (X.tr pn xe) body (rdS G W mb))
    (hsu : ∀ (a : Addr) (pn : List (Addr × Obj)), PSs (X.suite a pn) (b₀ :: suite) (rdS G (fun _ _ _ _ => False) ms)) :
    PS X (.Try body [.ExceptHandler (some (.Name x np)) (some n) (b₀ :: suite) pos'] [] [] pos) (rdS G W (sTryAs cov i mb ms)) :=
  PS.imp (ps_try_asT (tb := fun W => rdS G W mb) hs hf hex hN hi hln hc tk hb hsu) fun D σ H ⟨Z, φ, ρ, μ, sr, po⟩ => by
    refine ⟨Z, φ, ρ, μ, sr, ?_⟩
    unfold sTryAs at po
    cases e : mb ρ μ with
    | nx ρ' μ' => rw [e] at po; exact po
    | ret u μ' => rw [e] at po; exact po
    | brk ρ' μ' => rw [e] at po; exact po
    | ct ρ' μ' => rw [e] at po; exact po
    | bad => rw [e] at po; exact po
    | err c' ns vs ρ' μ' =>
      rw [e] at po
      dsimp only at po
      intro φ' H' σ' cls dx g sr' er
      split at po
      · rename_i hl
        have hm := hcov _ (cov_mem hl)
        refine ⟨true, by rw [er.1]; exact hm, fun _ a na => ?_, fun z => Bool.noConfusion z⟩
        have g2 := Go.newD (Z := Z) (φ := φ') (μ := μ') (o := ExcV cls dx a) sr'.rep na
        have r2 := Rep.newD (o := ExcV cls dx a) sr'.rep na
        refine ⟨Z, φ', _, μ', ⟨r2, Sls.put i (sr'.sl.mono g2) (show RpU G φ' _ _ (.d (.exc c' ns vs)) (.ref a) from excV_rp sr'.rep er na)⟩, ?_⟩
        have g3 := g.trans g2
        cases e2 : ms (ρ'.set i (some (.d (.exc c' ns vs)))) μ' with
        | nx ρ2 μ2 => rw [e2] at po; exact fun φ2 H2 σ2 g4 sr4 => po φ2 H2 _ (g3.trans g4) ⟨sr4.rep, Sls.set (u := none) (x := none) True.intro i sr4.sl⟩
        | brk ρ2 μ2 => rw [e2] at po; exact fun φ2 H2 σ2 g4 sr4 => po φ2 H2 _ (g3.trans g4) ⟨sr4.rep, Sls.set (u := none) (x := none) True.intro i sr4.sl⟩
        | ct ρ2 μ2 => rw [e2] at po; exact fun φ2 H2 σ2 g4 sr4 => po φ2 H2 _ (g3.trans g4) ⟨sr4.rep, Sls.set (u := none) (x := none) True.intro i sr4.sl⟩
        | ret u μ2 => rw [e2] at po; exact fun φ2 H2 v g4 r4 rv => po φ2 H2 v (g3.trans g4) r4 rv
        | err _ _ _ _ _ => rw [e2] at po; exact False.elim po
        | bad => rw [e2] at po; exact False.elim po
      · rename_i hl
        have hm := hcov _ (cov_mem hl)
        exact ⟨false, by rw [er.1]; exact hm, fun z => Bool.noConfusion z, fun _ => po φ' H' σ' cls dx g sr' er⟩
      · exact False.elim po
end
/-! ### raise -/
/-- self's fields behind __init__: the last stored first -/
def spX (C : Addr) (n : Nat) (ns : List Str) (ix : List Nat) : Sp := fun vs H Q _ => ∃ a ws, vs = .ref a :: ws ∧ ws.length = n ∧ H a = some (exo a C none) ∧
  ∀ d, H d = none → d ≠ a → Q .non (upd (upd H d (exd d (ns.zip (ixL ix ws)))) a (exo a C (some d)))
def sRaise (c n : Nat) (ns : List Str) (ix : List Nat) (m : Sm (List U)) : SmS := fun ρ μ => (m ρ μ).thenS ρ fun us μ1 => if us.length = n then (match frzL us μ1 with
  | some (ds, μ2) => .err c ns (ixL ix ds) ρ μ2
  | none => .bad) else .bad
section
variable {G : Gc} {X : Cx} {W : WX} {pos pos' p : Pos} {m : Sm (List U)} {x : Str} {e : Expr} {es : List Expr} {c n k : Nat} {ns ps : List Str} {ix : List Nat} {fI : Addr} {fd : FuncData}
theorem RpL.at2 {S : Addr → Prop} {H : Hp} : ∀ {us : List D} {vs : List V} (i : Nat), RpL G S H us vs → (us[i]? = none ∧ vs[i]? = none) ∨ ∃ u v, us[i]? = some u ∧ vs[i]? = some v ∧ Rp G S H u v
  | [], vs, i, h => by
    obtain rfl := (show vs = [] from h)
    exact .inl ⟨by simp, by simp⟩
  | u :: us, _, 0, ⟨v, r, e, a, b⟩ => by subst e; exact .inr ⟨u, v, rfl, rfl, a⟩
  | u :: us, _, i + 1, ⟨v, r, e, a, b⟩ => by subst e; exact RpL.at2 i b
theorem RpL.ixs {S : Addr → Prop} {H : Hp} {us : List D} {vs : List V} (r : RpL G S H us vs) : ∀ ix : List Nat, RpL G S H (ixL ix us) (ixL ix vs)
  | [] => rfl
  | i :: ix => by
    unfold ixL
    rw [List.filterMap_cons, List.filterMap_cons]
    rcases r.at2 i with ⟨e1, e2⟩ | ⟨u, v, e1, e2, q⟩
    · rw [e1, e2]
      exact RpL.ixs r ix
    · rw [e1, e2]
      exact ⟨v, _, rfl, q, RpL.ixs r ix⟩
theorem ixL_len {α : Type} : ∀ {ix : List Nat} {l : List α}, ix.all (· < l.length) = true → (ixL ix l).length = ix.length
  | [], _, _ => rfl
  | i :: ix, l, h => by
    rw [List.all_cons, Bool.and_eq_true, decide_eq_true_eq] at h
    unfold ixL
    rw [List.filterMap_cons, List.getElem?_eq_getElem h.1]
    exact congrArg Nat.succ (ixL_len h.2)
theorem i_raise (hc : X.calm = true) (tk : Takes X W) (T : OexC X.K (G.cls c)) (iC : PySem.W.findIn X.K (.ref (G.cls c)) "__init__" = some (some (.ref fI))) (tI : PySem.W.typeIn X.K (.ref fI) = some (.type "function"))
    (F1 : FnOk X.prog X.w X.K X.mg X.base (L2.CX X.prog X.w) k fI fd ps (spX (G.cls c) n ns ix)) (hr : Room (k + 1) X.A) (hb : Binds X.K fd ps []) (hg : Gl X x) (hm : X.mg x = some (.ref (G.cls c))) (ha : PA X (e :: es) (rdA G W m))
    (hn : n ≤ 1000 := by decide) (hl : ns.length = ix.length := by decide) (hix : ix.all (· < n) = true := by decide)
    (hdb : (x == ("__debug__" : Str)) = false := by decide) (he : starEach (e :: es) X.env = (false, eval e X.env) :: starEach es X.env := by rfl) (hpl : (backTo pos (starEach es X.env)).any (·.1) = false := by rfl) :
    PS X (.Raise (some (.Call (.Name x p) (e :: es) [] pos)) none pos') (rdS G W (sRaise c n ns ix m)) :=
  PS.imp (ps_raise hc tk (pmk_oex T iC tI F1 hr hb .nil passL hg hm ha hdb he hpl)) fun D σ H ⟨Z, φ, ρ, μ, sr, po⟩ => by
    refine rd_mono (pos_step (R1 := RpUs G) sr po) fun vs H1 ⟨φ1, μ1, us, g1, sr1, rus, po1⟩ => ?_
    split at po1
    · rename_i hl1
      split at po1
      · rename_i ds μ2 hf
        obtain ⟨F, rl⟩ := frzL_ok hf sr1.rep rus
        have lv : vs.length = n := by rw [rus.length, hl1]
        refine ⟨by rw [lv]; exact hn, fun a na => ⟨a, vs, by rw [List.append_nil], lv, upd_same, fun d nd hda => ⟨rfl, d, ns.zip (ixL ix vs), upd_same, by rw [upd_ne hda, upd_same], ?_, ?_⟩⟩⟩
        · rw [upd_ne hda] at nd; exact nd
        · have nd' : H1 d = none := by rw [upd_ne hda] at nd; exact nd
          have eH : upd (L2.del (upd (upd (upd H1 a (exo a (G.cls c) none)) d (exd d (ns.zip (ixL ix vs)))) a (exo a (G.cls c) (some d))) a) d (.xd (ns.zip (ixL ix vs))) = upd H1 d (.xd (ns.zip (ixL ix vs))) := by
            funext b
            by_cases hb : b = d
            · subst hb; rw [upd_same, upd_same]
            · rw [upd_ne hb, upd_ne hb]
              by_cases hba : b = a
              · subst hba; rw [L2.del_same, na]
              · rw [L2.del_ne hba, upd_ne hba, upd_ne hb, upd_ne hba]
          rw [eH]
          have r2 := F.rep
          have g2 := Go.newD (Z := Z) (φ := φ1) (μ := μ2) (o := .xd (ns.zip (ixL ix vs))) r2 nd'
          have nS : ¬ Sof Z φ1 μ2 d := fun z => by
            obtain ⟨o, ho⟩ := r2.there z
            rw [nd'] at ho; cases ho
          refine po1 φ1 _ σ _ _ (F.go.trans g2) ⟨r2.newD nd', sr1.sl.mono (F.go.trans g2)⟩ ⟨rfl, .inr ⟨d, ixL ix vs, rfl, nS, upd_same, ?_, RpL.mono g2.ex (rl.ixs ix)⟩⟩
          rw [ixL_len (by rw [lv]; exact hix), hl]
      · exact False.elim po1
    · exact False.elim po1
end
/-- __init__ with one field, two fields -/
theorem init1 {P : Program} {w : World} {K : PySem.W.Frag} {mg : Str → Option Value} {base : Heap} {x qual : Str} {params : Arguments} {body : List Stmt} {scope : Scope} {dvs : List V} {kws : List (Str × V)} {f C : Addr} {fd : FuncData} {s0 a fl : Str} {p1 p2 p3 p4 : Pos} {k : Nat} (F : FunD K x qual params body scope dvs kws f fd) (S : FnScope [s0, a] [s0, a] scope)
    (hb : body = [.Assign [.Attribute (.Name s0 p1) fl p2] (.Name a p3) p4]) (T : OexC K C) (hno : PySem.W.findIn K (.ref C) fl = some none) (v0 : Vis scope s0) (v1 : Vis scope a)
    (d0 : (s0 == ("__debug__" : Str)) = false := by decide) (d1 : (a == ("__debug__" : Str)) = false := by decide) (c0 : (s0 == ("__classdict__" : Str)) = false := by decide) (c1 : (a == ("__classdict__" : Str)) = false := by decide) :
    FnOk P w K mg base (L2.CX P w) (k + 1) f fd [s0, a] (spX C 1 [fl] [0]) :=
  F.ok S (fun vs H Q E ⟨a, ws, e, l, _⟩ => by rw [e, List.length_cons, l]; rfl) fun cdv A outer s H vs Q E hr hsp => by
    rw [hb]
    refine ⟨_, pss_one (ps_ost (pe_var (i := 0) rfl v0 d0 c0) (pe_var (i := 1) rfl v1 d1 c1)), ?_⟩
    obtain ⟨b, ws, rfl, l, hH, hq⟩ := hsp
    match ws, l with
    | [y], _ => exact ⟨y, rfl, .ref b, rfl, b, C, rfl, T, hno, .inl ⟨hH, fun dx nd ne => hq dx nd ne⟩⟩
theorem init2 {P : Program} {w : World} {K : PySem.W.Frag} {mg : Str → Option Value} {base : Heap} {x qual : Str} {params : Arguments} {body : List Stmt} {scope : Scope} {dvs : List V} {kws : List (Str × V)} {f C : Addr} {fd : FuncData} {s0 a a2 fl fl2 : Str} {p1 p2 p3 p4 p5 p6 p7 p8 : Pos} {k : Nat} (F : FunD K x qual params body scope dvs kws f fd) (S : FnScope [s0, a, a2] [s0, a, a2] scope)
    (hb : body = [.Assign [.Attribute (.Name s0 p1) fl p2] (.Name a p3) p4, .Assign [.Attribute (.Name s0 p5) fl2 p6] (.Name a2 p7) p8]) (T : OexC K C) (hno : PySem.W.findIn K (.ref C) fl = some none) (hno2 : PySem.W.findIn K (.ref C) fl2 = some none) (v0 : Vis scope s0) (v1 : Vis scope a) (v2 : Vis scope a2)
    (d0 : (s0 == ("__debug__" : Str)) = false := by decide) (d1 : (a == ("__debug__" : Str)) = false := by decide) (d2 : (a2 == ("__debug__" : Str)) = false := by decide) (c0 : (s0 == ("__classdict__" : Str)) = false := by decide) (c1 : (a == ("__classdict__" : Str)) = false := by decide) (c2 : (a2 == ("__classdict__" : Str)) = false := by decide) :
    FnOk P w K mg base (L2.CX P w) (k + 1) f fd [s0, a, a2] (spX C 2 [fl2, fl] [1, 0]) :=
  F.ok S (fun vs H Q E ⟨a, ws, e, l, _⟩ => by rw [e, List.length_cons, l]; rfl) fun cdv A outer s H vs Q E hr hsp => by
    rw [hb]
    refine ⟨_, pss_cons (ps_ost (pe_var (i := 0) rfl v0 d0 c0) (pe_var (i := 1) rfl v1 d1 c1)) (pss_one (ps_ost (pe_var (i := 0) rfl v0 d0 c0) (pe_var (i := 2) rfl v2 d2 c2))), ?_⟩
    obtain ⟨b, ws, rfl, l, hH, hq⟩ := hsp
    match ws, l with
    | [y, z], _ =>
      refine ⟨y, rfl, .ref b, rfl, b, C, rfl, T, hno, .inl ⟨hH, fun dx nd ne => ?_⟩⟩
      refine ⟨z, rfl, .ref b, rfl, b, C, rfl, T, hno2, .inr ⟨dx, [(fl, y)], upd_same, by rw [upd_ne ne, upd_same], Nat.le_of_ble_eq_true rfl, ?_⟩⟩
      have eH : upd (upd (upd H dx (exd dx [(fl, y)])) b (exo b C (some dx))) dx (exd dx ((fl2, z) :: [(fl, y)])) = upd (upd H dx (exd dx [(fl2, z), (fl, y)])) b (exo b C (some dx)) := by
        funext q
        by_cases h1 : q = dx
        · subst h1; rw [upd_same, upd_ne ne, upd_same]
        · rw [upd_ne h1]
          by_cases h2 : q = b
          · subst h2; rw [upd_same, upd_same]
          · rw [upd_ne h2, upd_ne h2, upd_ne h1, upd_ne h1]
      show Q .non _
      rw [eH]
      exact hq dx nd ne
end Iv
set_option Elab.async false
set_option linter.all false
set_option maxRecDepth 100000
set_option maxHeartbeats 2000000
set_option autoImplicit false
/-! Iv, part K: isinstance, what a caught exception holds. -/
namespace Iv
open PySem PySem.Spec PyProof.Rows L2

inductive Kd where
  | non | bl | int | str | tup | lst | dic | obj (c : Nat) | exc (c : Nat)
def D.kd : D → Option Kd
  | .non => some .non
  | .bl _ => some .bl
  | .int _ => some .int
  | .str _ => some .str
  | .tup _ => some .tup
  | .lst _ => some .lst
  | .dic _ _ => some .dic
  | .obj c _ _ => some (.obj c)
  | .exc c _ _ => some (.exc c)
  | _ => none
def kdU (μ : Mu) : U → Option Kd
  | .d x => x.kd
  | .p n => match μ[n]? with
    | some (.fz x) => x.kd
    | some (.lst _) => some .lst
    | some (.dic _ _) => some .dic
    | some (.dit _ _) => some .dic
    | some (.ins c _ _) => some (.obj c)
    | _ => none
def Kd.tv (G : Gc) : Kd → Value
  | .non => .type "NoneType"
  | .bl => .type "bool"
  | .int => .type "int"
  | .str => .type "str"
  | .tup => .type "tuple"
  | .lst => .type "list"
  | .dic => .type "dict"
  | .obj c => .ref (G.cls c)
  | .exc c => .ref (G.cls c)
/-- what isinstance asks of an own class -/
structure InsC (K : PySem.W.Frag) (C : Addr) : Prop where
  cl : Cls K C
  ha : PySem.W.findIn K (.ref C) "__class__" = some (some (.builtin "object.__class__"))
  hn : PySem.W.specialIn K (.builtin "object.__class__") "__get__" = some (some (.builtin "getset_descriptor.__get__"))
  htk : PySem.W.takesIn K (.builtin "object.__class__") = some true
  hm : PySem.W.mroIn K C (.type "object") = some true
def KdOk (G : Gc) (K : PySem.W.Frag) : Kd → Prop
  | .obj c => InsC K (G.cls c)
  | .exc c => ExcC K (G.cls c)
  | _ => True
/-- the answers of isinstance(.., cv) that are told -/
def Isi (G : Gc) (K : PySem.W.Frag) (tab : Kd → Option Bool) (cv : Value) : Prop := ∀ k b, tab k = some b → KdOk G K k ∧ PySem.W.kitOne K (k.tv G) cv = some b
def fIsi (tab : Kd → Option Bool) : U → Mu → Res U := fun u μ => match kdU μ u with
  | some k => match tab k with
    | some b => .ok (.d (.bl b)) μ
    | none => .bad
  | none => .bad
/-- the table of a built-in type; oc: own classes, ec: own exceptions -/
def tabB (n : String) (oc ec : List Nat) : Kd → Option Bool
  | .non => some false
  | .bl => some (n == "bool" || n == "int")
  | .int => some (n == "int")
  | .str => some (n == "str")
  | .tup => some (n == "tuple")
  | .lst => some (n == "list")
  | .dic => some (n == "dict")
  | .obj c => if oc.contains c = true then some false else none
  | .exc c => if ec.contains c = true then some false else none
/-- the table of an own class -/
def tabO (oc ec : List (Nat × Bool)) : Kd → Option Bool
  | .obj c => oc.lookup c
  | .exc c => ec.lookup c
  | _ => some false
theorem isi_B {G : Gc} {K : PySem.W.Frag} {n : String} {oc ec : List Nat} (hn : ["bool", "int", "str", "tuple", "list", "dict"].contains n = true) (ho : ∀ c ∈ oc, InsC K (G.cls c) ∧ PySem.W.kitOne K (.ref (G.cls c)) (.type n) = some false)
    (he : ∀ c ∈ ec, ExcC K (G.cls c) ∧ PySem.W.kitOne K (.ref (G.cls c)) (.type n) = some false) : Isi G K (tabB n oc ec) (.type n) := fun k b h => by
  have hn' : n = "bool" ∨ n = "int" ∨ n = "str" ∨ n = "tuple" ∨ n = "list" ∨ n = "dict" := by simpa using hn
  cases k with
  | obj c =>
    have h' : (if oc.contains c = true then some false else none) = some b := h
    split at h'
    · rename_i hc
      cases h'
      exact ho c (by simpa using hc)
    · cases h'
  | exc c =>
    have h' : (if ec.contains c = true then some false else none) = some b := h
    split at h'
    · rename_i hc
      cases h'
      exact he c (by simpa using hc)
    · cases h'
  | _ =>
    cases h
    refine ⟨True.intro, kit_ty ?_⟩
    rcases hn' with rfl | rfl | rfl | rfl | rfl | rfl <;> decide +kernel
theorem isi_O {G : Gc} {K : PySem.W.Frag} {C : Addr} {oc ec : List (Nat × Bool)} (hb : ∀ n, n ∈ ["NoneType", "bool", "int", "str", "tuple", "list", "dict"] → PySem.W.kitOne K (.type n) (.ref C) = some false) (ho : ∀ p ∈ oc, InsC K (G.cls p.1) ∧ PySem.W.kitOne K (.ref (G.cls p.1)) (.ref C) = some p.2)
    (he : ∀ p ∈ ec, ExcC K (G.cls p.1) ∧ PySem.W.kitOne K (.ref (G.cls p.1)) (.ref C) = some p.2) : Isi G K (tabO oc ec) (.ref C) := fun k b h => by
  cases k with
  | obj c => exact ho _ (cov_mem (show oc.lookup c = some b from h))
  | exc c => exact he _ (cov_mem (show ec.lookup c = some b from h))
  | _ => cases h; exact ⟨True.intro, hb _ (by decide)⟩
section
variable {G : Gc} {X : Cx}
def rIsEx (K : PySem.W.Frag) : List V → Hp → VK → Prop := fun xs H Q => ∃ (a D : Addr) (dx : Option Addr) (c : V) (cv : Value) (b : Bool), xs = [.ref a, c] ∧ ClsV c cv ∧ ExcC K D ∧ H a = some (ExcV (.ref D) dx a) ∧ (∀ d, dx = some d → ∃ fs, H d = some (.xd fs)) ∧ PySem.W.kitOne K (.ref D) cv = some b ∧ Q (.bl b) H
theorem exc_inst {pins : List (Addr × Obj)} {s : Shared} {σ : L2.St} {H : Hp} {a D : Addr} {dx : Option Addr} (I : L2.Inv X pins σ H s) (ea : H a = some (ExcV (.ref D) dx a)) (hd : ∀ d, dx = some d → ∃ fs, H d = some (.xd fs)) :
    ∃ ox od, PySem.W.InstAt s.heap a ox D od ∧ ∀ d fs, dx = some d → H d = some (.xd fs) → ∃ o mA, od = some o ∧ s.heap.Ns1 d mA ∧ s.heap.get? d = some o ∧ ∀ f, RelO (fs.lookup f) (mA f) := by
  obtain ⟨⟨oe, vs, h1, hz, hdat⟩, _, _⟩ := I.hok a _ ea
  cases dx with
  | none => exact ⟨oe, none, ⟨h1, hz.1, by unfold PySem.W.notCls; rw [hdat] <;> rfl, by rw [hz.2]; exact True.intro⟩, fun d fs e => nomatch e⟩
  | some d =>
    obtain ⟨fs, e⟩ := hd d rfl
    obtain ⟨mA, hns, hr⟩ := (show ObjOk X.prog X.w H s.heap d (.xd fs) from I.hok d _ e)
    obtain ⟨od, ho, _⟩ := lookIn_ns hns
    refine ⟨oe, some od, ⟨h1, hz.1, by unfold PySem.W.notCls; rw [hdat] <;> rfl, by rw [hz.2]; exact ho⟩, fun d' fs' e1 e2 => ?_⟩
    cases e1
    rw [e] at e2
    cases e2
    exact ⟨od, mA, rfl, hns, ho, hr⟩
theorem call_isEx : CallR X (.builtin "isinstance") (rIsEx X.K) := by
  intro pins s σ H xs us Q I r h
  obtain ⟨a, D, dx, c, cv, b, rfl, k, C, ea, hd, e, q⟩ := h
  obtain ⟨u1, u2, rfl, r1, r2⟩ := vals2 r
  have e2 := k.eq r2
  subst e2
  cases (show u1 = Value.ref a from r1)
  obtain ⟨ox, od, J, _⟩ := exc_inst I ea hd
  obtain ⟨cd, hc, _⟩ := PySem.W.any_some C.hd
  exact PySem.W.kia_one (PySem.W.kitx_exc (by rw [hc]; rfl) C.hg C.hk C.hs C.ha C.hn C.ht C.hm) I.kIn J e (fun z => nomatch z) fun tk => ⟨.bl b, H, I.kept (t' := tk) fun _ _ z => z, rfl, q⟩
theorem fIsi_ok {tab : Kd → Option Bool} {cv : Value} {c : V} (hK : G.K = X.K) (hc : ClsV c cv) (hT : Isi G X.K tab cv) : Op1 G (fIsi tab) (fun x H Q => rIsi X.K [x, c] H Q ∨ rIsEx X.K [x, c] H Q) := fun Z W φ μ H σ x u Q r ru po => by
  unfold fIsi at po
  split at po
  · rename_i k hk
    split at po
    · rename_i b hb
      obtain ⟨k1, k2⟩ := hT k b hb
      have q := po φ H _ Go.refl r (show RpU G φ _ H (.d (.bl b)) (.bl b) from rfl)
      have fin : TyX X.K H x (k.tv G) → rIsi X.K [x, c] H Q := fun t => ⟨x, c, _, cv, b, rfl, hc, t, k2, q⟩
      have dat : ∀ {d : D}, d.kd = some k → Rp G (Sof Z φ μ) H d x → rIsi X.K [x, c] H Q ∨ rIsEx X.K [x, c] H Q := fun {d} hd rd => by
        cases d with
        | non => cases hd; rw [show x = .non from rd] at fin ⊢; exact .inl (fin (.base .non))
        | bl y => cases hd; rw [show x = .bl y from rd] at fin ⊢; exact .inl (fin (.base (.bl y)))
        | int y => cases hd; rw [show x = .int y from rd] at fin ⊢; exact .inl (fin (.base (.int y)))
        | str y => cases hd; rw [show x = .str y from rd] at fin ⊢; exact .inl (fin (.base (.str y)))
        | tup ds =>
          cases hd
          obtain ⟨a, vs, rfl, l, _⟩ := rd
          rcases l with ⟨_, l | ⟨o, l⟩⟩ | ⟨o, its, n, e1, e2, _⟩
          · exact .inl (fin (.base (.tup l)))
          · exact .inl (fin (.fTuple l))
          · exact .inl (fin (.kTuple (by rw [← hK]; exact e1) e2))
        | lst ds =>
          cases hd
          obtain ⟨a, vs, rfl, l, _⟩ := rd
          rcases l with ⟨_, l | ⟨o, l⟩⟩ | ⟨o, its, n, e1, e2, _⟩
          · exact .inl (fin (.base (.lst l)))
          · exact .inl (fin (.base (.frz l)))
          · exact .inl (fin (.kList (by rw [← hK]; exact e1) e2))
        | obj c' ns ds =>
          cases hd
          obtain ⟨a, dx, vs, rfl, _, l, _⟩ := rd
          exact .inl (fin (.base (.ins l k1.cl k1.ha k1.hn k1.htk k1.hm)))
        | exc c' ns ds =>
          cases hd
          obtain ⟨a, dx, vs, rfl, _, l, _, hdx, _⟩ := rd
          refine .inr ⟨a, G.cls c', dx, c, cv, b, rfl, hc, k1, l, fun d e => ?_, k2, q⟩
          rcases hdx with ⟨e1, _⟩ | ⟨d', e1, _, e3⟩
          · rw [e1] at e; cases e
          · rw [e1] at e; cases e; exact ⟨_, e3⟩
        | dic ks ds =>
          cases hd
          obtain ⟨a, vs, rfl, _, l | ⟨o, l⟩, _⟩ := rd
          · exact .inl (fin (.base (.dK l)))
          · exact .inl (fin (.fDict l))
        | dit ks ds => cases hd
        | clo _ _ => cases hd
        | cls _ => cases hd
      cases u with
      | d d => exact dat hk ru
      | p n =>
        obtain ⟨a, rfl, ha⟩ := ru
        unfold kdU at hk
        dsimp only at hk
        split at hk
        · rename_i d hd
          exact dat hk (r.at_ n a _ ha hd)
        · rename_i us hu
          cases hk
          obtain ⟨vs, e2, _⟩ := r.at_ n a _ ha hu
          exact .inl (fin (.base (.lst e2)))
        · rename_i ks us hu
          cases hk
          obtain ⟨vs, e2, _⟩ := r.at_ n a _ ha hu
          exact .inl (fin (.base (.dK e2)))
        · rename_i ks us hu
          cases hk
          obtain ⟨vs, e2, _⟩ := r.at_ n a _ ha hu
          exact .inl (fin (.base (.dT e2)))
        · rename_i c' ns us hu
          cases hk
          obtain ⟨dx, vs, e2, _⟩ := r.at_ n a _ ha hu
          exact .inl (fin (.base (.ins e2 k1.cl k1.ha k1.hn k1.htk k1.hm)))
        · cases hk
    · exact False.elim po
  · exact False.elim po
variable {W : WX} {pos p1 p2 : Pos} {e : Expr} {m : Sm U} {tab : Kd → Option Bool}
/-- isinstance(e, c) -/
theorem i_isi {c : Expr} {cv : Value} {v : V} (hK : G.K = X.K) (hg : Gl X "isinstance") (hm : X.mg "isinstance" = none) (hv : ClsV v cv) (hT : Isi G X.K tab cv) (he : PE X e (rdE G W m)) (hc : PE X c (tC v))
    (hs : starEach (e :: [c]) X.env = (false, eval e X.env) :: starEach [c] X.env := by rfl) (hs2 : starEach (c :: []) X.env = (false, eval c X.env) :: starEach [] X.env := by rfl) (hpl : (backTo pos (starEach [c] X.env)).any (·.1) = false := by rfl) :
    PE X (.Call (.Name "isinstance" p1) [e, c] [] pos) (rdE G W (v1 (fIsi tab) m)) :=
  PE.imp (pe_callB (call_isi.or call_isEx) hg hm (by rfl) (pa_cons he (pa_cons hc pa_nil hs2) hs) (by decide) (by decide) hs hpl) fun σ H Q h => rd1 (fIsi_ok hK hv hT) σ H Q h
/-! ### e.f, e an exception -/
def fXf (f : Str) (ec : List Nat) : U → Mu → Res U := fun u μ => match u with
  | .d (.exc c ns vs) => if ec.contains c = true then (match (ns.zip vs).lookup f with
    | some d => .ok (.d d) μ
    | none => .bad) else .bad
  | _ => .bad
theorem zip_look {S : Addr → Prop} {H : Hp} {f : Str} : ∀ {ns : List Str} {ds : List D} {vs : List V} {d : D}, RpL G S H ds vs → (ns.zip ds).lookup f = some d → ∃ v, (ns.zip vs).lookup f = some v ∧ Rp G S H d v
  | [], _, _, _, _, h => by cases h
  | n :: ns, [], _, _, _, h => by cases h
  | n :: ns, d :: ds, _, d', ⟨v, r, e, a, b⟩, h => by
    subst e
    rw [List.zip_cons_cons, List.lookup_cons] at h ⊢
    split at h
    · cases h; exact ⟨v, rfl, a⟩
    · exact zip_look b h
theorem i_xf {f : Str} {ec : List Nat} (hE : ∀ c ∈ ec, XfC X.K (G.cls c) ∧ PySem.W.findIn X.K (.ref (G.cls c)) f = some none) (he : PE X e (rdE G W m)) (hb : attributeBase e f X.env (eval e X.env) = eval e X.env := by rfl) :
    PE X (.Attribute e f pos) (rdE G W (v1 (fXf f ec) m)) := by
  refine ⟨fun pins s σ H Q I h => ?_⟩
  obtain ⟨Z, φ, ρ, μ, sr, po⟩ := h
  have h := po_step (R1 := RpU G) sr po
  refine attr_of hb (thn (he.run pins s σ H _ I h) fun u0 s1 ⟨x, H1, I1, rx, φ1, μ1, u, g1, sr1, ru, po1⟩ => ?_)
  unfold fXf at po1
  split at po1
  · rename_i c ns vs
    split at po1
    · rename_i hc
      split at po1
      · rename_i d hl
        obtain ⟨T, hno⟩ := hE c (by simpa using hc)
        obtain ⟨a, dx, ws, ex, nS, ea, hlen, hdx, rl⟩ := ru
        subst ex
        obtain rfl : u0 = Value.ref a := rx
        obtain ⟨v, hv, rv⟩ := zip_look rl hl
        rcases hdx with ⟨e1, e2⟩ | ⟨dd, e1, nd, ed⟩
        · subst e2; cases hl
        · subst e1
          obtain ⟨ox, od, J, hJ⟩ := exc_inst I1 ea fun d' e' => by cases e'; exact ⟨_, ed⟩
          obtain ⟨o, mA, rfl, hns, ho, hr⟩ := hJ dd _ rfl ed
          obtain ⟨od', ho', hl'⟩ := lookIn_ns hns
          rw [ho] at ho'
          cases ho'
          obtain ⟨w, hw, rw'⟩ := RelO.some_of (v := v) (o := mA f) (by rw [← hv]; exact hr f)
          exact HandSPX.exc_get I1.kIn J T.ga T.gg T.exC (PySem.W.findObj_own T.hdC hno rfl (by rw [hl', hw])) (handed_of rw') ⟨v, H1, I1.tok _, rw', po1 φ1 H1 v Go.refl sr1.rep rv⟩
      · exact False.elim po1
    · exact False.elim po1
  · exact False.elim po1
end
end Iv
set_option Elab.async false
set_option linter.all false
set_option maxRecDepth 100000
set_option maxHeartbeats 2000000
set_option autoImplicit false
/-! Iv, part L: built-in functions, subscripts, slices, methods. -/
namespace Iv
open PySem PySem.Spec PyProof.Rows L2

def D.flat : D → Bool
  | .non => true
  | .bl _ => true
  | .int _ => true
  | .str _ => true
  | _ => false
def D.tv : D → V
  | .bl b => .bl b
  | .int i => .int i
  | .str x => .str x
  | _ => .non
theorem flat_tv {G : Gc} {S : Addr → Prop} {H : Hp} {d : D} {v : V} (h : d.flat = true) (r : Rp G S H d v) : v = d.tv ∧ flatV v = true := by
  cases d with
  | non => rw [show v = .non from r]; exact ⟨rfl, rfl⟩
  | bl b => rw [show v = .bl b from r]; exact ⟨rfl, rfl⟩
  | int b => rw [show v = .int b from r]; exact ⟨rfl, rfl⟩
  | str b => rw [show v = .str b from r]; exact ⟨rfl, rfl⟩
  | _ => cases h
theorem flats_tv {G : Gc} {S : Addr → Prop} {H : Hp} : ∀ {ds : List D} {vs : List V}, ds.all D.flat = true → RpL G S H ds vs → vs = ds.map D.tv ∧ vs.all flatV = true
  | [], _, _, h => by rw [show _ = [] from h]; exact ⟨rfl, rfl⟩
  | d :: ds, _, hf, ⟨v, r, e, a, b⟩ => by
    rw [List.all_cons, Bool.and_eq_true] at hf
    obtain ⟨h1, h2⟩ := flat_tv hf.1 a
    obtain ⟨h3, h4⟩ := flats_tv hf.2 b
    subst e
    exact ⟨by rw [h1, h3]; rfl, by rw [List.all_cons, h2, h4]; rfl⟩
/-! ### in -/
def inS (x y : Str) : Bool := match x.cps.toList with
  | [c] => decide (c ∈ y.cps.toList)
  | _ => !(Builtin.Str.occurrences y x 0 y.length 1).isEmpty
def inD (x : D) (ds : List D) : Bool := inV x.tv (ds.map D.tv)
def inU (μ : Mu) (u w : U) : Option Bool := match w with
  | .d (.str y) => match u with
    | .d (.str x) => some (inS x y)
    | _ => none
  | w => match valD μ u, valD μ w with
    | some x, some (.lst ds) => if x.flat = true ∧ ds.all D.flat = true then some (inD x ds) else
      (match x.py, D.pyL ds with
        | some p, some ps => if SeqAt.shaped p = true ∧ SeqAt.shaped (.list ps) = true then some (ps.any fun z => PyData.eqv z p) else none
        | _, _ => none)
    | some x, some (.tup ds) => if x.flat = true ∧ ds.all D.flat = true then some (inD x ds) else none
    | _, _ => none
def fIn (neg : Bool) : U → U → Mu → Res U := fun u w μ => match inU μ u w with
  | some b => .ok (.d (.bl (if neg = true then !b else b))) μ
  | none => .bad
section
variable {G : Gc} {X : Cx}
def rInX (K : PySem.W.Frag) (neg : Bool) : R2 := fun x y H Q =>
  (∃ i j, x = .str i ∧ y = .str j ∧ Q (.bl (if neg = true then !inS i j else inS i j)) H) ∨ rIn K neg x y H Q ∨
    ∃ d ds, Dp K H x d ∧ Dp K H y (.list ds) ∧ SeqAt.shaped d = true ∧ SeqAt.shaped (.list ds) = true ∧ Q (.bl (if neg = true then !(ds.any fun z => PyData.eqv z d) else ds.any fun z => PyData.eqv z d)) H
theorem inS_one {i : Str} {c : Nat} (h : i.cps.toList = [c]) : i = ⟨#[c]⟩ := by
  obtain ⟨a⟩ := i
  obtain ⟨l⟩ := a
  cases h
  rfl
theorem inS_cases (i j : Str) : (∃ c, i.cps.toList = [c] ∧ inS i j = decide (c ∈ j.cps.toList)) ∨ inS i j = !(Builtin.Str.occurrences j i 0 j.length 1).isEmpty := by
  unfold inS
  split
  · rename_i c hc; exact .inl ⟨c, hc, rfl⟩
  · exact .inr rfl
theorem op_inX (hu : X.A.units + 65 < cLine) : OpR X (compareOp .In) (rInX X.K false) := fun pins s σ H x y v w Q I rx ry h => by
  rcases h with ⟨i, j, e1, e2, q⟩ | h | ⟨d, ds, h1, h2, h3, h4, q⟩
  · rcases inS_cases i j with ⟨c, hc, e⟩ | e
    · rw [e] at q
      exact op_in_sign pins s σ H x y v w Q I rx ry ⟨c, j, by rw [e1, inS_one hc], e2, q⟩
    · rw [e] at q
      exact op_in_str pins s σ H x y v w Q I rx ry ⟨i, j, e1, e2, q⟩
  · exact op_in_seq pins s σ H x y v w Q I rx ry h
  · exact op_inD hu pins s σ H x y v w Q I rx ry ⟨d, ds, h1, h2, h3, h4, q⟩
theorem op_ninX (hu : X.A.units + 65 < cLine) : OpR X (compareOp .NotIn) (rInX X.K true) := fun pins s σ H x y v w Q I rx ry h => by
  rcases h with ⟨i, j, e1, e2, q⟩ | h | ⟨d, ds, h1, h2, h3, h4, q⟩
  · rcases inS_cases i j with ⟨c, hc, e⟩ | e
    · rw [e] at q
      exact op_notIn_sign pins s σ H x y v w Q I rx ry ⟨c, j, by rw [e1, inS_one hc], e2, q⟩
    · rw [e] at q
      exact op_notIn_str pins s σ H x y v w Q I rx ry ⟨i, j, e1, e2, q⟩
  · exact op_notIn_seq pins s σ H x y v w Q I rx ry h
  · exact op_notInD hu pins s σ H x y v w Q I rx ry ⟨d, ds, h1, h2, h3, h4, q⟩
theorem fIn_ok {neg : Bool} (hK : G.K = X.K) : Op2 G (fIn neg) (rInX X.K neg) := fun Z W φ μ H σ x y u w Q r ru rw' po => by
  unfold fIn at po
  split at po
  · rename_i b hb
    have q := po φ H _ Go.refl r (show RpU G φ _ H (.d (.bl _)) (.bl (if neg = true then !b else b)) from rfl)
    have gen : (match valD μ u, valD μ w with
        | some x, some (.lst ds) => if x.flat = true ∧ ds.all D.flat = true then some (inD x ds) else
          (match x.py, D.pyL ds with
            | some p, some ps => if SeqAt.shaped p = true ∧ SeqAt.shaped (.list ps) = true then some (ps.any fun z => PyData.eqv z p) else none
            | _, _ => none)
        | some x, some (.tup ds) => if x.flat = true ∧ ds.all D.flat = true then some (inD x ds) else none
        | _, _ => none) = some b → rInX X.K neg x y H Q := fun hb => by
      split at hb
      · rename_i d ds h1 h2
        have ra := valD_ok r h1 ru
        have rb := valD_ok r h2 rw'
        split at hb
        · rename_i hf
          cases hb
          obtain ⟨a, vs, rfl, l, ql⟩ := rb
          obtain ⟨e1, f1⟩ := flat_tv hf.1 ra
          obtain ⟨e2, f2⟩ := flats_tv hf.2 ql
          exact .inr (.inl ⟨a, vs, rfl, .inl (by rw [← hK]; exact l.sq), f1, f2, by rw [e1, e2]; exact q⟩)
        · split at hb
          · rename_i p ps hp hps
            split at hb
            · rename_i hs
              cases hb
              have e : D.py (.lst ds) = some (.list ps) := by simp only [D.py]; rw [hps]; rfl
              exact .inr (.inr ⟨p, ps, by rw [← hK]; exact py_ok hp ra, by rw [← hK]; exact py_ok e rb, hs.1, hs.2, q⟩)
            · cases hb
          · cases hb
      · rename_i d ds h1 h2
        have ra := valD_ok r h1 ru
        have rb := valD_ok r h2 rw'
        split at hb
        · rename_i hf
          cases hb
          obtain ⟨a, vs, rfl, l, ql⟩ := rb
          obtain ⟨e1, f1⟩ := flat_tv hf.1 ra
          obtain ⟨e2, f2⟩ := flats_tv hf.2 ql
          exact .inr (.inl ⟨a, vs, rfl, .inr (by rw [← hK]; exact l.sq), f1, f2, by rw [e1, e2]; exact q⟩)
        · cases hb
      · cases hb
    unfold inU at hb
    split at hb
    · split at hb
      · cases hb
        exact .inl ⟨_, _, ru, rw', q⟩
      · cases hb
    · exact gen hb
  · exact False.elim po
/-! ### len, int, abs, str, tuple, list, all, any -/
def fLen : U → Mu → Res U := fun u μ => match u with
  | .d (.str y) => if y.length ≤ 1000000 then .ok (.d (.int y.length)) μ else .bad
  | u => match lsU μ u with
    | some us => .ok (.d (.int us.length)) μ
    | none => match tpU μ u with
      | some ds => .ok (.d (.int ds.length)) μ
      | none => .bad
/-- a function of one value, as a function of the values -/
def f1 (f : U → Mu → Res U) : List U → Mu → Res U := fun us μ => match us with
  | [u] => f u μ
  | _ => .bad
def OpF (G : Gc) (f : U → Mu → Res U) (r : List V → Hp → VK → Prop) : Prop := Op1 G f (fun x H Q => r [x] H Q)
theorem f1_ok {f : U → Mu → Res U} {r : List V → Hp → VK → Prop} (h : OpF G f r) : OpN G (f1 f) r := fun Z W φ μ H σ xs us Q rp ru po => by
  unfold f1 at po
  split at po
  · rename_i u
    obtain ⟨v, rr, e, a, b⟩ := ru
    have b' : rr = [] := b
    subst b' e
    exact h Z W φ μ H σ v u Q rp a po
  · exact False.elim po
theorem fLen_ok (hK : G.K = X.K) : OpF G fLen (fun xs H Q => ∃ x n, xs = [x] ∧ LenV X.K x H n ∧ Q (.int n) H) := fun Z W φ μ H σ x u Q r ru po => by
  unfold fLen at po
  split at po
  · rename_i y
    split at po
    · rename_i hl
      cases (show x = .str y from ru)
      exact ⟨_, y.length, rfl, ⟨Nat.le_trans hl (by decide), rfl⟩, po φ H _ Go.refl r rfl⟩
    · exact False.elim po
  · split at po
    · rename_i us hu
      obtain ⟨a, vs, rfl, l, q⟩ := lsU_ok r hu ru
      exact ⟨_, us.length, rfl, .inl ⟨vs, by rw [← hK]; exact l, by rw [q.length]⟩, po φ H _ Go.refl r rfl⟩
    · split at po
      · rename_i ds hu
        obtain ⟨a, vs, rfl, l, q⟩ := tpU_ok r hu ru
        exact ⟨_, ds.length, rfl, .inr ⟨vs, by rw [← hK]; exact l.sq, by rw [q.length]⟩, po φ H _ Go.refl r rfl⟩
      · exact False.elim po
def fInt : U → Mu → Res U := fun u μ => match u with
  | .d (.int i) => .ok (.d (.int i)) μ
  | .d (.bl b) => .ok (.d (.int (if b = true then 1 else 0))) μ
  | .d (.str a) => match PySem.intText? a with
    | some n => if a.length ≤ 640 then .ok (.d (.int n)) μ else .bad
    | none => .bad
  | _ => .bad
def rIntX : List V → Hp → VK → Prop := fun xs H Q => ((∃ i, xs = [.int i] ∧ Q (.int i) H) ∨ ∃ k, xs = [.bl k] ∧ Q (.int (if k then 1 else 0)) H) ∨ ∃ a n, xs = [.str a] ∧ PySem.intText? a = some n ∧ a.length ≤ 640 ∧ Q (.int n) H
theorem call_intX : CallR X (.type "int") rIntX := call_int1.or call_int_str
theorem fInt_ok : OpF G fInt rIntX := fun Z W φ μ H σ x u Q r ru po => by
  unfold fInt at po
  split at po
  · rename_i i; cases (show x = .int i from ru); exact .inl (.inl ⟨i, rfl, po φ H _ Go.refl r rfl⟩)
  · rename_i b; cases (show x = .bl b from ru); exact .inl (.inr ⟨b, rfl, po φ H _ Go.refl r rfl⟩)
  · rename_i a
    split at po
    · rename_i n hn
      split at po
      · rename_i hl
        cases (show x = .str a from ru)
        exact .inr ⟨a, n, rfl, hn, hl, po φ H _ Go.refl r rfl⟩
      · exact False.elim po
    · exact False.elim po
  · exact False.elim po
def fAbs : U → Mu → Res U := fun u μ => match u with
  | .d (.int i) => .ok (.d (.int (if i < 0 then -i else i))) μ
  | _ => .bad
theorem fAbs_ok : OpF G fAbs (fun xs H Q => ∃ i, xs = [.int i] ∧ Q (.int (if i < 0 then -i else i)) H) := fun Z W φ μ H σ x u Q r ru po => by
  unfold fAbs at po
  split at po
  · rename_i i; cases (show x = .int i from ru); exact ⟨i, rfl, po φ H _ Go.refl r rfl⟩
  · exact False.elim po
def fStr : U → Mu → Res U := fun u μ => match u with
  | .d (.int i) => if i.natAbs < 2 ^ 1900 then .ok (.d (.str (toString i))) μ else .bad
  | .d (.str a) => .ok (.d (.str a)) μ
  | _ => .bad
def rStrX : List V → Hp → VK → Prop := fun xs H Q => (∃ i, xs = [.int i] ∧ i.natAbs.log2 < 1920 ∧ Q (.str (toString i)) H) ∨ ∃ a, xs = [.str a] ∧ Q (.str a) H
theorem call_strX : CallR X (.type "str") rStrX := call_str_int.or SkE.call_str_str
theorem log2_lt {n : Nat} (h : n < 2 ^ 1900) : n.log2 < 1920 := by
  by_cases h0 : n = 0
  · subst h0; decide
  · exact Nat.lt_trans ((Nat.log2_lt h0).mpr h) (by decide)
theorem fStr_ok : OpF G fStr rStrX := fun Z W φ μ H σ x u Q r ru po => by
  unfold fStr at po
  split at po
  · rename_i i
    split at po
    · rename_i hl; cases (show x = .int i from ru); exact .inl ⟨i, rfl, log2_lt hl, po φ H _ Go.refl r rfl⟩
    · exact False.elim po
  · rename_i a; cases (show x = .str a from ru); exact .inr ⟨a, rfl, po φ H _ Go.refl r rfl⟩
  · exact False.elim po
/-- tuple(x), x a list or a tuple -/
def fTupOf : U → Mu → Res U := fun u μ => match lsU μ u with
  | some us => oTup us μ
  | none => match tpU μ u with
    | some ds => .ok (.d (.tup ds)) μ
    | none => .bad
theorem newTupU {Z : Addr → Prop} {W : WX} {φ : List Addr} {μ : Mu} {H : Hp} {σ : L2.St} {us : List U} {xs : List V} {Q : VK} (r : Rep G Z φ H μ) (ru : RpUs G φ (Sof Z φ μ) H us xs) (po : Po (RpU G) G Z W φ μ H σ (oTup us μ) Q) : ∀ p, H p = none → Q (.ref p) (upd H p (.tup xs)) := by
  unfold oTup at po
  split at po
  · rename_i ds μ2 hf
    split at po
    · obtain ⟨F, rl⟩ := frzL_ok hf r ru
      exact newTup F.rep rl (Po.go F.go po)
    · exact False.elim po
  · exact False.elim po
theorem fTupOf_ok (hK : G.K = X.K) : OpF G fTupOf (fun xs H Q => ∃ p ys, xs = [.ref p] ∧ ((SqL X.K H p ys ∧ ∀ l, H l = none → Q (.ref l) (upd H l (.tup ys))) ∨ (SqT X.K H p ys ∧ Q (.ref p) H))) := fun Z W φ μ H σ x u Q r ru po => by
  unfold fTupOf at po
  split at po
  · rename_i us hu
    obtain ⟨a, vs, rfl, l, q⟩ := lsU_ok r hu ru
    exact ⟨a, vs, rfl, .inl ⟨by rw [← hK]; exact l, newTupU r q po⟩⟩
  · split at po
    · rename_i ds hu
      have t := tpU_ok r hu ru
      obtain ⟨a, vs, rfl, l, q⟩ := t
      exact ⟨a, vs, rfl, .inr ⟨by rw [← hK]; exact l.sq, po φ H _ Go.refl r ⟨a, vs, rfl, l, q⟩⟩⟩
    · exact False.elim po
/-- the items of a list or a tuple -/
def sqU (μ : Mu) (u : U) : Option (List U) := match lsU μ u with
  | some us => some us
  | none => (tpU μ u).map fun ds => ds.map .d
theorem sqU_ok {Z : Addr → Prop} {φ : List Addr} {μ : Mu} {H : Hp} (r : Rep G Z φ H μ) {u : U} {us : List U} {x : V} (h : sqU μ u = some us) (ru : RpU G φ (Sof Z φ μ) H u x) : ∃ a vs, x = .ref a ∧ (SqL G.K H a vs ∨ SqT G.K H a vs) ∧ RpUs G φ (Sof Z φ μ) H us vs := by
  unfold sqU at h
  split at h
  · rename_i us' hu
    cases h
    obtain ⟨a, vs, e, l, q⟩ := lsU_ok r hu ru
    exact ⟨a, vs, e, .inl l, q⟩
  · obtain ⟨ds, hu, rfl⟩ := Option.map_eq_some_iff.mp h
    obtain ⟨a, vs, e, l, q⟩ := tpU_ok r hu ru
    exact ⟨a, vs, e, .inr l.sq, q.us⟩
/-- list(x) -/
def fLstOf : U → Mu → Res U := fun u μ => match sqU μ u with
  | some us => oLst us μ
  | none => .bad
def fLstOfP : U → Mu → Res U := fun u μ => match sqU μ u with
  | some us => oLstP us μ
  | none => .bad
theorem fLstOf_ok (hK : G.K = X.K) : OpF G fLstOf (fun xs H Q => ∃ p ys, xs = [.ref p] ∧ (SqL X.K H p ys ∨ SqT X.K H p ys) ∧ ∀ l, H l = none → Q (.ref l) (upd H l (.lst ys))) := fun Z W φ μ H σ x u Q r ru po => by
  unfold fLstOf at po
  split at po
  · rename_i us hu
    obtain ⟨a, vs, rfl, l, q⟩ := sqU_ok r hu ru
    exact ⟨a, vs, rfl, by rw [← hK]; exact l, (newLst r q po).2⟩
  · exact False.elim po
def boolsU : List U → Option (List Bool)
  | [] => some []
  | .d (.bl b) :: us => (boolsU us).map fun bs => b :: bs
  | _ => none
theorem boolsU_ok {φ : List Addr} {S : Addr → Prop} {H : Hp} : ∀ {us : List U} {bs : List Bool} {vs : List V}, boolsU us = some bs → RpUs G φ S H us vs → vs = bs.map V.bl
  | [], _, _, h, q => by cases h; exact q
  | .d (.bl b) :: us, _, _, h, ⟨v, r, e, a, q⟩ => by
    obtain ⟨bs', h1, rfl⟩ := Option.map_eq_some_iff.mp h
    subst e
    rw [boolsU_ok h1 q]
    cases (show v = .bl b from a)
    rfl
  | .p _ :: _, _, _, h, _ => by cases h
  | .d .non :: _, _, _, h, _ => by cases h
  | .d (.int _) :: _, _, _, h, _ => by cases h
  | .d (.str _) :: _, _, _, h, _ => by cases h
  | .d (.tup _) :: _, _, _, h, _ => by cases h
  | .d (.lst _) :: _, _, _, h, _ => by cases h
  | .d (.dic _ _) :: _, _, _, h, _ => by cases h
  | .d (.dit _ _) :: _, _, _, h, _ => by cases h
  | .d (.obj _ _ _) :: _, _, _, h, _ => by cases h
  | .d (.exc _ _ _) :: _, _, _, h, _ => by cases h
  | .d (.clo _ _) :: _, _, _, h, _ => by cases h
def fAllAny (all : Bool) : U → Mu → Res U := fun u μ => match lsU μ u with
  | some us => match boolsU us with
    | some bs => .ok (.d (.bl (if all = true then bs.all id else bs.any id))) μ
    | none => .bad
  | none => .bad
theorem fAll_ok (hK : G.K = X.K) : OpF G (fAllAny true) (rAll X.K) := fun Z W φ μ H σ x u Q r ru po => by
  unfold fAllAny at po
  split at po
  · rename_i us hu
    split at po
    · rename_i bs hb
      obtain ⟨a, vs, rfl, l, q⟩ := lsU_ok r hu ru
      exact ⟨a, bs, rfl, by rw [← hK, ← boolsU_ok hb q]; exact l, po φ H _ Go.refl r rfl⟩
    · exact False.elim po
  · exact False.elim po
theorem fAny_ok (hK : G.K = X.K) : OpF G (fAllAny false) (rAny X.K) := fun Z W φ μ H σ x u Q r ru po => by
  unfold fAllAny at po
  split at po
  · rename_i us hu
    split at po
    · rename_i bs hb
      obtain ⟨a, vs, rfl, l, q⟩ := lsU_ok r hu ru
      exact ⟨a, bs, rfl, by rw [← hK, ← boolsU_ok hb q]; exact l, po φ H _ Go.refl r rfl⟩
    · exact False.elim po
  · exact False.elim po
variable {W : WX} {pos p1 p2 : Pos} {e a b : Expr} {m ma mb : Sm U} {x : Str} {id T : String} {r : List V → Hp → VK → Prop} {f : U → Mu → Res U}
/-- f(e), f a built-in function; T(e), T a built-in type -/
theorem i_bf (hc : CallR X (.builtin id) r) (hf : OpF G f r) (hg : Gl X x) (hm : X.mg x = none) (hv : bootBuiltins x = some (.builtin id)) (he : PE X e (rdE G W m)) (hn : x ≠ "__name__" := by decide) (hdb : (x == ("__debug__" : Str)) = false := by decide)
    (hs : starEach (e :: []) X.env = (false, eval e X.env) :: starEach [] X.env := by rfl) (hpl : (backTo pos (starEach [] X.env)).any (·.1) = false := by rfl) : PE X (.Call (.Name x p1) [e] [] pos) (rdE G W (v1 f m)) :=
  PE.imp (pe_callB hc hg hm hv (pa_cons he pa_nil hs) hn hdb hs hpl) fun σ H Q h => rd1 hf σ H Q h
theorem i_bt (hc : CallR X (.type T) r) (hf : OpF G f r) (hg : Gl X x) (hm : X.mg x = none) (hv : bootBuiltins x = some (.type T)) (he : PE X e (rdE G W m)) (hn : x ≠ "__name__" := by decide) (hdb : (x == ("__debug__" : Str)) = false := by decide)
    (hs : starEach (e :: []) X.env = (false, eval e X.env) :: starEach [] X.env := by rfl) (hpl : (backTo pos (starEach [] X.env)).any (·.1) = false := by rfl) : PE X (.Call (.Name x p1) [e] [] pos) (rdE G W (v1 f m)) :=
  PE.imp (pe_callTy hc hg hm hv (pa_cons he pa_nil hs) hn hdb hs hpl) fun σ H Q h => rd1 hf σ H Q h
/-! ### subscripts, slices -/
def fIx : U → U → Mu → Res U := fun u w μ => match w with
  | .d (.int i) => (match u with
    | .d (.str z) => if z.length ≤ 1000000 then (match atI z.cps.toList i with
      | some c => .ok (.d (.str ⟨#[c]⟩)) μ
      | none => .bad) else .bad
    | u => match sqU μ u with
      | some us => match atI us i with
        | some v => .ok v μ
        | none => .bad
      | none => .bad)
  | _ => .bad
theorem RpUs.atI {φ : List Addr} {S : Addr → Prop} {H : Hp} {us : List U} {vs : List V} {i : Int} {u : U} (q : RpUs G φ S H us vs) (h : atI us i = some u) : ∃ v, L2.atI vs i = some v ∧ RpU G φ S H u v := by
  unfold L2.atI at h ⊢
  rw [q.length]
  obtain ⟨j, h1, h2⟩ := Option.bind_eq_some_iff.mp h
  obtain ⟨v, h3, h4⟩ := q.get h2
  exact ⟨v, by rw [h1]; exact h3, h4⟩
theorem fIx_ok (hK : G.K = X.K) : Op2 G fIx (rIx X.K) := fun Z W φ μ H σ x y u w Q r ru rw' po => by
  unfold fIx at po
  split at po
  · rename_i i
    cases (show y = .int i from rw')
    split at po
    · rename_i z
      split at po
      · rename_i hl
        split at po
        · rename_i c hc
          exact .inr (.inr ⟨z, i, c, ru, rfl, Nat.le_trans hl (by decide), hc, po φ H _ Go.refl r rfl⟩)
        · exact False.elim po
      · exact False.elim po
    · split at po
      · rename_i us hu
        split at po
        · rename_i v hv
          obtain ⟨a, vs, rfl, l, q⟩ := sqU_ok r hu ru
          obtain ⟨z, h1, h2⟩ := q.atI hv
          have qq := po φ H z Go.refl r h2
          rcases l with l | l
          · exact .inl ⟨a, vs, i, z, rfl, rfl, by rw [← hK]; exact l, h1, qq⟩
          · exact .inr (.inl ⟨a, vs, i, z, rfl, rfl, by rw [← hK]; exact l, h1, qq⟩)
        · exact False.elim po
      · exact False.elim po
  · exact False.elim po
def cutL {α : Type} (xs : List α) (lo hi : Option Int) : List α := (xs.drop (HT.sIx xs.length 0 lo)).take (HT.sIx xs.length xs.length hi - HT.sIx xs.length 0 lo)
def fSl (u : U) (lo hi : Option Int) (μ : Mu) : Res U := match u with
  | .d (.str z) => if z.length ≤ 1000000 then .ok (.d (.str (cutS z lo hi))) μ else .bad
  | u => match lsU μ u with
    | some us => oLst (cutL us lo hi) μ
    | none => match tpU μ u with
      | some ds => .ok (.d (.tup (cutL ds lo hi))) μ
      | none => .bad
def pOpt : Option (Sm U) → Sm (Option Int)
  | none => fun _ μ => .ok none μ
  | some m => fun ρ μ => (m ρ μ).bind fun u μ1 => match u with
    | .d (.int i) => .ok (some i) μ1
    | _ => .bad
def vSl (m : Sm U) (lo hi : Option (Sm U)) : Sm U := fun ρ μ => (m ρ μ).bind fun u μ1 => (pOpt lo ρ μ1).bind fun l μ2 => (pOpt hi ρ μ2).bind fun h μ3 => fSl u l h μ3
def RlO : Rl (Option Int) (Option Int) := fun _ _ _ a b => a = b
theorem i_po0 : PO X none (rd RlO G W (pOpt none)) := ⟨fun pins s σ H Q I ⟨Z, φ, ρ, μ, sr, po⟩ => (po_none (X := X)).run pins s σ H Q I (po φ H none Go.refl sr.rep rfl)⟩
theorem i_po1 (h : PE X e (rdE G W m)) : PO X (some e) (rd RlO G W (pOpt (some m))) := ⟨fun pins s σ H Q I ⟨Z, φ, ρ, μ, sr, po⟩ => (po_some h).run pins s σ H Q I (by
  refine rd_mono (po_step (R1 := RpU G) sr po) fun x H1 ⟨φ1, μ1, u, g1, sr1, ru, po1⟩ => ?_
  split at po1
  · rename_i i; exact ⟨i, ru, po1 φ1 H1 _ Go.refl sr1.rep rfl⟩
  · exact False.elim po1)⟩
theorem RpUs.drop {φ : List Addr} {S : Addr → Prop} {H : Hp} : ∀ {us : List U} {vs : List V} (n : Nat), RpUs G φ S H us vs → RpUs G φ S H (us.drop n) (vs.drop n)
  | us, vs, 0, h => by rw [List.drop_zero, List.drop_zero]; exact h
  | [], vs, n + 1, h => by rw [show vs = [] from h]; exact rfl
  | u :: us, _, n + 1, ⟨v, r, e, a, b⟩ => by subst e; exact RpUs.drop n b
theorem RpUs.take {φ : List Addr} {S : Addr → Prop} {H : Hp} : ∀ {us : List U} {vs : List V} (n : Nat), RpUs G φ S H us vs → RpUs G φ S H (us.take n) (vs.take n)
  | us, vs, 0, h => by rw [List.take_zero, List.take_zero]; exact rfl
  | [], vs, n + 1, h => by rw [show vs = [] from h]; exact rfl
  | u :: us, _, n + 1, ⟨v, r, e, a, b⟩ => by subst e; exact ⟨v, _, rfl, a, RpUs.take n b⟩
theorem RpL.drop {S : Addr → Prop} {H : Hp} : ∀ {us : List D} {vs : List V} (n : Nat), RpL G S H us vs → RpL G S H (us.drop n) (vs.drop n)
  | us, vs, 0, h => by rw [List.drop_zero, List.drop_zero]; exact h
  | [], vs, n + 1, h => by rw [show vs = [] from h]; exact rfl
  | u :: us, _, n + 1, ⟨v, r, e, a, b⟩ => by subst e; exact RpL.drop n b
theorem RpL.take {S : Addr → Prop} {H : Hp} : ∀ {us : List D} {vs : List V} (n : Nat), RpL G S H us vs → RpL G S H (us.take n) (vs.take n)
  | us, vs, 0, h => by rw [List.take_zero, List.take_zero]; exact rfl
  | [], vs, n + 1, h => by rw [show vs = [] from h]; exact rfl
  | u :: us, _, n + 1, ⟨v, r, e, a, b⟩ => by subst e; exact ⟨v, _, rfl, a, RpL.take n b⟩
theorem i_sl {lo hi : Option Expr} {l h : Option (Sm U)} (hK : G.K = X.K) (he : PE X e (rdE G W m)) (hl : PO X lo (rd RlO G W (pOpt l))) (hh : PO X hi (rd RlO G W (pOpt h))) : PE X (.Subscript e (.Slice lo hi none p2) pos) (rdE G W (vSl m l h)) :=
  PE.imp (pe_slice (SlR.or (SlR.or sl_list sl_tupA) sl_str) he hl hh) fun σ H Q ⟨Z, φ, ρ, μ, sr, po⟩ => by
    refine rd_mono (po_step (R1 := RpU G) sr po) fun x H1 ⟨φ1, μ1, u, g1, sr1, ru, po1⟩ => ?_
    refine rd_mono (po_step (R1 := RlO) sr1 po1) fun l2 H2 ⟨φ2, μ2, l', g2, sr2, e2, po2⟩ => ?_
    refine rd_mono (po_step (R1 := RlO) sr2 po2) fun h2 H3 ⟨φ3, μ3, h', g3, sr3, e3, po3⟩ => ?_
    obtain rfl := (show l' = l2 from e2)
    obtain rfl := (show h' = h2 from e3)
    have ru3 := (ru.mono g2).mono g3
    unfold fSl at po3
    split at po3
    · rename_i z _ _
      split at po3
      · rename_i hz
        exact .inr ⟨z, ru3, Nat.le_trans hz (by decide), po3 φ3 H3 _ Go.refl sr3.rep rfl⟩
      · exact False.elim po3
    · split at po3
      · rename_i us hu
        obtain ⟨a, vs, rfl, ll, q⟩ := lsU_ok sr3.rep hu ru3
        refine .inl (.inl ⟨a, vs, rfl, by rw [← hK]; exact ll, ?_⟩)
        refine (newLst (us := cutL us l' h') (xs := cutV vs l' h') sr3.rep ?_ po3).2
        unfold cutL cutV
        rw [q.length]
        exact (q.drop _).take _
      · split at po3
        · rename_i ds hu
          have t := tpU_ok sr3.rep hu ru3
          obtain ⟨a, vs, rfl, ll, q⟩ := t
          have rc : RpL G (Sof Z φ3 μ3) H3 (cutL ds l' h') (cutV vs l' h') := by
            unfold cutL cutV
            rw [q.length]
            exact (q.drop _).take _
          refine .inl (.inr ⟨a, vs, rfl, by rw [← hK]; exact ll.sq, fun ⟨e1, e2⟩ => ?_, fun _ => newTup sr3.rep rc po3⟩)
          have ev : cutV vs l' h' = vs := by
            unfold cutV
            rw [e1, e2, List.drop_zero, Nat.sub_zero, List.take_length]
          rw [ev] at rc
          exact po3 φ3 H3 _ Go.refl sr3.rep ⟨a, vs, rfl, ll, rc⟩
        · exact False.elim po3
/-! ### methods -/
def tyOk (T : String) (u : U) (μ : Mu) : Bool := match u with
  | .d (.str _) => T == "str"
  | u => match lsU μ u with
    | some _ => T == "list"
    | none => false
def vM (T : String) (f : U → List U → Mu → Res U) (m : Sm U) (ms : Sm (List U)) : Sm U := fun ρ μ => (m ρ μ).bind fun u μ1 => if tyOk T u μ1 = true then (ms ρ μ1).bind fun us μ2 => f u us μ2 else .bad
def OpM (G : Gc) (f : U → List U → Mu → Res U) (r : L2.St → V → List V → Hp → VK → Prop) : Prop := ∀ (Z : Addr → Prop) (W : WX) (φ : List Addr) (μ : Mu) (H : Hp) (σ : L2.St) (x : V) (u : U) (xs : List V) (us : List U) (Q : VK), Rep G Z φ H μ → RpU G φ (Sof Z φ μ) H u x → RpUs G φ (Sof Z φ μ) H us xs → Po (RpU G) G Z W φ μ H σ (f u us μ) Q → r σ x xs H Q
theorem rdM {T : String} {f : U → List U → Mu → Res U} {r : L2.St → V → List V → Hp → VK → Prop} {ms : Sm (List U)} (hK : G.K = X.K) (hf : OpM G f r) (σ : L2.St) (H : Hp) (Q : VK) (h : rdE G W (vM T f m ms) σ H Q) : tBMS X.K T r (rdE G W m) (rdA G W ms) σ H Q := by
  obtain ⟨Z, φ, ρ, μ, sr, po⟩ := h
  refine rd_mono (po_step (R1 := RpU G) sr po) fun x H1 ⟨φ1, μ1, u, g1, sr1, ru, po1⟩ => ?_
  split at po1
  · rename_i ht
    refine ⟨?_, rd_mono (po_step (R1 := RpUs G) sr1 po1) fun xs H2 ⟨φ2, μ2, us, g2, sr2, rus, po2⟩ => hf Z W φ2 μ2 H2 σ x u xs us Q sr2.rep (ru.mono g2) rus po2⟩
    unfold tyOk at ht
    split at ht
    · rename_i z
      cases (show x = .str z from ru)
      exact beq_iff_eq.mp ht
    · split at ht
      · rename_i us hu
        obtain ⟨a, vs, rfl, l, q⟩ := lsU_ok sr1.rep hu ru
        exact .inl ⟨beq_iff_eq.mp ht, vs, by rw [← hK]; exact l⟩
      · cases ht
  · exact False.elim po1
theorem i_m {o : Expr} {es : List Expr} {name : Str} {apos cpos : Pos} {T id : String} {r : L2.St → V → List V → Hp → VK → Prop} {f : U → List U → Mu → Res U} {ms : Sm (List U)} (hK : G.K = X.K) (pa : PlainAttrs T) (slot : Slot T name id) (hty : typeOf (.builtin id) = pure (.type "method_descriptor")) (hm : MtS X id r) (hf : OpM G f r)
    (ho : PE X o (rdE G W m)) (ha : PA X (e :: es) (rdA G W ms))
    (hbase : attributeBase o name X.env (eval o X.env) = eval o X.env := by rfl)
    (hfew : ((backTo cpos (starEach (e :: es) X.env)).all (fun x => !x.1) && (backToKw cpos (keywordEach [] X.env)).all (fun x => x.1.isSome)
      && decide ((e :: es).length + ([] : List Keyword).length + (if ([] : List Keyword).isEmpty then 0 else 1) < 30)) = true := by rfl)
    (hline : (apos.endLine == cpos.line) = true := by rfl) (hs : starEach (e :: es) X.env = (false, eval e X.env) :: starEach es X.env := by rfl) (hplain : (backTo cpos (starEach es X.env)).any (·.1) = false := by rfl) :
    PE X (.Call (.Attribute o name apos) (e :: es) [] cpos) (rdE G W (vM T f m ms)) :=
  PE.imp (pe_bmS pa slot hty hm ho ha hbase hfew hline hs hplain) fun σ H Q h => rdM hK hf σ H Q h
/-- xs.append(y) -/
def fApp : U → List U → Mu → Res U := fun u us μ => match u, us with
  | .p n, [w] => match μ[n]? with
    | some (.lst l) => if l.length < 100000 then .ok (.d .non) (μ.set n (.lst (l ++ [w]))) else .bad
    | _ => .bad
  | _, _ => .bad
theorem lst_ntbl {vs : List V} {H : Hp} {a : Addr} (h : H a = some (.lst vs)) : ∀ ps, H a ≠ some (.tbl ps) := fun ps z => by rw [h] at z; cases z
theorem lst_ncode {vs : List V} {H : Hp} {a : Addr} (h : H a = some (.lst vs)) : ∀ b, H a ≠ some (LamX.CodeO a b) := fun ps z => by
  rw [h] at z
  have z' := Option.some.inj z
  unfold LamX.CodeO at z'
  cases z'
theorem fApp_ok : OpM G fApp (fun _ x xs H Q => rAppend x xs H Q) := fun Z W φ μ H σ x u xs us Q r ru rus po => by
  unfold fApp at po
  split at po
  · rename_i n w
    split at po
    · rename_i l hl
      split at po
      · rename_i hz
        obtain ⟨a, rfl, ha⟩ := ru
        obtain ⟨vs, e, q⟩ := r.at_ n a _ ha hl
        obtain ⟨y, rr, rfl, ry, rnil⟩ := rus
        cases (show rr = [] from rnil)
        have g : Go Z φ μ H φ (μ.set n (.lst (l ++ [w]))) (upd H a (.lst (vs ++ [y]))) := Go.wr r ha hl rfl
        refine ⟨a, vs, y, rfl, rfl, e, by rw [q.length]; exact Nat.lt_of_lt_of_le hz (by decide), ?_⟩
        have rq : RpUs G φ (Sof Z φ (μ.set n (.lst (l ++ [w])))) (upd H a (.lst (vs ++ [y]))) (l ++ [w]) (vs ++ [y]) := (q.mono g).app ⟨y, [], rfl, ry.mono g, rfl⟩
        exact po φ _ _ g (r.wr ha hl rfl (lst_ntbl e) (lst_ncode e) ⟨_, upd_same, rq⟩) rfl
      · exact False.elim po
    · exact False.elim po
  · exact False.elim po
def strsU : List U → Option (List Str)
  | [] => some []
  | .d (.str x) :: us => (strsU us).map fun xs => x :: xs
  | .p _ :: _ => none
  | .d _ :: _ => none
theorem strsU_ok {φ : List Addr} {S : Addr → Prop} {H : Hp} : ∀ {us : List U} {ss : List Str} {vs : List V}, strsU us = some ss → RpUs G φ S H us vs → vs = ss.map V.str
  | [], _, _, h, q => by cases h; exact q
  | .d (.str b) :: us, _, _, h, ⟨v, r, e, a, q⟩ => by
    obtain ⟨bs', h1, rfl⟩ := Option.map_eq_some_iff.mp h
    subst e
    rw [strsU_ok h1 q]
    cases (show v = .str b from a)
    rfl
  | .p _ :: _, _, _, h, _ => by cases h
  | .d .non :: _, _, _, h, _ => by cases h
  | .d (.int _) :: _, _, _, h, _ => by cases h
  | .d (.bl _) :: _, _, _, h, _ => by cases h
  | .d (.tup _) :: _, _, _, h, _ => by cases h
  | .d (.lst _) :: _, _, _, h, _ => by cases h
  | .d (.dic _ _) :: _, _, _, h, _ => by cases h
  | .d (.dit _ _) :: _, _, _, h, _ => by cases h
  | .d (.obj _ _ _) :: _, _, _, h, _ => by cases h
  | .d (.exc _ _ _) :: _, _, _, h, _ => by cases h
  | .d (.clo _ _) :: _, _, _, h, _ => by cases h
def fJoin : U → List U → Mu → Res U := fun u us μ => match u, us with
  | .d (.str a), [w] => match sqU μ w with
    | some l => match strsU l with
      | some ys => if (ys.map (·.length)).sum + ys.length * a.length ≤ 1000000 then .ok (.d (.str (Txt.join a ys))) μ else .bad
      | none => .bad
    | none => .bad
  | _, _ => .bad
theorem fJoin_ok (hK : G.K = X.K) : OpM G fJoin (fun _ x xs H Q => ∃ a p, ∃ ys : List Str, x = .str a ∧ xs = [.ref p] ∧ (SqL X.K H p (ys.map V.str) ∨ SqT X.K H p (ys.map V.str)) ∧ (ys.map (·.length)).sum + ys.length * a.length ≤ 16777216 ∧ Q (.str (Txt.join a ys)) H) := fun Z W φ μ H σ x u xs us Q r ru rus po => by
  unfold fJoin at po
  split at po
  · rename_i a w
    split at po
    · rename_i l hl
      split at po
      · rename_i ys hy
        split at po
        · rename_i hz
          obtain ⟨y, rr, rfl, ry, rnil⟩ := rus
          cases (show rr = [] from rnil)
          obtain ⟨p, vs, rfl, ll, q⟩ := sqU_ok r hl ry
          refine ⟨a, p, ys, ru, rfl, by rw [← hK, ← strsU_ok hy q]; exact ll, Nat.le_trans hz (by decide), po φ H _ Go.refl r rfl⟩
        · exact False.elim po
      · exact False.elim po
    · exact False.elim po
  · exact False.elim po
def fSplit : U → List U → Mu → Res U := fun u us μ => match u, us with
  | .d (.str a), [.d (.str b)] => if (b.length == 0) = false ∧ a.length ≤ 99000 then oLst ((Txt.split a b).map fun x => .d (.str x)) μ else .bad
  | _, _ => .bad
theorem strs_us {φ : List Addr} {S : Addr → Prop} {H : Hp} : ∀ ys : List Str, RpUs G φ S H (ys.map fun x => U.d (.str x)) (ys.map V.str)
  | [] => rfl
  | y :: ys => ⟨.str y, _, rfl, rfl, strs_us ys⟩
theorem fSplit_ok : OpM G fSplit (fun _ x xs H Q => ∃ a b, x = .str a ∧ xs = [.str b] ∧ (b.length == 0) = false ∧ a.length + 2 ≤ sizeLine ∧ rNewStrs (Txt.split a b) H Q) := fun Z W φ μ H σ x u xs us Q r ru rus po => by
  unfold fSplit at po
  split at po
  · rename_i a b
    split at po
    · rename_i hz
      obtain ⟨y, rr, rfl, ry, rnil⟩ := rus
      cases (show rr = [] from rnil)
      cases (show y = .str b from ry)
      exact ⟨a, b, ru, rfl, hz.1, Nat.le_trans (Nat.add_le_add_right hz.2 2) (by decide), (newLst r (strs_us _) po).2⟩
    · exact False.elim po
  · exact False.elim po
def fIndexS : U → List U → Mu → Res U := fun u us μ => match u, us with
  | .d (.str a), [.d (.str b)] => match Txt.index0 a b with
    | some k => .ok (.d (.int k)) μ
    | none => .bad
  | _, _ => .bad
theorem fIndexS_ok {W' : WX} : OpM G fIndexS (rIndexX W') := fun Z W φ μ H σ x u xs us Q r ru rus po => by
  unfold fIndexS at po
  split at po
  · rename_i a b
    split at po
    · rename_i k hk
      obtain ⟨y, rr, rfl, ry, rnil⟩ := rus
      cases (show rr = [] from rnil)
      cases (show y = .str b from ry)
      refine ⟨a, b, ru, rfl, fun k' e => ?_, fun e => ?_⟩
      · rw [hk] at e; cases e; exact po φ H _ Go.refl r rfl
      · rw [hk] at e; cases e
    · exact False.elim po
  · exact False.elim po
/-! ### xs[i] = e -/
def sSetIx (mo mi me : Sm U) : SmS := fun ρ μ => (me ρ μ).thenS ρ fun w μ1 => (mo ρ μ1).thenS ρ fun u μ2 => (mi ρ μ2).thenS ρ fun i μ3 => match u, i with
  | .p n, .d (.int k) => match μ3[n]? with
    | some (.lst l) => match ixN l.length k with
      | some j => .nx ρ (μ3.set n (.lst (l.set j w)))
      | none => .bad
    | _ => .bad
  | _, _ => .bad
theorem RpUs.set {φ : List Addr} {S : Addr → Prop} {H : Hp} {w : U} {y : V} (r : RpU G φ S H w y) : ∀ {us : List U} {vs : List V} (j : Nat), RpUs G φ S H us vs → RpUs G φ S H (us.set j w) (vs.set j y)
  | [], vs, j, h => by rw [show vs = [] from h]; exact rfl
  | u :: us, _, 0, ⟨v, rr, e, a, b⟩ => by subst e; exact ⟨y, rr, rfl, r, b⟩
  | u :: us, _, j + 1, ⟨v, rr, e, a, b⟩ => by subst e; exact ⟨v, _, rfl, a, RpUs.set r j b⟩
theorem i_setix {o i : Expr} {mo mi me : Sm U} {tp : Pos} (ho : PE X o (rdE G W mo)) (hi : PE X i (rdE G W mi)) (he : PE X e (rdE G W me))
    (ha : ∀ v, assign (.Subscript o i tp) X.env v = (do
      let ov ← holding [v] (eval o X.env)
      let iv ← holding [v, ov] (eval i X.env)
      standAt tp
      holding [v, ov, iv] (setItem ov iv v)
      release [v, ov, iv] []) := by intros; rfl)
    (hs : swapsWithSole [.Subscript o i tp] e pos.line X.env = pure false := by rfl) (hw : swappedStores [.Subscript o i tp] e X.env = pure none := by rfl)
    (h1 : (assignEach [.Subscript o i tp] X.env).map (·.2) = [assign (.Subscript o i tp) X.env] := by rfl) : PS X (.Assign [.Subscript o i tp] e pos) (rdS G W (sSetIx mo mi me)) :=
  PS.imp (ps_asg he (pg_sub ho hi set_list ha) hs hw h1) fun D σ H ⟨Z, φ, ρ, μ, sr, po⟩ => by
    refine rd_mono (pos_step (R1 := RpU G) sr po) fun y H1 ⟨φ1, μ1, w, g1, sr1, rw1, po1⟩ => ?_
    refine rd_mono (pos_step (R1 := RpU G) sr1 po1) fun x H2 ⟨φ2, μ2, u, g2, sr2, ru, po2⟩ => ?_
    refine rd_mono (pos_step (R1 := RpU G) sr2 po2) fun z H3 ⟨φ3, μ3, k, g3, sr3, rk, po3⟩ => ?_
    cases u with
    | d _ => exact False.elim po3
    | p n =>
      cases k with
      | p _ => exact False.elim po3
      | d kd =>
        cases kd with
        | int k =>
          dsimp only at po3
          split at po3
          · rename_i l hl
            split at po3
            · rename_i j hj
              obtain ⟨a, rfl, ha2⟩ := ru
              have ha3 := g3.ph n a ha2
              obtain ⟨vs, ea, q⟩ := sr3.rep.at_ n a _ ha3 hl
              cases (show z = .int k from rk)
              have rw3 := (rw1.mono g2).mono g3
              have g : Go Z φ3 μ3 H3 φ3 (μ3.set n (.lst (l.set j w))) (upd H3 a (.lst (vs.set j y))) := Go.wr sr3.rep ha3 hl rfl
              have rr := sr3.rep.wr ha3 hl (ob' := .lst (l.set j w)) rfl (lst_ntbl ea) (lst_ncode ea) ⟨_, upd_same, RpUs.set (rw3.mono g) j (q.mono g)⟩
              exact ⟨a, vs, k, j, rfl, rfl, ea, by rw [q.length]; exact hj, po3 φ3 _ σ g ⟨rr, sr3.sl.mono g⟩⟩
            · exact False.elim po3
          · exact False.elim po3
        | _ => exact False.elim po3
/-! ### zip -/
def wZip (m : Sm (List U)) : Sm Wlk := fun ρ μ => (m ρ μ).bind fun us μ1 => match frzL us μ1 with
  | some ([.tup a, .tup b], μ2) => .ok (wkD ((a.zip b).map fun p => .tup [p.1, p.2])) μ2
  | some ([.lst a, .lst b], μ2) => .ok (wkD ((a.zip b).map fun p => .tup [p.1, p.2])) μ2
  | _ => .bad
theorem zip_at {ds es : List D} {i : Nat} {μ : Mu} {u : U} (h : (wkD ((ds.zip es).map fun p => .tup [p.1, p.2])).nxt i μ = some (some u)) : ∃ d e, ds[i]? = some d ∧ es[i]? = some e ∧ u = .d (.tup [d, e]) := by
  obtain ⟨d, hd, rfl⟩ := opt_map_some h
  rw [List.getElem?_map] at hd
  obtain ⟨p, hp, rfl⟩ := Option.map_eq_some_iff.mp hd
  rw [List.getElem?_zip_eq_some] at hp
  exact ⟨p.1, p.2, hp.1, hp.2, rfl⟩
theorem zip_end {ds es : List D} {i : Nat} {μ : Mu} (h : (wkD ((ds.zip es).map fun p => .tup [p.1, p.2])).nxt i μ = some none) : ds.length ≤ i ∨ es.length ≤ i := by
  have hn := List.getElem?_eq_none_iff.mp (opt_map_none h)
  rw [List.length_map, List.length_zip] at hn
  omega
theorem wk_zipT {ds es : List D} {a b : Addr} : Wk G (RZ.ItzT G.K a b) (wkD ((ds.zip es).map fun p => .tup [p.1, p.2])).nxt (fun _ S H => Rp G S H (.tup ds) (.ref a) ∧ Rp G S H (.tup es) (.ref b)) where
  mono := fun _ e h => ⟨Rp.mono e h.1, Rp.mono e h.2⟩
  go := fun {Z φ μ H i u} r ⟨⟨a', vs, e, l, q⟩, ⟨b', ws, e2, l2, q2⟩⟩ h => by
    cases e; cases e2
    obtain ⟨d, d2, hd, hd2, rfl⟩ := zip_at h
    obtain ⟨v, hv, rv⟩ := q.get hd
    obtain ⟨w, hw, rw'⟩ := q2.get hd2
    exact ⟨vs, ws, v, w, l.sq, l2.sq, hv, hw⟩
  stop := fun {Z φ μ H i} r ⟨⟨a', vs, e, l, q⟩, ⟨b', ws, e2, l2, q2⟩⟩ h => by
    cases e; cases e2
    exact ⟨vs, ws, l.sq, l2.sq, by rw [q.length, q2.length]; exact zip_end h⟩
  yld := fun {Z φ μ H H' i u x} r ⟨⟨a', vs, e, l, q⟩, ⟨b', ws, e2, l2, q2⟩⟩ h y => by
    cases e; cases e2
    obtain ⟨d, d2, hd, hd2, rfl⟩ := zip_at h
    obtain ⟨v, hv, rv⟩ := q.get hd
    obtain ⟨w, hw, rw'⟩ := q2.get hd2
    obtain ⟨T, x1, y1, rfl, hT, rfl, k1, k2⟩ := y
    have e1 := (k1 vs l.sq).symm.trans hv
    have e3 := (k2 ws l2.sq).symm.trans hw
    cases e1; cases e3
    have g := Go.newD (Z := Z) (φ := φ) (μ := μ) (o := .tup [v, w]) r hT
    have nS : ¬ Sof Z φ μ T := fun z => by
      obtain ⟨o, ho⟩ := r.there z
      rw [hT] at ho; cases ho
    exact ⟨g, r.newD hT, ⟨T, [v, w], rfl, .inl ⟨nS, .inl upd_same⟩, ⟨v, [w], rfl, Rp.mono g.ex rv, ⟨w, [], rfl, Rp.mono g.ex rw', rfl⟩⟩⟩⟩
theorem wk_zipL {ds es : List D} {a b : Addr} : Wk G (Itz G.K a b) (wkD ((ds.zip es).map fun p => .tup [p.1, p.2])).nxt (fun _ S H => Rp G S H (.lst ds) (.ref a) ∧ Rp G S H (.lst es) (.ref b)) where
  mono := fun _ e h => ⟨Rp.mono e h.1, Rp.mono e h.2⟩
  go := fun {Z φ μ H i u} r ⟨⟨a', vs, e, l, q⟩, ⟨b', ws, e2, l2, q2⟩⟩ h => by
    cases e; cases e2
    obtain ⟨d, d2, hd, hd2, rfl⟩ := zip_at h
    obtain ⟨v, hv, rv⟩ := q.get hd
    obtain ⟨w, hw, rw'⟩ := q2.get hd2
    exact ⟨vs, ws, v, w, l.sq, l2.sq, hv, hw⟩
  stop := fun {Z φ μ H i} r ⟨⟨a', vs, e, l, q⟩, ⟨b', ws, e2, l2, q2⟩⟩ h => by
    cases e; cases e2
    exact ⟨vs, ws, l.sq, l2.sq, by rw [q.length, q2.length]; exact zip_end h⟩
  yld := fun {Z φ μ H H' i u x} r ⟨⟨a', vs, e, l, q⟩, ⟨b', ws, e2, l2, q2⟩⟩ h y => by
    cases e; cases e2
    obtain ⟨d, d2, hd, hd2, rfl⟩ := zip_at h
    obtain ⟨v, hv, rv⟩ := q.get hd
    obtain ⟨w, hw, rw'⟩ := q2.get hd2
    obtain ⟨T, x1, y1, rfl, hT, rfl, k1, k2⟩ := y
    have e1 := (k1 vs l.sq).symm.trans hv
    have e3 := (k2 ws l2.sq).symm.trans hw
    cases e1; cases e3
    have g := Go.newD (Z := Z) (φ := φ) (μ := μ) (o := .tup [v, w]) r hT
    have nS : ¬ Sof Z φ μ T := fun z => by
      obtain ⟨o, ho⟩ := r.there z
      rw [hT] at ho; cases ho
    exact ⟨g, r.newD hT, ⟨T, [v, w], rfl, .inl ⟨nS, .inl upd_same⟩, ⟨v, [w], rfl, Rp.mono g.ex rv, ⟨w, [], rfl, Rp.mono g.ex rw', rfl⟩⟩⟩⟩
theorem i_wzip {elts : List Expr} {kk : Nat} {tpos p : Pos} {ms : Sm (List U)} (hK : G.K = X.K) (hg : Gl X "zip") (hm : X.mg "zip" = none) (ha : PA X [a, b] (rdA G W ms))
    (hs : starEach [a, b] X.env = (false, eval a X.env) :: starEach [b] X.env := by rfl) (hpl : (backTo pos (starEach [b] X.env)).any (·.1) = false := by rfl) :
    PI X (.Tuple elts kk tpos) (.Call (.Name "zip" p) [a, b] [] pos) (rdI G W (wZip ms)) :=
  PI.imp (RZ.pi_zipA hg hm ha hs hpl) fun σ H R ⟨Z, φ, ρ, μ, sr, po⟩ => by
    refine rd_mono (pi_step (R1 := RpUs G) sr po) fun xs H1 ⟨φ1, μ1, us, g1, sr1, rus, po1⟩ => ?_
    split at po1
    · rename_i d1 d2 μ2 hf
      obtain ⟨F, rl⟩ := frzL_ok hf sr1.rep rus
      obtain ⟨v, rr, rfl, r1, w, rr2, e2, r2, e3⟩ := rl
      have e3' : rr2 = [] := e3
      subst e2 e3'
      have t1 := r1
      have t2 := r2
      obtain ⟨x1, vs, rfl, l1, q1⟩ := t1
      obtain ⟨x2, ws, rfl, l2, q2⟩ := t2
      exact ⟨x1, x2, vs, ws, rfl, .inr ⟨by rw [← hK]; exact l1.sq, by rw [← hK]; exact l2.sq, by rw [← hK]; exact po1 φ1 H1 _ _ F.go F.rep wk_zipT ⟨r1, r2⟩⟩⟩
    · rename_i d1 d2 μ2 hf
      obtain ⟨F, rl⟩ := frzL_ok hf sr1.rep rus
      obtain ⟨v, rr, rfl, r1, w, rr2, e2, r2, e3⟩ := rl
      have e3' : rr2 = [] := e3
      subst e2 e3'
      have t1 := r1
      have t2 := r2
      obtain ⟨x1, vs, rfl, l1, q1⟩ := t1
      obtain ⟨x2, ws, rfl, l2, q2⟩ := t2
      exact ⟨x1, x2, vs, ws, rfl, .inl ⟨by rw [← hK]; exact l1.sq, by rw [← hK]; exact l2.sq, by rw [← hK]; exact po1 φ1 H1 _ _ F.go F.rep wk_zipL ⟨r1, r2⟩⟩⟩
    · exact False.elim po1
end
end Iv
set_option Elab.async false
set_option linter.all false
set_option maxRecDepth 100000
set_option maxHeartbeats 2000000
set_option autoImplicit false
/-! Iv, part M: lambdas. -/
namespace Iv
open PySem PySem.Spec PyProof.Rows L2

/-! ### cells that are lent -/
def less (L : Addr → Bool) (H : Hp) : Hp := fun b => if L b = true then none else H b
def more (L : Addr → Bool) (H0 H : Hp) : Hp := fun b => if L b = true then H0 b else H b
def LentC (L : Addr → Bool) (H : Hp) : Prop := ∀ c, L c = true → ∃ (o : Obj) (u : Value), H c = some (.frz o (.own c)) ∧ o.data = .cell (some u)
theorem less_in {L : Addr → Bool} {H : Hp} {b : Addr} (h : L b = true) : less L H b = none := if_pos h
theorem less_out {L : Addr → Bool} {H : Hp} {b : Addr} (h : L b = false) : less L H b = H b := by unfold less; rw [if_neg (by rw [h]; exact Bool.false_ne_true)]
theorem more_in {L : Addr → Bool} {H0 H : Hp} {b : Addr} (h : L b = true) : more L H0 H b = H0 b := if_pos h
theorem more_out {L : Addr → Bool} {H0 H : Hp} {b : Addr} (h : L b = false) : more L H0 H b = H b := by unfold more; rw [if_neg (by rw [h]; exact Bool.false_ne_true)]
theorem less_some {L : Addr → Bool} {H : Hp} {b : Addr} {o : HO} (h : less L H b = some o) : L b = false ∧ H b = some o := by
  cases e : L b with
  | true => rw [less_in e] at h; cases h
  | false => exact ⟨rfl, (less_out e).symm.trans h⟩
theorem LentC.out {L : Addr → Bool} {H : Hp} (lc : LentC L H) {b : Addr} {o : HO} (h : H b = some o) (n : ∀ ob c, o ≠ .frz ob (.own c)) : L b = false := by
  cases e : L b with
  | false => rfl
  | true =>
    obtain ⟨ob, u, e1, _⟩ := lc b e
    rw [h] at e1
    exact absurd (Option.some.inj e1) (n _ _)
section
variable {P : Program} {w : World} {K : PySem.W.Frag} {mg : Str → Option Value} {base : Heap} {L : Addr → Bool} {H H0 H' : Hp} {h : Heap} {G : Gc}
theorem hok_less (lc : LentC L H) (ok : HOk P w H h) : HOk P w (less L H) h := fun b o e => by
  obtain ⟨hb, e'⟩ := less_some e
  refine (ok b o e').stay (fun _ _ _ q => q) (fun c q => ?_) fun c xs q => ?_
  · rw [less_out (lc.out q fun _ _ z => by cases z)]; exact q
  · rw [less_out (lc.out q fun _ _ z => by cases z)]; exact q
theorem hok_more (lc : LentC L H0) (ok : HOk P w H h) (fr : ∀ c, L c = true → H c = none) (at_ : ∀ c o, L c = true → H0 c = some (.frz o (.own c)) → h.get? c = some o) : HOk P w (more L H0 H) h := fun b o e => by
  cases hb : L b with
  | true =>
    rw [more_in hb] at e
    obtain ⟨ob, u, e1, _⟩ := lc b hb
    rw [e1] at e
    cases e
    exact ⟨at_ b ob hb e1, ⟨ob, at_ b ob hb e1⟩⟩
  | false =>
    rw [more_out hb] at e
    have out : ∀ {c : Addr} {x : HO}, H c = some x → L c = false := fun {c x} q => by
      cases z : L c with
      | false => rfl
      | true => rw [fr c z] at q; cases q
    exact (ok b o e).stay (fun _ _ _ q => q) (fun c q => by rw [more_out (out q)]; exact q) fun c xs q => by rw [more_out (out q)]; exact q
end
mutual
/-- no lambda within -/
def D.nc : D → Bool
  | .tup l => D.ncL l
  | .lst l => D.ncL l
  | .dic _ l => D.ncL l
  | .dit _ l => D.ncL l
  | .obj _ _ l => D.ncL l
  | .exc _ _ l => D.ncL l
  | .clo _ _ => false
  | _ => true
def D.ncL : List D → Bool
  | [] => true
  | d :: ds => d.nc && D.ncL ds
end
section
variable {L : Addr → Bool} {H : Hp} {G : Gc} {S : Addr → Prop}
theorem rd_less (lc : LentC L H) {a : Addr} {u : HO} (h : Rd H a u) (n : ∀ c, u ≠ .own c) (n2 : ∀ o v, u ≠ .frz o v) : Rd (less L H) a u := by
  rcases h with h | ⟨o, h⟩
  · exact .inl (by rw [less_out (lc.out h fun ob c => n2 ob _)]; exact h)
  · exact .inr ⟨o, by rw [less_out (lc.out h fun ob c z => n c (by cases z; rfl))]; exact h⟩
theorem tupR_less (lc : LentC L H) {a : Addr} {vs : List V} (h : TupR G S H a vs) : TupR G S (less L H) a vs := h.elim (fun z => .inl ⟨z.1, rd_less lc z.2 (fun _ q => by cases q) fun _ _ q => by cases q⟩) fun z => .inr z
theorem lstR_less (lc : LentC L H) {a : Addr} {vs : List V} (h : LstR G S H a vs) : LstR G S (less L H) a vs := h.elim (fun z => .inl ⟨z.1, rd_less lc z.2 (fun _ q => by cases q) fun _ _ q => by cases q⟩) fun z => .inr z
mutual
theorem Rp.less (lc : LentC L H) : ∀ {d : D} {v : V}, d.nc = true → Rp G S H d v → Rp G S (Iv.less L H) d v
  | .non, _, _, h => h
  | .bl _, _, _, h => h
  | .int _, _, _, h => h
  | .str _, _, _, h => h
  | .cls _, _, _, h => h
  | .tup ds, _, k, ⟨a, vs, e1, e2, e3⟩ => ⟨a, vs, e1, tupR_less lc e2, RpL.less lc k e3⟩
  | .lst ds, _, k, ⟨a, vs, e1, e2, e3⟩ => ⟨a, vs, e1, lstR_less lc e2, RpL.less lc k e3⟩
  | .dic ks ds, _, k, ⟨a, vs, e1, e2, e3, e4, e5⟩ => ⟨a, vs, e1, e2, rd_less lc e3 (fun _ q => by cases q) (fun _ _ q => by cases q), e4, RpL.less lc k e5⟩
  | .dit ks ds, _, k, ⟨a, vs, e1, e2, e3, e4, e5⟩ => ⟨a, vs, e1, e2, rd_less lc e3 (fun _ q => by cases q) (fun _ _ q => by cases q), e4, RpL.less lc k e5⟩
  | .obj c ns ds, _, k, ⟨a, dx, vs, e1, e2, e3, e4, e5⟩ => ⟨a, dx, vs, e1, e2, by rw [less_out (lc.out e3 fun _ _ q => by cases q)]; exact e3, e4, RpL.less lc k e5⟩
  | .exc c ns ds, _, k, ⟨a, dx, vs, e1, e2, e3, e4, e5, e6⟩ => ⟨a, dx, vs, e1, e2, by rw [less_out (lc.out e3 fun _ _ q => by cases q)]; exact e3, e4,
      e5.elim (fun z => .inl z) (fun ⟨d, z1, z2, z3⟩ => .inr ⟨d, z1, z2, by rw [less_out (lc.out z3 fun _ _ q => by cases q)]; exact z3⟩), RpL.less lc k e6⟩
  | .clo k ds, _, k', h => nomatch k'
theorem RpL.less (lc : LentC L H) : ∀ {ds : List D} {vs : List V}, D.ncL ds = true → RpL G S H ds vs → RpL G S (Iv.less L H) ds vs
  | [], _, _, h => h
  | d :: ds, _, k, ⟨v, r, e1, e2, e3⟩ => by
    have k' : (d.nc && D.ncL ds) = true := k
    rw [Bool.and_eq_true] at k'
    exact ⟨v, r, e1, Rp.less lc k'.1 e2, RpL.less lc k'.2 e3⟩
end
theorem tabs_less (lc : LentC L H) {T : List (Addr × Str)} (t : LamX.Tabs T H) : LamX.Tabs T (Iv.less L H) := fun p hp => by
  obtain ⟨ps, a1, a2, a3⟩ := t p hp
  refine ⟨ps, by rw [less_out (lc.out a1 fun _ _ q => by cases q)]; exact a1, a2, fun pos cv hc => ?_⟩
  obtain ⟨c, e1, e2⟩ := a3 pos cv hc
  exact ⟨c, e1, by rw [less_out (lc.out e2 fun _ _ q => by unfold LamX.CodeO at q; cases q)]; exact e2⟩
end
/-! ### a lambda, called -/
/-- what a lambda's scope says: no parameter, no name of its own: captured ones and globals -/
structure LamF (I : LamI) : Prop where
  kind : I.scope.kind = .function
  co : I.scope.isCoroutine = false
  gen : I.scope.isGenerator = false
  own : ∀ y ∈ I.scope.names, y.2 ≠ .local ∧ y.2 ≠ .cell
  free : ∀ y ∈ I.scope.names, y.2 = .free → y.1 ∈ I.caps
  all : ∀ x ∈ I.caps, I.scope.names.lookup x = some .free
  nd : I.caps.Nodup
  bind : ∀ (clo : List (Str × Addr)) (pm ctv : Value) (c' : Addr), bindArgs (PySem.W.kla_fn "<lambda>" I.qual I.params I.body I.scope clo pm (.ref c') ctv) ⟨[], []⟩ = pure []
abbrev cloEnv (I : LamI) (clo : List (Str × Addr)) (l f c' : Addr) : Env := PySem.W.envX I.qual I.scope l f (.ref c') clo
def cloCx (P : Program) (w : World) (K : PySem.W.Frag) (mg : Str → Option Value) (base : Heap) (I : LamI) (clo : List (Str × Addr)) (f c' : Addr) (A : Around) (outer : List Env) (s : Shared) (H : Hp) (E : XK) : Cx where
  prog := P
  w := w
  K := K
  mg := mg
  base := base
  A := A.deeper (cloEnv I clo s.heap.objs.size f c')
  N := I.caps
  s_0 := s
  H_0 := H
  env := cloEnv I clo s.heap.objs.size f c'
  outer := outer
  stack := cloEnv I clo s.heap.objs.size f c' :: outer
  ex := []
  fn := fun _ => false
  calm := true
  pn := []
  xe := fun e s' => wpAny (model P w) (A.deeper (cloEnv I clo s.heap.objs.size f c')) (leaving (cloEnv I clo s.heap.objs.size f c') e) (fun _ s'' => L2.CX P w outer H s E e s'') (fun e' s'' => L2.CX P w outer H s E e' s'') s'
/-- a closure at a: its object, its cells, the values in them -/
def CloAt (G : Gc) (S : Addr → Prop) (H : Hp) (k : Nat) (a : Addr) (vs : List V) : Prop := ∃ (c' : Addr) (pm ctv : Value) (fo : Obj) (clo : List (Str × Addr)), ¬ S a ∧ H a = some (.frz fo (.own a)) ∧
  fo = PySem.W.kla_obj "<lambda>" (G.lam k).qual (G.lam k).params (G.lam k).body (G.lam k).scope clo pm c' ctv ∧ ¬ S c' ∧ H c' = some (LamX.CodeO c' (G.lam k).qual) ∧ CloF (G.lam k).caps clo ∧ CellsR S H clo (G.lam k).caps vs
def lentB (caps : List Str) (clo : List (Str × Addr)) (b : Addr) : Bool := caps.any fun x => clo.lookup x == some b
theorem cellsR_at {S : Addr → Prop} {H : Hp} {clo : List (Str × Addr)} : ∀ {xs : List Str} {vs : List V} {i : Nat} {x : Str}, CellsR S H clo xs vs → xs[i]? = some x → ∃ v c o u, vs[i]? = some v ∧ clo.lookup x = some c ∧ ¬ S c ∧ H c = some (.frz o (.own c)) ∧ o.data = .cell (some u) ∧ RelV v u
  | y :: xs, _, 0, x, ⟨v, r, c, o, u, e1, e2, e3, e4, e5, e6, e7⟩, h => by
    cases h; subst e1
    exact ⟨v, c, o, u, rfl, e2, e3, e4, e5, e6⟩
  | y :: xs, _, i + 1, x, ⟨v, r, c, o, u, e1, e2, e3, e4, e5, e6, e7⟩, h => by
    subst e1
    exact cellsR_at (i := i) e7 h
theorem cellsR_len {S : Addr → Prop} {H : Hp} {clo : List (Str × Addr)} : ∀ {xs : List Str} {vs : List V}, CellsR S H clo xs vs → vs.length = xs.length
  | [], _, h => by rw [show _ = [] from h]; rfl
  | x :: xs, _, ⟨v, r, c, o, u, e1, e2, e3, e4, e5, e6, e7⟩ => by subst e1; rw [List.length_cons, List.length_cons, cellsR_len e7]
theorem lentB_of {caps : List Str} {clo : List (Str × Addr)} {b : Addr} (h : lentB caps clo b = true) : ∃ (i : Nat) (x : Str), caps[i]? = some x ∧ clo.lookup x = some b := by
  unfold lentB at h
  rw [List.any_eq_true] at h
  obtain ⟨x, hx, e⟩ := h
  obtain ⟨i, hi⟩ := List.getElem?_of_mem hx
  exact ⟨i, x, hi, beq_iff_eq.mp e⟩
theorem lentB_mk {caps : List Str} {clo : List (Str × Addr)} {b : Addr} {x : Str} (hx : x ∈ caps) (h : clo.lookup x = some b) : lentB caps clo b = true := by
  unfold lentB
  rw [List.any_eq_true]
  exact ⟨x, hx, beq_iff_eq.mpr h⟩
section
variable {P : Program} {w : World} {K : PySem.W.Frag} {mg : Str → Option Value} {base : Heap} {G : Gc}
theorem clo_lent {S : Addr → Prop} {H : Hp} {clo : List (Str × Addr)} {caps : List Str} {vs : List V} (h : CellsR S H clo caps vs) : LentC (lentB caps clo) H := fun c hc => by
  obtain ⟨i, x, hi, hx⟩ := lentB_of hc
  obtain ⟨v, c2, o, u, _, e2, _, e4, e5, _⟩ := cellsR_at h hi
  rw [hx] at e2
  cases e2
  exact ⟨o, u, e4, e5⟩
/-- the state at which the lambda's body begins -/
theorem clo_start {I : LamI} {clo : List (Str × Addr)} {f c' : Addr} {A : Around} {outer : List Env} {s : Shared} {H : Hp} {E : XK} {h₁ : Heap} {tk : Nat} {S : Addr → Prop} {vs : List V} (F : LamF I) (CF : CloF I.caps clo) (CR : CellsR S H clo I.caps vs) (e0 : Env0 P w K mg base A outer s H) (hd : A.handled = none)
    (hns : h₁.Ns s.heap.objs.size fun y => ([] : List (Str × Value)).reverse.lookup y) (kp : ∀ b o, s.heap.get? b = some o → h₁.get? b = some o) :
    L2.Inv (cloCx P w K mg base I clo f c' A outer s (less (lentB I.caps clo) H) E) [] (vs.map some) (less (lentB I.caps clo) H) { s with heap := h₁, toks := tk } := by
  have lc := clo_lent CR
  have cellK : ∀ {y c}, clo.lookup y = some c → ∃ (i : Nat) (v : V) (u : Value), I.caps[i]? = some y ∧ vs[i]? = some v ∧ RelV v u ∧ h₁.IsCell c (some u) := fun {y c} e => by
    obtain ⟨i, hi⟩ := List.getElem?_of_mem (CF.1 y c e)
    obtain ⟨v, c2, o, u, e1, e2, _, e4, e5, e6⟩ := cellsR_at CR hi
    rw [e] at e2
    cases e2
    obtain ⟨g, _⟩ := e0.hok c _ e4
    exact ⟨i, v, u, hi, e1, e6, o, kp _ _ g, e5⟩
  have look : ∀ {y}, I.scope.names.lookup y = some .free → ∃ c, clo.lookup y = some c := fun {y} hl => by
    obtain ⟨i, hi⟩ := List.getElem?_of_mem (F.free _ (PySem.mem_of_lookup hl) rfl)
    obtain ⟨v, c2, o, u, e1, e2, _⟩ := cellsR_at CR hi
    exact ⟨c2, e2⟩
  have noA : ∀ b : Addr, b ∉ (cloCx P w K mg base I clo f c' A outer s (less (lentB I.caps clo) H) E).ex := fun b z => absurd (show b ∈ ([] : List Addr) from z) (by simp)
  have nl : ∀ {b}, H b = none → less (lentB I.caps clo) H b = none := fun {b} n => by
    unfold less; split
    · rfl
    · exact n
  refine ⟨⟨e0.mod, F.kind, rfl, rfl, Nat.le_refl _, fun y z c e1 e2 => CF.2 y z c e1 e2, fun y hy => ?_, fun y c z _ => ?_, fun _ => hd, Around.frames_deeper e0.frames, .inr ⟨rfl, rfl⟩, fun b z => absurd z (noA b), fun b o e => ⟨(e0.bs b o e).1, nl (e0.bs b o e).2⟩, e0.bsz, fun b _ _ => noA b,
      fun b z => absurd z (noA b), e0.funs, fun b hb => nl (e0.frf b hb)⟩,
    rfl, e0.bare, Un.kept kp, ⟨_, hns, fun i y v e1 e2 e3 => ?_⟩, fun y c e => ?_, nl (e0.hok.fresh (Nat.le_refl _)), fun y c e => ?_, fun q hq => absurd (show q ∈ ([] : List (Addr × Obj)) ++ [] from hq) (by simp), (hok_less lc e0.hok).kept kp, ?_⟩
  · have hy : I.scope.names.lookup y = some .cell ∨ I.scope.names.lookup y = some .free := hy
    rcases hy with hy | hy
    · exact absurd rfl (F.own _ (PySem.mem_of_lookup hy)).2
    · exact look hy
  · have z : false = true := z
    cases z
  · have e3 : Vis I.scope y := e3
    rcases e3 with k | k | k
    · exact absurd rfl (F.own _ (PySem.mem_of_lookup k)).1
    · exact absurd rfl (F.own _ (PySem.mem_of_lookup k)).2
    · obtain ⟨c, hc⟩ := look k
      obtain ⟨j, v', u, hj, hv, r, z⟩ := cellK hc
      have e1 : I.caps[i]? = some y := e1
      have ij := nodup_ix F.nd hj e1
      subst ij
      rw [List.getElem?_map, hv] at e2
      cases e2
      exact ⟨u, r, .inr ⟨.inr k, c, hc, z⟩⟩
  · have e : clo.lookup y = some c := e
    obtain ⟨_, _, u, _, _, _, z⟩ := cellK e
    exact ⟨_, z⟩
  · have e : clo.lookup y = some c := e
    exact less_in (lentB_mk (CF.1 y c e) e)
  · show (vs.map some).length = I.caps.length
    rw [List.length_map, cellsR_len CR]
/-- a call's end, of the cells too -/
theorem ce_more {L : Addr → Bool} {outer : List Env} {H : Hp} {s s' : Shared} {Q : VK} {u : Value} (lc : LentC L H) (ok : HOk P w H s.heap) (frf : ∀ b ∈ frs outer, H b = none) (h : CE outer P w (less L H) s (fun v H' => (∀ c, L c = true → H' c = none) → Q v (more L H H')) u s') : CE outer P w H s Q u s' := by
  obtain ⟨v, H', os, bare, un, hok, rv, q⟩ := h
  have fr : ∀ c, L c = true → H' c = none := fun c hc => by
    obtain ⟨o, _, e, _⟩ := lc c hc
    obtain ⟨g, _⟩ := ok c _ e
    exact un.free c o g (less_in hc) (fun z => nomatch z)
  have nl : ∀ {b}, H b = none → less L H b = none ∧ L b = false := fun {b} n => by
    cases e : L b with
    | true => obtain ⟨o, _, e', _⟩ := lc b e; rw [n] at e'; cases e'
    | false => exact ⟨by rw [less_out e]; exact n, rfl⟩
  have nf : ∀ c, L c = true → c ∉ frs outer := fun c hc z => by
    obtain ⟨o, _, e', _⟩ := lc c hc
    rw [frf c z] at e'; cases e'
  refine ⟨v, more L H H', os, bare, ⟨fun b o e n hf hx => un.keep b o e (nl n).1 hf hx, fun b o e n hf hx => un.slot b o e (nl n).1 hf hx, fun b o e n hx => ?_, un.there, fun b xs e => ?_, fun b o x e => ?_, fun b ps e => ?_⟩,
    hok_more lc hok fr fun c o hc e => ?_, rv, q fr⟩
  · rw [more_out (nl n).2]; exact un.free b o e (nl n).1 hx
  · have hb := lc.out e fun _ _ z => by cases z
    rw [more_out hb]; exact un.tups b xs (by rw [less_out hb]; exact e)
  · cases hb : L b with
    | true => rw [more_in hb]; exact e
    | false => rw [more_out hb]; exact un.frzs b o x (by rw [less_out hb]; exact e)
  · have hb := lc.out e fun _ _ z => by cases z
    rw [more_out hb]; exact un.tbls b ps (by rw [less_out hb]; exact e)
  · obtain ⟨g, _⟩ := ok c _ e
    exact un.keep c o g (less_in hc) (nf c hc) (fun z => nomatch z)
theorem cx_more {L : Addr → Bool} {outer : List Env} {H : Hp} {s s' : Shared} {E : XK} {u : Value} (lc : LentC L H) (ok : HOk P w H s.heap) (frf : ∀ b ∈ frs outer, H b = none) (h : L2.CX P w outer (less L H) s (fun cls d H' => (∀ c, L c = true → H' c = none) → E cls d (more L H H')) u s') : L2.CX P w outer H s E u s' := by
  obtain ⟨a, B, H', cls, d, eu, fl, hok, ub, na, os, bare, q⟩ := h
  have fr : ∀ c, L c = true → H' c = none := fun c hc => by
    obtain ⟨o, _, e, _⟩ := lc c hc
    obtain ⟨g, _⟩ := ok c _ e
    exact ub.free c o g (less_in hc)
  have nl : ∀ {b}, H b = none → less L H b = none ∧ L b = false := fun {b} n => by
    cases e : L b with
    | true => obtain ⟨o, _, e', _⟩ := lc b e; rw [n] at e'; cases e'
    | false => exact ⟨by rw [less_out e]; exact n, rfl⟩
  have nf : ∀ c, L c = true → c ∉ frs outer := fun c hc z => by
    obtain ⟨o, _, e', _⟩ := lc c hc
    rw [frf c z] at e'; cases e'
  have inB : ∀ c o, L c = true → H c = some (.frz o (.own c)) → B.get? c = some o := fun c o hc e => by
    obtain ⟨g, _⟩ := ok c _ e
    exact ub.keep c o g (less_in hc) (nf c hc)
  have nLa : L a = false := by
    cases e : L a with
    | false => rfl
    | true =>
      obtain ⟨o, _, e', _⟩ := lc a e
      have := inB a o e e'
      rw [fl.2.1] at this; cases this
  refine ⟨a, B, more L H H', cls, d, eu, fl, hok_more lc hok fr inB, ⟨fun b o e n hf => ub.keep b o e (nl n).1 hf, ub.slot, fun b o e n => ?_, ub.there, fun b xs e => ?_, fun b o x e => ?_, fun b ps e => ?_⟩, by rw [more_out nLa]; exact na, os, bare, q fr⟩
  · rw [more_out (nl n).2]; exact ub.free b o e (nl n).1
  · have hb := lc.out e fun _ _ z => by cases z
    rw [more_out hb]; exact ub.tups b xs (by rw [less_out hb]; exact e)
  · cases hb : L b with
    | true => rw [more_in hb]; exact e
    | false => rw [more_out hb]; exact ub.frzs b o x (by rw [less_out hb]; exact e)
  · have hb := lc.out e fun _ _ z => by cases z
    rw [more_out hb]; exact ub.tbls b ps (by rw [less_out hb]; exact e)
end
end Iv
set_option Elab.async false
set_option linter.all false
set_option maxRecDepth 100000
set_option maxHeartbeats 2000000
set_option autoImplicit false
/-! Iv, part N: lambdas called and made. -/
namespace Iv
open PySem PySem.Spec PyProof.Rows L2
section
variable {g : Bool} {P : Program} {w : World} {K : PySem.W.Frag} {mg : Str → Option Value} {base : Heap} {G : Gc} {Z : Addr → Prop} {φ φ' : List Addr} {μ μ' : Mu} {H H' H2 : Hp} {L : Addr → Bool}
theorem Go.grow (r : Rep G Z φ H μ) (k : ∀ b o, H b = some o → H2 b = some o) : Go Z φ μ H φ μ H2 :=
  ⟨fun _ _ h => h, ⟨fun a o h n _ => ⟨k a o h, n⟩⟩, fun a h => by
    obtain ⟨o, e, _⟩ := r.res a h
    rw [e, k a o e]⟩
theorem Rep.grow (r : Rep G Z φ H μ) (k : ∀ b o, H b = some o → H2 b = some o) : Rep G Z φ H2 μ where
  len := r.len
  one := r.one
  at_ := fun n a ob h1 h2 => (r.at_ n a ob h1 h2).mono (Go.grow r k) fun _ u e => k a u e
  res := fun a h => by
    obtain ⟨o, e, n⟩ := r.res a h
    exact ⟨o, k a o e, n⟩
  apart := r.apart
  tab := r.tab.ext k
theorem go_more (r' : Rep G Z φ' H' μ') (fr : ∀ c, L c = true → H' c = none) (g : Go Z φ μ (less L H) φ' μ' H') : Go Z φ μ H φ' μ' (more L H H') := by
  refine ⟨g.ph, ⟨fun a o h n t => ?_⟩, fun a h => ?_⟩
  · cases hb : L a with
    | true => exact ⟨by rw [more_in hb]; exact h, fun z => by
        obtain ⟨o2, e⟩ := r'.there z
        rw [fr a hb] at e; cases e⟩
    | false =>
      obtain ⟨k1, k2⟩ := g.ex.keep a o (by rw [less_out hb]; exact h) n t
      exact ⟨by rw [more_out hb]; exact k1, k2⟩
  · cases hb : L a with
    | true => rw [more_in hb]
    | false => rw [more_out hb, g.rs a h, less_out hb]
theorem more_grow (fr : ∀ c, L c = true → H' c = none) : ∀ b o, H' b = some o → more L H H' b = some o := fun b o e => by
  rw [more_out]
  · exact e
  · cases hb : L b with
    | false => rfl
    | true => rw [fr b hb] at e; cases e
theorem poF_more {E : XK} {Q : VK} {r : FR} (po : PoF G Z E φ μ H r Q) : PoF G Z (fun cls d H' => (∀ c, L c = true → H' c = none) → E cls d (more L H H')) φ μ (less L H) r (fun v H' => (∀ c, L c = true → H' c = none) → Q v (more L H H')) := by
  cases r with
  | bad => exact po
  | err c ns vs os =>
    intro H1 cls dx g r' er fr
    exact po _ cls dx (go_more r' fr g) (r'.grow (more_grow fr)) (er.mono (Go.grow r' (more_grow fr)).ex)
  | ok u os new =>
    cases new with
    | none => exact fun H1 v g r' rv fr => po _ v (go_more r' fr g) (r'.grow (more_grow fr)) (rv.mono (Go.grow r' (more_grow fr)))
    | some o => exact fun a H1 v g r' rv fr => po a _ v (go_more r' fr g) (r'.grow (more_grow fr)) (rv.mono (Go.grow r' (more_grow fr)))
/-- a lambda keeps its promise -/
structure LamOk (g : Bool) (G : Gc) (P : Program) (w : World) (K : PySem.W.Frag) (mg : Str → Option Value) (base : Heap) (n k : Nat) (fn : Fn) : Prop where
  run : ∀ (A : Around) (outer : List Env) (s : Shared) (H : Hp) (a : Addr) (vs : List V) (ds : List D) (Z : Addr → Prop) (Q : VK) (E : XK), RoomG g n A → Env0 P w K mg base A outer s H → CloAt G (Sof Z [] []) H k a vs → RpL G (Sof Z [] []) H ds vs →
    D.ncL ds = true → Rep G Z [] H [] → PoF G Z E [] [] H (fn (ds.map .d) []) Q → codeAny (model P w) A (.call (.ref a) ⟨[], []⟩) (CR (L2.CX P w) outer P w H s Q E) s
theorem rdS_ret {W : WX} {m : Sm U} {D : Ends} {σ : L2.St} (h : rdS G W (sRet m) D σ H) : rdE G W m σ H D.rt := by
  obtain ⟨Z, φ, ρ, μ, sr, po⟩ := h
  refine rd_mono (pos_step (R1 := RpU G) sr po) fun x H1 ⟨φ1, μ1, u, g1, sr1, ru, po1⟩ => ?_
  exact po1 φ1 H1 x Go.refl sr1.rep ru
theorem lam_ok {n k : Nat} {m : Sm U} {fresh : Bool} (F : LamF (G.lam k))
    (hbody : ∀ (A : Around) (outer : List Env) (s : Shared) (H : Hp) (E : XK) (f c' : Addr) (clo : List (Str × Addr)), RoomG g n (A.deeper (cloEnv (G.lam k) clo s.heap.objs.size f c')) →
      PE (cloCx P w K mg base (G.lam k) clo f c' A outer s H E) (G.lam k).body (rdE G (fun cls d _ H => E cls d H) m)) : LamOk g G P w K mg base (n + 1) k (entry (G.lam k).caps.length fresh (sRet m)) := by
  refine ⟨fun A outer s H a vs ds Z Q E hr e0 hclo rl nc rep po => ?_⟩
  obtain ⟨c', pm, ctv, fo, clo, nSa, ea, efo, nSc, ec, CF, CRr⟩ := hclo
  have lc := clo_lent CRr
  obtain ⟨ofa, _⟩ := e0.hok a _ ea
  subst efo
  obtain ⟨⟨oc, ws, t, hoc, hdc, hvc⟩, _, _⟩ := e0.hok c' _ ec
  have hlen : vs.length = (G.lam k).caps.length := cellsR_len CRr
  have repm : Rep G Z [] (less (lentB (G.lam k).caps clo) H) [] := by
    refine ⟨rfl, fun n m a o u h => (by cases h), fun n a o h => (by cases h), fun b hb => ?_, fun n a o h => (by cases h), tabs_less lc rep.tab⟩
    obtain ⟨o, e, nt⟩ := rep.res b hb
    refine ⟨o, ?_, nt⟩
    rw [less_out]
    · exact e
    · cases q : lentB (G.lam k).caps clo b with
      | false => rfl
      | true =>
        obtain ⟨i, x, hi, hx⟩ := lentB_of q
        obtain ⟨v, c2, o2, u, _, e2, nS, _⟩ := cellsR_at CRr hi
        rw [hx] at e2
        cases e2
        exact absurd (.inl hb) nS
  have sp : spD G (entry (G.lam k).caps.length fresh (sRet m)) (G.lam k).caps.length vs (less (lentB (G.lam k).caps clo) H) (fun v H' => (∀ c, lentB (G.lam k).caps clo c = true → H' c = none) → Q v (more (lentB (G.lam k).caps clo) H H'))
      (fun cls d H' => (∀ c, lentB (G.lam k).caps clo c = true → H' c = none) → E cls d (more (lentB (G.lam k).caps clo) H H')) := ⟨hlen, Z, [], [], ds.map .d, repm, (RpL.less lc nc rl).us, poF_more po⟩
  have hb := rdS_ret (entry_ok sp)
  have st : L2.start (G.lam k).caps vs = vs.map some := by
    unfold L2.start
    rw [hlen, Nat.sub_self, List.replicate_zero, List.append_nil]
  rw [st] at hb
  have rc : codeAny (model P w) A (.call (.ref a) ⟨[], []⟩) (CR (L2.CX P w) outer P w (less (lentB (G.lam k).caps clo) H) s (fun v H' => (∀ c, lentB (G.lam k).caps clo c = true → H' c = none) → Q v (more (lentB (G.lam k).caps clo) H H'))
      (fun cls d H' => (∀ c, lentB (G.lam k).caps clo c = true → H' c = none) → E cls d (more (lentB (G.lam k).caps clo) H H'))) s := by
    refine PySem.W.kla_callFunE hr.rm.depth ofa rfl F.co F.gen rfl ⟨c', oc, ws, t, rfl, hoc, hdc, hvc⟩ ?_
    rw [F.bind]
    have lim : s.heap.NoLimit := e0.mod.nolimit.keeps fun b o e => (e0.bs b o e).1
    refine wpAny_pure (wpAny_newFunctionEnv (fun y hy => (F.own y hy).2) (fun y hy => absurd hy (by simp)) (fun h₁ hns hsb => ⟨lim.fresh _ hsb, ?_⟩) F.kind)
    show codeAny _ _ (.expr (G.lam k).body (cloEnv (G.lam k) clo s.heap.objs.size a c')) _ _
    have kp : ∀ b o, s.heap.get? b = some o → h₁.get? b = some o := fun b o e => hsb.extBut b o (Nat.ne_of_lt (Heap.lt_size e)) (Heap.get?_push_of_some _ e)
    have J := clo_start (f := a) (c' := c') (E := fun cls d H' => (∀ c, lentB (G.lam k).caps clo c = true → H' c = none) → E cls d (more (lentB (G.lam k).caps clo) H H')) (tk := s.toks + ([] : List (Str × Value)).length) F CF CRr e0 hr.rm.hd hns kp
    refine PySem.W.kla_codeExpr (wpAny_mono ((hbody _ _ s _ _ a c' clo (hr.deeper _)).run [] _ _ _ _ J hb) (fun v s' hq => ?_) fun e s' hq => hq)
    obtain ⟨w', H', J', rv, q⟩ := hq
    exact ⟨w', H', J'.os, J'.bare, J'.base, J'.hok, rv, q⟩
  refine codeAny_mono rc fun r s' hq => ?_
  cases r with
  | error e => exact cx_more lc e0.hok e0.frf hq
  | ok fl =>
    cases fl with
    | ret u => exact ce_more lc e0.hok e0.frf hq
    | next => exact False.elim hq
    | brk => exact False.elim hq
    | cont => exact False.elim hq
end
/-! ### x(), x a lambda -/
theorem rep_all {G : Gc} {Z : Addr → Prop} {φ : List Addr} {μ : Mu} {H : Hp} (r : Rep G Z φ H μ) : Rep G (Sof Z φ μ) [] H [] := by
  refine ⟨rfl, fun n m a o u h => (by cases h), fun n a o h => (by cases h), fun b hb => ?_, fun n a o h => (by cases h), r.tab⟩
  rcases hb with hb | ⟨n, ob, h1, h2, h3⟩
  · exact r.res b hb
  · have q := r.at_ n b ob h1 h2
    cases ob with
    | fz x => cases h3
    | lst us => obtain ⟨vs, e, _⟩ := q; exact ⟨_, e, nr_lst⟩
    | dic ks us => obtain ⟨vs, e, _⟩ := q; exact ⟨_, e, nr_dK⟩
    | dit ks us => obtain ⟨vs, e, _⟩ := q; exact ⟨_, e, nr_dT⟩
    | ins c ns us => obtain ⟨dx, vs, e, _⟩ := q; exact ⟨_, e, nr_ins⟩
theorem sof_nil {Z : Addr → Prop} {μ : Mu} {a : Addr} (h : Sof Z [] μ a) : Z a := h.elim (fun z => z) fun ⟨n, ob, h1, _⟩ => by cases h1
theorem ex_all {Z : Addr → Prop} {φ : List Addr} {μ : Mu} {H : Hp} : Ex (Sof Z φ μ) H (Sof (Sof Z φ μ) [] []) H := ⟨fun a o h n _ => ⟨h, fun z => n (sof_nil z)⟩⟩
/-- behind a call that was handed nothing that may change -/
theorem all_back {G : Gc} {Z : Addr → Prop} {φ : List Addr} {μ μ' : Mu} {H H' : Hp} (r : Rep G Z φ H μ) (g : Go (Sof Z φ μ) [] [] H [] μ' H') (r' : Rep G (Sof Z φ μ) [] H' μ') : Go Z φ μ H φ μ H' ∧ Rep G Z φ H' μ := by
  have go : Go Z φ μ H φ μ H' := ⟨fun _ _ h => h, ⟨fun a o h n t => by
      obtain ⟨k1, k2⟩ := g.ex.keep a o h (fun z => n (sof_nil z)) t
      exact ⟨k1, fun z => k2 (.inl z)⟩⟩, fun a h => g.rs a (.inl h)⟩
  refine ⟨go, r.len, r.one, fun n a ob h1 h2 => (r.at_ n a ob h1 h2).mono go fun l o e => ?_, fun a h => ?_, r.apart, r'.tab⟩
  · rw [g.rs a (.inr ⟨n, ob, h1, h2, l⟩)]; exact e
  · obtain ⟨o, e, nt⟩ := r.res a h
    exact ⟨o, by rw [g.rs a (.inl h)]; exact e, nt⟩
/-- what comes back from a call that was handed nothing that may change -/
def retX : FR → Mu → Res U
  | .ok (.d d) [] none, μ => .ok (.d d) μ
  | .err c ns vs [], μ => .err c ns vs μ
  | _, _ => .bad
def vClo (LM : Nat → Fn) (i : Nat) : Sm U := fun ρ μ => match ρ[i]? with
  | some (some (.d (.clo k ds))) => if D.ncL ds = true then retX (LM k (ds.map .d) []) μ else .bad
  | _ => .bad
theorem retX_poF {G : Gc} {Z : Addr → Prop} {W : WX} {φ : List Addr} {μ : Mu} {H : Hp} {σ : L2.St} {Q : VK} {r : FR} (rp : Rep G Z φ H μ) (po : Po (RpU G) G Z W φ μ H σ (retX r μ) Q) : PoF G (Sof Z φ μ) (fun cls dx H' => W cls dx σ H') [] [] H r Q := by
  unfold retX at po
  split at po
  · intro H' v g r' rv
    obtain ⟨g2, r2⟩ := all_back rp g r'
    exact po φ H' v g2 r2 (Rp.mono (S' := Sof Z φ _) (H' := H') ⟨fun a o h n _ => ⟨h, fun z => n (.inl z)⟩⟩ rv)
  · intro H' cls dx g r' er
    obtain ⟨g2, r2⟩ := all_back rp g r'
    exact po φ H' cls dx g2 r2 (er.mono (S' := Sof Z φ _) (H' := H') ⟨fun a o h n _ => ⟨h, fun z => n (.inl z)⟩⟩)
  · exact False.elim po
section
variable {g g' : Bool} {G : Gc} {X : Cx} {W : WX} {i n : Nat} {x : Str} {p1 p2 : Pos} {LM : Nat → Fn}
theorem i_clo (hL : ∀ k, LamOk g' G X.prog X.w X.K X.mg X.base n k (LM k)) (hr : RoomG g n X.A) (gg : g' = true → g = true) (tk : Takes X W) (hN : X.N[i]? = some x) (hv : Vis X.env.scope x) (hd : (x == ("__debug__" : Str)) = false := by decide) (hcd : (x == ("__classdict__" : Str)) = false := by decide) :
    PE X (.Call (.Name x p1) [] [] p2) (rdE G W (vClo LM i)) := by
  refine ⟨fun pins s σ H Q I ⟨Z, φ, ρ, μ, sr, po⟩ => ?_⟩
  unfold vClo at po
  split at po
  · rename_i k ds hρ
    split at po
    · rename_i hnc
      obtain ⟨y, hσ, rv⟩ := sr.sl.get hρ
      obtain ⟨a, c', pm, ctv, fo, clo, vs, rfl, nSa, ea, efo, nSc, ec, CF, CRr, rl⟩ := rv
      refine wpAny_Call_Name_kw (thn ((pe_var (pos := p1) (i := i) hN hv hd hcd).run pins s σ H (fun v H1 => v = .ref a ∧ H1 = H) I ⟨.ref a, hσ, rfl, rfl⟩) fun u s1 ⟨v, H1, I1, r1, q1⟩ => ?_)
      obtain ⟨ev, eH⟩ := q1
      subst ev
      rw [eH] at I1
      obtain rfl : u = Value.ref a := r1
      obtain ⟨ofa, _⟩ := I1.hok a _ ea
      have ofa' := ofa
      rw [efo] at ofa'
      refine PySem.W.callWith_F0 ⟨_, _, _, _, ofa'⟩ ?_
      have e := ex_all (Z := Z) (φ := φ) (μ := μ) (H := H)
      have ca : CloAt G (Sof (Sof Z φ μ) [] []) H k a vs := ⟨c', pm, ctv, fo, clo, fun z => nSa (sof_nil z), ea, efo, fun z => nSc (sof_nil z), ec, CF, CRr.mono e⟩
      refine wpAny_call (codeAny_mono ((hL k).run X.A X.stack s1 H a vs ds (Sof Z φ μ) Q (fun cls dx H' => W cls dx σ H') (hr.weak gg) I1.env0 ca (RpL.mono e rl) hnc (rep_all sr.rep) (retX_poF sr.rep po)) fun r s' hq => ?_)
      cases r with
      | error e => exact passAt tk σ pins H s1 e s' I1 hq
      | ok fl =>
        cases fl with
        | ret u => exact I1.after hq
        | next => exact False.elim hq
        | brk => exact False.elim hq
        | cont => exact False.elim hq
    · exact False.elim po
  · exact False.elim po
end
end Iv
set_option Elab.async false
set_option linter.all false
set_option maxRecDepth 100000
set_option maxHeartbeats 2000000
set_option autoImplicit false
/-! Iv, part O: lambdas made, handed to a call. -/
namespace Iv
open PySem PySem.Spec PyProof.Rows L2 LamX
section
variable {X : Cx} {pins : List (Addr × Obj)} {σ : L2.St} {H : Hp} {s : Shared}
/-- a lambda is made: its object is new, and tracked -/
theorem lam_make3 {T : List (Addr × Str)} {c P : Addr} {params : Arguments} {body : Expr} {scope : Scope} {pos : Pos} {E : Value → Shared → Prop} {Q : Value → Shared → Prop} (I : L2.Inv X pins σ H s) (TB : TabB X.base X.mg c P) (hcode : X.env.code = .ref c)
    (hm : (P, X.env.qual ++ "<lambda>") ∈ T) (hu : ∀ p ∈ T, p.1 = P → p.2 = X.env.qual ++ "<lambda>") (hT : Tabs T H) (hdef : defaultsOf params X.env = ([], [])) (hfree : ∀ y ∈ scope.names, y.2 = .free → ∃ c, X.env.cells.lookup y.1 = some c)
    (h : ∀ (f c' : Addr) (pm ctv : Value) (H1 : Hp) (s' : Shared), L2.Inv X pins σ H1 s' → ExtN H H1 → Tabs T H1 → H f = none → H c' = none ∨ H c' = some (CodeO c' (X.env.qual ++ "<lambda>")) →
      H1 f = some (.frz (PySem.W.kla_obj "<lambda>" (X.env.qual ++ "<lambda>") params body scope (cloFrom X.env.cells scope.names []) pm c' ctv) (.own f)) → H1 c' = some (CodeO c' (X.env.qual ++ "<lambda>")) → Q (.ref f) s') :
    wpAny (model X.prog X.w) X.A (eval (.Lambda params body scope pos) X.env) Q E s := by
  obtain ⟨ps, hP, ht, ha⟩ := hT _ hm
  refine PySem.W.kla_eval hdef ?_
  have bP : s.heap.BuiltinsAt X.mg P := TB.bm.keeps I.bk
  have hP' : s.heap.get? P = some { cls := .none, data := .fields ps } := I.hok P _ hP
  have lay : ∀ {H1 : Hp} {h' : Heap} {tk tk2 : Tok} {fo : Obj} , L2.Inv X pins σ H1 { s with heap := h', toks := tk } → (h'.push fo).get? h'.objs.size = some fo → L2.Inv X pins σ (upd H1 h'.objs.size (.frz fo (.own h'.objs.size))) { s with heap := h'.push fo, toks := tk2 } := fun {H1 h' tk tk2 fo} J hf =>
    J.laid (h' := h'.push fo) (t' := tk2) (fun b o e => Heap.get?_push_of_some _ e) (Nat.le_refl _) ⟨hf, ⟨fo, hf⟩⟩
  have grow : ∀ {H1 : Hp} {f : Addr} {o : HO}, H1 f = none → ∀ b u, H1 b = some u → upd H1 f o b = some u := fun {H1 f o} hn b u e => by rw [upd_ne (ne_of_none e hn)]; exact e
  cases hc : codeAmong pos ps.toList with
  | none =>
    refine PySem.W.kla_makeFunction (mg := X.mg) (c := c) (P := P) (ps := ps) (closure_ok hfree) I.ok.glob (I.mod.glob.keeps I.bk) hcode (TB.code.keeps I.bk) hP' ht hc TB.gP bP fun c' ctv h' tk hx hge hlt hrec htb => ?_
    obtain ⟨c2, oc, vs, t, e2, hoc, hd, hv⟩ := hrec
    cases e2
    have hsz : s.heap.objs.size ≤ h'.objs.size := Nat.le_trans hge (Nat.le_of_lt hlt)
    have nC : H c' = none := I.hok.fresh hge
    have I1 := inv_table (t' := tk) (more := #[rawInt pos.line, rawInt pos.col, .ref c']) (h' := h') I hP (fun b o hb e => hx b o hb e) htb hge ⟨oc, vs, t, hoc, hd, hv⟩
    have hE : ExtN H (upd (upd H P (.tbl (ps ++ #[rawInt pos.line, rawInt pos.col, .ref c']))) c' (CodeO c' (X.env.qual ++ "<lambda>"))) := fun b o e n => by
      rw [upd_ne (ne_of_none e nC), upd_ne (fun z => n ps (Option.some.inj (e.symm.trans (by rw [z]; exact hP))))]
      exact e
    have eL : (ps ++ #[rawInt pos.line, rawInt pos.col, .ref c']).toList = ps.toList ++ [rawInt pos.line, rawInt pos.col, .ref c'] := by simp
    have nF : upd (upd H P (.tbl (ps ++ #[rawInt pos.line, rawInt pos.col, .ref c']))) c' (CodeO c' (X.env.qual ++ "<lambda>")) h'.objs.size = none := I1.hok.fresh (Nat.le_refl _)
    have hT1 : Tabs T (upd (upd H P (.tbl (ps ++ #[rawInt pos.line, rawInt pos.col, .ref c']))) c' (CodeO c' (X.env.qual ++ "<lambda>"))) := fun p hp => by
      by_cases hb : p.1 = P
      · rw [hu p hp hb, hb]
        refine ⟨_, by rw [upd_ne (ne_of_none hP nC), upd_same], by rw [eL]; exact PySem.TriplesOk_snoc _ _ _ _ ht, fun p' cv hcv => ?_⟩
        rw [eL] at hcv
        rcases among_app _ ht hcv with z | z
        · obtain ⟨c0, e1, e2⟩ := ha p' cv z
          exact ⟨c0, e1, hE _ _ e2 codeO_ne⟩
        · exact ⟨c', z, upd_same⟩
      · obtain ⟨ps', a1, a2, a3⟩ := hT p hp
        refine ⟨ps', by rw [upd_ne (ne_of_none a1 nC), upd_ne hb]; exact a1, a2, fun p' cv hcv => ?_⟩
        obtain ⟨c0, e1, e2⟩ := a3 p' cv hcv
        exact ⟨c0, e1, hE _ _ e2 codeO_ne⟩
    refine h h'.objs.size c' ((X.mg "__name__").getD .none) ctv _ _ (lay (tk2 := tk) I1 (Heap.get?_push_size _ rfl)) (ExtN.trans hE (ExtN.of (grow nF))) (hT1.ext (grow nF)) (I.hok.fresh hsz) (.inl nC) upd_same (grow nF _ _ upd_same)
  | some cv =>
    obtain ⟨c', e, hco⟩ := ha pos cv hc
    subst e
    refine PySem.W.kla_makeFunctionHit (mg := X.mg) (c := c) (P := P) (ps := ps) (closure_ok hfree) I.ok.glob (I.mod.glob.keeps I.bk) hcode (TB.code.keeps I.bk) hP' ht hc bP fun ctv h' tk hx hsz => ?_
    have I1 : L2.Inv X pins σ H { s with heap := h', toks := tk } := I.kept fun b o e => hx b o e
    have nF : H h'.objs.size = none := I.hok.fresh hsz
    exact h h'.objs.size c' ((X.mg "__name__").getD .none) ctv _ _ (lay (tk2 := tk) I1 (Heap.get?_push_size _ rfl)) (ExtN.of (grow nF)) (hT.ext (grow nF)) nF (.inr hco) upd_same (grow nF _ _ hco)
end
section
variable {P : Program} {w : World} {K : PySem.W.Frag} {mg : Str → Option Value} {base : Heap} {G : Gc} {H Hc : Hp} {L : Addr → Bool}
/-- a call's end, the lent cells taken back -/
theorem ce_less {outer : List Env} {s s' : Shared} {Q : VK} {u : Value} (lcc : LentC L Hc) (fr : ∀ c, L c = true → H c = none) (hs : ∀ c o, L c = true → Hc c = some (.frz o (.own c)) → s.heap.get? c = some o)
    (h : CE outer P w (more L Hc H) s (fun v H' => (∀ c, L c = true → H' c = Hc c) ∧ Q v (less L H')) u s') : CE outer P w H s Q u s' := by
  obtain ⟨v, H', os, bare, un, hok, rv, hL, q⟩ := h
  have lc : LentC L H' := fun c hc => by
    obtain ⟨o, x, e, d⟩ := lcc c hc
    exact ⟨o, x, (hL c hc).trans e, d⟩
  have at_ : ∀ b, L b = true → ∃ o, s.heap.get? b = some o ∧ s'.heap.get? b = some o := fun b hb => by
    obtain ⟨o, x, e, d⟩ := lcc b hb
    obtain ⟨g, _⟩ := hok b _ ((hL b hb).trans e)
    exact ⟨o, hs b o hb e, g⟩
  have up : ∀ {b : Addr} {o : HO}, H b = some o → L b = false := fun {b o} e => by
    cases z : L b with
    | false => rfl
    | true => rw [fr b z] at e; cases e
  refine ⟨v, less L H', os, bare, ⟨fun b o e n hf hx => ?_, fun b o e n hf hx => ?_, fun b o e n hx => ?_, un.there, fun b xs e => ?_, fun b o x e => ?_, fun b ps e => ?_⟩, hok_less lc hok, rv, q⟩
  · cases hb : L b with
    | true =>
      obtain ⟨o', g1, g2⟩ := at_ b hb
      rw [e] at g1
      cases g1
      exact g2
    | false => exact un.keep b o e (by rw [more_out hb]; exact n) hf hx
  · cases hb : L b with
    | true =>
      obtain ⟨o', g1, g2⟩ := at_ b hb
      rw [e] at g1
      cases g1
      exact ⟨o.slots, g2⟩
    | false => exact un.slot b o e (by rw [more_out hb]; exact n) hf hx
  · cases hb : L b with
    | true => exact less_in hb
    | false => rw [less_out hb]; exact un.free b o e (by rw [more_out hb]; exact n) hx
  · rw [less_out (up e)]; exact un.tups b xs (by rw [more_out (up e)]; exact e)
  · rw [less_out (up e)]; exact un.frzs b o x (by rw [more_out (up e)]; exact e)
  · rw [less_out (up e)]; exact un.tbls b ps (by rw [more_out (up e)]; exact e)
theorem cx_less {outer : List Env} {s s' : Shared} {E : XK} {u : Value} (lcc : LentC L Hc) (fr : ∀ c, L c = true → H c = none) (hs : ∀ c o, L c = true → Hc c = some (.frz o (.own c)) → s.heap.get? c = some o)
    (h : L2.CX P w outer (more L Hc H) s (fun cls d H' => (∀ c, L c = true → H' c = Hc c) ∧ E cls d (less L H')) u s') : L2.CX P w outer H s E u s' := by
  obtain ⟨a, B, H', cls, d, eu, fl, hok, ub, na, os, bare, hL, q⟩ := h
  have lc : LentC L H' := fun c hc => by
    obtain ⟨o, x, e, d⟩ := lcc c hc
    exact ⟨o, x, (hL c hc).trans e, d⟩
  have at_ : ∀ b, L b = true → ∃ o, s.heap.get? b = some o ∧ B.get? b = some o := fun b hb => by
    obtain ⟨o, x, e, d⟩ := lcc b hb
    obtain ⟨g, _⟩ := hok b _ ((hL b hb).trans e)
    exact ⟨o, hs b o hb e, g⟩
  have up : ∀ {b : Addr} {o : HO}, H b = some o → L b = false := fun {b o} e => by
    cases z : L b with
    | false => rfl
    | true => rw [fr b z] at e; cases e
  refine ⟨a, B, less L H', cls, d, eu, fl, hok_less lc hok, ⟨fun b o e n hf => ?_, ub.slot, fun b o e n => ?_, ub.there, fun b xs e => ?_, fun b o x e => ?_, fun b ps e => ?_⟩, ?_, os, bare, q⟩
  · cases hb : L b with
    | true =>
      obtain ⟨o', g1, g2⟩ := at_ b hb
      rw [e] at g1
      cases g1
      exact g2
    | false => exact ub.keep b o e (by rw [more_out hb]; exact n) hf
  · cases hb : L b with
    | true => exact less_in hb
    | false => rw [less_out hb]; exact ub.free b o e (by rw [more_out hb]; exact n)
  · rw [less_out (up e)]; exact ub.tups b xs (by rw [more_out (up e)]; exact e)
  · rw [less_out (up e)]; exact ub.frzs b o x (by rw [more_out (up e)]; exact e)
  · rw [less_out (up e)]; exact ub.tbls b ps (by rw [more_out (up e)]; exact e)
  · cases hb : L a with
    | true => exact less_in hb
    | false => rw [less_out hb]; exact na
end
/-! ### f(lambda: .., e, ..) -/
def capU (ρ : Rho) : List Nat → Option (List U)
  | [] => some []
  | j :: js => match ρ[j]? with
    | some (some u) => (capU ρ js).map fun us => u :: us
    | _ => none
/-- what comes back from a call that was lent cells -/
def retY : FR → Mu → Res U
  | .ok (.d d) [] none, μ => if d.nc = true then .ok (.d d) μ else .bad
  | .err c ns vs [], μ => if D.ncL vs = true then .err c ns vs μ else .bad
  | _, _ => .bad
def vCallLam (fn : Fn) (k : Nat) (js : List Nat) (n : Nat) (ix : List Nat) (ds : List D) (m : Sm (List U)) : Sm U := fun ρ μ => (m ρ μ).bind fun us μ1 => match capU ρ js with
  | none => .bad
  | some cs => match frzL (cs ++ us) μ1 with
    | none => .bad
    | some (xs, μ2) => if us.length + 1 = n ∧ D.ncL (xs.take js.length) = true then retY (fn ((ixL ix ((.clo k (xs.take js.length) :: xs.drop js.length) ++ ds)).map .d) []) μ2 else .bad
/-- a closure's object and its code -/
def CloB (G : Gc) (S : Addr → Prop) (H : Hp) (k : Nat) (clo : List (Str × Addr)) (a : Addr) : Prop := ∃ (c' : Addr) (pm ctv : Value), ¬ S a ∧
  H a = some (.frz (PySem.W.kla_obj "<lambda>" (G.lam k).qual (G.lam k).params (G.lam k).body (G.lam k).scope clo pm c' ctv) (.own a)) ∧ ¬ S c' ∧ H c' = some (LamX.CodeO c' (G.lam k).qual)
section
variable {g g' : Bool} {G : Gc} {X : Cx} {W : WX} {k n lk : Nat} {f : Addr} {fd : FuncData} {ps : List Str} {fn : Fn} {ix js : List Nat} {ds : List D} {x : Str} {p pos pos2 : Pos} {es : List Expr} {m : Sm (List U)}
theorem CloB.mono {S S' : Addr → Prop} {H H' : Hp} {clo : List (Str × Addr)} {a : Addr} (e : Ex S H S' H') (h : CloB G S H k clo a) : CloB G S' H' k clo a := by
  obtain ⟨c', pm, ctv, h1, h2, h3, h4⟩ := h
  exact ⟨c', pm, ctv, (e.keep a _ h2 h1 nt_frz).2, (e.keep a _ h2 h1 nt_frz).1, (e.keep c' _ h4 h3 nt_code).2, (e.keep c' _ h4 h3 nt_code).1⟩
theorem capU_ok {φ : List Addr} {S : Addr → Prop} {H : Hp} {ρ : Rho} {σ : L2.St} (sl : Sls G φ S H ρ σ) : ∀ {js : List Nat} {cs : List U}, capU ρ js = some cs → ∃ vs, RpUs G φ S H cs vs ∧ vs.length = js.length ∧ ∀ (i j : Nat), js[i]? = some j → ∃ v, vs[i]? = some v ∧ σ[j]? = some (some v)
  | [], _, h => by cases h; exact ⟨[], rfl, rfl, fun i j h => by cases h⟩
  | j :: js, cs, h => by
    unfold capU at h
    split at h
    · rename_i u hu
      obtain ⟨us, h1, rfl⟩ := Option.map_eq_some_iff.mp h
      obtain ⟨vs, q1, q2, q3⟩ := capU_ok sl h1
      obtain ⟨v, e1, e2⟩ := sl.get hu
      refine ⟨v :: vs, ⟨v, vs, rfl, e2, q1⟩, congrArg Nat.succ q2, fun i j' hi => ?_⟩
      cases i with
      | zero => cases hi; exact ⟨v, rfl, e1⟩
      | succ i => exact q3 i j' hi
    · cases h
theorem RpL.split {S : Addr → Prop} {H : Hp} : ∀ {xs : List D} {as bs : List V}, RpL G S H xs (as ++ bs) → RpL G S H (xs.take as.length) as ∧ RpL G S H (xs.drop as.length) bs
  | xs, [], bs, h => by exact ⟨rfl, h⟩
  | [], a :: as, bs, h => by cases (show (a :: as) ++ bs = [] from h)
  | x :: xs, a :: as, bs, ⟨v, r, e, q1, q2⟩ => by
    have e1 : a = v ∧ as ++ bs = r := by injection e with e1 e2; exact ⟨e1, e2⟩
    obtain ⟨e1, e2⟩ := e1
    subst e1; subst e2
    obtain ⟨z1, z2⟩ := RpL.split q2
    exact ⟨⟨a, as, rfl, q1, z1⟩, z2⟩
theorem cellsR_mk {S : Addr → Prop} {H : Hp} {clo : List (Str × Addr)} : ∀ {xs : List Str} {vs : List V}, vs.length = xs.length → (∀ (i : Nat) (y : Str), xs[i]? = some y → ∃ v c o u, vs[i]? = some v ∧ clo.lookup y = some c ∧ ¬ S c ∧ H c = some (.frz o (.own c)) ∧ o.data = .cell (some u) ∧ RelV v u) → CellsR S H clo xs vs
  | [], vs, hl, _ => List.eq_nil_of_length_eq_zero hl
  | y :: xs, [], hl, _ => nomatch hl
  | y :: xs, v :: vs, hl, h => by
    obtain ⟨v', c, o, u, e1, e2, e3, e4, e5, e6⟩ := h 0 y rfl
    cases e1
    exact ⟨v, vs, c, o, u, rfl, e2, e3, e4, e5, e6, cellsR_mk (Nat.succ.inj hl) fun i z hz => h (i + 1) z hz⟩
/-- f(lambda: .., e, ..), names captured: cells of this frame -/
theorem i_callLam {c P : Addr} (F : FnG g' G X.prog X.w X.K X.mg X.base k f fd ps fn) (hr : RoomG g k X.A) (gg : g' = true → g = true) (hg : Gl X x) (hm : X.mg x = some (.ref f)) (hk : PySem.W.keepIn X.K (.ref f) = true) (hb : BindA G X.K fd ps n [] ix ds) (tk : Takes X W)
    (hq : (G.lam lk).qual = X.env.qual ++ "<lambda>") (LF : LamF (G.lam lk)) (TB : TabB X.base X.mg c P) (hcode : X.env.code = .ref c) (hT : (P, X.env.qual ++ "<lambda>") ∈ G.T) (hu : ∀ p ∈ G.T, p.1 = P → p.2 = X.env.qual ++ "<lambda>")
    (hcl : ∀ y ∈ (G.lam lk).caps, X.env.scope.names.lookup y = some .cell) (hjs : ∀ (i : Nat) (y : Str), (G.lam lk).caps[i]? = some y → ∃ j : Nat, js[i]? = some j ∧ X.N[j]? = some y) (hjl : js.length = (G.lam lk).caps.length) (hfn : ∀ y ∈ (G.lam lk).caps, X.fn y = true)
    (ha : PA X es (rdA G W m)) (hdef : defaultsOf (G.lam lk).params X.env = ([], []) := by rfl) (hl : ix.length = ps.length := by decide) (hix : ix.all (· < n + 0 + ds.length) = true := by decide) (hdb : (x == ("__debug__" : Str)) = false := by decide)
    (he : starEach (.Lambda (G.lam lk).params (G.lam lk).body (G.lam lk).scope pos2 :: es) X.env = (false, eval (.Lambda (G.lam lk).params (G.lam lk).body (G.lam lk).scope pos2) X.env) :: starEach es X.env := by rfl) (hpl : (backTo pos (starEach es X.env)).any (·.1) = false := by rfl) :
    PE X (.Call (.Name x p) (.Lambda (G.lam lk).params (G.lam lk).body (G.lam lk).scope pos2 :: es) [] pos) (rdE G W (vCallLam fn lk js n ix ds m)) := by
  refine ⟨fun pins s σ H Q I h => ?_⟩
  refine wpAny_Call_Name_kw (ld_glob I hg hm ?_ hdb)
  obtain ⟨clo, eclo⟩ : ∃ clo, clo = cloFrom X.env.cells (G.lam lk).scope.names [] := ⟨_, rfl⟩
  have hcell : ∀ y ∈ (G.lam lk).caps, ∃ c, X.env.cells.lookup y = some c := fun y hy => I.ok.has y (.inl (hcl y hy))
  have hfree : ∀ y ∈ (G.lam lk).scope.names, y.2 = .free → ∃ c, X.env.cells.lookup y.1 = some c := fun y hy e => hcell _ (LF.free y hy e)
  have cm : ∀ {y c}, clo.lookup y = some c → y ∈ (G.lam lk).caps ∧ X.env.cells.lookup y = some c := fun {y c} e => by
    rw [eclo] at e
    rcases cloFrom_mem (PySem.mem_of_lookup e) with hm | ⟨h1, h2⟩
    · cases hm
    · have hy := LF.free _ h1 rfl
      obtain ⟨c1, hc⟩ := hcell _ hy
      have hc : X.env.cells.lookup y = some c1 := hc
      have e2 : c = c1 := by rw [h2, hc] <;> rfl
      exact ⟨hy, by rw [e2]; exact hc⟩
  have look : ∀ {y}, y ∈ (G.lam lk).caps → ∃ c, clo.lookup y = some c ∧ X.env.cells.lookup y = some c := fun {y} hy => by
    have hm : (y, NameKind.free) ∈ (G.lam lk).scope.names := PySem.mem_of_lookup (LF.all y hy)
    obtain ⟨c, hc⟩ := mem_lookup (cloFrom_has (cells := X.env.cells) (acc := []) hm)
    rw [← eclo] at hc
    exact ⟨c, hc, (cm hc).2⟩
  have CF : CloF (G.lam lk).caps clo := ⟨fun y c e => (cm e).1, fun y z c e1 e2 => I.ok.inj y z c (cm e1).2 (cm e2).2⟩
  -- the arguments
  have h2 : tCons (fun σ H Q => LamX.Tabs G.T H ∧ ∀ (a c' : Addr) (pm ctv : Value) (H1 : Hp), ExtN H H1 → LamX.Tabs G.T H1 → H a = none → H c' = none ∨ H c' = some (LamX.CodeO c' (X.env.qual ++ "<lambda>")) →
        H1 a = some (.frz (PySem.W.kla_obj "<lambda>" (X.env.qual ++ "<lambda>") (G.lam lk).params (G.lam lk).body (G.lam lk).scope clo pm c' ctv) (.own a)) → H1 c' = some (LamX.CodeO c' (X.env.qual ++ "<lambda>")) → Q (.ref a) H1) (rdA G W m) σ H
      (fun vs H1 => ∃ (a : Addr) (ws : List V) (Z : Addr → Prop) (φ : List Addr) (ρ : Rho) (μ : Mu) (us : List U), vs = .ref a :: ws ∧ SR G Z φ H1 μ ρ σ ∧ RpUs G φ (Sof Z φ μ) H1 us ws ∧ CloB G (Sof Z φ μ) H1 lk clo a ∧
        Po (RpU G) G Z W φ μ H1 σ (match capU ρ js with
          | none => .bad
          | some cs => match frzL (cs ++ us) μ with
            | none => .bad
            | some (xs, μ2) => if us.length + 1 = n ∧ D.ncL (xs.take js.length) = true then retY (fn ((ixL ix ((.clo lk (xs.take js.length) :: xs.drop js.length) ++ ds)).map .d) []) μ2 else .bad) Q) := by
    obtain ⟨Z, φ, ρ, μ, sr, po⟩ := h
    refine ⟨sr.rep.tab, fun a c' pm ctv H1 ext tab na nc ea ec => ?_⟩
    have go : Go Z φ μ H φ μ H1 := ⟨fun _ _ h => h, ⟨fun b o e n t => ⟨ext b o e t, n⟩⟩, fun b hz => by
      obtain ⟨o, e, t⟩ := sr.rep.res b hz
      rw [e, ext b o e t.1]⟩
    have rep1 : Rep G Z φ H1 μ := ⟨sr.rep.len, sr.rep.one, fun n b ob h1 h2 => (sr.rep.at_ n b ob h1 h2).mono go fun l o e => by
        have q := sr.rep.at_ n b ob h1 h2
        cases ob with
        | fz x => cases l
        | lst us => obtain ⟨vs, e1, _⟩ := q; rw [e] at e1; cases e1; exact ext b _ e nt_lst
        | dic ks us => obtain ⟨vs, e1, _⟩ := q; rw [e] at e1; cases e1; exact ext b _ e nt_dK
        | dit ks us => obtain ⟨vs, e1, _⟩ := q; rw [e] at e1; cases e1; exact ext b _ e nt_dT
        | ins c ns us => obtain ⟨dx, vs, e1, _⟩ := q; rw [e] at e1; cases e1; exact ext b _ e nt_ins,
      fun b hz => by
        obtain ⟨o, e, t⟩ := sr.rep.res b hz
        exact ⟨o, ext b o e t.1, t⟩, sr.rep.apart, tab⟩
    have nS : ∀ {b : Addr}, H b = none → ¬ Sof Z φ μ b := fun {b} e z => by
      obtain ⟨o, ho⟩ := sr.rep.there z
      rw [e] at ho; cases ho
    have nSc : ¬ Sof Z φ μ c' := fun z => by
      rcases nc with nc | nc
      · exact nS nc z
      · rcases z with z | ⟨n, ob, h1, h2, h3⟩
        · obtain ⟨o, e, t⟩ := sr.rep.res c' z
          rw [nc] at e
          exact t.2 _ _ (Option.some.inj e).symm
        · have q := sr.rep.at_ n c' ob h1 h2
          cases ob with
          | fz x => cases h3
          | lst us => obtain ⟨vs, e1, _⟩ := q; rw [nc] at e1; unfold LamX.CodeO at e1; cases e1
          | dic ks us => obtain ⟨vs, e1, _⟩ := q; rw [nc] at e1; unfold LamX.CodeO at e1; cases e1
          | dit ks us => obtain ⟨vs, e1, _⟩ := q; rw [nc] at e1; unfold LamX.CodeO at e1; cases e1
          | ins c ns us => obtain ⟨dx, vs, e1, _⟩ := q; rw [nc] at e1; unfold LamX.CodeO at e1; cases e1
    have sr1 : SR G Z φ H1 μ ρ σ := sr.go go rep1
    have cb : CloB G (Sof Z φ μ) H1 lk clo a := ⟨c', pm, ctv, nS na, by rw [hq]; exact ea, nSc, by rw [hq]; exact ec⟩
    refine rd_mono (po_step (R1 := RpUs G) sr1 (Po.go go po)) fun ws H2 ⟨φ2, μ2, us, g2, sr2, rus, po2⟩ => ⟨a, ws, Z, φ2, ρ, μ2, us, rfl, sr2, rus, cb.mono g2.ex, po2⟩
  have peL : PE X (.Lambda (G.lam lk).params (G.lam lk).body (G.lam lk).scope pos2) (fun σ H Q => LamX.Tabs G.T H ∧ ∀ (a c' : Addr) (pm ctv : Value) (H1 : Hp), ExtN H H1 → LamX.Tabs G.T H1 → H a = none → H c' = none ∨ H c' = some (LamX.CodeO c' (X.env.qual ++ "<lambda>")) →
        H1 a = some (.frz (PySem.W.kla_obj "<lambda>" (X.env.qual ++ "<lambda>") (G.lam lk).params (G.lam lk).body (G.lam lk).scope clo pm c' ctv) (.own a)) → H1 c' = some (LamX.CodeO c' (X.env.qual ++ "<lambda>")) → Q (.ref a) H1) :=
    ⟨fun pins s σ H Q I ⟨tab, kk⟩ => lam_make3 I TB hcode hT hu tab hdef hfree fun f c' pm ctv H1 s' J ext tab1 na nc ea ec => ⟨.ref f, H1, J, rfl, kk f c' pm ctv H1 ext tab1 na nc (by rw [eclo]; exact ea) ec⟩⟩
  refine PySem.W.callWith_K (h₀ := X.base) I.ok.mod.kin hk (thn ((pa_cons peL ha he).run pos pins s σ H _ I h2) fun us s1 ⟨vs, H1, I1, r, q⟩ => ⟨I1.kIn, ?_⟩) he hpl
  obtain ⟨a, ws, Z, φ, ρ, μ, us', evs, sr, rus, cb, po⟩ := q
  subst evs
  split at po
  · exact False.elim po
  rename_i cs hcs
  split at po
  · exact False.elim po
  rename_i xs μ2 hfz
  split at po
  · rename_i hcond
    obtain ⟨hlen, hnc⟩ := hcond
    obtain ⟨cvs, q1, q2, q3⟩ := capU_ok sr.sl hcs
    obtain ⟨Fz, rl⟩ := frzL_ok hfz sr.rep (q1.app rus)
    obtain ⟨rl1, rl2⟩ := rl.split
    rw [q2] at rl1 rl2
    obtain ⟨L, eL⟩ : ∃ L, L = lentB (G.lam lk).caps clo := ⟨_, rfl⟩
    obtain ⟨Hc, eHc⟩ : ∃ Hc : Hp, Hc = fun b => (s1.heap.get? b).map fun o => .frz o (.own b) := ⟨_, rfl⟩
    have cellAt : ∀ (i : Nat) (y : Str), (G.lam lk).caps[i]? = some y → ∃ v c o u, cvs[i]? = some v ∧ clo.lookup y = some c ∧ X.env.cells.lookup y = some c ∧ s1.heap.get? c = some o ∧ o.data = .cell (some u) ∧ RelV v u := fun i y hi => by
      have hy := List.mem_of_getElem? hi
      obtain ⟨j, hj, hN⟩ := hjs i y hi
      obtain ⟨v, hv, hσ⟩ := q3 i j hj
      obtain ⟨mm, hn, hl2⟩ := I1.loc
      obtain ⟨u, rv, lk2⟩ := hl2 j y v hN hσ (.inr (.inl (hcl y hy)))
      obtain ⟨c, h1, h2⟩ := look hy
      rcases lk2 with ⟨k1, _⟩ | ⟨_, c2, k2, o, k3, k4⟩
      · have k1 : X.env.scope.names.lookup y = some .local := k1
        rw [hcl y hy] at k1
        cases k1
      · rw [h2] at k2
        cases k2
        exact ⟨v, c, o, u, hv, h1, h2, k3, k4, rv⟩
    have inL : ∀ c, L c = true → ∃ y o u, y ∈ (G.lam lk).caps ∧ X.env.cells.lookup y = some c ∧ s1.heap.get? c = some o ∧ o.data = .cell (some u) := fun c hc => by
      rw [eL] at hc
      obtain ⟨i, y, hi, hy⟩ := lentB_of hc
      obtain ⟨v, c2, o, u, _, e1, e2, e3, e4, _⟩ := cellAt i y hi
      rw [hy] at e1
      cases e1
      exact ⟨y, o, u, List.mem_of_getElem? hi, e2, e3, e4⟩
    have fr : ∀ c, L c = true → H1 c = none := fun c hc => by
      obtain ⟨y, o, u, _, e1, _⟩ := inL c hc
      exact I1.freeC y c e1
    have lcc : LentC L Hc := fun c hc => by
      obtain ⟨y, o, u, _, _, e2, e3⟩ := inL c hc
      exact ⟨o, u, by rw [eHc]; show (s1.heap.get? c).map _ = _; rw [e2]; rfl, e3⟩
    have hs : ∀ c o, L c = true → Hc c = some (.frz o (.own c)) → s1.heap.get? c = some o := fun c o _ e => by
      rw [eHc] at e
      obtain ⟨o', e1, e2⟩ := Option.map_eq_some_iff.mp (show (s1.heap.get? c).map (fun o => HO.frz o (.own c)) = some (.frz o (.own c)) from e)
      cases e2
      exact e1
    have new : ∀ c, L c = true → X.s_0.heap.objs.size ≤ c ∧ c ≠ X.env.locals := fun c hc => by
      obtain ⟨y, o, u, hy, e1, _⟩ := inL c hc
      exact ⟨I1.ok.cab y c (hfn y hy) e1, I1.cne y c e1⟩
    have e0 : Env0 X.prog X.w X.K X.mg X.base X.A X.stack s1 (more L Hc H1) := by
      have ev := I1.env0
      refine ⟨ev.frames, ev.mod, fun b o e => ⟨(ev.bs b o e).1, ?_⟩, ev.bsz, ev.funs, fun b hb => ?_, hok_more lcc I1.hok fr hs, ev.bare⟩
      · cases hb : L b with
        | false => rw [more_out hb]; exact (ev.bs b o e).2
        | true =>
          exact absurd (Nat.lt_of_lt_of_le (Heap.lt_size e) (Nat.le_trans I1.ok.bsz (new b hb).1)) (Nat.lt_irrefl _)
      · cases hb2 : L b with
        | false => rw [more_out hb2]; exact ev.frf b hb
        | true =>
          exfalso
          obtain ⟨h1, h2⟩ := new b hb2
          rcases List.mem_cons.mp (I1.stkSub _ hb) with e | e
          · exact h2 e
          · obtain ⟨_, o, ho, _⟩ := I1.ok.funs.mem e
            exact absurd (Nat.lt_of_lt_of_le (Heap.lt_size ho) h1) (Nat.lt_irrefl _)
    have repP : Rep G (Sof Z φ μ2) [] (more L Hc H1) [] := (rep_all Fz.rep).grow (more_grow fr)
    have eP : Ex (Sof Z φ μ2) H1 (Sof (Sof Z φ μ2) [] []) (more L Hc H1) := ex_all.trans (Go.grow (rep_all Fz.rep) (more_grow fr)).ex
    have rclo : Rp G (Sof (Sof Z φ μ2) [] []) (more L Hc H1) (.clo lk (xs.take js.length)) (.ref a) := by
      obtain ⟨c', pm, ctv, k1, k2, k3, k4⟩ := (cb.mono Fz.go.ex).mono eP
      refine ⟨a, c', pm, ctv, _, clo, cvs, rfl, k1, k2, rfl, k3, k4, CF, cellsR_mk (by rw [q2, hjl]) fun i y hi => ?_, RpL.mono eP rl1⟩
      obtain ⟨v, c, o, u, e1, e2, e3, e4, e5, e6⟩ := cellAt i y hi
      have hL : L c = true := by rw [eL]; exact lentB_mk (List.mem_of_getElem? hi) e2
      refine ⟨v, c, o, u, e1, e2, fun z => ?_, ?_, e5, e6⟩
      · obtain ⟨o2, ho2⟩ := Fz.rep.there (sof_nil z)
        rw [fr c hL] at ho2
        cases ho2
      · rw [more_in hL, eHc]
        show (s1.heap.get? c).map _ = _
        rw [e4]
        rfl
    obtain ⟨dvs, dus, r3, rd, to⟩ := hb.ex
    have rall : RpL G (Sof (Sof Z φ μ2) [] []) (more L Hc H1) ((.clo lk (xs.take js.length) :: xs.drop js.length) ++ ds) ((V.ref a :: ws) ++ dvs) := RpL.app ⟨.ref a, ws, rfl, rclo, RpL.mono eP rl2⟩ (rd _ _)
    have lws : ws.length + 1 = n := by rw [rus.length]; exact hlen
    have lxs : (xs.drop js.length).length = ws.length := (RpL.length rl2).symm
    have hn : (ixL ix ((V.ref a :: ws) ++ dvs)).length = ps.length := by
      rw [ixL_len, hl]
      rw [List.length_append, List.length_cons, lws, (rd (fun _ => False) (fun _ => none)).length]
      exact hix
    have hpo : PoF G (Sof Z φ μ2) (fun cls dx H' => (∀ c, L c = true → H' c = Hc c) ∧ W cls dx σ (less L H')) [] [] (more L Hc H1) (fn ((ixL ix ((.clo lk (xs.take js.length) :: xs.drop js.length) ++ ds)).map .d) []) (fun v H' => (∀ c, L c = true → H' c = Hc c) ∧ Q v (less L H')) := by
      have back : ∀ {H' : Hp}, Go (Sof Z φ μ2) [] [] (more L Hc H1) [] (obs []) H' → Rep G (Sof Z φ μ2) [] H' (obs []) → (∀ c, L c = true → H' c = Hc c) ∧ LentC L H' ∧ Go Z φ μ2 H1 φ μ2 (less L H') ∧ Rep G Z φ (less L H') μ2 ∧ Ex (Sof (Sof Z φ μ2) [] (obs [])) (less L H') (Sof Z φ μ2) (less L H') := fun {H'} g r' => by
        have k1 : ∀ c, L c = true → H' c = Hc c := fun c hc => by
          obtain ⟨o, u, e, _⟩ := lcc c hc
          have nS : ¬ Sof (Sof Z φ μ2) [] [] c := fun z => by
            obtain ⟨o2, ho2⟩ := Fz.rep.there (sof_nil z)
            rw [fr c hc] at ho2
            cases ho2
          rw [e]
          exact (g.ex.keep c _ (by rw [more_in hc]; exact e) nS nt_frz).1
        have k2 : LentC L H' := fun c hc => by
          obtain ⟨o, u, e, d⟩ := lcc c hc
          exact ⟨o, u, (k1 c hc).trans e, d⟩
        have up : ∀ {b : Addr} {o : HO}, H1 b = some o → L b = false := fun {b o} e => by
          cases z : L b with
          | false => rfl
          | true => rw [fr b z] at e; cases e
        have k3 : Go Z φ μ2 H1 φ μ2 (less L H') := ⟨fun _ _ h => h, ⟨fun b o e nS t => by
            obtain ⟨z1, z2⟩ := g.ex.keep b o (by rw [more_out (up e)]; exact e) (fun z => nS (sof_nil z)) t
            exact ⟨by rw [less_out (up e)]; exact z1, fun z => z2 (.inl z)⟩⟩, fun b hb => by
            obtain ⟨o, e, _⟩ := Fz.rep.res b hb
            rw [less_out (up e), g.rs b (.inl hb), more_out (up e)]⟩
        refine ⟨k1, k2, k3, ⟨Fz.rep.len, Fz.rep.one, fun n b ob h1 h2 => (Fz.rep.at_ n b ob h1 h2).mono k3 fun l o e => ?_, fun b hb => ?_, Fz.rep.apart, tabs_less k2 r'.tab⟩, ⟨fun b o e nS _ => ⟨e, fun z => nS (.inl z)⟩⟩⟩
        · rw [less_out (up e), g.rs b (.inr ⟨n, ob, h1, h2, l⟩), more_out (up e)]
          exact e
        · obtain ⟨o, e, t⟩ := Fz.rep.res b hb
          exact ⟨o, by rw [less_out (up e), g.rs b (.inl hb), more_out (up e)]; exact e, t⟩
      clear hq
      generalize fn ((ixL ix ((.clo lk (xs.take js.length) :: xs.drop js.length) ++ ds)).map .d) [] = fres at po
      unfold retY at po
      split at po
      · split at po
        · rename_i hd
          intro H' v g r' rv
          obtain ⟨k1, k2, k3, k4, k5⟩ := back g r'
          exact ⟨k1, po φ _ v (Fz.go.trans k3) k4 (Rp.mono k5 (Rp.less k2 hd rv))⟩
        · exact False.elim po
      · split at po
        · rename_i hd
          intro H' cls dx g r' er
          obtain ⟨k1, k2, k3, k4, k5⟩ := back g r'
          refine ⟨k1, po φ _ cls dx (Fz.go.trans k3) k4 ⟨er.1, er.2.elim (fun z => .inl z) fun ⟨d, ws, z1, z2, z3, z4, z5⟩ => .inr ⟨d, ws, z1, ?_, ?_, z4, RpL.mono k5 (RpL.less k2 hd z5)⟩⟩⟩
          · exact fun z => z2 (.inl z)
          · rw [less_out (k2.out z3 fun _ _ q => by cases q)]; exact z3
        · exact False.elim po
      · exact False.elim po
    have hsp : spD G fn ps.length (ixL ix ((V.ref a :: ws) ++ dvs)) (more L Hc H1) (fun v H' => (∀ c, L c = true → H' c = Hc c) ∧ Q v (less L H')) (fun cls dx H' => (∀ c, L c = true → H' c = Hc c) ∧ W cls dx σ (less L H')) :=
      ⟨hn, Sof Z φ μ2, [], [], _, repP, (rall.ixs ix).us, hpo⟩
    have lus : us.length = n := by rw [← r.length, List.length_cons]; exact lws
    have r2 : Vals (ixL ix ((V.ref a :: ws) ++ dvs)) (ixL ix (us ++ [] ++ dus)) := vals_ix ((by rw [List.append_nil]; exact r : Vals (V.ref a :: ws) (us ++ [])).append r3) ix
    refine wpAny_call (codeAny_mono (F.run X.A X.stack s1 (more L Hc H1) ⟨us, []⟩ _ _ _ _ (hr.weak gg) e0 (to s1 us [] I1.kIn lus rfl) r2 hsp) fun r s' hq => ?_)
    cases r with
    | error e => exact passAt tk σ pins H1 s1 e s' I1 (cx_less lcc fr hs hq)
    | ok fl =>
      cases fl with
      | ret u => exact I1.after (ce_less lcc fr hs hq)
      | next => exact False.elim hq
      | brk => exact False.elim hq
      | cont => exact False.elim hq
  · exact False.elim po
/-- .. the lambda as the text has it -/
theorem i_callLm {c P : Addr} {params : Arguments} {body : Expr} {scope : Scope} (e1 : params = (G.lam lk).params) (e2 : body = (G.lam lk).body) (e3 : scope = (G.lam lk).scope)
    (F : FnG g' G X.prog X.w X.K X.mg X.base k f fd ps fn) (hr : RoomG g k X.A) (gg : g' = true → g = true) (hg : Gl X x) (hm : X.mg x = some (.ref f)) (hk : PySem.W.keepIn X.K (.ref f) = true) (hb : BindA G X.K fd ps n [] ix ds) (tk : Takes X W)
    (hq : (G.lam lk).qual = X.env.qual ++ "<lambda>") (LF : LamF (G.lam lk)) (TB : TabB X.base X.mg c P) (hcode : X.env.code = .ref c) (hT : (P, X.env.qual ++ "<lambda>") ∈ G.T) (hu : ∀ p ∈ G.T, p.1 = P → p.2 = X.env.qual ++ "<lambda>")
    (hcl : ∀ y ∈ (G.lam lk).caps, X.env.scope.names.lookup y = some .cell) (hjs : ∀ (i : Nat) (y : Str), (G.lam lk).caps[i]? = some y → ∃ j : Nat, js[i]? = some j ∧ X.N[j]? = some y) (hjl : js.length = (G.lam lk).caps.length) (hfn : ∀ y ∈ (G.lam lk).caps, X.fn y = true)
    (ha : PA X es (rdA G W m)) (hdef : defaultsOf params X.env = ([], []) := by rfl) (hl : ix.length = ps.length := by decide) (hix : ix.all (· < n + 0 + ds.length) = true := by decide) (hdb : (x == ("__debug__" : Str)) = false := by decide)
    (he : starEach (.Lambda params body scope pos2 :: es) X.env = (false, eval (.Lambda params body scope pos2) X.env) :: starEach es X.env := by rfl) (hpl : (backTo pos (starEach es X.env)).any (·.1) = false := by rfl) :
    PE X (.Call (.Name x p) (.Lambda params body scope pos2 :: es) [] pos) (rdE G W (vCallLam fn lk js n ix ds m)) := by
  subst e1 e2 e3
  exact i_callLam F hr gg hg hm hk hb tk hq LF TB hcode hT hu hcl hjs hjl hfn ha hdef hl hix hdb he hpl
end
end Iv
set_option Elab.async false
set_option linter.all false
set_option maxRecDepth 100000
set_option maxHeartbeats 2000000
set_option autoImplicit false
/-! Iv, part P: defs by the head's facts. -/
namespace Iv
open PySem PySem.Spec PyProof.Rows L2

/-- the function object's data at a def's place -/
def fdAt (K : PySem.W.Frag) (a : Addr) : FuncData := match K.lookup a with
  | some ⟨_, _, .func fd, _⟩ => fd
  | _ => default
theorem fdAt_of {K : PySem.W.Frag} {x qual : Str} {params : Arguments} {body : List Stmt} {scope : Scope} {dvs : List V} {kws : List (Str × V)} {f : Addr} (h : ∃ fd, FunD K x qual params body scope dvs kws f fd) : FunD K x qual params body scope dvs kws f (fdAt K f) := by
  obtain ⟨fd, F⟩ := h
  have e : fdAt K f = fd := by
    obtain ⟨oc, od, dV, kV, doc, pm, an, cdv, ct, osl, rfl, lk, _⟩ := F.ex
    unfold fdAt
    rw [lk]
  rw [e]
  exact F
section
variable {P : Program} {w : World} {K : PySem.W.Frag} {mg : Str → Option Value} {base : Heap} {G : Gc} {x qual : Str} {params : Arguments} {body : List Stmt} {scope : Scope} {dvs : List V} {kws : List (Str × V)} {fd : FuncData} {N ps ks : List Str} {n k : Nat} {ix : List Nat}
theorem BindA.ofD {f : Addr} (F : FunD K x qual params body scope [] kws f fd)
    (h : ∀ (kV doc pm : Value) (an : Option Addr) (cdv ct : Value) (us ws : List Value), us.length = n → ws.length = ks.length → bindArgs (PySem.W.fnOf x qual params body scope .none kV doc pm an cdv ct) ⟨us, ks.zip ws⟩ = pure (ps.zip (ixL ix (us ++ ws)))) : BindA G K fd ps n ks ix [] := by
  obtain ⟨oc, od, dV, kV, doc, pm, an, cdv, ct, osl, rfl, lk, hcd, hD, hK⟩ := F.ex
  rcases hD with ⟨_, rfl⟩ | ⟨e, _⟩
  · exact ⟨[], [], .nil, fun _ _ => rfl, fun s us ws _ h1 h2 => .of_eq (by rw [List.append_nil]; exact h kV doc pm an cdv ct us ws h1 h2)⟩
  · exact absurd rfl e
/-- .. with defaults: ix counts the values, the keywords' values, all the defaults -/
theorem BindA.ofDD {f : Addr} {ds : List D} (F : FunD K x qual params body scope dvs kws f fd) (hd : dvs ≠ []) (hds : ∀ (S : Addr → Prop) (H : Hp), RpL G S H ds dvs)
    (h : ∀ (T : Addr) (kV doc pm : Value) (an : Option Addr) (cdv ct : Value) (us ws its : List Value), us.length = n → ws.length = ks.length → its.length = dvs.length →
      ∃ k, bindArgs (PySem.W.fnOf x qual params body scope (.ref T) kV doc pm an cdv ct) ⟨us, ks.zip ws⟩ = seqItems? (.ref T) >>= k ∧ k (some its.toArray) = pure (ps.zip (ixL ix (us ++ ws ++ its)))) : BindA G K fd ps n ks ix ds := by
  obtain ⟨oc, od, dV, kV, doc, pm, an, cdv, ct, osl, rfl, lk, hcd, hD, hK⟩ := F.ex
  rcases hD with ⟨e, _⟩ | ⟨_, T, o, its, m, rfl, lT, oT, rT⟩
  · exact absurd e hd
  · refine ⟨dvs, its, rT, hds, fun s us ws X l1 l2 => ?_⟩
    obtain ⟨k, e1, e2⟩ := h T kV doc pm an cdv ct us ws its l1 l2 rT.length.symm
    refine BindsTo.of_looks fun M => ?_
    rw [e1]
    exact looks_items X lT oT (.of_pure e2)
/-- A DEF'S PROMISE from its body -/
theorem FnG.of {g : Bool} {p : Str × Option Str} {fresh : Bool} {b : SmS} (F : FunD K x qual params body scope dvs kws (He.fAd K p) fd) (S : FnScope N ps scope)
    (hbody : ∀ (A : Around) (outer : List Env) (s : Shared) (H : Hp) (E : XK), RoomG g n (A.deeper (envOfC qual scope s.heap.objs.size (He.fAd K p) (.ref (He.codeOf K p)))) →
      PSs (cxOf (L2.CX P w) P w K mg base N qual scope (He.fAd K p) (.ref (He.codeOf K p)) A outer s H E) body (rdS G (fun cls d _ H => E cls d H) b)) : FnG g G P w K mg base (n + 1) (He.fAd K p) fd ps (entry N.length fresh b) := by
  obtain ⟨oc, od, dV, kV, doc, pm, an, cdv, ct, osl, rfl, lk, hcd, _, _⟩ := F.ex
  obtain ⟨c, rfl⟩ := He.codeIn_ref hcd
  obtain rfl : He.codeOf K p = c := He.codeOf_eq lk rfl
  constructor
  intro A outer s H args us vs Q E room e0 binds rv prom
  -- the text's own part of the heap, the recursion's limit: as they stood
  have old : ∀ a o, base.get? a = some o → s.heap.get? a = some o := fun a o h => (e0.bs a o h).1
  have kin := e0.mod.kin.keeps old
  -- a parameter is a name or a cell of the frame
  have pars : ∀ q ∈ ps.zip us, scope.names.lookup q.1 = some .local ∨ scope.names.lookup q.1 = some .cell ∧ ((cellsFrom (s.heap.objs.size + 1) scope.names []).lookup q.1).isSome = true := by
    rintro ⟨y, v⟩ hq
    exact (S.par y (List.of_mem_zip hq).1).imp id fun z => ⟨z, PySem.W.cellsFrom_some _ _ _ (.inl z)⟩
  apply codeAny_call_function room.rm.depth (kin _ _ lk) rfl S.co S.gen rfl (PySem.W.codeRec_of kin hcd)
  apply binds
  apply wpAny_newFunctionEnv_cells S.kind pars
  rintro env rfl s1 x1
  refine ⟨(e0.mod.nolimit.keeps old).keeps x1.toInCall.keep, ?_⟩
  apply codeAny_func
  have I := inv_start (CX := L2.CX P w) (E := E) S room.rm.hd e0 prom.1 rv x1
  refine wpAny_mono ((hbody A outer s H E (room.deeper _)).run [] s1 _ H _ I (entry_ok prom)) ?_ fun _ _ h => h
  rintro (_ | _ | _ | u) s' h
  · obtain ⟨σ', H', J, q⟩ := h
    exact ⟨.non, H', J.os, J.bare, J.base, J.hok, rfl, q⟩
  · obtain ⟨_, _, _, h⟩ := h
    exact False.elim h
  · obtain ⟨_, _, _, h⟩ := h
    exact False.elim h
  · obtain ⟨v, σ', H', J, r, q⟩ := h
    exact ⟨v, H', J.os, J.bare, J.base, J.hok, r, q⟩
theorem FnG.zero {g : Bool} {f : Addr} : FnG g G P w K mg base k f fd ps (fun _ _ => .bad) := ⟨fun A outer s H args us vs Q E hr e0 hb r ⟨_, Z, φ, os, us', _, _, po⟩ => False.elim po⟩
theorem LamOk.zero {g : Bool} {j : Nat} : LamOk g G P w K mg base k j (fun _ _ => .bad) := ⟨fun A outer s H a vs ds Z Q E hr e0 ca rl nc rep po => False.elim po⟩
end
/-! ### names -/
section
variable {G : Gc} {X : Cx} {W : WX} {pos : Pos}
theorem iv (i : Nat) {x : Str} (hN : X.N[i]? = some x := by rfl) (hv : Vis X.env.scope x := by first | exact Or.inl rfl | exact Or.inr (Or.inl rfl) | exact Or.inr (Or.inr rfl)) (hd : (x == ("__debug__" : Str)) = false := by decide) (hcd : (x == ("__classdict__" : Str)) = false := by decide) :
    PE X (.Name x pos) (rdE G W (vVar i)) := i_var hN hv hd hcd
theorem i_gstr {x z : Str} (hm : ∃ t, X.mg x = some (.str z t)) (hg : Gl X x := by rfl) (hd : (x == ("__debug__" : Str)) = false := by decide) : PE X (.Name x pos) (rdE G W (vC (.str z))) := by
  obtain ⟨t, e⟩ := hm
  exact i_glob (v := .str z) hg e ⟨t, rfl⟩ rfl hd
theorem i_gint {x : Str} {z : Int} (hm : ∃ t, X.mg x = some (.int z t)) (hg : Gl X x := by rfl) (hd : (x == ("__debug__" : Str)) = false := by decide) : PE X (.Name x pos) (rdE G W (vC (.int z))) := by
  obtain ⟨t, e⟩ := hm
  exact i_glob (v := .int z) hg e ⟨t, rfl⟩ rfl hd
/-- a built-in type's name, an own class's name: what isinstance is asked for -/
theorem e_ty {x : Str} {n : String} (hm : X.mg x = none) (hg : Gl X x := by rfl) (hv : bootBuiltins x = some (.type n) := by rfl) (hn : x ≠ "__name__" := by decide) (hd : (x == ("__debug__" : Str)) = false := by decide) : PE X (.Name x pos) (tC (.ty n)) := pe_bltn hg hm hv rfl hn hd
theorem e_cls {x : Str} {a : Addr} (hm : X.mg x = some (.ref a)) (hg : Gl X x := by rfl) (hd : (x == ("__debug__" : Str)) = false := by decide) : PE X (.Name x pos) (tC (.ref a)) := pe_glob hg hm rfl hd
theorem op_isX : OpR X (compareOp .Is) (fun x y H Q => (y = .non ∧ Q (.bl (decide (x = .non))) H) ∨ rIsB x y H Q) := op_isN.or op_isBl
theorem op_isnX : OpR X (compareOp .IsNot) (fun x y H Q => (y = .non ∧ Q (.bl (!decide (x = .non))) H) ∨ rNotB x y H Q) := op_notN.or op_notBl
end
/-! ### facts by a Bool -/
def oexB (K : PySem.W.Frag) (C : Addr) : Bool := (match K.lookup C with
  | some ⟨.type t, _, .cls cd, sl⟩ => (match cd.mro, sl.toList with
    | .ref C' :: bm, [_, _, _, _, some (.builtin n), _] => t == "type" && (C' == C && (n == "ValueError.__new__" && (!cd.hasDel && (cd.hasDict && PySem.HandSPX.refsVE bm))))
    | _, _ => false)
  | _ => false) && (He.eqO (PySem.W.findIn K (.ref C) "__setattr__") (some (some (.builtin "object.__setattr__"))) && (decide (PySem.W.subIn K (.ref C) (.type "BaseException") = some true) && (decide (PySem.W.typeIn K (.ref C) = some (.type "type")) && PySem.W.keepIn K (.ref C))))
theorem oexB_ok {K : PySem.W.Frag} {C : Addr} (h : oexB K C = true) : OexC K C := by
  obtain ⟨h1, h⟩ := Bool.and_eq_true_iff.mp h
  obtain ⟨h2, h⟩ := Bool.and_eq_true_iff.mp h
  obtain ⟨h3, h⟩ := Bool.and_eq_true_iff.mp h
  obtain ⟨h4, h5⟩ := Bool.and_eq_true_iff.mp h
  refine ⟨?_, He.eqO_ok h2, of_decide_eq_true h3, of_decide_eq_true h4, h5⟩
  split at h1
  · rename_i t dd cd sl ho
    split at h1
    · rename_i C' bm k0 k1 k2 k3 n k5 hm hs
      simp only [Bool.and_eq_true, beq_iff_eq, Bool.not_eq_true'] at h1
      obtain ⟨rfl, rfl, rfl, hdel, hdc, hr⟩ := h1
      obtain ⟨nm, bs, mro, ns, qn, hd, sn, sub, ab, col, del⟩ := cd
      dsimp only at hm hdel hdc
      subst hm hdel hdc
      have hsl : sl = #[k0, k1, k2, k3, some (.builtin "ValueError.__new__"), k5] := by
        obtain ⟨l⟩ := sl
        simp only at hs
        rw [hs]
      subst hsl
      exact ⟨nm, qn, ns, bs, bm, sn, sub, ab, col, dd, k0, k1, k2, k3, k5, ho, hr⟩
    · cases h1
  · cases h1
def excCB (K : PySem.W.Frag) (C : Addr) : Bool := He.eqO (PySem.W.findIn K (.ref C) "__getattribute__") (some (some (.builtin "BaseException.__getattribute__"))) && (He.eqO (PySem.W.findIn K (.ref C) "__getattr__") (some none) && (decide (PySem.W.subIn K (.ref C) (.type "BaseException") = some true) && (PySem.W.hasDictIn K C &&
  (He.eqO (PySem.W.findIn K (.ref C) "__class__") (some (some (.builtin "object.__class__"))) && (He.eqO (PySem.W.specialIn K (.builtin "object.__class__") "__get__") (some (some (.builtin "getset_descriptor.__get__"))) && (decide (PySem.W.takesIn K (.builtin "object.__class__") = some true) && decide (PySem.W.mroIn K C (.type "object") = some true)))))))
theorem excCB_ok {K : PySem.W.Frag} {C : Addr} (h : excCB K C = true) : ExcC K C := by
  obtain ⟨h1, h⟩ := Bool.and_eq_true_iff.mp h
  obtain ⟨h2, h⟩ := Bool.and_eq_true_iff.mp h
  obtain ⟨h3, h⟩ := Bool.and_eq_true_iff.mp h
  obtain ⟨h4, h⟩ := Bool.and_eq_true_iff.mp h
  obtain ⟨h5, h⟩ := Bool.and_eq_true_iff.mp h
  obtain ⟨h6, h⟩ := Bool.and_eq_true_iff.mp h
  obtain ⟨h7, h8⟩ := Bool.and_eq_true_iff.mp h
  exact ⟨He.eqO_ok h1, He.eqO_ok h2, of_decide_eq_true h3, h4, He.eqO_ok h5, He.eqO_ok h6, of_decide_eq_true h7, of_decide_eq_true h8⟩
/-- kitOne's answer -/
def kitB' (K : PySem.W.Frag) (t c : Value) (b : Bool) : Bool := decide (PySem.W.kitOne K t c = some b)
theorem kitB_ok {K : PySem.W.Frag} {t c : Value} {b : Bool} (h : kitB' K t c b = true) : PySem.W.kitOne K t c = some b := of_decide_eq_true h
def exmB (K : PySem.W.Frag) (t c : Value) (b : Bool) : Bool := decide (PySem.W.exmOne K t c = some b)
theorem exmB_ok {K : PySem.W.Frag} {t c : Value} {b : Bool} (h : exmB K t c b = true) : PySem.W.exmOne K t c = some b := of_decide_eq_true h
/-- an own class that no built-in type is under -/
def kitsB (K : PySem.W.Frag) (C : Addr) : Bool := ["NoneType", "bool", "int", "str", "tuple", "list", "dict"].all fun n => kitB' K (.type n) (.ref C) false
theorem kitsB_ok {K : PySem.W.Frag} {C : Addr} (h : kitsB K C = true) : ∀ n, n ∈ ["NoneType", "bool", "int", "str", "tuple", "list", "dict"] → PySem.W.kitOne K (.type n) (.ref C) = some false := fun n hn => kitB_ok (List.all_eq_true.mp h n hn)
/-- an exception's __init__ -/
def initB (K : PySem.W.Frag) (C f : Addr) : Bool := He.eqO (PySem.W.findIn K (.ref C) "__init__") (some (some (.ref f))) && decide (PySem.W.typeIn K (.ref f) = some (.type "function"))
theorem initB_ok {K : PySem.W.Frag} {C f : Addr} (h : initB K C f = true) : PySem.W.findIn K (.ref C) "__init__" = some (some (.ref f)) ∧ PySem.W.typeIn K (.ref f) = some (.type "function") := ⟨He.eqO_ok (Bool.and_eq_true_iff.mp h).1, of_decide_eq_true (Bool.and_eq_true_iff.mp h).2⟩
theorem room65 {k : Nat} {A : Around} (r : Room k A) : A.units + 65 < cLine := by have := r.un; omega
/-! ### parts of the text -/
def sSub : Stmt → Nat → Stmt
  | .FunctionDef _ _ b _ _ _ _ _ _ _, i => b.getD i (.Pass ⟨0, 0, 0, 0⟩)
  | .For _ _ b _ _, i => b.getD i (.Pass ⟨0, 0, 0, 0⟩)
  | .While _ b _ _, i => b.getD i (.Pass ⟨0, 0, 0, 0⟩)
  | .If _ b _ _, i => b.getD i (.Pass ⟨0, 0, 0, 0⟩)
  | .Try b _ _ _ _, i => b.getD i (.Pass ⟨0, 0, 0, 0⟩)
  | s, _ => s
def sEls : Stmt → Nat → Stmt
  | .If _ _ b _, i => b.getD i (.Pass ⟨0, 0, 0, 0⟩)
  | s, _ => s
def sExp : Stmt → Expr
  | .If e _ _ _ => e
  | .While e _ _ _ => e
  | .For _ e _ _ _ => e
  | .Return (some e) _ => e
  | .Assign _ e _ => e
  | .Expr e _ => e
  | _ => .Constant .none 0 ⟨0, 0, 0, 0⟩
def eArg : Expr → Nat → Expr
  | .Call _ as _ _, i => as.getD i (.Constant .none 0 ⟨0, 0, 0, 0⟩)
  | .BoolOp _ vs _, i => vs.getD i (.Constant .none 0 ⟨0, 0, 0, 0⟩)
  | .UnaryOp _ e _, _ => e
  | .BinOp a _ _ _, 0 => a
  | .BinOp _ _ b _, _ => b
  | .Compare a _ _ _, 0 => a
  | .Compare _ _ bs _, i + 1 => bs.getD i (.Constant .none 0 ⟨0, 0, 0, 0⟩)
  | .IfExp a _ _ _, 0 => a
  | .IfExp _ b _ _, 1 => b
  | .IfExp _ _ c _, _ => c
  | .Tuple es _ _, i => es.getD i (.Constant .none 0 ⟨0, 0, 0, 0⟩)
  | .List es _, i => es.getD i (.Constant .none 0 ⟨0, 0, 0, 0⟩)
  | e, _ => e
def lamPs : Expr → Arguments
  | .Lambda ps _ _ _ => ps
  | _ => default
def lamBd : Expr → Expr
  | .Lambda _ b _ _ => b
  | e => e
def lamSc : Expr → Scope
  | .Lambda _ _ s _ => s
  | _ => default
/-- where the captured names stand -/
theorem caps_at {caps N : List Str} {js : List Nat} (h : (caps.zip js).all (fun p => decide (N[p.2]? = some p.1)) = true ∧ js.length = caps.length) : ∀ (i : Nat) (y : Str), caps[i]? = some y → ∃ j : Nat, js[i]? = some j ∧ N[j]? = some y := fun i y hy => by
  obtain ⟨h1, h2⟩ := h
  have hi := (List.getElem?_eq_some_iff.mp hy).1
  have hj : i < js.length := by rw [h2]; exact hi
  refine ⟨js[i], List.getElem?_eq_getElem hj, ?_⟩
  have hm : (y, js[i]) ∈ caps.zip js := by
    refine List.mem_of_getElem? (i := i) ?_
    rw [List.getElem?_zip_eq_some]
    exact ⟨hy, List.getElem?_eq_getElem hj⟩
  exact of_decide_eq_true (List.all_eq_true.mp h1 _ hm)
/-! ### the law's start -/
theorem law_start {G : Gc} {K : PySem.W.Frag} {H : Hp} {a : Addr} {ns : List Int} {fn : Fn} (hK : G.K = K) (hT : LamX.Tabs G.T H) (hS : SqL K H a (ns.map V.int)) (h : fn [.d (.lst (ns.map D.int))] [] = .ok (.d (.bl true)) [] none) :
    spD G fn 1 [.ref a] H (fun v _ => v = .bl true) (fun _ _ _ => False) := by
  have aI : ∀ ns : List Int, RpL G (Sof (fun _ => False) [] []) H (ns.map D.int) (ns.map V.int) := fun ns => by
    induction ns with
    | nil => exact rfl
    | cons n ns ih => exact ⟨.int n, _, rfl, rfl, ih⟩
  refine ⟨rfl, fun _ => False, [], [], [.d (.lst (ns.map D.int))], ⟨rfl, fun n m a o u h => (by cases h), fun n a o h => (by cases h), fun a h => h.elim, fun n a o h => (by cases h), hT⟩, ⟨.ref a, [], rfl, ⟨a, ns.map V.int, rfl, ?_, aI ns⟩, rfl⟩, ?_⟩
  · subst hK
    rcases hS with hS | hS
    · exact .inl ⟨fun z => (sof_nil z).elim, hS⟩
    · exact .inr hS
  · rw [h]
    exact fun H' v _ _ rv => rv
end Iv
set_option Elab.async false
set_option linter.all false
set_option maxRecDepth 100000
set_option maxHeartbeats 2000000
set_option autoImplicit false
/-! Iv, part Q: instances of own classes: their attributes. -/
namespace Iv
open PySem PySem.Spec PyProof.Rows L2
/-! ### one of several readings -/
theorem i_alt {X : Cx} {G : Gc} {W : WX} {e : Expr} {m m1 m2 : Sm U} (h1 : PE X e (rdE G W m1)) (h2 : PE X e (rdE G W m2)) (h : ∀ ρ μ, m ρ μ = m1 ρ μ ∨ m ρ μ = m2 ρ μ) : PE X e (rdE G W m) :=
  ⟨fun pins s σ H Q I ⟨Z, φ, ρ, μ, sr, po⟩ => by
    rcases h ρ μ with q | q
    · exact h1.run pins s σ H Q I ⟨Z, φ, ρ, μ, sr, q ▸ po⟩
    · exact h2.run pins s σ H Q I ⟨Z, φ, ρ, μ, sr, q ▸ po⟩⟩
/-- p tells which -/
def fAlt (p : U → Mu → Bool) (f g : U → Mu → Res U) : U → Mu → Res U := fun u μ => if p u μ = true then f u μ else g u μ
theorem i_alt1 {X : Cx} {G : Gc} {W : WX} {e : Expr} {m : Sm U} {p : U → Mu → Bool} {f g : U → Mu → Res U} (h1 : PE X e (rdE G W (v1 f m))) (h2 : PE X e (rdE G W (v1 g m))) : PE X e (rdE G W (v1 (fAlt p f g) m)) :=
  i_alt h1 h2 fun ρ μ => by
    unfold v1
    cases m ρ μ with
    | ok u μ1 =>
      show fAlt p f g u μ1 = _ ∨ fAlt p f g u μ1 = _
      unfold fAlt
      split
      · exact .inl rfl
      · exact .inr rfl
    | err c ns vs μ1 => exact .inl rfl
    | bad => exact .inl rfl
def fAlt2 (p : U → U → Mu → Bool) (f g : U → U → Mu → Res U) : U → U → Mu → Res U := fun u w μ => if p u w μ = true then f u w μ else g u w μ
theorem i_alt2 {X : Cx} {G : Gc} {W : WX} {e : Expr} {ma mb : Sm U} {p : U → U → Mu → Bool} {f g : U → U → Mu → Res U} (h1 : PE X e (rdE G W (v2 f ma mb))) (h2 : PE X e (rdE G W (v2 g ma mb))) : PE X e (rdE G W (v2 (fAlt2 p f g) ma mb)) :=
  i_alt h1 h2 fun ρ μ => by
    unfold v2
    cases ma ρ μ with
    | ok u μ1 =>
      show ((mb ρ μ1).bind _) = ((mb ρ μ1).bind _) ∨ ((mb ρ μ1).bind _) = ((mb ρ μ1).bind _)
      cases mb ρ μ1 with
      | ok w μ2 =>
        show fAlt2 p f g u w μ2 = _ ∨ fAlt2 p f g u w μ2 = _
        unfold fAlt2
        split
        · exact .inl rfl
        · exact .inr rfl
      | err c ns vs μ1 => exact .inl rfl
      | bad => exact .inl rfl
    | err c ns vs μ1 => exact .inl rfl
    | bad => exact .inl rfl
/-! ### an instance -/
def insU (μ : Mu) : U → Option (Nat × List Str × List U)
  | .d (.obj c ns ds) => some (c, ns, ds.map .d)
  | .p n => match μ[n]? with
    | some (.ins c ns us) => some (c, ns, us)
    | some (.fz (.obj c ns ds)) => some (c, ns, ds.map .d)
    | _ => none
  | _ => none
section
variable {G : Gc} {Z : Addr → Prop} {φ : List Addr} {μ : Mu} {H : Hp}
theorem insU_ok {u : U} {x : V} {c : Nat} {ns : List Str} {us : List U} (h : insU μ u = some (c, ns, us)) (r : Rep G Z φ H μ) (ru : RpU G φ (Sof Z φ μ) H u x) : ∃ a dx vs, x = .ref a ∧ H a = some (.ins (G.cls c) dx (ns.zip vs)) ∧ ns.length = vs.length ∧ RpUs G φ (Sof Z φ μ) H us vs := by
  have dat : ∀ {d : D} {x : V}, insU μ (.d d) = some (c, ns, us) → Rp G (Sof Z φ μ) H d x → ∃ a dx vs, x = .ref a ∧ H a = some (.ins (G.cls c) dx (ns.zip vs)) ∧ ns.length = vs.length ∧ RpUs G φ (Sof Z φ μ) H us vs := fun {d x} h rd => by
    cases d with
    | obj c' ns' ds =>
      cases h
      obtain ⟨a, dx, vs, e, nS, ea, hl, rl⟩ := rd
      exact ⟨a, dx, vs, e, ea, hl, rl.us⟩
    | _ => cases h
  cases u with
  | d d => exact dat h ru
  | p n =>
    obtain ⟨a, e, ha⟩ := ru
    unfold insU at h
    dsimp only at h
    split at h
    · rename_i c' ns' us' hu
      cases h
      obtain ⟨dx, vs, e2, hl, q⟩ := r.at_ n a _ ha hu
      exact ⟨a, dx, vs, e, e2, hl, q⟩
    · rename_i c' ns' ds hu
      subst e
      exact dat (d := .obj c' ns' ds) h (r.at_ n a _ ha hu)
    · cases h
theorem zip_lookU {f : Str} {S : Addr → Prop} : ∀ {ns : List Str} {us : List U} {vs : List V} {u : U}, RpUs G φ S H us vs → (ns.zip us).lookup f = some u → ∃ v, (ns.zip vs).lookup f = some v ∧ RpU G φ S H u v
  | [], _, _, _, _, h => by cases h
  | n :: ns, [], _, _, _, h => by cases h
  | n :: ns, d :: ds, _, d', ⟨v, r, e, a, b⟩, h => by
    subst e
    rw [List.zip_cons_cons, List.lookup_cons] at h ⊢
    split at h
    · cases h; exact ⟨v, rfl, a⟩
    · exact zip_lookU b h
theorem zip_no {β : Type} {f : Str} : ∀ {ns : List Str} {us : List β}, ns.contains f = false → (ns.zip us).lookup f = none
  | [], _, _ => rfl
  | n :: ns, [], _ => rfl
  | n :: ns, u :: us, h => by
    rw [List.contains_cons, Bool.or_eq_false_iff] at h
    rw [List.zip_cons_cons, List.lookup_cons, h.1]
    exact zip_no h.2
end
/-! ### o.f -/
def fFld (f : Str) (cs : List Nat) : U → Mu → Res U := fun u μ => match insU μ u with
  | some (c, ns, us) => if cs.contains c = true then (match (ns.zip us).lookup f with
    | some w => .ok w μ
    | none => .bad) else .bad
  | none => .bad
def FldF (G : Gc) (K : PySem.W.Frag) (f : Str) (cs : List Nat) : Prop := ∀ c ∈ cs, Cls K (G.cls c) ∧ NoAttr K (G.cls c) f
section
variable {X : Cx} {G : Gc} {W : WX} {e : Expr} {m mv : Sm U} {f : Str} {cs : List Nat} {pos pos' : Pos}
theorem i_fld (hF : FldF G X.K f cs) (he : PE X e (rdE G W m)) (hb : attributeBase e f X.env (eval e X.env) = eval e X.env := by rfl) : PE X (.Attribute e f pos) (rdE G W (v1 (fFld f cs) m)) :=
  PE.imp (pe_fld he hb) fun σ H Q ⟨Z, φ, ρ, μ, sr, po⟩ => by
    refine rd_mono (po_step (R1 := RpU G) sr po) fun x H1 ⟨φ1, μ1, u, g1, sr1, ru, po1⟩ => ?_
    unfold fFld at po1
    split at po1
    · rename_i c ns us hu
      split at po1
      · rename_i hc
        split at po1
        · rename_i w hw
          obtain ⟨k1, k2⟩ := hF c (by simpa using hc)
          obtain ⟨a, dx, vs, rfl, ea, hl, q⟩ := insU_ok hu sr1.rep ru
          obtain ⟨v, hv, rv⟩ := zip_lookU q hw
          exact ⟨a, G.cls c, dx, _, v, rfl, ea, k1, k2, hv, po1 φ1 H1 v Go.refl sr1.rep rv⟩
        · exact False.elim po1
      · exact False.elim po1
    · exact False.elim po1
/-- o.f, o an exception or an instance -/
def isExU : U → Mu → Bool
  | .d (.exc _ _ _), _ => true
  | _, _ => false
abbrev fAt (f : Str) (cs ec : List Nat) : U → Mu → Res U := fAlt isExU (fXf f ec) (fFld f cs)
theorem i_at {ec : List Nat} (hE : ∀ c ∈ ec, XfC X.K (G.cls c) ∧ PySem.W.findIn X.K (.ref (G.cls c)) f = some none) (hF : FldF G X.K f cs) (he : PE X e (rdE G W m)) (hb : attributeBase e f X.env (eval e X.env) = eval e X.env := by rfl) : PE X (.Attribute e f pos) (rdE G W (v1 (fAt f cs ec) m)) :=
  i_alt1 (i_xf hE he hb) (i_fld hF he hb)
/-! ### o.f = e -/
def putN (f : Str) : List Str → List Str
  | [] => [f]
  | g :: r => if g = f then g :: r else g :: putN f r
def putA {β : Type} (f : Str) (w : β) : List Str → List β → List β
  | [], _ => [w]
  | g :: r, x :: xs => if g = f then w :: xs else x :: putA f w r xs
  | _ :: _, [] => []
theorem put_zip {f : Str} {y : V} : ∀ {ns : List Str} {vs : List V}, ns.length = vs.length → putF f y (ns.zip vs) = (putN f ns).zip (putA f y ns vs) ∧ (putN f ns).length = (putA f y ns vs).length
  | [], vs, h => by
    cases vs with
    | nil => exact ⟨rfl, rfl⟩
    | cons v vs => cases h
  | n :: ns, [], h => by cases h
  | n :: ns, v :: vs, h => by
    obtain ⟨e1, e2⟩ := put_zip (f := f) (y := y) (ns := ns) (vs := vs) (Nat.succ.inj h)
    by_cases q : n = f
    · unfold putN putA
      rw [List.zip_cons_cons]
      unfold putF
      rw [if_pos q, if_pos q, if_pos q]
      exact ⟨rfl, h⟩
    · unfold putN putA
      rw [List.zip_cons_cons]
      unfold putF
      rw [if_neg q, if_neg q, if_neg q, e1]
      exact ⟨rfl, by rw [List.length_cons, List.length_cons, e2]⟩
theorem RpUs.put {φ : List Addr} {S : Addr → Prop} {H : Hp} {w : U} {y : V} (r : RpU G φ S H w y) : ∀ {ns : List Str} {us : List U} {vs : List V}, ns.length = vs.length → RpUs G φ S H us vs → RpUs G φ S H (putA f w ns us) (putA f y ns vs)
  | [], us, vs, hl, h => ⟨y, [], rfl, r, rfl⟩
  | n :: ns, us, [], hl, h => by cases hl
  | n :: ns, [], v :: vs, hl, h => by cases (show v :: vs = [] from h)
  | n :: ns, u :: us, z :: zs, hl, ⟨v, rr, e, a, b⟩ => by
    obtain ⟨rfl, rfl⟩ := List.cons.inj e
    unfold putA
    by_cases q : n = f
    · rw [if_pos q, if_pos q]; exact ⟨y, _, rfl, r, b⟩
    · rw [if_neg q, if_neg q]; exact ⟨z, _, rfl, a, RpUs.put r (Nat.succ.inj hl) b⟩
def sFldM (f : Str) (cs : List Nat) (mo mv : Sm U) : SmS := fun ρ μ => (mv ρ μ).thenS ρ fun w μ1 => (mo ρ μ1).thenS ρ fun u μ2 => match u with
  | .p n => match μ2[n]? with
    | some (.ins c ns us) => if cs.contains c = true ∧ ns.length < 1000 then .nx ρ (μ2.set n (.ins c (putN f ns) (putA f w ns us))) else .bad
    | _ => .bad
  | _ => .bad
theorem ins_ntbl {C dx : Addr} {fs : List (Str × V)} {H : Hp} {a : Addr} (h : H a = some (.ins C dx fs)) : ∀ ps, H a ≠ some (.tbl ps) := fun ps z => by rw [h] at z; cases z
theorem ins_ncode {C dx : Addr} {fs : List (Str × V)} {H : Hp} {a : Addr} (h : H a = some (.ins C dx fs)) : ∀ b, H a ≠ some (LamX.CodeO a b) := fun ps z => by
  rw [h] at z
  have z' := Option.some.inj z
  unfold LamX.CodeO at z'
  cases z'
theorem i_fldset {value o : Expr} {mo : Sm U} (hF : FldF G X.K f cs) (ho : PE X o (rdE G W mo)) (hv : PE X value (rdE G W mv)) (hs : swapsWith value (some (.Attribute o f pos')) pos.line X.env = pure false := by rfl) : PS X (.Assign [.Attribute o f pos'] value pos) (rdS G W (sFldM f cs mo mv)) :=
  PS.imp (ps_fld ho hv hs) fun D σ H ⟨Z, φ, ρ, μ, sr, po⟩ => by
    refine rd_mono (pos_step (R1 := RpU G) sr po) fun y H1 ⟨φ1, μ1, w, g1, sr1, rw1, po1⟩ => ?_
    refine rd_mono (pos_step (R1 := RpU G) sr1 po1) fun x H2 ⟨φ2, μ2, u, g2, sr2, ru, po2⟩ => ?_
    split at po2
    · rename_i n
      split at po2
      · rename_i c ns us hu
        split at po2
        · rename_i hc
          obtain ⟨k1, k2⟩ := hF c (by simpa using hc.1)
          obtain ⟨a, rfl, ha⟩ := ru
          obtain ⟨dx, vs, ea, hl, q⟩ := sr2.rep.at_ n a _ ha hu
          have rw2 := rw1.mono g2
          obtain ⟨z1, z2⟩ := put_zip (f := f) (y := y) hl
          have g : Go Z φ2 μ2 H2 φ2 (μ2.set n (.ins c (putN f ns) (putA f w ns us))) (upd H2 a (.ins (G.cls c) dx (putF f y (ns.zip vs)))) := Go.wr sr2.rep ha hu rfl
          have rr := sr2.rep.wr ha hu (ob' := .ins c (putN f ns) (putA f w ns us)) rfl (ins_ntbl ea) (ins_ncode ea) (o := .ins (G.cls c) dx (putF f y (ns.zip vs))) ⟨dx, putA f y ns vs, by rw [upd_same, z1], z2, RpUs.put (rw2.mono g) hl (q.mono g)⟩
          exact ⟨a, G.cls c, dx, ns.zip vs, rfl, ea, k1, k2, by rw [List.length_zip]; omega, po2 φ2 _ σ g ⟨rr, sr2.sl.mono g⟩⟩
        · exact False.elim po2
      · exact False.elim po2
    · exact False.elim po2
end
end Iv
set_option Elab.async false
set_option linter.all false
set_option maxRecDepth 100000
set_option maxHeartbeats 2000000
set_option autoImplicit false
/-! Iv, part T: own classes are made, their methods called. -/
namespace Iv
open PySem PySem.Spec PyProof.Rows L2
/-- the object at cv, called with n values and the keywords ks, does what res tells -/
def Runs (X : Cx) (G : Gc) (W : WX) (cv : Addr) (n : Nat) (ks : List Str) (res : List U → List U → Mu → Res U) : Prop :=
  ∀ (pins : List (Addr × Obj)) (σ : L2.St) (H : Hp) (s : Shared) (Q : VK) (us ws : List Value) (vs zs : List V) (Z : Addr → Prop) (φ : List Addr) (μ : Mu) (as bs : List U),
    Inv X pins σ H s → Vals vs us → Vals zs ws → as.length = n → bs.length = ks.length → Rep G Z φ H μ → RpUs G φ (Sof Z φ μ) H as vs → RpUs G φ (Sof Z φ μ) H bs zs →
    Po (RpU G) G Z W φ μ H σ (res as bs μ) Q → codeAny (model X.prog X.w) X.A (.call (.ref cv) ⟨us, ks.zip ws⟩) (RR X pins σ Q) s
def vRun (res : List U → List U → Mu → Res U) (n nk : Nat) (m mk : Sm (List U)) : Sm U := fun ρ μ => (m ρ μ).bind fun us μ1 => (mk ρ μ1).bind fun ws μ2 => if us.length = n ∧ ws.length = nk then res us ws μ2 else .bad
/-- a def's -/
def resF (fn : Fn) (ix : List Nat) (ds : List D) (fl : List Bool) : List U → List U → Mu → Res U := fun us ws μ => callL fn fl (ixL ix (us ++ ws ++ ds.map .d)) μ
section
variable {g g' : Bool} {G : Gc} {X : Cx} {W : WX} {k n : Nat} {f cv : Addr} {fd : FuncData} {ps ks : List Str} {fn : Fn} {ix : List Nat} {ds : List D} {fl : List Bool} {x : Str} {p pos : Pos} {e : Expr} {es : List Expr} {kws : List Keyword} {m mk : Sm (List U)} {res : List U → List U → Mu → Res U}
theorem runs_fn (F : FnG g' G X.prog X.w X.K X.mg X.base k f fd ps fn) (hr : RoomG g k X.A) (gg : g' = true → g = true) (hb : BindA G X.K fd ps n ks ix ds) (tk : Takes X W) (hl : ix.length = ps.length := by decide) (hix : ix.all (· < n + ks.length + ds.length) = true := by decide) :
    Runs X G W f n ks (resF fn ix ds fl) := fun pins σ H s Q us ws vs zs Z φ μ as bs I r rz l1 l2 rp ra rb h => run_c F hr gg hb tk hl hix I r rz l1 l2 rp ra rb h
theorem run_of (σ : L2.St) (H : Hp) (Q : VK) (h : rdE G W (vRun res n ks.length m mk) σ H Q) :
    rdA G W m σ H fun vs H1 => rdA G W mk σ H1 fun zs H2 => ∃ Z φ μ as bs, as.length = n ∧ bs.length = ks.length ∧ Rep G Z φ H2 μ ∧ RpUs G φ (Sof Z φ μ) H2 as vs ∧ RpUs G φ (Sof Z φ μ) H2 bs zs ∧ Po (RpU G) G Z W φ μ H2 σ (res as bs μ) Q := by
  obtain ⟨Z, φ, ρ, μ, sr, po⟩ := h
  refine rd_mono (po_step (R1 := RpUs G) sr po) fun vs H1 ⟨φ1, μ1, us, g1, sr1, rus, po1⟩ => ?_
  refine rd_mono (po_step (R1 := RpUs G) sr1 po1) fun zs H2 ⟨φ2, μ2, ws, g2, sr2, rws, po2⟩ => ?_
  split at po2
  · rename_i hl
    exact ⟨Z, φ2, μ2, us, ws, hl.1, hl.2, sr2.rep, rus.mono g2, rws, po2⟩
  · exact False.elim po2
/-! ### called by a name -/
theorem i_run (R : Runs X G W cv n [] res) (hg : Gl X x) (hm : X.mg x = some (.ref cv)) (hk : PySem.W.keepIn X.K (.ref cv) = true) (ha : PA X (e :: es) (rdA G W m)) (hdb : (x == ("__debug__" : Str)) = false := by decide)
    (he : starEach (e :: es) X.env = (false, eval e X.env) :: starEach es X.env := by rfl) (hpl : (backTo pos (starEach es X.env)).any (·.1) = false := by rfl) : PE X (.Call (.Name x p) (e :: es) [] pos) (rdE G W (vRun res n 0 m aNil)) := by
  refine ⟨fun pins s σ H Q I h => ?_⟩
  refine wpAny_Call_Name_kw (ld_glob I hg hm ?_ hdb)
  refine PySem.W.callWith_K (h₀ := X.base) I.ok.mod.kin hk (thn (ha.run pos pins s σ H _ I (run_of (ks := []) σ H Q h)) fun us s1 ⟨vs, H1, I1, r, q⟩ => ⟨I1.kIn, ?_⟩) he hpl
  obtain ⟨Z', φ', ρ', μ', sr', po'⟩ := q
  obtain ⟨Z, φ, μ, as, bs, l1, l2, rp, ra, rb, po⟩ := po' φ' H1 [] Go.refl sr'.rep rfl
  exact wpAny_call (R pins σ H1 s1 Q us [] vs [] Z φ μ as bs I1 r .nil l1 l2 rp ra rb po)
theorem i_run0 (R : Runs X G W cv 0 [] res) (hg : Gl X x) (hm : X.mg x = some (.ref cv)) (hk : PySem.W.keepIn X.K (.ref cv) = true) (hdb : (x == ("__debug__" : Str)) = false := by decide) : PE X (.Call (.Name x p) [] [] pos) (rdE G W (vRun res 0 0 aNil aNil)) := by
  refine ⟨fun pins s σ H Q I h => ?_⟩
  refine wpAny_Call_Name_kw (ld_glob I hg hm ?_ hdb)
  obtain ⟨Z', φ', ρ', μ', sr', po'⟩ := run_of (ks := []) σ H Q h
  obtain ⟨Z1, φ1, ρ1, μ1, sr1, po1⟩ := po' φ' H [] Go.refl sr'.rep rfl
  obtain ⟨Z, φ, μ, as, bs, l1, l2, rp, ra, rb, po⟩ := po1 φ1 H [] Go.refl sr1.rep rfl
  exact PySem.W.callWith_K0 I.kIn hk (wpAny_call (R pins σ H s Q [] [] [] [] Z φ μ as bs I .nil .nil l1 l2 rp ra rb po))
theorem i_runK (R : Runs X G W cv n ks res) (hg : Gl X x) (hm : X.mg x = some (.ref cv)) (hk : PySem.W.keepIn X.K (.ref cv) = true) (ha : PA X (e :: es) (rdA G W m)) (hkw : PK X kws (rdA G W mk))
    (hall : (backToKw pos (keywordEach kws X.env)).all (·.1.isSome) = true := by rfl) (hks : (backToKw pos (keywordEach kws X.env)).filterMap (·.1) = ks := by rfl) (hdb : (x == ("__debug__" : Str)) = false := by decide)
    (he : starEach (e :: es) X.env = (false, eval e X.env) :: starEach es X.env := by rfl) (hpl : ((backTo pos (starEach (e :: es) X.env)).any (·.1) || (backToKw pos (keywordEach kws X.env)).any (·.1.isNone)) = false := by rfl) :
    PE X (.Call (.Name x p) (e :: es) kws pos) (rdE G W (vRun res n ks.length m mk)) := by
  refine ⟨fun pins s σ H Q I h => ?_⟩
  refine wpAny_Call_Name_kw (ld_glob I hg hm ?_ hdb)
  refine PySem.W.callWith_KW (h₀ := X.base) I.ok.mod.kin hk hall (thn (ha.run pos pins s σ H _ I (run_of σ H Q h)) fun us s1 ⟨vs, H1, I1, r, q⟩ => ?_) hpl he
  refine thn (hkw.run pos pins s1 σ H1 _ I1 q) fun ws s2 ⟨zs, H2, I2, rz, Z, φ, μ, as, bs, l1, l2, rp, ra, rb, po⟩ => ⟨I2.kIn, ?_⟩
  rw [hks]
  exact wpAny_call (R pins σ H2 s2 Q us ws vs zs Z φ μ as bs I2 r rz l1 l2 rp ra rb po)
theorem i_runK0 {e : Expr} {nm : Option Str} {kpos : Pos} (R : Runs X G W cv 0 ks res) (hg : Gl X x) (hm : X.mg x = some (.ref cv)) (hk : PySem.W.keepIn X.K (.ref cv) = true) (hkw : PK X (⟨nm, e, kpos⟩ :: kws) (rdA G W mk))
    (hall : (backToKw pos (keywordEach (⟨nm, e, kpos⟩ :: kws) X.env)).all (·.1.isSome) = true := by rfl) (hks : (backToKw pos (keywordEach (⟨nm, e, kpos⟩ :: kws) X.env)).filterMap (·.1) = ks := by rfl) (hdb : (x == ("__debug__" : Str)) = false := by decide)
    (hpl : ((backTo pos (starEach [] X.env)).any (·.1) || (backToKw pos (keywordEach (⟨nm, e, kpos⟩ :: kws) X.env)).any (·.1.isNone)) = false := by rfl) :
    PE X (.Call (.Name x p) [] (⟨nm, e, kpos⟩ :: kws) pos) (rdE G W (vRun res 0 ks.length aNil mk)) := by
  refine ⟨fun pins s σ H Q I h => ?_⟩
  refine wpAny_Call_Name_kw (ld_glob I hg hm ?_ hdb)
  obtain ⟨Z', φ', ρ', μ', sr', po'⟩ := run_of σ H Q h
  have q := po' φ' H [] Go.refl sr'.rep rfl
  refine PySem.W.callWith_KW0 (h₀ := X.base) I.ok.mod.kin hk hall ?_ hpl
  refine thn (hkw.run pos pins s σ H _ I q) fun ws s2 ⟨zs, H2, I2, rz, Z, φ, μ, as, bs, l1, l2, rp, ra, rb, po⟩ => ⟨I2.kIn, ?_⟩
  rw [hks]
  exact wpAny_call (R pins σ H2 s2 Q [] ws [] zs Z φ μ as bs I2 .nil rz l1 l2 rp ra rb po)
/-! ### C(..) -/
def mkEnd (n : Nat) : U → Mu → Res U := fun r μ => match r with
  | .d .non => .ok (.p n) μ
  | _ => .bad
/-- a new instance, then __init__: ix counts the new instance as the first value -/
def resMk (c : Nat) (fn : Fn) (ix : List Nat) (ds : List D) (fl : List Bool) : List U → List U → Mu → Res U := fun us ws μ =>
  (callL fn fl (ixL ix ((.p μ.length :: us) ++ ws ++ ds.map .d)) (μ ++ [.ins c [] []])).bind (mkEnd μ.length)
theorem RoomG.make {A : Around} (r : RoomG g (k + 1) A) (C : Addr) (us : List Value) (kw : List (Str × Value)) : RoomG g k (A.under (.builtin "type.__call__" ⟨.ref C :: us, kw⟩)) := ⟨r.rm.make C us kw, fun z => (r.gd z : _)⟩
theorem runs_mk {c : Nat} (M : Mk X.K (G.cls c) f) (F : FnG g' G X.prog X.w X.K X.mg X.base k f fd ps fn) (hr : RoomG g (k + 1) X.A) (gg : g' = true → g = true) (hb : BindA G X.K fd ps (n + 1) ks ix ds) (tk : Takes X W)
    (hl : ix.length = ps.length := by decide) (hix : ix.all (· < (n + 1) + ks.length + ds.length) = true := by decide) : Runs X G W (G.cls c) n ks (resMk c fn ix ds fl) := by
  intro pins σ H s Q us ws vs zs Z φ μ as bs I r rz l1 l2 rp ra rb h
  obtain ⟨dvs, dus, r3, rd, to⟩ := hb.ex
  obtain ⟨dx, hdx⟩ : ∃ dx, dx = s.heap.objs.size := ⟨_, rfl⟩
  have n1 : H dx = none := I.hok.fresh (by rw [hdx]; exact Nat.le_refl _)
  have n2 : H (dx + 1) = none := I.hok.fresh (by rw [hdx]; exact Nat.le_succ _)
  have n3 : upd H dx (.own (dx + 1)) (dx + 1) = none := by rw [upd_ne (Nat.ne_of_gt (Nat.lt_succ_self dx))]; exact n2
  have I2 := Inv.made (C := G.cls c) I
  rw [← hdx] at I2
  -- the store with the new instance
  have ga : Go Z φ μ H φ μ (upd H dx (.own (dx + 1))) := Go.newD rp n1
  have rpa := Rep.newD (o := .own (dx + 1)) rp n1
  have gb : Go Z φ μ (upd H dx (.own (dx + 1))) (φ ++ [dx + 1]) (μ ++ [.ins c [] []]) (upd (upd H dx (.own (dx + 1))) (dx + 1) (.ins (G.cls c) dx [])) := Go.newP rpa n3
  have rpb := rpa.newP (o := .ins (G.cls c) dx []) (ob := .ins c [] []) n3 ⟨dx, [], upd_same, rfl, rfl⟩
  have gab := ga.trans gb
  have hpl : (φ ++ [dx + 1])[μ.length]? = some (dx + 1) := by rw [← rp.len]; exact snoc_last
  have rdd : RpUs G (φ ++ [dx + 1]) (Sof Z (φ ++ [dx + 1]) (μ ++ [.ins c [] []])) (upd (upd H dx (.own (dx + 1))) (dx + 1) (.ins (G.cls c) dx [])) (ds.map .d) dvs := (rd _ _).us
  have rself : RpUs G (φ ++ [dx + 1]) (Sof Z (φ ++ [dx + 1]) (μ ++ [.ins c [] []])) (upd (upd H dx (.own (dx + 1))) (dx + 1) (.ins (G.cls c) dx [])) (.p μ.length :: as) (.ref (dx + 1) :: vs) := ⟨.ref (dx + 1), vs, rfl, ⟨dx + 1, rfl, hpl⟩, ra.mono gab⟩
  have ru := ((rself.app (rb.mono gab)).app rdd).ix ix
  have r2 : Vals (ixL ix ((V.ref (dx + 1) :: vs) ++ zs ++ dvs)) (ixL ix ((Value.ref (dx + 1) :: us) ++ ws ++ dus)) := vals_ix (((show Vals (V.ref (dx + 1) :: vs) (Value.ref (dx + 1) :: us) from .cons rfl r).append rz).append r3) ix
  have lall : ((U.p μ.length :: as) ++ bs ++ ds.map U.d).length = (n + 1) + ks.length + ds.length := by rw [List.length_append, List.length_append, List.length_map, List.length_cons, l1, l2]
  have ixl : ∀ {ix : List Nat} {l : List U}, ix.all (· < l.length) = true → (ixL ix l).length = ix.length := fun {ix l} => by
    induction ix with
    | nil => intro _; rfl
    | cons i ix ih =>
      intro h
      rw [List.all_cons, Bool.and_eq_true, decide_eq_true_eq] at h
      unfold ixL
      rw [List.filterMap_cons, List.getElem?_eq_getElem h.1]
      exact congrArg Nat.succ (ih h.2)
  have hn : (ixL ix ((V.ref (dx + 1) :: vs) ++ zs ++ dvs)).length = ps.length := by
    rw [ru.length, ixl (by rw [lall]; exact hix), hl]
  have hq := callL_sp (fl := fl) (f := fn) (Q := fun v H2 => v = .non ∧ Q (.ref (dx + 1)) H2) (W := W) (σ := σ) rpb ru hn (by
    unfold resMk at h
    have h' := Po.go gab h
    cases q : callL fn fl (ixL ix (U.p μ.length :: as ++ bs ++ List.map U.d ds)) (μ ++ [.ins c [] []]) with
    | ok u μ3 =>
      rw [q] at h'
      intro φ2 H2 b g2 rp2 rb2
      have h2 : Po (RpU G) G Z W (φ ++ [dx + 1]) (μ ++ [.ins c [] []]) _ σ (mkEnd μ.length u μ3) Q := h'
      unfold mkEnd at h2
      split at h2
      · exact ⟨rb2, h2 φ2 H2 _ g2 rp2 ⟨dx + 1, rfl, g2.ph _ _ hpl⟩⟩
      · exact False.elim h2
    | err c2 ns vs μ3 => rw [q] at h'; exact h'
    | bad => rw [q] at h'; exact False.elim h')
  have lus : us.length = n := by rw [← r.length, ra.length, l1]
  have lws : ws.length = ks.length := by rw [← rz.length, rb.length, l2]
  refine make_map (f := f) I.kIn M.makes M.init (beq_iff_eq.mp M.fn) ?_
  rw [← hdx]
  refine codeAny_mono (F.run _ X.stack _ _ ⟨Value.ref (dx + 1) :: us, ks.zip ws⟩ _ _ _ _ ((hr.make (G.cls c) us (ks.zip ws)).weak gg) (I2.env0.make (G.cls c) us (ks.zip ws)) (to _ (Value.ref (dx + 1) :: us) ws I2.kIn (by rw [List.length_cons, lus]) lws) r2 hq) fun r s' hq' => ?_
  cases r with
  | error er => exact passAt tk σ pins _ _ er s' I2 hq'
  | ok fl =>
    rcases fl with _ | _ | _ | u
    · exact False.elim hq'
    · exact False.elim hq'
    · exact False.elim hq'
    · obtain ⟨v, H', I3, rv, ev, q3⟩ := I2.after hq'
      subst ev
      exact ⟨rv, ⟨V.ref (dx + 1), H', I3, rfl, q3⟩⟩
end
end Iv
set_option Elab.async false
set_option linter.all false
set_option maxRecDepth 100000
set_option maxHeartbeats 2000000
set_option autoImplicit false
/-! Iv, part U: methods, classmethods, properties. -/
namespace Iv
open PySem PySem.Spec PyProof.Rows L2
abbrev ResL := List U → List U → Mu → Res U
/-- o.m(..): the method by the class of o -/
def vMeth (tbl : List (Nat × ResL)) (nm : Str) (n nk : Nat) (mo : Sm U) (m mk : Sm (List U)) : Sm U := fun ρ μ => (mo ρ μ).bind fun u μ0 => match insU μ0 u with
  | some (c, ns, _) => if ns.contains nm = true then .bad else (match tbl.lookup c with
    | some res => (m ρ μ0).bind fun us μ1 => (mk ρ μ1).bind fun ws μ2 => if us.length = n ∧ ws.length = nk then res (u :: us) ws μ2 else .bad
    | none => .bad)
  | none => .bad
def MethsOk (X : Cx) (G : Gc) (W : WX) (nm : Str) (n : Nat) (ks : List Str) (tbl : List (Nat × ResL)) : Prop := ∀ c res, tbl.lookup c = some res → ∃ f, Cls X.K (G.cls c) ∧ Meth X.K (G.cls c) nm f ∧ Runs X G W f (n + 1) ks res
section
variable {G : Gc} {X : Cx} {W : WX} {n : Nat} {ks : List Str} {nm : Str} {pos apos : Pos} {o e : Expr} {es : List Expr} {kws : List Keyword} {mo : Sm U} {m mk : Sm (List U)} {tbl : List (Nat × ResL)} {pl : Sem Bool}
/-- what is known when the receiver is there -/
def Recv (X : Cx) (G : Gc) (W : WX) (nm : Str) (n : Nat) (ks : List Str) (m mk : Sm (List U)) (σ : L2.St) (Q : VK) (x : V) (H1 : Hp) : Prop :=
  ∃ a C dx fs f res, x = .ref a ∧ H1 a = some (.ins C dx fs) ∧ fs.lookup nm = none ∧ Cls X.K C ∧ Meth X.K C nm f ∧ Runs X G W f (n + 1) ks res ∧
    rdA G W m σ H1 fun vs H2 => rdA G W mk σ H2 fun zs H3 => ∃ Z φ μ as bs, as.length = n + 1 ∧ bs.length = ks.length ∧ Rep G Z φ H3 μ ∧ RpUs G φ (Sof Z φ μ) H3 as (x :: vs) ∧ RpUs G φ (Sof Z φ μ) H3 bs zs ∧ Po (RpU G) G Z W φ μ H3 σ (res as bs μ) Q
theorem recv_of (hM : MethsOk X G W nm n ks tbl) (σ : L2.St) (H : Hp) (Q : VK) (h : rdE G W (vMeth tbl nm n ks.length mo m mk) σ H Q) : rdE G W mo σ H (Recv X G W nm n ks m mk σ Q) := by
  obtain ⟨Z, φ, ρ, μ, sr, po⟩ := h
  refine rd_mono (po_step (R1 := RpU G) sr po) fun x H1 ⟨φ1, μ1, u, g1, sr1, ru, po1⟩ => ?_
  split at po1
  · rename_i c ns us hu
    split at po1
    · exact False.elim po1
    · rename_i hns
      split at po1
      · rename_i res hres
        obtain ⟨f, k1, k2, k3⟩ := hM c res hres
        obtain ⟨a, dx, vs, rfl, ea, hl, q⟩ := insU_ok hu sr1.rep ru
        refine ⟨a, G.cls c, dx, _, f, res, rfl, ea, zip_no (by simpa using hns), k1, k2, k3, ?_⟩
        refine rd_mono (po_step (R1 := RpUs G) sr1 po1) fun vs2 H2 ⟨φ2, μ2, us2, g2, sr2, rus, po2⟩ => ?_
        refine rd_mono (po_step (R1 := RpUs G) sr2 po2) fun zs H3 ⟨φ3, μ3, ws, g3, sr3, rws, po3⟩ => ?_
        split at po3
        · rename_i hlen
          exact ⟨Z, φ3, μ3, u :: us2, ws, by rw [List.length_cons, hlen.1], hlen.2, sr3.rep, ⟨_, _, rfl, (ru.mono g2).mono g3, rus.mono g3⟩, rws, po3⟩
        · exact False.elim po3
      · exact False.elim po1
  · exact False.elim po1
theorem i_meth (hM : MethsOk X G W nm n [] tbl) (ho : PE X o (rdE G W mo)) (ha : PA X (e :: es) (rdA G W m)) (hst : starEach (e :: es) X.env = (false, eval e X.env) :: starEach es X.env := by rfl) (hpl : (backTo pos (starEach es X.env)).any (·.1) = false := by rfl)
    (ht : eval (.Call (.Attribute o nm apos) (e :: es) [] pos) X.env = (do
      let ov ← eval o X.env
      standAt apos.atName
      let (f, first) ← holding [ov] (getMethod ov nm pl)
      callWith pos f first (backTo pos (starEach (e :: es) X.env)) (backToKw pos (keywordEach [] X.env))) := by rfl) : PE X (.Call (.Attribute o nm apos) (e :: es) [] pos) (rdE G W (vMeth tbl nm n 0 mo m aNil)) := by
  refine ⟨fun pins s σ H Q I h => ?_⟩
  refine PySem.W.methodCall_KW (pl := pl) (thn (ho.run pins s σ H _ I (recv_of (ks := []) hM σ H Q h)) fun u s1 ⟨x, H1, I1, rx, a, C, dx, fs, f, res, ex, ea, l, c, hm, R, q⟩ => ?_) ht
  subst ex
  obtain rfl : u = Value.ref a := rx
  refine getmeth_ok I1 ea c hm l ?_
  refine PySem.W.callWith_K (first := [.ref a]) (h₀ := X.base) I.ok.mod.kin hm.kp (thn (ha.run pos pins s1 σ H1 _ I1 q) fun us s2 ⟨vs, H2, I2, r, q2⟩ => ⟨I2.kIn, ?_⟩) hst hpl
  obtain ⟨Z', φ', ρ', μ', sr', po'⟩ := q2
  obtain ⟨Z, φ, μ, as, bs, l1, l2, rp, ra, rb, po⟩ := po' φ' H2 [] Go.refl sr'.rep rfl
  exact wpAny_call (R pins σ H2 s2 Q (.ref a :: us) [] (.ref a :: vs) [] Z φ μ as bs I2 (.cons rfl r) .nil l1 l2 rp ra rb po)
theorem i_meth0 (hM : MethsOk X G W nm 0 [] tbl) (ho : PE X o (rdE G W mo))
    (ht : eval (.Call (.Attribute o nm apos) [] [] pos) X.env = (do
      let ov ← eval o X.env
      standAt apos.atName
      let (f, first) ← holding [ov] (getMethod ov nm pl)
      callWith pos f first (backTo pos (starEach [] X.env)) (backToKw pos (keywordEach [] X.env))) := by rfl) : PE X (.Call (.Attribute o nm apos) [] [] pos) (rdE G W (vMeth tbl nm 0 0 mo aNil aNil)) := by
  refine ⟨fun pins s σ H Q I h => ?_⟩
  refine PySem.W.methodCall_KW (pl := pl) (thn (ho.run pins s σ H _ I (recv_of (ks := []) hM σ H Q h)) fun u s1 ⟨x, H1, I1, rx, a, C, dx, fs, f, res, ex, ea, l, c, hm, R, q⟩ => ?_) ht
  subst ex
  obtain rfl : u = Value.ref a := rx
  refine getmeth_ok I1 ea c hm l ?_
  obtain ⟨Z', φ', ρ', μ', sr', po'⟩ := q
  obtain ⟨Z1, φ1, ρ1, μ1, sr1, po1⟩ := po' φ' H1 [] Go.refl sr'.rep rfl
  obtain ⟨Z, φ, μ, as, bs, l1, l2, rp, ra, rb, po⟩ := po1 φ1 H1 [] Go.refl sr1.rep rfl
  exact PySem.W.callWith_K0 (first := [.ref a]) I1.kIn hm.kp (wpAny_call (R pins σ H1 s1 Q [.ref a] [] [.ref a] [] Z φ μ as bs I1 (.cons rfl .nil) .nil l1 l2 rp ra rb po))
theorem i_methK (hM : MethsOk X G W nm n ks tbl) (ho : PE X o (rdE G W mo)) (ha : PA X (e :: es) (rdA G W m)) (hkw : PK X kws (rdA G W mk))
    (hall : (backToKw pos (keywordEach kws X.env)).all (·.1.isSome) = true := by rfl) (hks : (backToKw pos (keywordEach kws X.env)).filterMap (·.1) = ks := by rfl)
    (hst : starEach (e :: es) X.env = (false, eval e X.env) :: starEach es X.env := by rfl) (hpl : ((backTo pos (starEach (e :: es) X.env)).any (·.1) || (backToKw pos (keywordEach kws X.env)).any (·.1.isNone)) = false := by rfl)
    (ht : eval (.Call (.Attribute o nm apos) (e :: es) kws pos) X.env = (do
      let ov ← eval o X.env
      standAt apos.atName
      let (f, first) ← holding [ov] (getMethod ov nm pl)
      callWith pos f first (backTo pos (starEach (e :: es) X.env)) (backToKw pos (keywordEach kws X.env))) := by rfl) : PE X (.Call (.Attribute o nm apos) (e :: es) kws pos) (rdE G W (vMeth tbl nm n ks.length mo m mk)) := by
  refine ⟨fun pins s σ H Q I h => ?_⟩
  refine PySem.W.methodCall_KW (pl := pl) (thn (ho.run pins s σ H _ I (recv_of hM σ H Q h)) fun u s1 ⟨x, H1, I1, rx, a, C, dx, fs, f, res, ex, ea, l, c, hm, R, q⟩ => ?_) ht
  subst ex
  obtain rfl : u = Value.ref a := rx
  refine getmeth_ok I1 ea c hm l ?_
  refine PySem.W.callWith_KW (first := [.ref a]) (h₀ := X.base) I.ok.mod.kin hm.kp hall (thn (ha.run pos pins s1 σ H1 _ I1 q) fun us s2 ⟨vs, H2, I2, r, q2⟩ => ?_) hpl hst
  refine thn (hkw.run pos pins s2 σ H2 _ I2 q2) fun ws s3 ⟨zs, H3, I3, rz, Z, φ, μ, as, bs, l1, l2, rp, ra, rb, po⟩ => ⟨I3.kIn, ?_⟩
  rw [hks]
  exact wpAny_call (R pins σ H3 s3 Q (.ref a :: us) ws (.ref a :: vs) zs Z φ μ as bs I3 (.cons rfl r) rz l1 l2 rp ra rb po)
theorem i_methK0 {nme : Option Str} {kpos : Pos} (hM : MethsOk X G W nm 0 ks tbl) (ho : PE X o (rdE G W mo)) (hkw : PK X (⟨nme, e, kpos⟩ :: kws) (rdA G W mk))
    (hall : (backToKw pos (keywordEach (⟨nme, e, kpos⟩ :: kws) X.env)).all (·.1.isSome) = true := by rfl) (hks : (backToKw pos (keywordEach (⟨nme, e, kpos⟩ :: kws) X.env)).filterMap (·.1) = ks := by rfl)
    (hpl : ((backTo pos (starEach [] X.env)).any (·.1) || (backToKw pos (keywordEach (⟨nme, e, kpos⟩ :: kws) X.env)).any (·.1.isNone)) = false := by rfl)
    (ht : eval (.Call (.Attribute o nm apos) [] (⟨nme, e, kpos⟩ :: kws) pos) X.env = (do
      let ov ← eval o X.env
      standAt apos.atName
      let (f, first) ← holding [ov] (getMethod ov nm pl)
      callWith pos f first (backTo pos (starEach [] X.env)) (backToKw pos (keywordEach (⟨nme, e, kpos⟩ :: kws) X.env))) := by rfl) : PE X (.Call (.Attribute o nm apos) [] (⟨nme, e, kpos⟩ :: kws) pos) (rdE G W (vMeth tbl nm 0 ks.length mo aNil mk)) := by
  refine ⟨fun pins s σ H Q I h => ?_⟩
  refine PySem.W.methodCall_KW (pl := pl) (thn (ho.run pins s σ H _ I (recv_of hM σ H Q h)) fun u s1 ⟨x, H1, I1, rx, a, C, dx, fs, f, res, ex, ea, l, c, hm, R, q⟩ => ?_) ht
  subst ex
  obtain rfl : u = Value.ref a := rx
  refine getmeth_ok I1 ea c hm l ?_
  obtain ⟨Z', φ', ρ', μ', sr', po'⟩ := q
  have q2 := po' φ' H1 [] Go.refl sr'.rep rfl
  refine PySem.W.callWith_KW0 (first := [.ref a]) (h₀ := X.base) I.ok.mod.kin hm.kp hall ?_ hpl
  refine thn (hkw.run pos pins s1 σ H1 _ I1 q2) fun ws s3 ⟨zs, H3, I3, rz, Z, φ, μ, as, bs, l1, l2, rp, ra, rb, po⟩ => ⟨I3.kIn, ?_⟩
  rw [hks]
  exact wpAny_call (R pins σ H3 s3 Q [.ref a] ws [.ref a] zs Z φ μ as bs I3 (.cons rfl .nil) rz l1 l2 rp ra rb po)
/-! ### C.m(..), a classmethod -/
def tCMeth' (G : Gc) (W : WX) (res : ResL) (c n : Nat) (m : Sm (List U)) : Sm U := fun ρ μ => (m ρ μ).bind fun us μ1 => if us.length = n then res (.d (.cls c) :: us) [] μ1 else .bad
theorem i_cmeth {c : Nat} {p g : Addr} {mc : Value} {res : ResL} {x : Str} {p1 : Pos} (hR : ClX.CRead X.K (G.cls c) mc) (hC : ClX.CMet X.K (G.cls c) mc nm p g) (R : Runs X G W g (n + 1) [] res) (hg : Gl X x) (hm : X.mg x = some (.ref (G.cls c))) (ha : PA X (e :: es) (rdA G W m))
    (hdb : (x == ("__debug__" : Str)) = false := by decide) (hst : starEach (e :: es) X.env = (false, eval e X.env) :: starEach es X.env := by rfl) (hpl : (backTo pos (starEach es X.env)).any (·.1) = false := by rfl)
    (ht : eval (.Call (.Attribute (.Name x p1) nm apos) (e :: es) [] pos) X.env = (do
      let ov ← eval (.Name x p1) X.env
      standAt apos.atName
      let (f, first) ← holding [ov] (getMethod ov nm pl)
      callWith pos f first (backTo pos (starEach (e :: es) X.env)) (backToKw pos (keywordEach [] X.env))) := by rfl) : PE X (.Call (.Attribute (.Name x p1) nm apos) (e :: es) [] pos) (rdE G W (tCMeth' G W res c n m)) := by
  refine ⟨fun pins s σ H Q I h => ?_⟩
  have hc : PE X (.Name x p1) (tC (.ref (G.cls c))) := pe_glob hg hm rfl hdb
  refine PySem.W.methodCall_KW (pl := pl) (thn (hc.run pins s σ H (fun v H1 => v = .ref (G.cls c) ∧ H1 = H) I ⟨rfl, rfl⟩) fun u s1 ⟨x1, H1, I1, rx, ex, eH⟩ => ?_) ht
  subst ex eH
  obtain rfl : u = Value.ref (G.cls c) := rx
  refine ClX.getmethcm_ok I1 hR hC fun s2 I2 => ?_
  obtain ⟨Z, φ, ρ, μ, sr, po⟩ := h
  refine ClX.callwith_cm I2 (ClX.base_none I1 (Nat.le_refl _)) hC.fi (thn (ha.run pos _ s2 σ _ _ I2 (po_step (R1 := RpUs G) sr po)) fun us s3 ⟨vs, H2, I3, rv, φ1, μ1, as, g1, sr1, rus, po1⟩ => ⟨⟨ClX.pin_at I3, I3.kIn⟩, ?_⟩) hst hpl
  split at po1
  · rename_i hl
    have z := R _ σ H2 s3 Q (.ref (G.cls c) :: us) [] (.ref (G.cls c) :: vs) [] Z φ1 μ1 (.d (.cls c) :: as) [] I3 (.cons rfl rv) .nil (by rw [List.length_cons, hl]) rfl sr1.rep ⟨.ref (G.cls c), vs, rfl, rfl, rus⟩ rfl po1
    refine wpAny_mono (wpAny_call (PySem.W.method_call (ClX.pin_at I3) z)) (fun _ _ y => ClX.unpinE y) fun _ _ y => y
  · exact False.elim po1
end
end Iv
set_option Elab.async false
set_option linter.all false
set_option maxRecDepth 100000
set_option maxHeartbeats 2000000
set_option autoImplicit false
/-! Iv, part V: values are shown. -/
namespace Iv
open PySem PySem.Spec PyProof.Rows L2
/-- a value as data, as it stands now -/
def dOf : U → Option D
  | .d x => some x
  | _ => none
def dsOf : List U → Option (List D)
  | [] => some []
  | u :: us => match dOf u, dsOf us with
    | some d, some ds => some (d :: ds)
    | _, _ => none
def seeU (μ : Mu) : U → Option D
  | .d x => some x
  | .p n => match μ[n]? with
    | some (.fz x) => some x
    | some (.lst us) => (dsOf us).map .lst
    | _ => none
section
variable {G : Gc} {Z : Addr → Prop} {φ : List Addr} {μ : Mu} {H : Hp}
theorem dsOf_ok {S : Addr → Prop} : ∀ {us : List U} {ds : List D} {vs : List V}, dsOf us = some ds → RpUs G φ S H us vs → RpL G S H ds vs
  | [], ds, vs, h, r => by
    cases h
    exact r
  | u :: us, ds, vs, h, ⟨v, rr, e, a, b⟩ => by
    unfold dsOf at h
    split at h
    · rename_i d ds' h1 h2
      cases h
      cases u with
      | p n => cases h1
      | d x => cases h1; exact ⟨v, rr, e, a, dsOf_ok h2 b⟩
    · cases h
theorem see_py {u : U} {d : D} {p : PyData} {v : V} (h : seeU μ u = some d) (hp : d.py = some p) (r : Rep G Z φ H μ) (ru : RpU G φ (Sof Z φ μ) H u v) : Dp G.K H v p := by
  cases u with
  | d x => cases h; exact py_ok hp ru
  | p n =>
    obtain ⟨a, rfl, ha⟩ := ru
    unfold seeU at h
    dsimp only at h
    split at h
    · rename_i x hx
      cases h
      exact py_ok hp (r.at_ n a _ ha hx)
    · rename_i us hu
      obtain ⟨ds, h1, rfl⟩ := Option.map_eq_some_iff.mp h
      obtain ⟨vs, e, q⟩ := r.at_ n a _ ha hu
      simp only [D.py] at hp
      obtain ⟨ps, h2, rfl⟩ := Option.map_eq_some_iff.mp hp
      exact .lst (.inl (.inl e)) (pyL_ok h2 (dsOf_ok h1 q))
    · cases h
end
/-! ### repr(e) -/
def shows (p : PyData) : Bool := p.showable && (!p.hasDict && (decide (p.shown.length ≤ 1000000) && decide (p.depth ≤ 100)))
def fRepr : U → Mu → Res U := fun u μ => match seeU μ u with
  | some d => match d.py with
    | some p => if shows p = true then .ok (.d (.str p.shown)) μ else .bad
    | none => .bad
  | none => .bad
def rShow (K : PySem.W.Frag) : List V → Hp → VK → Prop := fun xs H Q => ∃ v p, xs = [v] ∧ Dp K H v p ∧ shows p = true ∧ Q (.str p.shown) H
section
variable {X : Cx} {G : Gc}
theorem shows_of {p : PyData} (h : shows p = true) : p.showable = true ∧ p.hasDict = false ∧ p.shown.length ≤ sizeLine ∧ p.depth ≤ 100 := by
  unfold shows at h
  simp only [Bool.and_eq_true, Bool.not_eq_true', decide_eq_true_eq] at h
  exact ⟨h.1, h.2.1, Nat.le_trans h.2.2.1 (by rw [sizeLine_eq]; decide), h.2.2.2⟩
theorem call_show (hgd : X.A.guards = some []) (hun : X.A.units + 200 < cLine) : CallR X (.builtin "repr") (rShow X.K) := by
  intro pins s σ H xs us Q I r h
  obtain ⟨v, p, rfl, dp, hs, q⟩ := h
  obtain ⟨s1, s2, s3, s4⟩ := shows_of hs
  obtain ⟨u, rfl, ru⟩ := vals1 r
  obtain ⟨as, rd⟩ := Dp.reads I p v u dp ru
  cases rd with
  | none =>
    simp only [PyData.shown] at q
    exact PySem.P.repr_of_none ⟨.str "None", H, I.tok _, ⟨_, rfl⟩, q⟩
  | bool b =>
    simp only [PyData.shown] at q
    exact PySem.P.repr_of_bool ⟨.str (if b = true then "True" else "False"), H, I.tok _, ⟨_, by cases b <;> rfl⟩, q⟩
  | int i t =>
    simp only [PyData.shown] at q
    exact PySem.P.repr_of_int (by simpa [PyData.showable] using s1) ⟨.str (toString i), H, I.tok _, ⟨_, rfl⟩, q⟩
  | str x t =>
    simp only [PyData.shown] at q s3
    exact PySem.P.repr_of_str ⟨.str (reprText x), H, I.tok _, ⟨_, rfl⟩, q⟩ s3
  | @list a o vs n xs as h1 h2 h3 h4 => exact repr_of_reads' (.list h1 h2 h3 h4) s1 (PyData.noDict_hsm s2) hgd (by omega) (fun _ _ e => e) (fun h' u tk hk => ⟨.str (PyData.list xs).shown, H, I.kept hk, ⟨_, rfl⟩, q⟩) s3
  | @tuple a o vs n xs as h1 h2 h3 h4 => exact repr_of_reads' (.tuple h1 h2 h3 h4) s1 (PyData.noDict_hsm s2) hgd (by omega) (fun _ _ e => e) (fun h' u tk hk => ⟨.str (PyData.tuple xs).shown, H, I.kept hk, ⟨_, rfl⟩, q⟩) s3
  | dict h1 h2 h3 h4 h5 =>
    simp only [PyData.hasDict] at s2
    cases s2
theorem fRepr_ok (hK : G.K = X.K) : OpF G fRepr (rShow X.K) := fun Z W φ μ H σ x u Q r ru po => by
  unfold fRepr at po
  split at po
  · rename_i d hd
    split at po
    · rename_i p hp
      split at po
      · rename_i hs
        exact ⟨x, p, rfl, hK ▸ see_py hd hp r ru, hs, po φ H _ Go.refl r rfl⟩
      · exact False.elim po
    · exact False.elim po
  · exact False.elim po
end
end Iv
set_option Elab.async false
set_option linter.all false
set_option maxRecDepth 100000
set_option maxHeartbeats 2000000
set_option autoImplicit false
/-! Iv, part X: properties. -/
namespace Iv
open PySem PySem.Spec PyProof.Rows L2
def noErr : Res U → Res U
  | .ok u μ => .ok u μ
  | _ => .bad
/-- e.f, a property: by the class of e -/
def fProp (tbl : List (Nat × Fn)) : U → Mu → Res U := fun u μ => match insU μ u with
  | some (c, _, _) => match tbl.lookup c with
    | some fn => noErr (callL fn [true] [u] μ)
    | none => .bad
  | none => .bad
def PropsOk (X : Cx) (G : Gc) (f : Str) (tbl : List (Nat × Fn)) : Prop := ∀ c fn, tbl.lookup c = some fn → ∃ (p g : Addr) (fd : FuncData) (s0 : Str) (k : Nat),
  Cls X.K (G.cls c) ∧ PropOf X.K (G.cls c) f p g ∧ FnOk X.prog X.w X.K X.mg X.base (L2.CX X.prog X.w) k g fd [s0] (spD G fn 1) ∧ Room (k + 1) X.A ∧ Binds X.K fd [s0] []
theorem cx_false {P : Program} {w : World} {outer : List Env} {H : Hp} {s s' : Shared} {e : Value} (z : L2.CX P w outer H s (fun _ _ _ => False) e s') : False := by
  obtain ⟨_, _, _, _, _, _, _, _, _, _, _, _, z⟩ := z
  exact z
section
variable {X : Cx} {G : Gc} {W : WX} {e : Expr} {m : Sm U} {f : Str} {pos : Pos} {tbl : List (Nat × Fn)}
theorem i_prop (hP : PropsOk X G f tbl) (he : PE X e (rdE G W m)) (hb : attributeBase e f X.env (eval e X.env) = eval e X.env := by rfl) : PE X (.Attribute e f pos) (rdE G W (v1 (fProp tbl) m)) := by
  refine ⟨fun pins s σ H Q I ⟨Z, φ, ρ, μ, sr, po⟩ => ?_⟩
  refine attr_of hb (thn (he.run pins s σ H _ I (po_step (R1 := RpU G) sr po)) fun u0 s1 ⟨x, H1, I1, rx, φ1, μ1, u, g1, sr1, ru, po1⟩ => ?_)
  unfold fProp at po1
  split at po1
  · rename_i c ns us hu
    split at po1
    · rename_i fn hfn
      obtain ⟨p, g, fd, s0, k, h1, h2, F, hr, hbd⟩ := hP c fn hfn
      obtain ⟨a, dx, vs, rfl, ea, hl, q⟩ := insU_ok hu sr1.rep ru
      obtain rfl : u0 = Value.ref a := rx
      have po2 : Po (RpU G) G Z (fun _ _ _ _ => False) φ1 μ1 H1 σ (callL fn [true] [u] μ1) Q := by
        cases z : callL fn [true] [u] μ1 with
        | ok w μ2 => rw [z] at po1; exact po1
        | err c ns vs μ2 => rw [z] at po1; exact False.elim po1
        | bad => rw [z] at po1; exact False.elim po1
      exact getprop_ok (E := fun _ _ _ => False) I1 ea h1 h2 F hr hbd .nil (fun _ _ _ _ _ _ _ z => cx_false z) (callL_sp (us := [u]) (vs := [.ref a]) (n := 1) sr1.rep ⟨_, _, rfl, ru, rfl⟩ rfl po2)
    · exact False.elim po1
  · exact False.elim po1
end
end Iv
set_option Elab.async false
set_option linter.all false
set_option maxRecDepth 100000
set_option maxHeartbeats 2000000
set_option autoImplicit false
/-! Iv, part Y: == of instances. -/
namespace Iv
open PySem PySem.Spec PyProof.Rows L2
section
variable {X : Cx} {G : Gc} {Z : Addr → Prop} {φ : List Addr} {μ : Mu} {H : Hp}
theorem kd_ty {u : U} {x : V} {k : Kd} (hK : G.K = X.K) (r : Rep G Z φ H μ) (ru : RpU G φ (Sof Z φ μ) H u x) (hk : kdU μ u = some k) (k1 : KdOk G X.K k) (ne : ∀ c, k ≠ .exc c) : TyX X.K H x (k.tv G) := by
  have dat : ∀ {d : D} {x : V}, d.kd = some k → Rp G (Sof Z φ μ) H d x → TyX X.K H x (k.tv G) := fun {d x} hd rd => by
    cases d with
    | non => cases hd; rw [show x = .non from rd]; exact .base .non
    | bl y => cases hd; rw [show x = .bl y from rd]; exact .base (.bl y)
    | int y => cases hd; rw [show x = .int y from rd]; exact .base (.int y)
    | str y => cases hd; rw [show x = .str y from rd]; exact .base (.str y)
    | tup ds =>
      cases hd
      obtain ⟨a, vs, rfl, l, _⟩ := rd
      rcases l with ⟨_, l | ⟨o, l⟩⟩ | ⟨o, its, n, e1, e2, _⟩
      · exact .base (.tup l)
      · exact .fTuple l
      · exact .kTuple (by rw [← hK]; exact e1) e2
    | lst ds =>
      cases hd
      obtain ⟨a, vs, rfl, l, _⟩ := rd
      rcases l with ⟨_, l | ⟨o, l⟩⟩ | ⟨o, its, n, e1, e2, _⟩
      · exact .base (.lst l)
      · exact .base (.frz l)
      · exact .kList (by rw [← hK]; exact e1) e2
    | obj c' ns ds =>
      cases hd
      obtain ⟨a, dx, vs, rfl, _, l, _⟩ := rd
      exact .base (.ins l k1.cl k1.ha k1.hn k1.htk k1.hm)
    | exc c' ns ds => cases hd; exact absurd rfl (ne c')
    | dic ks ds =>
      cases hd
      obtain ⟨a, vs, rfl, _, l | ⟨o, l⟩, _⟩ := rd
      · exact .base (.dK l)
      · exact .fDict l
    | dit ks ds => cases hd
    | clo _ _ => cases hd
    | cls _ => cases hd
  cases u with
  | d d => exact dat hk ru
  | p n =>
    obtain ⟨a, rfl, ha⟩ := ru
    unfold kdU at hk
    dsimp only at hk
    split at hk
    · rename_i d hd
      exact dat hk (r.at_ n a _ ha hd)
    · rename_i us hu
      cases hk
      obtain ⟨vs, e2, _⟩ := r.at_ n a _ ha hu
      exact .base (.lst e2)
    · rename_i ks us hu
      cases hk
      obtain ⟨vs, e2, _⟩ := r.at_ n a _ ha hu
      exact .base (.dK e2)
    · rename_i ks us hu
      cases hk
      obtain ⟨vs, e2, _⟩ := r.at_ n a _ ha hu
      exact .base (.dT e2)
    · rename_i c' ns us hu
      cases hk
      obtain ⟨dx, vs, e2, _⟩ := r.at_ n a _ ha hu
      exact .base (.ins e2 k1.cl k1.ha k1.hn k1.htk k1.hm)
    · cases hk
end
/-- only a truth value comes back -/
def blEnd : U → Mu → Res U := fun u μ => match u with
  | .d (.bl b) => .ok (.d (.bl b)) μ
  | _ => .bad
/-- x == y, x an instance whose class has its own == -/
def fEqO (tbl : List (Nat × ResL)) (oks : Kd → Bool) : U → U → Mu → Res U := fun u w μ => match insU μ u, kdU μ w with
  | some (c, _, _), some kd => match tbl.lookup c with
    | some res => if oks kd = true then (res [u, w] [] μ).bind blEnd else .bad
    | none => .bad
  | _, _ => .bad
def EqsOk (X : Cx) (G : Gc) (W : WX) (tbl : List (Nat × ResL)) (oks : Kd → Bool) : Prop := ∀ c res, tbl.lookup c = some res → ∃ f, PySem.W.findIn X.K (.ref (G.cls c)) "__eq__" = some (some (.ref f)) ∧ PySem.W.isFn X.K (.ref f) = true ∧ Runs X G W f 2 [] res ∧
  ∀ kd, oks kd = true → KdOk G X.K kd ∧ (∀ c', kd ≠ .exc c') ∧ PySem.W.notFirst X.K (G.cls c) (kd.tv G) = true
section
variable {X : Cx} {G : Gc} {W : WX} {a b : Expr} {ma mb : Sm U} {pos : Pos} {tbl : List (Nat × ResL)} {oks : Kd → Bool}
theorem c_eqO (hK : G.K = X.K) (hE : EqsOk X G W tbl oks) (hu : X.A.units < cLine) (ha : PE X a (rdE G W ma)) (hb : PE X b (rdE G W mb)) : PC X .Eq a b (rdE G W (v2 (fEqO tbl oks) ma mb)) := by
  refine ⟨fun pins s σ H Q I ⟨Z, φ, ρ, μ, sr, po⟩ => ?_⟩
  refine thn (ha.run pins s σ H _ I (po_step (R1 := RpU G) sr po)) fun v s1 ⟨x, H1, I1, rx, φ1, μ1, u, g1, sr1, ru, po1⟩ =>
    thn (hb.run pins s1 σ H1 _ I1 (po_step (R1 := RpU G) sr1 po1)) fun v2 s2 ⟨y, H2, I2, ry, φ2, μ2, w, g2, sr2, rw2, po2⟩ => ?_
  unfold fEqO at po2
  split at po2
  · rename_i c ns us kd hi hk
    split at po2
    · rename_i res hres
      split at po2
      · rename_i hok
        obtain ⟨f, h1, h2, R, h3⟩ := hE c res hres
        obtain ⟨k1, k2, k3⟩ := h3 kd hok
        have ru2 := ru.mono g2
        obtain ⟨a0, dx, vs, rfl, ea, hl, q⟩ := insU_ok hi sr2.rep ru2
        obtain rfl : v = Value.ref a0 := rx
        obtain ⟨mA, J, _⟩ := ins_get I2.hok ea
        obtain ⟨od, J, _⟩ := J.look
        obtain ⟨m, hF⟩ := I2.fr
        obtain ⟨P, kx, kp, _⟩ := kit_of I2 ry (kd_ty hK sr2.rep rw2 hk k1 k2)
        show wpAny (model X.prog X.w) X.A (richCompare .Eq (.ref a0) v2) (EP X pins σ Q) X.xe s2
        refine PySem.W.cmp_K (op := .Eq) hu hF I2.ok.mod.kin J (kx.ty _ _ I2.kIn kp) k3 h1 h2 ?_
        have po3 : Po (RpU G) G Z W φ2 μ2 H2 σ (res [u, w] [] μ2) (fun z H' => ∃ b, z = .bl b ∧ Q z H') := by
          cases e : res [u, w] [] μ2 with
          | ok r μ3 =>
            rw [e] at po2
            intro φ3 H3 z g3 r3 rz
            have po4 : Po (RpU G) G Z W φ2 μ2 H2 σ (blEnd r μ3) Q := po2
            unfold blEnd at po4
            split at po4
            · rename_i b
              exact ⟨b, rz, po4 φ3 H3 z g3 r3 rz⟩
            · exact False.elim po4
          | err c2 ns2 vs2 μ3 => rw [e] at po2; exact po2
          | bad => rw [e] at po2; exact False.elim po2
        have run := R pins σ H2 s2 _ [.ref a0, v2] [] [.ref a0, y] [] Z φ2 μ2 [u, w] [] I2 (.cons rfl (.cons ry .nil)) .nil rfl rfl sr2.rep ⟨_, _, rfl, ru2, _, _, rfl, rw2, rfl⟩ rfl po3
        refine wpAny_mono (wpAny_call run) (fun z s3 hz => ?_) fun _ _ h => h
        obtain ⟨zv, H3, I3, rz, ⟨b, eb, q3⟩⟩ := hz
        subst eb
        cases (show z = Value.bool b from rz)
        exact ⟨.bl b, H3, I3, rfl, q3⟩
      · exact False.elim po2
    · exact False.elim po2
  · exact False.elim po2
theorem i_eqO (hK : G.K = X.K) (hE : EqsOk X G W tbl oks) (hu : X.A.units < cLine) (ha : PE X a (rdE G W ma)) (hb : PE X b (rdE G W mb)) (hm : behindInMarks .Eq b = false) : PE X (.Compare a [.Eq] [b] pos) (rdE G W (v2 (fEqO tbl oks) ma mb)) := pe_cmp (c_eqO hK hE hu ha hb) hm
theorem i_teqO (hK : G.K = X.K) (hE : EqsOk X G W tbl oks) (hu : X.A.units < cLine) (ha : PE X a (rdE G W ma)) (hb : PE X b (rdE G W mb)) (hm : behindInMarks .Eq b = false) : PT X (.Compare a [.Eq] [b] pos) (rdT G W (tOf (v2 (fEqO tbl oks) ma mb))) := PT.imp (pt_cmp (c_eqO hK hE hu ha hb) hm) fun σ H Q q => rdTest σ H Q q
end
end Iv
set_option Elab.async false
set_option linter.all false
set_option maxRecDepth 100000
set_option maxHeartbeats 2000000
set_option autoImplicit false
/-! Iv, part R: the law is asked at its start, where nothing is being shown. -/
namespace Iv
open PySem PySem.Spec PyProof.Rows L2
/-- what is tracked at the start: the code objects' tables, the script -/
def H0 (K : PySem.W.Frag) (T : List Addr) (a : Addr) (ob : Obj) (xs : List V) : Hp := fun b =>
  if b ∈ T then some (.tbl #[]) else if b = a ∧ K.lookup a = none then some (.frz ob (.lst xs)) else none
theorem H0.tab {K : PySem.W.Frag} {T : List Addr} {a : Addr} {ob : Obj} {xs : List V} {b : Addr} (h : b ∈ T) : H0 K T a ob xs b = some (.tbl #[]) := if_pos h
theorem H0.cases {K : PySem.W.Frag} {T : List Addr} {a : Addr} {ob : Obj} {xs : List V} (b : Addr) : (b ∈ T ∧ H0 K T a ob xs b = some (.tbl #[])) ∨ (b ∉ T ∧ b = a ∧ K.lookup a = none ∧ H0 K T a ob xs b = some (.frz ob (.lst xs))) ∨ (b ∉ T ∧ H0 K T a ob xs b = none) := by
  unfold H0
  by_cases h : b ∈ T
  · rw [if_pos h]; exact .inl ⟨h, rfl⟩
  · rw [if_neg h]
    by_cases h2 : b = a ∧ K.lookup a = none
    · rw [if_pos h2]; exact .inr (.inl ⟨h, h2.1, h2.2, rfl⟩)
    · rw [if_neg h2]; exact .inr (.inr ⟨h, rfl⟩)
theorem H0.free {K : PySem.W.Frag} {T : List Addr} {a : Addr} {ob : Obj} {xs : List V} {b : Addr} (h : b ∉ T) (h2 : b = a → K.lookup a ≠ none) : H0 K T a ob xs b = none := by
  rcases H0.cases (K := K) (ob := ob) (xs := xs) b with ⟨z, _⟩ | ⟨_, z, z2, _⟩ | ⟨_, z⟩
  · exact (h z).elim
  · exact (h2 z z2).elim
  · exact z
section
variable {g : Bool} {P : Program} {w : World} {K : PySem.W.Frag} {G : Gc} {mg mb : Str → Option Value} {k : Nat} {fa a : Addr} {cs : List (Addr × Addr)} {fd : FuncData} {x : Str} {fn : Fn} {s : Shared} {vs : List Value} {ns : List Int}
abbrev tabO0 : Obj := { cls := .none, data := .fields #[] }
abbrev scrO (vs : List Value) : Obj := { cls := .type "list", data := .seq vs.toArray }
theorem law_runs (kin : K.In s.heap) (glob : s.heap.Ns mainGlobals mg) (blt : s.heap.Ns builtinsNs mb) (boot : ∀ x : Str, x ≠ "__name__" → mb x = bootBuiltins x) (lim : s.heap.NoLimit) (gens : s.gens = #[])
    (tabs : ∀ p ∈ cs, s.heap.get? p.2 = some tabO0) (outK : ∀ p ∈ cs, K.lookup p.2 = none) (heads : ∀ p ∈ cs, PySem.W.CodeHd s.heap p.1 p.2)
    (bmain : ∃ (bm : Addr) (ob : Obj), mg "__builtins__" = some (.ref bm) ∧ bm ≠ builtinsNs ∧ s.heap.get? bm = some ob ∧ ob.cls = .type "module" ∧ ob.dict = some builtinsNs ∧ ob.data = .plain)
    (script : s.heap.get? a = some (scrO vs)) (nums : IntsAre vs ns) (few : ns.length ≤ sizeLine) (room : RoomG g k callerA)
    (F : ∀ base : Heap, K.In base → base.Ns mainGlobals mg → (∀ p ∈ cs, LamX.TabB base mg p.1 p.2) → FnG g G P w K mg base k fa fd [x] fn) (binds : ∀ (s : Shared) (u : Value), BindsTo s fd ⟨[u], []⟩ [(x, u)])
    (hGK : G.K = K) (hT : ∀ H : Hp, (∀ p ∈ cs, H p.2 = some (.tbl #[])) → LamX.Tabs G.T H) (plain : fn [.d (.lst (ns.map D.int))] [] = .ok (.d (.bl true)) [] none) :
    codeAny (model P w) callerA (.call (.ref fa) ⟨[.ref a], []⟩) (fun r s' => r = .ok (.ret (.bool true)) ∧ OldK s.heap s'.heap ∧ s'.os = s.os ∧ AllBare s'.gens) s := by
  obtain ⟨T, eT⟩ : ∃ T : List Addr, T = cs.map (·.2) := ⟨_, rfl⟩
  obtain ⟨H, eH⟩ : ∃ H : Hp, H = H0 K T a (scrO vs) (ns.map V.int) := ⟨_, rfl⟩
  have inT : ∀ p ∈ cs, p.2 ∈ T := fun p hp => by rw [eT]; exact List.mem_map.mpr ⟨p, hp, rfl⟩
  have ofT : ∀ b ∈ T, s.heap.get? b = some tabO0 := fun b hb => by
    rw [eT] at hb
    obtain ⟨p, hp, rfl⟩ := List.mem_map.mp hb
    exact tabs p hp
  have aT : a ∉ T := fun z => by
    have q := script.symm.trans (ofT a z)
    cases q
  -- an object of another kind than these is not tracked
  have other : ∀ {b : Addr} {o : Obj}, s.heap.get? b = some o → o ≠ tabO0 → o ≠ scrO vs → H b = none := by
    intro b o e n1 n2
    rw [eH]
    refine H0.free (fun z => ?_) fun z => ?_
    · rw [ofT b z] at e
      exact (n1 (Option.some.inj e).symm).elim
    · subst z
      rw [script] at e
      exact (n2 (Option.some.inj e).symm).elim
  have ofK : ∀ b o, K.lookup b = some o → H b = none := by
    intro b o h
    rw [eH]
    refine H0.free (fun z => ?_) fun z => ?_
    · rw [eT] at z
      obtain ⟨p, hp, rfl⟩ := List.mem_map.mp z
      rw [outK p hp] at h
      cases h
    · subst z
      rw [h]
      intro q
      cases q
  have nsIn : ∀ {b : Addr} {m : Str → Option Value}, s.heap.Ns b m → (hidT s.heap H).Ns b m := by
    rintro b m ⟨o, es, ep, e, d, r⟩
    refine ⟨o, es, ep, hidT_get e (other e ?_ ?_), d, r⟩
    · rintro rfl; cases d
    · rintro rfl; cases d
  have kinB : K.In (hidT s.heap H) := fun b o e => hidT_get (kin b o e) (ofK b o e)
  have md : L2.Mod K mg (hidT s.heap H) := by
    refine ⟨kinB, nsIn glob, ⟨mb, nsIn blt, boot⟩, ?_⟩
    obtain ⟨mc, q1, q2⟩ := lim
    exact ⟨mc, nsIn q1, q2⟩
  have isTab : ∀ p ∈ cs, LamX.TabB (hidT s.heap H) mg p.1 p.2 := by
    intro p hp
    have tp := tabs p hp
    constructor
    · obtain ⟨o, us, v1, v2, v3, v4, v5, v6, v7, e1, r1, r2, r3, r4⟩ := heads p hp
      refine ⟨o, us, v1, v2, v3, v4, v5, v6, v7, hidT_get e1 (other e1 ?_ ?_), r1, r2, r3, r4⟩
      · rintro rfl; cases r1
      · rintro rfl; cases r2
    · obtain ⟨bm, ob, b1, b2, b3, b4, b5, b6⟩ := bmain
      refine ⟨bm, ob, b1, b2, ?_, ?_, hidT_get b3 (other b3 ?_ ?_), b4, b5, b6⟩
      · rintro rfl
        obtain ⟨o, es, ep, e, d, _⟩ := glob
        cases b3.symm.trans e
        cases b6.symm.trans d
      · rintro rfl
        cases b3.symm.trans tp
        cases b6
      · rintro rfl; cases b6
      · rintro rfl; cases b6
    · intro z
      obtain ⟨o, es, ep, e, d, _⟩ := glob
      rw [z] at e
      cases tp.symm.trans e
      cases d
  have rv := vals_ints nums
  have lenV := nums.length
  have hok : HOk P w H s.heap := by
    intro b o e
    rw [eH] at e
    rcases H0.cases (K := K) (a := a) (ob := scrO vs) (xs := ns.map V.int) b with ⟨z, q⟩ | ⟨_, z, _, q⟩ | ⟨_, q⟩
    · cases q.symm.trans e
      exact ofT b z
    · cases q.symm.trans e
      subst z
      exact ⟨script, by rw [List.length_map]; exact few, vs, _, rv, script⟩
    · cases q.symm.trans e
  have hS : SqL K H a (ns.map V.int) := by
    cases hk : K.lookup a with
    | some o =>
      cases script.symm.trans (kin a o hk)
      exact .inr ⟨_, vs.toArray, _, hk, rfl, rfl, rfl, by rw [List.size_toArray, lenV]; exact few, by simpa using rv⟩
    | none =>
      refine .inl (.inr ⟨scrO vs, ?_⟩)
      rw [eH]
      unfold H0
      rw [if_neg aT, if_pos ⟨rfl, hk⟩]
  have tabH : ∀ p ∈ cs, H p.2 = some (.tbl #[]) := fun p hp => by rw [eH]; exact H0.tab (inT p hp)
  have e0 : Env0 P w K mg (hidT s.heap H) callerA [] s H := by
    refine ⟨rfl, md, fun b o e => of_hidT e, Nat.le_of_eq (hidT_size _ _), trivial, ?_, hok, .of_eq gens⟩
    rintro b ⟨⟩
  have go := (F _ kinB (nsIn glob) isTab).run callerA [] s H ⟨[.ref a], []⟩ [.ref a] [.ref a] _ _ room e0 (binds s (.ref a)) (.cons rfl .nil) (law_start hGK (hT H tabH) hS plain)
  refine codeAny_mono go ?_
  rintro (e | fl) s' h
  · obtain ⟨_, _, _, _, _, _, _, _, _, _, _, _, z⟩ := h
    exact False.elim z
  rcases fl with _ | _ | _ | u
  · exact False.elim h
  · exact False.elim h
  · exact False.elim h
  obtain ⟨v, H', os, bare, un, hok', r', q⟩ := h
  obtain rfl : v = .bl true := q
  obtain rfl : u = Value.bool true := r'
  -- what was there stands, a table may have grown
  have same : ∀ b o, b ∉ T → s.heap.get? b = some o → s'.heap.get? b = some o := by
    intro b o nb e
    rcases H0.cases (K := K) (T := T) (a := a) (ob := scrO vs) (xs := ns.map V.int) b with ⟨z, _⟩ | ⟨_, z, _, q⟩ | ⟨_, q⟩
    · exact (nb z).elim
    · rw [← eH] at q
      subst z
      cases script.symm.trans e
      exact (hok' b _ (un.frzs b _ _ q)).1
    · rw [← eH] at q
      exact un.keep b o e q (by rintro ⟨⟩) (by rintro ⟨⟩)
  have grown : ∀ b ∈ T, ∃ p ∈ cs, p.2 = b ∧ ∃ more : Array Value, s'.heap.get? b = some { cls := .none, data := .fields more } := by
    intro b hb
    rw [eT] at hb
    obtain ⟨p, hp, rfl⟩ := List.mem_map.mp hb
    obtain ⟨more, z⟩ := un.tbls p.2 #[] (tabH p hp)
    exact ⟨p, hp, rfl, _, hok' p.2 _ z⟩
  refine ⟨rfl, ⟨?_, ?_⟩, os, bare⟩
  · intro b o e
    by_cases hb : b ∈ T
    · obtain ⟨p, hp, rfl, more, hm⟩ := grown b hb
      cases (tabs p hp).symm.trans e
      refine .inr (.inl ⟨((heads p hp).tab (tabs p hp)).isCodeTable, rfl, #[], more, rfl, ?_⟩)
      rw [Array.empty_append]
      exact hm
    · exact .inl (same b o hb e)
  · intro b o e
    by_cases hb : b ∈ T
    · obtain ⟨_, _, _, more, hm⟩ := grown b hb
      exact ⟨_, hm⟩
    · exact ⟨o, same b o hb e⟩
end
/-- what the law's own text has to tell -/
def LawAt (g : Bool) (l : PySem.W.OpenLaw) (w : World) (K : PySem.W.Frag) (k : Nat) (x : Str) (mg : Str → Option Value) (fa : Addr) (h : Heap) (fn : Fn) : Prop :=
  ∃ (G : Gc) (fd : FuncData) (cs : List (Addr × Addr)), G.K = K ∧ (∀ p ∈ cs, h.get? p.2 = some tabO0) ∧ (∀ p ∈ cs, K.lookup p.2 = none) ∧ (∀ p ∈ cs, PySem.W.CodeHd h p.1 p.2) ∧ (∀ (s : Shared) (u : Value), BindsTo s fd ⟨[u], []⟩ [(x, u)]) ∧
    (∀ H : Hp, (∀ p ∈ cs, H p.2 = some (.tbl #[])) → LamX.Tabs G.T H) ∧ ∀ base : Heap, K.In base → base.Ns mainGlobals mg → (∀ p ∈ cs, LamX.TabB base mg p.1 p.2) → FnG g G l.prog w K mg base k fa fd [x] fn
theorem walk_at {g : Bool} {l : PySem.W.OpenLaw} {n k : Nat} {q : Program} {loose : List Str} {XP : (Str → Option Value) → Heap → Prop} {YP : World → Heap → Prop} {d : DefRec} {x : Str} {fn : Fn} (hn : l.most = some n) (hn2 : n ≤ sizeLine) (hdf : d.params.defaults = [])
    (hr : RoomG g k callerA) (F : ∀ (w : World) (mg : Str → Option Value) (fa : Addr) (h : Heap), YP w h → h.Ns mainGlobals mg → mg d.name = some (.ref fa) → ∃ K : PySem.W.Frag, K.In h ∧ LawAt g l w K k x mg fa h fn)
    (plain : ∀ ns : List Int, ns.length ≤ n → fn [.d (.lst (ns.map D.int))] [] = .ok (.d (.bl true)) [] none) : PySem.W.WalkO q loose XP YP l.row.toRowW d [] (fun f vs => PySem.call f vs) := by
  apply Att.attach_callB hn hdf
  intro w s₀ s mg mb fa o pm cd doc a vs ns G0 Y ho hd hcd hmg hobj hints hlen hbits hg
  obtain ⟨K, KX, G, fd, cs, gk, t1, t2, t3, hb, hT, hF⟩ := F w mg fa _ Y G0.T.g hmg
  exact law_runs KX G0.T.g G0.T.b G0.T.builtins G0.T.nolimit hg t1 t2 t3 G0.T.bmain hobj hints (Nat.le_trans hlen hn2) hr hF hb gk hT (plain ns hlen)
end Iv
set_option Elab.async false
set_option linter.all false
set_option maxRecDepth 100000
set_option maxHeartbeats 2000000
set_option autoImplicit false
/-! Iv, part S: what meanings answer: tools for the plain laws. -/
namespace Iv
open PySem PySem.Spec PyProof.Rows L2
theorem ev_bind {α β : Type} (a : α) (μ : Mu) (f : α → Mu → Res β) : (Res.ok a μ).bind f = f a μ := rfl
theorem ev_berr {α β : Type} (c : Nat) (ns : List Str) (vs : List D) (μ : Mu) (f : α → Mu → Res β) : (Res.err c ns vs μ : Res α).bind f = .err c ns vs μ := rfl
theorem ev_then {α : Type} (a : α) (μ : Mu) (ρ : Rho) (f : α → Mu → RS) : (Res.ok a μ).thenS ρ f = f a μ := rfl
theorem ev_terr {α : Type} (c : Nat) (ns : List Str) (vs : List D) (μ : Mu) (ρ : Rho) (f : α → Mu → RS) : (Res.err c ns vs μ : Res α).thenS ρ f = .err c ns vs ρ μ := rfl
/-! ### data that freezes to itself -/
theorem OD.us_ob (o : OD) : ∃ ds : List D, o.ob.us = ds.map .d ∧ (o.ob.live = true → o.ob.re ds = o.ob) := by
  cases o with
  | fz x => exact ⟨[], rfl, fun h => nomatch h⟩
  | lst l => exact ⟨l, rfl, fun _ => rfl⟩
  | dic ks vs => exact ⟨vs, rfl, fun _ => rfl⟩
  | dit ks vs => exact ⟨vs, rfl, fun _ => rfl⟩
  | ins c ns vs => exact ⟨vs, rfl, fun _ => rfl⟩
theorem set_self {μ : Mu} {i : Nat} {ob : Ob} (h : μ[i]? = some ob) : μ.set i ob = μ := by
  apply List.ext_getElem?
  intro j
  by_cases e : i = j
  · subst e
    rw [h, List.getElem?_set_self (List.getElem?_eq_some_iff.mp h).1]
  · rw [List.getElem?_set_ne e]
theorem clean_d {μ : Mu} {i : Nat} {o : OD} (h : μ[i]? = some o.ob) : clean i μ = some μ := by
  unfold clean
  rw [h]
  dsimp only
  by_cases hl : o.ob.live = true
  · rw [if_pos hl]
    obtain ⟨ds, e1, e2⟩ := o.us_ob
    rw [e1, frzL_d]
    dsimp only
    rw [h]
    dsimp only
    rw [if_pos hl, e2 hl, set_self h]
  · rw [if_neg hl]
theorem cleans_d {os : List OD} {ex : Mu} : ∀ k, k ≤ os.length → cleans k (obs os ++ ex) = some (obs os ++ ex)
  | 0, _ => rfl
  | k + 1, h => by
    show (match cleans k (obs os ++ ex) with | some μ1 => clean k μ1 | none => none) = _
    rw [cleans_d k (Nat.le_of_succ_le h)]
    have hk : k < os.length := h
    refine clean_d (o := os[k]) ?_
    rw [List.getElem?_append_left (by rw [List.length_map]; exact hk), List.getElem?_map, List.getElem?_eq_getElem hk]
    rfl
theorem take_obs {os : List OD} {ex : Mu} : (obs os ++ ex).take os.length = obs os := by
  rw [List.take_append_of_le_length (by rw [List.length_map]; exact Nat.le_refl _), List.take_of_length_le (by rw [List.length_map]; exact Nat.le_refl _)]
/-- a def's ends: data handed back; nothing; an error -/
theorem ex_ret {os : List OD} {ex : Mu} {d : D} : exitF os.length false (.ret (.d d) (obs os ++ ex)) = .ok (.d d) os none := by
  unfold exitF finF
  dsimp only
  rw [if_neg Bool.false_ne_true]
  rw [cleans_d _ (Nat.le_refl _)]
  dsimp only
  rw [take_obs, readOs_obs]
theorem ex_nx {os : List OD} {ex : Mu} {ρ : Rho} {b : Bool} : exitF os.length b (.nx ρ (obs os ++ ex)) = .ok (.d .non) os none := by
  unfold exitF finF
  dsimp only
  rw [cleans_d _ (Nat.le_refl _)]
  dsimp only
  rw [take_obs, readOs_obs]
theorem ex_err {os : List OD} {ex : Mu} {ρ : Rho} {b : Bool} {c : Nat} {ns : List Str} {vs : List D} : exitF os.length b (.err c ns vs ρ (obs os ++ ex)) = .err c ns vs os := by
  unfold exitF
  dsimp only
  rw [cleans_d _ (Nat.le_refl _)]
  dsimp only
  rw [take_obs, readOs_obs]
/-! ### calls -/
/-- nothing that may change is handed over -/
theorem pass_d : ∀ (fl : List Bool) (ds : List D) (μ : Mu) (ns : List Nat), pass fl (ds.map .d) μ ns = some (ds.map .d, ns, μ)
  | fl, [], μ, ns => by cases fl <;> rfl
  | [], d :: ds, μ, ns => by
    show (match pass [] (ds.map .d) μ ns with | some (ws, ns2, μ2) => some (U.d d :: ws, ns2, μ2) | none => none) = _
    rw [pass_d [] ds μ ns]
    rfl
  | true :: fl, d :: ds, μ, ns => by
    show (match pass fl (ds.map .d) μ ns with | some (ws, ns2, μ2) => some (U.d d :: ws, ns2, μ2) | none => none) = _
    rw [pass_d fl ds μ ns]
    rfl
  | false :: fl, d :: ds, μ, ns => by
    show (match pass fl (ds.map .d) μ ns with | some (ws, ns2, μ2) => some (U.d d :: ws, ns2, μ2) | none => none) = _
    rw [pass_d fl ds μ ns]
    rfl
theorem call_d {f : Fn} {fl : List Bool} {ds : List D} {μ : Mu} {d : D} (h : f (ds.map .d) [] = .ok (.d d) [] none) : callL f fl (ds.map .d) μ = .ok (.d d) μ := by
  unfold callL
  rw [pass_d]
  dsimp only
  rw [if_pos List.nodup_nil]
  show back [] μ (f (ds.map .d) []) = _
  rw [h]
  rfl
theorem call_de {f : Fn} {fl : List Bool} {ds : List D} {μ : Mu} {c : Nat} {ns : List Str} {vs : List D} (h : f (ds.map .d) [] = .err c ns vs []) : callL f fl (ds.map .d) μ = .err c ns vs μ := by
  unfold callL
  rw [pass_d]
  dsimp only
  rw [if_pos List.nodup_nil]
  show back [] μ (f (ds.map .d) []) = _
  rw [h]
  rfl
/-- the first argument is handed over as itself -/
theorem call_p {f : Fn} {ds : List D} {μ : Mu} {k : Nat} {o o' : OD} {d : D} (hk : μ[k]? = some o.ob) (hl : o.live = true) (h : f (.p 0 :: ds.map .d) [o] = .ok (.d d) [o'] none) : callL f [true] (.p k :: ds.map .d) μ = .ok (.d d) (μ.set k o'.ob) := by
  have hp : pass [true] (.p k :: ds.map .d) μ [] = some (.p 0 :: ds.map .d, [k], μ) := by
    show (match ((clean k μ).map fun μ1 => (U.p ([] : List Nat).length, ([] : List Nat) ++ [k], μ1) : Option (U × List Nat × Mu)) with
      | some (w, ns1, μ1) => (match pass [] (ds.map .d) μ1 ns1 with
        | some (ws, ns2, μ2) => some (w :: ws, ns2, μ2)
        | none => none)
      | none => none) = _
    rw [clean_d hk]
    show (match pass [] (ds.map .d) μ [k] with | some (ws, ns2, μ2) => some (U.p 0 :: ws, ns2, μ2) | none => none) = _
    rw [pass_d]
  unfold callL
  rw [hp]
  dsimp only
  rw [if_pos (by simp)]
  have hr : readAt μ [k] = some [o] := by
    unfold readAt
    rw [hk]
    dsimp only
    rw [if_pos (by rw [OD.ob_live]; exact hl), readO_ob]
    rfl
  rw [hr]
  dsimp only
  rw [h]
  rfl
/-! ### lists against the empty list -/
theorem pyL_int : ∀ ns : List Int, D.pyL (ns.map .int) = some (ns.map .int)
  | [] => rfl
  | n :: ns => by
    rw [List.map_cons, D.pyL, pyL_int ns]
    rfl
theorem pyL_str : ∀ ns : List Str, D.pyL (ns.map .str) = some (ns.map .str)
  | [] => rfl
  | n :: ns => by
    rw [List.map_cons, D.pyL, pyL_str ns]
    rfl
theorem can_int : ∀ ns : List Int, PyData.canLayAll0 (ns.map .int) = true ∧ PyData.depthAll (ns.map .int) = 0
  | [] => ⟨by simp only [List.map_nil, PyData.canLayAll0], by simp only [List.map_nil, PyData.depthAll]⟩
  | n :: ns => by
    obtain ⟨h1, h2⟩ := can_int ns
    exact ⟨by simp only [List.map_cons, PyData.canLayAll0, PyData.canLay0, h1, Bool.and_self], by simp only [List.map_cons, PyData.depthAll, PyData.depth, h2, Nat.max_self]⟩
theorem can_str : ∀ ns : List Str, ns.all PyData.strOk = true → PyData.canLayAll0 (ns.map .str) = true ∧ PyData.depthAll (ns.map .str) = 0
  | [], _ => ⟨by simp only [List.map_nil, PyData.canLayAll0], by simp only [List.map_nil, PyData.depthAll]⟩
  | n :: ns, h => by
    rw [List.all_cons, Bool.and_eq_true] at h
    obtain ⟨h1, h2⟩ := can_str ns h.2
    exact ⟨by simp only [List.map_cons, PyData.canLayAll0, PyData.canLay0, h1, h.1, Bool.and_self], by simp only [List.map_cons, PyData.depthAll, PyData.depth, h2, Nat.max_self]⟩
theorem eqv_nil : ∀ ps : List PyData, PyData.eqv (.list ps) (.list []) = ps.isEmpty
  | [] => by simp [PyData.eqv, PyData.eqvAll]
  | p :: ps => by simp [PyData.eqv, PyData.eqvAll]
theorem shaped_nil : SeqAt.shaped (.list []) = true := by decide +kernel
theorem ne_ints (ns : List Int) (μ : Mu) : fNe (.d (.lst (ns.map .int))) (.d (.lst [])) μ = .ok (.d (.bl (!ns.isEmpty))) μ := by
  have hs : SeqAt.shaped (.list (ns.map PyData.int)) = true := by
    unfold SeqAt.shaped
    simp only [PyData.canLay0, PyData.depth, (can_int ns).1, (can_int ns).2, Bool.true_and]
    decide
  have h1 : eqD μ (.d (.lst (ns.map .int))) (.d (.lst [])) = some ns.isEmpty := by
    simp only [eqD, valD, scB, D.py, pyL_int, Option.map_some, show D.pyL [] = some [] from rfl]
    rw [if_pos ⟨hs, shaped_nil⟩, eqv_nil]
    cases ns <;> rfl
  unfold fNe
  rw [h1]
theorem ne_strs (ns : List Str) (h : ns.all PyData.strOk = true) (μ : Mu) : fNe (.d (.lst (ns.map .str))) (.d (.lst [])) μ = .ok (.d (.bl (!ns.isEmpty))) μ := by
  have hs : SeqAt.shaped (.list (ns.map PyData.str)) = true := by
    unfold SeqAt.shaped
    simp only [PyData.canLay0, PyData.depth, (can_str ns h).1, (can_str ns h).2, Bool.true_and]
    decide
  have h1 : eqD μ (.d (.lst (ns.map .str))) (.d (.lst [])) = some ns.isEmpty := by
    simp only [eqD, valD, scB, D.py, pyL_str, Option.map_some, show D.pyL [] = some [] from rfl]
    rw [if_pos ⟨hs, shaped_nil⟩, eqv_nil]
    cases ns <;> rfl
  unfold fNe
  rw [h1]
/-! ### the pen -/
def pen (ns : List Int) (at_ rest : Int) : OD := .lst [.lst (ns.map .int), .int at_, .int rest]
def pn (ns : List Int) (at_ rest : Int) : Mu := [(pen ns at_ rest).ob]
/-- f, handed the pen and args, draws at most c times and answers by what P says -/
def Dr (ns : List Int) (c : Int) (P : D → Prop) (m : Mu → Res U) : Prop := ∀ at_ rest : Int, 0 ≤ at_ → at_ + c ≤ 1000001 → 0 ≤ rest → ∃ d at2 rest2, P d ∧ at_ ≤ at2 ∧ at2 ≤ at_ + c ∧ 0 ≤ rest2 ∧ m (pn ns at_ rest) = .ok (.d d) (pn ns at2 rest2)
/-- .. of a def -/
abbrev DrF (ns : List Int) (c : Int) (F : Fn) (args : List D) (P : D → Prop) : Prop := Dr ns c P fun μ => callL F [true] (.p 0 :: args.map .d) μ
theorem DrF.of {ns : List Int} {c : Int} {F : Fn} {args : List D} {P : D → Prop}
    (h : ∀ at_ rest : Int, 0 ≤ at_ → at_ + c ≤ 1000001 → 0 ≤ rest → ∃ d at2 rest2, P d ∧ at_ ≤ at2 ∧ at2 ≤ at_ + c ∧ 0 ≤ rest2 ∧ F (.p 0 :: args.map .d) [pen ns at_ rest] = .ok (.d d) [pen ns at2 rest2] none) : DrF ns c F args P := fun at_ rest h1 h2 h3 => by
  obtain ⟨d, at2, rest2, p, q1, q2, q3, e⟩ := h at_ rest h1 h2 h3
  exact ⟨d, at2, rest2, p, q1, q2, q3, call_p (k := 0) (o := pen ns at_ rest) (μ := pn ns at_ rest) rfl rfl e⟩
theorem DrF.ofB {ns : List Int} {c : Int} {args : List D} {P : D → Prop} {N : Nat} {b : SmS}
    (h : ∀ at_ rest : Int, 0 ≤ at_ → at_ + c ≤ 1000001 → 0 ≤ rest → ∃ d at2 rest2 ex, P d ∧ at_ ≤ at2 ∧ at2 ≤ at_ + c ∧ 0 ≤ rest2 ∧ b ((U.p 0 :: args.map .d).map some ++ List.replicate (N - (U.p 0 :: args.map .d).length) none) (pn ns at_ rest) = .ret (.d d) (pn ns at2 rest2 ++ ex)) : DrF ns c (entry N false b) args P := DrF.of fun at_ rest h1 h2 h3 => by
  obtain ⟨d, at2, rest2, ex, p, q1, q2, q3, e⟩ := h at_ rest h1 h2 h3
  refine ⟨d, at2, rest2, p, q1, q2, q3, ?_⟩
  show exitF [pen ns at_ rest].length false (b ((U.p 0 :: args.map .d).map some ++ List.replicate (N - (U.p 0 :: args.map .d).length) none) (pn ns at_ rest)) = _
  rw [e]
  exact ex_ret (os := [pen ns at2 rest2]) (ex := ex)
theorem Dr.mono {ns : List Int} {c c' : Int} {P P' : D → Prop} {m : Mu → Res U} (h : Dr ns c P m) (hc : c ≤ c') (hp : ∀ d, P d → P' d) : Dr ns c' P' m := fun at_ rest h1 h2 h3 => by
  obtain ⟨d, at2, rest2, p, q1, q2, q3, e⟩ := h at_ rest h1 (by omega) h3
  exact ⟨d, at2, rest2, hp d p, q1, by omega, q3, e⟩
/-- [e for i in range(n)], e a draw -/
theorem comp_rng {ns : List Int} {i : Nat} {own : List Nat} {elt : Sm U} {ρ : Rho} {c : Int} {P : D → Prop} (hc : 0 ≤ c) (he : ∀ j : Int, Dr ns c P (elt ((wipeR ρ own).set i (some (.d (.int j)))))) (n : Nat) :
    ∀ (k m : Nat) (at_ rest : Int) (acc : List D), m + k = n → n < 100000 → acc.length ≤ m → (∀ d ∈ acc, P d) → 0 ≤ at_ → at_ + k * c ≤ 1000001 → 0 ≤ rest →
      ∃ (ds : List D) (at2 rest2 : Int), ds.length = acc.length + k ∧ (∀ d ∈ ds, P d) ∧ at_ ≤ at2 ∧ at2 ≤ at_ + k * c ∧ 0 ≤ rest2 ∧ compG (.nm i) own tYes' elt (rngW 0 n).nxt (k + 1) m ρ (pn ns at_ rest) (acc.map .d) = .ok (ds.map .d) (pn ns at2 rest2)
  | 0, m, at_, rest, acc, hm, hn, ha, hp, h1, h2, h3 => by
    refine ⟨acc, at_, rest, rfl, hp, Int.le_refl _, by omega, h3, ?_⟩
    have hx : (rngW 0 n).nxt m (pn ns at_ rest) = some none := by
      show some (if m < n then some (U.d (.int (0 + (m : Nat)))) else none) = _
      rw [if_neg (by omega)]
    show (match (rngW 0 n).nxt m (pn ns at_ rest) with
      | none => .bad
      | some none => .ok (acc.map .d) (pn ns at_ rest)
      | some (some u) => _ : Res (List U)) = _
    rw [hx]
  | k + 1, m, at_, rest, acc, hm, hn, ha, hp, h1, h2, h3 => by
    have hkc : ((k + 1 : Nat) : Int) * c = k * c + c := by
      rw [show ((k + 1 : Nat) : Int) = (k : Int) + 1 from rfl, Int.add_mul, Int.one_mul]
    rw [hkc] at h2 ⊢
    have hk0 : 0 ≤ (k : Int) * c := Int.mul_nonneg (by omega) hc
    have hx : (rngW 0 n).nxt m (pn ns at_ rest) = some (some (.d (.int (0 + (m : Nat))))) := by
      show some (if m < n then some (U.d (.int (0 + (m : Nat)))) else none) = _
      rw [if_pos (by omega)]
    obtain ⟨d, at2, rest2, p, q1, q2, q3, e⟩ := he (0 + (m : Nat)) at_ rest h1 (by omega) h3
    obtain ⟨ds, at3, rest3, r1, r2, r3, r4, r5, e2⟩ := comp_rng hc he n k (m + 1) at2 rest2 (acc ++ [d]) (by omega) hn (by rw [List.length_append]; show acc.length + 1 ≤ _; omega) (fun x hx => by
      rcases List.mem_append.mp hx with hx | hx
      · exact hp x hx
      · rw [List.mem_singleton.mp hx]; exact p) (by omega) (by omega) q3
    refine ⟨ds, at3, rest3, ?_, r2, by omega, by omega, r5, ?_⟩
    · rw [r1, List.length_append]
      show acc.length + 1 + k = _
      omega
    · rw [compG, hx]
      dsimp only
      show (match tYes' ((wipeR ρ own).set i (some (.d (.int (0 + (m : Nat)))))) (pn ns at_ rest) with
        | .ok true μ1 => (match elt ((wipeR ρ own).set i (some (.d (.int (0 + (m : Nat)))))) μ1 with
          | .ok y μ2 => if (acc.map U.d).length < 100000 then compG (.nm i) own tYes' elt (rngW 0 n).nxt (k + 1) (m + 1) ρ μ2 (acc.map U.d ++ [y]) else .bad
          | _ => .bad)
        | .ok false μ1 => compG (.nm i) own tYes' elt (rngW 0 n).nxt (k + 1) (m + 1) ρ μ1 (acc.map U.d)
        | _ => .bad : Res (List U)) = _
      show (match elt ((wipeR ρ own).set i (some (.d (.int (0 + (m : Nat)))))) (pn ns at_ rest) with
          | .ok y μ2 => if (acc.map U.d).length < 100000 then compG (.nm i) own tYes' elt (rngW 0 n).nxt (k + 1) (m + 1) ρ μ2 (acc.map U.d ++ [y]) else .bad
          | _ => .bad : Res (List U)) = _
      rw [e]
      dsimp only
      rw [if_pos (by rw [List.length_map]; omega)]
      rw [List.map_append] at e2
      exact e2
/-- .. as a value -/
theorem vcomp_rng {ns : List Int} {i : Nat} {own : List Nat} {elt : Sm U} {ρ : Rho} {w : Sm Wlk} {c : Int} {P : D → Prop} {n : Nat} {at_ rest : Int} (hw : w ρ (pn ns at_ rest) = .ok (rngW 0 n) (pn ns at_ rest)) (hc : 0 ≤ c) (he : ∀ j : Int, Dr ns c P (elt ((wipeR ρ own).set i (some (.d (.int j)))))) (hn : n < 100000)
    (h1 : 0 ≤ at_) (h2 : at_ + n * c ≤ 1000001) (h3 : 0 ≤ rest) : ∃ (ds : List D) (at2 rest2 : Int), ds.length = n ∧ (∀ d ∈ ds, P d) ∧ at_ ≤ at2 ∧ at2 ≤ at_ + n * c ∧ 0 ≤ rest2 ∧ vComp w (.nm i) own tYes' elt ρ (pn ns at_ rest) = .ok (.d (.lst ds)) (pn ns at2 rest2) := by
  obtain ⟨ds, at2, rest2, r1, r2, r3, r4, r5, e⟩ := comp_rng hc he n n 0 at_ rest [] (by omega) hn (Nat.le_refl _) (fun d hd => by cases hd) h1 h2 h3
  refine ⟨ds, at2, rest2, by rw [r1]; show 0 + n = n; omega, r2, r3, r4, r5, ?_⟩
  unfold vComp
  rw [hw]
  show ((compG (.nm i) own tYes' elt (rngW 0 n).nxt (n + 1) 0 ρ (pn ns at_ rest) []).bind _) = _
  rw [show ([] : List U) = ([] : List D).map .d from rfl, e]
  show (match frzL (ds.map .d) (pn ns at2 rest2) with
    | some (ds, μ3) => .ok (.d (.lst ds)) μ3
    | none => .bad : Res U) = _
  rw [frzL_d]
/-! ### defs that are handed data alone -/
theorem en_ret {N : Nat} {b : SmS} {us : List U} {d : D} {ex : Mu} (e : b (us.map some ++ List.replicate (N - us.length) none) [] = .ret (.d d) ex) : entry N false b us [] = .ok (.d d) [] none := by
  show exitF ([] : List OD).length false (b (us.map some ++ List.replicate (N - us.length) none) []) = _
  rw [e]
  exact ex_ret (os := []) (ex := ex)
theorem en_nx {N : Nat} {b : SmS} {us : List U} {ρ : Rho} {ex : Mu} (e : b (us.map some ++ List.replicate (N - us.length) none) [] = .nx ρ ex) : entry N false b us [] = .ok (.d .non) [] none := by
  show exitF ([] : List OD).length false (b (us.map some ++ List.replicate (N - us.length) none) []) = _
  rw [e]
  exact ex_nx (os := []) (ex := ex)
theorem en_err {N : Nat} {b : SmS} {us : List U} {ρ : Rho} {ex : Mu} {c : Nat} {ns : List Str} {vs : List D} (e : b (us.map some ++ List.replicate (N - us.length) none) [] = .err c ns vs ρ ex) : entry N false b us [] = .err c ns vs [] := by
  show exitF ([] : List OD).length false (b (us.map some ++ List.replicate (N - us.length) none) []) = _
  rw [e]
  exact ex_err (os := []) (ex := ex)
/-! ### comprehensions over data that change nothing -/
theorem comp_d {ds : List D} {t : Tg} {own : List Nat} {cond : Sm Bool} {elt : Sm U} {ρ : Rho} {μ : Mu} {p : D → Bool} {g : D → D} {r : D → Rho} (hr : ∀ x ∈ ds, tgM t (.d x) (wipeR ρ own) = some (r x)) (hc : ∀ x ∈ ds, cond (r x) μ = .ok (p x) μ)
    (he : ∀ x ∈ ds, p x = true → elt (r x) μ = .ok (.d (g x)) μ) (hl : ds.length < 100000) : ∀ (k i : Nat) (acc : List D), i + k = ds.length → acc.length ≤ i →
      compG t own cond elt (wkD ds).nxt (k + 1) i ρ μ (acc.map .d) = .ok ((acc ++ ((ds.drop i).filter p).map g).map .d) μ
  | 0, i, acc, h, ha => by
    have hx : (wkD ds).nxt i μ = some none := by
      show some ((ds[i]?).map U.d) = _
      rw [List.getElem?_eq_none (by omega)]
      rfl
    rw [compG, hx, List.drop_of_length_le (by omega)]
    simp
  | k + 1, i, acc, h, ha => by
    have hi : i < ds.length := by omega
    have hm : ds[i] ∈ ds := List.getElem_mem hi
    have hx : (wkD ds).nxt i μ = some (some (.d ds[i])) := by
      show some ((ds[i]?).map U.d) = _
      rw [List.getElem?_eq_getElem hi]
      rfl
    rw [compG, hx]
    dsimp only
    rw [hr _ hm]
    dsimp only
    rw [hc _ hm, List.drop_eq_getElem_cons hi, List.filter_cons]
    cases hp : p ds[i] with
    | true =>
      dsimp only
      rw [he _ hm hp]
      dsimp only
      rw [if_pos (by rw [List.length_map]; omega)]
      have e := comp_d hr hc he hl k (i + 1) (acc ++ [g ds[i]]) (by omega) (by rw [List.length_append]; show acc.length + 1 ≤ _; omega)
      rw [List.map_append] at e
      have e3 : acc.map U.d ++ [U.d (g ds[i])] = acc.map U.d ++ ([g ds[i]].map U.d) := rfl
      rw [e3, e]
      simp
    | false =>
      dsimp only
      rw [comp_d hr hc he hl k (i + 1) acc (by omega) (by omega)]
      simp
theorem vcomp_d {ds : List D} {w : Sm Wlk} {t : Tg} {own : List Nat} {cond : Sm Bool} {elt : Sm U} {ρ : Rho} {μ0 μ : Mu} {p : D → Bool} {g : D → D} {r : D → Rho} (hw : w ρ μ0 = .ok (wkD ds) μ) (hr : ∀ x ∈ ds, tgM t (.d x) (wipeR ρ own) = some (r x)) (hc : ∀ x ∈ ds, cond (r x) μ = .ok (p x) μ)
    (he : ∀ x ∈ ds, p x = true → elt (r x) μ = .ok (.d (g x)) μ) (hl : ds.length < 100000) : vComp w t own cond elt ρ μ0 = .ok (.d (.lst ((ds.filter p).map g))) μ := by
  have e := comp_d hr hc he hl ds.length 0 [] (by omega) (Nat.le_refl _)
  unfold vComp
  rw [hw]
  show ((compG t own cond elt (wkD ds).nxt (ds.length + 1) 0 ρ μ []).bind _) = _
  rw [show ([] : List U) = ([] : List D).map .d from rfl, e]
  show (match frzL (([] ++ ((ds.drop 0).filter p).map g).map .d) μ with
    | some (ds, μ3) => .ok (.d (.lst ds)) μ3
    | none => .bad : Res U) = _
  rw [frzL_d]
  rfl
theorem bools_d (bs : List Bool) : boolsU ((bs.map D.bl).map U.d) = some bs := by
  induction bs with
  | nil => rfl
  | cons b bs ih =>
    show (boolsU ((bs.map D.bl).map U.d)).map (fun bs => b :: bs) = _
    rw [ih]
    rfl
theorem all_d (bs : List Bool) (μ : Mu) : fAllAny true (.d (.lst (bs.map D.bl))) μ = .ok (.d (.bl (bs.all id))) μ := by
  show (match boolsU ((bs.map D.bl).map U.d) with
    | some bs => Res.ok (U.d (D.bl (if true = true then bs.all id else bs.any id))) μ
    | none => .bad) = _
  rw [bools_d]
  rfl
end Iv
set_option Elab.async false
set_option linter.all false
set_option maxRecDepth 100000
set_option maxHeartbeats 2000000
set_option autoImplicit false
/-! Iv, part W: a < b < c. -/
namespace Iv
open PySem PySem.Spec PyProof.Rows L2
def chEnd (k : Mu → Res U) : U → Mu → Res U := fun r μ => match r with
  | .d (.bl true) => k μ
  | .d (.bl false) => .ok (.d (.bl false)) μ
  | _ => .bad
def v3 (f f' : U → U → Mu → Res U) (ma mb mc : Sm U) : Sm U := fun ρ μ => (ma ρ μ).bind fun u μ1 => (mb ρ μ1).bind fun w μ2 => (f u w μ2).bind (chEnd fun μ3 => (mc ρ μ3).bind (f' w))
section
variable {G : Gc} {W : WX} {X : Cx} {pos : Pos} {a b c : Expr} {ma mb mc : Sm U} {op op' : CmpOp} {r r' : R2} {f f' : U → U → Mu → Res U}
theorem rd3 (hf : Op2 G f r) (hf' : Op2 G f' r') (σ : L2.St) (H : Hp) (Q : VK) (h : rdE G W (v3 f f' ma mb mc) σ H Q) : tChain r r' (rdE G W ma) (rdE G W mb) (rdE G W mc) σ H Q := by
  obtain ⟨Z, φ, ρ, μ, sr, po⟩ := h
  refine rd_mono (po_step (R1 := RpU G) sr po) fun x H1 ⟨φ1, μ1, u, g1, sr1, ru, po1⟩ => ?_
  refine rd_mono (po_step (R1 := RpU G) sr1 po1) fun y H2 ⟨φ2, μ2, w, g2, sr2, rw2, po2⟩ => ?_
  refine hf Z W φ2 μ2 H2 σ x y u w _ sr2.rep (ru.mono g2) rw2 ?_
  cases e : f u w μ2 with
  | ok r1 μ3 =>
    rw [e] at po2
    intro φ3 H3 z g3 r3 rz
    have po3 := Po.go g3 po2
    have po4 : Po (RpU G) G Z W φ3 μ3 H3 σ (chEnd (fun μ3 => (mc ρ μ3).bind (f' w)) r1 μ3) Q := po3
    unfold chEnd at po4
    split at po4
    · refine ⟨true, rz, ?_⟩
      rw [if_pos rfl]
      refine rd_mono (po_step (R1 := RpU G) (sr2.go g3 r3) po4) fun z2 H4 ⟨φ4, μ4, zz, g4, sr4, rzz, po5⟩ => ?_
      exact hf' Z W φ4 μ4 H4 σ y z2 w zz Q sr4.rep ((rw2.mono g3).mono g4) rzz po5
    · refine ⟨false, rz, ?_⟩
      rw [if_neg Bool.false_ne_true]
      exact po4 φ3 H3 _ Go.refl r3 rfl
    · exact False.elim po4
  | err c2 ns vs μ3 => rw [e] at po2; exact po2
  | bad => rw [e] at po2; exact False.elim po2
theorem i_chain (ho : OpR X (compareOp op) r) (ho' : OpR X (compareOp op') r') (hf : Op2 G f r) (hf' : Op2 G f' r') (ha : PE X a (rdE G W ma)) (hb : PE X b (rdE G W mb)) (hc : PE X c (rdE G W mc))
    (hm : lastMarks [op, op'] [b, c] = false := by with_unfolding_all rfl) : PE X (.Compare a [op, op'] [b, c] pos) (rdE G W (v3 f f' ma mb mc)) := PE.imp (pe_chain ho ho' ha hb hc hm) (rd3 hf hf')
theorem i_tchain (ho : OpR X (compareOp op) r) (ho' : OpR X (compareOp op') r') (hf : Op2 G f r) (hf' : Op2 G f' r') (ha : PE X a (rdE G W ma)) (hb : PE X b (rdE G W mb)) (hc : PE X c (rdE G W mc))
    (hm : lastMarks [op, op'] [b, c] = false := by with_unfolding_all rfl) : PT X (.Compare a [op, op'] [b, c] pos) (rdT G W (tOf (v3 f f' ma mb mc))) :=
  PT.imp (pt_chain ho ho' ha hb hc hm) fun σ H Q h => by
    have k := rdTest σ H Q h
    exact rd3 hf hf' σ H _ k
end
end Iv
set_option Elab.async false
set_option linter.all false
set_option maxRecDepth 100000
set_option maxHeartbeats 2000000
set_option autoImplicit false
/-! Iv, part La: pop, insert, extend, reverse of a list that lives. -/
namespace Iv
open PySem PySem.Spec PyProof.Rows L2
section
variable {G : Gc} {Z : Addr → Prop} {φ : List Addr} {μ : Mu} {H : Hp} {S : Addr → Prop}
theorem RpUs.erase : ∀ {us : List U} {vs : List V} (n : Nat), RpUs G φ S H us vs → RpUs G φ S H (us.eraseIdx n) (vs.eraseIdx n)
  | [], vs, n, h => by rw [show vs = [] from h]; exact rfl
  | u :: us, _, 0, ⟨v, r, e, a, b⟩ => by subst e; exact b
  | u :: us, _, n + 1, ⟨v, r, e, a, b⟩ => by subst e; exact ⟨v, _, rfl, a, RpUs.erase n b⟩
theorem RpUs.dropLast : ∀ {us : List U} {vs : List V}, RpUs G φ S H us vs → RpUs G φ S H us.dropLast vs.dropLast
  | [], vs, h => by rw [show vs = [] from h]; exact rfl
  | [u], _, ⟨v, r, e, a, b⟩ => by subst e; rw [show r = [] from b]; exact rfl
  | u :: u2 :: us, _, ⟨v, r, e, a, ⟨v2, r2, e2, a2, b2⟩⟩ => by
    subst e2; subst e
    exact ⟨v, _, rfl, a, RpUs.dropLast (us := u2 :: us) (vs := v2 :: r2) ⟨v2, r2, rfl, a2, b2⟩⟩
theorem RpUs.rev {us : List U} {vs : List V} (h : RpUs G φ S H us vs) : RpUs G φ S H us.reverse vs.reverse := by
  induction us generalizing vs with
  | nil => rw [show vs = [] from h]; exact rfl
  | cons u us ih =>
    obtain ⟨v, r, rfl, a, b⟩ := h
    rw [List.reverse_cons, List.reverse_cons]
    exact (ih b).app ⟨v, [], rfl, a, rfl⟩
/-- a list is written -/
theorem lst_wr {W : WX} {σ : L2.St} {n : Nat} {a : Addr} {l l' : List U} {vs vs' : List V} {u : U} {x : V} {Q : VK} (r : Rep G Z φ H μ) (ha : φ[n]? = some a) (hl : μ[n]? = some (.lst l)) (e : H a = some (.lst vs)) (q : RpUs G φ (Sof Z φ μ) H l' vs') (ru : RpU G φ (Sof Z φ μ) H u x)
    (po : Po (RpU G) G Z W φ μ H σ (.ok u (μ.set n (.lst l'))) Q) : Q x (upd H a (.lst vs')) := by
  have g : Go Z φ μ H φ (μ.set n (.lst l')) (upd H a (.lst vs')) := Go.wr r ha hl rfl
  exact po φ _ _ g (r.wr ha hl rfl (lst_ntbl e) (lst_ncode e) ⟨_, upd_same, q.mono g⟩) (ru.mono g)
end
section
variable {G : Gc}
/-- xs.pop(), xs.pop(i) -/
def fPop : U → List U → Mu → Res U := fun u us μ => match u with
  | .p n => match μ[n]? with
    | some (.lst l) => match us with
      | [.d (.int i)] => if -(2 ^ 63) ≤ i ∧ i < 2 ^ 63 then (match seqIndex? i l.length with
        | some k => (match l[k]? with
          | some w => .ok w (μ.set n (.lst (l.eraseIdx k)))
          | none => .bad)
        | none => .bad) else .bad
      | _ => .bad
    | _ => .bad
  | _ => .bad
theorem fPop_ok : OpM G fPop (fun _ x xs H Q => rPopAt x xs H Q) := fun Z W φ μ H σ x u xs us Q r ru rus po => by
  unfold fPop at po
  split at po
  · rename_i n
    split at po
    · rename_i l hl
      obtain ⟨a, rfl, ha⟩ := ru
      obtain ⟨vs, e, q⟩ := r.at_ n a _ ha hl
      split at po
      · rename_i i
        obtain ⟨y, rr, rfl, ry, rnil⟩ := rus
        cases (show rr = [] from rnil)
        cases (show y = .int i from ry)
        split at po
        · rename_i hi
          split at po
          · rename_i k hk
            split at po
            · rename_i w hw
              rcases q.at2 k with ⟨e1, _⟩ | ⟨w', v, e1, e2, rv⟩
              · rw [hw] at e1; cases e1
              · rw [hw] at e1; cases e1
                exact ⟨a, vs, i, k, v, rfl, rfl, e, hi.1, hi.2, by rw [q.length]; exact hk, e2, lst_wr r ha hl e (q.erase k) rv po⟩
            · exact False.elim po
          · exact False.elim po
        · exact False.elim po
      · exact False.elim po
    · exact False.elim po
  · exact False.elim po
def fPop0 : U → List U → Mu → Res U := fun u us μ => match u, us with
  | .p n, [] => match μ[n]? with
    | some (.lst l) => match l[l.length - 1]? with
      | some w => .ok w (μ.set n (.lst l.dropLast))
      | none => .bad
    | _ => .bad
  | _, _ => .bad
theorem fPop0_ok : OpM G fPop0 (fun _ x xs H Q => rPop x xs H Q) := fun Z W φ μ H σ x u xs us Q r ru rus po => by
  unfold fPop0 at po
  split at po
  · rename_i n
    split at po
    · rename_i l hl
      obtain ⟨a, rfl, ha⟩ := ru
      obtain ⟨vs, e, q⟩ := r.at_ n a _ ha hl
      cases (show xs = [] from rus)
      split at po
      · rename_i w hw
        rcases q.at2 (l.length - 1) with ⟨e1, _⟩ | ⟨w', v, e1, e2, rv⟩
        · rw [hw] at e1; cases e1
        · rw [hw] at e1; cases e1
          exact ⟨a, vs, v, rfl, rfl, e, by rw [q.length]; exact e2, lst_wr r ha hl e q.dropLast rv po⟩
      · exact False.elim po
    · exact False.elim po
  · exact False.elim po
/-- xs.insert(i, y), i not below 0 -/
def fIns : U → List U → Mu → Res U := fun u us μ => match u, us with
  | .p n, [.d (.int i), w] => match μ[n]? with
    | some (.lst l) => if l.length < 100000 ∧ 0 ≤ i ∧ i < 2 ^ 63 then .ok (.d .non) (μ.set n (.lst (l.take i.toNat ++ [w] ++ l.drop i.toNat))) else .bad
    | _ => .bad
  | _, _ => .bad
def rInsX : V → List V → Hp → VK → Prop := fun x vs H Q => ∃ (l : Addr) (xs : List V) (i : Int) (y : V), x = .ref l ∧ vs = [.int i, y] ∧ H l = some (.lst xs) ∧ xs.length < sizeLine ∧ 0 ≤ i ∧ i < 2 ^ 63 ∧ Q .non (upd H l (.lst (xs.take i.toNat ++ [y] ++ xs.drop i.toNat)))
theorem fIns_ok : OpM G fIns (fun _ x xs H Q => rInsX x xs H Q) := fun Z W φ μ H σ x u xs us Q r ru rus po => by
  unfold fIns at po
  split at po
  · rename_i n i w
    split at po
    · rename_i l hl
      obtain ⟨a, rfl, ha⟩ := ru
      obtain ⟨vs, e, q⟩ := r.at_ n a _ ha hl
      obtain ⟨y, rr, rfl, ry, y2, rr2, rfl, ry2, rnil⟩ := rus
      cases (show rr2 = [] from rnil)
      cases (show y = .int i from ry)
      split at po
      · rename_i hi
        exact ⟨a, vs, i, y2, rfl, rfl, e, by rw [q.length]; exact Nat.lt_of_lt_of_le hi.1 (by decide), hi.2.1, hi.2.2, lst_wr r ha hl e (((q.take i.toNat).app (show RpUs G φ (Sof Z φ μ) H [w] [y2] from ⟨y2, [], rfl, ry2, rfl⟩)).app (q.drop i.toNat)) (show RpU G φ _ H (.d .non) .non from rfl) po⟩
      · exact False.elim po
    · exact False.elim po
  · exact False.elim po
def fRevM : U → List U → Mu → Res U := fun u us μ => match u, us with
  | .p n, [] => match μ[n]? with
    | some (.lst l) => .ok (.d .non) (μ.set n (.lst l.reverse))
    | _ => .bad
  | _, _ => .bad
theorem fRevM_ok : OpM G fRevM (fun _ x xs H Q => rReverse x xs H Q) := fun Z W φ μ H σ x u xs us Q r ru rus po => by
  unfold fRevM at po
  split at po
  · rename_i n
    split at po
    · rename_i l hl
      obtain ⟨a, rfl, ha⟩ := ru
      obtain ⟨vs, e, q⟩ := r.at_ n a _ ha hl
      cases (show xs = [] from rus)
      exact ⟨a, vs, rfl, rfl, e, lst_wr r ha hl e q.rev (show RpU G φ _ H (.d .non) .non from rfl) po⟩
    · exact False.elim po
  · exact False.elim po
end
section
variable {X : Cx}
theorem mt_insX : MtR X "list.insert" rInsX := mt_insert
end
end Iv
set_option Elab.async false
set_option linter.all false
set_option maxRecDepth 100000
set_option maxHeartbeats 2000000
set_option autoImplicit false
/-! Iv, part Hk: the head's hook with defs at any address (classmethods, properties) and lambdas' tables. -/
namespace Iv
open PySem PySem.Spec PyProof.Rows L2
abbrev AlY : Type := He.AlD × Bool
def obsY (n : Nat) (fa : List He.Fa) (fn : List He5.DefA) (tf : List He.Defn) (ex : PySem.W.Frag → Bool) (g : Addr → Option Obj) : AlY :=
  (He5.obsA fa fn (He.frT g (He5.asA g n)), ex (He.frT g (He5.asA g n)) && He.tabsB g tf (He.frT g (He5.asA g n)))
def valY (fn : List He5.DefA) : AlY := (He5.valA fn, true)
structure SaysY (fa : List He.Fa) (fn : List He5.DefA) (tf : List He.Defn) (ex : PySem.W.Frag → Bool) (h : Heap) (K : PySem.W.Frag) : Prop where
  d : He5.SaysA fa fn K
  more : ex K = true
  hd : ∀ p ∈ tf, PySem.W.codeHdIn K (He.cT K p).1 (He.cT K p).2 = true
  out : ∀ p ∈ tf, K.lookup (He.cT K p).2 = none
  empty : ∀ p ∈ tf, h.get? (He.cT K p).2 = some { cls := .none, data := .fields #[] }
theorem saysY_of {n : Nat} {fa : List He.Fa} {fn : List He5.DefA} {tf : List He.Defn} {ex : PySem.W.Frag → Bool} {h : Heap} (e : obsY n fa fn tf ex h.get? = valY fn) : SaysY fa fn tf ex h (He.frT h.get? (He5.asA h.get? n)) := by
  have e1 : He5.obsA fa fn (He.frT h.get? (He5.asA h.get? n)) = He5.valA fn := congrArg (fun z : AlY => z.1) e
  have e2 : (ex (He.frT h.get? (He5.asA h.get? n)) && He.tabsB h.get? tf (He.frT h.get? (He5.asA h.get? n))) = true := congrArg (fun z : AlY => z.2) e
  obtain ⟨h1, h2⟩ := He.ba e2
  have key : ∀ p ∈ tf, PySem.W.codeHdIn (He.frT h.get? (He5.asA h.get? n)) (He.cT (He.frT h.get? (He5.asA h.get? n)) p).1 (He.cT (He.frT h.get? (He5.asA h.get? n)) p).2 = true ∧ ∃ o, h.get? (He.cT (He.frT h.get? (He5.asA h.get? n)) p).2 = some o ∧ He.emptyTab o = true := by
    intro p hp
    obtain ⟨h3, h4⟩ := He.ba (List.all_eq_true.mp h2 p hp)
    refine ⟨h3, ?_⟩
    cases q : h.get? (He.cT (He.frT h.get? (He5.asA h.get? n)) p).2 with
    | none =>
      rw [q] at h4
      cases h4
    | some o =>
      rw [q] at h4
      exact ⟨o, rfl, h4⟩
  exact ⟨e1, h1, fun p hp => (key p hp).1, fun p hp => by
    obtain ⟨_, o, q, z⟩ := key p hp
    exact He.frT_none q z, fun p hp => by
    obtain ⟨_, o, q, z⟩ := key p hp
    rw [q, He.emptyTab_eq z]⟩
def hookY (n : Nat) (fa : List He.Fa) (fn : List He5.DefA) (tf : List He.Defn) (ex : PySem.W.Frag → Bool) : PySem.W.Hook where
  α := AlY
  obs := fun s => obsY n fa fn tf ex s.heap.get?
  val := fun _ => valY fn
  says := fun _ h => ∃ K : PySem.W.Frag, K.In h ∧ SaysY fa fn tf ex h K
  of := fun _ _ e => ⟨_, He.frT_in, saysY_of e⟩
  keeps := fun _ _ _ ⟨K, hK, c⟩ k => ⟨K, PySem.W.Frag.In.keeps hK k, ⟨c.d, c.more, c.hd, c.out, fun p hp => k _ _ (c.empty p hp)⟩⟩
theorem obsY_eq {n : Nat} {fa : List He.Fa} {fn : List He5.DefA} {tf : List He.Defn} {ex : PySem.W.Frag → Bool} {g : Addr → Option Obj} {s : Shared} (h : ∀ a, g a = s.heap.get? a) : obsY n fa fn tf ex g = (hookY n fa fn tf ex).obs s := by
  have e : g = s.heap.get? := funext h
  rw [e] <;> rfl
/-! ### bools -/
def insCB (K : PySem.W.Frag) (C : Addr) : Bool := He.eqO (PySem.W.findIn K (.ref C) "__class__") (some (some (.builtin "object.__class__"))) &&
  (He.eqO (PySem.W.specialIn K (.builtin "object.__class__") "__get__") (some (some (.builtin "getset_descriptor.__get__"))) && (decide (PySem.W.takesIn K (.builtin "object.__class__") = some true) &&
  (decide (PySem.W.mroIn K C (.type "object") = some true) && decide (PySem.W.kitOne K (.ref C) (.ref C) = some true))))
theorem insCB_ok {K : PySem.W.Frag} {C : Addr} (c : Cls K C) (h : insCB K C = true) : InsC K C := by
  obtain ⟨h1, h⟩ := He.ba h
  obtain ⟨h2, h⟩ := He.ba h
  obtain ⟨h3, h⟩ := He.ba h
  obtain ⟨h4, h5⟩ := He.ba h
  exact InsC.mk c (He.eqO_ok h1) (He.eqO_ok h2) (of_decide_eq_true h3) (of_decide_eq_true h4)
def cReadB (K : PySem.W.Frag) (C : Addr) : Bool := PySem.W.readsIn K C (.type "type") && He.eqO (PySem.W.specialIn K (.ref C) "__getattribute__") (some (some (.builtin "type.__getattribute__")))
theorem cReadB_ok {K : PySem.W.Frag} {C : Addr} (h : cReadB K C = true) : ClX.CRead K C (.type "type") := by
  obtain ⟨h1, h2⟩ := He.ba h
  exact ⟨h1, He.eqO_ok h2⟩
def cMetB (K : PySem.W.Frag) (C : Addr) (m : Str) : Bool := He5.wrapB K C "classmethod" "classmethod.__get__" m && PySem.W.fnIn K (He5.wf K C "classmethod" m)
theorem cMetB_ok {K : PySem.W.Frag} {C : Addr} {m : Str} (h : cMetB K C m = true) : ClX.CMet K C (.type "type") m (He.ma K C m) (He5.wf K C "classmethod" m) := by
  obtain ⟨h1, h2⟩ := He.ba h
  obtain ⟨h3, h4⟩ := He5.wrapB_ok h1
  exact ⟨h3, h4, h2⟩
def propB (K : PySem.W.Frag) (C : Addr) (f : Str) : Bool := He.eqO (PySem.W.findIn K (.ref C) f) (some (some (.ref (He.ma K C f)))) && (He.eqO (PySem.W.specialIn K (.ref (He.ma K C f)) "__get__") (some (some (.builtin "property.__get__"))) &&
  (decide (PySem.W.takesIn K (.ref (He.ma K C f)) = some true) && (match PySem.W.recIn K (He.ma K C f) "property" with
    | some (.ref _ :: _) => true
    | _ => false)))
theorem propB_ok {K : PySem.W.Frag} {C : Addr} {f : Str} (h : propB K C f = true) : PropOf K C f (He.ma K C f) (He5.wf K C "property" f) := by
  obtain ⟨h1, h⟩ := He.ba h
  obtain ⟨h2, h⟩ := He.ba h
  obtain ⟨h3, h4⟩ := He.ba h
  refine ⟨He.eqO_ok h1, He.eqO_ok h2, of_decide_eq_true h3, ?_⟩
  unfold He5.wf
  split at h4
  · rename_i f' r e
    exact ⟨r, by rw [e]⟩
  · cases h4
/-- an own ==: the def -/
def eqB (K : PySem.W.Frag) (C : Addr) : Bool := He.eqO (PySem.W.findIn K (.ref C) "__eq__") (some (some (.ref (He.ma K C "__eq__")))) && PySem.W.isFn K (.ref (He.ma K C "__eq__"))
theorem eqB_ok {K : PySem.W.Frag} {C : Addr} (h : eqB K C = true) : PySem.W.findIn K (.ref C) "__eq__" = some (some (.ref (He.ma K C "__eq__"))) ∧ PySem.W.isFn K (.ref (He.ma K C "__eq__")) = true := by
  obtain ⟨h1, h2⟩ := He.ba h
  exact ⟨He.eqO_ok h1, h2⟩
def cdA (K : PySem.W.Frag) (a : Addr) : Addr := match K.lookup a with
  | some ⟨_, _, .func fd, _⟩ => (match fd.code with
    | .ref c => c
    | _ => 0)
  | _ => 0
theorem cdA_eq {K : PySem.W.Frag} {a : Addr} {oc : Value} {od : Option Addr} {osl : Array (Option Value)} {fd : FuncData} {c : Addr} (lk : K.lookup a = some ⟨oc, od, .func fd, osl⟩) (e : fd.code = .ref c) : cdA K a = c := by
  unfold cdA
  rw [lk]
  show (match fd.code with | .ref c => c | _ => 0) = c
  rw [e]
end Iv
set_option Elab.async false
set_option linter.all false
set_option maxRecDepth 100000
set_option maxHeartbeats 2000000
set_option autoImplicit false
/-! Iv, part Za: defs at any address, defs with *args, tables of methods. -/
namespace Iv
open PySem PySem.Spec PyProof.Rows L2
section
variable {P : Program} {w : World} {K : PySem.W.Frag} {mg : Str → Option Value} {base : Heap} {G : Gc} {x qual : Str} {params : Arguments} {body : List Stmt} {scope : Scope} {dvs : List V} {kws : List (Str × V)} {fd : FuncData} {N ps ks : List Str} {n k : Nat} {ix : List Nat}
/-- A DEF'S PROMISE from its body -/
theorem FnG.ofA {g : Bool} {ad : Addr} {fresh : Bool} {b : SmS} (F : FunD K x qual params body scope dvs kws ad fd) (S : FnScope N ps scope)
    (hbody : ∀ (A : Around) (outer : List Env) (s : Shared) (H : Hp) (E : XK), RoomG g n (A.deeper (envOfC qual scope s.heap.objs.size ad (.ref (cdA K ad)))) →
      PSs (cxOf (L2.CX P w) P w K mg base N qual scope ad (.ref (cdA K ad)) A outer s H E) body (rdS G (fun cls d _ H => E cls d H) b)) : FnG g G P w K mg base (n + 1) ad fd ps (entry N.length fresh b) := by
  obtain ⟨oc, od, dV, kV, doc, pm, an, cdv, ct, osl, rfl, lk, hcd, _, _⟩ := F.ex
  obtain ⟨c, rfl⟩ := He.codeIn_ref hcd
  obtain rfl : cdA K ad = c := cdA_eq lk rfl
  constructor
  intro A outer s H args us vs Q E room e0 binds rv prom
  -- the text's own part of the heap, the recursion's limit: as they stood
  have old : ∀ a o, base.get? a = some o → s.heap.get? a = some o := fun a o h => (e0.bs a o h).1
  have kin := e0.mod.kin.keeps old
  -- a parameter is a name or a cell of the frame
  have pars : ∀ q ∈ ps.zip us, scope.names.lookup q.1 = some .local ∨ scope.names.lookup q.1 = some .cell ∧ ((cellsFrom (s.heap.objs.size + 1) scope.names []).lookup q.1).isSome = true := by
    rintro ⟨y, v⟩ hq
    exact (S.par y (List.of_mem_zip hq).1).imp id fun z => ⟨z, PySem.W.cellsFrom_some _ _ _ (.inl z)⟩
  apply codeAny_call_function room.rm.depth (kin _ _ lk) rfl S.co S.gen rfl (PySem.W.codeRec_of kin hcd)
  apply binds
  apply wpAny_newFunctionEnv_cells S.kind pars
  rintro env rfl s1 x1
  refine ⟨(e0.mod.nolimit.keeps old).keeps x1.toInCall.keep, ?_⟩
  apply codeAny_func
  have I := inv_start (CX := L2.CX P w) (E := E) S room.rm.hd e0 prom.1 rv x1
  refine wpAny_mono ((hbody A outer s H E (room.deeper _)).run [] s1 _ H _ I (entry_ok prom)) ?_ fun _ _ h => h
  rintro (_ | _ | _ | u) s' h
  · obtain ⟨σ', H', J, q⟩ := h
    exact ⟨.non, H', J.os, J.bare, J.base, J.hok, rfl, q⟩
  · obtain ⟨_, _, _, h⟩ := h
    exact False.elim h
  · obtain ⟨_, _, _, h⟩ := h
    exact False.elim h
  · obtain ⟨v, σ', H', J, r, q⟩ := h
    exact ⟨v, H', J.os, J.bare, J.base, J.hok, r, q⟩
/-- A DEF WITH *args: a promise about the values ahead and the tuple of the rest -/
structure FnGS (G : Gc) (P : Program) (w : World) (K : PySem.W.Frag) (mg : Str → Option Value) (base : Heap) (k : Nat) (f : Addr) (n : Nat) (fn : Fn) : Prop where
  run : FnR P w K mg base (L2.CX P w) k f (fun vs H Q E => ∃ ws rest, vs = ws ++ rest ∧ ws.length = n ∧ rest.length ≤ sizeLine ∧ ∀ p, H p = Option.none → spD G fn (n + 1) (ws ++ [V.ref p]) (upd H p (.tup rest)) Q E)
theorem FnGS.of {ad : Addr} {pv : Str} {fresh : Bool} {b : SmS} (F : FunD K x qual params body scope [] kws ad fd) (S : FnScope N (ps ++ [pv]) scope)
    (hb : ∀ (kV doc pm : Value) (an : Option Addr) (cdv ct : Value) (us rest : List Value), us.length = ps.length → bindArgs (PySem.W.fnOf x qual params body scope .none kV doc pm an cdv ct) ⟨us ++ rest, []⟩ = (newTuple rest >>= fun t => pure (ps.zip us ++ [(pv, t)])))
    (hbody : ∀ (A : Around) (outer : List Env) (s : Shared) (H : Hp) (E : XK), Room n (A.deeper (envOfC qual scope s.heap.objs.size ad (.ref (cdA K ad)))) →
      PSs (cxOf (L2.CX P w) P w K mg base N qual scope ad (.ref (cdA K ad)) A outer s H E) body (rdS G (fun cls d _ H => E cls d H) b)) : FnGS G P w K mg base (n + 1) ad ps.length (entry N.length fresh b) := by
  obtain ⟨oc, od, dV, kV, doc, pm, an, cdv, ct, osl, rfl, lk, hcd, hD, _⟩ := F.ex
  obtain ⟨c, rfl⟩ := He.codeIn_ref hcd
  obtain rfl : cdA K ad = c := cdA_eq lk rfl
  rcases hD with ⟨_, rfl⟩ | ⟨e, _⟩
  · exact ⟨StX.fn_star lk hcd S StX.cxUp (hb kV doc pm an _ ct) fun A outer s H vs Q E hr h => ⟨_, hbody A outer s H E hr, entry_ok h⟩⟩
  · exact absurd rfl e
theorem FnGS.zero {f : Addr} {m : Nat} : FnGS G P w K mg base k f m (fun _ _ => .bad) := ⟨by
  rintro A outer s H us vs Q E hr e0 r ⟨ws, rest, rfl, hl, hz, h⟩
  obtain ⟨_, Z, φ, os, us', _, _, po⟩ := h s.heap.objs.size (e0.hok.fresh (Nat.le_refl _))
  exact False.elim po⟩
end
/-- called with n values of which m stand ahead of the star: the rest has to be data -/
def resStar (fn : Fn) (m : Nat) (fl : List Bool) : ResL := fun us _ μ => match dsOf (us.drop m) with
  | some ds => if us.length ≤ 100000 then callL fn fl (us.take m ++ [.d (.tup ds)]) μ else .bad
  | none => .bad
section
variable {G : Gc} {X : Cx} {W : WX} {k n m : Nat} {f : Addr} {fn : Fn} {fl : List Bool}
theorem runs_star (F : FnGS G X.prog X.w X.K X.mg X.base k f m fn) (hr : Room k X.A) (tk : Takes X W) (hmn : m ≤ n := by decide) : Runs X G W f n [] (resStar fn m fl) := by
  intro pins σ H s Q us ws vs zs Z φ μ as bs I r rz l1 l2 rp ra rb h
  have lws : ws = [] := List.eq_nil_of_length_eq_zero (by rw [← rz.length, rb.length, l2]; rfl)
  subst lws
  unfold resStar at h
  split at h
  · rename_i ds hds
    split at h
    · rename_i hsz
      have lv : vs.length = n := by rw [ra.length, l1]
      -- the values in two parts
      have split : ∀ {φ : List Addr} {S : Addr → Prop} {H : Hp} {us : List U} {vs : List V} (m : Nat), RpUs G φ S H us vs → RpUs G φ S H (us.take m) (vs.take m) ∧ RpUs G φ S H (us.drop m) (vs.drop m) := fun {φ S H us vs} m => by
        induction us generalizing vs m with
        | nil => intro h; obtain rfl : vs = [] := h; cases m <;> exact ⟨rfl, rfl⟩
        | cons u us ih =>
          rintro ⟨v, r, rfl, a, b⟩
          cases m with
          | zero => exact ⟨rfl, v, r, rfl, a, b⟩
          | succ m => exact ⟨⟨v, r.take m, rfl, a, (ih m b).1⟩, (ih m b).2⟩
      obtain ⟨rt, rdp⟩ := split m ra
      have rl := dsOf_ok hds rdp
      refine codeAny_mono (F.run X.A X.stack s H us vs Q (fun cls d H' => W cls d σ H') hr I.env0 r ⟨vs.take m, vs.drop m, (List.take_append_drop m vs).symm, by rw [List.length_take, lv]; exact Nat.min_eq_left hmn, ?_, fun p hp => ?_⟩) fun r s' hq => ?_
      · rw [List.length_drop, lv, ← l1]
        exact Nat.le_trans (Nat.sub_le _ _) (Nat.le_trans hsz (by rw [sizeLine_eq]; decide))
      · have g := Go.newD (o := .tup (vs.drop m)) rp hp
        have rp' := Rep.newD (o := .tup (vs.drop m)) rp hp
        have nS : ¬ Sof Z φ μ p := fun z => by
          obtain ⟨o, ho⟩ := rp.there z
          rw [hp] at ho; cases ho
        have rtup : RpU G φ (Sof Z φ μ) (upd H p (.tup (vs.drop m))) (.d (.tup ds)) (.ref p) := ⟨p, vs.drop m, rfl, .inl ⟨nS, .inl upd_same⟩, RpL.mono g.ex rl⟩
        have ru : RpUs G φ (Sof Z φ μ) (upd H p (.tup (vs.drop m))) (as.take m ++ [.d (.tup ds)]) (vs.take m ++ [.ref p]) := (rt.mono g).app ⟨.ref p, [], rfl, rtup, rfl⟩
        exact callL_sp rp' ru (by rw [List.length_append, List.length_take, lv, Nat.min_eq_left hmn]; rfl) (Po.go g h)
      · cases r with
        | error e => exact passAt tk σ pins H s e s' I hq
        | ok fl =>
          cases fl with
          | ret u => exact I.after hq
          | next => exact False.elim hq
          | brk => exact False.elim hq
          | cont => exact False.elim hq
    · exact False.elim h
  · exact False.elim h
end
/-! ### tables -/
section
variable {G : Gc} {X : Cx} {W : WX} {nm : Str} {n c : Nat} {ks : List Str} {tbl : List (Nat × ResL)} {res : ResL} {oks : Kd → Bool}
theorem look_cons {α : Type} {c d : Nat} {a b : α} {l : List (Nat × α)} (h : ((d, b) :: l).lookup c = some a) : (c = d ∧ a = b) ∨ l.lookup c = some a := by
  rw [List.lookup_cons] at h
  split at h
  · rename_i e
    exact .inl ⟨beq_iff_eq.mp e, (Option.some.inj h).symm⟩
  · exact .inr h
theorem MethsOk.nil : MethsOk X G W nm n ks [] := fun _ _ h => nomatch h
theorem MethsOk.cons {f : Addr} (k1 : Cls X.K (G.cls c)) (k2 : Meth X.K (G.cls c) nm f) (k3 : Runs X G W f (n + 1) ks res) (r : MethsOk X G W nm n ks tbl) : MethsOk X G W nm n ks ((c, res) :: tbl) := fun c' res' h => by
  rcases look_cons h with ⟨rfl, rfl⟩ | h
  · exact ⟨f, k1, k2, k3⟩
  · exact r c' res' h
theorem EqsOk.nil : EqsOk X G W [] oks := fun _ _ h => nomatch h
theorem EqsOk.cons {f : Addr} (k1 : PySem.W.findIn X.K (.ref (G.cls c)) "__eq__" = some (some (.ref f)) ∧ PySem.W.isFn X.K (.ref f) = true) (k3 : Runs X G W f 2 [] res)
    (k4 : ∀ kd, oks kd = true → KdOk G X.K kd ∧ (∀ c', kd ≠ .exc c') ∧ PySem.W.notFirst X.K (G.cls c) (kd.tv G) = true) (r : EqsOk X G W tbl oks) : EqsOk X G W ((c, res) :: tbl) oks := fun c' res' h => by
  rcases look_cons h with ⟨rfl, rfl⟩ | h
  · exact ⟨f, k1.1, k1.2, k3, k4⟩
  · exact r c' res' h
end
end Iv
set_option Elab.async false
set_option linter.all false
set_option maxRecDepth 100000
set_option maxHeartbeats 2000000
set_option autoImplicit false
/-! Iv, part Zb: != by an own ==, str(o) by an own __str__, f-strings. -/
namespace Iv
open PySem PySem.Spec PyProof.Rows L2 PySem.W
section
variable {prog : Program} {w : World} {A : Around} {E : Value → Shared → Prop} {s : Shared} {K : Frag} {x C f L : Addr} {ox : Obj} {od : Option Obj} {h₀ : Heap} {m : Str → Option Value} {b tb : Value}
theorem ifBound_bt {M : Model} {i : String} {name : Str} {args : List Value} {Q : Option Value → Shared → Prop} (X : K.In s.heap) (I : InstAt s.heap x ox C od) (hs : findIn K (.ref C) name = some (some (.builtin i)))
    (hb : ∀ self, bindSpecial (.builtin i) self = pure (.builtin i, [self]))
    (h : wpAny M A (call (.builtin i) (.ref x :: args)) (fun v => Q (some v)) E s) : wpAny M A (callSpecialIfBound? (.ref x) name args) Q E s := by
  simp only [callSpecialIfBound?, bindSpecialIfBound?]
  refine wpAny_holding (wpAny_bind (wpAny_bind (wpAny_bind (I.type.here ((looks_findIn X hs).here ?_)))))
  refine wpAny_bind (wpAny_askSetting (wpAny_ite ?_))
  have fin : wpAny M A (call (.builtin i) ([.ref x] ++ args) >>= fun v => pure (some v)) Q E s := wpAny_bind (wpAny_mono h (fun v s' h' => wpAny_pure h') fun _ _ h' => h')
  split
  · exact wpAny_bind (wpAny_of_eq (hb _) (wpAny_pure (by exact fin)))
  · exact wpAny_tryCatch (wpAny_bind (wpAny_of_eq (hb _) (wpAny_pure (by exact fin))))
theorem objNe_K (hu : A.units < cLine) (X : K.In s.heap) (I : InstAt s.heap x ox C od) (hs : findIn K (.ref C) "__eq__" = some (some (.ref f))) (hf : isFn K (.ref f) = true) {Q : Fin → Shared → Prop}
    (h : wpAny (model prog w) A (call (.ref f) [.ref x, b]) (fun v s' => ∃ c, v = .bool c ∧ Q (.done (.ret (.bool (!c)))) s') E s) :
    wpAny (model prog w) A (Builtin.«object.__ne__» ⟨[.ref x, b], []⟩) Q E s := by
  unfold Builtin.«object.__ne__»
  refine wpAny_bind (m := slotArgs "__ne__" 1 _) (wpAny_pure ?_)
  refine wpAny_bind (m := cRoomFor _ _) (wpAny_cRoomFor hu ?_)
  refine wpAny_bind (m := callSpecialIfBound? (.ref x) (Str.ofString "__eq__") _) (ifBound_K X I hs hf (wpAny_mono h (fun r s' hq => ?_) fun _ _ y => y))
  obtain ⟨c, rfl, hq⟩ := hq
  exact wpAny_bind (m := truthy (.bool _)) (wpAny_truthy_bool (wpAny_pure hq))
theorem cmp_ne {Q : Value → Shared → Prop} (hu : A.units < cLine) (hu1 : A.in1.units < cLine) (FR : Fr h₀ L s.heap m) (X₀ : K.In h₀) (I : InstAt s.heap x ox C od) (hb : Looks (model prog w) s.heap (typeOf b) tb) (hn : notFirst K C tb = true)
    (hm : mroIn K C (.type "object") = some true) (hne : findIn K (.ref C) "__ne__" = some (some (.builtin "object.__ne__")))
    (hs : findIn K (.ref C) "__eq__" = some (some (.ref f))) (hf : isFn K (.ref f) = true)
    (h : wpAny (model prog w) A.in1 (call (.ref f) [.ref x, b]) (fun v s' => ∃ c, v = .bool c ∧ Q (.bool (!c)) s') E s) : wpAny (model prog w) A (richCompare .NotEq (.ref x) b) Q E s := by
  have X := X₀.keeps FR.keep
  have one : wpAny (model prog w) A (tryCompare (.ref x) "__ne__" b) (fun r s' => ∃ v, r = some v ∧ Q v s') E s := by
    unfold tryCompare
    refine wpAny_bind (ifBound_bt X I hne PySem.F.cmp_object.ne.bind (wpAny_call (codeAny_call_builtin PySem.F.cmp_object.ne.plain PySem.F.cmpEntry_ne
      (check_slot PySem.F.cmpKind_ne PySem.F.cmpSplit_ne (I.type.andThen (looks_mroIn X hm)) (PySem.F.cmpArgs_ne _ _) (objNe_K (A := A.in1) hu1 X I hs hf (wpAny_mono h (fun v s' hv => ?_) fun _ _ e => e))))))
    obtain ⟨c, rfl, hq⟩ := hv
    first
      | exact ⟨c, rfl, wpAny_pure ⟨_, rfl, hq⟩⟩
      | exact ⟨c, rfl, ⟨_, rfl, hq⟩⟩
  unfold richCompare
  simp only [oneThing_ref]
  refine wpAny_holding (wpAny_bind (wpAny_cRoomFor hu ?_))
  refine wpAny_bind (I.type.here (wpAny_bind (hb.here ?_)))
  split
  · rename_i q
    have e : subIn K tb (.ref C) = some false := by
      rcases Bool.or_eq_true_iff.mp hn with e | e
      · rw [beq_iff_eq.mp e] at q; simp at q
      · exact beq_iff_eq.mp e
    refine wpAny_bind ((looks_subIn X e).here ?_)
    simp only [Bool.false_eq_true, if_false]
    refine wpAny_bind (wpAny_mono one (fun r s' z => ?_) fun _ _ e => e)
    obtain ⟨v, rfl, hq⟩ := z
    exact wpAny_pure hq
  · refine wpAny_bind (wpAny_pure ?_)
    simp only [Bool.false_eq_true, if_false]
    refine wpAny_bind (wpAny_mono one (fun r s' z => ?_) fun _ _ e => e)
    obtain ⟨v, rfl, hq⟩ := z
    exact wpAny_pure hq
open Builtin Builtin.Str in
/-- str(o), an own __str__ -/
theorem call_strS {Q : Value → Shared → Prop} (hu : A.in1.in1.units < cLine) (X : K.In s.heap) (I : InstAt s.heap x ox C od) (hs : findIn K (.ref C) "__str__" = some (some (.ref f))) (hf : isFn K (.ref f) = true)
    (h : wpAny (model prog w) A.in1.in1 (call (.ref f) [.ref x]) (StrBack Q) E s) : wpAny (model prog w) A (call (.type "str") [.ref x]) Q E s := by
  refine callType_codes (T := "str") (Bi := Builtin.«object.__init__») (Q₁ := fun r s₁ => ∃ y u, r = .str y u ∧ Q r s₁) PySem.F.called_str (PySem.F.typeCall_str_1 _) PySem.F.entry_object_init ?_ ?_
  · refine codeAny_of_tree ?_
    show wpAny _ A.in1.in1 (do checkBuiltinCall "str.__new__" ⟨[.type "str", .ref x], []⟩; again (.builtin "str.__new__" ⟨[.type "str", .ref x], []⟩)) _ _ s
    refine wpAny_bind (wpAny_of_eq (PySem.F.newCall_str_1 _) (wpAny_pure ⟨plainId_quiet (by decide +kernel) _, codeAny_builtin PySem.F.entry_str_new ?_⟩))
    rw [Around.under_plainId (by decide +kernel) _]
    rw [str_new_tree]
    refine wpAny_bind (wpAny_pure ?_)
    refine wpAny_bind (wpAny_of_eq isSubtype_str_str ?_)
    have key : wpAny (model prog w) A.in1.in1 (PySem.Builtin.Str.strOf (.ref x)) (fun r s₁ => ∃ y u, r = .str y u ∧ Q r s₁) E s := by
      unfold PySem.Builtin.Str.strOf
      rw [show isExactStr (.ref x) = false from rfl]
      refine wpAny_bind (m := cRoomFor _ _) (wpAny_cRoomFor hu ?_)
      refine wpAny_bind (m := callSpecial? (.ref x) (Str.ofString "__str__")) (special_fn X I hs (beq_iff_eq.mp hf) (wpAny_mono h (fun r s' z => ?_) fun _ _ y => y))
      cases r <;> first | exact z.elim | exact wpAny_pure ⟨_, _, rfl, z⟩
    exact wpAny_bind (wpAny_mono key (fun r s₁ hr => wpAny_pure hr) fun _ _ y => y)
  · rintro obj s₁ ⟨y, u, rfl, hq⟩
    exact ⟨typeIs_str _ _ _, PySem.F.args_object_init_2 _ _, object_init_meets PySem.F.called_str.init.lookup PySem.F.called_str.made (by decide) prog w A.in1 _ s₁ ⟨typeIs_str _ _ _, rfl, hq⟩⟩
end
/-- what a def called inside a builtin does: a method of one or two values that ends with a value -/
def stEnd : U → Mu → Res U := fun u μ => match u with
  | .d (.str b) => .ok (.d (.str b)) μ
  | _ => .bad
def ngEnd : U → Mu → Res U := fun u μ => match u with
  | .d (.bl b) => .ok (.d (.bl (!b))) μ
  | _ => .bad
def fStrO (tbl : List (Nat × Fn)) : U → Mu → Res U := fun u μ => match insU μ u with
  | some (c, _, _) => match tbl.lookup c with
    | some fn => (noErr (callL fn [true] [u] μ)).bind stEnd
    | none => .bad
  | none => .bad
def fNeO (tbl : List (Nat × Fn)) (oks : Kd → Bool) : U → U → Mu → Res U := fun u w μ => match insU μ u, kdU μ w with
  | some (c, _, _), some kd => match tbl.lookup c with
    | some fn => if oks kd = true then (noErr (callL fn [true] [u, w] μ)).bind ngEnd else .bad
    | none => .bad
  | _, _ => .bad
def StrsOk (X : Cx) (G : Gc) (tbl : List (Nat × Fn)) : Prop := ∀ c fn, tbl.lookup c = some fn → ∃ (f : Addr) (fd : FuncData) (s0 : Str) (k : Nat),
  findIn X.K (.ref (G.cls c)) "__str__" = some (some (.ref f)) ∧ isFn X.K (.ref f) = true ∧ FnOk X.prog X.w X.K X.mg X.base (L2.CX X.prog X.w) k f fd [s0] (spD G fn 1) ∧ Room (k + 2) X.A ∧ Binds X.K fd [s0] []
def NesOk (X : Cx) (G : Gc) (tbl : List (Nat × Fn)) (oks : Kd → Bool) : Prop := ∀ c fn, tbl.lookup c = some fn → ∃ (f : Addr) (fd : FuncData) (s0 s1 : Str) (k : Nat),
  findIn X.K (.ref (G.cls c)) "__eq__" = some (some (.ref f)) ∧ isFn X.K (.ref f) = true ∧ findIn X.K (.ref (G.cls c)) "__ne__" = some (some (.builtin "object.__ne__")) ∧ mroIn X.K (G.cls c) (.type "object") = some true ∧
  FnOk X.prog X.w X.K X.mg X.base (L2.CX X.prog X.w) k f fd [s0, s1] (spD G fn 2) ∧ Room (k + 1) X.A ∧ Binds X.K fd [s0, s1] [] ∧
  ∀ kd, oks kd = true → KdOk G X.K kd ∧ (∀ c', kd ≠ .exc c') ∧ notFirst X.K (G.cls c) (kd.tv G) = true
section
variable {X : Cx} {G : Gc} {W : WX}
/-- a def run with another Around -/
theorem run_at {pins : List (Addr × Obj)} {σ : L2.St} {H : Hp} {s : Shared} {A : Around} {k : Nat} {f : Addr} {fd : FuncData} {ps : List Str} {sp : Sp} {Q : VK} {us : List Value} {vs : List V}
    (F : FnOk X.prog X.w X.K X.mg X.base (L2.CX X.prog X.w) k f fd ps sp) (hr : Room k A) (e0 : Env0 X.prog X.w X.K X.mg X.base A X.stack s H) (hb : Binds X.K fd ps []) (I : Inv X pins σ H s) (r : Vals vs us)
    (h : sp vs H Q (fun _ _ _ => False)) {E : Value → Shared → Prop} : wpAny (model X.prog X.w) A (call (.ref f) us) (EP X pins σ Q) E s := by
  have hl : us.length = ps.length := by rw [← F.len _ _ _ _ h]; exact r.length.symm
  refine wpAny_call (codeAny_mono (F.run A X.stack s H ⟨us, []⟩ us vs Q (fun _ _ _ => False) hr e0 (by have z := hb s us I.kIn (by rw [List.append_nil]; exact hl); rw [List.append_nil] at z; exact z) r h) fun r s' hq => ?_)
  cases r with
  | error er => exact (cx_false hq).elim
  | ok fl =>
    cases fl with
    | ret u =>
      obtain ⟨v, H', I3, rv, q3⟩ := I.after hq
      exact ⟨v, H', I3, rv, q3⟩
    | next => exact False.elim hq
    | brk => exact False.elim hq
    | cont => exact False.elim hq

def rStrO (X : Cx) : List V → Hp → VK → Prop := fun xs H Q => ∃ (a C dx : Addr) (fs : List (Str × V)) (f : Addr) (fd : FuncData) (s0 : Str) (k : Nat) (sp : Sp), xs = [.ref a] ∧ H a = some (.ins C dx fs) ∧
  findIn X.K (.ref C) "__str__" = some (some (.ref f)) ∧ isFn X.K (.ref f) = true ∧ FnOk X.prog X.w X.K X.mg X.base (L2.CX X.prog X.w) k f fd [s0] sp ∧ Room (k + 2) X.A ∧ Binds X.K fd [s0] [] ∧
  sp [.ref a] H (fun v H' => ∃ y, v = .str y ∧ Q v H') (fun _ _ _ => False)
theorem in1_units {A : Around} {k : Nat} (r : Room (k + 1) A) : A.in1.units < cLine := by have := r.in1.un; omega
theorem call_strO : CallR X (.type "str") (rStrO X) := by
  intro pins s σ H xs us Q I r h
  obtain ⟨a, C, dx, fs, f, fd, s0, k, sp, rfl, ea, h1, h2, F, hr, hb, h3⟩ := h
  obtain ⟨u, rfl, ru⟩ := vals1 r
  obtain rfl : u = Value.ref a := ru
  obtain ⟨mA, O, _, _, _, _⟩ := ins_get I.hok ea
  obtain ⟨od, J, _⟩ := O.look
  refine call_strS (by have := hr.in1.in1.un; omega) I.kIn J h1 h2 (wpAny_mono (run_at (A := X.A.in1.in1) F hr.in1.in1 I.env0.in1.in1 hb I r h3) (fun v s' hv => ?_) fun _ _ z => z)
  obtain ⟨z, H', I3, rv, y, e, q3⟩ := hv
  subst e
  obtain ⟨t, rfl⟩ := rv
  exact ⟨.str y, H', I3, ⟨t, rfl⟩, q3⟩
theorem fStrO_ok {tbl : List (Nat × Fn)} (hT : StrsOk X G tbl) : OpF G (fStrO tbl) (rStrO X) := fun Z W φ μ H σ x u Q r ru po => by
  unfold fStrO at po
  split at po
  · rename_i c ns us hu
    split at po
    · rename_i fn hfn
      obtain ⟨f, fd, s0, k, h1, h2, F, hr, hbd⟩ := hT c fn hfn
      obtain ⟨a, dx, vs, rfl, ea, hl, q⟩ := insU_ok hu r ru
      refine ⟨a, _, dx, _, f, fd, s0, k, _, rfl, ea, h1, h2, F, hr, hbd, ?_⟩
      refine callL_sp (fl := [true]) (us := [u]) (vs := [.ref a]) (n := 1) (W := fun _ _ _ _ => False) (σ := σ) r ⟨_, _, rfl, ru, rfl⟩ rfl ?_
      cases z : callL fn [true] [u] μ with
      | ok w μ2 =>
        rw [z] at po
        intro φ2 H2 v g rp rv
        have po2 : Po (RpU G) G Z W φ μ H σ (stEnd w μ2) Q := po
        unfold stEnd at po2
        split at po2
        · rename_i y
          exact ⟨y, rv, po2 φ2 H2 v g rp rv⟩
        · exact False.elim po2
      | err c ns vs μ2 => rw [z] at po; exact False.elim po
      | bad => rw [z] at po; exact False.elim po
    · exact False.elim po
  · exact False.elim po
theorem c_neO {a b : Expr} {ma mb : Sm U} {tbl : List (Nat × Fn)} {oks : Kd → Bool} (hK : G.K = X.K) (hE : NesOk X G tbl oks) (hu : X.A.units < cLine) (ha : PE X a (rdE G W ma)) (hb : PE X b (rdE G W mb)) : PC X .NotEq a b (rdE G W (v2 (fNeO tbl oks) ma mb)) := by
  refine ⟨fun pins s σ H Q I ⟨Z, φ, ρ, μ, sr, po⟩ => ?_⟩
  refine thn (ha.run pins s σ H _ I (po_step (R1 := RpU G) sr po)) fun v s1 ⟨x, H1, I1, rx, φ1, μ1, u, g1, sr1, ru, po1⟩ =>
    thn (hb.run pins s1 σ H1 _ I1 (po_step (R1 := RpU G) sr1 po1)) fun v2 s2 ⟨y, H2, I2, ry, φ2, μ2, w, g2, sr2, rw2, po2⟩ => ?_
  unfold fNeO at po2
  split at po2
  · rename_i c ns us kd hi hk
    split at po2
    · rename_i fn hfn
      split at po2
      · rename_i hok
        obtain ⟨f, fd, s0, s1', k, h1, h2, h4, h5, F, hr, hbd, h3⟩ := hE c fn hfn
        obtain ⟨k1, k2, k3⟩ := h3 kd hok
        have ru2 := ru.mono g2
        obtain ⟨a0, dx, vs, rfl, ea, hl, q⟩ := insU_ok hi sr2.rep ru2
        obtain rfl : v = Value.ref a0 := rx
        obtain ⟨mA, J, _⟩ := ins_get I2.hok ea
        obtain ⟨od, J, _⟩ := J.look
        obtain ⟨m, hF⟩ := I2.fr
        obtain ⟨P, kx, kp, _⟩ := kit_of I2 ry (kd_ty hK sr2.rep rw2 hk k1 k2)
        show wpAny (model X.prog X.w) X.A (richCompare .NotEq (.ref a0) v2) (EP X pins σ Q) X.xe s2
        refine cmp_ne hu (in1_units hr) hF I2.ok.mod.kin J (kx.ty _ _ I2.kIn kp) k3 h5 h4 h1 h2 ?_
        have sp := callL_sp (f := fn) (fl := [true]) (us := [u, w]) (vs := [.ref a0, y]) (n := 2) (Q := fun z H' => ∃ b, z = .bl b ∧ Q (.bl (!b)) H') (W := fun _ _ _ _ => False) (σ := σ) sr2.rep ⟨_, _, rfl, ru2, _, _, rfl, rw2, rfl⟩ rfl (by
          cases z : callL fn [true] [u, w] μ2 with
          | ok r μ3 =>
            rw [z] at po2
            intro φ3 H3 v3 g rp rv
            have po3 : Po (RpU G) G Z W φ2 μ2 H2 σ (ngEnd r μ3) Q := po2
            unfold ngEnd at po3
            split at po3
            · rename_i b
              exact ⟨b, rv, po3 φ3 H3 (.bl (!b)) g rp rfl⟩
            · exact False.elim po3
          | err c2 ns2 vs2 μ3 => rw [z] at po2; exact False.elim po2
          | bad => rw [z] at po2; exact False.elim po2)
        refine wpAny_mono (run_at (A := X.A.in1) (us := [.ref a0, v2]) (vs := [.ref a0, y]) F hr.in1 I2.env0.in1 hbd I2 (.cons rfl (.cons ry .nil)) sp) (fun z s3 hz => ?_) fun _ _ h => h
        obtain ⟨zv, H3, I3, rz, ⟨b, eb, q3⟩⟩ := hz
        subst eb
        cases (show z = Value.bool b from rz)
        exact ⟨b, rfl, .bl (!b), H3, I3, rfl, q3⟩
      · exact False.elim po2
    · exact False.elim po2
  · exact False.elim po2
theorem i_neO {a b : Expr} {ma mb : Sm U} {pos : Pos} {tbl : List (Nat × Fn)} {oks : Kd → Bool} (hK : G.K = X.K) (hE : NesOk X G tbl oks) (hu : X.A.units < cLine) (ha : PE X a (rdE G W ma)) (hb : PE X b (rdE G W mb)) (hm : behindInMarks .NotEq b = false) : PE X (.Compare a [.NotEq] [b] pos) (rdE G W (v2 (fNeO tbl oks) ma mb)) := pe_cmp (c_neO hK hE hu ha hb) hm
theorem i_tneO {a b : Expr} {ma mb : Sm U} {pos : Pos} {tbl : List (Nat × Fn)} {oks : Kd → Bool} (hK : G.K = X.K) (hE : NesOk X G tbl oks) (hu : X.A.units < cLine) (ha : PE X a (rdE G W ma)) (hb : PE X b (rdE G W mb)) (hm : behindInMarks .NotEq b = false) : PT X (.Compare a [.NotEq] [b] pos) (rdT G W (tOf (v2 (fNeO tbl oks) ma mb))) := PT.imp (pt_cmp (c_neO hK hE hu ha hb) hm) fun σ H Q q => rdTest σ H Q q
/-! ### f-strings -/
def fFmt : U → Mu → Res U := fun u μ => match u with
  | .d (.str x) => if x.length ≤ 1000000 then .ok (.d (.str x)) μ else .bad
  | .d (.int i) => if i.natAbs.log2 < 1920 then .ok (.d (.str (toString i))) μ else .bad
  | _ => .bad
theorem i_fmt {e : Expr} {m : Sm U} {pos : Pos} (he : PE X e (rdE G W m)) : PE X (.FormattedValue e (-1) none pos) (rdE G W (v1 fFmt m)) :=
  PE.imp (pe_fmt he) fun σ H Q ⟨Z, φ, ρ, μ, sr, po⟩ => by
    refine rd_mono (po_step (R1 := RpU G) sr po) fun x H1 ⟨φ1, μ1, u, g1, sr1, ru, po1⟩ => ?_
    unfold fFmt at po1
    split at po1
    · rename_i z
      split at po1
      · rename_i hz
        obtain rfl : x = .str z := ru
        exact .inl ⟨z, rfl, Nat.le_trans hz (by rw [sizeLine_eq]; decide), po1 φ1 H1 _ Go.refl sr1.rep rfl⟩
      · exact False.elim po1
    · rename_i i
      split at po1
      · rename_i hz
        obtain rfl : x = .int i := ru
        exact .inr ⟨i, rfl, hz, po1 φ1 H1 _ Go.refl sr1.rep rfl⟩
      · exact False.elim po1
    · exact False.elim po1
/-- the parts' texts, one behind the other -/
def vJoin : List (Sm U) → Str → Sm U
  | [], acc => fun _ μ => .ok (.d (.str acc)) μ
  | m :: ms, acc => fun ρ μ => (m ρ μ).bind fun u μ1 => match u with
    | .d (.str y) => if (acc ++ y).length ≤ 1000000 then vJoin ms (acc ++ y) ρ μ1 else .bad
    | _ => .bad
inductive IJ (X : Cx) (G : Gc) (W : WX) : List Expr → List (Sm U) → Prop where
  | nil : IJ X G W [] []
  | cons {e : Expr} {m : Sm U} {es : List Expr} {ms : List (Sm U)} (h : PE X e (rdE G W m)) (r : IJ X G W es ms) : IJ X G W (e :: es) (m :: ms)
theorem ij_pj {es : List Expr} {ms : List (Sm U)} (h : IJ X G W es ms) : PJ X es (ms.map fun m => rdE G W m) := by
  induction h with
  | nil => exact .nil
  | cons h r ih => exact .cons h ih
theorem join_js {σ : L2.St} {Q : VK} : ∀ (ms : List (Sm U)) (acc : Str) (H : Hp) (Z : Addr → Prop) (φ : List Addr) (ρ : Rho) (μ : Mu), SR G Z φ H μ ρ σ → Po (RpU G) G Z W φ μ H σ (vJoin ms acc ρ μ) Q → tJs (ms.map fun m => rdE G W m) acc σ H fun out H1 => Q (.str out) H1
  | [], acc, H, Z, φ, ρ, μ, sr, po => po φ H (.str acc) Go.refl sr.rep rfl
  | m :: ms, acc, H, Z, φ, ρ, μ, sr, po => by
    refine rd_mono (po_step (R1 := RpU G) sr po) fun x H1 ⟨φ1, μ1, u, g1, sr1, ru, po1⟩ => ?_
    split at po1
    · rename_i y
      split at po1
      · rename_i hz
        obtain rfl : x = .str y := ru
        exact ⟨y, rfl, Nat.le_trans hz (by rw [sizeLine_eq]; decide), join_js ms (acc ++ y) H1 Z φ1 ρ μ1 sr1 po1⟩
      · exact False.elim po1
    · exact False.elim po1
theorem i_joined {v1 v2 : Expr} {rest : List Expr} {ms : List (Sm U)} {pos : Pos} (h : IJ X G W (v1 :: v2 :: rest) ms) : PE X (.JoinedStr (v1 :: v2 :: rest) pos) (rdE G W (vJoin ms Str.empty)) :=
  PE.imp (pe_joined (ij_pj h)) fun σ H Q ⟨Z, φ, ρ, μ, sr, po⟩ => join_js ms Str.empty H Z φ ρ μ sr po
end
end Iv
set_option Elab.async false
set_option linter.all false
set_option maxRecDepth 100000
set_option maxHeartbeats 2000000
set_option autoImplicit false
/-! Iv, part Zc: list(range(..)), min, max of two, xs[::-1], count of bools, split into a new list. -/
namespace Iv
open PySem PySem.Spec PyProof.Rows L2
section
variable {G : Gc} {X : Cx} {W : WX} {pos p1 p2 p3 : Pos} {e a b : Expr} {es : List Expr} {m ma mb : Sm U} {ms : Sm (List U)} {x : Str} {id : String}
/-! ### list(range(..)) -/
def rgD (a b : Int) : List D := (List.range (b - a).toNat).map fun i => .int (a + (i : Nat))
def vLrg1 (m : Sm U) : Sm U := fun ρ μ => (m ρ μ).bind fun u μ1 => match u with
  | .d (.int n) => if -1000000 ≤ n ∧ n ≤ 90000 then oLst ((rgD 0 n).map .d) μ1 else .bad
  | _ => .bad
theorem rg_us {φ : List Addr} {S : Addr → Prop} {H : Hp} (a : Int) : ∀ l : List Nat, RpUs G φ S H ((l.map fun i => D.int (a + (i : Nat))).map .d) (l.map fun i => V.int (a + (i : Nat)))
  | [] => rfl
  | i :: l => ⟨_, _, rfl, rfl, rg_us a l⟩
theorem i_lrg1 {pl pr ppos : Pos} (hc : X.calm = true) (hg : Gl X "list") (hm : X.mg "list" = none) (hg2 : Gl X "range") (hm2 : X.mg "range" = none) (ha : PE X e (rdE G W m)) (na0 : starEach [e] X.env = (false, eval e X.env) :: starEach [] X.env := by rfl)
    (na : starEach [.Call (.Name "range" pr) [e] [] ppos] X.env = (false, eval (.Call (.Name "range" pr) [e] [] ppos) X.env) :: starEach [] X.env := by rfl) :
    PE X (.Call (.Name "list" pl) [.Call (.Name "range" pr) [e] [] ppos] [] pos) (rdE G W (vLrg1 m)) :=
  PE.imp (pe_listRg hc hg hm (prg_1 hg2 hm2 ha na0) na) fun σ H Q ⟨Z, φ, ρ, μ, sr, po⟩ => by
    refine rd_mono (po_step (R1 := RpU G) sr po) fun x H1 ⟨φ1, μ1, u, g1, sr1, ru, po1⟩ => ?_
    split at po1
    · rename_i n
      split at po1
      · rename_i hn
        obtain rfl : x = .int n := ru
        exact ⟨n, rfl, ⟨by omega, by omega, by omega, by omega, by omega⟩, (newLst (us := (rgD 0 n).map .d) (xs := rgV 0 n) sr1.rep (rg_us 0 _) po1).2⟩
      · exact False.elim po1
    · exact False.elim po1
/-! ### min, max -/
def fMM (mx : Bool) : List U → Mu → Res U := fun us μ => match us with
  | [.d (.int i), .d (.int j)] => .ok (.d (.int (if mx then (if j > i then j else i) else (if j < i then j else i)))) μ
  | _ => .bad
theorem fMax_ok : OpN G (fMM true) (fun xs H Q => ∃ i j, xs = [.int i, .int j] ∧ Q (.int (if j > i then j else i)) H) := fun Z W φ μ H σ xs us Q r rus po => by
  unfold fMM at po
  split at po
  · rename_i i j
    obtain ⟨v, r1, rfl, rv, v2, r2, rfl, rv2, e⟩ := rus
    cases (show r2 = [] from e)
    obtain rfl : v = .int i := rv
    obtain rfl : v2 = .int j := rv2
    exact ⟨i, j, rfl, po φ H _ Go.refl r rfl⟩
  · exact False.elim po
theorem fMin_ok : OpN G (fMM false) (fun xs H Q => ∃ i j, xs = [.int i, .int j] ∧ Q (.int (if j < i then j else i)) H) := fun Z W φ μ H σ xs us Q r rus po => by
  unfold fMM at po
  split at po
  · rename_i i j
    obtain ⟨v, r1, rfl, rv, v2, r2, rfl, rv2, e⟩ := rus
    cases (show r2 = [] from e)
    obtain rfl : v = .int i := rv
    obtain rfl : v2 = .int j := rv2
    exact ⟨i, j, rfl, po φ H _ Go.refl r rfl⟩
  · exact False.elim po
theorem i_bfN {r : List V → Hp → VK → Prop} {f : List U → Mu → Res U} (hc : CallR X (.builtin id) r) (hf : OpN G f r) (hg : Gl X x) (hm : X.mg x = none) (hv : bootBuiltins x = some (.builtin id)) (ha : PA X (e :: es) (rdA G W ms)) (hn : x ≠ "__name__" := by decide) (hdb : (x == ("__debug__" : Str)) = false := by decide)
    (he : starEach (e :: es) X.env = (false, eval e X.env) :: starEach es X.env := by rfl) (hpl : (backTo pos (starEach es X.env)).any (·.1) = false := by rfl) : PE X (.Call (.Name x p1) (e :: es) [] pos) (rdE G W (vN f ms)) :=
  PE.imp (pe_callB hc hg hm hv ha hn hdb he hpl) fun σ H Q ⟨Z, φ, ρ, μ, sr, po⟩ => by
    refine rd_mono (po_step (R1 := RpUs G) sr po) fun xs H1 ⟨φ1, μ1, us, g1, sr1, rus, po1⟩ => ?_
    exact hf Z W φ1 μ1 H1 σ xs us Q sr1.rep rus po1
/-! ### xs[::-1] -/
def fRevS : U → Mu → Res U := fun u μ => match lsU μ u with
  | some us => oLst us.reverse μ
  | none => .bad
theorem i_revS {k : Nat} {q1 q2 q3 : Pos} (hK : G.K = X.K) (he : PE X e (rdE G W m)) : PE X (.Subscript e (.Slice none none (some (.UnaryOp .USub (.Constant (.int 1) k q1) q2)) q3) pos) (rdE G W (v1 fRevS m)) :=
  PE.imp (pe_revL he) fun σ H Q ⟨Z, φ, ρ, μ, sr, po⟩ => by
    refine rd_mono (po_step (R1 := RpU G) sr po) fun x H1 ⟨φ1, μ1, u, g1, sr1, ru, po1⟩ => ?_
    unfold fRevS at po1
    split at po1
    · rename_i us hu
      obtain ⟨a, vs, rfl, ll, q⟩ := lsU_ok sr1.rep hu ru
      exact ⟨a, vs, rfl, by rw [← hK]; exact ll, (newLst sr1.rep q.rev po1).2⟩
    · exact False.elim po1
/-! ### split into a list that may change -/
def fSplitP : U → List U → Mu → Res U := fun u us μ => match u, us with
  | .d (.str a), [.d (.str b)] => if (b.length == 0) = false ∧ a.length ≤ 99000 then oLstP ((Txt.split a b).map fun x => .d (.str x)) μ else .bad
  | _, _ => .bad
theorem newLstP {Z : Addr → Prop} {φ : List Addr} {μ : Mu} {H : Hp} {σ : L2.St} {us : List U} {xs : List V} {Q : VK} (r : Rep G Z φ H μ) (ru : RpUs G φ (Sof Z φ μ) H us xs) (po : Po (RpU G) G Z W φ μ H σ (oLstP us μ) Q) : xs.length ≤ sizeLine ∧ ∀ p, H p = none → Q (.ref p) (upd H p (.lst xs)) := by
  unfold oLstP at po
  split at po
  · rename_i hl
    refine ⟨sz5 (by rw [ru.length]; exact hl), fun p hp => ?_⟩
    have g2 : Go Z φ μ H (φ ++ [p]) (μ ++ [.lst us]) (upd H p (.lst xs)) := Go.newP r hp
    exact po _ _ _ g2 (r.newP hp ⟨xs, upd_same, ru.mono g2⟩) ⟨p, rfl, by rw [← r.len]; exact snoc_last⟩
  · exact False.elim po
theorem fSplitP_ok : OpM G fSplitP (fun _ x xs H Q => ∃ a b, x = .str a ∧ xs = [.str b] ∧ (b.length == 0) = false ∧ a.length + 2 ≤ sizeLine ∧ rNewStrs (Txt.split a b) H Q) := fun Z W φ μ H σ x u xs us Q r ru rus po => by
  unfold fSplitP at po
  split at po
  · rename_i a b
    split at po
    · rename_i hz
      obtain ⟨y, rr, rfl, ry, rnil⟩ := rus
      cases (show rr = [] from rnil)
      cases (show y = .str b from ry)
      exact ⟨a, b, ru, rfl, hz.1, Nat.le_trans (Nat.add_le_add_right hz.2 2) (by decide), (newLstP r (strs_us _) po).2⟩
    · exact False.elim po
  · exact False.elim po
/-! ### list.count of bools -/
def eqb (k : Bool) (v : Value) : Bool := match v with
  | .bool n => n == k
  | _ => false
def rCntB (K : PySem.W.Frag) : V → List V → Hp → VK → Prop := fun x xs H Q => ∃ (p : Addr) (ns : List Bool) (k : Bool), x = .ref p ∧ xs = [.bl k] ∧ SqL K H p (ns.map V.bl) ∧ Q (.int (ns.count k : Nat)) H
theorem bools_of_vals : ∀ {us : List Value} {ns : List Bool}, Vals (ns.map V.bl) us → us = ns.map Value.bool
  | us, [], h => by
    cases h
    rfl
  | us, n :: ns, h => by
    cases h with
    | cons a r =>
      cases (show _ = Value.bool n from a)
      rw [bools_of_vals r]
      rfl
theorem mt_lcountB : MtR X "list.count" (rCntB X.K) := by
  intro pins s σ H x xs v us Q I rx rxs h
  obtain ⟨p, ns, k, rfl, rfl, hs, q⟩ := h
  cases rx
  obtain ⟨u, rfl, ru⟩ := rxs.one
  cases ru
  obtain ⟨its, rv, ⟨⟨cls, dd, data, sl⟩, n, ho, hc, hdn, hd⟩, hlen⟩ := I.list hs
  simp only at hc hd
  subst hc hd
  have e := bools_of_vals rv
  refine call_meets PySem.F.slot_list_count ⟨_, ho, rfl⟩ PySem.F.entry_list_count (PySem.F.args_list_count_2 _ _)
    (SeqAt.list_countAt p its.toArray n dd sl (.bool k) (eqb k)) ⟨ho, fun y hy => ?_, ?_⟩
  · rw [e] at hy
    have hy2 : y ∈ ns.map Value.bool := by rw [← List.mem_toArray]; exact hy
    obtain ⟨b, _, rfl⟩ := List.mem_map.mp hy2
    exact SeqAt.EqAt.bool_bool b k
  · have ec : its.toArray.toList.countP (eqb k) = ns.count k := by
      rw [e]
      show (ns.map Value.bool).countP (eqb k) = _
      rw [List.countP_map]
      rfl
    refine ⟨.int (ns.count k : Nat), H, I.tok _, ⟨s.toks, ?_⟩, q⟩
    rw [ec]
def fCntB : U → List U → Mu → Res U := fun u us μ => match lsU μ u, us with
  | some l, [.d (.bl k)] => match boolsU l with
    | some ns => .ok (.d (.int (ns.count k : Nat))) μ
    | none => .bad
  | _, _ => .bad
theorem fCntB_ok (hK : G.K = X.K) : OpM G fCntB (fun _ x xs H Q => rCntB X.K x xs H Q) := fun Z W φ μ H σ x u xs us Q r ru rus po => by
  unfold fCntB at po
  split at po
  · rename_i l k hl
    split at po
    · rename_i ns hn
      obtain ⟨a, vs, rfl, ll, q⟩ := lsU_ok r hl ru
      obtain ⟨y, rr, rfl, ry, rnil⟩ := rus
      cases (show rr = [] from rnil)
      cases (show y = .bl k from ry)
      refine ⟨a, ns, k, rfl, rfl, ?_, po φ H _ Go.refl r rfl⟩
      rw [← boolsU_ok hn q, ← hK]
      exact ll
    · exact False.elim po
  · exact False.elim po
end
end Iv
set_option Elab.async false
set_option linter.all false
set_option maxRecDepth 100000
set_option maxHeartbeats 2000000
set_option autoImplicit false
/-! Iv, part Zd: {} and its repr. -/
namespace Iv
open PySem PySem.Spec PyProof.Rows L2
section
variable {G : Gc} {X : Cx} {W : WX} {pos : Pos} {e : Expr} {m : Sm U}
def vDic0 : Sm U := fun _ μ => .ok (.d (.dic [] [])) μ
theorem i_dic0 : PE X (.Dict [] [] pos) (rdE G W vDic0) :=
  PE.imp pe_dnewK fun σ H Q ⟨Z, φ, ρ, μ, sr, po⟩ => by
    intro p hp
    have g2 : Go Z φ μ H φ μ (upd H p (.dK [])) := Go.newD sr.rep hp
    have ns : ¬ Sof Z φ μ p := fun z => by
      obtain ⟨o, ho⟩ := sr.rep.there z
      rw [hp] at ho; cases ho
    exact po φ _ _ g2 (sr.rep.newD hp) ⟨p, [], rfl, ns, .inl upd_same, rfl, rfl⟩
def isDic0 : U → Mu → Bool
  | .d (.dic [] []), _ => true
  | _, _ => false
def fRepr0 : U → Mu → Res U := fun u μ => match u with
  | .d (.dic [] []) => .ok (.d (.str "{}")) μ
  | _ => .bad
def rShow0 : List V → Hp → VK → Prop := fun xs H Q => ∃ a, xs = [.ref a] ∧ Rd H a (.dK []) ∧ Q (.str "{}") H
theorem call_show0 (hgd : X.A.guards = some []) (hun : X.A.units + 200 < cLine) : CallR X (.builtin "repr") rShow0 := by
  intro pins s σ H xs us Q I r h
  obtain ⟨a, rfl, ea, q⟩ := h
  obtain ⟨u, rfl, ru⟩ := vals1 r
  obtain rfl : u = Value.ref a := ru
  obtain ⟨_, hsm, vs, kv, dd⟩ := dk_rd I.hok ea
  cases kv
  obtain ⟨o, es, n, h1, hx, h3, _, h5, _⟩ := dd
  have h2 : o.cls = .type "dict" := hx.1
  have h4 : es.toList = [] := by
    cases q5 : es.toList with
    | nil => rfl
    | cons x l =>
      rw [q5] at h5
      cases h5
  have rd : Reads s.heap (.ref a) (.dict []) [a] := .dict (es := es) (n := n) (as := []) (bs := []) h1 h2 h3 (by rw [h4]; exact .nil) (by rw [h4]; exact .nil)
  have hdep : (PyData.dict []).depth ≤ 100 := by decide
  refine repr_of_reads' rd (by rfl) (fun _ hm => ?_) hgd (Nat.lt_of_le_of_lt (Nat.add_le_add_left (Nat.succ_le_succ hdep) _) (Nat.lt_of_le_of_lt (Nat.add_le_add_left (by decide) _) hun)) (fun _ _ e => e) (fun h' u tk hk => ⟨.str "{}", H, I.kept hk, ⟨_, rfl⟩, q⟩) (by decide)
  have e := List.mem_singleton.mp hm
  rw [e] at hsm
  simp at hsm
theorem fRepr0_ok : OpF G fRepr0 rShow0 := fun Z W φ μ H σ x u Q r ru po => by
  unfold fRepr0 at po
  split at po
  · obtain ⟨a, vs, rfl, _, l, _, _⟩ := ru
    exact ⟨a, rfl, l, po φ H _ Go.refl r rfl⟩
  · exact False.elim po
abbrev fReprA : U → Mu → Res U := fAlt isDic0 fRepr0 fRepr
end
end Iv
set_option Elab.async false
set_option linter.all false
set_option maxRecDepth 100000
set_option maxHeartbeats 2000000
set_option autoImplicit false
/-! Iv, part Ze: what the printed proofs use. -/
namespace Iv
open PySem PySem.Spec PyProof.Rows L2
def eSub : Expr → Nat → Expr
  | .ListComp e _ _ _, 0 => e
  | .ListComp _ gs _ _, 50 => match gs with
    | g :: _ => g.iter
    | [] => .Constant .none 0 ⟨0, 0, 0, 0⟩
  | .ListComp _ gs _ _, i + 1 => match gs with
    | g :: _ => g.ifs.getD i (.Constant .none 0 ⟨0, 0, 0, 0⟩)
    | [] => .Constant .none 0 ⟨0, 0, 0, 0⟩
  | .Subscript e _ _, 0 => e
  | .Subscript _ i _, _ => i
  | .Attribute e _ _, _ => e
  | .Call f _ _ _, 200 => f
  | .Call f as ks p, i => if i < 100 then eArg (.Call f as ks p) i else (match ks[i - 100]? with
    | some k => k.value
    | none => .Constant .none 0 ⟨0, 0, 0, 0⟩)
  | e, i => eArg e i
def lcSc : Expr → Scope
  | .ListComp _ _ s _ => s
  | _ => default
def vCM (res : ResL) (c n : Nat) (m : Sm (List U)) : Sm U := fun ρ μ => (m ρ μ).bind fun us μ1 => if us.length = n then res (.d (.cls c) :: us) [] μ1 else .bad
section
variable {G : Gc} {X : Cx} {W : WX} {n c : Nat} {nm : Str} {pos apos : Pos} {o e : Expr} {es : List Expr} {m : Sm (List U)} {pl : Sem Bool}
theorem i_cm {p g : Addr} {mc : Value} {res : ResL} {x : Str} {p1 : Pos} (hR : ClX.CRead X.K (G.cls c) mc) (hC : ClX.CMet X.K (G.cls c) mc nm p g) (R : Runs X G W g (n + 1) [] res) (hg : Gl X x) (hm : X.mg x = some (.ref (G.cls c))) (ha : PA X (e :: es) (rdA G W m))
    (hdb : (x == ("__debug__" : Str)) = false := by decide) (hst : starEach (e :: es) X.env = (false, eval e X.env) :: starEach es X.env := by rfl) (hpl : (backTo pos (starEach es X.env)).any (·.1) = false := by rfl)
    (ht : eval (.Call (.Attribute (.Name x p1) nm apos) (e :: es) [] pos) X.env = (do
      let ov ← eval (.Name x p1) X.env
      standAt apos.atName
      let (f, first) ← holding [ov] (getMethod ov nm pl)
      callWith pos f first (backTo pos (starEach (e :: es) X.env)) (backToKw pos (keywordEach [] X.env))) := by rfl) : PE X (.Call (.Attribute (.Name x p1) nm apos) (e :: es) [] pos) (rdE G W (vCM res c n m)) :=
  i_cmeth hR hC R hg hm ha hdb hst hpl ht
end
/-! ### own == beside any value -/
def oksO (oc : List Nat) : Kd → Bool
  | .exc _ => false
  | .obj c => oc.contains c
  | _ => true
def nfB (K : PySem.W.Frag) (C : Addr) : Bool := ["NoneType", "bool", "int", "str", "tuple", "list", "dict"].all fun n => PySem.W.notFirst K C (.type n)
theorem oks_ok {G : Gc} {K : PySem.W.Frag} {C : Addr} {oc : List Nat} (h : nfB K C = true) (ho : ∀ c ∈ oc, InsC K (G.cls c) ∧ PySem.W.notFirst K C (.ref (G.cls c)) = true) :
    ∀ kd, oksO oc kd = true → KdOk G K kd ∧ (∀ c', kd ≠ .exc c') ∧ PySem.W.notFirst K C (kd.tv G) = true := fun kd hk => by
  have h' := fun n hn => List.all_eq_true.mp h n hn
  cases kd with
  | non => exact ⟨trivial, (fun _ z => by cases z), h' "NoneType" (by decide)⟩
  | bl => exact ⟨trivial, (fun _ z => by cases z), h' "bool" (by decide)⟩
  | int => exact ⟨trivial, (fun _ z => by cases z), h' "int" (by decide)⟩
  | str => exact ⟨trivial, (fun _ z => by cases z), h' "str" (by decide)⟩
  | tup => exact ⟨trivial, (fun _ z => by cases z), h' "tuple" (by decide)⟩
  | lst => exact ⟨trivial, (fun _ z => by cases z), h' "list" (by decide)⟩
  | dic => exact ⟨trivial, (fun _ z => by cases z), h' "dict" (by decide)⟩
  | obj c =>
    have hc : c ∈ oc := by simpa [oksO] using hk
    exact ⟨(ho c hc).1, (fun _ z => by cases z), (ho c hc).2⟩
  | exc c => cases hk
def neB (K : PySem.W.Frag) (C : Addr) : Bool := He.eqO (PySem.W.findIn K (.ref C) "__ne__") (some (some (.builtin "object.__ne__")))
theorem neB_ok {K : PySem.W.Frag} {C : Addr} (h : neB K C = true) : PySem.W.findIn K (.ref C) "__ne__" = some (some (.builtin "object.__ne__")) := He.eqO_ok h
def strB (K : PySem.W.Frag) (C : Addr) : Bool := He.eqO (PySem.W.findIn K (.ref C) "__str__") (some (some (.ref (He.ma K C "__str__")))) && PySem.W.isFn K (.ref (He.ma K C "__str__"))
theorem strB_ok {K : PySem.W.Frag} {C : Addr} (h : strB K C = true) : PySem.W.findIn K (.ref C) "__str__" = some (some (.ref (He.ma K C "__str__"))) ∧ PySem.W.isFn K (.ref (He.ma K C "__str__")) = true := by
  obtain ⟨h1, h2⟩ := He.ba h
  exact ⟨He.eqO_ok h1, h2⟩
def nfC (K : PySem.W.Frag) (C D : Addr) : Bool := PySem.W.notFirst K C (.ref D)
theorem nfC_ok {K : PySem.W.Frag} {C D : Addr} (h : nfC K C D = true) : PySem.W.notFirst K C (.ref D) = true := h
theorem bool_ok {b : Bool} (h : b = true) : b = true := h
section
variable {G : Gc} {X : Cx} {c : Nat} {tbl : List (Nat × Fn)} {fn : Fn} {oks : Kd → Bool}
theorem NesOk.nil : NesOk X G [] oks := fun _ _ h => nomatch h
theorem NesOk.cons {f : Addr} {fd : FuncData} {s0 s1 : Str} {k : Nat} (k1 : PySem.W.findIn X.K (.ref (G.cls c)) "__eq__" = some (some (.ref f)) ∧ PySem.W.isFn X.K (.ref f) = true) (k2 : PySem.W.findIn X.K (.ref (G.cls c)) "__ne__" = some (some (.builtin "object.__ne__")))
    (k3 : InsC X.K (G.cls c)) (F : FnG false G X.prog X.w X.K X.mg X.base k f fd [s0, s1] fn) (hr : Room (k + 1) X.A) (hb : Binds X.K fd [s0, s1] [])
    (k4 : ∀ kd, oks kd = true → KdOk G X.K kd ∧ (∀ c', kd ≠ .exc c') ∧ PySem.W.notFirst X.K (G.cls c) (kd.tv G) = true) (r : NesOk X G tbl oks) : NesOk X G ((c, fn) :: tbl) oks := fun c' fn' h => by
  rcases look_cons h with ⟨rfl, rfl⟩ | h
  · exact ⟨f, fd, s0, s1, k, k1.1, k1.2, k2, k3.hm, F.ok, hr, hb, k4⟩
  · exact r c' fn' h
theorem StrsOk.nil : StrsOk X G [] := fun _ _ h => nomatch h
theorem StrsOk.cons {f : Addr} {fd : FuncData} {s0 : Str} {k : Nat} (k1 : PySem.W.findIn X.K (.ref (G.cls c)) "__str__" = some (some (.ref f)) ∧ PySem.W.isFn X.K (.ref f) = true)
    (F : FnG false G X.prog X.w X.K X.mg X.base k f fd [s0] fn) (hr : Room (k + 2) X.A) (hb : Binds X.K fd [s0] []) (r : StrsOk X G tbl) : StrsOk X G ((c, fn) :: tbl) := fun c' fn' h => by
  rcases look_cons h with ⟨rfl, rfl⟩ | h
  · exact ⟨f, fd, s0, k, k1.1, k1.2, F.ok, hr, hb⟩
  · exact r c' fn' h
theorem PropsOk.nil {f : Str} : PropsOk X G f [] := fun _ _ h => nomatch h
theorem PropsOk.cons {f : Str} {p g : Addr} {fd : FuncData} {s0 : Str} {k : Nat} (k1 : Cls X.K (G.cls c)) (k2 : PropOf X.K (G.cls c) f p g)
    (F : FnG false G X.prog X.w X.K X.mg X.base k g fd [s0] fn) (hr : Room (k + 1) X.A) (hb : Binds X.K fd [s0] []) (r : PropsOk X G f tbl) : PropsOk X G f ((c, fn) :: tbl) := fun c' fn' h => by
  rcases look_cons h with ⟨rfl, rfl⟩ | h
  · exact ⟨p, g, fd, s0, k, k1, k2, F.ok, hr, hb⟩
  · exact r c' fn' h
end
/-- a built-in exception type: all the own exceptions are of it -/
def tabV (oc ec : List Nat) : Kd → Option Bool
  | .obj c => if oc.contains c = true then some false else none
  | .exc c => if ec.contains c = true then some true else none
  | _ => some false
theorem isi_V {G : Gc} {K : PySem.W.Frag} {n : String} {oc ec : List Nat} (hb : ∀ t, t ∈ ["NoneType", "bool", "int", "str", "tuple", "list", "dict"] → PySem.W.kitOne K (.type t) (.type n) = some false)
    (ho : ∀ c ∈ oc, InsC K (G.cls c) ∧ PySem.W.kitOne K (.ref (G.cls c)) (.type n) = some false) (he : ∀ c ∈ ec, ExcC K (G.cls c) ∧ PySem.W.kitOne K (.ref (G.cls c)) (.type n) = some true) : Isi G K (tabV oc ec) (.type n) := fun k b h => by
  cases k with
  | obj c =>
    have hm : oc.contains c = true ∧ b = false := by
      unfold tabV at h
      dsimp only at h
      split at h
      · rename_i hc
        cases h
        exact ⟨hc, rfl⟩
      · cases h
    obtain ⟨h1, rfl⟩ := hm
    exact ho c (by simpa using h1)
  | exc c =>
    have hm : ec.contains c = true ∧ b = true := by
      unfold tabV at h
      dsimp only at h
      split at h
      · rename_i hc
        cases h
        exact ⟨hc, rfl⟩
      · cases h
    obtain ⟨h1, rfl⟩ := hm
    exact he c (by simpa using h1)
  | non => cases h; exact ⟨trivial, hb "NoneType" (by decide)⟩
  | bl => cases h; exact ⟨trivial, hb "bool" (by decide)⟩
  | int => cases h; exact ⟨trivial, hb "int" (by decide)⟩
  | str => cases h; exact ⟨trivial, hb "str" (by decide)⟩
  | tup => cases h; exact ⟨trivial, hb "tuple" (by decide)⟩
  | lst => cases h; exact ⟨trivial, hb "list" (by decide)⟩
  | dic => cases h; exact ⟨trivial, hb "dict" (by decide)⟩
def ktsB (K : PySem.W.Frag) (n : String) : Bool := ["NoneType", "bool", "int", "str", "tuple", "list", "dict"].all fun t => kitB' K (.type t) (.type n) false
theorem ktsB_ok {K : PySem.W.Frag} {n : String} (h : ktsB K n = true) : ∀ t, t ∈ ["NoneType", "bool", "int", "str", "tuple", "list", "dict"] → PySem.W.kitOne K (.type t) (.type n) = some false := fun t ht => kitB_ok (List.all_eq_true.mp h t ht)
/-- a test a if c else b -/
def tIfT (c s t : Sm Bool) : Sm Bool := fun ρ μ => (c ρ μ).bind fun b μ1 => if b = true then s ρ μ1 else t ρ μ1
theorem i_tifexp {X : Cx} {G : Gc} {W : WX} {pos : Pos} {c a b : Expr} {tc ta tb : Sm Bool} (hc : PT X c (rdT G W tc)) (ha : PT X a (rdT G W ta)) (hb : PT X b (rdT G W tb)) : PT X (.IfExp c a b pos) (rdT G W (tIfT tc ta tb)) := by
  refine ⟨fun pins s σ H Q I ⟨Z, φ, ρ, μ, sr, po⟩ => ?_⟩
  refine isTrue_IfExp (thn (hc.run pins s σ H _ I (po_step (R1 := RlB) sr po)) fun v s1 ⟨H1, I1, φ1, μ1, u, g1, sr1, ru, po1⟩ => ?_)
  obtain rfl : u = v := ru
  cases u with
  | true => rw [if_pos rfl] at po1 ⊢; exact ha.run pins s1 σ H1 Q I1 ⟨Z, φ1, ρ, μ1, sr1, po1⟩
  | false => rw [if_neg Bool.false_ne_true] at po1 ⊢; exact hb.run pins s1 σ H1 Q I1 ⟨Z, φ1, ρ, μ1, sr1, po1⟩
theorem room200 {k : Nat} {A : Around} (r : Room k A) : A.units + 200 < cLine := by have := r.un; omega
end Iv
set_option Elab.async false
set_option linter.all false
set_option maxRecDepth 100000
set_option maxHeartbeats 4000000
set_option autoImplicit false
namespace K36
open PySem PySem.Spec PyProof.Rows L2 Iv
def top (i : Nat) : Stmt := PySem.Challenge.pw_heardasmeant_k36_questions_asked.main.body.getD i (.Pass ⟨0, 0, 0, 0⟩)
abbrev st0 : Stmt := top 3
abbrev N0 : List Str := ["value"]
abbrev P0 : List Str := ["value"]
theorem sc0 : FnScope N0 P0 (defScope st0) := ⟨rfl, rfl, rfl, by decide +kernel, rfl, by decide +kernel, by decide +kernel⟩
abbrev at0 : Str × Option Str := ("is_integer", none)
abbrev st1 : Stmt := top 4
abbrev N1 : List Str := ["value", "least", "most"]
abbrev P1 : List Str := ["value", "least", "most"]
theorem sc1 : FnScope N1 P1 (defScope st1) := ⟨rfl, rfl, rfl, by decide +kernel, rfl, by decide +kernel, by decide +kernel⟩
abbrev at1 : Str × Option Str := ("is_within", none)
abbrev st2 : Stmt := top 5
abbrev N2 : List Str := ["value", "sign"]
abbrev P2 : List Str := ["value"]
theorem sc2 : FnScope N2 P2 (defScope st2) := ⟨rfl, rfl, rfl, by decide +kernel, rfl, by decide +kernel, by decide +kernel⟩
abbrev at2 : Str × Option Str := ("is_deeds", none)
abbrev st3 : Stmt := top 6
abbrev N3 : List Str := ["value"]
abbrev P3 : List Str := ["value"]
theorem sc3 : FnScope N3 P3 (defScope st3) := ⟨rfl, rfl, rfl, by decide +kernel, rfl, by decide +kernel, by decide +kernel⟩
abbrev at3 : Str × Option Str := ("is_letter", none)
abbrev st4 : Stmt := top 13
abbrev N4 : List Str := ["word", "least", "most", "sign"]
abbrev P4 : List Str := ["word", "least", "most"]
theorem sc4 : FnScope N4 P4 (defScope st4) := ⟨rfl, rfl, rfl, by decide +kernel, rfl, by decide +kernel, by decide +kernel⟩
abbrev at4 : Str × Option Str := ("is_number", none)
abbrev st5 : Stmt := inClass (top 14) 0
abbrev N5 : List Str := ["self", "text", "line"]
abbrev P5 : List Str := ["self", "text", "line"]
theorem sc5 : FnScope N5 P5 (defScope st5) := ⟨rfl, rfl, rfl, by decide +kernel, rfl, by decide +kernel, by decide +kernel⟩
abbrev at5 : Str × Option Str := ("Scan", some "__init__")
abbrev st6 : Stmt := inClass (top 14) 1
abbrev N6 : List Str := ["self"]
abbrev P6 : List Str := ["self"]
theorem sc6 : FnScope N6 P6 (defScope st6) := ⟨rfl, rfl, rfl, by decide +kernel, rfl, by decide +kernel, by decide +kernel⟩
abbrev at6 : Str × Option Str := ("Scan", some "word")
abbrev st7 : Stmt := inClass (top 14) 2
abbrev N7 : List Str := ["self"]
abbrev P7 : List Str := ["self"]
theorem sc7 : FnScope N7 P7 (defScope st7) := ⟨rfl, rfl, rfl, by decide +kernel, rfl, by decide +kernel, by decide +kernel⟩
abbrev at7 : Str × Option Str := ("Scan", some "refuse")
abbrev st8 : Stmt := inClass (top 14) 3
abbrev N8 : List Str := ["self", "is_right"]
abbrev P8 : List Str := ["self", "is_right"]
theorem sc8 : FnScope N8 P8 (defScope st8) := ⟨rfl, rfl, rfl, by decide +kernel, rfl, by decide +kernel, by decide +kernel⟩
abbrev at8 : Str × Option Str := ("Scan", some "take")
abbrev st9 : Stmt := inClass (top 14) 4
abbrev N9 : List Str := ["self", "words"]
abbrev P9 : List Str := ["self"]
theorem sc9 : FnScope N9 (P9 ++ [("words" : Str)]) (defScope st9) := ⟨rfl, rfl, rfl, by decide +kernel, rfl, by decide +kernel, by decide +kernel⟩
abbrev at9 : Str × Option Str := ("Scan", some "take_just")
abbrev st10 : Stmt := inClass (top 14) 5
abbrev N10 : List Str := ["self", "least", "most"]
abbrev P10 : List Str := ["self", "least", "most"]
theorem sc10 : FnScope N10 P10 (defScope st10) := ⟨rfl, rfl, rfl, by decide +kernel, rfl, by decide +kernel, by decide +kernel⟩
abbrev at10 : Str × Option Str := ("Scan", some "take_number")
abbrev st11 : Stmt := inClass (top 14) 7
abbrev N11 : List Str := ["self"]
abbrev P11 : List Str := ["self"]
theorem sc11 : FnScope N11 P11 (defScope st11) := ⟨rfl, rfl, rfl, by decide +kernel, rfl, by decide +kernel, by decide +kernel⟩
abbrev at11 : Str × Option Str := ("Scan", some "finish")
abbrev st12 : Stmt := inClass (top 19) 0
abbrev N12 : List Str := ["self", "word", "number", "letter"]
abbrev P12 : List Str := ["self", "word", "number", "letter"]
theorem sc12 : FnScope N12 P12 (defScope st12) := ⟨rfl, rfl, rfl, by decide +kernel, rfl, by decide +kernel, by decide +kernel⟩
abbrev at12 : Str × Option Str := ("Question", some "__init__")
abbrev st13 : Stmt := inClass (top 19) 1
abbrev N13 : List Str := ["cls", "text", "scan", "word", "number", "letter"]
abbrev P13 : List Str := ["cls", "text"]
theorem sc13 : FnScope N13 P13 (defScope st13) := ⟨rfl, rfl, rfl, by decide +kernel, rfl, by decide +kernel, by decide +kernel⟩
abbrev at13 : Str × Option Str := ("Question", some "from_text")
abbrev st14 : Stmt := inClass (top 19) 2
abbrev N14 : List Str := ["self", "deeds"]
abbrev P14 : List Str := ["self", "deeds"]
theorem sc14 : FnScope N14 P14 (defScope st14) := ⟨rfl, rfl, rfl, by decide +kernel, rfl, by decide +kernel, by decide +kernel⟩
abbrev at14 : Str × Option Str := ("Question", some "answer")
abbrev st15 : Stmt := inClass (top 19) 3
abbrev N15 : List Str := ["self", "other"]
abbrev P15 : List Str := ["self", "other"]
theorem sc15 : FnScope N15 P15 (defScope st15) := ⟨rfl, rfl, rfl, by decide +kernel, rfl, by decide +kernel, by decide +kernel⟩
abbrev at15 : Str × Option Str := ("Question", some "__eq__")
abbrev st16 : Stmt := inClass (top 19) 4
abbrev N16 : List Str := ["self"]
abbrev P16 : List Str := ["self"]
theorem sc16 : FnScope N16 P16 (defScope st16) := ⟨rfl, rfl, rfl, by decide +kernel, rfl, by decide +kernel, by decide +kernel⟩
abbrev at16 : Str × Option Str := ("Question", some "__str__")
abbrev st17 : Stmt := top 21
abbrev N17 : List Str := ["script", "cell"]
abbrev P17 : List Str := ["script"]
theorem sc17 : FnScope N17 P17 (defScope st17) := ⟨rfl, rfl, rfl, by decide +kernel, rfl, by decide +kernel, by decide +kernel⟩
abbrev at17 : Str × Option Str := ("_law_well", none)
abbrev st18 : Stmt := top 22
abbrev N18 : List Str := ["well", "many", "rest", "turn", "cell", "mixed"]
abbrev P18 : List Str := ["well", "many"]
theorem sc18 : FnScope N18 P18 (defScope st18) := ⟨rfl, rfl, rfl, by decide +kernel, rfl, by decide +kernel, by decide +kernel⟩
abbrev at18 : Str × Option Str := ("_law_draw", none)
abbrev st19 : Stmt := top 23
abbrev N19 : List Str := ["well", "some"]
abbrev P19 : List Str := ["well", "some"]
theorem sc19 : FnScope N19 P19 (defScope st19) := ⟨rfl, rfl, rfl, by decide +kernel, rfl, by decide +kernel, by decide +kernel⟩
abbrev at19 : Str × Option Str := ("_law_one", none)
abbrev st20 : Stmt := top 24
abbrev N20 : List Str := ["ask", "found", "caught", "error", "marks"]
abbrev P20 : List Str := ["ask"]
theorem sc20 : FnScope N20 P20 (defScope st20) := ⟨rfl, rfl, rfl, by decide +kernel, rfl, by decide +kernel, by decide +kernel⟩
abbrev at20 : Str × Option Str := ("_law_heard", none)
abbrev st21 : Stmt := top 25
abbrev N21 : List Str := ["well", "number"]
abbrev P21 : List Str := ["well"]
theorem sc21 : FnScope N21 P21 (defScope st21) := ⟨rfl, rfl, rfl, by decide +kernel, rfl, by decide +kernel, by decide +kernel⟩
abbrev at21 : Str × Option Str := ("_law_plain", none)
abbrev st22 : Stmt := top 26
abbrev N22 : List Str := ["plain"]
abbrev P22 : List Str := ["plain"]
theorem sc22 : FnScope N22 P22 (defScope st22) := ⟨rfl, rfl, rfl, by decide +kernel, rfl, by decide +kernel, by decide +kernel⟩
abbrev at22 : Str × Option Str := ("_law_made", none)
abbrev st23 : Stmt := top 27
abbrev N23 : List Str := ["plain"]
abbrev P23 : List Str := ["plain"]
theorem sc23 : FnScope N23 P23 (defScope st23) := ⟨rfl, rfl, rfl, by decide +kernel, rfl, by decide +kernel, by decide +kernel⟩
abbrev at23 : Str × Option Str := ("_law_text", none)
abbrev st24 : Stmt := top 28
abbrev N24 : List Str := ["text", "words", "word", "sign"]
abbrev P24 : List Str := ["text"]
theorem sc24 : FnScope N24 P24 (defScope st24) := ⟨rfl, rfl, rfl, by decide +kernel, rfl, by decide +kernel, by decide +kernel⟩
abbrev at24 : Str × Option Str := ("_law_read", none)
abbrev st25 : Stmt := top 29
abbrev N25 : List Str := ["well", "text", "words", "way", "at", "some", "odd"]
abbrev P25 : List Str := ["well", "text"]
theorem sc25 : FnScope N25 P25 (defScope st25) := ⟨rfl, rfl, rfl, by decide +kernel, rfl, by decide +kernel, by decide +kernel⟩
abbrev at25 : Str × Option Str := ("_law_bent", none)
abbrev st26 : Stmt := top 30
abbrev N26 : List Str := ["text", "due", "told"]
abbrev P26 : List Str := ["text"]
theorem sc26 : FnScope N26 P26 (defScope st26) := ⟨rfl, rfl, rfl, by decide +kernel, rfl, by decide +kernel, by decide +kernel⟩
abbrev at26 : Str × Option Str := ("_law_text_right", none)
abbrev st27 : Stmt := top 31
abbrev N27 : List Str := ["well", "letters", "deeds", "number", "letter", "due", "odd", "turn"]
abbrev P27 : List Str := ["well"]
theorem sc27 : FnScope N27 P27 (defScope st27) := ⟨rfl, rfl, rfl, by decide +kernel, rfl, by decide +kernel, by decide +kernel⟩
abbrev at27 : Str × Option Str := ("_law_answers_right", none)
abbrev st28 : Stmt := top 32
abbrev N28 : List Str := ["well", "plain", "made", "others", "other"]
abbrev P28 : List Str := ["well"]
theorem sc28 : FnScope N28 P28 (defScope st28) := ⟨rfl, rfl, rfl, by decide +kernel, rfl, by decide +kernel, by decide +kernel⟩
abbrev at28 : Str × Option Str := ("_law_unlike_right", none)
abbrev st29 : Stmt := top 33
abbrev N29 : List Str := ["well", "words", "numbers", "letters", "value", "number", "letter", "word", "some"]
abbrev P29 : List Str := ["well"]
theorem sc29 : FnScope N29 P29 (defScope st29) := ⟨rfl, rfl, rfl, by decide +kernel, rfl, by decide +kernel, by decide +kernel⟩
abbrev at29 : Str × Option Str := ("_law_refused_right", none)
abbrev st30 : Stmt := top 34
abbrev N30 : List Str := ["script", "well", "lap", "text", "turn", "bent", "odd"]
abbrev P30 : List Str := ["script"]
theorem sc30 : FnScope N30 P30 (defScope st30) := ⟨rfl, rfl, rfl, by decide +kernel, rfl, by decide +kernel, by decide +kernel⟩
abbrev at30 : Str × Option Str := ("law", none)
/-! ### lambdas -/
abbrev lm0 : Expr := (eSub (eSub (sExp (sSub st26 0)) 1) 0)
abbrev lm1 : Expr := (eSub (eSub (sExp (sSub st27 4)) 0) 0)
abbrev lm2 : Expr := (eSub (eSub (sExp (sSub (sSub st29 3) 1)) 0) 0)
abbrev lm3 : Expr := (eSub (eSub (sExp (sSub (sSub st29 4) 1)) 0) 0)
abbrev lm4 : Expr := (eSub (eSub (eSub (eSub (sExp (sSub st29 5)) 0) 1) 0) 0)
abbrev lm5 : Expr := (eSub (eSub (eSub (eSub (sExp (sSub st29 7)) 0) 1) 0) 0)
abbrev lm6 : Expr := (eSub (eSub (eSub (sExp (sSub st29 8)) 0) 0) 0)
abbrev lm7 : Expr := (eSub (eSub (eSub (sExp (sSub st30 3)) 0) 0) 0)
def lamI (k : Nat) : LamI := match k with
  | 0 => ⟨"_law_text_right.<locals>.<lambda>", lamPs lm0, lamBd lm0, lamSc lm0, ["text"]⟩
  | 1 => ⟨"_law_answers_right.<locals>.<lambda>", lamPs lm1, lamBd lm1, lamSc lm1, ["odd"]⟩
  | 2 => ⟨"_law_refused_right.<locals>.<lambda>", lamPs lm2, lamBd lm2, lamSc lm2, ["value", "number", "letter"]⟩
  | 3 => ⟨"_law_refused_right.<locals>.<lambda>", lamPs lm3, lamBd lm3, lamSc lm3, ["value", "letter", "word"]⟩
  | 4 => ⟨"_law_refused_right.<locals>.<lambda>", lamPs lm4, lamBd lm4, lamSc lm4, ["value"]⟩
  | 5 => ⟨"_law_refused_right.<locals>.<lambda>", lamPs lm5, lamBd lm5, lamSc lm5, ["value"]⟩
  | 6 => ⟨"_law_refused_right.<locals>.<lambda>", lamPs lm6, lamBd lm6, lamSc lm6, []⟩
  | 7 => ⟨"law.<locals>.<lambda>", lamPs lm7, lamBd lm7, lamSc lm7, ["odd"]⟩
  | _ => ⟨"", lamPs (.Constant .none 0 ⟨0, 0, 0, 0⟩), .Constant .none 0 ⟨0, 0, 0, 0⟩, lamSc (.Constant .none 0 ⟨0, 0, 0, 0⟩), []⟩
theorem lamF_0 : LamF (lamI 0) := ⟨rfl, rfl, rfl, by decide +kernel, by decide +kernel, by decide +kernel, by decide +kernel, fun _ _ _ _ => rfl⟩
theorem lamF_1 : LamF (lamI 1) := ⟨rfl, rfl, rfl, by decide +kernel, by decide +kernel, by decide +kernel, by decide +kernel, fun _ _ _ _ => rfl⟩
theorem lamF_2 : LamF (lamI 2) := ⟨rfl, rfl, rfl, by decide +kernel, by decide +kernel, by decide +kernel, by decide +kernel, fun _ _ _ _ => rfl⟩
theorem lamF_3 : LamF (lamI 3) := ⟨rfl, rfl, rfl, by decide +kernel, by decide +kernel, by decide +kernel, by decide +kernel, fun _ _ _ _ => rfl⟩
theorem lamF_4 : LamF (lamI 4) := ⟨rfl, rfl, rfl, by decide +kernel, by decide +kernel, by decide +kernel, by decide +kernel, fun _ _ _ _ => rfl⟩
theorem lamF_5 : LamF (lamI 5) := ⟨rfl, rfl, rfl, by decide +kernel, by decide +kernel, by decide +kernel, by decide +kernel, fun _ _ _ _ => rfl⟩
theorem lamF_6 : LamF (lamI 6) := ⟨rfl, rfl, rfl, by decide +kernel, by decide +kernel, by decide +kernel, by decide +kernel, fun _ _ _ _ => rfl⟩
theorem lamF_7 : LamF (lamI 7) := ⟨rfl, rfl, rfl, by decide +kernel, by decide +kernel, by decide +kernel, by decide +kernel, fun _ _ _ _ => rfl⟩
/-! ### meanings -/
def isi_BadQuestion : Kd → Option Bool := tabO [(3, false), (4, false)] [(0, false), (1, true), (2, false)]
def isi_BadText : Kd → Option Bool := tabO [(3, false), (4, false)] [(0, false), (1, false), (2, true)]
def isi_Question : Kd → Option Bool := tabO [(3, false), (4, true)] [(0, false), (1, false), (2, false)]
structure Rn where
  f : Nat → Fn
  l : Nat → Fn
def b_0 (R : Rn) : SmS := (sRet (vAnd (v1 (fIsi (tabB "int" [3, 4] [0, 1, 2])) (vVar 0)) (vNot (v1 (fIsi (tabB "bool" [3, 4] [0, 1, 2])) (vVar 0)))))
def b_1 (R : Rn) : SmS := (sRet (vAnd (vCall (R.f 0) 1 0 [0] [] [] (aCons (vVar 0) aNil) aNil) (v3 fLe fLe (vVar 1) (vVar 0) (vVar 2))))
def b_2 (R : Rn) : SmS := (sRet (vAnd (v1 (fIsi (tabB "str" [3, 4] [0, 1, 2])) (vVar 0)) (v1 (fAllAny true) (vComp (wSeq (vVar 0)) (.nm 1) ([("sign", 1)].map (·.2)) tYes' (v2 (fIn false) (vVar 1) (vC (.str "abcdefghijklmnopqrstuvwxyz")))))))
def b_3 (R : Rn) : SmS := (sRet (vAnd (vCall (R.f 2) 1 0 [0] [] [] (aCons (vVar 0) aNil) aNil) (v2 fEq (v1 fLen (vVar 0)) (vC (.int 1)))))
def b_4 (R : Rn) : SmS := (sSeq (sIf (tOr' (tNot' (tOf (v3 fLe fLe (vC (.int 1)) (v1 fLen (vVar 0)) (v1 fLen (v1 fStr (vVar 2)))))) (tNot' (tOf (v1 (fAllAny true) (vComp (wSeq (vVar 0)) (.nm 3) ([("sign", 3)].map (·.2)) tYes' (v2 (fIn false) (vVar 3) (vC (.str "0123456789")))))))) (sRet (vC (.bl false))) sNil)
  (sRet (vAnd (vOr (v2 fEq (vVar 0) (vC (.str "0"))) (v2 fNe (v2 fIx (vVar 0) (vC (.int 0))) (vC (.str "0")))) (v3 fLe fLe (vVar 1) (v1 fInt (vVar 0)) (vVar 2)))))
def b_5 (R : Rn) : SmS := (sSeq (sIf (tNot' (tOf (v1 (fIsi (tabB "str" [3, 4] [0, 1, 2])) (vVar 1)))) (sRaise 2 2 ["word", "line"] [1, 0] (aCons (vVar 2) (aCons (vC (.int 0)) aNil))) sNil)
  (sSeq (sFldM "tokens" [3] (vVar 0) (vM "str" fSplit (vVar 1) (aCons (vC (.str " ")) aNil)))
  (sSeq (sFldM "line" [3] (vVar 0) (vVar 2))
  (sFldM "at" [3] (vVar 0) (vC (.int 0))))))
def b_6 (R : Rn) : SmS := (sRet (vIf (tOf (v2 fLt (v1 (fFld "at" [3]) (vVar 0)) (v1 fLen (v1 (fFld "tokens" [3]) (vVar 0))))) (v2 fIx (v1 (fFld "tokens" [3]) (vVar 0)) (v1 (fFld "at" [3]) (vVar 0))) (vC (.str ""))))
def b_7 (R : Rn) : SmS := (sRaise 2 2 ["word", "line"] [1, 0] (aCons (v1 (fFld "line" [3]) (vVar 0)) (aCons (v1 (fFld "at" [3]) (vVar 0)) aNil)))
def b_8 (R : Rn) : SmS := (sSeq (sIf (tOr' (tNot' (tOf (vVar 1))) (tOf (v2 fEq (v1 (fFld "at" [3]) (vVar 0)) (v1 fLen (v1 (fFld "tokens" [3]) (vVar 0)))))) (sExpr (vMeth [(3, (resF (R.f 7) [0] [] [true]))] "refuse" 0 0 (vVar 0) aNil aNil)) sNil)
  (sSeq (sFldM "at" [3] (vVar 0) (v2 fAdd (v1 (fFld "at" [3]) (vVar 0)) (vC (.int 1))))
  (sRet (v2 fIx (v1 (fFld "tokens" [3]) (vVar 0)) (v2 fSub (v1 (fFld "at" [3]) (vVar 0)) (vC (.int 1)))))))
def b_9 (R : Rn) : SmS := (sRet (vMeth [(3, (resF (R.f 8) [0, 1] [D.bl true] [true]))] "take" 1 0 (vVar 0) (aCons (v2 (fIn false) (vMeth [(3, (resF (R.f 6) [0] [] [true]))] "word" 0 0 (vVar 0) aNil aNil) (vVar 1)) aNil) aNil))
def b_10 (R : Rn) : SmS := (sRet (v1 fInt (vMeth [(3, (resF (R.f 8) [0, 1] [D.bl true] [true]))] "take" 1 0 (vVar 0) (aCons (vCall (R.f 4) 3 0 [0, 1, 2] [] [] (aCons (vMeth [(3, (resF (R.f 6) [0] [] [true]))] "word" 0 0 (vVar 0) aNil aNil) (aCons (vVar 1) (aCons (vVar 2) aNil))) aNil) aNil) aNil)))
def b_11 (R : Rn) : SmS := (sIf (tOf (v2 fLt (v1 (fFld "at" [3]) (vVar 0)) (v1 fLen (v1 (fFld "tokens" [3]) (vVar 0))))) (sExpr (vMeth [(3, (resF (R.f 7) [0] [] [true]))] "refuse" 0 0 (vVar 0) aNil aNil)) sNil)
def b_12 (R : Rn) : SmS := (sSeq (sIf (tOr' (tNot' (tOf (v1 (fIsi (tabB "str" [3, 4] [0, 1, 2])) (vVar 1)))) (tOf (v2 (fIn true) (vVar 1) (vN oTup (aCons (vC (.str "is")) (aCons (vC (.str "more")) aNil)))))) (sRaise 1 1 ["value"] [0] (aCons (vVar 1) aNil)) sNil)
  (sSeq (sIf (tNot' (tOf (vCall (R.f 1) 3 0 [0, 1, 2] [] [] (aCons (vVar 2) (aCons (vC (.int 0)) (aCons (vC (.int 99999)) aNil))) aNil))) (sRaise 1 1 ["value"] [0] (aCons (vVar 2) aNil)) sNil)
  (sSeq (sIf (tNot' (tIfT (tOf (v2 fEq (vVar 1) (vC (.str "is")))) (tOf (vCall (R.f 3) 1 0 [0] [] [] (aCons (vVar 3) aNil) aNil)) (tOf (v2 fIs (vVar 3) (vC .non))))) (sRaise 1 1 ["value"] [0] (aCons (vVar 3) aNil)) sNil)
  (sSeq (sFldM "word" [4] (vVar 0) (vVar 1))
  (sSeq (sFldM "number" [4] (vVar 0) (vVar 2))
  (sFldM "letter" [4] (vVar 0) (vVar 3)))))))
def b_13 (R : Rn) : SmS := (sSeq (sSet 2 (vRun (resMk 3 (R.f 5) [0, 1, 2] [D.int (0)] [true]) 1 0 (aCons (vVar 1) aNil) aNil))
  (sSeq (sPar 3 4 (aCons (vMeth [(3, (resStar (R.f 9) 1 [true]))] "take_just" 2 0 (vVar 2) (aCons (vC (.str "is")) (aCons (vC (.str "more")) aNil)) aNil) (aCons (vMeth [(3, (resF (R.f 10) [0, 1, 2] [] [true]))] "take_number" 2 0 (vVar 2) (aCons (vC (.int 0)) (aCons (vC (.int 99999)) aNil)) aNil) aNil)))
  (sSeq (sSet 5 (vIf (tOf (v2 fEq (vVar 3) (vC (.str "is")))) (vMeth [(3, (resF (R.f 8) [0, 1] [D.bl true] [true]))] "take" 1 0 (vVar 2) (aCons (vCall (R.f 3) 1 0 [0] [] [] (aCons (vMeth [(3, (resF (R.f 6) [0] [] [true]))] "word" 0 0 (vVar 2) aNil aNil) aNil) aNil) aNil) aNil) (vC .non)))
  (sSeq (sExpr (vMeth [(3, (resF (R.f 11) [0] [] [true]))] "finish" 0 0 (vVar 2) aNil aNil))
  (sRet (vRun (resMk 4 (R.f 12) [0, 1, 2, 3] [D.non] [true]) 3 0 (aCons (vVar 3) (aCons (vVar 4) (aCons (vVar 5) aNil))) aNil))))))
def b_14 (R : Rn) : SmS := (sSeq (sIf (tNot' (tOf (vCall (R.f 2) 1 0 [0] [] [] (aCons (vVar 1) aNil) aNil))) (sRaise 1 1 ["value"] [0] (aCons (vVar 1) aNil)) sNil)
  (sSeq (sIf (tOf (v2 fEq (v1 (fFld "word" [4]) (vVar 0)) (vC (.str "more")))) (sRet (v2 fGt (v1 fLen (vVar 1)) (v1 (fFld "number" [4]) (vVar 0)))) sNil)
  (sRet (v2 fEq (vSl (vVar 1) (some (v1 (fFld "number" [4]) (vVar 0))) (some (v2 fAdd (v1 (fFld "number" [4]) (vVar 0)) (vC (.int 1))))) (v1 (fFld "letter" [4]) (vVar 0))))))
def b_15 (R : Rn) : SmS := (sSeq (sIf (tNot' (tOf (v1 (fIsi isi_Question) (vVar 1)))) (sRet (vC (.bl false))) sNil)
  (sRet (vAnd (v2 fEq (v1 (fFld "word" [4]) (vVar 0)) (v1 (fAt "word" [4] [2]) (vVar 1))) (vAnd (v2 fEq (v1 (fFld "number" [4]) (vVar 0)) (v1 (fFld "number" [4]) (vVar 1))) (v2 fEq (v1 (fFld "letter" [4]) (vVar 0)) (v1 (fFld "letter" [4]) (vVar 1)))))))
def b_16 (R : Rn) : SmS := (sSeq (sIf (tOf (v2 fIs (v1 (fFld "letter" [4]) (vVar 0)) (vC .non))) (sRet (vJoin [(v1 fFmt (v1 (fFld "word" [4]) (vVar 0))), (vC (.str " ")), (v1 fFmt (v1 (fFld "number" [4]) (vVar 0)))] Str.empty)) sNil)
  (sRet (vJoin [(v1 fFmt (v1 (fFld "word" [4]) (vVar 0))), (vC (.str " ")), (v1 fFmt (v1 (fFld "number" [4]) (vVar 0))), (vC (.str " ")), (v1 fFmt (v1 (fFld "letter" [4]) (vVar 0)))] Str.empty)))
def b_17 (R : Rn) : SmS := (sRet (vN oLstP (aCons (vComp (wSeq (vSl (vVar 0) none (some (vC (.int 63))))) (.nm 1) ([("cell", 1)].map (·.2)) tYes' (v1 fInt (vVar 1))) (aCons (vC (.int 0)) (aCons (vC (.int 0)) aNil)))))
def b_18 (R : Rn) : SmS := (sSeq (sIf (tOf (v2 fGt (v2 fIx (vVar 0) (vC (.int 2))) (vC (.int 0)))) (sSeq (sSet 2 (v2 fIx (vVar 0) (vC (.int 2))))
  (sSeq (sSetIx (vVar 0) (vC (.int 2)) (v2 fDiv (v1 fInt (vVar 2)) (vVar 1)))
  (sRet (v2 fMod (v1 fInt (vVar 2)) (vVar 1))))) sNil)
  (sSeq (sSet 3 (v2 fIx (vVar 0) (vC (.int 1))))
  (sSeq (sSetIx (vVar 0) (vC (.int 1)) (v2 fAdd (vVar 3) (vC (.int 1))))
  (sSeq (sSet 4 (v2 fAdd (v2 fMul (vC (.int 58147)) (vVar 3)) (vC (.int 3607))))
  (sSeq (sIf (tOf (v2 fNe (v2 fIx (vVar 0) (vC (.int 0))) (vN oLst aNil))) (sSet 4 (v2 fIx (v2 fIx (vVar 0) (vC (.int 0))) (v2 fMod (v1 fInt (vVar 3)) (v1 fLen (v2 fIx (vVar 0) (vC (.int 0))))))) sNil)
  (sSeq (sIf (tAnd' (tOf (v2 fLt (vVar 3) (v1 fLen (v2 fIx (vVar 0) (vC (.int 0)))))) (tOf (v2 fGe (v1 fAbs (vVar 4)) (v2 fPow (vC (.int 10)) (vC (.int 18)))))) (sSeq (sSet 2 (v2 fAdd (v2 fMul (vC (.int 2)) (v2 fSub (v1 fAbs (vVar 4)) (v2 fPow (vC (.int 10)) (vC (.int 18))))) (v1 fInt (v2 fLt (vVar 4) (vC (.int 0))))))
  (sSeq (sSetIx (vVar 0) (vC (.int 2)) (v2 fDiv (v1 fInt (vVar 2)) (vVar 1)))
  (sRet (v2 fMod (v1 fInt (vVar 2)) (vVar 1))))) sNil)
  (sSeq (sSet 5 (v2 fMod (v1 fInt (v2 fPow (v2 fAdd (v2 fAdd (v2 fMod (v1 fInt (vVar 4)) (vC (.int 2147483587))) (v2 fMul (vC (.int 51407)) (vVar 3))) (vC (.int 3607))) (vC (.int 5)))) (vC (.int 2147483629))))
  (sSeq (sSet 5 (v2 fMod (v1 fInt (v2 fPow (v2 fAdd (v2 fAdd (v2 fMul (vVar 5) (v2 fAdd (v2 fMul (vC (.int 2)) (vVar 3)) (vC (.int 1901)))) (v2 fMul (v2 fMul (vC (.int 58147)) (vVar 3)) (vVar 3))) (vC (.int 61223))) (vC (.int 3)))) (vC (.int 2147483549))))
  (sRet (v2 fMod (v1 fInt (v2 fDiv (vVar 5) (vC (.int 64)))) (vVar 1)))))))))))
def b_19 (R : Rn) : SmS := (sRet (v2 fIx (vVar 1) (vCall (R.f 18) 2 0 [0, 1] [] [true] (aCons (vVar 0) (aCons (v1 fLen (vVar 1)) aNil)) aNil)))
def b_20 (R : Rn) : SmS := (sSeq (sAsgs  [(.nm 1), (.nm 2)] (aCons (vC .non) (aCons (vC .non) aNil)))
  (sSeq (sTryAs [(0, true), (1, true), (2, true)] 3 (sSet 1 (vClo R.l 0)) (sSet 2 (vVar 3)))
  (sSeq (sIf (tOf (v2 fIs (vVar 2) (vC .non))) (sRet (vN oLst (aCons (vVar 1) aNil))) sNil)
  (sSeq (sSet 4 (vN oLst (aCons (v1 (fIsi isi_BadQuestion) (vVar 2)) (aCons (v1 (fIsi isi_BadText) (vVar 2)) aNil))))
  (sSeq (sIf (tOr' (tOf (v2 fNe (vM "list" fCntB (vVar 4) (aCons (vC (.bl true)) aNil)) (vC (.int 1)))) (tNot' (tOf (v1 (fIsi (tabV [3, 4] [0, 1, 2])) (vVar 2))))) (sRet (vN oTup (aCons (vC (.str "odd")) aNil))) sNil)
  (sRet (vIf (tOf (v2 fIx (vVar 4) (vC (.int 0)))) (vN oTup (aCons (vC (.str "question")) (aCons (v1 fReprA (v1 (fXf "value" [1]) (vVar 2))) aNil))) (vN oTup (aCons (vC (.str "text")) (aCons (v1 fReprA (v1 (fAt "line" [3] [2]) (vVar 2))) (aCons (v1 fReprA (v1 (fAt "word" [4] [2]) (vVar 2))) aNil)))))))))))
def b_21 (R : Rn) : SmS := (sSeq (sSet 1 (vCall (R.f 19) 2 0 [0, 1] [] [true] (aCons (vVar 0) (aCons (vN oLst (aCons (vC (.int 0)) (aCons (vC (.int 1)) (aCons (vC (.int 2)) (aCons (vC (.int 3)) (aCons (vC (.int 9)) (aCons (vC (.int 10)) (aCons (vC (.int 99)) (aCons (vC (.int 100)) (aCons (vCall (R.f 18) 2 0 [0, 1] [] [true] (aCons (vVar 0) (aCons (vC (.int 100000)) aNil)) aNil) (aCons (vC (.int 99999)) aNil))))))))))) aNil)) aNil))
  (sRet (vCall (R.f 19) 2 0 [0, 1] [] [true] (aCons (vVar 0) (aCons (vN oLst (aCons (vN oTup (aCons (vC (.str "more")) (aCons (vVar 1) (aCons (vC .non) aNil)))) (aCons (vN oTup (aCons (vC (.str "is")) (aCons (vVar 1) (aCons (vCall (R.f 19) 2 0 [0, 1] [] [true] (aCons (vVar 0) (aCons (vC (.str "abcdefghijklmnopqrstuvwxyz")) aNil)) aNil) aNil)))) aNil))) aNil)) aNil)))
def b_22 (R : Rn) : SmS := (sRet (vIf (tOf (v2 fIs (v2 fIx (vVar 0) (vC (.int 2))) (vC .non))) (vRun (resMk 4 (R.f 12) [0, 1, 2, 3] [D.non] [true]) 2 0 (aCons (v2 fIx (vVar 0) (vC (.int 0))) (aCons (v2 fIx (vVar 0) (vC (.int 1))) aNil)) aNil) (vRun (resMk 4 (R.f 12) [0, 1, 2, 3] [D.non] [true]) 3 0 (aCons (v2 fIx (vVar 0) (vC (.int 0))) (aCons (v2 fIx (vVar 0) (vC (.int 1))) (aCons (v2 fIx (vVar 0) (vC (.int 2))) aNil))) aNil)))
def b_23 (R : Rn) : SmS := (sRet (v2 fAdd (v2 fAdd (v2 fAdd (v2 fIx (vVar 0) (vC (.int 0))) (vC (.str " "))) (v1 fStr (v2 fIx (vVar 0) (vC (.int 1))))) (vIf (tOf (v2 fIs (v2 fIx (vVar 0) (vC (.int 2))) (vC .non))) (vC (.str "")) (v2 fAdd (vC (.str " ")) (v2 fIx (vVar 0) (vC (.int 2)))))))
def b_24 (R : Rn) : SmS := (sSeq (sSet 1 (vM "str" fSplit (vVar 0) (aCons (vC (.str " ")) aNil)))
  (sSeq (sIf (tOf (v2 (fIn true) (v2 fIx (vVar 1) (vC (.int 0))) (vN oTup (aCons (vC (.str "is")) (aCons (vC (.str "more")) aNil))))) (sRet (vC (.int 0))) sNil)
  (sSeq (sSet 2 (vIf (tOf (v2 fGt (v1 fLen (vVar 1)) (vC (.int 1)))) (v2 fIx (vVar 1) (vC (.int 1))) (vC (.str ""))))
  (sSeq (sIf (tOr' (tNot' (tOf (v3 fLe fLe (vC (.int 1)) (v1 fLen (vVar 2)) (vC (.int 5))))) (tOr' (tOf (v2 fNe (vComp (wSeq (vVar 2)) (.nm 3) ([("sign", 3)].map (·.2)) (tOf (v2 (fIn true) (vVar 3) (vC (.str "0123456789")))) (vVar 3)) (vN oLst aNil))) (tAnd' (tOf (v2 fEq (v2 fIx (vVar 2) (vC (.int 0))) (vC (.str "0")))) (tOf (v2 fNe (vVar 2) (vC (.str "0"))))))) (sRet (vC (.int 1))) sNil)
  (sSeq (sIf (tOf (v2 fEq (v2 fIx (vVar 1) (vC (.int 0))) (vC (.str "more")))) (sRet (vIf (tOf (v2 fEq (v1 fLen (vVar 1)) (vC (.int 2)))) (vN oLst (aCons (vN oTup (aCons (vC (.str "more")) (aCons (v1 fInt (vVar 2)) (aCons (vC .non) aNil)))) aNil)) (vC (.int 2)))) sNil)
  (sSeq (sIf (tOr' (tOf (v2 fLt (v1 fLen (vVar 1)) (vC (.int 3)))) (tOr' (tOf (v2 fNe (v1 fLen (v2 fIx (vVar 1) (vC (.int 2)))) (vC (.int 1)))) (tOf (v2 (fIn true) (v2 fIx (vVar 1) (vC (.int 2))) (vC (.str "abcdefghijklmnopqrstuvwxyz")))))) (sRet (vC (.int 2))) sNil)
  (sRet (vIf (tOf (v2 fEq (v1 fLen (vVar 1)) (vC (.int 3)))) (vN oLst (aCons (vN oTup (aCons (vC (.str "is")) (aCons (v1 fInt (vVar 2)) (aCons (v2 fIx (vVar 1) (vC (.int 2))) aNil)))) aNil)) (vC (.int 3))))))))))
def b_25 (R : Rn) : SmS := (sSeq (sPar 2 3 (aCons (vM "str" fSplitP (vVar 1) (aCons (vC (.str " ")) aNil)) (aCons (vCall (R.f 18) 2 0 [0, 1] [] [true] (aCons (vVar 0) (aCons (vC (.int 6)) aNil)) aNil) aNil)))
  (sSeq (sSet 4 (vCall (R.f 18) 2 0 [0, 1] [] [true] (aCons (vVar 0) (aCons (v1 fLen (vVar 2)) aNil)) aNil))
  (sSeq (sSet 5 (vN oLst (aCons (vC (.str "")) (aCons (vC (.str "-")) (aCons (vC (.str "is")) (aCons (vC (.str "more")) (aCons (vC (.str "0")) (aCons (vC (.str "00")) (aCons (vC (.str "07")) (aCons (vC (.str "7")) (aCons (vC (.str "99999")) (aCons (vC (.str "100000")) (aCons (vC (.str "-1")) (aCons (vC (.str "1.0")) (aCons (vC (.str "a")) (aCons (vC (.str "z")) (aCons (vC (.str "ab")) (aCons (vC (.str "A")) (aCons (vC (.str "1\n")) (aCons (vC (.str "a\n")) (aCons (vC (.str "None")) (aCons (vC (.str "+1")) (aCons (vC (.str "1_0")) aNil)))))))))))))))))))))))
  (sSeq (sSet 6 (vCall (R.f 19) 2 0 [0, 1] [] [true] (aCons (vVar 0) (aCons (v2 fAdd (vVar 5) (vN oLst (aCons (v2 fAdd (v2 fIx (vVar 2) (vVar 4)) (vC (.str "0"))) (aCons (v2 fAdd (v2 fIx (vVar 2) (vVar 4)) (vC (.str " "))) aNil)))) aNil)) aNil))
  (sSeq (sIf (tOf (v2 fLt (vVar 3) (vC (.int 2)))) (sSetIx (vVar 2) (vVar 4) (vVar 6)) (sIf (tOf (v2 fEq (vVar 3) (vC (.int 2)))) (sExpr (vM "list" fIns (vVar 2) (aCons (vVar 4) (aCons (vVar 6) aNil)))) (sIf (tOf (v2 fEq (vVar 3) (vC (.int 3)))) (sExpr (vM "list" fPop (vVar 2) (aCons (vVar 4) aNil))) (sIf (tOf (v2 fEq (vVar 3) (vC (.int 4)))) (sSet 2 (v2 fAdd (v2 fAdd (vSl (vVar 2) none (some (vVar 4))) (v1 fRevS (vSl (vVar 2) (some (vVar 4)) (some (v2 fAdd (vVar 4) (vC (.int 2))))))) (vSl (vVar 2) (some (v2 fAdd (vVar 4) (vC (.int 2)))) none))) (sExpr (vM "list" fApp (vVar 2) (aCons (vVar 6) aNil)))))))
  (sRet (vM "str" fJoin (vC (.str " ")) (aCons (vVar 2) aNil))))))))
def b_26 (R : Rn) : SmS := (sSeq (sPar 1 2 (aCons (vCall (R.f 24) 1 0 [0] [] [] (aCons (vVar 0) aNil) aNil) (aCons (vCallLam (R.f 20) 0 [0] 1 [0] [] aNil) aNil)))
  (sSeq (sIf (tNot' (tOf (v1 (fIsi (tabB "list" [3, 4] [0, 1, 2])) (vVar 1)))) (sRet (v2 fEq (vVar 2) (vN oTup (aCons (vC (.str "text")) (aCons (vC (.str "0")) (aCons (v1 fReprA (vVar 1)) aNil)))))) sNil)
  (sSeq (sIf (tOr' (tNot' (tOf (v1 (fIsi (tabB "list" [3, 4] [0, 1, 2])) (vVar 2)))) (tNot' (tOf (v1 (fIsi isi_Question) (v2 fIx (vVar 2) (vC (.int 0))))))) (sRet (vC (.bl false))) sNil)
  (sRet (vAnd (v2 fEq (v1 fReprA (vN oTup (aCons (v1 (fAt "word" [4] [2]) (v2 fIx (vVar 2) (vC (.int 0)))) (aCons (v1 (fFld "number" [4]) (v2 fIx (vVar 2) (vC (.int 0)))) (aCons (v1 (fFld "letter" [4]) (v2 fIx (vVar 2) (vC (.int 0)))) aNil))))) (v1 fReprA (v2 fIx (vVar 1) (vC (.int 0))))) (vAnd (v2 fEq (v1 (fStrO [(4, R.f 16)]) (v2 fIx (vVar 2) (vC (.int 0)))) (vVar 0)) (v2 (fEqO [(4, resF (R.f 15) [0, 1] [] [true])] (oksO [3, 4])) (v2 fIx (vVar 2) (vC (.int 0))) (vCall (R.f 22) 1 0 [0] [] [] (aCons (v2 fIx (vVar 1) (vC (.int 0))) aNil) aNil))))))))
def b_27 (R : Rn) : SmS := (sSeq (sSet 1 (vCall (R.f 19) 2 0 [0, 1] [] [true] (aCons (vVar 0) (aCons (vN oLst (aCons (vC (.str "a")) (aCons (vC (.str "ab")) (aCons (vC (.str "abc")) (aCons (vC (.str "abcdefghijklmnopqrstuvwxyz")) aNil))))) aNil)) aNil))
  (sSeq (sSet 2 (vM "str" fJoin (vC (.str "")) (aCons (vComp (wRng1 (aCons (vCall (R.f 19) 2 0 [0, 1] [] [true] (aCons (vVar 0) (aCons (vN oLst (aCons (vC (.int 0)) (aCons (vC (.int 1)) (aCons (vC (.int 2)) (aCons (vC (.int 3)) (aCons (vC (.int 5)) (aCons (vC (.int 9)) (aCons (vC (.int 30)) aNil)))))))) aNil)) aNil) aNil)) (.nm 7) ([("turn", 7)].map (·.2)) tYes' (vCall (R.f 19) 2 0 [0, 1] [] [true] (aCons (vVar 0) (aCons (vVar 1) aNil)) aNil)) aNil)))
  (sSeq (sFor (wSeq (v2 fAdd (vLrg1 (vN (fMM false) (aCons (v2 fAdd (v1 fLen (vVar 2)) (vC (.int 2))) (aCons (vC (.int 8)) aNil)))) (vN oLst (aCons (vN (fMM true) (aCons (v2 fSub (v1 fLen (vVar 2)) (vC (.int 1))) (aCons (vC (.int 0)) aNil))) (aCons (v1 fLen (vVar 2)) (aCons (v2 fAdd (v1 fLen (vVar 2)) (vC (.int 1))) (aCons (vC (.int 99999)) aNil))))))) (.nm 3) (sSeq (sIf (tOf (v2 fNe (v1 fReprA (vMeth [(4, (resF (R.f 14) [0, 1] [] [true]))] "answer" 1 0 (vRun (resMk 4 (R.f 12) [0, 1, 2, 3] [D.non] [true]) 2 0 (aCons (vC (.str "more")) (aCons (vVar 3) aNil)) aNil) (aCons (vVar 2) aNil) aNil)) (v1 fReprA (v2 fLt (vVar 3) (v1 fLen (vVar 2)))))) (sRet (vC (.bl false))) sNil)
  (sFor (wSeq (v2 fAdd (v2 fAdd (vCall (R.f 19) 2 0 [0, 1] [] [true] (aCons (vVar 0) (aCons (vVar 1) aNil)) aNil) (vC (.str "az"))) (vSl (vVar 2) (some (vVar 3)) (some (v2 fAdd (vVar 3) (vC (.int 1))))))) (.nm 4) (sSeq (sSet 5 (vAnd (v2 fLt (vVar 3) (v1 fLen (vVar 2))) (v2 fEq (vSl (vVar 2) (some (vVar 3)) (some (v2 fAdd (vVar 3) (vC (.int 1))))) (vVar 4))))
  (sIf (tOf (v2 fNe (v1 fReprA (vMeth [(4, (resF (R.f 14) [0, 1] [] [true]))] "answer" 0 1 (vRun (resMk 4 (R.f 12) [0, 3, 2, 1] [D.non] [true]) 0 3 aNil (aCons (vVar 4) (aCons (vVar 3) (aCons (vC (.str "is")) aNil)))) aNil (aCons (vVar 2) aNil))) (v1 fReprA (vVar 5)))) (sRet (vC (.bl false))) sNil)))))
  (sSeq (sSet 6 (vCall (R.f 19) 2 0 [0, 1] [] [true] (aCons (vVar 0) (aCons (vN oLst (aCons (vC .non) (aCons (vC (.int 0)) (aCons (vC (.bl true)) (aCons (vC (.str "A")) (aCons (vC (.str "a.")) (aCons (vC (.str "a b")) (aCons (vN oLst (aCons (vC (.str "a")) aNil)) (aCons (vN oTup (aCons (vC (.str "a")) aNil)) (aCons vDic0 (aCons (vC (.str "a\n")) (aCons (vC (.str "-")) aNil)))))))))))) aNil)) aNil))
  (sRet (v2 fEq (vCallLam (R.f 20) 1 [6] 1 [0] [] aNil) (vN oTup (aCons (vC (.str "question")) (aCons (v1 fReprA (vVar 6)) aNil)))))))))
def b_28 (R : Rn) : SmS := (sSeq (sSet 1 (vCall (R.f 21) 1 0 [0] [] [true] (aCons (vVar 0) aNil) aNil))
  (sSeq (sSet 2 (vCall (R.f 22) 1 0 [0] [] [] (aCons (vVar 1) aNil) aNil))
  (sSeq (sIf (tOr' (tOf (v2 fNe (v1 fReprA (vN oTup (aCons (v1 (fAt "word" [4] [2]) (vVar 2)) (aCons (v1 (fFld "number" [4]) (vVar 2)) (aCons (v1 (fFld "letter" [4]) (vVar 2)) aNil))))) (v1 fReprA (vVar 1)))) (tOf (v2 fNe (v1 (fStrO [(4, R.f 16)]) (vVar 2)) (vCall (R.f 23) 1 0 [0] [] [] (aCons (vVar 1) aNil) aNil)))) (sRet (vC (.bl false))) sNil)
  (sSeq (sSet 3 (vN oLstP (aCons (v1 (fStrO [(4, R.f 16)]) (vVar 2)) (aCons (vVar 1) (aCons (vC .non) (aCons (vRun (resMk 4 (R.f 12) [0, 1, 2, 3] [D.non] [true]) 3 0 (aCons (v2 fIx (vVar 1) (vC (.int 0))) (aCons (v2 fMod (v1 fInt (v2 fAdd (v2 fIx (vVar 1) (vC (.int 1))) (vC (.int 1)))) (vC (.int 100000))) (aCons (v2 fIx (vVar 1) (vC (.int 2))) aNil))) aNil) (aCons (vRun (resMk 4 (R.f 12) [0, 1, 2, 3] [D.non] [true]) 3 0 (aCons (vIf (tOf (v2 fEq (v2 fIx (vVar 1) (vC (.int 0))) (vC (.str "is")))) (vC (.str "more")) (vC (.str "is"))) (aCons (v2 fIx (vVar 1) (vC (.int 1))) (aCons (vIf (tOf (v2 fEq (v2 fIx (vVar 1) (vC (.int 0))) (vC (.str "is")))) (vC .non) (vC (.str "a"))) aNil))) aNil) aNil)))))))
  (sSeq (sIf (tOf (v2 fEq (v2 fIx (vVar 1) (vC (.int 0))) (vC (.str "is")))) (sExpr (vM "list" fApp (vVar 3) (aCons (vRun (resMk 4 (R.f 12) [0, 1, 2, 3] [D.non] [true]) 3 0 (aCons (vC (.str "is")) (aCons (v2 fIx (vVar 1) (vC (.int 1))) (aCons (vIf (tOf (v2 fNe (v2 fIx (vVar 1) (vC (.int 2))) (vC (.str "b")))) (vC (.str "b")) (vC (.str "c"))) aNil))) aNil) aNil))) sNil)
  (sSeq (sIf (tOr' (tNot' (tOf (v2 (fEqO [(4, resF (R.f 15) [0, 1] [] [true])] (oksO [3, 4])) (vVar 2) (vCall (R.f 22) 1 0 [0] [] [] (aCons (vVar 1) aNil) aNil)))) (tOf (v2 (fNeO [(4, R.f 15)] (oksO [3, 4])) (vVar 2) (vRun (resMk 4 (R.f 12) [0, 1, 2, 3] [D.non] [true]) 3 0 (aCons (v2 fIx (vVar 1) (vC (.int 0))) (aCons (v2 fIx (vVar 1) (vC (.int 1))) (aCons (v2 fIx (vVar 1) (vC (.int 2))) aNil))) aNil)))) (sRet (vC (.bl false))) sNil)
  (sRet (v2 fEq (vComp (wSeq (vVar 3)) (.nm 4) ([("other", 4)].map (·.2)) (tOr' (tOf (v2 (fEqO [(4, resF (R.f 15) [0, 1] [] [true])] (oksO [3, 4])) (vVar 2) (vVar 4))) (tNot' (tOf (v2 (fNeO [(4, R.f 15)] (oksO [3, 4])) (vVar 2) (vVar 4))))) (vVar 4)) (vN oLst aNil)))))))))
def b_29 (R : Rn) : SmS := (sSeq (sSet 1 (vN oLst (aCons (vC .non) (aCons (vC (.str "")) (aCons (vC (.str "Is")) (aCons (vC (.str "IS")) (aCons (vC (.str "are")) (aCons (vC (.str "isn")) (aCons (vC (.str "mor")) (aCons (vC (.int 0)) (aCons (vN oLst (aCons (vC (.str "is")) aNil)) (aCons (vN oTup (aCons (vC (.str "is")) aNil)) (aCons (vC (.bl true)) (aCons (vC (.str "is ")) (aCons (vC (.str "is\n")) (aCons vDic0 aNil))))))))))))))))
  (sSeq (sSet 2 (vN oLst (aCons (vC .non) (aCons (vC (.bl true)) (aCons (vC (.bl false)) (aCons (v1 fNeg (vC (.int 1))) (aCons (vC (.int 100000)) (aCons (vC (.str "1")) (aCons (vN oTup (aCons (vC (.int 1)) aNil)) (aCons (vN oLst aNil) (aCons (v2 fPow (vC (.int 10)) (vC (.int 40))) (aCons (v1 fNeg (v2 fPow (vC (.int 10)) (vC (.int 40)))) aNil))))))))))))
  (sSeq (sSet 3 (vN oLst (aCons (vC .non) (aCons (vC (.str "")) (aCons (vC (.str "A")) (aCons (vC (.str "ab")) (aCons (vC (.str ".")) (aCons (vC (.int 1)) (aCons (vN oLst (aCons (vC (.str "a")) aNil)) (aCons (vN oTup (aCons (vC (.str "a")) aNil)) (aCons (vC (.bl true)) (aCons (vC (.str "a\n")) (aCons (vC (.str "-")) (aCons vDic0 aNil))))))))))))))
  (sSeq (sFor (wSeq (vVar 1)) (.nm 4) (sSeq (sAsgs  [(.nm 5), (.nm 6)] (aCons (vCall (R.f 19) 2 0 [0, 1] [] [true] (aCons (vVar 0) (aCons (vVar 2) aNil)) aNil) (aCons (vCall (R.f 19) 2 0 [0, 1] [] [true] (aCons (vVar 0) (aCons (vVar 3) aNil)) aNil) aNil)))
  (sIf (tOf (v2 fNe (vCallLam (R.f 20) 2 [4, 5, 6] 1 [0] [] aNil) (vN oTup (aCons (vC (.str "question")) (aCons (v1 fReprA (vVar 4)) aNil))))) (sRet (vC (.bl false))) sNil)))
  (sSeq (sFor (wSeq (vVar 2)) (.nm 4) (sSeq (sAsgs  [(.nm 7), (.nm 6)] (aCons (vCall (R.f 19) 2 0 [0, 1] [] [true] (aCons (vVar 0) (aCons (vN oLst (aCons (vC (.str "is")) (aCons (vC (.str "more")) aNil))) aNil)) aNil) (aCons (vCall (R.f 19) 2 0 [0, 1] [] [true] (aCons (vVar 0) (aCons (vVar 3) aNil)) aNil) aNil)))
  (sIf (tOf (v2 fNe (vCallLam (R.f 20) 3 [4, 6, 7] 1 [0] [] aNil) (vN oTup (aCons (vC (.str "question")) (aCons (v1 fReprA (vVar 4)) aNil))))) (sRet (vC (.bl false))) sNil)))
  (sSeq (sIf (tOf (v2 fNe (vComp (wSeq (vVar 3)) (.nm 4) ([("value", 4)].map (·.2)) (tOf (v2 fNe (vCallLam (R.f 20) 4 [4] 1 [0] [] aNil) (vN oTup (aCons (vC (.str "question")) (aCons (v1 fReprA (vVar 4)) aNil))))) (vVar 4)) (vN oLst aNil))) (sRet (vC (.bl false))) sNil)
  (sSeq (sSet 8 (vComp (wSeq (v2 fAdd (vVar 3) (vN oLst (aCons (vC (.str "a")) (aCons (vC (.str "z")) (aCons (vC (.int 0)) (aCons (vC (.bl false)) aNil))))))) (.nm 4) ([("value", 4)].map (·.2)) (tOf (v2 fIsn (vVar 4) (vC .non))) (vVar 4)))
  (sSeq (sIf (tOf (v2 fNe (vComp (wSeq (vVar 8)) (.nm 4) ([("value", 4)].map (·.2)) (tOf (v2 fNe (vCallLam (R.f 20) 5 [4] 1 [0] [] aNil) (vN oTup (aCons (vC (.str "question")) (aCons (v1 fReprA (vVar 4)) aNil))))) (vVar 4)) (vN oLst aNil))) (sRet (vC (.bl false))) sNil)
  (sRet (vAnd (v2 fEq (vCallLam (R.f 20) 6 [] 1 [0] [] aNil) (vN oTup (aCons (vC (.str "question")) (aCons (vC (.str "None")) aNil)))) (v2 (fEqO [(4, resF (R.f 15) [0, 1] [] [true])] (oksO [3, 4])) (vRun (resMk 4 (R.f 12) [0, 1, 2, 3] [D.non] [true]) 3 0 (aCons (vC (.str "more")) (aCons (vC (.int 5)) (aCons (vC .non) aNil))) aNil) (vRun (resMk 4 (R.f 12) [0, 1, 2, 3] [D.non] [true]) 2 0 (aCons (vC (.str "more")) (aCons (vC (.int 5)) aNil)) aNil))))))))))))
def b_30 (R : Rn) : SmS := (sSeq (sSet 1 (vCall (R.f 17) 1 0 [0] [] [] (aCons (vVar 0) aNil) aNil))
  (sSeq (sFor (wRng1 (aCons (vC (.int 3)) aNil)) (.nm 2) (sSeq (sIf (tOr' (tNot' (tOf (vCall (R.f 27) 1 0 [0] [] [true] (aCons (vVar 1) aNil) aNil))) (tNot' (tOf (vCall (R.f 28) 1 0 [0] [] [true] (aCons (vVar 1) aNil) aNil)))) (sRet (vC (.bl false))) sNil)
  (sSeq (sSet 3 (vCall (R.f 23) 1 0 [0] [] [] (aCons (vCall (R.f 21) 1 0 [0] [] [true] (aCons (vVar 1) aNil) aNil) aNil) aNil))
  (sFor (wRng1 (aCons (vC (.int 8)) aNil)) (.nm 4) (sSeq (sSet 5 (vCall (R.f 25) 2 0 [0, 1] [] [true] (aCons (vVar 1) (aCons (vVar 3) aNil)) aNil))
  (sIf (tOr' (tNot' (tOf (vCall (R.f 26) 1 0 [0] [] [] (aCons (vVar 3) aNil) aNil))) (tOr' (tNot' (tOf (vCall (R.f 26) 1 0 [0] [] [] (aCons (vVar 5) aNil) aNil))) (tNot' (tOf (vCall (R.f 26) 1 0 [0] [] [] (aCons (vCall (R.f 25) 2 0 [0, 1] [] [true] (aCons (vVar 1) (aCons (vVar 5) aNil)) aNil) aNil) aNil))))) (sRet (vC (.bl false))) sNil))))))
  (sSeq (sSet 6 (vCall (R.f 19) 2 0 [0, 1] [] [true] (aCons (vVar 1) (aCons (vN oLst (aCons (vC .non) (aCons (vC (.int 5)) (aCons (vC (.bl true)) (aCons (vN oLst (aCons (vC (.str "more 0")) aNil)) (aCons (vN oTup (aCons (vC (.str "more")) (aCons (vC (.int 0)) aNil))) (aCons vDic0 (aCons (vRun (resMk 4 (R.f 12) [0, 1, 2, 3] [D.non] [true]) 2 0 (aCons (vC (.str "more")) (aCons (vC (.int 0)) aNil)) aNil) aNil)))))))) aNil)) aNil))
  (sRet (vAnd (v2 fEq (vCallLam (R.f 20) 7 [6] 1 [0] [] aNil) (vN oTup (aCons (vC (.str "text")) (aCons (vC (.str "0")) (aCons (vC (.str "0")) aNil))))) (vCall (R.f 29) 1 0 [0] [] [true] (aCons (vVar 1) aNil) aNil))))))
def l_0 (R : Rn) : Sm U := (vCM (resF (R.f 13) [0, 1] [] []) 4 1 (aCons (vVar 0) aNil))
def l_1 (R : Rn) : Sm U := (vMeth [(4, (resF (R.f 14) [0, 1] [] [true]))] "answer" 1 0 (vRun (resMk 4 (R.f 12) [0, 1, 2, 3] [D.non] [true]) 2 0 (aCons (vC (.str "more")) (aCons (vC (.int 0)) aNil)) aNil) (aCons (vVar 0) aNil) aNil)
def l_2 (R : Rn) : Sm U := (vRun (resMk 4 (R.f 12) [0, 1, 2, 3] [D.non] [true]) 3 0 (aCons (vVar 0) (aCons (vVar 1) (aCons (vVar 2) aNil))) aNil)
def l_3 (R : Rn) : Sm U := (vRun (resMk 4 (R.f 12) [0, 1, 2, 3] [D.non] [true]) 3 0 (aCons (vVar 2) (aCons (vVar 0) (aCons (vVar 1) aNil))) aNil)
def l_4 (R : Rn) : Sm U := (vRun (resMk 4 (R.f 12) [0, 1, 2, 3] [D.non] [true]) 3 0 (aCons (vC (.str "is")) (aCons (vC (.int 99999)) (aCons (vVar 0) aNil))) aNil)
def l_5 (R : Rn) : Sm U := (vRun (resMk 4 (R.f 12) [0, 1, 2, 3] [D.non] [true]) 3 0 (aCons (vC (.str "more")) (aCons (vC (.int 0)) (aCons (vVar 0) aNil))) aNil)
def l_6 (R : Rn) : Sm U := (vRun (resMk 4 (R.f 12) [0, 1, 2, 3] [D.non] [true]) 2 0 (aCons (vC (.str "is")) (aCons (vC (.int 0)) aNil)) aNil)
def l_7 (R : Rn) : Sm U := (vCM (resF (R.f 13) [0, 1] [] []) 4 1 (aCons (vVar 0) aNil))
def fns (R : Rn) : List Fn := [entry N0.length false (b_0 R), entry N1.length false (b_1 R), entry N2.length false (b_2 R), entry N3.length false (b_3 R), entry N4.length false (b_4 R), entry N5.length false (b_5 R), entry N6.length false (b_6 R), entry N7.length false (b_7 R), entry N8.length false (b_8 R), entry N9.length false (b_9 R), entry N10.length false (b_10 R), entry N11.length false (b_11 R), entry N12.length false (b_12 R), entry N13.length false (b_13 R), entry N14.length false (b_14 R), entry N15.length false (b_15 R), entry N16.length false (b_16 R), entry N17.length true (b_17 R), entry N18.length false (b_18 R), entry N19.length false (b_19 R), entry N20.length false (b_20 R), entry N21.length false (b_21 R), entry N22.length false (b_22 R), entry N23.length false (b_23 R), entry N24.length false (b_24 R), entry N25.length false (b_25 R), entry N26.length false (b_26 R), entry N27.length false (b_27 R), entry N28.length false (b_28 R), entry N29.length false (b_29 R), entry N30.length false (b_30 R)]
def lmb (R : Rn) : List Fn := [entry (lamI 0).caps.length false (sRet (l_0 R)), entry (lamI 1).caps.length false (sRet (l_1 R)), entry (lamI 2).caps.length false (sRet (l_2 R)), entry (lamI 3).caps.length false (sRet (l_3 R)), entry (lamI 4).caps.length false (sRet (l_4 R)), entry (lamI 5).caps.length false (sRet (l_5 R)), entry (lamI 6).caps.length false (sRet (l_6 R)), entry (lamI 7).caps.length false (sRet (l_7 R))]
def run : Nat → Rn
  | 0 => ⟨fun _ _ _ => .bad, fun _ _ _ => .bad⟩
  | n + 1 => ⟨fun k => (fns (run n)).getD k fun _ _ => .bad, fun k => (lmb (run n)).getD k fun _ _ => .bad⟩
/-! ### what is told of the top -/
abbrev cA0 (K : PySem.W.Frag) : Addr := He.ga K "HearError"
abbrev cA1 (K : PySem.W.Frag) : Addr := He.ga K "BadQuestion"
abbrev cA2 (K : PySem.W.Frag) : Addr := He.ga K "BadText"
abbrev cA3 (K : PySem.W.Frag) : Addr := He.ga K "Scan"
abbrev cA4 (K : PySem.W.Frag) : Addr := He.ga K "Question"
def clsA (K : PySem.W.Frag) (c : Nat) : Addr := match c with
  | 0 => cA0 K
  | 1 => cA1 K
  | 2 => cA2 K
  | 3 => cA3 K
  | 4 => cA4 K
  | _ => 0
abbrev lamT (K : PySem.W.Frag) : List (Addr × Str) := [((He.cT K at26).2, ("_law_text_right.<locals>.<lambda>" : Str)), ((He.cT K at27).2, ("_law_answers_right.<locals>.<lambda>" : Str)), ((He.cT K at29).2, ("_law_refused_right.<locals>.<lambda>" : Str)), ((He.cT K at30).2, ("law.<locals>.<lambda>" : Str))]
def mkG (K : PySem.W.Frag) : Gc := ⟨K, clsA K, lamI, lamT K⟩
theorem tin_26 {K : PySem.W.Frag} : ((He.cT K at26).2, ("_law_text_right.<locals>.<lambda>" : Str)) ∈ lamT K := (.head _)
theorem tin_27 {K : PySem.W.Frag} : ((He.cT K at27).2, ("_law_answers_right.<locals>.<lambda>" : Str)) ∈ lamT K := (.tail _ (.head _))
theorem tin_29 {K : PySem.W.Frag} : ((He.cT K at29).2, ("_law_refused_right.<locals>.<lambda>" : Str)) ∈ lamT K := (.tail _ (.tail _ (.head _)))
theorem tin_30 {K : PySem.W.Frag} : ((He.cT K at30).2, ("law.<locals>.<lambda>" : Str)) ∈ lamT K := (.tail _ (.tail _ (.tail _ (.head _))))
abbrev si1 : Stmt := inClass (top 9) 0
abbrev Pi1 : List Str := ["self", "value"]
theorem sci1 : FnScope Pi1 Pi1 (defScope si1) := ⟨rfl, rfl, rfl, by decide +kernel, rfl, by decide +kernel, by decide +kernel⟩
abbrev ati1 : Str × Option Str := ("BadQuestion", some "__init__")
abbrev si2 : Stmt := inClass (top 10) 0
abbrev Pi2 : List Str := ["self", "line", "word"]
theorem sci2 : FnScope Pi2 Pi2 (defScope si2) := ⟨rfl, rfl, rfl, by decide +kernel, rfl, by decide +kernel, by decide +kernel⟩
abbrev ati2 : Str × Option Str := ("BadText", some "__init__")
def exL (K : PySem.W.Frag) : List Bool := [excCB K (cA0 K),
  xfB K (cA0 K),
  excCB K (cA1 K),
  xfB K (cA1 K),
  excCB K (cA2 K),
  xfB K (cA2 K),
  oexB K (cA1 K),
  initB K (cA1 K) (He.fAd K ati1),
  He.eqO (PySem.W.findIn K (.ref (cA1 K)) "value") (some none),
  oexB K (cA2 K),
  initB K (cA2 K) (He.fAd K ati2),
  He.eqO (PySem.W.findIn K (.ref (cA2 K)) "line") (some none),
  He.eqO (PySem.W.findIn K (.ref (cA2 K)) "word") (some none),
  kitsB K (cA1 K),
  kitB' K (.ref (cA0 K)) (.ref (cA1 K)) false,
  kitB' K (.ref (cA1 K)) (.ref (cA1 K)) true,
  kitB' K (.ref (cA2 K)) (.ref (cA1 K)) false,
  kitB' K (.ref (cA3 K)) (.ref (cA1 K)) false,
  kitB' K (.ref (cA4 K)) (.ref (cA1 K)) false,
  kitsB K (cA2 K),
  kitB' K (.ref (cA0 K)) (.ref (cA2 K)) false,
  kitB' K (.ref (cA1 K)) (.ref (cA2 K)) false,
  kitB' K (.ref (cA2 K)) (.ref (cA2 K)) true,
  kitB' K (.ref (cA3 K)) (.ref (cA2 K)) false,
  kitB' K (.ref (cA4 K)) (.ref (cA2 K)) false,
  kitsB K (cA4 K),
  kitB' K (.ref (cA0 K)) (.ref (cA4 K)) false,
  kitB' K (.ref (cA1 K)) (.ref (cA4 K)) false,
  kitB' K (.ref (cA2 K)) (.ref (cA4 K)) false,
  kitB' K (.ref (cA3 K)) (.ref (cA4 K)) false,
  kitB' K (.ref (cA4 K)) (.ref (cA4 K)) true,
  ktsB K "ValueError",
  kitB' K (.ref (cA0 K)) (.type "ValueError") true,
  kitB' K (.ref (cA1 K)) (.type "ValueError") true,
  kitB' K (.ref (cA2 K)) (.type "ValueError") true,
  kitB' K (.ref (cA3 K)) (.type "ValueError") false,
  kitB' K (.ref (cA4 K)) (.type "ValueError") false,
  kitB' K (.ref (cA0 K)) (.type "bool") false,
  kitB' K (.ref (cA1 K)) (.type "bool") false,
  kitB' K (.ref (cA2 K)) (.type "bool") false,
  kitB' K (.ref (cA3 K)) (.type "bool") false,
  kitB' K (.ref (cA4 K)) (.type "bool") false,
  kitB' K (.ref (cA0 K)) (.type "int") false,
  kitB' K (.ref (cA1 K)) (.type "int") false,
  kitB' K (.ref (cA2 K)) (.type "int") false,
  kitB' K (.ref (cA3 K)) (.type "int") false,
  kitB' K (.ref (cA4 K)) (.type "int") false,
  kitB' K (.ref (cA0 K)) (.type "list") false,
  kitB' K (.ref (cA1 K)) (.type "list") false,
  kitB' K (.ref (cA2 K)) (.type "list") false,
  kitB' K (.ref (cA3 K)) (.type "list") false,
  kitB' K (.ref (cA4 K)) (.type "list") false,
  kitB' K (.ref (cA0 K)) (.type "str") false,
  kitB' K (.ref (cA1 K)) (.type "str") false,
  kitB' K (.ref (cA2 K)) (.type "str") false,
  kitB' K (.ref (cA3 K)) (.type "str") false,
  kitB' K (.ref (cA4 K)) (.type "str") false,
  exmB K (.ref (cA0 K)) (.ref (cA0 K)) true,
  exmB K (.ref (cA1 K)) (.ref (cA0 K)) true,
  exmB K (.ref (cA2 K)) (.ref (cA0 K)) true,
  eqB K (cA4 K),
  nfB K (cA4 K),
  nfC K (cA4 K) (cA3 K),
  nfC K (cA4 K) (cA4 K),
  neB K (cA4 K),
  strB K (cA4 K),
  cReadB K (cA4 K),
  cMetB K (cA4 K) "from_text",
  insCB K (cA3 K),
  insCB K (cA4 K),
  decide ((He.cT K at26).2 ≠ (He.cT K at27).2),
  decide ((He.cT K at26).2 ≠ (He.cT K at29).2),
  decide ((He.cT K at26).2 ≠ (He.cT K at30).2),
  decide ((He.cT K at27).2 ≠ (He.cT K at29).2),
  decide ((He.cT K at27).2 ≠ (He.cT K at30).2),
  decide ((He.cT K at29).2 ≠ (He.cT K at30).2)]
def ex (K : PySem.W.Frag) : Bool := (exL K).all id
theorem ex_at {K : PySem.W.Frag} (h : ex K = true) (i : Nat) {b : Bool} (e : (exL K)[i]? = some b) : b = true := List.all_eq_true.mp h b (List.mem_of_getElem? e)
def d0 : He5.DefA := ⟨fun K => (He.fAd K at0), "is_integer", "is_integer", defArgs st0, defBody st0, defScope st0, [], []⟩
def d1 : He5.DefA := ⟨fun K => (He.fAd K at1), "is_within", "is_within", defArgs st1, defBody st1, defScope st1, [], []⟩
def d2 : He5.DefA := ⟨fun K => (He.fAd K at2), "is_deeds", "is_deeds", defArgs st2, defBody st2, defScope st2, [], []⟩
def d3 : He5.DefA := ⟨fun K => (He.fAd K at3), "is_letter", "is_letter", defArgs st3, defBody st3, defScope st3, [], []⟩
def d4 : He5.DefA := ⟨fun K => (He.fAd K at4), "is_number", "is_number", defArgs st4, defBody st4, defScope st4, [], []⟩
def d5 : He5.DefA := ⟨fun K => (He.fAd K at5), "__init__", "Scan.__init__", defArgs st5, defBody st5, defScope st5, [(.int (0))], []⟩
def d6 : He5.DefA := ⟨fun K => (He.fAd K at6), "word", "Scan.word", defArgs st6, defBody st6, defScope st6, [], []⟩
def d7 : He5.DefA := ⟨fun K => (He.fAd K at7), "refuse", "Scan.refuse", defArgs st7, defBody st7, defScope st7, [], []⟩
def d8 : He5.DefA := ⟨fun K => (He.fAd K at8), "take", "Scan.take", defArgs st8, defBody st8, defScope st8, [(.bl true)], []⟩
def d9 : He5.DefA := ⟨fun K => (He.fAd K at9), "take_just", "Scan.take_just", defArgs st9, defBody st9, defScope st9, [], []⟩
def d10 : He5.DefA := ⟨fun K => (He.fAd K at10), "take_number", "Scan.take_number", defArgs st10, defBody st10, defScope st10, [], []⟩
def d11 : He5.DefA := ⟨fun K => (He.fAd K at11), "finish", "Scan.finish", defArgs st11, defBody st11, defScope st11, [], []⟩
def d12 : He5.DefA := ⟨fun K => (He.fAd K at12), "__init__", "Question.__init__", defArgs st12, defBody st12, defScope st12, [.non], []⟩
def d13 : He5.DefA := ⟨fun K => (He5.wf K (cA4 K) "classmethod" "from_text"), "from_text", "Question.from_text", defArgs st13, defBody st13, defScope st13, [], []⟩
def d14 : He5.DefA := ⟨fun K => (He.fAd K at14), "answer", "Question.answer", defArgs st14, defBody st14, defScope st14, [], []⟩
def d15 : He5.DefA := ⟨fun K => (He.fAd K at15), "__eq__", "Question.__eq__", defArgs st15, defBody st15, defScope st15, [], []⟩
def d16 : He5.DefA := ⟨fun K => (He.fAd K at16), "__str__", "Question.__str__", defArgs st16, defBody st16, defScope st16, [], []⟩
def d17 : He5.DefA := ⟨fun K => (He.fAd K at17), "_law_well", "_law_well", defArgs st17, defBody st17, defScope st17, [], []⟩
def d18 : He5.DefA := ⟨fun K => (He.fAd K at18), "_law_draw", "_law_draw", defArgs st18, defBody st18, defScope st18, [], []⟩
def d19 : He5.DefA := ⟨fun K => (He.fAd K at19), "_law_one", "_law_one", defArgs st19, defBody st19, defScope st19, [], []⟩
def d20 : He5.DefA := ⟨fun K => (He.fAd K at20), "_law_heard", "_law_heard", defArgs st20, defBody st20, defScope st20, [], []⟩
def d21 : He5.DefA := ⟨fun K => (He.fAd K at21), "_law_plain", "_law_plain", defArgs st21, defBody st21, defScope st21, [], []⟩
def d22 : He5.DefA := ⟨fun K => (He.fAd K at22), "_law_made", "_law_made", defArgs st22, defBody st22, defScope st22, [], []⟩
def d23 : He5.DefA := ⟨fun K => (He.fAd K at23), "_law_text", "_law_text", defArgs st23, defBody st23, defScope st23, [], []⟩
def d24 : He5.DefA := ⟨fun K => (He.fAd K at24), "_law_read", "_law_read", defArgs st24, defBody st24, defScope st24, [], []⟩
def d25 : He5.DefA := ⟨fun K => (He.fAd K at25), "_law_bent", "_law_bent", defArgs st25, defBody st25, defScope st25, [], []⟩
def d26 : He5.DefA := ⟨fun K => (He.fAd K at26), "_law_text_right", "_law_text_right", defArgs st26, defBody st26, defScope st26, [], []⟩
def d27 : He5.DefA := ⟨fun K => (He.fAd K at27), "_law_answers_right", "_law_answers_right", defArgs st27, defBody st27, defScope st27, [], []⟩
def d28 : He5.DefA := ⟨fun K => (He.fAd K at28), "_law_unlike_right", "_law_unlike_right", defArgs st28, defBody st28, defScope st28, [], []⟩
def d29 : He5.DefA := ⟨fun K => (He.fAd K at29), "_law_refused_right", "_law_refused_right", defArgs st29, defBody st29, defScope st29, [], []⟩
def d30 : He5.DefA := ⟨fun K => (He.fAd K at30), "law", "law", defArgs st30, defBody st30, defScope st30, [], []⟩
def di1 : He5.DefA := ⟨fun K => He.fAd K ati1, "__init__", "BadQuestion.__init__", defArgs si1, defBody si1, defScope si1, [], []⟩
def di2 : He5.DefA := ⟨fun K => He.fAd K ati2, "__init__", "BadText.__init__", defArgs si2, defBody si2, defScope si2, [], []⟩
def fnL : List He5.DefA := [d0, d1, d2, d3, d4, d5, d6, d7, d8, d9, d10, d11, d12, d13, d14, d15, d16, d17, d18, d19, d20, d21, d22, d23, d24, d25, d26, d27, d28, d29, d30, di1, di2]
def faL : List He.Fa := [.glo "BadQuestion", .glo "BadText", .glo "HearError", .glo "Question", .glo "Scan", .glo "_law_answers_right", .glo "_law_bent", .glo "_law_draw", .glo "_law_heard", .glo "_law_made", .glo "_law_one", .glo "_law_plain", .glo "_law_read", .glo "_law_refused_right", .glo "_law_text", .glo "_law_text_right", .glo "_law_unlike_right", .glo "_law_well", .glo "is_deeds", .glo "is_integer", .glo "is_letter", .glo "is_number", .glo "is_within", .glo "law", .free "ValueError", .free "abs", .free "all", .free "bool", .free "int", .free "isinstance", .free "len", .free "list", .free "max", .free "min", .free "range", .free "repr", .free "str", .str "DIGITS" "0123456789", .str "IS" "is", .str "LETTERS" "abcdefghijklmnopqrstuvwxyz", .str "MORE_THAN" "more", .int "MOST_NUMBER" (99999), .cls "Question", .cls "Scan", .meth "Question" "answer", .meth "Scan" "finish", .meth "Scan" "refuse", .meth "Scan" "take", .meth "Scan" "take_just", .meth "Scan" "take_number", .meth "Scan" "word", .mkr "Question", .mkr "Scan", .noat "Question" "letter", .noat "Question" "number", .noat "Question" "word", .noat "Scan" "at", .noat "Scan" "line", .noat "Scan" "tokens"]
def tfL : List He.Defn := [at26, at27, at29, at30]
structure TT (K : PySem.W.Frag) (mg : Str → Option Value) : Prop where
  g_BadQuestion : mg "BadQuestion" = some (.ref (He.ga K "BadQuestion"))
  g_BadText : mg "BadText" = some (.ref (He.ga K "BadText"))
  g_HearError : mg "HearError" = some (.ref (He.ga K "HearError"))
  g_Question : mg "Question" = some (.ref (He.ga K "Question"))
  g_Scan : mg "Scan" = some (.ref (He.ga K "Scan"))
  g__law_answers_right : mg "_law_answers_right" = some (.ref (He.ga K "_law_answers_right"))
  g__law_bent : mg "_law_bent" = some (.ref (He.ga K "_law_bent"))
  g__law_draw : mg "_law_draw" = some (.ref (He.ga K "_law_draw"))
  g__law_heard : mg "_law_heard" = some (.ref (He.ga K "_law_heard"))
  g__law_made : mg "_law_made" = some (.ref (He.ga K "_law_made"))
  g__law_one : mg "_law_one" = some (.ref (He.ga K "_law_one"))
  g__law_plain : mg "_law_plain" = some (.ref (He.ga K "_law_plain"))
  g__law_read : mg "_law_read" = some (.ref (He.ga K "_law_read"))
  g__law_refused_right : mg "_law_refused_right" = some (.ref (He.ga K "_law_refused_right"))
  g__law_text : mg "_law_text" = some (.ref (He.ga K "_law_text"))
  g__law_text_right : mg "_law_text_right" = some (.ref (He.ga K "_law_text_right"))
  g__law_unlike_right : mg "_law_unlike_right" = some (.ref (He.ga K "_law_unlike_right"))
  g__law_well : mg "_law_well" = some (.ref (He.ga K "_law_well"))
  g_is_deeds : mg "is_deeds" = some (.ref (He.ga K "is_deeds"))
  g_is_integer : mg "is_integer" = some (.ref (He.ga K "is_integer"))
  g_is_letter : mg "is_letter" = some (.ref (He.ga K "is_letter"))
  g_is_number : mg "is_number" = some (.ref (He.ga K "is_number"))
  g_is_within : mg "is_within" = some (.ref (He.ga K "is_within"))
  g_law : mg "law" = some (.ref (He.ga K "law"))
  n_ValueError : mg "ValueError" = none
  n_abs : mg "abs" = none
  n_all : mg "all" = none
  n_bool : mg "bool" = none
  n_int : mg "int" = none
  n_isinstance : mg "isinstance" = none
  n_len : mg "len" = none
  n_list : mg "list" = none
  n_max : mg "max" = none
  n_min : mg "min" = none
  n_range : mg "range" = none
  n_repr : mg "repr" = none
  n_str : mg "str" = none
  s_DIGITS : ∃ t, mg "DIGITS" = some (.str "0123456789" t)
  s_IS : ∃ t, mg "IS" = some (.str "is" t)
  s_LETTERS : ∃ t, mg "LETTERS" = some (.str "abcdefghijklmnopqrstuvwxyz" t)
  s_MORE_THAN : ∃ t, mg "MORE_THAN" = some (.str "more" t)
  i_MOST_NUMBER : ∃ t, mg "MOST_NUMBER" = some (.int (99999) t)
  cls_Question : Cls K (He.ga K "Question")
  cls_Scan : Cls K (He.ga K "Scan")
  meth_Question_answer : Meth K (He.ga K "Question") "answer" (He.ma K (He.ga K "Question") "answer")
  meth_Scan_finish : Meth K (He.ga K "Scan") "finish" (He.ma K (He.ga K "Scan") "finish")
  meth_Scan_refuse : Meth K (He.ga K "Scan") "refuse" (He.ma K (He.ga K "Scan") "refuse")
  meth_Scan_take : Meth K (He.ga K "Scan") "take" (He.ma K (He.ga K "Scan") "take")
  meth_Scan_take_just : Meth K (He.ga K "Scan") "take_just" (He.ma K (He.ga K "Scan") "take_just")
  meth_Scan_take_number : Meth K (He.ga K "Scan") "take_number" (He.ma K (He.ga K "Scan") "take_number")
  meth_Scan_word : Meth K (He.ga K "Scan") "word" (He.ma K (He.ga K "Scan") "word")
  mk_Question : Mk K (He.ga K "Question") (He.ma K (He.ga K "Question") "__init__")
  mk_Scan : Mk K (He.ga K "Scan") (He.ma K (He.ga K "Scan") "__init__")
  no_Question_letter : NoAttr K (He.ga K "Question") "letter"
  no_Question_number : NoAttr K (He.ga K "Question") "number"
  no_Question_word : NoAttr K (He.ga K "Question") "word"
  no_Scan_at : NoAttr K (He.ga K "Scan") "at"
  no_Scan_line : NoAttr K (He.ga K "Scan") "line"
  no_Scan_tokens : NoAttr K (He.ga K "Scan") "tokens"
  oc0 : ExcC K (cA0 K)
  xc0 : XfC K (cA0 K)
  oc1 : ExcC K (cA1 K)
  xc1 : XfC K (cA1 K)
  oc2 : ExcC K (cA2 K)
  xc2 : XfC K (cA2 K)
  ox1 : OexC K (cA1 K)
  in1 : PySem.W.findIn K (.ref (cA1 K)) "__init__" = some (some (.ref (He.fAd K ati1))) ∧ PySem.W.typeIn K (.ref (He.fAd K ati1)) = some (.type "function")
  na1_value : PySem.W.findIn K (.ref (cA1 K)) "value" = some none
  ox2 : OexC K (cA2 K)
  in2 : PySem.W.findIn K (.ref (cA2 K)) "__init__" = some (some (.ref (He.fAd K ati2))) ∧ PySem.W.typeIn K (.ref (He.fAd K ati2)) = some (.type "function")
  na2_line : PySem.W.findIn K (.ref (cA2 K)) "line" = some none
  na2_word : PySem.W.findIn K (.ref (cA2 K)) "word" = some none
  ks_BadQuestion : ∀ n, n ∈ ["NoneType", "bool", "int", "str", "tuple", "list", "dict"] → PySem.W.kitOne K (.type n) (.ref (cA1 K)) = some false
  ko_BadQuestion_0 : PySem.W.kitOne K (.ref (cA0 K)) (.ref (cA1 K)) = some false
  ko_BadQuestion_1 : PySem.W.kitOne K (.ref (cA1 K)) (.ref (cA1 K)) = some true
  ko_BadQuestion_2 : PySem.W.kitOne K (.ref (cA2 K)) (.ref (cA1 K)) = some false
  ko_BadQuestion_3 : PySem.W.kitOne K (.ref (cA3 K)) (.ref (cA1 K)) = some false
  ko_BadQuestion_4 : PySem.W.kitOne K (.ref (cA4 K)) (.ref (cA1 K)) = some false
  ks_BadText : ∀ n, n ∈ ["NoneType", "bool", "int", "str", "tuple", "list", "dict"] → PySem.W.kitOne K (.type n) (.ref (cA2 K)) = some false
  ko_BadText_0 : PySem.W.kitOne K (.ref (cA0 K)) (.ref (cA2 K)) = some false
  ko_BadText_1 : PySem.W.kitOne K (.ref (cA1 K)) (.ref (cA2 K)) = some false
  ko_BadText_2 : PySem.W.kitOne K (.ref (cA2 K)) (.ref (cA2 K)) = some true
  ko_BadText_3 : PySem.W.kitOne K (.ref (cA3 K)) (.ref (cA2 K)) = some false
  ko_BadText_4 : PySem.W.kitOne K (.ref (cA4 K)) (.ref (cA2 K)) = some false
  ks_Question : ∀ n, n ∈ ["NoneType", "bool", "int", "str", "tuple", "list", "dict"] → PySem.W.kitOne K (.type n) (.ref (cA4 K)) = some false
  ko_Question_0 : PySem.W.kitOne K (.ref (cA0 K)) (.ref (cA4 K)) = some false
  ko_Question_1 : PySem.W.kitOne K (.ref (cA1 K)) (.ref (cA4 K)) = some false
  ko_Question_2 : PySem.W.kitOne K (.ref (cA2 K)) (.ref (cA4 K)) = some false
  ko_Question_3 : PySem.W.kitOne K (.ref (cA3 K)) (.ref (cA4 K)) = some false
  ko_Question_4 : PySem.W.kitOne K (.ref (cA4 K)) (.ref (cA4 K)) = some true
  kt_ValueError : ∀ t, t ∈ ["NoneType", "bool", "int", "str", "tuple", "list", "dict"] → PySem.W.kitOne K (.type t) (.type "ValueError") = some false
  kb_ValueError_0 : PySem.W.kitOne K (.ref (cA0 K)) (.type "ValueError") = some true
  kb_ValueError_1 : PySem.W.kitOne K (.ref (cA1 K)) (.type "ValueError") = some true
  kb_ValueError_2 : PySem.W.kitOne K (.ref (cA2 K)) (.type "ValueError") = some true
  kb_ValueError_3 : PySem.W.kitOne K (.ref (cA3 K)) (.type "ValueError") = some false
  kb_ValueError_4 : PySem.W.kitOne K (.ref (cA4 K)) (.type "ValueError") = some false
  kb_bool_0 : PySem.W.kitOne K (.ref (cA0 K)) (.type "bool") = some false
  kb_bool_1 : PySem.W.kitOne K (.ref (cA1 K)) (.type "bool") = some false
  kb_bool_2 : PySem.W.kitOne K (.ref (cA2 K)) (.type "bool") = some false
  kb_bool_3 : PySem.W.kitOne K (.ref (cA3 K)) (.type "bool") = some false
  kb_bool_4 : PySem.W.kitOne K (.ref (cA4 K)) (.type "bool") = some false
  kb_int_0 : PySem.W.kitOne K (.ref (cA0 K)) (.type "int") = some false
  kb_int_1 : PySem.W.kitOne K (.ref (cA1 K)) (.type "int") = some false
  kb_int_2 : PySem.W.kitOne K (.ref (cA2 K)) (.type "int") = some false
  kb_int_3 : PySem.W.kitOne K (.ref (cA3 K)) (.type "int") = some false
  kb_int_4 : PySem.W.kitOne K (.ref (cA4 K)) (.type "int") = some false
  kb_list_0 : PySem.W.kitOne K (.ref (cA0 K)) (.type "list") = some false
  kb_list_1 : PySem.W.kitOne K (.ref (cA1 K)) (.type "list") = some false
  kb_list_2 : PySem.W.kitOne K (.ref (cA2 K)) (.type "list") = some false
  kb_list_3 : PySem.W.kitOne K (.ref (cA3 K)) (.type "list") = some false
  kb_list_4 : PySem.W.kitOne K (.ref (cA4 K)) (.type "list") = some false
  kb_str_0 : PySem.W.kitOne K (.ref (cA0 K)) (.type "str") = some false
  kb_str_1 : PySem.W.kitOne K (.ref (cA1 K)) (.type "str") = some false
  kb_str_2 : PySem.W.kitOne K (.ref (cA2 K)) (.type "str") = some false
  kb_str_3 : PySem.W.kitOne K (.ref (cA3 K)) (.type "str") = some false
  kb_str_4 : PySem.W.kitOne K (.ref (cA4 K)) (.type "str") = some false
  em_HearError_0 : PySem.W.exmOne K (.ref (cA0 K)) (.ref (cA0 K)) = some true
  em_HearError_1 : PySem.W.exmOne K (.ref (cA1 K)) (.ref (cA0 K)) = some true
  em_HearError_2 : PySem.W.exmOne K (.ref (cA2 K)) (.ref (cA0 K)) = some true
  eq_Question : PySem.W.findIn K (.ref (cA4 K)) "__eq__" = some (some (.ref (He.ma K (cA4 K) "__eq__"))) ∧ PySem.W.isFn K (.ref (He.ma K (cA4 K) "__eq__")) = true
  nf_Question : nfB K (cA4 K) = true
  nc_Question_3 : PySem.W.notFirst K (cA4 K) (.ref (cA3 K)) = true
  nc_Question_4 : PySem.W.notFirst K (cA4 K) (.ref (cA4 K)) = true
  ne_Question : PySem.W.findIn K (.ref (cA4 K)) "__ne__" = some (some (.builtin "object.__ne__"))
  str_Question : PySem.W.findIn K (.ref (cA4 K)) "__str__" = some (some (.ref (He.ma K (cA4 K) "__str__"))) ∧ PySem.W.isFn K (.ref (He.ma K (cA4 K) "__str__")) = true
  cr_Question : ClX.CRead K (cA4 K) (.type "type")
  cm_Question_from_text : ClX.CMet K (cA4 K) (.type "type") "from_text" (He.ma K (cA4 K) "from_text") (He5.wf K (cA4 K) "classmethod" "from_text")
  ib_Scan : insCB K (cA3 K) = true
  ib_Question : insCB K (cA4 K) = true
  td_26_27 : (He.cT K at26).2 ≠ (He.cT K at27).2
  td_26_29 : (He.cT K at26).2 ≠ (He.cT K at29).2
  td_26_30 : (He.cT K at26).2 ≠ (He.cT K at30).2
  td_27_29 : (He.cT K at27).2 ≠ (He.cT K at29).2
  td_27_30 : (He.cT K at27).2 ≠ (He.cT K at30).2
  td_29_30 : (He.cT K at29).2 ≠ (He.cT K at30).2
  f0 : FunD K "is_integer" "is_integer" (defArgs st0) (defBody st0) (defScope st0) [] [] (He.fAd K at0) (fdAt K (He.fAd K at0))
  f1 : FunD K "is_within" "is_within" (defArgs st1) (defBody st1) (defScope st1) [] [] (He.fAd K at1) (fdAt K (He.fAd K at1))
  f2 : FunD K "is_deeds" "is_deeds" (defArgs st2) (defBody st2) (defScope st2) [] [] (He.fAd K at2) (fdAt K (He.fAd K at2))
  f3 : FunD K "is_letter" "is_letter" (defArgs st3) (defBody st3) (defScope st3) [] [] (He.fAd K at3) (fdAt K (He.fAd K at3))
  f4 : FunD K "is_number" "is_number" (defArgs st4) (defBody st4) (defScope st4) [] [] (He.fAd K at4) (fdAt K (He.fAd K at4))
  f5 : FunD K "__init__" "Scan.__init__" (defArgs st5) (defBody st5) (defScope st5) [(V.int (0))] [] (He.fAd K at5) (fdAt K (He.fAd K at5))
  f6 : FunD K "word" "Scan.word" (defArgs st6) (defBody st6) (defScope st6) [] [] (He.fAd K at6) (fdAt K (He.fAd K at6))
  f7 : FunD K "refuse" "Scan.refuse" (defArgs st7) (defBody st7) (defScope st7) [] [] (He.fAd K at7) (fdAt K (He.fAd K at7))
  f8 : FunD K "take" "Scan.take" (defArgs st8) (defBody st8) (defScope st8) [(V.bl true)] [] (He.fAd K at8) (fdAt K (He.fAd K at8))
  f9 : FunD K "take_just" "Scan.take_just" (defArgs st9) (defBody st9) (defScope st9) [] [] (He.fAd K at9) (fdAt K (He.fAd K at9))
  f10 : FunD K "take_number" "Scan.take_number" (defArgs st10) (defBody st10) (defScope st10) [] [] (He.fAd K at10) (fdAt K (He.fAd K at10))
  f11 : FunD K "finish" "Scan.finish" (defArgs st11) (defBody st11) (defScope st11) [] [] (He.fAd K at11) (fdAt K (He.fAd K at11))
  f12 : FunD K "__init__" "Question.__init__" (defArgs st12) (defBody st12) (defScope st12) [V.non] [] (He.fAd K at12) (fdAt K (He.fAd K at12))
  f13 : FunD K "from_text" "Question.from_text" (defArgs st13) (defBody st13) (defScope st13) [] [] (He5.wf K (cA4 K) "classmethod" "from_text") (fdAt K (He5.wf K (cA4 K) "classmethod" "from_text"))
  f14 : FunD K "answer" "Question.answer" (defArgs st14) (defBody st14) (defScope st14) [] [] (He.fAd K at14) (fdAt K (He.fAd K at14))
  f15 : FunD K "__eq__" "Question.__eq__" (defArgs st15) (defBody st15) (defScope st15) [] [] (He.fAd K at15) (fdAt K (He.fAd K at15))
  f16 : FunD K "__str__" "Question.__str__" (defArgs st16) (defBody st16) (defScope st16) [] [] (He.fAd K at16) (fdAt K (He.fAd K at16))
  f17 : FunD K "_law_well" "_law_well" (defArgs st17) (defBody st17) (defScope st17) [] [] (He.fAd K at17) (fdAt K (He.fAd K at17))
  f18 : FunD K "_law_draw" "_law_draw" (defArgs st18) (defBody st18) (defScope st18) [] [] (He.fAd K at18) (fdAt K (He.fAd K at18))
  f19 : FunD K "_law_one" "_law_one" (defArgs st19) (defBody st19) (defScope st19) [] [] (He.fAd K at19) (fdAt K (He.fAd K at19))
  f20 : FunD K "_law_heard" "_law_heard" (defArgs st20) (defBody st20) (defScope st20) [] [] (He.fAd K at20) (fdAt K (He.fAd K at20))
  f21 : FunD K "_law_plain" "_law_plain" (defArgs st21) (defBody st21) (defScope st21) [] [] (He.fAd K at21) (fdAt K (He.fAd K at21))
  f22 : FunD K "_law_made" "_law_made" (defArgs st22) (defBody st22) (defScope st22) [] [] (He.fAd K at22) (fdAt K (He.fAd K at22))
  f23 : FunD K "_law_text" "_law_text" (defArgs st23) (defBody st23) (defScope st23) [] [] (He.fAd K at23) (fdAt K (He.fAd K at23))
  f24 : FunD K "_law_read" "_law_read" (defArgs st24) (defBody st24) (defScope st24) [] [] (He.fAd K at24) (fdAt K (He.fAd K at24))
  f25 : FunD K "_law_bent" "_law_bent" (defArgs st25) (defBody st25) (defScope st25) [] [] (He.fAd K at25) (fdAt K (He.fAd K at25))
  f26 : FunD K "_law_text_right" "_law_text_right" (defArgs st26) (defBody st26) (defScope st26) [] [] (He.fAd K at26) (fdAt K (He.fAd K at26))
  f27 : FunD K "_law_answers_right" "_law_answers_right" (defArgs st27) (defBody st27) (defScope st27) [] [] (He.fAd K at27) (fdAt K (He.fAd K at27))
  f28 : FunD K "_law_unlike_right" "_law_unlike_right" (defArgs st28) (defBody st28) (defScope st28) [] [] (He.fAd K at28) (fdAt K (He.fAd K at28))
  f29 : FunD K "_law_refused_right" "_law_refused_right" (defArgs st29) (defBody st29) (defScope st29) [] [] (He.fAd K at29) (fdAt K (He.fAd K at29))
  f30 : FunD K "law" "law" (defArgs st30) (defBody st30) (defScope st30) [] [] (He.fAd K at30) (fdAt K (He.fAd K at30))
  fi1 : FunD K "__init__" "BadQuestion.__init__" (defArgs si1) (defBody si1) (defScope si1) [] [] (He.fAd K ati1) (fdAt K (He.fAd K ati1))
  fi2 : FunD K "__init__" "BadText.__init__" (defArgs si2) (defBody si2) (defScope si2) [] [] (He.fAd K ati2) (fdAt K (He.fAd K ati2))
theorem tt_of {h : Heap} {K : PySem.W.Frag} {mg : Str → Option Value} (X : K.In h) (G0 : h.Ns mainGlobals mg) (c : SaysY faL fnL tfL ex h K) : TT K mg := by
  refine ⟨?_, ?_, ?_, ?_, ?_, ?_, ?_, ?_, ?_, ?_, ?_, ?_, ?_, ?_, ?_, ?_, ?_, ?_, ?_, ?_, ?_, ?_, ?_, ?_, ?_, ?_, ?_, ?_, ?_, ?_, ?_, ?_, ?_, ?_, ?_, ?_, ?_, ?_, ?_, ?_, ?_, ?_, ?_, ?_, ?_, ?_, ?_, ?_, ?_, ?_, ?_, ?_, ?_, ?_, ?_, ?_, ?_, ?_, ?_, ?_, ?_, ?_, ?_, ?_, ?_, ?_, ?_, ?_, ?_, ?_, ?_, ?_, ?_, ?_, ?_, ?_, ?_, ?_, ?_, ?_, ?_, ?_, ?_, ?_, ?_, ?_, ?_, ?_, ?_, ?_, ?_, ?_, ?_, ?_, ?_, ?_, ?_, ?_, ?_, ?_, ?_, ?_, ?_, ?_, ?_, ?_, ?_, ?_, ?_, ?_, ?_, ?_, ?_, ?_, ?_, ?_, ?_, ?_, ?_, ?_, ?_, ?_, ?_, ?_, ?_, ?_, ?_, ?_, ?_, ?_, ?_, ?_, ?_, ?_, ?_, ?_, ?_, ?_, ?_, ?_, ?_, ?_, ?_, ?_, ?_, ?_, ?_, ?_, ?_, ?_, ?_, ?_, ?_, ?_, ?_, ?_, ?_, ?_, ?_, ?_, ?_, ?_, ?_, ?_, ?_, ?_, ?_, ?_⟩
  · exact He.glo_ok X G0 (c.d.fact 0 (f := .glo "BadQuestion") rfl)
  · exact He.glo_ok X G0 (c.d.fact 1 (f := .glo "BadText") rfl)
  · exact He.glo_ok X G0 (c.d.fact 2 (f := .glo "HearError") rfl)
  · exact He.glo_ok X G0 (c.d.fact 3 (f := .glo "Question") rfl)
  · exact He.glo_ok X G0 (c.d.fact 4 (f := .glo "Scan") rfl)
  · exact He.glo_ok X G0 (c.d.fact 5 (f := .glo "_law_answers_right") rfl)
  · exact He.glo_ok X G0 (c.d.fact 6 (f := .glo "_law_bent") rfl)
  · exact He.glo_ok X G0 (c.d.fact 7 (f := .glo "_law_draw") rfl)
  · exact He.glo_ok X G0 (c.d.fact 8 (f := .glo "_law_heard") rfl)
  · exact He.glo_ok X G0 (c.d.fact 9 (f := .glo "_law_made") rfl)
  · exact He.glo_ok X G0 (c.d.fact 10 (f := .glo "_law_one") rfl)
  · exact He.glo_ok X G0 (c.d.fact 11 (f := .glo "_law_plain") rfl)
  · exact He.glo_ok X G0 (c.d.fact 12 (f := .glo "_law_read") rfl)
  · exact He.glo_ok X G0 (c.d.fact 13 (f := .glo "_law_refused_right") rfl)
  · exact He.glo_ok X G0 (c.d.fact 14 (f := .glo "_law_text") rfl)
  · exact He.glo_ok X G0 (c.d.fact 15 (f := .glo "_law_text_right") rfl)
  · exact He.glo_ok X G0 (c.d.fact 16 (f := .glo "_law_unlike_right") rfl)
  · exact He.glo_ok X G0 (c.d.fact 17 (f := .glo "_law_well") rfl)
  · exact He.glo_ok X G0 (c.d.fact 18 (f := .glo "is_deeds") rfl)
  · exact He.glo_ok X G0 (c.d.fact 19 (f := .glo "is_integer") rfl)
  · exact He.glo_ok X G0 (c.d.fact 20 (f := .glo "is_letter") rfl)
  · exact He.glo_ok X G0 (c.d.fact 21 (f := .glo "is_number") rfl)
  · exact He.glo_ok X G0 (c.d.fact 22 (f := .glo "is_within") rfl)
  · exact He.glo_ok X G0 (c.d.fact 23 (f := .glo "law") rfl)
  · exact He.free_ok X G0 (c.d.fact 24 (f := .free "ValueError") rfl)
  · exact He.free_ok X G0 (c.d.fact 25 (f := .free "abs") rfl)
  · exact He.free_ok X G0 (c.d.fact 26 (f := .free "all") rfl)
  · exact He.free_ok X G0 (c.d.fact 27 (f := .free "bool") rfl)
  · exact He.free_ok X G0 (c.d.fact 28 (f := .free "int") rfl)
  · exact He.free_ok X G0 (c.d.fact 29 (f := .free "isinstance") rfl)
  · exact He.free_ok X G0 (c.d.fact 30 (f := .free "len") rfl)
  · exact He.free_ok X G0 (c.d.fact 31 (f := .free "list") rfl)
  · exact He.free_ok X G0 (c.d.fact 32 (f := .free "max") rfl)
  · exact He.free_ok X G0 (c.d.fact 33 (f := .free "min") rfl)
  · exact He.free_ok X G0 (c.d.fact 34 (f := .free "range") rfl)
  · exact He.free_ok X G0 (c.d.fact 35 (f := .free "repr") rfl)
  · exact He.free_ok X G0 (c.d.fact 36 (f := .free "str") rfl)
  · exact He.str_ok X G0 (c.d.fact 37 (f := .str "DIGITS" "0123456789") rfl)
  · exact He.str_ok X G0 (c.d.fact 38 (f := .str "IS" "is") rfl)
  · exact He.str_ok X G0 (c.d.fact 39 (f := .str "LETTERS" "abcdefghijklmnopqrstuvwxyz") rfl)
  · exact He.str_ok X G0 (c.d.fact 40 (f := .str "MORE_THAN" "more") rfl)
  · exact He.int_ok X G0 (c.d.fact 41 (f := .int "MOST_NUMBER" (99999)) rfl)
  · exact He.cls_ok (c.d.fact 42 (f := .cls "Question") rfl)
  · exact He.cls_ok (c.d.fact 43 (f := .cls "Scan") rfl)
  · exact He.meth_ok (c.d.fact 44 (f := .meth "Question" "answer") rfl)
  · exact He.meth_ok (c.d.fact 45 (f := .meth "Scan" "finish") rfl)
  · exact He.meth_ok (c.d.fact 46 (f := .meth "Scan" "refuse") rfl)
  · exact He.meth_ok (c.d.fact 47 (f := .meth "Scan" "take") rfl)
  · exact He.meth_ok (c.d.fact 48 (f := .meth "Scan" "take_just") rfl)
  · exact He.meth_ok (c.d.fact 49 (f := .meth "Scan" "take_number") rfl)
  · exact He.meth_ok (c.d.fact 50 (f := .meth "Scan" "word") rfl)
  · exact He.mkr_ok (c.d.fact 51 (f := .mkr "Question") rfl)
  · exact He.mkr_ok (c.d.fact 52 (f := .mkr "Scan") rfl)
  · exact He.noat_ok (c.d.fact 53 (f := .noat "Question" "letter") rfl)
  · exact He.noat_ok (c.d.fact 54 (f := .noat "Question" "number") rfl)
  · exact He.noat_ok (c.d.fact 55 (f := .noat "Question" "word") rfl)
  · exact He.noat_ok (c.d.fact 56 (f := .noat "Scan" "at") rfl)
  · exact He.noat_ok (c.d.fact 57 (f := .noat "Scan" "line") rfl)
  · exact He.noat_ok (c.d.fact 58 (f := .noat "Scan" "tokens") rfl)
  · exact excCB_ok (ex_at c.more 0 rfl)
  · exact xfB_ok (ex_at c.more 1 rfl)
  · exact excCB_ok (ex_at c.more 2 rfl)
  · exact xfB_ok (ex_at c.more 3 rfl)
  · exact excCB_ok (ex_at c.more 4 rfl)
  · exact xfB_ok (ex_at c.more 5 rfl)
  · exact oexB_ok (ex_at c.more 6 rfl)
  · exact initB_ok (ex_at c.more 7 rfl)
  · exact He.eqO_ok (ex_at c.more 8 rfl)
  · exact oexB_ok (ex_at c.more 9 rfl)
  · exact initB_ok (ex_at c.more 10 rfl)
  · exact He.eqO_ok (ex_at c.more 11 rfl)
  · exact He.eqO_ok (ex_at c.more 12 rfl)
  · exact kitsB_ok (ex_at c.more 13 rfl)
  · exact kitB_ok (ex_at c.more 14 rfl)
  · exact kitB_ok (ex_at c.more 15 rfl)
  · exact kitB_ok (ex_at c.more 16 rfl)
  · exact kitB_ok (ex_at c.more 17 rfl)
  · exact kitB_ok (ex_at c.more 18 rfl)
  · exact kitsB_ok (ex_at c.more 19 rfl)
  · exact kitB_ok (ex_at c.more 20 rfl)
  · exact kitB_ok (ex_at c.more 21 rfl)
  · exact kitB_ok (ex_at c.more 22 rfl)
  · exact kitB_ok (ex_at c.more 23 rfl)
  · exact kitB_ok (ex_at c.more 24 rfl)
  · exact kitsB_ok (ex_at c.more 25 rfl)
  · exact kitB_ok (ex_at c.more 26 rfl)
  · exact kitB_ok (ex_at c.more 27 rfl)
  · exact kitB_ok (ex_at c.more 28 rfl)
  · exact kitB_ok (ex_at c.more 29 rfl)
  · exact kitB_ok (ex_at c.more 30 rfl)
  · exact ktsB_ok (ex_at c.more 31 rfl)
  · exact kitB_ok (ex_at c.more 32 rfl)
  · exact kitB_ok (ex_at c.more 33 rfl)
  · exact kitB_ok (ex_at c.more 34 rfl)
  · exact kitB_ok (ex_at c.more 35 rfl)
  · exact kitB_ok (ex_at c.more 36 rfl)
  · exact kitB_ok (ex_at c.more 37 rfl)
  · exact kitB_ok (ex_at c.more 38 rfl)
  · exact kitB_ok (ex_at c.more 39 rfl)
  · exact kitB_ok (ex_at c.more 40 rfl)
  · exact kitB_ok (ex_at c.more 41 rfl)
  · exact kitB_ok (ex_at c.more 42 rfl)
  · exact kitB_ok (ex_at c.more 43 rfl)
  · exact kitB_ok (ex_at c.more 44 rfl)
  · exact kitB_ok (ex_at c.more 45 rfl)
  · exact kitB_ok (ex_at c.more 46 rfl)
  · exact kitB_ok (ex_at c.more 47 rfl)
  · exact kitB_ok (ex_at c.more 48 rfl)
  · exact kitB_ok (ex_at c.more 49 rfl)
  · exact kitB_ok (ex_at c.more 50 rfl)
  · exact kitB_ok (ex_at c.more 51 rfl)
  · exact kitB_ok (ex_at c.more 52 rfl)
  · exact kitB_ok (ex_at c.more 53 rfl)
  · exact kitB_ok (ex_at c.more 54 rfl)
  · exact kitB_ok (ex_at c.more 55 rfl)
  · exact kitB_ok (ex_at c.more 56 rfl)
  · exact exmB_ok (ex_at c.more 57 rfl)
  · exact exmB_ok (ex_at c.more 58 rfl)
  · exact exmB_ok (ex_at c.more 59 rfl)
  · exact eqB_ok (ex_at c.more 60 rfl)
  · exact bool_ok (ex_at c.more 61 rfl)
  · exact nfC_ok (ex_at c.more 62 rfl)
  · exact nfC_ok (ex_at c.more 63 rfl)
  · exact neB_ok (ex_at c.more 64 rfl)
  · exact strB_ok (ex_at c.more 65 rfl)
  · exact cReadB_ok (ex_at c.more 66 rfl)
  · exact cMetB_ok (ex_at c.more 67 rfl)
  · exact bool_ok (ex_at c.more 68 rfl)
  · exact bool_ok (ex_at c.more 69 rfl)
  · exact of_decide_eq_true (ex_at c.more 70 rfl)
  · exact of_decide_eq_true (ex_at c.more 71 rfl)
  · exact of_decide_eq_true (ex_at c.more 72 rfl)
  · exact of_decide_eq_true (ex_at c.more 73 rfl)
  · exact of_decide_eq_true (ex_at c.more 74 rfl)
  · exact of_decide_eq_true (ex_at c.more 75 rfl)
  · exact fdAt_of (c.d.def_ 0 (d := d0) rfl)
  · exact fdAt_of (c.d.def_ 1 (d := d1) rfl)
  · exact fdAt_of (c.d.def_ 2 (d := d2) rfl)
  · exact fdAt_of (c.d.def_ 3 (d := d3) rfl)
  · exact fdAt_of (c.d.def_ 4 (d := d4) rfl)
  · exact fdAt_of (c.d.def_ 5 (d := d5) rfl)
  · exact fdAt_of (c.d.def_ 6 (d := d6) rfl)
  · exact fdAt_of (c.d.def_ 7 (d := d7) rfl)
  · exact fdAt_of (c.d.def_ 8 (d := d8) rfl)
  · exact fdAt_of (c.d.def_ 9 (d := d9) rfl)
  · exact fdAt_of (c.d.def_ 10 (d := d10) rfl)
  · exact fdAt_of (c.d.def_ 11 (d := d11) rfl)
  · exact fdAt_of (c.d.def_ 12 (d := d12) rfl)
  · exact fdAt_of (c.d.def_ 13 (d := d13) rfl)
  · exact fdAt_of (c.d.def_ 14 (d := d14) rfl)
  · exact fdAt_of (c.d.def_ 15 (d := d15) rfl)
  · exact fdAt_of (c.d.def_ 16 (d := d16) rfl)
  · exact fdAt_of (c.d.def_ 17 (d := d17) rfl)
  · exact fdAt_of (c.d.def_ 18 (d := d18) rfl)
  · exact fdAt_of (c.d.def_ 19 (d := d19) rfl)
  · exact fdAt_of (c.d.def_ 20 (d := d20) rfl)
  · exact fdAt_of (c.d.def_ 21 (d := d21) rfl)
  · exact fdAt_of (c.d.def_ 22 (d := d22) rfl)
  · exact fdAt_of (c.d.def_ 23 (d := d23) rfl)
  · exact fdAt_of (c.d.def_ 24 (d := d24) rfl)
  · exact fdAt_of (c.d.def_ 25 (d := d25) rfl)
  · exact fdAt_of (c.d.def_ 26 (d := d26) rfl)
  · exact fdAt_of (c.d.def_ 27 (d := d27) rfl)
  · exact fdAt_of (c.d.def_ 28 (d := d28) rfl)
  · exact fdAt_of (c.d.def_ 29 (d := d29) rfl)
  · exact fdAt_of (c.d.def_ 30 (d := d30) rfl)
  · exact fdAt_of (c.d.def_ 31 (d := di1) rfl)
  · exact fdAt_of (c.d.def_ 32 (d := di2) rfl)
section
variable {P : Program} {w : World} {K : PySem.W.Frag} {mg : Str → Option Value} {base : Heap} {n : Nat}
structure OK (P : Program) (w : World) (K : PySem.W.Frag) (mg : Str → Option Value) (base : Heap) (n : Nat) : Prop where
  r0 : FnG false (mkG K) P w K mg base (3 * n + 2) (He.fAd K at0) (fdAt K (He.fAd K at0)) P0 ((run n).f 0)
  r1 : FnG false (mkG K) P w K mg base (3 * n + 2) (He.fAd K at1) (fdAt K (He.fAd K at1)) P1 ((run n).f 1)
  r2 : FnG false (mkG K) P w K mg base (3 * n + 2) (He.fAd K at2) (fdAt K (He.fAd K at2)) P2 ((run n).f 2)
  r3 : FnG false (mkG K) P w K mg base (3 * n + 2) (He.fAd K at3) (fdAt K (He.fAd K at3)) P3 ((run n).f 3)
  r4 : FnG false (mkG K) P w K mg base (3 * n + 2) (He.fAd K at4) (fdAt K (He.fAd K at4)) P4 ((run n).f 4)
  r5 : FnG false (mkG K) P w K mg base (3 * n + 2) (He.fAd K at5) (fdAt K (He.fAd K at5)) P5 ((run n).f 5)
  r6 : FnG false (mkG K) P w K mg base (3 * n + 2) (He.fAd K at6) (fdAt K (He.fAd K at6)) P6 ((run n).f 6)
  r7 : FnG false (mkG K) P w K mg base (3 * n + 2) (He.fAd K at7) (fdAt K (He.fAd K at7)) P7 ((run n).f 7)
  r8 : FnG false (mkG K) P w K mg base (3 * n + 2) (He.fAd K at8) (fdAt K (He.fAd K at8)) P8 ((run n).f 8)
  r9 : FnGS (mkG K) P w K mg base (3 * n + 2) (He.fAd K at9) 1 ((run n).f 9)
  r10 : FnG false (mkG K) P w K mg base (3 * n + 2) (He.fAd K at10) (fdAt K (He.fAd K at10)) P10 ((run n).f 10)
  r11 : FnG false (mkG K) P w K mg base (3 * n + 2) (He.fAd K at11) (fdAt K (He.fAd K at11)) P11 ((run n).f 11)
  r12 : FnG false (mkG K) P w K mg base (3 * n + 2) (He.fAd K at12) (fdAt K (He.fAd K at12)) P12 ((run n).f 12)
  r13 : FnG false (mkG K) P w K mg base (3 * n + 2) (He5.wf K (cA4 K) "classmethod" "from_text") (fdAt K (He5.wf K (cA4 K) "classmethod" "from_text")) P13 ((run n).f 13)
  r14 : FnG false (mkG K) P w K mg base (3 * n + 2) (He.fAd K at14) (fdAt K (He.fAd K at14)) P14 ((run n).f 14)
  r15 : FnG false (mkG K) P w K mg base (3 * n + 2) (He.fAd K at15) (fdAt K (He.fAd K at15)) P15 ((run n).f 15)
  r16 : FnG false (mkG K) P w K mg base (3 * n + 2) (He.fAd K at16) (fdAt K (He.fAd K at16)) P16 ((run n).f 16)
  r17 : FnG false (mkG K) P w K mg base (3 * n + 2) (He.fAd K at17) (fdAt K (He.fAd K at17)) P17 ((run n).f 17)
  r18 : FnG false (mkG K) P w K mg base (3 * n + 2) (He.fAd K at18) (fdAt K (He.fAd K at18)) P18 ((run n).f 18)
  r19 : FnG false (mkG K) P w K mg base (3 * n + 2) (He.fAd K at19) (fdAt K (He.fAd K at19)) P19 ((run n).f 19)
  r20 : FnG true (mkG K) P w K mg base (3 * n + 2) (He.fAd K at20) (fdAt K (He.fAd K at20)) P20 ((run n).f 20)
  r21 : FnG false (mkG K) P w K mg base (3 * n + 2) (He.fAd K at21) (fdAt K (He.fAd K at21)) P21 ((run n).f 21)
  r22 : FnG false (mkG K) P w K mg base (3 * n + 2) (He.fAd K at22) (fdAt K (He.fAd K at22)) P22 ((run n).f 22)
  r23 : FnG false (mkG K) P w K mg base (3 * n + 2) (He.fAd K at23) (fdAt K (He.fAd K at23)) P23 ((run n).f 23)
  r24 : FnG false (mkG K) P w K mg base (3 * n + 2) (He.fAd K at24) (fdAt K (He.fAd K at24)) P24 ((run n).f 24)
  r25 : FnG false (mkG K) P w K mg base (3 * n + 2) (He.fAd K at25) (fdAt K (He.fAd K at25)) P25 ((run n).f 25)
  r26 : FnG true (mkG K) P w K mg base (3 * n + 2) (He.fAd K at26) (fdAt K (He.fAd K at26)) P26 ((run n).f 26)
  r27 : FnG true (mkG K) P w K mg base (3 * n + 2) (He.fAd K at27) (fdAt K (He.fAd K at27)) P27 ((run n).f 27)
  r28 : FnG true (mkG K) P w K mg base (3 * n + 2) (He.fAd K at28) (fdAt K (He.fAd K at28)) P28 ((run n).f 28)
  r29 : FnG true (mkG K) P w K mg base (3 * n + 2) (He.fAd K at29) (fdAt K (He.fAd K at29)) P29 ((run n).f 29)
  r30 : FnG true (mkG K) P w K mg base (3 * n + 2) (He.fAd K at30) (fdAt K (He.fAd K at30)) P30 ((run n).f 30)
  lam : ∀ k, LamOk false (mkG K) P w K mg base (3 * n + 2) k ((run n).l k)
structure TX (K : PySem.W.Frag) (mg : Str → Option Value) (base : Heap) : Prop extends TT K mg where
  b_0_1 : BindA (mkG K) K (fdAt K (He.fAd K at0)) P0 1 [] [0] []
  b_2_1 : BindA (mkG K) K (fdAt K (He.fAd K at2)) P2 1 [] [0] []
  b_7_1 : BindA (mkG K) K (fdAt K (He.fAd K at7)) P7 1 [] [0] []
  b_8_2 : BindA (mkG K) K (fdAt K (He.fAd K at8)) P8 2 [] [0, 1] [(D.bl true)]
  b_6_1 : BindA (mkG K) K (fdAt K (He.fAd K at6)) P6 1 [] [0] []
  b_4_3 : BindA (mkG K) K (fdAt K (He.fAd K at4)) P4 3 [] [0, 1, 2] []
  b_1_3 : BindA (mkG K) K (fdAt K (He.fAd K at1)) P1 3 [] [0, 1, 2] []
  b_3_1 : BindA (mkG K) K (fdAt K (He.fAd K at3)) P3 1 [] [0] []
  b_5_2 : BindA (mkG K) K (fdAt K (He.fAd K at5)) P5 2 [] [0, 1, 2] [(D.int (0))]
  b_10_3 : BindA (mkG K) K (fdAt K (He.fAd K at10)) P10 3 [] [0, 1, 2] []
  b_11_1 : BindA (mkG K) K (fdAt K (He.fAd K at11)) P11 1 [] [0] []
  b_12_4 : BindA (mkG K) K (fdAt K (He.fAd K at12)) P12 4 [] [0, 1, 2, 3] [D.non]
  b_18_2 : BindA (mkG K) K (fdAt K (He.fAd K at18)) P18 2 [] [0, 1] []
  b_19_2 : BindA (mkG K) K (fdAt K (He.fAd K at19)) P19 2 [] [0, 1] []
  b_12_3 : BindA (mkG K) K (fdAt K (He.fAd K at12)) P12 3 [] [0, 1, 2, 3] [D.non]
  b_24_1 : BindA (mkG K) K (fdAt K (He.fAd K at24)) P24 1 [] [0] []
  b_20_1 : BindA (mkG K) K (fdAt K (He.fAd K at20)) P20 1 [] [0] []
  b_22_1 : BindA (mkG K) K (fdAt K (He.fAd K at22)) P22 1 [] [0] []
  b_15_2 : BindA (mkG K) K (fdAt K (He.fAd K at15)) P15 2 [] [0, 1] []
  b_14_2 : BindA (mkG K) K (fdAt K (He.fAd K at14)) P14 2 [] [0, 1] []
  b_12_1_letter_number_word : BindA (mkG K) K (fdAt K (He.fAd K at12)) P12 1 ["letter", "number", "word"] [0, 3, 2, 1] [D.non]
  b_14_1_deeds : BindA (mkG K) K (fdAt K (He.fAd K at14)) P14 1 ["deeds"] [0, 1] []
  b_21_1 : BindA (mkG K) K (fdAt K (He.fAd K at21)) P21 1 [] [0] []
  b_23_1 : BindA (mkG K) K (fdAt K (He.fAd K at23)) P23 1 [] [0] []
  b_17_1 : BindA (mkG K) K (fdAt K (He.fAd K at17)) P17 1 [] [0] []
  b_27_1 : BindA (mkG K) K (fdAt K (He.fAd K at27)) P27 1 [] [0] []
  b_28_1 : BindA (mkG K) K (fdAt K (He.fAd K at28)) P28 1 [] [0] []
  b_25_2 : BindA (mkG K) K (fdAt K (He.fAd K at25)) P25 2 [] [0, 1] []
  b_26_1 : BindA (mkG K) K (fdAt K (He.fAd K at26)) P26 1 [] [0] []
  b_29_1 : BindA (mkG K) K (fdAt K (He.fAd K at29)) P29 1 [] [0] []
  b_13_2 : BindA (mkG K) K (fdAt K (He5.wf K (cA4 K) "classmethod" "from_text")) P13 2 [] [0, 1] []
  bs15 : Binds K (fdAt K (He.fAd K at15)) P15 []
  bs16 : Binds K (fdAt K (He.fAd K at16)) P16 []
  insc_Scan : InsC K (cA3 K)
  insc_Question : InsC K (cA4 K)
  oks_Question : ∀ kd, oksO [3, 4] kd = true → KdOk (mkG K) K kd ∧ (∀ c', kd ≠ .exc c') ∧ PySem.W.notFirst K (cA4 K) (kd.tv (mkG K)) = true
  tb26 : LamX.TabB base mg (He.cT K at26).1 (He.cT K at26).2
  tu26 : ∀ p ∈ lamT K, p.1 = (He.cT K at26).2 → p.2 = "_law_text_right.<locals>.<lambda>"
  tb27 : LamX.TabB base mg (He.cT K at27).1 (He.cT K at27).2
  tu27 : ∀ p ∈ lamT K, p.1 = (He.cT K at27).2 → p.2 = "_law_answers_right.<locals>.<lambda>"
  tb29 : LamX.TabB base mg (He.cT K at29).1 (He.cT K at29).2
  tu29 : ∀ p ∈ lamT K, p.1 = (He.cT K at29).2 → p.2 = "_law_refused_right.<locals>.<lambda>"
  tb30 : LamX.TabB base mg (He.cT K at30).1 (He.cT K at30).2
  tu30 : ∀ p ∈ lamT K, p.1 = (He.cT K at30).2 → p.2 = "law.<locals>.<lambda>"
  isi_BadQuestion : Isi (mkG K) K K36.isi_BadQuestion (.ref (cA1 K))
  isi_BadText : Isi (mkG K) K K36.isi_BadText (.ref (cA2 K))
  isi_Question : Isi (mkG K) K K36.isi_Question (.ref (cA4 K))
  isi_ValueError : Isi (mkG K) K (tabV [3, 4] [0, 1, 2]) (.type "ValueError")
  isi_bool : Isi (mkG K) K (tabB "bool" [3, 4] [0, 1, 2]) (.type "bool")
  isi_int : Isi (mkG K) K (tabB "int" [3, 4] [0, 1, 2]) (.type "int")
  isi_list : Isi (mkG K) K (tabB "list" [3, 4] [0, 1, 2]) (.type "list")
  isi_str : Isi (mkG K) K (tabB "str" [3, 4] [0, 1, 2]) (.type "str")
  xf_line : ∀ c ∈ [2], XfC K ((mkG K).cls c) ∧ PySem.W.findIn K (.ref ((mkG K).cls c)) "line" = some none
  xf_value : ∀ c ∈ [1], XfC K ((mkG K).cls c) ∧ PySem.W.findIn K (.ref ((mkG K).cls c)) "value" = some none
  xf_word : ∀ c ∈ [2], XfC K ((mkG K).cls c) ∧ PySem.W.findIn K (.ref ((mkG K).cls c)) "word" = some none
  ff_at : FldF (mkG K) K "at" [3]
  ff_letter : FldF (mkG K) K "letter" [4]
  ff_line : FldF (mkG K) K "line" [3]
  ff_number : FldF (mkG K) K "number" [4]
  ff_tokens : FldF (mkG K) K "tokens" [3]
  ff_word : FldF (mkG K) K "word" [4]
  cov_HearError : ∀ p ∈ [(0, true), (1, true), (2, true)], PySem.W.exmOne K (.ref ((mkG K).cls p.1)) (.ref (cA0 K)) = some p.2
  ini1 : ∀ {P : Program} {w : World} {k : Nat}, FnOk P w K mg base (L2.CX P w) (k + 1) (He.fAd K ati1) (fdAt K (He.fAd K ati1)) Pi1 (spX ((mkG K).cls 1) 1 ["value"] [0])
  bi1 : Binds K (fdAt K (He.fAd K ati1)) Pi1 []
  ini2 : ∀ {P : Program} {w : World} {k : Nat}, FnOk P w K mg base (L2.CX P w) (k + 1) (He.fAd K ati2) (fdAt K (He.fAd K ati2)) Pi2 (spX ((mkG K).cls 2) 2 ["word", "line"] [1, 0])
  bi2 : Binds K (fdAt K (He.fAd K ati2)) Pi2 []
theorem tx_of (T : TT K mg) (tb26 : LamX.TabB base mg (He.cT K at26).1 (He.cT K at26).2) (tb27 : LamX.TabB base mg (He.cT K at27).1 (He.cT K at27).2) (tb29 : LamX.TabB base mg (He.cT K at29).1 (He.cT K at29).2) (tb30 : LamX.TabB base mg (He.cT K at30).1 (He.cT K at30).2) : TX K mg base := { T with
  b_0_1 := BindA.ofD T.f0 fun _ _ _ _ _ _ us ws h1 h2 => match us, ws, h1, h2 with | [_], [], _, _ => rfl
  b_2_1 := BindA.ofD T.f2 fun _ _ _ _ _ _ us ws h1 h2 => match us, ws, h1, h2 with | [_], [], _, _ => rfl
  b_7_1 := BindA.ofD T.f7 fun _ _ _ _ _ _ us ws h1 h2 => match us, ws, h1, h2 with | [_], [], _, _ => rfl
  b_8_2 := BindA.ofDD T.f8 (by simp) (fun _ _ => ⟨_, _, rfl, rfl, rfl⟩) fun _ _ _ _ _ _ _ us ws its h1 h2 h3 => match us, ws, its, h1, h2, h3 with | [_, _], [], [_], _, _, _ => ⟨_, rfl, rfl⟩
  b_6_1 := BindA.ofD T.f6 fun _ _ _ _ _ _ us ws h1 h2 => match us, ws, h1, h2 with | [_], [], _, _ => rfl
  b_4_3 := BindA.ofD T.f4 fun _ _ _ _ _ _ us ws h1 h2 => match us, ws, h1, h2 with | [_, _, _], [], _, _ => rfl
  b_1_3 := BindA.ofD T.f1 fun _ _ _ _ _ _ us ws h1 h2 => match us, ws, h1, h2 with | [_, _, _], [], _, _ => rfl
  b_3_1 := BindA.ofD T.f3 fun _ _ _ _ _ _ us ws h1 h2 => match us, ws, h1, h2 with | [_], [], _, _ => rfl
  b_5_2 := BindA.ofDD T.f5 (by simp) (fun _ _ => ⟨_, _, rfl, rfl, rfl⟩) fun _ _ _ _ _ _ _ us ws its h1 h2 h3 => match us, ws, its, h1, h2, h3 with | [_, _], [], [_], _, _, _ => ⟨_, rfl, rfl⟩
  b_10_3 := BindA.ofD T.f10 fun _ _ _ _ _ _ us ws h1 h2 => match us, ws, h1, h2 with | [_, _, _], [], _, _ => rfl
  b_11_1 := BindA.ofD T.f11 fun _ _ _ _ _ _ us ws h1 h2 => match us, ws, h1, h2 with | [_], [], _, _ => rfl
  b_12_4 := BindA.ofDD T.f12 (by simp) (fun _ _ => ⟨_, _, rfl, rfl, rfl⟩) fun _ _ _ _ _ _ _ us ws its h1 h2 h3 => match us, ws, its, h1, h2, h3 with | [_, _, _, _], [], [_], _, _, _ => ⟨_, rfl, rfl⟩
  b_18_2 := BindA.ofD T.f18 fun _ _ _ _ _ _ us ws h1 h2 => match us, ws, h1, h2 with | [_, _], [], _, _ => rfl
  b_19_2 := BindA.ofD T.f19 fun _ _ _ _ _ _ us ws h1 h2 => match us, ws, h1, h2 with | [_, _], [], _, _ => rfl
  b_12_3 := BindA.ofDD T.f12 (by simp) (fun _ _ => ⟨_, _, rfl, rfl, rfl⟩) fun _ _ _ _ _ _ _ us ws its h1 h2 h3 => match us, ws, its, h1, h2, h3 with | [_, _, _], [], [_], _, _, _ => ⟨_, rfl, rfl⟩
  b_24_1 := BindA.ofD T.f24 fun _ _ _ _ _ _ us ws h1 h2 => match us, ws, h1, h2 with | [_], [], _, _ => rfl
  b_20_1 := BindA.ofD T.f20 fun _ _ _ _ _ _ us ws h1 h2 => match us, ws, h1, h2 with | [_], [], _, _ => rfl
  b_22_1 := BindA.ofD T.f22 fun _ _ _ _ _ _ us ws h1 h2 => match us, ws, h1, h2 with | [_], [], _, _ => rfl
  b_15_2 := BindA.ofD T.f15 fun _ _ _ _ _ _ us ws h1 h2 => match us, ws, h1, h2 with | [_, _], [], _, _ => rfl
  b_14_2 := BindA.ofD T.f14 fun _ _ _ _ _ _ us ws h1 h2 => match us, ws, h1, h2 with | [_, _], [], _, _ => rfl
  b_12_1_letter_number_word := BindA.ofDD T.f12 (by simp) (fun _ _ => ⟨_, _, rfl, rfl, rfl⟩) fun _ _ _ _ _ _ _ us ws its h1 h2 h3 => match us, ws, its, h1, h2, h3 with | [_], [_, _, _], [_], _, _, _ => ⟨_, rfl, rfl⟩
  b_14_1_deeds := BindA.ofD T.f14 fun _ _ _ _ _ _ us ws h1 h2 => match us, ws, h1, h2 with | [_], [_], _, _ => rfl
  b_21_1 := BindA.ofD T.f21 fun _ _ _ _ _ _ us ws h1 h2 => match us, ws, h1, h2 with | [_], [], _, _ => rfl
  b_23_1 := BindA.ofD T.f23 fun _ _ _ _ _ _ us ws h1 h2 => match us, ws, h1, h2 with | [_], [], _, _ => rfl
  b_17_1 := BindA.ofD T.f17 fun _ _ _ _ _ _ us ws h1 h2 => match us, ws, h1, h2 with | [_], [], _, _ => rfl
  b_27_1 := BindA.ofD T.f27 fun _ _ _ _ _ _ us ws h1 h2 => match us, ws, h1, h2 with | [_], [], _, _ => rfl
  b_28_1 := BindA.ofD T.f28 fun _ _ _ _ _ _ us ws h1 h2 => match us, ws, h1, h2 with | [_], [], _, _ => rfl
  b_25_2 := BindA.ofD T.f25 fun _ _ _ _ _ _ us ws h1 h2 => match us, ws, h1, h2 with | [_, _], [], _, _ => rfl
  b_26_1 := BindA.ofD T.f26 fun _ _ _ _ _ _ us ws h1 h2 => match us, ws, h1, h2 with | [_], [], _, _ => rfl
  b_29_1 := BindA.ofD T.f29 fun _ _ _ _ _ _ us ws h1 h2 => match us, ws, h1, h2 with | [_], [], _, _ => rfl
  b_13_2 := BindA.ofD T.f13 fun _ _ _ _ _ _ us ws h1 h2 => match us, ws, h1, h2 with | [_, _], [], _, _ => rfl
  bs15 := FunD.bindsN T.f15 fun _ _ _ _ _ _ us hl => match us, hl with | [_, _], _ => rfl
  bs16 := FunD.bindsN T.f16 fun _ _ _ _ _ _ us hl => match us, hl with | [_], _ => rfl
  insc_Scan := insCB_ok T.cls_Scan T.ib_Scan
  insc_Question := insCB_ok T.cls_Question T.ib_Question
  oks_Question := oks_ok (G := mkG K) T.nf_Question (by
    intro c hc
    have hc' : c = 3 ∨ c = 4 := by simpa using hc
    rcases hc' with rfl | rfl
    · exact ⟨insCB_ok T.cls_Scan T.ib_Scan, T.nc_Question_3⟩
    · exact ⟨insCB_ok T.cls_Question T.ib_Question, T.nc_Question_4⟩)
  tb26 := tb26
  tu26 := by
    intro p hp e
    have hp' : p = ((He.cT K at26).2, ("_law_text_right.<locals>.<lambda>" : Str)) ∨ p = ((He.cT K at27).2, ("_law_answers_right.<locals>.<lambda>" : Str)) ∨ p = ((He.cT K at29).2, ("_law_refused_right.<locals>.<lambda>" : Str)) ∨ p = ((He.cT K at30).2, ("law.<locals>.<lambda>" : Str)) := by simpa using hp
    rcases hp' with rfl | rfl | rfl | rfl
    · rfl
    · exact absurd e.symm T.td_26_27
    · exact absurd e.symm T.td_26_29
    · exact absurd e.symm T.td_26_30
  tb27 := tb27
  tu27 := by
    intro p hp e
    have hp' : p = ((He.cT K at26).2, ("_law_text_right.<locals>.<lambda>" : Str)) ∨ p = ((He.cT K at27).2, ("_law_answers_right.<locals>.<lambda>" : Str)) ∨ p = ((He.cT K at29).2, ("_law_refused_right.<locals>.<lambda>" : Str)) ∨ p = ((He.cT K at30).2, ("law.<locals>.<lambda>" : Str)) := by simpa using hp
    rcases hp' with rfl | rfl | rfl | rfl
    · exact absurd e T.td_26_27
    · rfl
    · exact absurd e.symm T.td_27_29
    · exact absurd e.symm T.td_27_30
  tb29 := tb29
  tu29 := by
    intro p hp e
    have hp' : p = ((He.cT K at26).2, ("_law_text_right.<locals>.<lambda>" : Str)) ∨ p = ((He.cT K at27).2, ("_law_answers_right.<locals>.<lambda>" : Str)) ∨ p = ((He.cT K at29).2, ("_law_refused_right.<locals>.<lambda>" : Str)) ∨ p = ((He.cT K at30).2, ("law.<locals>.<lambda>" : Str)) := by simpa using hp
    rcases hp' with rfl | rfl | rfl | rfl
    · exact absurd e T.td_26_29
    · exact absurd e T.td_27_29
    · rfl
    · exact absurd e.symm T.td_29_30
  tb30 := tb30
  tu30 := by
    intro p hp e
    have hp' : p = ((He.cT K at26).2, ("_law_text_right.<locals>.<lambda>" : Str)) ∨ p = ((He.cT K at27).2, ("_law_answers_right.<locals>.<lambda>" : Str)) ∨ p = ((He.cT K at29).2, ("_law_refused_right.<locals>.<lambda>" : Str)) ∨ p = ((He.cT K at30).2, ("law.<locals>.<lambda>" : Str)) := by simpa using hp
    rcases hp' with rfl | rfl | rfl | rfl
    · exact absurd e T.td_26_30
    · exact absurd e T.td_27_30
    · exact absurd e T.td_29_30
    · rfl
  isi_BadQuestion := isi_O T.ks_BadQuestion (by
    intro p hp
    have hp' : p = (3, false) ∨ p = (4, false) := by simpa using hp
    rcases hp' with rfl | rfl
    · exact ⟨insCB_ok T.cls_Scan T.ib_Scan, T.ko_BadQuestion_3⟩
    · exact ⟨insCB_ok T.cls_Question T.ib_Question, T.ko_BadQuestion_4⟩) (by
    intro p hp
    have hp' : p = (0, false) ∨ p = (1, true) ∨ p = (2, false) := by simpa using hp
    rcases hp' with rfl | rfl | rfl
    · exact ⟨T.oc0, T.ko_BadQuestion_0⟩
    · exact ⟨T.oc1, T.ko_BadQuestion_1⟩
    · exact ⟨T.oc2, T.ko_BadQuestion_2⟩)
  isi_BadText := isi_O T.ks_BadText (by
    intro p hp
    have hp' : p = (3, false) ∨ p = (4, false) := by simpa using hp
    rcases hp' with rfl | rfl
    · exact ⟨insCB_ok T.cls_Scan T.ib_Scan, T.ko_BadText_3⟩
    · exact ⟨insCB_ok T.cls_Question T.ib_Question, T.ko_BadText_4⟩) (by
    intro p hp
    have hp' : p = (0, false) ∨ p = (1, false) ∨ p = (2, true) := by simpa using hp
    rcases hp' with rfl | rfl | rfl
    · exact ⟨T.oc0, T.ko_BadText_0⟩
    · exact ⟨T.oc1, T.ko_BadText_1⟩
    · exact ⟨T.oc2, T.ko_BadText_2⟩)
  isi_Question := isi_O T.ks_Question (by
    intro p hp
    have hp' : p = (3, false) ∨ p = (4, true) := by simpa using hp
    rcases hp' with rfl | rfl
    · exact ⟨insCB_ok T.cls_Scan T.ib_Scan, T.ko_Question_3⟩
    · exact ⟨insCB_ok T.cls_Question T.ib_Question, T.ko_Question_4⟩) (by
    intro p hp
    have hp' : p = (0, false) ∨ p = (1, false) ∨ p = (2, false) := by simpa using hp
    rcases hp' with rfl | rfl | rfl
    · exact ⟨T.oc0, T.ko_Question_0⟩
    · exact ⟨T.oc1, T.ko_Question_1⟩
    · exact ⟨T.oc2, T.ko_Question_2⟩)
  isi_ValueError := isi_V T.kt_ValueError (by
    intro c hc
    have hc' : c = 3 ∨ c = 4 := by simpa using hc
    rcases hc' with rfl | rfl
    · exact ⟨insCB_ok T.cls_Scan T.ib_Scan, T.kb_ValueError_3⟩
    · exact ⟨insCB_ok T.cls_Question T.ib_Question, T.kb_ValueError_4⟩) (by
    intro c hc
    have hc' : c = 0 ∨ c = 1 ∨ c = 2 := by simpa using hc
    rcases hc' with rfl | rfl | rfl
    · exact ⟨T.oc0, T.kb_ValueError_0⟩
    · exact ⟨T.oc1, T.kb_ValueError_1⟩
    · exact ⟨T.oc2, T.kb_ValueError_2⟩)
  isi_bool := isi_B (by decide) (by
    intro c hc
    have hc' : c = 3 ∨ c = 4 := by simpa using hc
    rcases hc' with rfl | rfl
    · exact ⟨insCB_ok T.cls_Scan T.ib_Scan, T.kb_bool_3⟩
    · exact ⟨insCB_ok T.cls_Question T.ib_Question, T.kb_bool_4⟩) (by
    intro c hc
    have hc' : c = 0 ∨ c = 1 ∨ c = 2 := by simpa using hc
    rcases hc' with rfl | rfl | rfl
    · exact ⟨T.oc0, T.kb_bool_0⟩
    · exact ⟨T.oc1, T.kb_bool_1⟩
    · exact ⟨T.oc2, T.kb_bool_2⟩)
  isi_int := isi_B (by decide) (by
    intro c hc
    have hc' : c = 3 ∨ c = 4 := by simpa using hc
    rcases hc' with rfl | rfl
    · exact ⟨insCB_ok T.cls_Scan T.ib_Scan, T.kb_int_3⟩
    · exact ⟨insCB_ok T.cls_Question T.ib_Question, T.kb_int_4⟩) (by
    intro c hc
    have hc' : c = 0 ∨ c = 1 ∨ c = 2 := by simpa using hc
    rcases hc' with rfl | rfl | rfl
    · exact ⟨T.oc0, T.kb_int_0⟩
    · exact ⟨T.oc1, T.kb_int_1⟩
    · exact ⟨T.oc2, T.kb_int_2⟩)
  isi_list := isi_B (by decide) (by
    intro c hc
    have hc' : c = 3 ∨ c = 4 := by simpa using hc
    rcases hc' with rfl | rfl
    · exact ⟨insCB_ok T.cls_Scan T.ib_Scan, T.kb_list_3⟩
    · exact ⟨insCB_ok T.cls_Question T.ib_Question, T.kb_list_4⟩) (by
    intro c hc
    have hc' : c = 0 ∨ c = 1 ∨ c = 2 := by simpa using hc
    rcases hc' with rfl | rfl | rfl
    · exact ⟨T.oc0, T.kb_list_0⟩
    · exact ⟨T.oc1, T.kb_list_1⟩
    · exact ⟨T.oc2, T.kb_list_2⟩)
  isi_str := isi_B (by decide) (by
    intro c hc
    have hc' : c = 3 ∨ c = 4 := by simpa using hc
    rcases hc' with rfl | rfl
    · exact ⟨insCB_ok T.cls_Scan T.ib_Scan, T.kb_str_3⟩
    · exact ⟨insCB_ok T.cls_Question T.ib_Question, T.kb_str_4⟩) (by
    intro c hc
    have hc' : c = 0 ∨ c = 1 ∨ c = 2 := by simpa using hc
    rcases hc' with rfl | rfl | rfl
    · exact ⟨T.oc0, T.kb_str_0⟩
    · exact ⟨T.oc1, T.kb_str_1⟩
    · exact ⟨T.oc2, T.kb_str_2⟩)
  xf_line := by
    intro c hc
    have hc' : c = 2 := by simpa using hc
    rcases hc' with rfl
    · exact ⟨T.xc2, T.na2_line⟩
  xf_value := by
    intro c hc
    have hc' : c = 1 := by simpa using hc
    rcases hc' with rfl
    · exact ⟨T.xc1, T.na1_value⟩
  xf_word := by
    intro c hc
    have hc' : c = 2 := by simpa using hc
    rcases hc' with rfl
    · exact ⟨T.xc2, T.na2_word⟩
  ff_at := by
    intro c hc
    have hc' : c = 3 := by simpa using hc
    rcases hc' with rfl
    · exact ⟨T.cls_Scan, T.no_Scan_at⟩
  ff_letter := by
    intro c hc
    have hc' : c = 4 := by simpa using hc
    rcases hc' with rfl
    · exact ⟨T.cls_Question, T.no_Question_letter⟩
  ff_line := by
    intro c hc
    have hc' : c = 3 := by simpa using hc
    rcases hc' with rfl
    · exact ⟨T.cls_Scan, T.no_Scan_line⟩
  ff_number := by
    intro c hc
    have hc' : c = 4 := by simpa using hc
    rcases hc' with rfl
    · exact ⟨T.cls_Question, T.no_Question_number⟩
  ff_tokens := by
    intro c hc
    have hc' : c = 3 := by simpa using hc
    rcases hc' with rfl
    · exact ⟨T.cls_Scan, T.no_Scan_tokens⟩
  ff_word := by
    intro c hc
    have hc' : c = 4 := by simpa using hc
    rcases hc' with rfl
    · exact ⟨T.cls_Question, T.no_Question_word⟩
  cov_HearError := by
    intro p hp
    have hp' : p = (0, true) ∨ p = (1, true) ∨ p = (2, true) := by simpa using hp
    rcases hp' with rfl | rfl | rfl
    · exact T.em_HearError_0
    · exact T.em_HearError_1
    · exact T.em_HearError_2
  ini1 := init1 T.fi1 sci1 rfl T.ox1 T.na1_value (Or.inl rfl) (Or.inl rfl)
  bi1 := FunD.bindsN T.fi1 fun _ _ _ _ _ _ us hl => match us, hl with | [_, _], _ => rfl
  ini2 := init2 T.fi2 sci2 rfl T.ox2 T.na2_line T.na2_word (Or.inl rfl) (Or.inl rfl) (Or.inl rfl)
  bi2 := FunD.bindsN T.fi2 fun _ _ _ _ _ _ us hl => match us, hl with | [_, _, _], _ => rfl
  }
theorem ok_0 (T : TX K mg base) (h : OK P w K mg base n) : FnG false (mkG K) P w K mg base (3 * (n + 1) + 2) (He.fAd K at0) (fdAt K (He.fAd K at0)) P0 ((run (n + 1)).f 0) :=
  FnG.of (N := N0) (p := at0) (b := b_0 (run n)) T.f0 sc0 fun A outer s H E hr0 => by
    have hr := hr0.mono (show 3 * n + 2 ≤ 3 * (n + 1) + 1 by omega)
    have hrm := hr0.mono (show 3 * n + 2 + 1 ≤ 3 * (n + 1) + 1 by omega)
    have hrs := hr0.mono (show 3 * n + 2 + 2 ≤ 3 * (n + 1) + 1 by omega)
    have tkB := L2.takes_of (X := cxOf (L2.CX P w) P w K mg base N0 "is_integer" (defScope st0) (He.fAd K at0) (.ref (He.codeOf K at0)) A outer s H E) (E := E) rfl rfl rfl rfl
    exact (i_pone (i_ret (i_and (i_isi rfl rfl T.n_isinstance (.ty _) T.isi_int (iv 0) (e_ty T.n_int)) (i_one (i_not (i_isi rfl rfl T.n_isinstance (.ty _) T.isi_bool (iv 0) (e_ty T.n_bool)))))))
theorem ok_1 (T : TX K mg base) (h : OK P w K mg base n) : FnG false (mkG K) P w K mg base (3 * (n + 1) + 2) (He.fAd K at1) (fdAt K (He.fAd K at1)) P1 ((run (n + 1)).f 1) :=
  FnG.of (N := N1) (p := at1) (b := b_1 (run n)) T.f1 sc1 fun A outer s H E hr0 => by
    have hr := hr0.mono (show 3 * n + 2 ≤ 3 * (n + 1) + 1 by omega)
    have hrm := hr0.mono (show 3 * n + 2 + 1 ≤ 3 * (n + 1) + 1 by omega)
    have hrs := hr0.mono (show 3 * n + 2 + 2 ≤ 3 * (n + 1) + 1 by omega)
    have tkB := L2.takes_of (X := cxOf (L2.CX P w) P w K mg base N1 "is_within" (defScope st1) (He.fAd K at1) (.ref (He.codeOf K at1)) A outer s H E) (E := E) rfl rfl rfl rfl
    exact (i_pone (i_ret (i_and (i_call (fl := []) (ix := [0]) h.r0 hr (by decide) rfl T.g_is_integer T.f0.kp T.b_0_1 tkB (i_acons (iv 0) i_anil)) (i_one (i_chain op_le op_le fLe_ok fLe_ok (iv 1) (iv 0) (iv 2))))))
theorem ok_2 (T : TX K mg base) (h : OK P w K mg base n) : FnG false (mkG K) P w K mg base (3 * (n + 1) + 2) (He.fAd K at2) (fdAt K (He.fAd K at2)) P2 ((run (n + 1)).f 2) :=
  FnG.of (N := N2) (p := at2) (b := b_2 (run n)) T.f2 sc2 fun A outer s H E hr0 => by
    have hr := hr0.mono (show 3 * n + 2 ≤ 3 * (n + 1) + 1 by omega)
    have hrm := hr0.mono (show 3 * n + 2 + 1 ≤ 3 * (n + 1) + 1 by omega)
    have hrs := hr0.mono (show 3 * n + 2 + 2 ≤ 3 * (n + 1) + 1 by omega)
    have tkB := L2.takes_of (X := cxOf (L2.CX P w) P w K mg base N2 "is_deeds" (defScope st2) (He.fAd K at2) (.ref (He.codeOf K at2)) A outer s H E) (E := E) rfl rfl rfl rfl
    exact (i_pone (i_ret (i_and (i_isi rfl rfl T.n_isinstance (.ty _) T.isi_str (iv 0) (e_ty T.n_str)) (i_one (i_bf (cr_all rfl) (fAll_ok rfl) rfl T.n_all (by rfl) (i_comp rfl (own := [("sign", 1)]) (by decide) rfl (sc2).nd (i_wseq rfl (iv 0)) (blkOk_by (N := N2) (sc := (defScope st2)) (by decide +kernel)) (fun _ _ _ _ _ => (i_gnm (i := 1) (sc2).nd rfl (by first | exact Or.inl rfl | exact Or.inr rfl))) (fun _ _ _ _ _ => i_ifs0) (fun _ _ _ _ _ => (i_cmp (op_inX (room65 hr.rm)) (fIn_ok rfl) (iv 1) (i_gstr T.s_LETTERS) (by with_unfolding_all rfl)))))))))
theorem ok_3 (T : TX K mg base) (h : OK P w K mg base n) : FnG false (mkG K) P w K mg base (3 * (n + 1) + 2) (He.fAd K at3) (fdAt K (He.fAd K at3)) P3 ((run (n + 1)).f 3) :=
  FnG.of (N := N3) (p := at3) (b := b_3 (run n)) T.f3 sc3 fun A outer s H E hr0 => by
    have hr := hr0.mono (show 3 * n + 2 ≤ 3 * (n + 1) + 1 by omega)
    have hrm := hr0.mono (show 3 * n + 2 + 1 ≤ 3 * (n + 1) + 1 by omega)
    have hrs := hr0.mono (show 3 * n + 2 + 2 ≤ 3 * (n + 1) + 1 by omega)
    have tkB := L2.takes_of (X := cxOf (L2.CX P w) P w K mg base N3 "is_letter" (defScope st3) (He.fAd K at3) (.ref (He.codeOf K at3)) A outer s H E) (E := E) rfl rfl rfl rfl
    exact (i_pone (i_ret (i_and (i_call (fl := []) (ix := [0]) h.r2 hr (by decide) rfl T.g_is_deeds T.f2.kp T.b_2_1 tkB (i_acons (iv 0) i_anil)) (i_one (i_cmp (op_eqX hr.rm.units) (fEq_ok rfl) (i_bf call_len (fLen_ok rfl) rfl T.n_len (by rfl) (iv 0)) i_int (nomark _))))))
theorem ok_4 (T : TX K mg base) (h : OK P w K mg base n) : FnG false (mkG K) P w K mg base (3 * (n + 1) + 2) (He.fAd K at4) (fdAt K (He.fAd K at4)) P4 ((run (n + 1)).f 4) :=
  FnG.of (N := N4) (p := at4) (b := b_4 (run n)) T.f4 sc4 fun A outer s H E hr0 => by
    have hr := hr0.mono (show 3 * n + 2 ≤ 3 * (n + 1) + 1 by omega)
    have hrm := hr0.mono (show 3 * n + 2 + 1 ≤ 3 * (n + 1) + 1 by omega)
    have hrs := hr0.mono (show 3 * n + 2 + 2 ≤ 3 * (n + 1) + 1 by omega)
    have tkB := L2.takes_of (X := cxOf (L2.CX P w) P w K mg base N4 "is_number" (defScope st4) (He.fAd K at4) (.ref (He.codeOf K at4)) A outer s H E) (E := E) rfl rfl rfl rfl
    exact (i_pcons (i_if (PW.pt (i_wor (i_tnot (i_tchain op_le op_le fLe_ok fLe_ok i_int (i_bf call_len (fLen_ok rfl) rfl T.n_len (by rfl) (iv 0)) (i_bf call_len (fLen_ok rfl) rfl T.n_len (by rfl) (i_bt call_strX fStr_ok rfl T.n_str (by rfl) (iv 2))))) (i_wor1 (i_tnot (i_tval (i_bf (cr_all rfl) (fAll_ok rfl) rfl T.n_all (by rfl) (i_comp rfl (own := [("sign", 3)]) (by decide) rfl (sc4).nd (i_wseq rfl (iv 0)) (blkOk_by (N := N4) (sc := (defScope st4)) (by decide +kernel)) (fun _ _ _ _ _ => (i_gnm (i := 3) (sc4).nd rfl (by first | exact Or.inl rfl | exact Or.inr rfl))) (fun _ _ _ _ _ => i_ifs0) (fun _ _ _ _ _ => (i_cmp (op_inX (room65 hr.rm)) (fIn_ok rfl) (iv 3) (i_gstr T.s_DIGITS) (by with_unfolding_all rfl))))) (by intro _; rfl)))))) (i_pone (i_ret i_bl)) i_pnil)
  (i_pone (i_ret (i_and (i_or (i_cmp (op_eqX hr.rm.units) (fEq_ok rfl) (iv 0) i_str (nomark _)) (i_one (i_cmp (op_neX hr.rm.units) (fNe_ok rfl) (i_ix ix_seq (fIx_ok rfl) (iv 0) i_int (fun _ _ => rfl)) i_str (nomark _)))) (i_one (i_chain op_le op_le fLe_ok fLe_ok (iv 1) (i_bt call_intX fInt_ok rfl T.n_int (by rfl) (iv 0)) (iv 2)))))))
theorem ok_5 (T : TX K mg base) (h : OK P w K mg base n) : FnG false (mkG K) P w K mg base (3 * (n + 1) + 2) (He.fAd K at5) (fdAt K (He.fAd K at5)) P5 ((run (n + 1)).f 5) :=
  FnG.of (N := N5) (p := at5) (b := b_5 (run n)) T.f5 sc5 fun A outer s H E hr0 => by
    have hr := hr0.mono (show 3 * n + 2 ≤ 3 * (n + 1) + 1 by omega)
    have hrm := hr0.mono (show 3 * n + 2 + 1 ≤ 3 * (n + 1) + 1 by omega)
    have hrs := hr0.mono (show 3 * n + 2 + 2 ≤ 3 * (n + 1) + 1 by omega)
    have tkB := L2.takes_of (X := cxOf (L2.CX P w) P w K mg base N5 "Scan.__init__" (defScope st5) (He.fAd K at5) (.ref (He.codeOf K at5)) A outer s H E) (E := E) rfl rfl rfl rfl
    exact (i_pcons (i_if (i_tnot (i_tval (i_isi rfl rfl T.n_isinstance (.ty _) T.isi_str (iv 1) (e_ty T.n_str)) (by intro _; rfl))) (i_pone (i_raise (c := 2) rfl tkB T.ox2 T.in2.1 T.in2.2 (T.ini2 (k := 0)) (Room.mono hr.rm (by omega)) T.bi2 rfl T.g_BadText (i_acons (iv 2) (i_acons i_int i_anil)))) i_pnil)
  (i_pcons (i_fldset T.ff_tokens (iv 0) (i_m rfl PySem.F.plainAttrs_str PySem.F.slot_str_split PySem.F.type_str_split (MtR.toS mt_split) fSplit_ok (iv 1) (i_acons i_str i_anil)))
  (i_pcons (i_fldset T.ff_line (iv 0) (iv 2))
  (i_pone (i_fldset T.ff_at (iv 0) i_int)))))
theorem ok_6 (T : TX K mg base) (h : OK P w K mg base n) : FnG false (mkG K) P w K mg base (3 * (n + 1) + 2) (He.fAd K at6) (fdAt K (He.fAd K at6)) P6 ((run (n + 1)).f 6) :=
  FnG.of (N := N6) (p := at6) (b := b_6 (run n)) T.f6 sc6 fun A outer s H E hr0 => by
    have hr := hr0.mono (show 3 * n + 2 ≤ 3 * (n + 1) + 1 by omega)
    have hrm := hr0.mono (show 3 * n + 2 + 1 ≤ 3 * (n + 1) + 1 by omega)
    have hrs := hr0.mono (show 3 * n + 2 + 2 ≤ 3 * (n + 1) + 1 by omega)
    have tkB := L2.takes_of (X := cxOf (L2.CX P w) P w K mg base N6 "Scan.word" (defScope st6) (He.fAd K at6) (.ref (He.codeOf K at6)) A outer s H E) (E := E) rfl rfl rfl rfl
    exact (i_pone (i_ret (i_ifexp (i_tcmp op_lt fLt_ok (i_fld T.ff_at (iv 0)) (i_bf call_len (fLen_ok rfl) rfl T.n_len (by rfl) (i_fld T.ff_tokens (iv 0))) (nomark _)) (i_ix ix_seq (fIx_ok rfl) (i_fld T.ff_tokens (iv 0)) (i_fld T.ff_at (iv 0)) (fun _ _ => rfl)) i_str)))
theorem ok_7 (T : TX K mg base) (h : OK P w K mg base n) : FnG false (mkG K) P w K mg base (3 * (n + 1) + 2) (He.fAd K at7) (fdAt K (He.fAd K at7)) P7 ((run (n + 1)).f 7) :=
  FnG.of (N := N7) (p := at7) (b := b_7 (run n)) T.f7 sc7 fun A outer s H E hr0 => by
    have hr := hr0.mono (show 3 * n + 2 ≤ 3 * (n + 1) + 1 by omega)
    have hrm := hr0.mono (show 3 * n + 2 + 1 ≤ 3 * (n + 1) + 1 by omega)
    have hrs := hr0.mono (show 3 * n + 2 + 2 ≤ 3 * (n + 1) + 1 by omega)
    have tkB := L2.takes_of (X := cxOf (L2.CX P w) P w K mg base N7 "Scan.refuse" (defScope st7) (He.fAd K at7) (.ref (He.codeOf K at7)) A outer s H E) (E := E) rfl rfl rfl rfl
    exact (i_pone (i_raise (c := 2) rfl tkB T.ox2 T.in2.1 T.in2.2 (T.ini2 (k := 0)) (Room.mono hr.rm (by omega)) T.bi2 rfl T.g_BadText (i_acons (i_fld T.ff_line (iv 0)) (i_acons (i_fld T.ff_at (iv 0)) i_anil))))
theorem ok_8 (T : TX K mg base) (h : OK P w K mg base n) : FnG false (mkG K) P w K mg base (3 * (n + 1) + 2) (He.fAd K at8) (fdAt K (He.fAd K at8)) P8 ((run (n + 1)).f 8) :=
  FnG.of (N := N8) (p := at8) (b := b_8 (run n)) T.f8 sc8 fun A outer s H E hr0 => by
    have hr := hr0.mono (show 3 * n + 2 ≤ 3 * (n + 1) + 1 by omega)
    have hrm := hr0.mono (show 3 * n + 2 + 1 ≤ 3 * (n + 1) + 1 by omega)
    have hrs := hr0.mono (show 3 * n + 2 + 2 ≤ 3 * (n + 1) + 1 by omega)
    have tkB := L2.takes_of (X := cxOf (L2.CX P w) P w K mg base N8 "Scan.take" (defScope st8) (He.fAd K at8) (.ref (He.codeOf K at8)) A outer s H E) (E := E) rfl rfl rfl rfl
    exact (i_pcons (i_if (PW.pt (i_wor (i_tnot (i_tval (iv 1) (by intro _; rfl))) (i_wor1 (i_tcmp (op_eqX hr.rm.units) (fEq_ok rfl) (i_fld T.ff_at (iv 0)) (i_bf call_len (fLen_ok rfl) rfl T.n_len (by rfl) (i_fld T.ff_tokens (iv 0))) (nomark _))))) (i_pone (i_expr (i_meth0 (MethsOk.cons (c := 3) T.cls_Scan T.meth_Scan_refuse (runs_fn (fl := [true]) (ix := [0]) h.r7 hr (by decide) T.b_7_1 tkB) MethsOk.nil) (iv 0)))) i_pnil)
  (i_pcons (i_fldset T.ff_at (iv 0) (i_add rfl (i_fld T.ff_at (iv 0)) i_int))
  (i_pone (i_ret (i_ix ix_seq (fIx_ok rfl) (i_fld T.ff_tokens (iv 0)) (i_sub (i_fld T.ff_at (iv 0)) i_int) (fun _ _ => rfl))))))
theorem ok_9 (T : TX K mg base) (h : OK P w K mg base n) : FnGS (mkG K) P w K mg base (3 * (n + 1) + 2) (He.fAd K at9) 1 ((run (n + 1)).f 9) :=
  FnGS.of (ps := P9) (N := N9) (b := b_9 (run n)) T.f9 sc9 (fun _ _ _ _ _ _ us rest hl => match us, rest, hl with
    | [a0], [], _ => rfl
    | [a0], r :: rs, _ => rfl) fun A outer s H E hr1 => by
    have hr0 : RoomG false (3 * (n + 1) + 1) _ := ⟨hr1, fun z => nomatch z⟩
    have hr := hr0.mono (show 3 * n + 2 ≤ 3 * (n + 1) + 1 by omega)
    have hrm := hr0.mono (show 3 * n + 2 + 1 ≤ 3 * (n + 1) + 1 by omega)
    have hrs := hr0.mono (show 3 * n + 2 + 2 ≤ 3 * (n + 1) + 1 by omega)
    have tkB := L2.takes_of (X := cxOf (L2.CX P w) P w K mg base N9 "Scan.take_just" (defScope st9) (He.fAd K at9) (.ref (cdA K (He.fAd K at9))) A outer s H E) (E := E) rfl rfl rfl rfl
    exact (i_pone (i_ret (i_meth (MethsOk.cons (c := 3) T.cls_Scan T.meth_Scan_take (runs_fn (fl := [true]) (ix := [0, 1]) h.r8 hr (by decide) T.b_8_2 tkB) MethsOk.nil) (iv 0) (i_acons (i_cmp (op_inX (room65 hr.rm)) (fIn_ok rfl) (i_meth0 (MethsOk.cons (c := 3) T.cls_Scan T.meth_Scan_word (runs_fn (fl := [true]) (ix := [0]) h.r6 hr (by decide) T.b_6_1 tkB) MethsOk.nil) (iv 0)) (iv 1) (by with_unfolding_all rfl)) i_anil))))
theorem ok_10 (T : TX K mg base) (h : OK P w K mg base n) : FnG false (mkG K) P w K mg base (3 * (n + 1) + 2) (He.fAd K at10) (fdAt K (He.fAd K at10)) P10 ((run (n + 1)).f 10) :=
  FnG.of (N := N10) (p := at10) (b := b_10 (run n)) T.f10 sc10 fun A outer s H E hr0 => by
    have hr := hr0.mono (show 3 * n + 2 ≤ 3 * (n + 1) + 1 by omega)
    have hrm := hr0.mono (show 3 * n + 2 + 1 ≤ 3 * (n + 1) + 1 by omega)
    have hrs := hr0.mono (show 3 * n + 2 + 2 ≤ 3 * (n + 1) + 1 by omega)
    have tkB := L2.takes_of (X := cxOf (L2.CX P w) P w K mg base N10 "Scan.take_number" (defScope st10) (He.fAd K at10) (.ref (He.codeOf K at10)) A outer s H E) (E := E) rfl rfl rfl rfl
    exact (i_pone (i_ret (i_bt call_intX fInt_ok rfl T.n_int (by rfl) (i_meth (MethsOk.cons (c := 3) T.cls_Scan T.meth_Scan_take (runs_fn (fl := [true]) (ix := [0, 1]) h.r8 hr (by decide) T.b_8_2 tkB) MethsOk.nil) (iv 0) (i_acons (i_call (fl := []) (ix := [0, 1, 2]) h.r4 hr (by decide) rfl T.g_is_number T.f4.kp T.b_4_3 tkB (i_acons (i_meth0 (MethsOk.cons (c := 3) T.cls_Scan T.meth_Scan_word (runs_fn (fl := [true]) (ix := [0]) h.r6 hr (by decide) T.b_6_1 tkB) MethsOk.nil) (iv 0)) (i_acons (iv 1) (i_acons (iv 2) i_anil)))) i_anil)))))
theorem ok_11 (T : TX K mg base) (h : OK P w K mg base n) : FnG false (mkG K) P w K mg base (3 * (n + 1) + 2) (He.fAd K at11) (fdAt K (He.fAd K at11)) P11 ((run (n + 1)).f 11) :=
  FnG.of (N := N11) (p := at11) (b := b_11 (run n)) T.f11 sc11 fun A outer s H E hr0 => by
    have hr := hr0.mono (show 3 * n + 2 ≤ 3 * (n + 1) + 1 by omega)
    have hrm := hr0.mono (show 3 * n + 2 + 1 ≤ 3 * (n + 1) + 1 by omega)
    have hrs := hr0.mono (show 3 * n + 2 + 2 ≤ 3 * (n + 1) + 1 by omega)
    have tkB := L2.takes_of (X := cxOf (L2.CX P w) P w K mg base N11 "Scan.finish" (defScope st11) (He.fAd K at11) (.ref (He.codeOf K at11)) A outer s H E) (E := E) rfl rfl rfl rfl
    exact (i_pone (i_if (i_tcmp op_lt fLt_ok (i_fld T.ff_at (iv 0)) (i_bf call_len (fLen_ok rfl) rfl T.n_len (by rfl) (i_fld T.ff_tokens (iv 0))) (nomark _)) (i_pone (i_expr (i_meth0 (MethsOk.cons (c := 3) T.cls_Scan T.meth_Scan_refuse (runs_fn (fl := [true]) (ix := [0]) h.r7 hr (by decide) T.b_7_1 tkB) MethsOk.nil) (iv 0)))) i_pnil))
theorem ok_12 (T : TX K mg base) (h : OK P w K mg base n) : FnG false (mkG K) P w K mg base (3 * (n + 1) + 2) (He.fAd K at12) (fdAt K (He.fAd K at12)) P12 ((run (n + 1)).f 12) :=
  FnG.of (N := N12) (p := at12) (b := b_12 (run n)) T.f12 sc12 fun A outer s H E hr0 => by
    have hr := hr0.mono (show 3 * n + 2 ≤ 3 * (n + 1) + 1 by omega)
    have hrm := hr0.mono (show 3 * n + 2 + 1 ≤ 3 * (n + 1) + 1 by omega)
    have hrs := hr0.mono (show 3 * n + 2 + 2 ≤ 3 * (n + 1) + 1 by omega)
    have tkB := L2.takes_of (X := cxOf (L2.CX P w) P w K mg base N12 "Question.__init__" (defScope st12) (He.fAd K at12) (.ref (He.codeOf K at12)) A outer s H E) (E := E) rfl rfl rfl rfl
    exact (i_pcons (i_if (PW.pt (i_wor (i_tnot (i_tval (i_isi rfl rfl T.n_isinstance (.ty _) T.isi_str (iv 1) (e_ty T.n_str)) (by intro _; rfl))) (i_wor1 (i_tcmp (op_ninX (room65 hr.rm)) (fIn_ok rfl) (iv 1) (i_tup (i_acons (i_gstr T.s_IS) (i_acons (i_gstr T.s_MORE_THAN) i_anil))) (by with_unfolding_all rfl))))) (i_pone (i_raise (c := 1) rfl tkB T.ox1 T.in1.1 T.in1.2 (T.ini1 (k := 0)) (Room.mono hr.rm (by omega)) T.bi1 rfl T.g_BadQuestion (i_acons (iv 1) i_anil))) i_pnil)
  (i_pcons (i_if (i_tnot (i_tval (i_call (fl := []) (ix := [0, 1, 2]) h.r1 hr (by decide) rfl T.g_is_within T.f1.kp T.b_1_3 tkB (i_acons (iv 2) (i_acons i_int (i_acons (i_gint T.i_MOST_NUMBER) i_anil)))) (by intro _; rfl))) (i_pone (i_raise (c := 1) rfl tkB T.ox1 T.in1.1 T.in1.2 (T.ini1 (k := 0)) (Room.mono hr.rm (by omega)) T.bi1 rfl T.g_BadQuestion (i_acons (iv 2) i_anil))) i_pnil)
  (i_pcons (i_if (i_tnot (i_tifexp (i_tcmp (op_eqX hr.rm.units) (fEq_ok rfl) (iv 1) (i_gstr T.s_IS) (nomark _)) (i_tval (i_call (fl := []) (ix := [0]) h.r3 hr (by decide) rfl T.g_is_letter T.f3.kp T.b_3_1 tkB (i_acons (iv 3) i_anil)) (by intro _; rfl)) (i_tcmp op_isX fIs_ok (iv 3) i_non (nomark _)))) (i_pone (i_raise (c := 1) rfl tkB T.ox1 T.in1.1 T.in1.2 (T.ini1 (k := 0)) (Room.mono hr.rm (by omega)) T.bi1 rfl T.g_BadQuestion (i_acons (iv 3) i_anil))) i_pnil)
  (i_pcons (i_fldset T.ff_word (iv 0) (iv 1))
  (i_pcons (i_fldset T.ff_number (iv 0) (iv 2))
  (i_pone (i_fldset T.ff_letter (iv 0) (iv 3))))))))
theorem ok_13 (T : TX K mg base) (h : OK P w K mg base n) : FnG false (mkG K) P w K mg base (3 * (n + 1) + 2) (He5.wf K (cA4 K) "classmethod" "from_text") (fdAt K (He5.wf K (cA4 K) "classmethod" "from_text")) P13 ((run (n + 1)).f 13) :=
  FnG.ofA (N := N13) (ad := (He5.wf K (cA4 K) "classmethod" "from_text")) (b := b_13 (run n)) T.f13 sc13 fun A outer s H E hr0 => by
    have hr := hr0.mono (show 3 * n + 2 ≤ 3 * (n + 1) + 1 by omega)
    have hrm := hr0.mono (show 3 * n + 2 + 1 ≤ 3 * (n + 1) + 1 by omega)
    have hrs := hr0.mono (show 3 * n + 2 + 2 ≤ 3 * (n + 1) + 1 by omega)
    have tkB := L2.takes_of (X := cxOf (L2.CX P w) P w K mg base N13 "Question.from_text" (defScope st13) (He5.wf K (cA4 K) "classmethod" "from_text") (.ref (cdA K (He5.wf K (cA4 K) "classmethod" "from_text"))) A outer s H E) (E := E) rfl rfl rfl rfl
    exact (i_pcons (i_set (i := 2) (sc13).nd rfl (by first | exact Or.inl rfl | exact Or.inr rfl) (i_run (runs_mk (c := 3) (fl := [true]) (ix := [0, 1, 2]) T.mk_Scan h.r5 hrm (by decide) T.b_5_2 tkB) rfl T.g_Scan T.mk_Scan.kp (i_acons (iv 1) i_anil)))
  (i_pcons (i_par (i := 3) (j := 4) rfl (sc13).nd rfl rfl (by decide) rfl rfl (i_acons (i_meth (MethsOk.cons (c := 3) T.cls_Scan T.meth_Scan_take_just (runs_star (fl := [true]) h.r9 hr.rm tkB) MethsOk.nil) (iv 2) (i_acons (i_gstr T.s_IS) (i_acons (i_gstr T.s_MORE_THAN) i_anil))) (i_acons (i_meth (MethsOk.cons (c := 3) T.cls_Scan T.meth_Scan_take_number (runs_fn (fl := [true]) (ix := [0, 1, 2]) h.r10 hr (by decide) T.b_10_3 tkB) MethsOk.nil) (iv 2) (i_acons i_int (i_acons (i_gint T.i_MOST_NUMBER) i_anil))) i_anil)) (by first | rfl | decide +kernel) (by first | rfl | decide +kernel))
  (i_pcons (i_set (i := 5) (sc13).nd rfl (by first | exact Or.inl rfl | exact Or.inr rfl) (i_ifexp (i_tcmp (op_eqX hr.rm.units) (fEq_ok rfl) (iv 3) (i_gstr T.s_IS) (nomark _)) (i_meth (MethsOk.cons (c := 3) T.cls_Scan T.meth_Scan_take (runs_fn (fl := [true]) (ix := [0, 1]) h.r8 hr (by decide) T.b_8_2 tkB) MethsOk.nil) (iv 2) (i_acons (i_call (fl := []) (ix := [0]) h.r3 hr (by decide) rfl T.g_is_letter T.f3.kp T.b_3_1 tkB (i_acons (i_meth0 (MethsOk.cons (c := 3) T.cls_Scan T.meth_Scan_word (runs_fn (fl := [true]) (ix := [0]) h.r6 hr (by decide) T.b_6_1 tkB) MethsOk.nil) (iv 2)) i_anil)) i_anil)) i_non))
  (i_pcons (i_expr (i_meth0 (MethsOk.cons (c := 3) T.cls_Scan T.meth_Scan_finish (runs_fn (fl := [true]) (ix := [0]) h.r11 hr (by decide) T.b_11_1 tkB) MethsOk.nil) (iv 2)))
  (i_pone (i_ret (i_run (runs_mk (c := 4) (fl := [true]) (ix := [0, 1, 2, 3]) T.mk_Question h.r12 hrm (by decide) T.b_12_4 tkB) rfl T.g_Question T.mk_Question.kp (i_acons (iv 3) (i_acons (iv 4) (i_acons (iv 5) i_anil))))))))))
theorem ok_14 (T : TX K mg base) (h : OK P w K mg base n) : FnG false (mkG K) P w K mg base (3 * (n + 1) + 2) (He.fAd K at14) (fdAt K (He.fAd K at14)) P14 ((run (n + 1)).f 14) :=
  FnG.of (N := N14) (p := at14) (b := b_14 (run n)) T.f14 sc14 fun A outer s H E hr0 => by
    have hr := hr0.mono (show 3 * n + 2 ≤ 3 * (n + 1) + 1 by omega)
    have hrm := hr0.mono (show 3 * n + 2 + 1 ≤ 3 * (n + 1) + 1 by omega)
    have hrs := hr0.mono (show 3 * n + 2 + 2 ≤ 3 * (n + 1) + 1 by omega)
    have tkB := L2.takes_of (X := cxOf (L2.CX P w) P w K mg base N14 "Question.answer" (defScope st14) (He.fAd K at14) (.ref (He.codeOf K at14)) A outer s H E) (E := E) rfl rfl rfl rfl
    exact (i_pcons (i_if (i_tnot (i_tval (i_call (fl := []) (ix := [0]) h.r2 hr (by decide) rfl T.g_is_deeds T.f2.kp T.b_2_1 tkB (i_acons (iv 1) i_anil)) (by intro _; rfl))) (i_pone (i_raise (c := 1) rfl tkB T.ox1 T.in1.1 T.in1.2 (T.ini1 (k := 0)) (Room.mono hr.rm (by omega)) T.bi1 rfl T.g_BadQuestion (i_acons (iv 1) i_anil))) i_pnil)
  (i_pcons (i_if (i_tcmp (op_eqX hr.rm.units) (fEq_ok rfl) (i_fld T.ff_word (iv 0)) (i_gstr T.s_MORE_THAN) (nomark _)) (i_pone (i_ret (i_cmp op_gt fGt_ok (i_bf call_len (fLen_ok rfl) rfl T.n_len (by rfl) (iv 1)) (i_fld T.ff_number (iv 0)) (nomark _)))) i_pnil)
  (i_pone (i_ret (i_cmp (op_eqX hr.rm.units) (fEq_ok rfl) (i_sl rfl (iv 1) (i_po1 (i_fld T.ff_number (iv 0))) (i_po1 (i_add rfl (i_fld T.ff_number (iv 0)) i_int))) (i_fld T.ff_letter (iv 0)) (nomark _))))))
theorem ok_15 (T : TX K mg base) (h : OK P w K mg base n) : FnG false (mkG K) P w K mg base (3 * (n + 1) + 2) (He.fAd K at15) (fdAt K (He.fAd K at15)) P15 ((run (n + 1)).f 15) :=
  FnG.of (N := N15) (p := at15) (b := b_15 (run n)) T.f15 sc15 fun A outer s H E hr0 => by
    have hr := hr0.mono (show 3 * n + 2 ≤ 3 * (n + 1) + 1 by omega)
    have hrm := hr0.mono (show 3 * n + 2 + 1 ≤ 3 * (n + 1) + 1 by omega)
    have hrs := hr0.mono (show 3 * n + 2 + 2 ≤ 3 * (n + 1) + 1 by omega)
    have tkB := L2.takes_of (X := cxOf (L2.CX P w) P w K mg base N15 "Question.__eq__" (defScope st15) (He.fAd K at15) (.ref (He.codeOf K at15)) A outer s H E) (E := E) rfl rfl rfl rfl
    exact (i_pcons (i_if (i_tnot (i_tval (i_isi rfl rfl T.n_isinstance (.own _) T.isi_Question (iv 1) (e_cls T.g_Question)) (by intro _; rfl))) (i_pone (i_ret i_bl)) i_pnil)
  (i_pone (i_ret (i_and (i_cmp (op_eqX hr.rm.units) (fEq_ok rfl) (i_fld T.ff_word (iv 0)) (i_at T.xf_word T.ff_word (iv 1)) (nomark _)) (i_and (i_cmp (op_eqX hr.rm.units) (fEq_ok rfl) (i_fld T.ff_number (iv 0)) (i_fld T.ff_number (iv 1)) (nomark _)) (i_one (i_cmp (op_eqX hr.rm.units) (fEq_ok rfl) (i_fld T.ff_letter (iv 0)) (i_fld T.ff_letter (iv 1)) (nomark _))))))))
theorem ok_16 (T : TX K mg base) (h : OK P w K mg base n) : FnG false (mkG K) P w K mg base (3 * (n + 1) + 2) (He.fAd K at16) (fdAt K (He.fAd K at16)) P16 ((run (n + 1)).f 16) :=
  FnG.of (N := N16) (p := at16) (b := b_16 (run n)) T.f16 sc16 fun A outer s H E hr0 => by
    have hr := hr0.mono (show 3 * n + 2 ≤ 3 * (n + 1) + 1 by omega)
    have hrm := hr0.mono (show 3 * n + 2 + 1 ≤ 3 * (n + 1) + 1 by omega)
    have hrs := hr0.mono (show 3 * n + 2 + 2 ≤ 3 * (n + 1) + 1 by omega)
    have tkB := L2.takes_of (X := cxOf (L2.CX P w) P w K mg base N16 "Question.__str__" (defScope st16) (He.fAd K at16) (.ref (He.codeOf K at16)) A outer s H E) (E := E) rfl rfl rfl rfl
    exact (i_pcons (i_if (i_tcmp op_isX fIs_ok (i_fld T.ff_letter (iv 0)) i_non (nomark _)) (i_pone (i_ret (i_joined (.cons (i_fmt (i_fld T.ff_word (iv 0))) (.cons i_str (.cons (i_fmt (i_fld T.ff_number (iv 0))) .nil)))))) i_pnil)
  (i_pone (i_ret (i_joined (.cons (i_fmt (i_fld T.ff_word (iv 0))) (.cons i_str (.cons (i_fmt (i_fld T.ff_number (iv 0))) (.cons i_str (.cons (i_fmt (i_fld T.ff_letter (iv 0))) .nil)))))))))
theorem ok_17 (T : TX K mg base) (h : OK P w K mg base n) : FnG false (mkG K) P w K mg base (3 * (n + 1) + 2) (He.fAd K at17) (fdAt K (He.fAd K at17)) P17 ((run (n + 1)).f 17) :=
  FnG.of (N := N17) (p := at17) (b := b_17 (run n)) T.f17 sc17 fun A outer s H E hr0 => by
    have hr := hr0.mono (show 3 * n + 2 ≤ 3 * (n + 1) + 1 by omega)
    have hrm := hr0.mono (show 3 * n + 2 + 1 ≤ 3 * (n + 1) + 1 by omega)
    have hrs := hr0.mono (show 3 * n + 2 + 2 ≤ 3 * (n + 1) + 1 by omega)
    have tkB := L2.takes_of (X := cxOf (L2.CX P w) P w K mg base N17 "_law_well" (defScope st17) (He.fAd K at17) (.ref (He.codeOf K at17)) A outer s H E) (E := E) rfl rfl rfl rfl
    exact (i_pone (i_ret (i_lstP (i_acons (i_comp rfl (own := [("cell", 1)]) (by decide) rfl (sc17).nd (i_wseq rfl (i_sl rfl (iv 0) i_po0 (i_po1 i_int))) (blkOk_by (N := N17) (sc := (defScope st17)) (by decide +kernel)) (fun _ _ _ _ _ => (i_gnm (i := 1) (sc17).nd rfl (by first | exact Or.inl rfl | exact Or.inr rfl))) (fun _ _ _ _ _ => i_ifs0) (fun _ _ _ _ _ => (i_bt call_intX fInt_ok rfl T.n_int (by rfl) (iv 1)))) (i_acons i_int (i_acons i_int i_anil))))))
theorem ok_18 (T : TX K mg base) (h : OK P w K mg base n) : FnG false (mkG K) P w K mg base (3 * (n + 1) + 2) (He.fAd K at18) (fdAt K (He.fAd K at18)) P18 ((run (n + 1)).f 18) :=
  FnG.of (N := N18) (p := at18) (b := b_18 (run n)) T.f18 sc18 fun A outer s H E hr0 => by
    have hr := hr0.mono (show 3 * n + 2 ≤ 3 * (n + 1) + 1 by omega)
    have hrm := hr0.mono (show 3 * n + 2 + 1 ≤ 3 * (n + 1) + 1 by omega)
    have hrs := hr0.mono (show 3 * n + 2 + 2 ≤ 3 * (n + 1) + 1 by omega)
    have tkB := L2.takes_of (X := cxOf (L2.CX P w) P w K mg base N18 "_law_draw" (defScope st18) (He.fAd K at18) (.ref (He.codeOf K at18)) A outer s H E) (E := E) rfl rfl rfl rfl
    exact (i_pcons (i_if (i_tcmp op_gt fGt_ok (i_ix ix_seq (fIx_ok rfl) (iv 0) i_int (fun _ _ => rfl)) i_int (nomark _)) (i_pcons (i_set (i := 2) (sc18).nd rfl (by first | exact Or.inl rfl | exact Or.inr rfl) (i_ix ix_seq (fIx_ok rfl) (iv 0) i_int (fun _ _ => rfl)))
  (i_pcons (i_setix (iv 0) i_int (i_div (i_bt call_intX fInt_ok rfl T.n_int (by rfl) (iv 2)) (iv 1)))
  (i_pone (i_ret (i_mod (i_bt call_intX fInt_ok rfl T.n_int (by rfl) (iv 2)) (iv 1)))))) i_pnil)
  (i_pcons (i_set (i := 3) (sc18).nd rfl (by first | exact Or.inl rfl | exact Or.inr rfl) (i_ix ix_seq (fIx_ok rfl) (iv 0) i_int (fun _ _ => rfl)))
  (i_pcons (i_setix (iv 0) i_int (i_add rfl (iv 3) i_int))
  (i_pcons (i_set (i := 4) (sc18).nd rfl (by first | exact Or.inl rfl | exact Or.inr rfl) (i_add rfl (i_mul i_int (iv 3)) i_int))
  (i_pcons (i_if (i_tcmp (op_neX hr.rm.units) (fNe_ok rfl) (i_ix ix_seq (fIx_ok rfl) (iv 0) i_int (fun _ _ => rfl)) (i_lst i_anil) (nomark _)) (i_pone (i_set (i := 4) (sc18).nd rfl (by first | exact Or.inl rfl | exact Or.inr rfl) (i_ix ix_seq (fIx_ok rfl) (i_ix ix_seq (fIx_ok rfl) (iv 0) i_int (fun _ _ => rfl)) (i_mod (i_bt call_intX fInt_ok rfl T.n_int (by rfl) (iv 3)) (i_bf call_len (fLen_ok rfl) rfl T.n_len (by rfl) (i_ix ix_seq (fIx_ok rfl) (iv 0) i_int (fun _ _ => rfl)))) (fun _ _ => rfl)))) i_pnil)
  (i_pcons (i_if (PW.pt (i_wand (i_tcmp op_lt fLt_ok (iv 3) (i_bf call_len (fLen_ok rfl) rfl T.n_len (by rfl) (i_ix ix_seq (fIx_ok rfl) (iv 0) i_int (fun _ _ => rfl))) (nomark _)) (i_wand1 (i_tcmp op_ge fGe_ok (i_bf call_abs fAbs_ok rfl T.n_abs (by rfl) (iv 4)) (i_pow i_int i_int) (nomark _))))) (i_pcons (i_set (i := 2) (sc18).nd rfl (by first | exact Or.inl rfl | exact Or.inr rfl) (i_add rfl (i_mul i_int (i_sub (i_bf call_abs fAbs_ok rfl T.n_abs (by rfl) (iv 4)) (i_pow i_int i_int))) (i_bt call_intX fInt_ok rfl T.n_int (by rfl) (i_cmp op_lt fLt_ok (iv 4) i_int (nomark _)))))
  (i_pcons (i_setix (iv 0) i_int (i_div (i_bt call_intX fInt_ok rfl T.n_int (by rfl) (iv 2)) (iv 1)))
  (i_pone (i_ret (i_mod (i_bt call_intX fInt_ok rfl T.n_int (by rfl) (iv 2)) (iv 1)))))) i_pnil)
  (i_pcons (i_set (i := 5) (sc18).nd rfl (by first | exact Or.inl rfl | exact Or.inr rfl) (i_mod (i_bt call_intX fInt_ok rfl T.n_int (by rfl) (i_pow (i_add rfl (i_add rfl (i_mod (i_bt call_intX fInt_ok rfl T.n_int (by rfl) (iv 4)) i_int) (i_mul i_int (iv 3))) i_int) i_int)) i_int))
  (i_pcons (i_set (i := 5) (sc18).nd rfl (by first | exact Or.inl rfl | exact Or.inr rfl) (i_mod (i_bt call_intX fInt_ok rfl T.n_int (by rfl) (i_pow (i_add rfl (i_add rfl (i_mul (iv 5) (i_add rfl (i_mul i_int (iv 3)) i_int)) (i_mul (i_mul i_int (iv 3)) (iv 3))) i_int) i_int)) i_int))
  (i_pone (i_ret (i_mod (i_bt call_intX fInt_ok rfl T.n_int (by rfl) (i_div (iv 5) i_int)) (iv 1))))))))))))
theorem ok_19 (T : TX K mg base) (h : OK P w K mg base n) : FnG false (mkG K) P w K mg base (3 * (n + 1) + 2) (He.fAd K at19) (fdAt K (He.fAd K at19)) P19 ((run (n + 1)).f 19) :=
  FnG.of (N := N19) (p := at19) (b := b_19 (run n)) T.f19 sc19 fun A outer s H E hr0 => by
    have hr := hr0.mono (show 3 * n + 2 ≤ 3 * (n + 1) + 1 by omega)
    have hrm := hr0.mono (show 3 * n + 2 + 1 ≤ 3 * (n + 1) + 1 by omega)
    have hrs := hr0.mono (show 3 * n + 2 + 2 ≤ 3 * (n + 1) + 1 by omega)
    have tkB := L2.takes_of (X := cxOf (L2.CX P w) P w K mg base N19 "_law_one" (defScope st19) (He.fAd K at19) (.ref (He.codeOf K at19)) A outer s H E) (E := E) rfl rfl rfl rfl
    exact (i_pone (i_ret (i_ix ix_seq (fIx_ok rfl) (iv 1) (i_call (fl := [true]) (ix := [0, 1]) h.r18 hr (by decide) rfl T.g__law_draw T.f18.kp T.b_18_2 tkB (i_acons (iv 0) (i_acons (i_bf call_len (fLen_ok rfl) rfl T.n_len (by rfl) (iv 1)) i_anil))) (fun _ _ => rfl))))
theorem ok_20 (T : TX K mg base) (h : OK P w K mg base n) : FnG true (mkG K) P w K mg base (3 * (n + 1) + 2) (He.fAd K at20) (fdAt K (He.fAd K at20)) P20 ((run (n + 1)).f 20) :=
  FnG.of (N := N20) (p := at20) (b := b_20 (run n)) T.f20 sc20 fun A outer s H E hr0 => by
    have hr := hr0.mono (show 3 * n + 2 ≤ 3 * (n + 1) + 1 by omega)
    have hrm := hr0.mono (show 3 * n + 2 + 1 ≤ 3 * (n + 1) + 1 by omega)
    have hrs := hr0.mono (show 3 * n + 2 + 2 ≤ 3 * (n + 1) + 1 by omega)
    have tkB := L2.takes_of (X := cxOf (L2.CX P w) P w K mg base N20 "_law_heard" (defScope st20) (He.fAd K at20) (.ref (He.codeOf K at20)) A outer s H E) (E := E) rfl rfl rfl rfl
    exact (i_pcons (i_asgs rfl (i_acons i_non (i_acons i_non i_anil)) (i_gtp rfl (i_gs (i_gnm (i := 1) (sc20).nd rfl (by first | exact Or.inl rfl | exact Or.inr rfl)) (i_gs (i_gnm (i := 2) (sc20).nd rfl (by first | exact Or.inl rfl | exact Or.inr rfl)) i_gs0))))
  (i_pcons (i_try (cov := [(0, true), (1, true), (2, true)]) (i := 3) rfl rfl rfl (sc20).nd rfl rfl ⟨rfl, by decide, Or.inl T.g_HearError⟩ tkB T.cov_HearError (fun W1 pn xe tk1 pw => (i_pone (i_set (i := 1) (sc20).nd rfl (by first | exact Or.inl rfl | exact Or.inr rfl) (i_clo (i := 0) h.lam hr (by decide) tk1 rfl (by first | exact Or.inl rfl | exact Or.inr (Or.inl rfl) | exact Or.inr (Or.inr rfl)))))) (fun a pn => (i_pone (i_set (i := 2) (sc20).nd rfl (by first | exact Or.inl rfl | exact Or.inr rfl) (iv 3)))))
  (i_pcons (i_if (i_tcmp op_isX fIs_ok (iv 2) i_non (nomark _)) (i_pone (i_ret (i_lst (i_acons (iv 1) i_anil)))) i_pnil)
  (i_pcons (i_set (i := 4) (sc20).nd rfl (by first | exact Or.inl rfl | exact Or.inr rfl) (i_lst (i_acons (i_isi rfl rfl T.n_isinstance (.own _) T.isi_BadQuestion (iv 2) (e_cls T.g_BadQuestion)) (i_acons (i_isi rfl rfl T.n_isinstance (.own _) T.isi_BadText (iv 2) (e_cls T.g_BadText)) i_anil))))
  (i_pcons (i_if (PW.pt (i_wor (i_tcmp (op_neX hr.rm.units) (fNe_ok rfl) (i_m rfl PySem.F.plainAttrs_list PySem.F.slot_list_count PySem.F.type_list_count (MtR.toS mt_lcountB) (fCntB_ok rfl) (iv 4) (i_acons i_bl i_anil)) i_int (nomark _)) (i_wor1 (i_tnot (i_tval (i_isi rfl rfl T.n_isinstance (.ty _) T.isi_ValueError (iv 2) (e_ty T.n_ValueError)) (by intro _; rfl)))))) (i_pone (i_ret (i_tup (i_acons i_str i_anil)))) i_pnil)
  (i_pone (i_ret (i_ifexp (i_tval (i_ix ix_seq (fIx_ok rfl) (iv 4) i_int (fun _ _ => rfl)) (by intro _; rfl)) (i_tup (i_acons i_str (i_acons (i_alt1 (i_bf (call_show0 (hr.gd rfl) (room200 hr.rm)) fRepr0_ok rfl T.n_repr (by rfl) (i_xf T.xf_value (iv 2))) (i_bf (call_show (hr.gd rfl) (room200 hr.rm)) (fRepr_ok rfl) rfl T.n_repr (by rfl) (i_xf T.xf_value (iv 2)))) i_anil))) (i_tup (i_acons i_str (i_acons (i_alt1 (i_bf (call_show0 (hr.gd rfl) (room200 hr.rm)) fRepr0_ok rfl T.n_repr (by rfl) (i_at T.xf_line T.ff_line (iv 2))) (i_bf (call_show (hr.gd rfl) (room200 hr.rm)) (fRepr_ok rfl) rfl T.n_repr (by rfl) (i_at T.xf_line T.ff_line (iv 2)))) (i_acons (i_alt1 (i_bf (call_show0 (hr.gd rfl) (room200 hr.rm)) fRepr0_ok rfl T.n_repr (by rfl) (i_at T.xf_word T.ff_word (iv 2))) (i_bf (call_show (hr.gd rfl) (room200 hr.rm)) (fRepr_ok rfl) rfl T.n_repr (by rfl) (i_at T.xf_word T.ff_word (iv 2)))) i_anil))))))))))))
theorem ok_21 (T : TX K mg base) (h : OK P w K mg base n) : FnG false (mkG K) P w K mg base (3 * (n + 1) + 2) (He.fAd K at21) (fdAt K (He.fAd K at21)) P21 ((run (n + 1)).f 21) :=
  FnG.of (N := N21) (p := at21) (b := b_21 (run n)) T.f21 sc21 fun A outer s H E hr0 => by
    have hr := hr0.mono (show 3 * n + 2 ≤ 3 * (n + 1) + 1 by omega)
    have hrm := hr0.mono (show 3 * n + 2 + 1 ≤ 3 * (n + 1) + 1 by omega)
    have hrs := hr0.mono (show 3 * n + 2 + 2 ≤ 3 * (n + 1) + 1 by omega)
    have tkB := L2.takes_of (X := cxOf (L2.CX P w) P w K mg base N21 "_law_plain" (defScope st21) (He.fAd K at21) (.ref (He.codeOf K at21)) A outer s H E) (E := E) rfl rfl rfl rfl
    exact (i_pcons (i_set (i := 1) (sc21).nd rfl (by first | exact Or.inl rfl | exact Or.inr rfl) (i_call (fl := [true]) (ix := [0, 1]) h.r19 hr (by decide) rfl T.g__law_one T.f19.kp T.b_19_2 tkB (i_acons (iv 0) (i_acons (i_lst (i_acons i_int (i_acons i_int (i_acons i_int (i_acons i_int (i_acons i_int (i_acons i_int (i_acons i_int (i_acons i_int (i_acons (i_call (fl := [true]) (ix := [0, 1]) h.r18 hr (by decide) rfl T.g__law_draw T.f18.kp T.b_18_2 tkB (i_acons (iv 0) (i_acons i_int i_anil))) (i_acons i_int i_anil))))))))))) i_anil))))
  (i_pone (i_ret (i_call (fl := [true]) (ix := [0, 1]) h.r19 hr (by decide) rfl T.g__law_one T.f19.kp T.b_19_2 tkB (i_acons (iv 0) (i_acons (i_lst (i_acons (i_tup (i_acons i_str (i_acons (iv 1) (i_acons i_non i_anil)))) (i_acons (i_tup (i_acons i_str (i_acons (iv 1) (i_acons (i_call (fl := [true]) (ix := [0, 1]) h.r19 hr (by decide) rfl T.g__law_one T.f19.kp T.b_19_2 tkB (i_acons (iv 0) (i_acons i_str i_anil))) i_anil)))) i_anil))) i_anil))))))
theorem ok_22 (T : TX K mg base) (h : OK P w K mg base n) : FnG false (mkG K) P w K mg base (3 * (n + 1) + 2) (He.fAd K at22) (fdAt K (He.fAd K at22)) P22 ((run (n + 1)).f 22) :=
  FnG.of (N := N22) (p := at22) (b := b_22 (run n)) T.f22 sc22 fun A outer s H E hr0 => by
    have hr := hr0.mono (show 3 * n + 2 ≤ 3 * (n + 1) + 1 by omega)
    have hrm := hr0.mono (show 3 * n + 2 + 1 ≤ 3 * (n + 1) + 1 by omega)
    have hrs := hr0.mono (show 3 * n + 2 + 2 ≤ 3 * (n + 1) + 1 by omega)
    have tkB := L2.takes_of (X := cxOf (L2.CX P w) P w K mg base N22 "_law_made" (defScope st22) (He.fAd K at22) (.ref (He.codeOf K at22)) A outer s H E) (E := E) rfl rfl rfl rfl
    exact (i_pone (i_ret (i_ifexp (i_tcmp op_isX fIs_ok (i_ix ix_seq (fIx_ok rfl) (iv 0) i_int (fun _ _ => rfl)) i_non (nomark _)) (i_run (runs_mk (c := 4) (fl := [true]) (ix := [0, 1, 2, 3]) T.mk_Question h.r12 hrm (by decide) T.b_12_3 tkB) rfl T.g_Question T.mk_Question.kp (i_acons (i_ix ix_seq (fIx_ok rfl) (iv 0) i_int (fun _ _ => rfl)) (i_acons (i_ix ix_seq (fIx_ok rfl) (iv 0) i_int (fun _ _ => rfl)) i_anil))) (i_run (runs_mk (c := 4) (fl := [true]) (ix := [0, 1, 2, 3]) T.mk_Question h.r12 hrm (by decide) T.b_12_4 tkB) rfl T.g_Question T.mk_Question.kp (i_acons (i_ix ix_seq (fIx_ok rfl) (iv 0) i_int (fun _ _ => rfl)) (i_acons (i_ix ix_seq (fIx_ok rfl) (iv 0) i_int (fun _ _ => rfl)) (i_acons (i_ix ix_seq (fIx_ok rfl) (iv 0) i_int (fun _ _ => rfl)) i_anil)))))))
theorem ok_23 (T : TX K mg base) (h : OK P w K mg base n) : FnG false (mkG K) P w K mg base (3 * (n + 1) + 2) (He.fAd K at23) (fdAt K (He.fAd K at23)) P23 ((run (n + 1)).f 23) :=
  FnG.of (N := N23) (p := at23) (b := b_23 (run n)) T.f23 sc23 fun A outer s H E hr0 => by
    have hr := hr0.mono (show 3 * n + 2 ≤ 3 * (n + 1) + 1 by omega)
    have hrm := hr0.mono (show 3 * n + 2 + 1 ≤ 3 * (n + 1) + 1 by omega)
    have hrs := hr0.mono (show 3 * n + 2 + 2 ≤ 3 * (n + 1) + 1 by omega)
    have tkB := L2.takes_of (X := cxOf (L2.CX P w) P w K mg base N23 "_law_text" (defScope st23) (He.fAd K at23) (.ref (He.codeOf K at23)) A outer s H E) (E := E) rfl rfl rfl rfl
    exact (i_pone (i_ret (i_add rfl (i_add rfl (i_add rfl (i_ix ix_seq (fIx_ok rfl) (iv 0) i_int (fun _ _ => rfl)) i_str) (i_bt call_strX fStr_ok rfl T.n_str (by rfl) (i_ix ix_seq (fIx_ok rfl) (iv 0) i_int (fun _ _ => rfl)))) (i_ifexp (i_tcmp op_isX fIs_ok (i_ix ix_seq (fIx_ok rfl) (iv 0) i_int (fun _ _ => rfl)) i_non (nomark _)) i_str (i_add rfl i_str (i_ix ix_seq (fIx_ok rfl) (iv 0) i_int (fun _ _ => rfl)))))))
theorem ok_24 (T : TX K mg base) (h : OK P w K mg base n) : FnG false (mkG K) P w K mg base (3 * (n + 1) + 2) (He.fAd K at24) (fdAt K (He.fAd K at24)) P24 ((run (n + 1)).f 24) :=
  FnG.of (N := N24) (p := at24) (b := b_24 (run n)) T.f24 sc24 fun A outer s H E hr0 => by
    have hr := hr0.mono (show 3 * n + 2 ≤ 3 * (n + 1) + 1 by omega)
    have hrm := hr0.mono (show 3 * n + 2 + 1 ≤ 3 * (n + 1) + 1 by omega)
    have hrs := hr0.mono (show 3 * n + 2 + 2 ≤ 3 * (n + 1) + 1 by omega)
    have tkB := L2.takes_of (X := cxOf (L2.CX P w) P w K mg base N24 "_law_read" (defScope st24) (He.fAd K at24) (.ref (He.codeOf K at24)) A outer s H E) (E := E) rfl rfl rfl rfl
    exact (i_pcons (i_set (i := 1) (sc24).nd rfl (by first | exact Or.inl rfl | exact Or.inr rfl) (i_m rfl PySem.F.plainAttrs_str PySem.F.slot_str_split PySem.F.type_str_split (MtR.toS mt_split) fSplit_ok (iv 0) (i_acons i_str i_anil)))
  (i_pcons (i_if (i_tcmp (op_ninX (room65 hr.rm)) (fIn_ok rfl) (i_ix ix_seq (fIx_ok rfl) (iv 1) i_int (fun _ _ => rfl)) (i_tup (i_acons i_str (i_acons i_str i_anil))) (by with_unfolding_all rfl)) (i_pone (i_ret i_int)) i_pnil)
  (i_pcons (i_set (i := 2) (sc24).nd rfl (by first | exact Or.inl rfl | exact Or.inr rfl) (i_ifexp (i_tcmp op_gt fGt_ok (i_bf call_len (fLen_ok rfl) rfl T.n_len (by rfl) (iv 1)) i_int (nomark _)) (i_ix ix_seq (fIx_ok rfl) (iv 1) i_int (fun _ _ => rfl)) i_str))
  (i_pcons (i_if (PW.pt (i_wor (i_tnot (i_tchain op_le op_le fLe_ok fLe_ok i_int (i_bf call_len (fLen_ok rfl) rfl T.n_len (by rfl) (iv 2)) i_int)) (i_wor (i_tcmp (op_neX hr.rm.units) (fNe_ok rfl) (i_comp rfl (own := [("sign", 3)]) (by decide) rfl (sc24).nd (i_wseq rfl (iv 2)) (blkOk_by (N := N24) (sc := (defScope st24)) (by decide +kernel)) (fun _ _ _ _ _ => (i_gnm (i := 3) (sc24).nd rfl (by first | exact Or.inl rfl | exact Or.inr rfl))) (fun _ _ _ _ _ => (i_ifs1 (i_tcmp (op_ninX (room65 hr.rm)) (fIn_ok rfl) (iv 3) i_str (by with_unfolding_all rfl)))) (fun _ _ _ _ _ => (iv 3))) (i_lst i_anil) (nomark _)) (i_wor1 (PW.pt (i_wand (i_tcmp (op_eqX hr.rm.units) (fEq_ok rfl) (i_ix ix_seq (fIx_ok rfl) (iv 2) i_int (fun _ _ => rfl)) i_str (nomark _)) (i_wand1 (i_tcmp (op_neX hr.rm.units) (fNe_ok rfl) (iv 2) i_str (nomark _))))))))) (i_pone (i_ret i_int)) i_pnil)
  (i_pcons (i_if (i_tcmp (op_eqX hr.rm.units) (fEq_ok rfl) (i_ix ix_seq (fIx_ok rfl) (iv 1) i_int (fun _ _ => rfl)) i_str (nomark _)) (i_pone (i_ret (i_ifexp (i_tcmp (op_eqX hr.rm.units) (fEq_ok rfl) (i_bf call_len (fLen_ok rfl) rfl T.n_len (by rfl) (iv 1)) i_int (nomark _)) (i_lst (i_acons (i_tup (i_acons i_str (i_acons (i_bt call_intX fInt_ok rfl T.n_int (by rfl) (iv 2)) (i_acons i_non i_anil)))) i_anil)) i_int))) i_pnil)
  (i_pcons (i_if (PW.pt (i_wor (i_tcmp op_lt fLt_ok (i_bf call_len (fLen_ok rfl) rfl T.n_len (by rfl) (iv 1)) i_int (nomark _)) (i_wor (i_tcmp (op_neX hr.rm.units) (fNe_ok rfl) (i_bf call_len (fLen_ok rfl) rfl T.n_len (by rfl) (i_ix ix_seq (fIx_ok rfl) (iv 1) i_int (fun _ _ => rfl))) i_int (nomark _)) (i_wor1 (i_tcmp (op_ninX (room65 hr.rm)) (fIn_ok rfl) (i_ix ix_seq (fIx_ok rfl) (iv 1) i_int (fun _ _ => rfl)) i_str (by with_unfolding_all rfl)))))) (i_pone (i_ret i_int)) i_pnil)
  (i_pone (i_ret (i_ifexp (i_tcmp (op_eqX hr.rm.units) (fEq_ok rfl) (i_bf call_len (fLen_ok rfl) rfl T.n_len (by rfl) (iv 1)) i_int (nomark _)) (i_lst (i_acons (i_tup (i_acons i_str (i_acons (i_bt call_intX fInt_ok rfl T.n_int (by rfl) (iv 2)) (i_acons (i_ix ix_seq (fIx_ok rfl) (iv 1) i_int (fun _ _ => rfl)) i_anil)))) i_anil)) i_int)))))))))
theorem ok_25 (T : TX K mg base) (h : OK P w K mg base n) : FnG false (mkG K) P w K mg base (3 * (n + 1) + 2) (He.fAd K at25) (fdAt K (He.fAd K at25)) P25 ((run (n + 1)).f 25) :=
  FnG.of (N := N25) (p := at25) (b := b_25 (run n)) T.f25 sc25 fun A outer s H E hr0 => by
    have hr := hr0.mono (show 3 * n + 2 ≤ 3 * (n + 1) + 1 by omega)
    have hrm := hr0.mono (show 3 * n + 2 + 1 ≤ 3 * (n + 1) + 1 by omega)
    have hrs := hr0.mono (show 3 * n + 2 + 2 ≤ 3 * (n + 1) + 1 by omega)
    have tkB := L2.takes_of (X := cxOf (L2.CX P w) P w K mg base N25 "_law_bent" (defScope st25) (He.fAd K at25) (.ref (He.codeOf K at25)) A outer s H E) (E := E) rfl rfl rfl rfl
    exact (i_pcons (i_par (i := 2) (j := 3) rfl (sc25).nd rfl rfl (by decide) rfl rfl (i_acons (i_m rfl PySem.F.plainAttrs_str PySem.F.slot_str_split PySem.F.type_str_split (MtR.toS mt_split) fSplitP_ok (iv 1) (i_acons i_str i_anil)) (i_acons (i_call (fl := [true]) (ix := [0, 1]) h.r18 hr (by decide) rfl T.g__law_draw T.f18.kp T.b_18_2 tkB (i_acons (iv 0) (i_acons i_int i_anil))) i_anil)) (by first | rfl | decide +kernel) (by first | rfl | decide +kernel))
  (i_pcons (i_set (i := 4) (sc25).nd rfl (by first | exact Or.inl rfl | exact Or.inr rfl) (i_call (fl := [true]) (ix := [0, 1]) h.r18 hr (by decide) rfl T.g__law_draw T.f18.kp T.b_18_2 tkB (i_acons (iv 0) (i_acons (i_bf call_len (fLen_ok rfl) rfl T.n_len (by rfl) (iv 2)) i_anil))))
  (i_pcons (i_set (i := 5) (sc25).nd rfl (by first | exact Or.inl rfl | exact Or.inr rfl) (i_lst (i_acons i_str (i_acons i_str (i_acons i_str (i_acons i_str (i_acons i_str (i_acons i_str (i_acons i_str (i_acons i_str (i_acons i_str (i_acons i_str (i_acons i_str (i_acons i_str (i_acons i_str (i_acons i_str (i_acons i_str (i_acons i_str (i_acons i_str (i_acons i_str (i_acons i_str (i_acons i_str (i_acons i_str i_anil)))))))))))))))))))))))
  (i_pcons (i_set (i := 6) (sc25).nd rfl (by first | exact Or.inl rfl | exact Or.inr rfl) (i_call (fl := [true]) (ix := [0, 1]) h.r19 hr (by decide) rfl T.g__law_one T.f19.kp T.b_19_2 tkB (i_acons (iv 0) (i_acons (i_add rfl (iv 5) (i_lst (i_acons (i_add rfl (i_ix ix_seq (fIx_ok rfl) (iv 2) (iv 4) (fun _ _ => rfl)) i_str) (i_acons (i_add rfl (i_ix ix_seq (fIx_ok rfl) (iv 2) (iv 4) (fun _ _ => rfl)) i_str) i_anil)))) i_anil))))
  (i_pcons (i_if (i_tcmp op_lt fLt_ok (iv 3) i_int (nomark _)) (i_pone (i_setix (iv 2) (iv 4) (iv 6))) (i_pone (i_if (i_tcmp (op_eqX hr.rm.units) (fEq_ok rfl) (iv 3) i_int (nomark _)) (i_pone (i_expr (i_m rfl PySem.F.plainAttrs_list PySem.F.slot_list_insert PySem.F.type_list_insert (MtR.toS mt_insX) fIns_ok (iv 2) (i_acons (iv 4) (i_acons (iv 6) i_anil))))) (i_pone (i_if (i_tcmp (op_eqX hr.rm.units) (fEq_ok rfl) (iv 3) i_int (nomark _)) (i_pone (i_expr (i_m rfl PySem.F.plainAttrs_list PySem.F.slot_list_pop PySem.F.type_list_pop (MtR.toS (r0 := rPopAt) mt_popAt) fPop_ok (iv 2) (i_acons (iv 4) i_anil)))) (i_pone (i_if (i_tcmp (op_eqX hr.rm.units) (fEq_ok rfl) (iv 3) i_int (nomark _)) (i_pone (i_set (i := 2) (sc25).nd rfl (by first | exact Or.inl rfl | exact Or.inr rfl) (i_add rfl (i_add rfl (i_sl rfl (iv 2) i_po0 (i_po1 (iv 4))) (i_revS rfl (i_sl rfl (iv 2) (i_po1 (iv 4)) (i_po1 (i_add rfl (iv 4) i_int))))) (i_sl rfl (iv 2) (i_po1 (i_add rfl (iv 4) i_int)) i_po0)))) (i_pone (i_expr (i_m rfl PySem.F.plainAttrs_list PySem.F.slot_list_append PySem.F.type_list_append (MtR.toS (r0 := rAppend) mt_append) fApp_ok (iv 2) (i_acons (iv 6) i_anil)))))))))))
  (i_pone (i_ret (i_m rfl PySem.F.plainAttrs_str PySem.F.slot_str_join PySem.F.type_str_join (MtR.toS mt_join) (fJoin_ok rfl) i_str (i_acons (iv 2) i_anil)))))))))
theorem ok_26 (T : TX K mg base) (h : OK P w K mg base n) : FnG true (mkG K) P w K mg base (3 * (n + 1) + 2) (He.fAd K at26) (fdAt K (He.fAd K at26)) P26 ((run (n + 1)).f 26) :=
  FnG.of (N := N26) (p := at26) (b := b_26 (run n)) T.f26 sc26 fun A outer s H E hr0 => by
    have hr := hr0.mono (show 3 * n + 2 ≤ 3 * (n + 1) + 1 by omega)
    have hrm := hr0.mono (show 3 * n + 2 + 1 ≤ 3 * (n + 1) + 1 by omega)
    have hrs := hr0.mono (show 3 * n + 2 + 2 ≤ 3 * (n + 1) + 1 by omega)
    have tkB := L2.takes_of (X := cxOf (L2.CX P w) P w K mg base N26 "_law_text_right" (defScope st26) (He.fAd K at26) (.ref (He.codeOf K at26)) A outer s H E) (E := E) rfl rfl rfl rfl
    exact (i_pcons (i_par (i := 1) (j := 2) rfl (sc26).nd rfl rfl (by decide) rfl rfl (i_acons (i_call (fl := []) (ix := [0]) h.r24 hr (by decide) rfl T.g__law_read T.f24.kp T.b_24_1 tkB (i_acons (iv 0) i_anil)) (i_acons (i_callLm (G := mkG K) (lk := 0) (js := [0]) (ix := [0]) rfl rfl rfl (h.r20) hr (by decide) rfl T.g__law_heard T.f20.kp T.b_20_1 tkB rfl lamF_0 T.tb26 rfl tin_26 T.tu26 (by exact (by decide +kernel : ∀ y ∈ (lamI 0).caps, (defScope st26).names.lookup y = some .cell)) (by exact (caps_at (caps := (lamI 0).caps) (N := N26) (js := [0]) (by decide +kernel))) rfl (fun _ _ => rfl) i_anil) i_anil)) (by first | rfl | decide +kernel) (by first | rfl | decide +kernel))
  (i_pcons (i_if (i_tnot (i_tval (i_isi rfl rfl T.n_isinstance (.ty _) T.isi_list (iv 1) (e_ty T.n_list)) (by intro _; rfl))) (i_pone (i_ret (i_cmp (op_eqX hr.rm.units) (fEq_ok rfl) (iv 2) (i_tup (i_acons i_str (i_acons i_str (i_acons (i_alt1 (i_bf (call_show0 (hr.gd rfl) (room200 hr.rm)) fRepr0_ok rfl T.n_repr (by rfl) (iv 1)) (i_bf (call_show (hr.gd rfl) (room200 hr.rm)) (fRepr_ok rfl) rfl T.n_repr (by rfl) (iv 1))) i_anil)))) (nomark _)))) i_pnil)
  (i_pcons (i_if (PW.pt (i_wor (i_tnot (i_tval (i_isi rfl rfl T.n_isinstance (.ty _) T.isi_list (iv 2) (e_ty T.n_list)) (by intro _; rfl))) (i_wor1 (i_tnot (i_tval (i_isi rfl rfl T.n_isinstance (.own _) T.isi_Question (i_ix ix_seq (fIx_ok rfl) (iv 2) i_int (fun _ _ => rfl)) (e_cls T.g_Question)) (by intro _; rfl)))))) (i_pone (i_ret i_bl)) i_pnil)
  (i_pone (i_ret (i_and (i_cmp (op_eqX hr.rm.units) (fEq_ok rfl) (i_alt1 (i_bf (call_show0 (hr.gd rfl) (room200 hr.rm)) fRepr0_ok rfl T.n_repr (by rfl) (i_tup (i_acons (i_at T.xf_word T.ff_word (i_ix ix_seq (fIx_ok rfl) (iv 2) i_int (fun _ _ => rfl))) (i_acons (i_fld T.ff_number (i_ix ix_seq (fIx_ok rfl) (iv 2) i_int (fun _ _ => rfl))) (i_acons (i_fld T.ff_letter (i_ix ix_seq (fIx_ok rfl) (iv 2) i_int (fun _ _ => rfl))) i_anil))))) (i_bf (call_show (hr.gd rfl) (room200 hr.rm)) (fRepr_ok rfl) rfl T.n_repr (by rfl) (i_tup (i_acons (i_at T.xf_word T.ff_word (i_ix ix_seq (fIx_ok rfl) (iv 2) i_int (fun _ _ => rfl))) (i_acons (i_fld T.ff_number (i_ix ix_seq (fIx_ok rfl) (iv 2) i_int (fun _ _ => rfl))) (i_acons (i_fld T.ff_letter (i_ix ix_seq (fIx_ok rfl) (iv 2) i_int (fun _ _ => rfl))) i_anil)))))) (i_alt1 (i_bf (call_show0 (hr.gd rfl) (room200 hr.rm)) fRepr0_ok rfl T.n_repr (by rfl) (i_ix ix_seq (fIx_ok rfl) (iv 1) i_int (fun _ _ => rfl))) (i_bf (call_show (hr.gd rfl) (room200 hr.rm)) (fRepr_ok rfl) rfl T.n_repr (by rfl) (i_ix ix_seq (fIx_ok rfl) (iv 1) i_int (fun _ _ => rfl)))) (nomark _)) (i_and (i_cmp (op_eqX hr.rm.units) (fEq_ok rfl) (i_bt call_strO (fStrO_ok (StrsOk.cons T.str_Question h.r16 (hrs.rm.mono (by omega)) T.bs16 StrsOk.nil)) rfl T.n_str (by rfl) (i_ix ix_seq (fIx_ok rfl) (iv 2) i_int (fun _ _ => rfl))) (iv 0) (nomark _)) (i_one (i_eqO rfl (EqsOk.cons (c := 4) T.eq_Question (runs_fn (fl := [true]) (ix := [0, 1]) h.r15 hr (by decide) T.b_15_2 tkB) T.oks_Question EqsOk.nil) (Nat.lt_of_le_of_lt (Nat.le_add_right _ _) (room65 hr.rm)) (i_ix ix_seq (fIx_ok rfl) (iv 2) i_int (fun _ _ => rfl)) (i_call (fl := []) (ix := [0]) h.r22 hr (by decide) rfl T.g__law_made T.f22.kp T.b_22_1 tkB (i_acons (i_ix ix_seq (fIx_ok rfl) (iv 1) i_int (fun _ _ => rfl)) i_anil)) (nomark _))))))))))
theorem ok_27 (T : TX K mg base) (h : OK P w K mg base n) : FnG true (mkG K) P w K mg base (3 * (n + 1) + 2) (He.fAd K at27) (fdAt K (He.fAd K at27)) P27 ((run (n + 1)).f 27) :=
  FnG.of (N := N27) (p := at27) (b := b_27 (run n)) T.f27 sc27 fun A outer s H E hr0 => by
    have hr := hr0.mono (show 3 * n + 2 ≤ 3 * (n + 1) + 1 by omega)
    have hrm := hr0.mono (show 3 * n + 2 + 1 ≤ 3 * (n + 1) + 1 by omega)
    have hrs := hr0.mono (show 3 * n + 2 + 2 ≤ 3 * (n + 1) + 1 by omega)
    have tkB := L2.takes_of (X := cxOf (L2.CX P w) P w K mg base N27 "_law_answers_right" (defScope st27) (He.fAd K at27) (.ref (He.codeOf K at27)) A outer s H E) (E := E) rfl rfl rfl rfl
    exact (i_pcons (i_set (i := 1) (sc27).nd rfl (by first | exact Or.inl rfl | exact Or.inr rfl) (i_call (fl := [true]) (ix := [0, 1]) h.r19 hr (by decide) rfl T.g__law_one T.f19.kp T.b_19_2 tkB (i_acons (iv 0) (i_acons (i_lst (i_acons i_str (i_acons i_str (i_acons i_str (i_acons i_str i_anil))))) i_anil))))
  (i_pcons (i_set (i := 2) (sc27).nd rfl (by first | exact Or.inl rfl | exact Or.inr rfl) (i_m rfl PySem.F.plainAttrs_str PySem.F.slot_str_join PySem.F.type_str_join (MtR.toS mt_join) (fJoin_ok rfl) i_str (i_acons (i_comp rfl (own := [("turn", 7)]) (by decide) rfl (sc27).nd (i_wrng1 rfl T.n_range (i_acons (i_call (fl := [true]) (ix := [0, 1]) h.r19 hr (by decide) rfl T.g__law_one T.f19.kp T.b_19_2 tkB (i_acons (iv 0) (i_acons (i_lst (i_acons i_int (i_acons i_int (i_acons i_int (i_acons i_int (i_acons i_int (i_acons i_int (i_acons i_int i_anil)))))))) i_anil))) i_anil)) (blkOk_by (N := N27) (sc := (defScope st27)) (by decide +kernel)) (fun _ _ _ _ _ => (i_gnm (i := 7) (sc27).nd rfl (by first | exact Or.inl rfl | exact Or.inr rfl))) (fun _ _ _ _ _ => i_ifs0) (fun _ _ _ _ _ => (i_call (fl := [true]) (ix := [0, 1]) h.r19 hr (by decide) rfl T.g__law_one T.f19.kp T.b_19_2 LamX.takes0 (i_acons (iv 0) (i_acons (iv 1) i_anil))))) i_anil)))
  (i_pcons (i_for rfl (passes_of rfl) rfl (i_wseq rfl (i_add rfl (i_lrg1 rfl rfl T.n_list rfl T.n_range (i_bfN (call_min2 rfl) fMin_ok rfl T.n_min (by rfl) (i_acons (i_add rfl (i_bf call_len (fLen_ok rfl) rfl T.n_len (by rfl) (iv 2)) i_int) (i_acons i_int i_anil)))) (i_lst (i_acons (i_bfN (call_max2 rfl) fMax_ok rfl T.n_max (by rfl) (i_acons (i_sub (i_bf call_len (fLen_ok rfl) rfl T.n_len (by rfl) (iv 2)) i_int) (i_acons i_int i_anil))) (i_acons (i_bf call_len (fLen_ok rfl) rfl T.n_len (by rfl) (iv 2)) (i_acons (i_add rfl (i_bf call_len (fLen_ok rfl) rfl T.n_len (by rfl) (iv 2)) i_int) (i_acons i_int i_anil))))))) (i_gnm (i := 3) (sc27).nd rfl (by first | exact Or.inl rfl | exact Or.inr rfl)) (i_pcons (i_if (i_tcmp (op_neX hr.rm.units) (fNe_ok rfl) (i_alt1 (i_bf (call_show0 (hr.gd rfl) (room200 hr.rm)) fRepr0_ok rfl T.n_repr (by rfl) (i_meth (MethsOk.cons (c := 4) T.cls_Question T.meth_Question_answer (runs_fn (fl := [true]) (ix := [0, 1]) h.r14 hr (by decide) T.b_14_2 tkB) MethsOk.nil) (i_run (runs_mk (c := 4) (fl := [true]) (ix := [0, 1, 2, 3]) T.mk_Question h.r12 hrm (by decide) T.b_12_3 tkB) rfl T.g_Question T.mk_Question.kp (i_acons i_str (i_acons (iv 3) i_anil))) (i_acons (iv 2) i_anil))) (i_bf (call_show (hr.gd rfl) (room200 hr.rm)) (fRepr_ok rfl) rfl T.n_repr (by rfl) (i_meth (MethsOk.cons (c := 4) T.cls_Question T.meth_Question_answer (runs_fn (fl := [true]) (ix := [0, 1]) h.r14 hr (by decide) T.b_14_2 tkB) MethsOk.nil) (i_run (runs_mk (c := 4) (fl := [true]) (ix := [0, 1, 2, 3]) T.mk_Question h.r12 hrm (by decide) T.b_12_3 tkB) rfl T.g_Question T.mk_Question.kp (i_acons i_str (i_acons (iv 3) i_anil))) (i_acons (iv 2) i_anil)))) (i_alt1 (i_bf (call_show0 (hr.gd rfl) (room200 hr.rm)) fRepr0_ok rfl T.n_repr (by rfl) (i_cmp op_lt fLt_ok (iv 3) (i_bf call_len (fLen_ok rfl) rfl T.n_len (by rfl) (iv 2)) (nomark _))) (i_bf (call_show (hr.gd rfl) (room200 hr.rm)) (fRepr_ok rfl) rfl T.n_repr (by rfl) (i_cmp op_lt fLt_ok (iv 3) (i_bf call_len (fLen_ok rfl) rfl T.n_len (by rfl) (iv 2)) (nomark _)))) (nomark _)) (i_pone (i_ret i_bl)) i_pnil)
  (i_pone (i_for rfl (passes_of rfl) rfl (i_wseq rfl (i_add rfl (i_add rfl (i_call (fl := [true]) (ix := [0, 1]) h.r19 hr (by decide) rfl T.g__law_one T.f19.kp T.b_19_2 tkB (i_acons (iv 0) (i_acons (iv 1) i_anil))) i_str) (i_sl rfl (iv 2) (i_po1 (iv 3)) (i_po1 (i_add rfl (iv 3) i_int))))) (i_gnm (i := 4) (sc27).nd rfl (by first | exact Or.inl rfl | exact Or.inr rfl)) (i_pcons (i_set (i := 5) (sc27).nd rfl (by first | exact Or.inl rfl | exact Or.inr rfl) (i_and (i_cmp op_lt fLt_ok (iv 3) (i_bf call_len (fLen_ok rfl) rfl T.n_len (by rfl) (iv 2)) (nomark _)) (i_one (i_cmp (op_eqX hr.rm.units) (fEq_ok rfl) (i_sl rfl (iv 2) (i_po1 (iv 3)) (i_po1 (i_add rfl (iv 3) i_int))) (iv 4) (nomark _)))))
  (i_pone (i_if (i_tcmp (op_neX hr.rm.units) (fNe_ok rfl) (i_alt1 (i_bf (call_show0 (hr.gd rfl) (room200 hr.rm)) fRepr0_ok rfl T.n_repr (by rfl) (i_methK0 (ks := ["deeds"]) (MethsOk.cons (c := 4) T.cls_Question T.meth_Question_answer (runs_fn (fl := [true]) (ix := [0, 1]) h.r14 hr (by decide) T.b_14_1_deeds tkB) MethsOk.nil) (i_runK0 (ks := ["letter", "number", "word"]) (runs_mk (c := 4) (fl := [true]) (ix := [0, 3, 2, 1]) T.mk_Question h.r12 hrm (by decide) T.b_12_1_letter_number_word tkB) rfl T.g_Question T.mk_Question.kp (i_kcons (iv 4) (i_kcons (iv 3) (i_kcons i_str i_knil)))) (i_kcons (iv 2) i_knil))) (i_bf (call_show (hr.gd rfl) (room200 hr.rm)) (fRepr_ok rfl) rfl T.n_repr (by rfl) (i_methK0 (ks := ["deeds"]) (MethsOk.cons (c := 4) T.cls_Question T.meth_Question_answer (runs_fn (fl := [true]) (ix := [0, 1]) h.r14 hr (by decide) T.b_14_1_deeds tkB) MethsOk.nil) (i_runK0 (ks := ["letter", "number", "word"]) (runs_mk (c := 4) (fl := [true]) (ix := [0, 3, 2, 1]) T.mk_Question h.r12 hrm (by decide) T.b_12_1_letter_number_word tkB) rfl T.g_Question T.mk_Question.kp (i_kcons (iv 4) (i_kcons (iv 3) (i_kcons i_str i_knil)))) (i_kcons (iv 2) i_knil)))) (i_alt1 (i_bf (call_show0 (hr.gd rfl) (room200 hr.rm)) fRepr0_ok rfl T.n_repr (by rfl) (iv 5)) (i_bf (call_show (hr.gd rfl) (room200 hr.rm)) (fRepr_ok rfl) rfl T.n_repr (by rfl) (iv 5))) (nomark _)) (i_pone (i_ret i_bl)) i_pnil)))))))
  (i_pcons (i_set (i := 6) (sc27).nd rfl (by first | exact Or.inl rfl | exact Or.inr rfl) (i_call (fl := [true]) (ix := [0, 1]) h.r19 hr (by decide) rfl T.g__law_one T.f19.kp T.b_19_2 tkB (i_acons (iv 0) (i_acons (i_lst (i_acons i_non (i_acons i_int (i_acons i_bl (i_acons i_str (i_acons i_str (i_acons i_str (i_acons (i_lst (i_acons i_str i_anil)) (i_acons (i_tup (i_acons i_str i_anil)) (i_acons i_dic0 (i_acons i_str (i_acons i_str i_anil)))))))))))) i_anil))))
  (i_pone (i_ret (i_cmp (op_eqX hr.rm.units) (fEq_ok rfl) (i_callLm (G := mkG K) (lk := 1) (js := [6]) (ix := [0]) rfl rfl rfl (h.r20) hr (by decide) rfl T.g__law_heard T.f20.kp T.b_20_1 tkB rfl lamF_1 T.tb27 rfl tin_27 T.tu27 (by exact (by decide +kernel : ∀ y ∈ (lamI 1).caps, (defScope st27).names.lookup y = some .cell)) (by exact (caps_at (caps := (lamI 1).caps) (N := N27) (js := [6]) (by decide +kernel))) rfl (fun _ _ => rfl) i_anil) (i_tup (i_acons i_str (i_acons (i_alt1 (i_bf (call_show0 (hr.gd rfl) (room200 hr.rm)) fRepr0_ok rfl T.n_repr (by rfl) (iv 6)) (i_bf (call_show (hr.gd rfl) (room200 hr.rm)) (fRepr_ok rfl) rfl T.n_repr (by rfl) (iv 6))) i_anil))) (nomark _))))))))
theorem ok_28 (T : TX K mg base) (h : OK P w K mg base n) : FnG true (mkG K) P w K mg base (3 * (n + 1) + 2) (He.fAd K at28) (fdAt K (He.fAd K at28)) P28 ((run (n + 1)).f 28) :=
  FnG.of (N := N28) (p := at28) (b := b_28 (run n)) T.f28 sc28 fun A outer s H E hr0 => by
    have hr := hr0.mono (show 3 * n + 2 ≤ 3 * (n + 1) + 1 by omega)
    have hrm := hr0.mono (show 3 * n + 2 + 1 ≤ 3 * (n + 1) + 1 by omega)
    have hrs := hr0.mono (show 3 * n + 2 + 2 ≤ 3 * (n + 1) + 1 by omega)
    have tkB := L2.takes_of (X := cxOf (L2.CX P w) P w K mg base N28 "_law_unlike_right" (defScope st28) (He.fAd K at28) (.ref (He.codeOf K at28)) A outer s H E) (E := E) rfl rfl rfl rfl
    exact (i_pcons (i_set (i := 1) (sc28).nd rfl (by first | exact Or.inl rfl | exact Or.inr rfl) (i_call (fl := [true]) (ix := [0]) h.r21 hr (by decide) rfl T.g__law_plain T.f21.kp T.b_21_1 tkB (i_acons (iv 0) i_anil)))
  (i_pcons (i_set (i := 2) (sc28).nd rfl (by first | exact Or.inl rfl | exact Or.inr rfl) (i_call (fl := []) (ix := [0]) h.r22 hr (by decide) rfl T.g__law_made T.f22.kp T.b_22_1 tkB (i_acons (iv 1) i_anil)))
  (i_pcons (i_if (PW.pt (i_wor (i_tcmp (op_neX hr.rm.units) (fNe_ok rfl) (i_alt1 (i_bf (call_show0 (hr.gd rfl) (room200 hr.rm)) fRepr0_ok rfl T.n_repr (by rfl) (i_tup (i_acons (i_at T.xf_word T.ff_word (iv 2)) (i_acons (i_fld T.ff_number (iv 2)) (i_acons (i_fld T.ff_letter (iv 2)) i_anil))))) (i_bf (call_show (hr.gd rfl) (room200 hr.rm)) (fRepr_ok rfl) rfl T.n_repr (by rfl) (i_tup (i_acons (i_at T.xf_word T.ff_word (iv 2)) (i_acons (i_fld T.ff_number (iv 2)) (i_acons (i_fld T.ff_letter (iv 2)) i_anil)))))) (i_alt1 (i_bf (call_show0 (hr.gd rfl) (room200 hr.rm)) fRepr0_ok rfl T.n_repr (by rfl) (iv 1)) (i_bf (call_show (hr.gd rfl) (room200 hr.rm)) (fRepr_ok rfl) rfl T.n_repr (by rfl) (iv 1))) (nomark _)) (i_wor1 (i_tcmp (op_neX hr.rm.units) (fNe_ok rfl) (i_bt call_strO (fStrO_ok (StrsOk.cons T.str_Question h.r16 (hrs.rm.mono (by omega)) T.bs16 StrsOk.nil)) rfl T.n_str (by rfl) (iv 2)) (i_call (fl := []) (ix := [0]) h.r23 hr (by decide) rfl T.g__law_text T.f23.kp T.b_23_1 tkB (i_acons (iv 1) i_anil)) (nomark _))))) (i_pone (i_ret i_bl)) i_pnil)
  (i_pcons (i_set (i := 3) (sc28).nd rfl (by first | exact Or.inl rfl | exact Or.inr rfl) (i_lstP (i_acons (i_bt call_strO (fStrO_ok (StrsOk.cons T.str_Question h.r16 (hrs.rm.mono (by omega)) T.bs16 StrsOk.nil)) rfl T.n_str (by rfl) (iv 2)) (i_acons (iv 1) (i_acons i_non (i_acons (i_run (runs_mk (c := 4) (fl := [true]) (ix := [0, 1, 2, 3]) T.mk_Question h.r12 hrm (by decide) T.b_12_4 tkB) rfl T.g_Question T.mk_Question.kp (i_acons (i_ix ix_seq (fIx_ok rfl) (iv 1) i_int (fun _ _ => rfl)) (i_acons (i_mod (i_bt call_intX fInt_ok rfl T.n_int (by rfl) (i_add rfl (i_ix ix_seq (fIx_ok rfl) (iv 1) i_int (fun _ _ => rfl)) i_int)) i_int) (i_acons (i_ix ix_seq (fIx_ok rfl) (iv 1) i_int (fun _ _ => rfl)) i_anil)))) (i_acons (i_run (runs_mk (c := 4) (fl := [true]) (ix := [0, 1, 2, 3]) T.mk_Question h.r12 hrm (by decide) T.b_12_4 tkB) rfl T.g_Question T.mk_Question.kp (i_acons (i_ifexp (i_tcmp (op_eqX hr.rm.units) (fEq_ok rfl) (i_ix ix_seq (fIx_ok rfl) (iv 1) i_int (fun _ _ => rfl)) i_str (nomark _)) i_str i_str) (i_acons (i_ix ix_seq (fIx_ok rfl) (iv 1) i_int (fun _ _ => rfl)) (i_acons (i_ifexp (i_tcmp (op_eqX hr.rm.units) (fEq_ok rfl) (i_ix ix_seq (fIx_ok rfl) (iv 1) i_int (fun _ _ => rfl)) i_str (nomark _)) i_non i_str) i_anil)))) i_anil)))))))
  (i_pcons (i_if (i_tcmp (op_eqX hr.rm.units) (fEq_ok rfl) (i_ix ix_seq (fIx_ok rfl) (iv 1) i_int (fun _ _ => rfl)) i_str (nomark _)) (i_pone (i_expr (i_m rfl PySem.F.plainAttrs_list PySem.F.slot_list_append PySem.F.type_list_append (MtR.toS (r0 := rAppend) mt_append) fApp_ok (iv 3) (i_acons (i_run (runs_mk (c := 4) (fl := [true]) (ix := [0, 1, 2, 3]) T.mk_Question h.r12 hrm (by decide) T.b_12_4 tkB) rfl T.g_Question T.mk_Question.kp (i_acons i_str (i_acons (i_ix ix_seq (fIx_ok rfl) (iv 1) i_int (fun _ _ => rfl)) (i_acons (i_ifexp (i_tcmp (op_neX hr.rm.units) (fNe_ok rfl) (i_ix ix_seq (fIx_ok rfl) (iv 1) i_int (fun _ _ => rfl)) i_str (nomark _)) i_str i_str) i_anil)))) i_anil)))) i_pnil)
  (i_pcons (i_if (PW.pt (i_wor (i_tnot (i_teqO rfl (EqsOk.cons (c := 4) T.eq_Question (runs_fn (fl := [true]) (ix := [0, 1]) h.r15 hr (by decide) T.b_15_2 tkB) T.oks_Question EqsOk.nil) (Nat.lt_of_le_of_lt (Nat.le_add_right _ _) (room65 hr.rm)) (iv 2) (i_call (fl := []) (ix := [0]) h.r22 hr (by decide) rfl T.g__law_made T.f22.kp T.b_22_1 tkB (i_acons (iv 1) i_anil)) (nomark _))) (i_wor1 (i_tneO rfl (NesOk.cons T.eq_Question T.ne_Question T.insc_Question h.r15 (hrm.rm.mono (by omega)) T.bs15 T.oks_Question NesOk.nil) (Nat.lt_of_le_of_lt (Nat.le_add_right _ _) (room65 hr.rm)) (iv 2) (i_run (runs_mk (c := 4) (fl := [true]) (ix := [0, 1, 2, 3]) T.mk_Question h.r12 hrm (by decide) T.b_12_4 tkB) rfl T.g_Question T.mk_Question.kp (i_acons (i_ix ix_seq (fIx_ok rfl) (iv 1) i_int (fun _ _ => rfl)) (i_acons (i_ix ix_seq (fIx_ok rfl) (iv 1) i_int (fun _ _ => rfl)) (i_acons (i_ix ix_seq (fIx_ok rfl) (iv 1) i_int (fun _ _ => rfl)) i_anil)))) (nomark _))))) (i_pone (i_ret i_bl)) i_pnil)
  (i_pone (i_ret (i_cmp (op_eqX hr.rm.units) (fEq_ok rfl) (i_comp rfl (own := [("other", 4)]) (by decide) rfl (sc28).nd (i_wseq rfl (iv 3)) (blkOk_by (N := N28) (sc := (defScope st28)) (by decide +kernel)) (fun _ _ _ _ _ => (i_gnm (i := 4) (sc28).nd rfl (by first | exact Or.inl rfl | exact Or.inr rfl))) (fun _ _ _ _ _ => (i_ifs1 (PW.pt (i_wor (i_teqO rfl (EqsOk.cons (c := 4) T.eq_Question (runs_fn (fl := [true]) (ix := [0, 1]) h.r15 hr (by decide) T.b_15_2 LamX.takes0) T.oks_Question EqsOk.nil) (Nat.lt_of_le_of_lt (Nat.le_add_right _ _) (room65 hr.rm)) (iv 2) (iv 4) (nomark _)) (i_wor1 (i_tnot (i_tneO rfl (NesOk.cons T.eq_Question T.ne_Question T.insc_Question h.r15 (hrm.rm.mono (by omega)) T.bs15 T.oks_Question NesOk.nil) (Nat.lt_of_le_of_lt (Nat.le_add_right _ _) (room65 hr.rm)) (iv 2) (iv 4) (nomark _)))))))) (fun _ _ _ _ _ => (iv 4))) (i_lst i_anil) (nomark _))))))))))
theorem ok_29 (T : TX K mg base) (h : OK P w K mg base n) : FnG true (mkG K) P w K mg base (3 * (n + 1) + 2) (He.fAd K at29) (fdAt K (He.fAd K at29)) P29 ((run (n + 1)).f 29) :=
  FnG.of (N := N29) (p := at29) (b := b_29 (run n)) T.f29 sc29 fun A outer s H E hr0 => by
    have hr := hr0.mono (show 3 * n + 2 ≤ 3 * (n + 1) + 1 by omega)
    have hrm := hr0.mono (show 3 * n + 2 + 1 ≤ 3 * (n + 1) + 1 by omega)
    have hrs := hr0.mono (show 3 * n + 2 + 2 ≤ 3 * (n + 1) + 1 by omega)
    have tkB := L2.takes_of (X := cxOf (L2.CX P w) P w K mg base N29 "_law_refused_right" (defScope st29) (He.fAd K at29) (.ref (He.codeOf K at29)) A outer s H E) (E := E) rfl rfl rfl rfl
    exact (i_pcons (i_set (i := 1) (sc29).nd rfl (by first | exact Or.inl rfl | exact Or.inr rfl) (i_lst (i_acons i_non (i_acons i_str (i_acons i_str (i_acons i_str (i_acons i_str (i_acons i_str (i_acons i_str (i_acons i_int (i_acons (i_lst (i_acons i_str i_anil)) (i_acons (i_tup (i_acons i_str i_anil)) (i_acons i_bl (i_acons i_str (i_acons i_str (i_acons i_dic0 i_anil))))))))))))))))
  (i_pcons (i_set (i := 2) (sc29).nd rfl (by first | exact Or.inl rfl | exact Or.inr rfl) (i_lst (i_acons i_non (i_acons i_bl (i_acons i_bl (i_acons (i_neg i_int) (i_acons i_int (i_acons i_str (i_acons (i_tup (i_acons i_int i_anil)) (i_acons (i_lst i_anil) (i_acons (i_pow i_int i_int) (i_acons (i_neg (i_pow i_int i_int)) i_anil))))))))))))
  (i_pcons (i_set (i := 3) (sc29).nd rfl (by first | exact Or.inl rfl | exact Or.inr rfl) (i_lst (i_acons i_non (i_acons i_str (i_acons i_str (i_acons i_str (i_acons i_str (i_acons i_int (i_acons (i_lst (i_acons i_str i_anil)) (i_acons (i_tup (i_acons i_str i_anil)) (i_acons i_bl (i_acons i_str (i_acons i_str (i_acons i_dic0 i_anil))))))))))))))
  (i_pcons (i_for rfl (passes_of rfl) rfl (i_wseq rfl (iv 1)) (i_gnm (i := 4) (sc29).nd rfl (by first | exact Or.inl rfl | exact Or.inr rfl)) (i_pcons (i_asgs rfl (i_acons (i_call (fl := [true]) (ix := [0, 1]) h.r19 hr (by decide) rfl T.g__law_one T.f19.kp T.b_19_2 tkB (i_acons (iv 0) (i_acons (iv 2) i_anil))) (i_acons (i_call (fl := [true]) (ix := [0, 1]) h.r19 hr (by decide) rfl T.g__law_one T.f19.kp T.b_19_2 tkB (i_acons (iv 0) (i_acons (iv 3) i_anil))) i_anil)) (i_gtp rfl (i_gs (i_gnm (i := 5) (sc29).nd rfl (by first | exact Or.inl rfl | exact Or.inr rfl)) (i_gs (i_gnm (i := 6) (sc29).nd rfl (by first | exact Or.inl rfl | exact Or.inr rfl)) i_gs0))))
  (i_pone (i_if (i_tcmp (op_neX hr.rm.units) (fNe_ok rfl) (i_callLm (G := mkG K) (lk := 2) (js := [4, 5, 6]) (ix := [0]) rfl rfl rfl (h.r20) hr (by decide) rfl T.g__law_heard T.f20.kp T.b_20_1 tkB rfl lamF_2 T.tb29 rfl tin_29 T.tu29 (by exact (by decide +kernel : ∀ y ∈ (lamI 2).caps, (defScope st29).names.lookup y = some .cell)) (by exact (caps_at (caps := (lamI 2).caps) (N := N29) (js := [4, 5, 6]) (by decide +kernel))) rfl (fun _ _ => rfl) i_anil) (i_tup (i_acons i_str (i_acons (i_alt1 (i_bf (call_show0 (hr.gd rfl) (room200 hr.rm)) fRepr0_ok rfl T.n_repr (by rfl) (iv 4)) (i_bf (call_show (hr.gd rfl) (room200 hr.rm)) (fRepr_ok rfl) rfl T.n_repr (by rfl) (iv 4))) i_anil))) (nomark _)) (i_pone (i_ret i_bl)) i_pnil))))
  (i_pcons (i_for rfl (passes_of rfl) rfl (i_wseq rfl (iv 2)) (i_gnm (i := 4) (sc29).nd rfl (by first | exact Or.inl rfl | exact Or.inr rfl)) (i_pcons (i_asgs rfl (i_acons (i_call (fl := [true]) (ix := [0, 1]) h.r19 hr (by decide) rfl T.g__law_one T.f19.kp T.b_19_2 tkB (i_acons (iv 0) (i_acons (i_lst (i_acons i_str (i_acons i_str i_anil))) i_anil))) (i_acons (i_call (fl := [true]) (ix := [0, 1]) h.r19 hr (by decide) rfl T.g__law_one T.f19.kp T.b_19_2 tkB (i_acons (iv 0) (i_acons (iv 3) i_anil))) i_anil)) (i_gtp rfl (i_gs (i_gnm (i := 7) (sc29).nd rfl (by first | exact Or.inl rfl | exact Or.inr rfl)) (i_gs (i_gnm (i := 6) (sc29).nd rfl (by first | exact Or.inl rfl | exact Or.inr rfl)) i_gs0))))
  (i_pone (i_if (i_tcmp (op_neX hr.rm.units) (fNe_ok rfl) (i_callLm (G := mkG K) (lk := 3) (js := [4, 6, 7]) (ix := [0]) rfl rfl rfl (h.r20) hr (by decide) rfl T.g__law_heard T.f20.kp T.b_20_1 tkB rfl lamF_3 T.tb29 rfl tin_29 T.tu29 (by exact (by decide +kernel : ∀ y ∈ (lamI 3).caps, (defScope st29).names.lookup y = some .cell)) (by exact (caps_at (caps := (lamI 3).caps) (N := N29) (js := [4, 6, 7]) (by decide +kernel))) rfl (fun _ _ => rfl) i_anil) (i_tup (i_acons i_str (i_acons (i_alt1 (i_bf (call_show0 (hr.gd rfl) (room200 hr.rm)) fRepr0_ok rfl T.n_repr (by rfl) (iv 4)) (i_bf (call_show (hr.gd rfl) (room200 hr.rm)) (fRepr_ok rfl) rfl T.n_repr (by rfl) (iv 4))) i_anil))) (nomark _)) (i_pone (i_ret i_bl)) i_pnil))))
  (i_pcons (i_if (i_tcmp (op_neX hr.rm.units) (fNe_ok rfl) (i_comp rfl (own := [("value", 4)]) (by decide) rfl (sc29).nd (i_wseq rfl (iv 3)) (blkOk_by (N := N29) (sc := (defScope st29)) (by decide +kernel)) (fun _ _ _ _ _ => (i_gnm (i := 4) (sc29).nd rfl (by first | exact Or.inl rfl | exact Or.inr rfl))) (fun _ _ _ _ _ => (i_ifs1 (i_tcmp (op_neX hr.rm.units) (fNe_ok rfl) (i_callLm (G := mkG K) (lk := 4) (js := [4]) (ix := [0]) rfl rfl rfl (h.r20) hr (by decide) rfl T.g__law_heard T.f20.kp T.b_20_1 LamX.takes0 rfl lamF_4 T.tb29 rfl tin_29 T.tu29 (by exact (by decide +kernel : ∀ y ∈ (lamI 4).caps, (lcSc (eSub (sExp (sSub st29 5)) 0)).names.lookup y = some .cell)) (by exact (caps_at (caps := (lamI 4).caps) (N := N29) (js := [4]) (by decide +kernel))) rfl (by exact (by decide +kernel : ∀ y ∈ (lamI 4).caps, ((lcSc (eSub (sExp (sSub st29 5)) 0)).names.lookup y == some .cell) = true)) i_anil) (i_tup (i_acons i_str (i_acons (i_alt1 (i_bf (call_show0 (hr.gd rfl) (room200 hr.rm)) fRepr0_ok rfl T.n_repr (by rfl) (iv 4)) (i_bf (call_show (hr.gd rfl) (room200 hr.rm)) (fRepr_ok rfl) rfl T.n_repr (by rfl) (iv 4))) i_anil))) (nomark _)))) (fun _ _ _ _ _ => (iv 4))) (i_lst i_anil) (nomark _)) (i_pone (i_ret i_bl)) i_pnil)
  (i_pcons (i_setComp (i := 8) rfl (own := [("value", 4)]) (by decide) rfl (sc29).nd rfl rfl (sw_true rfl rfl rfl (by decide +kernel)) (i_wseq rfl (i_add rfl (iv 3) (i_lst (i_acons i_str (i_acons i_str (i_acons i_int (i_acons i_bl i_anil))))))) (blkOk_by (N := N29) (sc := (defScope st29)) (by decide +kernel)) (fun _ _ _ _ _ => (i_gnm (i := 4) (sc29).nd rfl (by first | exact Or.inl rfl | exact Or.inr rfl))) (fun _ _ _ _ _ => (i_ifs1 (i_tcmp op_isnX fIsn_ok (iv 4) i_non (nomark _)))) (fun _ _ _ _ _ => (iv 4)))
  (i_pcons (i_if (i_tcmp (op_neX hr.rm.units) (fNe_ok rfl) (i_comp rfl (own := [("value", 4)]) (by decide) rfl (sc29).nd (i_wseq rfl (iv 8)) (blkOk_by (N := N29) (sc := (defScope st29)) (by decide +kernel)) (fun _ _ _ _ _ => (i_gnm (i := 4) (sc29).nd rfl (by first | exact Or.inl rfl | exact Or.inr rfl))) (fun _ _ _ _ _ => (i_ifs1 (i_tcmp (op_neX hr.rm.units) (fNe_ok rfl) (i_callLm (G := mkG K) (lk := 5) (js := [4]) (ix := [0]) rfl rfl rfl (h.r20) hr (by decide) rfl T.g__law_heard T.f20.kp T.b_20_1 LamX.takes0 rfl lamF_5 T.tb29 rfl tin_29 T.tu29 (by exact (by decide +kernel : ∀ y ∈ (lamI 5).caps, (lcSc (eSub (sExp (sSub st29 7)) 0)).names.lookup y = some .cell)) (by exact (caps_at (caps := (lamI 5).caps) (N := N29) (js := [4]) (by decide +kernel))) rfl (by exact (by decide +kernel : ∀ y ∈ (lamI 5).caps, ((lcSc (eSub (sExp (sSub st29 7)) 0)).names.lookup y == some .cell) = true)) i_anil) (i_tup (i_acons i_str (i_acons (i_alt1 (i_bf (call_show0 (hr.gd rfl) (room200 hr.rm)) fRepr0_ok rfl T.n_repr (by rfl) (iv 4)) (i_bf (call_show (hr.gd rfl) (room200 hr.rm)) (fRepr_ok rfl) rfl T.n_repr (by rfl) (iv 4))) i_anil))) (nomark _)))) (fun _ _ _ _ _ => (iv 4))) (i_lst i_anil) (nomark _)) (i_pone (i_ret i_bl)) i_pnil)
  (i_pone (i_ret (i_and (i_cmp (op_eqX hr.rm.units) (fEq_ok rfl) (i_callLm (G := mkG K) (lk := 6) (js := []) (ix := [0]) rfl rfl rfl (h.r20) hr (by decide) rfl T.g__law_heard T.f20.kp T.b_20_1 tkB rfl lamF_6 T.tb29 rfl tin_29 T.tu29 (by exact (by decide +kernel : ∀ y ∈ (lamI 6).caps, (defScope st29).names.lookup y = some .cell)) (by exact (caps_at (caps := (lamI 6).caps) (N := N29) (js := []) (by decide +kernel))) rfl (fun _ _ => rfl) i_anil) (i_tup (i_acons i_str (i_acons i_str i_anil))) (nomark _)) (i_one (i_eqO rfl (EqsOk.cons (c := 4) T.eq_Question (runs_fn (fl := [true]) (ix := [0, 1]) h.r15 hr (by decide) T.b_15_2 tkB) T.oks_Question EqsOk.nil) (Nat.lt_of_le_of_lt (Nat.le_add_right _ _) (room65 hr.rm)) (i_run (runs_mk (c := 4) (fl := [true]) (ix := [0, 1, 2, 3]) T.mk_Question h.r12 hrm (by decide) T.b_12_4 tkB) rfl T.g_Question T.mk_Question.kp (i_acons i_str (i_acons i_int (i_acons i_non i_anil)))) (i_run (runs_mk (c := 4) (fl := [true]) (ix := [0, 1, 2, 3]) T.mk_Question h.r12 hrm (by decide) T.b_12_3 tkB) rfl T.g_Question T.mk_Question.kp (i_acons i_str (i_acons i_int i_anil))) (nomark _))))))))))))))
theorem ok_30 (T : TX K mg base) (h : OK P w K mg base n) : FnG true (mkG K) P w K mg base (3 * (n + 1) + 2) (He.fAd K at30) (fdAt K (He.fAd K at30)) P30 ((run (n + 1)).f 30) :=
  FnG.of (N := N30) (p := at30) (b := b_30 (run n)) T.f30 sc30 fun A outer s H E hr0 => by
    have hr := hr0.mono (show 3 * n + 2 ≤ 3 * (n + 1) + 1 by omega)
    have hrm := hr0.mono (show 3 * n + 2 + 1 ≤ 3 * (n + 1) + 1 by omega)
    have hrs := hr0.mono (show 3 * n + 2 + 2 ≤ 3 * (n + 1) + 1 by omega)
    have tkB := L2.takes_of (X := cxOf (L2.CX P w) P w K mg base N30 "law" (defScope st30) (He.fAd K at30) (.ref (He.codeOf K at30)) A outer s H E) (E := E) rfl rfl rfl rfl
    exact (i_pcons (i_set (i := 1) (sc30).nd rfl (by first | exact Or.inl rfl | exact Or.inr rfl) (i_call (fl := []) (ix := [0]) h.r17 hr (by decide) rfl T.g__law_well T.f17.kp T.b_17_1 tkB (i_acons (iv 0) i_anil)))
  (i_pcons (i_for rfl (passes_of rfl) rfl (i_wrng1 rfl T.n_range (i_acons i_int i_anil)) (i_gnm (i := 2) (sc30).nd rfl (by first | exact Or.inl rfl | exact Or.inr rfl)) (i_pcons (i_if (PW.pt (i_wor (i_tnot (i_tval (i_call (fl := [true]) (ix := [0]) h.r27 hr (by decide) rfl T.g__law_answers_right T.f27.kp T.b_27_1 tkB (i_acons (iv 1) i_anil)) (by intro _; rfl))) (i_wor1 (i_tnot (i_tval (i_call (fl := [true]) (ix := [0]) h.r28 hr (by decide) rfl T.g__law_unlike_right T.f28.kp T.b_28_1 tkB (i_acons (iv 1) i_anil)) (by intro _; rfl)))))) (i_pone (i_ret i_bl)) i_pnil)
  (i_pcons (i_set (i := 3) (sc30).nd rfl (by first | exact Or.inl rfl | exact Or.inr rfl) (i_call (fl := []) (ix := [0]) h.r23 hr (by decide) rfl T.g__law_text T.f23.kp T.b_23_1 tkB (i_acons (i_call (fl := [true]) (ix := [0]) h.r21 hr (by decide) rfl T.g__law_plain T.f21.kp T.b_21_1 tkB (i_acons (iv 1) i_anil)) i_anil)))
  (i_pone (i_for rfl (passes_of rfl) rfl (i_wrng1 rfl T.n_range (i_acons i_int i_anil)) (i_gnm (i := 4) (sc30).nd rfl (by first | exact Or.inl rfl | exact Or.inr rfl)) (i_pcons (i_set (i := 5) (sc30).nd rfl (by first | exact Or.inl rfl | exact Or.inr rfl) (i_call (fl := [true]) (ix := [0, 1]) h.r25 hr (by decide) rfl T.g__law_bent T.f25.kp T.b_25_2 tkB (i_acons (iv 1) (i_acons (iv 3) i_anil))))
  (i_pone (i_if (PW.pt (i_wor (i_tnot (i_tval (i_call (fl := []) (ix := [0]) h.r26 hr (by decide) rfl T.g__law_text_right T.f26.kp T.b_26_1 tkB (i_acons (iv 3) i_anil)) (by intro _; rfl))) (i_wor (i_tnot (i_tval (i_call (fl := []) (ix := [0]) h.r26 hr (by decide) rfl T.g__law_text_right T.f26.kp T.b_26_1 tkB (i_acons (iv 5) i_anil)) (by intro _; rfl))) (i_wor1 (i_tnot (i_tval (i_call (fl := []) (ix := [0]) h.r26 hr (by decide) rfl T.g__law_text_right T.f26.kp T.b_26_1 tkB (i_acons (i_call (fl := [true]) (ix := [0, 1]) h.r25 hr (by decide) rfl T.g__law_bent T.f25.kp T.b_25_2 tkB (i_acons (iv 1) (i_acons (iv 5) i_anil))) i_anil)) (by intro _; rfl))))))) (i_pone (i_ret i_bl)) i_pnil))))))))
  (i_pcons (i_set (i := 6) (sc30).nd rfl (by first | exact Or.inl rfl | exact Or.inr rfl) (i_call (fl := [true]) (ix := [0, 1]) h.r19 hr (by decide) rfl T.g__law_one T.f19.kp T.b_19_2 tkB (i_acons (iv 1) (i_acons (i_lst (i_acons i_non (i_acons i_int (i_acons i_bl (i_acons (i_lst (i_acons i_str i_anil)) (i_acons (i_tup (i_acons i_str (i_acons i_int i_anil))) (i_acons i_dic0 (i_acons (i_run (runs_mk (c := 4) (fl := [true]) (ix := [0, 1, 2, 3]) T.mk_Question h.r12 hrm (by decide) T.b_12_3 tkB) rfl T.g_Question T.mk_Question.kp (i_acons i_str (i_acons i_int i_anil))) i_anil)))))))) i_anil))))
  (i_pone (i_ret (i_and (i_cmp (op_eqX hr.rm.units) (fEq_ok rfl) (i_callLm (G := mkG K) (lk := 7) (js := [6]) (ix := [0]) rfl rfl rfl (h.r20) hr (by decide) rfl T.g__law_heard T.f20.kp T.b_20_1 tkB rfl lamF_7 T.tb30 rfl tin_30 T.tu30 (by exact (by decide +kernel : ∀ y ∈ (lamI 7).caps, (defScope st30).names.lookup y = some .cell)) (by exact (caps_at (caps := (lamI 7).caps) (N := N30) (js := [6]) (by decide +kernel))) rfl (fun _ _ => rfl) i_anil) (i_tup (i_acons i_str (i_acons i_str (i_acons i_str i_anil)))) (nomark _)) (i_one (i_call (fl := [true]) (ix := [0]) h.r29 hr (by decide) rfl T.g__law_refused_right T.f29.kp T.b_29_1 tkB (i_acons (iv 1) i_anil)))))))))
theorem okl_0 (T : TX K mg base) (h : OK P w K mg base n) : LamOk false (mkG K) P w K mg base (3 * (n + 1) + 2) 0 ((run (n + 1)).l 0) :=
  lam_ok (m := l_0 (run n)) lamF_0 fun A outer s H E f c' clo hr0 => by
    have hr := hr0.mono (show 3 * n + 2 ≤ 3 * (n + 1) + 1 by omega)
    have hrm := hr0.mono (show 3 * n + 2 + 1 ≤ 3 * (n + 1) + 1 by omega)
    have hrs := hr0.mono (show 3 * n + 2 + 2 ≤ 3 * (n + 1) + 1 by omega)
    have tkB := L2.takes_of (X := cloCx P w K mg base (lamI 0) clo f c' A outer s H E) (E := E) rfl rfl rfl rfl
    exact (i_cm (c := 4) T.cr_Question T.cm_Question_from_text (runs_fn (fl := []) (ix := [0, 1]) h.r13 hr (by decide) T.b_13_2 tkB) rfl T.g_Question (i_acons (iv 0) i_anil))
theorem okl_1 (T : TX K mg base) (h : OK P w K mg base n) : LamOk false (mkG K) P w K mg base (3 * (n + 1) + 2) 1 ((run (n + 1)).l 1) :=
  lam_ok (m := l_1 (run n)) lamF_1 fun A outer s H E f c' clo hr0 => by
    have hr := hr0.mono (show 3 * n + 2 ≤ 3 * (n + 1) + 1 by omega)
    have hrm := hr0.mono (show 3 * n + 2 + 1 ≤ 3 * (n + 1) + 1 by omega)
    have hrs := hr0.mono (show 3 * n + 2 + 2 ≤ 3 * (n + 1) + 1 by omega)
    have tkB := L2.takes_of (X := cloCx P w K mg base (lamI 1) clo f c' A outer s H E) (E := E) rfl rfl rfl rfl
    exact (i_meth (MethsOk.cons (c := 4) T.cls_Question T.meth_Question_answer (runs_fn (fl := [true]) (ix := [0, 1]) h.r14 hr (by decide) T.b_14_2 tkB) MethsOk.nil) (i_run (runs_mk (c := 4) (fl := [true]) (ix := [0, 1, 2, 3]) T.mk_Question h.r12 hrm (by decide) T.b_12_3 tkB) rfl T.g_Question T.mk_Question.kp (i_acons i_str (i_acons i_int i_anil))) (i_acons (iv 0) i_anil))
theorem okl_2 (T : TX K mg base) (h : OK P w K mg base n) : LamOk false (mkG K) P w K mg base (3 * (n + 1) + 2) 2 ((run (n + 1)).l 2) :=
  lam_ok (m := l_2 (run n)) lamF_2 fun A outer s H E f c' clo hr0 => by
    have hr := hr0.mono (show 3 * n + 2 ≤ 3 * (n + 1) + 1 by omega)
    have hrm := hr0.mono (show 3 * n + 2 + 1 ≤ 3 * (n + 1) + 1 by omega)
    have hrs := hr0.mono (show 3 * n + 2 + 2 ≤ 3 * (n + 1) + 1 by omega)
    have tkB := L2.takes_of (X := cloCx P w K mg base (lamI 2) clo f c' A outer s H E) (E := E) rfl rfl rfl rfl
    exact (i_run (runs_mk (c := 4) (fl := [true]) (ix := [0, 1, 2, 3]) T.mk_Question h.r12 hrm (by decide) T.b_12_4 tkB) rfl T.g_Question T.mk_Question.kp (i_acons (iv 0) (i_acons (iv 1) (i_acons (iv 2) i_anil))))
theorem okl_3 (T : TX K mg base) (h : OK P w K mg base n) : LamOk false (mkG K) P w K mg base (3 * (n + 1) + 2) 3 ((run (n + 1)).l 3) :=
  lam_ok (m := l_3 (run n)) lamF_3 fun A outer s H E f c' clo hr0 => by
    have hr := hr0.mono (show 3 * n + 2 ≤ 3 * (n + 1) + 1 by omega)
    have hrm := hr0.mono (show 3 * n + 2 + 1 ≤ 3 * (n + 1) + 1 by omega)
    have hrs := hr0.mono (show 3 * n + 2 + 2 ≤ 3 * (n + 1) + 1 by omega)
    have tkB := L2.takes_of (X := cloCx P w K mg base (lamI 3) clo f c' A outer s H E) (E := E) rfl rfl rfl rfl
    exact (i_run (runs_mk (c := 4) (fl := [true]) (ix := [0, 1, 2, 3]) T.mk_Question h.r12 hrm (by decide) T.b_12_4 tkB) rfl T.g_Question T.mk_Question.kp (i_acons (iv 2) (i_acons (iv 0) (i_acons (iv 1) i_anil))))
theorem okl_4 (T : TX K mg base) (h : OK P w K mg base n) : LamOk false (mkG K) P w K mg base (3 * (n + 1) + 2) 4 ((run (n + 1)).l 4) :=
  lam_ok (m := l_4 (run n)) lamF_4 fun A outer s H E f c' clo hr0 => by
    have hr := hr0.mono (show 3 * n + 2 ≤ 3 * (n + 1) + 1 by omega)
    have hrm := hr0.mono (show 3 * n + 2 + 1 ≤ 3 * (n + 1) + 1 by omega)
    have hrs := hr0.mono (show 3 * n + 2 + 2 ≤ 3 * (n + 1) + 1 by omega)
    have tkB := L2.takes_of (X := cloCx P w K mg base (lamI 4) clo f c' A outer s H E) (E := E) rfl rfl rfl rfl
    exact (i_run (runs_mk (c := 4) (fl := [true]) (ix := [0, 1, 2, 3]) T.mk_Question h.r12 hrm (by decide) T.b_12_4 tkB) rfl T.g_Question T.mk_Question.kp (i_acons i_str (i_acons i_int (i_acons (iv 0) i_anil))))
theorem okl_5 (T : TX K mg base) (h : OK P w K mg base n) : LamOk false (mkG K) P w K mg base (3 * (n + 1) + 2) 5 ((run (n + 1)).l 5) :=
  lam_ok (m := l_5 (run n)) lamF_5 fun A outer s H E f c' clo hr0 => by
    have hr := hr0.mono (show 3 * n + 2 ≤ 3 * (n + 1) + 1 by omega)
    have hrm := hr0.mono (show 3 * n + 2 + 1 ≤ 3 * (n + 1) + 1 by omega)
    have hrs := hr0.mono (show 3 * n + 2 + 2 ≤ 3 * (n + 1) + 1 by omega)
    have tkB := L2.takes_of (X := cloCx P w K mg base (lamI 5) clo f c' A outer s H E) (E := E) rfl rfl rfl rfl
    exact (i_run (runs_mk (c := 4) (fl := [true]) (ix := [0, 1, 2, 3]) T.mk_Question h.r12 hrm (by decide) T.b_12_4 tkB) rfl T.g_Question T.mk_Question.kp (i_acons i_str (i_acons i_int (i_acons (iv 0) i_anil))))
theorem okl_6 (T : TX K mg base) (h : OK P w K mg base n) : LamOk false (mkG K) P w K mg base (3 * (n + 1) + 2) 6 ((run (n + 1)).l 6) :=
  lam_ok (m := l_6 (run n)) lamF_6 fun A outer s H E f c' clo hr0 => by
    have hr := hr0.mono (show 3 * n + 2 ≤ 3 * (n + 1) + 1 by omega)
    have hrm := hr0.mono (show 3 * n + 2 + 1 ≤ 3 * (n + 1) + 1 by omega)
    have hrs := hr0.mono (show 3 * n + 2 + 2 ≤ 3 * (n + 1) + 1 by omega)
    have tkB := L2.takes_of (X := cloCx P w K mg base (lamI 6) clo f c' A outer s H E) (E := E) rfl rfl rfl rfl
    exact (i_run (runs_mk (c := 4) (fl := [true]) (ix := [0, 1, 2, 3]) T.mk_Question h.r12 hrm (by decide) T.b_12_3 tkB) rfl T.g_Question T.mk_Question.kp (i_acons i_str (i_acons i_int i_anil)))
theorem okl_7 (T : TX K mg base) (h : OK P w K mg base n) : LamOk false (mkG K) P w K mg base (3 * (n + 1) + 2) 7 ((run (n + 1)).l 7) :=
  lam_ok (m := l_7 (run n)) lamF_7 fun A outer s H E f c' clo hr0 => by
    have hr := hr0.mono (show 3 * n + 2 ≤ 3 * (n + 1) + 1 by omega)
    have hrm := hr0.mono (show 3 * n + 2 + 1 ≤ 3 * (n + 1) + 1 by omega)
    have hrs := hr0.mono (show 3 * n + 2 + 2 ≤ 3 * (n + 1) + 1 by omega)
    have tkB := L2.takes_of (X := cloCx P w K mg base (lamI 7) clo f c' A outer s H E) (E := E) rfl rfl rfl rfl
    exact (i_cm (c := 4) T.cr_Question T.cm_Question_from_text (runs_fn (fl := []) (ix := [0, 1]) h.r13 hr (by decide) T.b_13_2 tkB) rfl T.g_Question (i_acons (iv 0) i_anil))
theorem ok_all (T : TX K mg base) : ∀ n, OK P w K mg base n
  | 0 => ⟨FnG.zero, FnG.zero, FnG.zero, FnG.zero, FnG.zero, FnG.zero, FnG.zero, FnG.zero, FnG.zero, FnGS.zero, FnG.zero, FnG.zero, FnG.zero, FnG.zero, FnG.zero, FnG.zero, FnG.zero, FnG.zero, FnG.zero, FnG.zero, FnG.zero, FnG.zero, FnG.zero, FnG.zero, FnG.zero, FnG.zero, FnG.zero, FnG.zero, FnG.zero, FnG.zero, FnG.zero, fun _ => LamOk.zero⟩
  | n + 1 => by
    have h := ok_all T n
    refine ⟨ok_0 T h, ok_1 T h, ok_2 T h, ok_3 T h, ok_4 T h, ok_5 T h, ok_6 T h, ok_7 T h, ok_8 T h, ok_9 T h, ok_10 T h, ok_11 T h, ok_12 T h, ok_13 T h, ok_14 T h, ok_15 T h, ok_16 T h, ok_17 T h, ok_18 T h, ok_19 T h, ok_20 T h, ok_21 T h, ok_22 T h, ok_23 T h, ok_24 T h, ok_25 T h, ok_26 T h, ok_27 T h, ok_28 T h, ok_29 T h, ok_30 T h, fun k => ?_⟩
    match k with
    | 0 => exact okl_0 T h
    | 1 => exact okl_1 T h
    | 2 => exact okl_2 T h
    | 3 => exact okl_3 T h
    | 4 => exact okl_4 T h
    | 5 => exact okl_5 T h
    | 6 => exact okl_6 T h
    | 7 => exact okl_7 T h
    | k + 8 => exact LamOk.zero
end
end K36
set_option Elab.async false
set_option linter.all false
set_option maxRecDepth 100000
set_option maxHeartbeats 0
set_option autoImplicit false
namespace K36
open PySem PySem.Spec PyProof.Rows L2 Iv
/-! ### the head -/
abbrev R0 : PySem.W.OpenRow := PySem.W.OpenLaw.row PySem.Challenge.rw_heardasmeant_k36_questions_asked
abbrev hk : PySem.W.Hook := hookY 6 faL fnL tfL ex
def ob (s : PySem.W.SharedT) : AlY := obsY 6 faL fnL tfL ex (HandSHeadRun.getT s)
theorem ob_eq (s : PySem.W.SharedT) : ob s = hk.obs s.abs := obsY_eq (HandSHeadRun.getT_eq s)
def nm0 : List Str := ["_wall", "LETTERS", "is_integer", "is_within", "is_deeds", "is_letter", "HearError", "BadQuestion", "BadText", "DIGITS", "is_number", "Scan", "IS", "MORE_THAN", "MOST_NUMBER", "Question", "_law_well", "_law_draw", "_law_one", "_law_heard", "_law_plain", "_law_made", "_law_text", "_law_read", "_law_bent", "_law_text_right", "_law_answers_right", "_law_unlike_right", "_law_refused_right"]
def nms : List Str := nm0
theorem run_ok (w : World) : HandSHeadRun.RunEq R0 (PySem.W.view R0.prog [34]) hk ob 4000 nms w := by
  intro os
  kernel_rfl
theorem law_at {w : World} {mg : Str → Option Value} {fa : Addr} {h : Heap} (Y : hk.says w h) (G0 : h.Ns mainGlobals mg) (hmg : mg "law" = some (.ref fa)) :
    ∃ K : PySem.W.Frag, K.In h ∧ LawAt true PySem.Challenge.rw_heardasmeant_k36_questions_asked w K 38 "script" mg fa h ((run 12).f 30) := by
  obtain ⟨K, KX, c⟩ := Y
  have T := tt_of KX G0 c
  have e := hmg.symm.trans T.g_law
  cases e
  have b := FunD.bindsA (ps := P30) T.f30 fun _ _ _ _ _ _ us hl => match us, hl with | [_], _ => rfl
  refine ⟨K, KX, mkG K, fdAt K (He.fAd K at30), [He.cT K at26, He.cT K at27, He.cT K at29, He.cT K at30], rfl, fun p hp => ?_, fun p hp => ?_, fun p hp => ?_, fun s u => b s [u] rfl, fun H hH => ?_, fun base KB GB TB => ?_⟩
  · exact (by
    have hp' : p = He.cT K at26 ∨ p = He.cT K at27 ∨ p = He.cT K at29 ∨ p = He.cT K at30 := by simpa using hp
    rcases hp' with rfl | rfl | rfl | rfl
    · exact c.empty at26 (.head _)
    · exact c.empty at27 (.tail _ (.head _))
    · exact c.empty at29 (.tail _ (.tail _ (.head _)))
    · exact c.empty at30 (.tail _ (.tail _ (.tail _ (.head _)))))
  · exact (by
    have hp' : p = He.cT K at26 ∨ p = He.cT K at27 ∨ p = He.cT K at29 ∨ p = He.cT K at30 := by simpa using hp
    rcases hp' with rfl | rfl | rfl | rfl
    · exact c.out at26 (.head _)
    · exact c.out at27 (.tail _ (.head _))
    · exact c.out at29 (.tail _ (.tail _ (.head _)))
    · exact c.out at30 (.tail _ (.tail _ (.tail _ (.head _)))))
  · exact (by
    have hp' : p = He.cT K at26 ∨ p = He.cT K at27 ∨ p = He.cT K at29 ∨ p = He.cT K at30 := by simpa using hp
    rcases hp' with rfl | rfl | rfl | rfl
    · exact PySem.W.codeHd_of_K KX (c.hd at26 (.head _))
    · exact PySem.W.codeHd_of_K KX (c.hd at27 (.tail _ (.head _)))
    · exact PySem.W.codeHd_of_K KX (c.hd at29 (.tail _ (.tail _ (.head _))))
    · exact PySem.W.codeHd_of_K KX (c.hd at30 (.tail _ (.tail _ (.tail _ (.head _))))))
  · exact fun p hp => (by
    have hp' : p = ((He.cT K at26).2, ("_law_text_right.<locals>.<lambda>" : Str)) ∨ p = ((He.cT K at27).2, ("_law_answers_right.<locals>.<lambda>" : Str)) ∨ p = ((He.cT K at29).2, ("_law_refused_right.<locals>.<lambda>" : Str)) ∨ p = ((He.cT K at30).2, ("law.<locals>.<lambda>" : Str)) := by simpa [mkG] using hp
    rcases hp' with rfl | rfl | rfl | rfl
    · exact LamX.TabS.nil (hH (He.cT K at26) (.head _))
    · exact LamX.TabS.nil (hH (He.cT K at27) (.tail _ (.head _)))
    · exact LamX.TabS.nil (hH (He.cT K at29) (.tail _ (.tail _ (.head _))))
    · exact LamX.TabS.nil (hH (He.cT K at30) (.tail _ (.tail _ (.tail _ (.head _))))))
  · exact (ok_all (tx_of T (TB (He.cT K at26) (.head _)) (TB (He.cT K at27) (.tail _ (.head _))) (TB (He.cT K at29) (.tail _ (.tail _ (.head _)))) (TB (He.cT K at30) (.tail _ (.tail _ (.tail _ (.head _)))))) 12).r30
end K36
set_option Elab.async false
set_option linter.all false
set_option maxRecDepth 100000
set_option maxHeartbeats 2000000
set_option autoImplicit false
namespace K36
open PySem PySem.Spec PyProof.Rows L2 Iv
theorem draw1 (R : Rn) (ns : List Int) (at_ rest many : Int) (hm : 0 < many) (hm2 : many < 2 ^ 31) (hr : 0 < rest) : b_18 R [some (.p 0), some (.d (.int many)), none, none, none, none] (obs [pen ns at_ rest]) = .ret (.d (.int (rest % many))) (obs [pen ns at_ (rest / many)]) := by
  have e1 : decide (0 < rest) = true := decide_eq_true hr
  have e2 : decide (0 < many) = true := decide_eq_true hm
  have e3 : decide (many.natAbs < 2 ^ 64) = true := decide_eq_true (by omega)
  simp [b_18, obs, pen, OD.ob, sSeq, sSet, sIf, sRet, sRetN, sSetIx, sExpr, sNil, sAsg, sAsgs, sPar, tOf, tAnd', tOr', tNot', tYes', tIfT, v2, v1, vN, vVar, vC, vAnd, vOr, vNot, vIf, aCons, aNil, fGt, fGe, fLt, fLe, fI, fIC, fSub, fMul, fDiv, fMod, fPow, fNeg, cMul, cDiv, cMod, cPow, fAbs, ev_bind, ev_berr, ev_then, ev_terr, List.getElem?_cons_zero, List.getElem?_cons_succ, List.set_cons_zero, List.set_cons_succ, fAdd, fInt, fIx, sqU, lsU, tpU, fLen, atI, ixN, hr, hm, show many.natAbs < 2 ^ 64 by omega]
theorem bound1 {c at_ : Int} (ha : 0 ≤ at_) (hb : at_ ≤ 1000000) : (c % 2147483587 + 51407 * at_ + 3607).natAbs < 18446744073709551616 := by omega
theorem bound2 {m at_ : Int} (ha : 0 ≤ at_) (hb : at_ ≤ 1000000) (hm : 0 ≤ m) (hm2 : m < 2147483629) : (m * (2 * at_ + 1901) + 58147 * at_ * at_ + 61223).natAbs < 18446744073709551616 := by
  have h1 : m * (2 * at_ + 1901) ≤ 2147483629 * (2 * at_ + 1901) := Int.mul_le_mul_of_nonneg_right (Int.le_of_lt hm2) (by omega)
  have h2 : 0 ≤ m * (2 * at_ + 1901) := Int.mul_nonneg hm (by omega)
  have h3 : 58147 * at_ * at_ ≤ 58147 * at_ * 1000000 := Int.mul_le_mul_of_nonneg_left hb (by omega)
  have h4 : 0 ≤ 58147 * at_ * at_ := Int.mul_nonneg (by omega) ha
  omega
theorem draw2 (R : Rn) (at_ many : Int) (hm : 0 < many) (hm2 : many < 2 ^ 31) (ha : 0 ≤ at_) (hb : at_ ≤ 1000000) : ∃ r, b_18 R [some (.p 0), some (.d (.int many)), none, none, none, none] (obs [pen [] at_ 0]) = .ret (.d (.int (r % many))) (obs [pen [] (at_ + 1) 0]) := by
  have e4 : ¬ at_ < 0 := by omega
  have e10 : (2 * at_ + 1901).natAbs < 18446744073709551616 := by omega
  have e11 : at_.natAbs < 18446744073709551616 := by omega
  have e5 := bound2 (m := (((58147 * at_ + 3607) % 2147483587 + 51407 * at_ + 3607) ^ 5 % 2147483629)) ha hb (Int.emod_nonneg _ (by decide)) (Int.emod_lt_of_pos _ (by decide))
  have e6 := ne_ints []
  rw [List.map_nil] at e6
  simp [b_18, obs, pen, OD.ob, sSeq, sSet, sIf, sRet, sRetN, sSetIx, sExpr, sNil, sAsg, sAsgs, sPar, tOf, tAnd', tOr', tNot', tYes', tIfT, v2, v1, vN, vVar, vC, vAnd, vOr, vNot, vIf, aCons, aNil, fGt, fGe, fLt, fLe, fI, fIC, fSub, fMul, fDiv, fMod, fPow, fNeg, cMul, cDiv, cMod, cPow, fAbs, ev_bind, ev_berr, ev_then, ev_terr, List.getElem?_cons_zero, List.getElem?_cons_succ, List.set_cons_zero, List.set_cons_succ, fAdd, fInt, fIx, sqU, lsU, tpU, fLen, atI, ixN, hm, show many.natAbs < 2 ^ 64 by omega, ha, hb, e4, bound1 ha hb, e10, e11, e5, e6, oLst, frzL, frzLW]
  exact ⟨_, rfl⟩
theorem draw3 (R : Rn) (ns : List Int) (hne : ns ≠ []) (at_ many : Int) (hm : 0 < many) (hm2 : many < 2 ^ 31) (ha : 0 ≤ at_) (hb : at_ ≤ 1000000) : ∃ r rest, 0 ≤ rest ∧ b_18 R [some (.p 0), some (.d (.int many)), none, none, none, none] (obs [pen ns at_ 0]) = .ret (.d (.int (r % many))) (obs [pen ns (at_ + 1) rest]) := by
  have e4 : ¬ at_ < 0 := by omega
  have e10 : (2 * at_ + 1901).natAbs < 18446744073709551616 := by omega
  have e11 : at_.natAbs < 18446744073709551616 := by omega
  have hl : 0 < ns.length := List.length_pos_iff.mpr hne
  have e6 : ns.isEmpty = false := by cases ns with
    | nil => exact absurd rfl hne
    | cons _ _ => rfl
  have e7 : 0 ≤ at_ % (ns.length : Int) := Int.emod_nonneg _ (by omega)
  have e8 : at_ % (ns.length : Int) < ns.length := Int.emod_lt_of_pos _ (by omega)
  have hlt : (at_ % (ns.length : Int)).toNat < ns.length := by omega
  have e5 := bound2 (m := ((ns[(at_ % (ns.length : Int)).toNat] % 2147483587 + 51407 * at_ + 3607) ^ 5 % 2147483629)) ha hb (Int.emod_nonneg _ (by decide)) (Int.emod_lt_of_pos _ (by decide))
  by_cases c1 : at_ < ns.length
  · by_cases c2 : (1000000000000000000 : Int) ≤ if ns[(at_ % (ns.length : Int)).toNat] < 0 then -ns[(at_ % (ns.length : Int)).toNat] else ns[(at_ % (ns.length : Int)).toNat]
    · refine ⟨2 * ((if ns[(at_ % (ns.length : Int)).toNat] < 0 then -ns[(at_ % (ns.length : Int)).toNat] else ns[(at_ % (ns.length : Int)).toNat]) - 1000000000000000000) + if ns[(at_ % (ns.length : Int)).toNat] < 0 then 1 else 0, _, Int.ediv_nonneg (a := 2 * ((if ns[(at_ % (ns.length : Int)).toNat] < 0 then -ns[(at_ % (ns.length : Int)).toNat] else ns[(at_ % (ns.length : Int)).toNat]) - 1000000000000000000) + if ns[(at_ % (ns.length : Int)).toNat] < 0 then 1 else 0) (b := many) (by split <;> omega) (by omega), ?_⟩
      simp [b_18, obs, pen, OD.ob, sSeq, sSet, sIf, sRet, sRetN, sSetIx, sExpr, sNil, sAsg, sAsgs, sPar, tOf, tAnd', tOr', tNot', tYes', tIfT, v2, v1, vN, vVar, vC, vAnd, vOr, vNot, vIf, aCons, aNil, fGt, fGe, fLt, fLe, fI, fIC, fSub, fMul, fDiv, fMod, fPow, fNeg, cMul, cDiv, cMod, cPow, fAbs, ev_bind, ev_berr, ev_then, ev_terr, List.getElem?_cons_zero, List.getElem?_cons_succ, List.set_cons_zero, List.set_cons_succ, fAdd, fInt, fIx, sqU, lsU, tpU, fLen, atI, ixN, hm, show many.natAbs < 2 ^ 64 by omega, ha, hb, e4, bound1 ha hb, e10, e11, e5, ne_ints, oLst, frzL, frzLW, e6, hl, e7, e8, c1, c2]
    · obtain ⟨r, e⟩ : ∃ r, b_18 R [some (.p 0), some (.d (.int many)), none, none, none, none] (obs [pen ns at_ 0]) = .ret (.d (.int (r % many))) (obs [pen ns (at_ + 1) 0]) := by
        simp [b_18, obs, pen, OD.ob, sSeq, sSet, sIf, sRet, sRetN, sSetIx, sExpr, sNil, sAsg, sAsgs, sPar, tOf, tAnd', tOr', tNot', tYes', tIfT, v2, v1, vN, vVar, vC, vAnd, vOr, vNot, vIf, aCons, aNil, fGt, fGe, fLt, fLe, fI, fIC, fSub, fMul, fDiv, fMod, fPow, fNeg, cMul, cDiv, cMod, cPow, fAbs, ev_bind, ev_berr, ev_then, ev_terr, List.getElem?_cons_zero, List.getElem?_cons_succ, List.set_cons_zero, List.set_cons_succ, fAdd, fInt, fIx, sqU, lsU, tpU, fLen, atI, ixN, hm, show many.natAbs < 2 ^ 64 by omega, ha, hb, e4, bound1 ha hb, e10, e11, e5, ne_ints, oLst, frzL, frzLW, e6, hl, e7, e8, c1, c2]
        exact ⟨_, rfl⟩
      exact ⟨r, 0, Int.le_refl _, e⟩
  · obtain ⟨r, e⟩ : ∃ r, b_18 R [some (.p 0), some (.d (.int many)), none, none, none, none] (obs [pen ns at_ 0]) = .ret (.d (.int (r % many))) (obs [pen ns (at_ + 1) 0]) := by
      simp [b_18, obs, pen, OD.ob, sSeq, sSet, sIf, sRet, sRetN, sSetIx, sExpr, sNil, sAsg, sAsgs, sPar, tOf, tAnd', tOr', tNot', tYes', tIfT, v2, v1, vN, vVar, vC, vAnd, vOr, vNot, vIf, aCons, aNil, fGt, fGe, fLt, fLe, fI, fIC, fSub, fMul, fDiv, fMod, fPow, fNeg, cMul, cDiv, cMod, cPow, fAbs, ev_bind, ev_berr, ev_then, ev_terr, List.getElem?_cons_zero, List.getElem?_cons_succ, List.set_cons_zero, List.set_cons_succ, fAdd, fInt, fIx, sqU, lsU, tpU, fLen, atI, ixN, hm, show many.natAbs < 2 ^ 64 by omega, ha, hb, e4, bound1 ha hb, e10, e11, e5, ne_ints, oLst, frzL, frzLW, e6, hl, e7, e8, c1]
      exact ⟨_, rfl⟩
    exact ⟨r, 0, Int.le_refl _, e⟩
/-- a draw -/
theorem draw (n : Nat) (ns : List Int) (at_ rest many : Int) (hm : 0 < many) (hm2 : many < 2 ^ 31) (ha : 0 ≤ at_) (hb : at_ ≤ 1000000) (hr : 0 ≤ rest) :
    ∃ r at2 rest2, 0 ≤ r ∧ r < many ∧ at_ ≤ at2 ∧ at2 ≤ at_ + 1 ∧ 0 ≤ rest2 ∧ (run (n + 1)).f 18 [.p 0, .d (.int many)] [pen ns at_ rest] = .ok (.d (.int r)) [pen ns at2 rest2] none := by
  have fin : ∀ {r at2 rest2 : Int}, b_18 (run n) [some (.p 0), some (.d (.int many)), none, none, none, none] (obs [pen ns at_ rest]) = .ret (.d (.int (r % many))) (obs [pen ns at2 rest2]) → (run (n + 1)).f 18 [.p 0, .d (.int many)] [pen ns at_ rest] = .ok (.d (.int (r % many))) [pen ns at2 rest2] none := fun {r at2 rest2} e => by
    show exitF [pen ns at_ rest].length false (b_18 (run n) [some (.p 0), some (.d (.int many)), none, none, none, none] (obs [pen ns at_ rest])) = _
    rw [e]
    exact ex_ret (os := [pen ns at2 rest2]) (ex := [])
  by_cases h : 0 < rest
  · exact ⟨_, _, _, Int.emod_nonneg _ (by omega), Int.emod_lt_of_pos _ hm, Int.le_refl _, by omega, Int.ediv_nonneg hr (by omega), fin (draw1 _ _ _ _ _ hm hm2 h)⟩
  · have e : rest = 0 := by omega
    subst e
    by_cases hn : ns = []
    · subst hn
      obtain ⟨r, e⟩ := draw2 (run n) at_ many hm hm2 ha hb
      exact ⟨_, _, _, Int.emod_nonneg _ (by omega), Int.emod_lt_of_pos _ hm, by omega, Int.le_refl _, Int.le_refl _, fin e⟩
    · obtain ⟨r, rest2, h2, e⟩ := draw3 (run n) ns hn at_ many hm hm2 ha hb
      exact ⟨_, _, _, Int.emod_nonneg _ (by omega), Int.emod_lt_of_pos _ hm, by omega, Int.le_refl _, h2, fin e⟩
theorem drawF (n : Nat) (ns : List Int) (many : Int) (hm : 0 < many) (hm2 : many < 2 ^ 31) : DrF ns 1 ((run (n + 1)).f 18) [.int many] (fun d => ∃ r, d = .int r ∧ 0 ≤ r ∧ r < many) := DrF.of fun at_ rest h1 h2 h3 => by
  obtain ⟨r, at2, rest2, q1, q2, q3, q4, q5, e⟩ := draw n ns at_ rest many hm hm2 h1 (by omega) h3
  exact ⟨_, at2, rest2, ⟨r, rfl, q1, q2⟩, q3, q4, q5, e⟩
theorem pickL (n : Nat) (ns : List Int) (ds : List D) (h : 0 < ds.length) (hl : ds.length < 100000) : DrF ns 1 ((run (n + 2)).f 19) [.lst ds] (fun d => d ∈ ds) := DrF.ofB (b := b_19 (run (n + 1))) (N := 2) fun at_ rest h1 h2 h3 => by
  obtain ⟨d, at2, rest2, ⟨r, rfl, r1, r2⟩, q3, q4, q5, e⟩ := drawF n ns ds.length (by omega) (by omega) at_ rest h1 h2 h3
  have hr : r.toNat < ds.length := by omega
  refine ⟨ds[r.toNat], at2, rest2, [], List.getElem_mem hr, q3, q4, q5, ?_⟩
  simp only [List.map_cons, List.map_nil] at e
  simp [b_19, sSeq, sSet, sIf, sRet, sRetN, sSetIx, sExpr, sNil, sAsg, sAsgs, sPar, tOf, tAnd', tOr', tNot', tYes', tIfT, v2, v1, vN, vVar, vC, vAnd, vOr, vNot, vIf, aCons, aNil, fGt, fGe, fLt, fLe, fI, fIC, fSub, fMul, fDiv, fMod, fPow, fNeg, cMul, cDiv, cMod, cPow, fAbs, ev_bind, ev_berr, ev_then, ev_terr, List.getElem?_cons_zero, List.getElem?_cons_succ, List.set_cons_zero, List.set_cons_succ, fAdd, fInt, fIx, sqU, lsU, tpU, fLen, vCall, ixL, e, atI, ixN, r1, r2, hr]
theorem pickS (n : Nat) (ns : List Int) (s : Str) (h : 0 < s.length) (hl : s.length ≤ 1000000) : DrF ns 1 ((run (n + 2)).f 19) [.str s] (fun d => ∃ c ∈ s.cps.toList, d = .str ⟨#[c]⟩) := DrF.ofB (b := b_19 (run (n + 1))) (N := 2) fun at_ rest h1 h2 h3 => by
  obtain ⟨d, at2, rest2, ⟨r, rfl, r1, r2⟩, q3, q4, q5, e⟩ := drawF n ns s.length (by omega) (by omega) at_ rest h1 h2 h3
  have hz : s.length = s.cps.toList.length := by simp [Str.length]
  have hr : r.toNat < s.cps.toList.length := by omega
  refine ⟨.str ⟨#[s.cps.toList[r.toNat]]⟩, at2, rest2, [], ⟨_, List.getElem_mem hr, rfl⟩, q3, q4, q5, ?_⟩
  simp only [List.map_cons, List.map_nil] at e
  have e2 : L2.atI s.cps.toList r = some s.cps.toList[r.toNat] := by
    unfold L2.atI L2.ixN
    rw [if_pos r1, if_pos (by omega)]
    exact List.getElem?_eq_getElem hr
  simp [b_19, sSeq, sSet, sIf, sRet, sRetN, sSetIx, sExpr, sNil, sAsg, sAsgs, sPar, tOf, tAnd', tOr', tNot', tYes', tIfT, v2, v1, vN, vVar, vC, vAnd, vOr, vNot, vIf, aCons, aNil, fGt, fGe, fLt, fLe, fI, fIC, fSub, fMul, fDiv, fMod, fPow, fNeg, cMul, cDiv, cMod, cPow, fAbs, ev_bind, ev_berr, ev_then, ev_terr, List.getElem?_cons_zero, List.getElem?_cons_succ, List.set_cons_zero, List.set_cons_succ, fAdd, fInt, fIx, sqU, lsU, tpU, fLen, vCall, ixL, e, hl, e2]
end K36
set_option Elab.async false
set_option linter.all false
set_option maxRecDepth 100000
set_option maxHeartbeats 2000000
set_option autoImplicit false
namespace K36
open PySem PySem.Spec PyProof.Rows L2 Iv
/-! ### texts -/
abbrev SS (l : List Nat) : Str := ⟨l.toArray⟩
abbrev tt (W : List (List Nat)) : List D := W.map fun w => D.str (SS w)
abbrev sg (c : Nat) : D := .str (SS [c])
theorem ss_eq (w x : List Nat) : decide (SS w = SS x) = decide (w = x) := by
  by_cases h : w = x
  · subst h; simp
  · rw [decide_eq_false h]
    refine decide_eq_false fun z => h ?_
    exact congrArg (fun s : Str => s.cps.toList) z
theorem eq_ss (a b : List Nat) (μ : Mu) : fEq (.d (.str (SS a))) (.d (.str (SS b))) μ = .ok (.d (.bl (decide (a = b)))) μ := by
  rw [← ss_eq]; rfl
theorem ne_ss (a b : List Nat) (μ : Mu) : fNe (.d (.str (SS a))) (.d (.str (SS b))) μ = .ok (.d (.bl (!decide (a = b)))) μ := by
  rw [← ss_eq]; rfl
theorem ne_int (i j : Int) (μ : Mu) : fNe (.d (.int i)) (.d (.int j)) μ = .ok (.d (.bl (!decide (i = j)))) μ := rfl
theorem eq_int (i j : Int) (μ : Mu) : fEq (.d (.int i)) (.d (.int j)) μ = .ok (.d (.bl (decide (i = j)))) μ := rfl
theorem len_ss (w : List Nat) (h : w.length ≤ 1000000) (μ : Mu) : fLen (.d (.str (SS w))) μ = .ok (.d (.int w.length)) μ := by
  unfold fLen
  dsimp only
  exact if_pos h
abbrev inY (Y : Str) (w : List Nat) : Bool := w.all fun c => decide (c ∈ Y.cps.toList)
theorem in1 (neg : Bool) (c : Nat) (y : Str) (μ : Mu) : fIn neg (.d (sg c)) (.d (.str y)) μ = .ok (.d (.bl (if neg = true then !decide (c ∈ y.cps.toList) else decide (c ∈ y.cps.toList)))) μ := rfl
def gIn (Y : Str) : D → D
  | .str s => .bl (match s.cps.toList with | [c] => decide (c ∈ Y.cps.toList) | _ => false)
  | _ => .non
theorem get_set {ρ : Rho} {i : Nat} {u : Option U} (hi : i < ρ.length) : ((wipeR ρ [i]).set i u)[i]? = some u := by
  show ((ρ.set i none).set i u)[i]? = _
  rw [List.getElem?_set_self (by rw [List.length_set]; exact hi)]
theorem var_set {ρ : Rho} {i : Nat} {u : U} {μ : Mu} (hi : i < ρ.length) : vVar i ((wipeR ρ [i]).set i (some u)) μ = .ok u μ := by
  unfold vVar
  rw [get_set hi]
theorem ws_str {ρ : Rho} {i0 : Nat} {w : List Nat} {μ : Mu} (h0 : ρ[i0]? = some (some (.d (.str (SS w))))) : wSeq (vVar i0) ρ μ = .ok (wkD (w.map sg)) μ := by
  unfold wSeq vVar
  rw [h0]
  rfl
theorem all_in (Y : Str) (w : List Nat) (hw : w.length ≤ 98000) (i0 i : Nat) (ρ : Rho) (μ : Mu) (h0 : ρ[i0]? = some (some (.d (.str (SS w))))) (hi : i < ρ.length) :
    v1 (fAllAny true) (vComp (wSeq (vVar i0)) (.nm i) [i] tYes' (v2 (fIn false) (vVar i) (vC (.str Y)))) ρ μ = .ok (.d (.bl (inY Y w))) μ := by
  have hv := vcomp_d (ds := w.map sg) (w := wSeq (vVar i0)) (t := .nm i) (own := [i]) (cond := tYes') (elt := v2 (fIn false) (vVar i) (vC (.str Y)))
    (ρ := ρ) (μ0 := μ) (μ := μ) (p := fun _ => true) (g := gIn Y) (r := fun x => (wipeR ρ [i]).set i (some (.d x))) (ws_str h0) (fun x _ => rfl) (fun x _ => rfl) (fun x hx _ => by
      obtain ⟨c, _, rfl⟩ := List.mem_map.mp hx
      unfold v2
      rw [var_set hi]
      exact in1 false c Y μ) (by rw [List.length_map]; omega)
  have e1 : (((w.map sg).filter fun _ => true).map (gIn Y)) = (w.map fun c => decide (c ∈ Y.cps.toList)).map D.bl := by
    have : ∀ l : List D, l.filter (fun _ => true) = l := fun l => by simp
    rw [this, List.map_map, List.map_map]
    rfl
  rw [e1] at hv
  unfold v1
  rw [hv]
  show fAllAny true (.d (.lst ((w.map fun c => decide (c ∈ Y.cps.toList)).map D.bl))) μ = _
  rw [all_d, List.all_map]
  rfl
def pNo (Y : Str) : D → Bool
  | .str s => (match s.cps.toList with | [c] => !decide (c ∈ Y.cps.toList) | _ => false)
  | _ => false
theorem fil_all (Y : Str) (w : List Nat) : ((w.filter fun c => !decide (c ∈ Y.cps.toList)).map fun c => SS [c]).isEmpty = inY Y w := by
  induction w with
  | nil => rfl
  | cons c l ih =>
    unfold inY
    rw [List.filter_cons, List.all_cons]
    generalize decide (c ∈ Y.cps.toList) = b
    cases b with
    | true => exact ih
    | false => rfl
theorem none_out (Y : Str) (w : List Nat) (hw : w.length ≤ 98000) (hO : ∀ c ∈ w, c < 1114112) (i0 i : Nat) (ρ : Rho) (μ : Mu) (h0 : ρ[i0]? = some (some (.d (.str (SS w))))) (hi : i < ρ.length) :
    v2 fNe (vComp (wSeq (vVar i0)) (.nm i) [i] (tOf (v2 (fIn true) (vVar i) (vC (.str Y)))) (vVar i)) (vN oLst aNil) ρ μ = .ok (.d (.bl (!inY Y w))) μ := by
  have hv := vcomp_d (ds := w.map sg) (w := wSeq (vVar i0)) (t := .nm i) (own := [i]) (cond := tOf (v2 (fIn true) (vVar i) (vC (.str Y)))) (elt := vVar i)
    (ρ := ρ) (μ0 := μ) (μ := μ) (p := pNo Y) (g := fun x => x) (r := fun x => (wipeR ρ [i]).set i (some (.d x))) (ws_str h0) (fun x _ => rfl) (fun x hx => by
      obtain ⟨c, _, rfl⟩ := List.mem_map.mp hx
      unfold tOf v2
      rw [var_set hi]
      show ((fIn true (.d (sg c)) (.d (.str Y)) μ).bind _) = _
      rw [in1]
      rfl) (fun x hx _ => var_set hi) (by rw [List.length_map]; omega)
  have e1 : (((w.map sg).filter (pNo Y)).map fun x => x) = ((w.filter fun c => !decide (c ∈ Y.cps.toList)).map fun c => SS [c]).map D.str := by
    rw [List.map_id'', List.filter_map, List.map_map] <;> first | rfl | (intro x; rfl)
  rw [e1] at hv
  have hne := ne_strs ((w.filter fun c => !decide (c ∈ Y.cps.toList)).map fun c => SS [c]) (by
    rw [List.all_eq_true]
    intro s hs
    obtain ⟨c, hc, rfl⟩ := List.mem_map.mp hs
    have := hO c (List.mem_filter.mp hc).1
    show (SS [c]).cps.all _ = true
    simp [this]) μ
  show ((vComp (wSeq (vVar i0)) (.nm i) [i] (tOf (v2 (fIn true) (vVar i) (vC (.str Y)))) (vVar i) ρ μ).bind _) = _
  rw [hv]
  show fNe _ (.d (.lst [])) μ = _
  rw [hne, fil_all]
abbrev AZ : Str := "abcdefghijklmnopqrstuvwxyz"
abbrev DG : Str := "0123456789"
theorem mem_az (c : Nat) : c ∈ AZ.cps.toList ↔ 97 ≤ c ∧ c ≤ 122 := by
  show c ∈ ([97, 98, 99, 100, 101, 102, 103, 104, 105, 106, 107, 108, 109, 110, 111, 112, 113, 114, 115, 116, 117, 118, 119, 120, 121, 122] : List Nat) ↔ _
  simp only [List.mem_cons, List.not_mem_nil, or_false]
  omega
theorem mem_dg (c : Nat) : c ∈ DG.cps.toList ↔ 48 ≤ c ∧ c ≤ 57 := by
  show c ∈ ([48, 49, 50, 51, 52, 53, 54, 55, 56, 57] : List Nat) ↔ _
  simp only [List.mem_cons, List.not_mem_nil, or_false]
  omega
/-! ### the checks -/
theorem is_deeds (n : Nat) (w : List Nat) (hw : w.length ≤ 98000) : (run (n + 1)).f 2 [.d (.str (SS w))] [] = .ok (.d (.bl (inY AZ w))) [] none := by
  refine en_ret (b := b_2 (run n)) (N := 2) (ex := []) ?_
  have h := all_in AZ w hw 0 1 [some (.d (.str (SS w))), none] [] rfl (Nat.lt_succ_self 1)
  show (((v1 (fAllAny true) (vComp (wSeq (vVar 0)) (.nm 1) [1] tYes' (v2 (fIn false) (vVar 1) (vC (.str AZ))))) [some (.d (.str (SS w))), none] []).thenS _ _) = _
  rw [h]
  rfl
theorem is_letter (n : Nat) (w : List Nat) (hw : w.length ≤ 98000) : (run (n + 2)).f 3 [.d (.str (SS w))] [] = .ok (.d (.bl (inY AZ w && decide (w.length = 1)))) [] none := by
  refine en_ret (b := b_3 (run (n + 1))) (N := 1) (ex := []) ?_
  have h2 : ∀ μ, callL ((run (n + 1)).f 2) [] [.d (.str (SS w))] μ = .ok (.d (.bl (inY AZ w))) μ := fun μ => call_d (ds := [.str (SS w)]) (is_deeds n w hw)
  have h3 := len_ss w (by omega)
  have h4 : ∀ i : Nat, decide ((i : Int) = 1) = decide (i = 1) := fun i => decide_eq_decide.mpr (by omega)
  cases hb : inY AZ w with
  | true => rw [hb] at h2; simp [b_3, sSeq, sSet, sIf, sRet, sRetN, sSetIx, sExpr, sNil, sAsg, sAsgs, sPar, tOf, tAnd', tOr', tNot', tYes', tIfT, v2, v1, vN, vVar, vC, vAnd, vOr, vNot, vIf, aCons, aNil, fGt, fGe, fLt, fLe, fI, fIC, fSub, fMul, fDiv, fMod, fPow, fNeg, cMul, cDiv, cMod, cPow, fAbs, ev_bind, ev_berr, ev_then, ev_terr, List.getElem?_cons_zero, List.getElem?_cons_succ, List.set_cons_zero, List.set_cons_succ, fAdd, fInt, vCall, ixL, h2, h3, eq_int, h4]
  | false => rw [hb] at h2; simp [b_3, sSeq, sSet, sIf, sRet, sRetN, sSetIx, sExpr, sNil, sAsg, sAsgs, sPar, tOf, tAnd', tOr', tNot', tYes', tIfT, v2, v1, vN, vVar, vC, vAnd, vOr, vNot, vIf, aCons, aNil, fGt, fGe, fLt, fLe, fI, fIC, fSub, fMul, fDiv, fMod, fPow, fNeg, cMul, cDiv, cMod, cPow, fAbs, ev_bind, ev_berr, ev_then, ev_terr, List.getElem?_cons_zero, List.getElem?_cons_succ, List.set_cons_zero, List.set_cons_succ, fAdd, fInt, vCall, ixL, h2, h3, eq_int, h4]
theorem is_within (n : Nat) (i : Int) (h1 : 0 ≤ i) (h2 : i ≤ 99999) : (run (n + 2)).f 1 [.d (.int i), .d (.int 0), .d (.int 99999)] [] = .ok (.d (.bl true)) [] none := by
  refine en_ret (b := b_1 (run (n + 1))) (N := 3) (ex := []) ?_
  have h0 : ∀ μ, callL ((run (n + 1)).f 0) [] [.d (.int i)] μ = .ok (.d (.bl true)) μ := fun μ => call_d (ds := [.int i]) rfl
  simp [b_1, sSeq, sSet, sIf, sRet, sRetN, sSetIx, sExpr, sNil, sAsg, sAsgs, sPar, tOf, tAnd', tOr', tNot', tYes', tIfT, v2, v1, vN, vVar, vC, vAnd, vOr, vNot, vIf, aCons, aNil, fGt, fGe, fLt, fLe, fI, fIC, fSub, fMul, fDiv, fMod, fPow, fNeg, cMul, cDiv, cMod, cPow, fAbs, ev_bind, ev_berr, ev_then, ev_terr, List.getElem?_cons_zero, List.getElem?_cons_succ, List.set_cons_zero, List.set_cons_succ, fAdd, fInt, vCall, ixL, h0, v3, chEnd, h1, h2]
/-! ### numbers -/
def canon : List Nat → Bool
  | [] => false
  | c :: r => decide (c ≠ 48) || r.isEmpty
def numB (w : List Nat) : Bool := decide (1 ≤ w.length) && (decide (w.length ≤ 5) && (inY DG w && canon w))
theorem num_parts {w : List Nat} (h : numB w = true) : 1 ≤ w.length ∧ w.length ≤ 5 ∧ inY DG w = true ∧ canon w = true := by
  unfold numB at h
  simp only [Bool.and_eq_true, decide_eq_true_eq] at h
  exact h
abbrev dv (w : List Nat) : Int := ((NumText.digitsVal w : Nat) : Int)
theorem dg_of {w : List Nat} (h : inY DG w = true) : NumText.AllDigits w := fun c hc => (mem_dg c).mp (of_decide_eq_true (List.all_eq_true.mp h c hc))
theorem dv_lt : ∀ (k : Nat) (w : List Nat), w.length ≤ k → NumText.AllDigits w → NumText.digitsVal w < 10 ^ k := by
  intro k
  have key : ∀ (w : List Nat) (acc : Nat), NumText.AllDigits w → w.foldl (fun acc c => acc * 10 + (c - 48)) acc < (acc + 1) * 10 ^ w.length := by
    intro w
    induction w with
    | nil => intro acc _; simp
    | cons c l ih =>
      intro acc h
      have hc := h.head
      have := ih (acc * 10 + (c - 48)) h.tail
      rw [List.foldl_cons, List.length_cons, Nat.pow_succ]
      refine Nat.lt_of_lt_of_le this ?_
      rw [Nat.mul_comm (10 ^ l.length) 10, ← Nat.mul_assoc]
      exact Nat.mul_le_mul_right _ (by omega)
  intro w hl h
  have h1 := key w 0 h
  have h2 : 10 ^ w.length ≤ 10 ^ k := Nat.pow_le_pow_right (by decide) hl
  unfold NumText.digitsVal
  omega
theorem int_ss {w : List Nat} (h : numB w = true) (μ : Mu) : fInt (.d (.str (SS w))) μ = .ok (.d (.int (dv w))) μ := by
  obtain ⟨h1, h2, h3, h4⟩ := num_parts h
  have e : PySem.intText? (SS w) = some (dv w) := SX.int_S (a := w) (by
    rw [List.all_eq_true]
    intro c hc
    have := dg_of h3 c hc
    simp [this]) (by intro z; subst z; cases h1) (by omega)
  have hl : (SS w).length ≤ 640 := by show w.toArray.size ≤ 640; rw [List.size_toArray]; omega
  show (match PySem.intText? (SS w) with
    | some n => if (SS w).length ≤ 640 then Res.ok (U.d (D.int n)) μ else .bad
    | none => .bad : Res U) = _
  rw [e]
  exact if_pos hl
theorem dv_le {w : List Nat} (h : numB w = true) : 0 ≤ dv w ∧ dv w ≤ 99999 := by
  obtain ⟨h1, h2, h3, h4⟩ := num_parts h
  have := dv_lt 5 w h2 (dg_of h3)
  unfold dv
  omega
/-- a number's own text -/
theorem num_back : ∀ (k : Nat) (w : List Nat), w.length ≤ k → NumText.AllDigits w → canon w = true → TL.numL (NumText.digitsVal w) = w ∧ (w ≠ [48] → 0 < NumText.digitsVal w)
  | 0, w, h, _, hc => by
    cases w with
    | nil => cases hc
    | cons c l => cases h
  | k + 1, w, h, hd, hc => by
    rcases List.eq_nil_or_concat w with rfl | ⟨b, c, rfl⟩
    · cases hc
    · have hcd : 48 ≤ c ∧ c ≤ 57 := hd c (by simp)
      have hv : NumText.digitsVal (b ++ [c]) = NumText.digitsVal b * 10 + (c - 48) := by
        unfold NumText.digitsVal
        rw [List.foldl_append]
        rfl
      rw [List.concat_eq_append] at *
      cases b with
      | nil =>
        have e : NumText.digitsVal ([] ++ [c]) = c - 48 := by rw [hv]; show 0 * 10 + (c - 48) = _; omega
        rw [e]
        refine ⟨?_, fun z => ?_⟩
        · rw [TL.numL_lt (by omega)]
          show [48 + (c - 48)] = [c]
          rw [show 48 + (c - 48) = c by omega]
        · have : c ≠ 48 := fun z2 => z (by rw [z2]; rfl)
          omega
      | cons x l =>
        have hx : x ≠ 48 := by
          have hc2 : (decide (x ≠ 48) || (l ++ [c]).isEmpty) = true := hc
          have : (l ++ [c]).isEmpty = false := by simp
          rw [this, Bool.or_false] at hc2
          exact of_decide_eq_true hc2
        obtain ⟨i1, i2⟩ := num_back k (x :: l) (by simpa using h) (fun d hd' => hd d (List.mem_append_left _ hd')) (by
          show (decide (x ≠ 48) || _) = true
          rw [decide_eq_true hx]
          rfl)
        have pos := i2 (by intro z; injection z with z1; exact hx z1)
        rw [hv]
        refine ⟨?_, fun _ => by omega⟩
        rw [TL.numL_step (by omega), show (NumText.digitsVal (x :: l) * 10 + (c - 48)) / 10 = NumText.digitsVal (x :: l) by omega, i1, show 48 + (NumText.digitsVal (x :: l) * 10 + (c - 48)) % 10 = c by omega]
theorem str_dv {w : List Nat} (h : numB w = true) : Str.ofString (toString (dv w)) = SS w := by
  obtain ⟨h1, h2, h3, h4⟩ := num_parts h
  rw [SX.num_S, (num_back _ w (Nat.le_refl _) (dg_of h3) h4).1]
end K36
set_option Elab.async false
set_option linter.all false
set_option maxRecDepth 100000
set_option maxHeartbeats 2000000
set_option autoImplicit false
namespace K36
open PySem PySem.Spec PyProof.Rows L2 Iv
theorem head_ss (c : Nat) (r : List Nat) (h : (c :: r).length ≤ 1000000) (μ : Mu) : fIx (.d (.str (SS (c :: r)))) (.d (.int 0)) μ = .ok (.d (.str (SS [c]))) μ := by
  show (if (SS (c :: r)).length ≤ 1000000 then _ else _ : Res U) = _
  rw [if_pos (by exact h)]
  have e : L2.atI (SS (c :: r)).cps.toList 0 = some c := by
    show (L2.ixN (c :: r).length 0).bind _ = _
    unfold L2.ixN
    rw [if_pos (by decide), if_pos (by rw [List.length_cons]; omega)]
    rfl
  rw [e]
/-! ### is_number -/
def digs : Sm U := v1 (fAllAny true) (vComp (wSeq (vVar 0)) (.nm 3) [3] tYes' (v2 (fIn false) (vVar 3) (vC (.str DG))))
theorem b4_eq (R : Rn) : b_4 R = (sSeq (sIf (tOr' (tNot' (tOf (v3 fLe fLe (vC (.int 1)) (v1 fLen (vVar 0)) (v1 fLen (v1 fStr (vVar 2)))))) (tNot' (tOf digs))) (sRet (vC (.bl false))) sNil)
  (sRet (vAnd (vOr (v2 fEq (vVar 0) (vC (.str "0"))) (v2 fNe (v2 fIx (vVar 0) (vC (.int 0))) (vC (.str "0")))) (v3 fLe fLe (vVar 1) (v1 fInt (vVar 0)) (vVar 2))))) := rfl
theorem is_number (n : Nat) (w : List Nat) (hw : w.length ≤ 98000) : (run (n + 1)).f 4 [.d (.str (SS w)), .d (.int 0), .d (.int 99999)] [] = .ok (.d (.bl (numB w))) [] none := by
  have h1 := len_ss w (by omega)
  have h2 : ∀ μ, fStr (.d (.int 99999)) μ = .ok (.d (.str "99999")) μ := fun μ => by kernel_rfl
  have h3 : ∀ μ, fLen (.d (.str "99999")) μ = .ok (.d (.int 5)) μ := fun μ => by kernel_rfl
  have h4 : digs [some (.d (.str (SS w))), some (.d (.int 0)), some (.d (.int 99999)), none] [] = .ok (.d (.bl (inY DG w))) [] := all_in DG w hw 0 3 _ [] rfl (by show 3 < 4; omega)
  refine en_ret (b := b_4 (run n)) (N := 4) (ex := []) ?_
  rw [b4_eq]
  by_cases c1 : 1 ≤ w.length
  · by_cases c2 : w.length ≤ 5
    · cases c3 : inY DG w with
      | false =>
        rw [c3] at h4
        have e : numB w = false := by unfold numB; rw [c3]; simp
        rw [e]
        simp [sSeq, sSet, sIf, sRet, sRetN, sSetIx, sExpr, sNil, sAsg, sAsgs, sPar, tOf, tAnd', tOr', tNot', tYes', tIfT, v2, v1, vN, vVar, vC, vAnd, vOr, vNot, vIf, aCons, aNil, fGt, fGe, fLt, fLe, fI, fIC, fSub, fMul, fDiv, fMod, fPow, fNeg, cMul, cDiv, cMod, cPow, fAbs, ev_bind, ev_berr, ev_then, ev_terr, List.getElem?_cons_zero, List.getElem?_cons_succ, List.set_cons_zero, List.set_cons_succ, h1, h2, h3, h4, v3, chEnd, show (w.length : Int) ≤ 5 by omega, show (1 : Int) ≤ w.length by omega]
      | true =>
        rw [c3] at h4
        have e : numB w = canon w := by unfold numB; rw [c3, decide_eq_true c1, decide_eq_true c2]; rfl
        rw [e]
        cases w with
        | nil => cases c1
        | cons c r =>
          have g1 := head_ss c r (by omega)
          have g2 : ∀ μ, fEq (.d (.str (SS (c :: r)))) (.d (.str "0")) μ = .ok (.d (.bl (decide (c :: r = [48])))) μ := fun μ => eq_ss (c :: r) [48] μ
          have g3 : ∀ μ, fNe (.d (.str (SS [c]))) (.d (.str "0")) μ = .ok (.d (.bl (!decide ([c] = [48])))) μ := fun μ => ne_ss [c] [48] μ
          have hc : canon (c :: r) = (decide (c ≠ 48) || r.isEmpty) := rfl
          by_cases c4 : c = 48
          · subst c4
            cases r with
            | nil =>
              have g4 := int_ss (w := [48]) (by rfl)
              have g5 := dv_le (w := [48]) (by rfl)
              simp only [decide_eq_true (show [48] = [48] from rfl)] at g2
              simp [sSeq, sSet, sIf, sRet, sRetN, sSetIx, sExpr, sNil, sAsg, sAsgs, sPar, tOf, tAnd', tOr', tNot', tYes', tIfT, v2, v1, vN, vVar, vC, vAnd, vOr, vNot, vIf, aCons, aNil, fGt, fGe, fLt, fLe, fI, fIC, fSub, fMul, fDiv, fMod, fPow, fNeg, cMul, cDiv, cMod, cPow, fAbs, ev_bind, ev_berr, ev_then, ev_terr, List.getElem?_cons_zero, List.getElem?_cons_succ, List.set_cons_zero, List.set_cons_succ, h1, h2, h3, h4, v3, chEnd, g2, g4, g5, canon]
            | cons x l =>
              simp only [decide_eq_false (show ¬ (48 :: x :: l = [48]) by intro z; cases z)] at g2
              simp only [decide_eq_true (show [48] = [48] from rfl)] at g3
              simp [sSeq, sSet, sIf, sRet, sRetN, sSetIx, sExpr, sNil, sAsg, sAsgs, sPar, tOf, tAnd', tOr', tNot', tYes', tIfT, v2, v1, vN, vVar, vC, vAnd, vOr, vNot, vIf, aCons, aNil, fGt, fGe, fLt, fLe, fI, fIC, fSub, fMul, fDiv, fMod, fPow, fNeg, cMul, cDiv, cMod, cPow, fAbs, ev_bind, ev_berr, ev_then, ev_terr, List.getElem?_cons_zero, List.getElem?_cons_succ, List.set_cons_zero, List.set_cons_succ, h1, h2, h3, h4, v3, chEnd, g1, g2, g3, canon, show (l.length : Int) + 1 + 1 ≤ 5 by simp at c2; omega, show (1 : Int) ≤ l.length + 1 + 1 by omega]
          · have hn : numB (c :: r) = true := by rw [e, hc, decide_eq_true c4]; rfl
            have g4 := int_ss hn
            have g5 := dv_le hn
            simp only [decide_eq_false (show ¬ (c :: r = [48]) by intro z; injection z with z1; exact c4 z1)] at g2
            simp only [decide_eq_false (show ¬ ([c] = [48]) by intro z; injection z with z1; exact c4 z1)] at g3
            rw [← e, hn]
            simp [sSeq, sSet, sIf, sRet, sRetN, sSetIx, sExpr, sNil, sAsg, sAsgs, sPar, tOf, tAnd', tOr', tNot', tYes', tIfT, v2, v1, vN, vVar, vC, vAnd, vOr, vNot, vIf, aCons, aNil, fGt, fGe, fLt, fLe, fI, fIC, fSub, fMul, fDiv, fMod, fPow, fNeg, cMul, cDiv, cMod, cPow, fAbs, ev_bind, ev_berr, ev_then, ev_terr, List.getElem?_cons_zero, List.getElem?_cons_succ, List.set_cons_zero, List.set_cons_succ, h1, h2, h3, h4, v3, chEnd, g1, g2, g3, g4, g5, show (r.length : Int) + 1 ≤ 5 by simp at c2; omega, show (1 : Int) ≤ r.length + 1 by omega]
    · have e : numB w = false := by unfold numB; rw [decide_eq_false c2]; simp
      rw [e]
      simp [sSeq, sSet, sIf, sRet, sRetN, sSetIx, sExpr, sNil, sAsg, sAsgs, sPar, tOf, tAnd', tOr', tNot', tYes', tIfT, v2, v1, vN, vVar, vC, vAnd, vOr, vNot, vIf, aCons, aNil, fGt, fGe, fLt, fLe, fI, fIC, fSub, fMul, fDiv, fMod, fPow, fNeg, cMul, cDiv, cMod, cPow, fAbs, ev_bind, ev_berr, ev_then, ev_terr, List.getElem?_cons_zero, List.getElem?_cons_succ, List.set_cons_zero, List.set_cons_succ, h1, h2, h3, h4, v3, chEnd, show ¬ (w.length : Int) ≤ 5 by omega, show (1 : Int) ≤ w.length by omega]
  · have e : numB w = false := by unfold numB; rw [decide_eq_false c1]; simp
    rw [e]
    simp [sSeq, sSet, sIf, sRet, sRetN, sSetIx, sExpr, sNil, sAsg, sAsgs, sPar, tOf, tAnd', tOr', tNot', tYes', tIfT, v2, v1, vN, vVar, vC, vAnd, vOr, vNot, vIf, aCons, aNil, fGt, fGe, fLt, fLe, fI, fIC, fSub, fMul, fDiv, fMod, fPow, fNeg, cMul, cDiv, cMod, cPow, fAbs, ev_bind, ev_berr, ev_then, ev_terr, List.getElem?_cons_zero, List.getElem?_cons_succ, List.set_cons_zero, List.set_cons_succ, h1, h2, h3, h4, v3, chEnd, show ¬ (1 : Int) ≤ w.length by omega]
/-! ### scans -/
def scn (W : List (List Nat)) (a : Int) : OD := .ins 3 ["tokens", "line", "at"] [.lst (tt W), .int 0, .int a]
theorem refuse_ok (n : Nat) (W : List (List Nat)) (a : Int) : (run (n + 1)).f 7 [.p 0] [scn W a] = .err 2 ["word", "line"] [.int a, .int 0] [scn W a] := by kernel_rfl
theorem f_at (W : List (List Nat)) (a : Int) : fFld "at" [3] (.p 0) (obs [scn W a]) = .ok (.d (.int a)) (obs [scn W a]) := by kernel_rfl
theorem f_tok (W : List (List Nat)) (a : Int) : fFld "tokens" [3] (.p 0) (obs [scn W a]) = .ok (.d (.lst (tt W))) (obs [scn W a]) := by kernel_rfl
theorem set_at (W : List (List Nat)) (a a' : Int) (mv : Sm U) (ρ : Rho) (h0 : ρ[0]? = some (some (.p 0))) (hv : mv ρ (obs [scn W a]) = .ok (.d (.int a')) (obs [scn W a])) : sFldM "at" [3] (vVar 0) mv ρ (obs [scn W a]) = .nx ρ (obs [scn W a']) := by
  unfold sFldM vVar
  rw [hv, h0]
  kernel_rfl
theorem len_tt (W : List (List Nat)) (μ : Mu) : fLen (.d (.lst (tt W))) μ = .ok (.d (.int W.length)) μ := by
  show (Res.ok (U.d (D.int (((tt W).map U.d).length : Nat))) μ : Res U) = _
  rw [List.length_map, List.length_map]
theorem ix_tt {W : List (List Nat)} {a : Int} {w : List Nat} (ha : 0 ≤ a) (h : W[a.toNat]? = some w) (μ : Mu) : fIx (.d (.lst (tt W))) (.d (.int a)) μ = .ok (.d (.str (SS w))) μ := by
  have hl := (List.getElem?_eq_some_iff.mp h).1
  have e : L2.atI (((tt W).map U.d)) a = some (.d (.str (SS w))) := by
    unfold L2.atI L2.ixN
    rw [if_pos ha, List.length_map, List.length_map, if_pos (by omega)]
    show ((tt W).map U.d)[a.toNat]? = _
    rw [List.getElem?_map, List.getElem?_map, h]
    rfl
  unfold fIx
  dsimp only
  show (match L2.atI (((tt W).map U.d)) a with | some v => Res.ok v μ | none => .bad) = _
  rw [e]
abbrev wat (W : List (List Nat)) (a : Nat) : List Nat := (W[a]?).getD []
theorem word_ok (n : Nat) (W : List (List Nat)) (a : Nat) : (run (n + 1)).f 6 [.p 0] [scn W a] = .ok (.d (.str (SS (wat W a)))) [scn W a] none := by
  have e : b_6 (run n) [some (.p 0)] (obs [scn W a]) = .ret (.d (.str (SS (wat W a)))) (obs [scn W a] ++ []) := by
    rw [List.append_nil]
    have h1 := f_at W a
    have h2 := f_tok W a
    have h3 := len_tt W
    generalize obs [scn W a] = μ at *
    by_cases h : a < W.length
    · have g := ix_tt (W := W) (a := (a : Int)) (w := W[a]) (by omega) (by rw [Int.toNat_natCast]; exact List.getElem?_eq_getElem h)
      have e2 : wat W a = W[a] := by unfold wat; rw [List.getElem?_eq_getElem h]; rfl
      rw [e2]
      simp [b_6, sSeq, sSet, sIf, sRet, sRetN, sSetIx, sExpr, sNil, sAsg, sAsgs, sPar, tOf, tAnd', tOr', tNot', tYes', tIfT, v2, v1, vN, vVar, vC, vAnd, vOr, vNot, vIf, aCons, aNil, fGt, fGe, fLt, fLe, fI, fIC, fSub, fMul, fDiv, fMod, fPow, fNeg, cMul, cDiv, cMod, cPow, fAbs, ev_bind, ev_berr, ev_then, ev_terr, List.getElem?_cons_zero, List.getElem?_cons_succ, List.set_cons_zero, List.set_cons_succ, fAdd, fInt, h1, h2, h3, g, h]
    · have e2 : wat W a = [] := by unfold wat; rw [List.getElem?_eq_none (by omega)]; rfl
      rw [e2]
      simp [b_6, sSeq, sSet, sIf, sRet, sRetN, sSetIx, sExpr, sNil, sAsg, sAsgs, sPar, tOf, tAnd', tOr', tNot', tYes', tIfT, v2, v1, vN, vVar, vC, vAnd, vOr, vNot, vIf, aCons, aNil, fGt, fGe, fLt, fLe, fI, fIC, fSub, fMul, fDiv, fMod, fPow, fNeg, cMul, cDiv, cMod, cPow, fAbs, ev_bind, ev_berr, ev_then, ev_terr, List.getElem?_cons_zero, List.getElem?_cons_succ, List.set_cons_zero, List.set_cons_succ, fAdd, fInt, h1, h2, h3, h]
      rfl
  show exitF [scn W a].length false (b_6 (run n) [some (.p 0)] (obs [scn W a])) = _
  rw [e]
  exact ex_ret
/-- a method on the lent object -/
theorem meth_ok {f : Fn} {fl : List Bool} {ds : List D} {o o' : OD} {d : D} (hl : o.live = true) (h : f (.p 0 :: ds.map .d) [o] = .ok (.d d) [o'] none) : callL f [true] (.p 0 :: ds.map .d) (obs [o]) = .ok (.d d) (obs [o']) :=
  call_p (k := 0) (o := o) (o' := o') (μ := obs [o]) rfl hl h
theorem call_pe {f : Fn} {ds : List D} {μ : Mu} {k : Nat} {o o' : OD} {c : Nat} {ns : List Str} {vs : List D} (hk : μ[k]? = some o.ob) (hl : o.live = true) (h : f (.p 0 :: ds.map .d) [o] = .err c ns vs [o']) : callL f [true] (.p k :: ds.map .d) μ = .err c ns vs (μ.set k o'.ob) := by
  have hp : pass [true] (.p k :: ds.map .d) μ [] = some (.p 0 :: ds.map .d, [k], μ) := by
    show (match ((clean k μ).map fun μ1 => (U.p ([] : List Nat).length, ([] : List Nat) ++ [k], μ1) : Option (U × List Nat × Mu)) with
      | some (w, ns1, μ1) => (match pass [] (ds.map .d) μ1 ns1 with
        | some (ws, ns2, μ2) => some (w :: ws, ns2, μ2)
        | none => none)
      | none => none) = _
    rw [clean_d hk]
    show (match pass [] (ds.map .d) μ [k] with | some (ws, ns2, μ2) => some (U.p 0 :: ws, ns2, μ2) | none => none) = _
    rw [pass_d]
  unfold callL
  rw [hp]
  dsimp only
  rw [if_pos (by simp)]
  have hr : readAt μ [k] = some [o] := by
    unfold readAt
    rw [hk]
    dsimp only
    rw [if_pos (by rw [OD.ob_live]; exact hl), readO_ob]
    rfl
  rw [hr]
  dsimp only
  rw [h]
  rfl
/-- take -/
theorem take_ok (n : Nat) (W : List (List Nat)) (a : Nat) (h : a < W.length) : (run (n + 2)).f 8 [.p 0, .d (.bl true)] [scn W a] = .ok (.d (.str (SS (wat W a)))) [scn W (a + 1)] none := by
  have h2 := f_tok W a
  have h3 := len_tt W
  have s1 : (sIf (tOr' (tNot' (tOf (vVar 1))) (tOf (v2 fEq (v1 (fFld "at" [3]) (vVar 0)) (v1 fLen (v1 (fFld "tokens" [3]) (vVar 0)))))) (sExpr (vMeth [(3, (resF ((run (n + 1)).f 7) [0] [] [true]))] "refuse" 0 0 (vVar 0) aNil aNil)) sNil) [some (.p 0), some (.d (.bl true))] (obs [scn W a]) = .nx [some (.p 0), some (.d (.bl true))] (obs [scn W a]) := by
    have h1 := f_at W a
    generalize obs [scn W a] = μ at *
    simp [sSeq, sSet, sIf, sRet, sRetN, sSetIx, sExpr, sNil, sAsg, sAsgs, sPar, tOf, tAnd', tOr', tNot', tYes', tIfT, v2, v1, vN, vVar, vC, vAnd, vOr, vNot, vIf, aCons, aNil, fGt, fGe, fLt, fLe, fI, fIC, fSub, fMul, fDiv, fMod, fPow, fNeg, cMul, cDiv, cMod, cPow, fAbs, ev_bind, ev_berr, ev_then, ev_terr, List.getElem?_cons_zero, List.getElem?_cons_succ, List.set_cons_zero, List.set_cons_succ, fAdd, fInt, h1, h2, h3, eq_int, show ¬ ((a : Int) = W.length) by omega]
  have s2 : (sFldM "at" [3] (vVar 0) (v2 fAdd (v1 (fFld "at" [3]) (vVar 0)) (vC (.int 1)))) [some (.p 0), some (.d (.bl true))] (obs [scn W a]) = .nx [some (.p 0), some (.d (.bl true))] (obs [scn W (a + 1)]) := by
    have h1 := f_at W a
    refine set_at W a (a + 1) _ _ rfl ?_
    generalize obs [scn W a] = μ at *
    simp [sSeq, sSet, sIf, sRet, sRetN, sSetIx, sExpr, sNil, sAsg, sAsgs, sPar, tOf, tAnd', tOr', tNot', tYes', tIfT, v2, v1, vN, vVar, vC, vAnd, vOr, vNot, vIf, aCons, aNil, fGt, fGe, fLt, fLe, fI, fIC, fSub, fMul, fDiv, fMod, fPow, fNeg, cMul, cDiv, cMod, cPow, fAbs, ev_bind, ev_berr, ev_then, ev_terr, List.getElem?_cons_zero, List.getElem?_cons_succ, List.set_cons_zero, List.set_cons_succ, fAdd, fInt, h1]
  have s3 : (sRet (v2 fIx (v1 (fFld "tokens" [3]) (vVar 0)) (v2 fSub (v1 (fFld "at" [3]) (vVar 0)) (vC (.int 1))))) [some (.p 0), some (.d (.bl true))] (obs [scn W (a + 1)]) = .ret (.d (.str (SS (wat W a)))) (obs [scn W (a + 1)]) := by
    have h1 := f_at W (a + 1)
    have h4 := f_tok W (a + 1)
    have g := ix_tt (W := W) (a := (a : Int)) (w := W[a]) (by omega) (by rw [Int.toNat_natCast]; exact List.getElem?_eq_getElem h)
    have e2 : wat W a = W[a] := by unfold wat; rw [List.getElem?_eq_getElem h]; rfl
    rw [e2]
    generalize obs [scn W (a + 1)] = μ at *
    simp [sSeq, sSet, sIf, sRet, sRetN, sSetIx, sExpr, sNil, sAsg, sAsgs, sPar, tOf, tAnd', tOr', tNot', tYes', tIfT, v2, v1, vN, vVar, vC, vAnd, vOr, vNot, vIf, aCons, aNil, fGt, fGe, fLt, fLe, fI, fIC, fSub, fMul, fDiv, fMod, fPow, fNeg, cMul, cDiv, cMod, cPow, fAbs, ev_bind, ev_berr, ev_then, ev_terr, List.getElem?_cons_zero, List.getElem?_cons_succ, List.set_cons_zero, List.set_cons_succ, fAdd, fInt, h1, h4, g]
  show exitF [scn W a].length false (b_8 (run (n + 1)) [some (.p 0), some (.d (.bl true))] (obs [scn W a])) = _
  have e : b_8 (run (n + 1)) [some (.p 0), some (.d (.bl true))] (obs [scn W a]) = .ret (.d (.str (SS (wat W a)))) (obs [scn W (a + 1)] ++ []) := by
    rw [List.append_nil]
    unfold b_8
    unfold sSeq
    rw [s1]
    dsimp only
    rw [s2]
    exact s3
  rw [e]
  exact ex_ret (os := [scn W (a + 1)])
theorem take_no (n : Nat) (W : List (List Nat)) (a : Nat) (b : Bool) (h : b = false ∨ W.length ≤ a) (h' : a ≤ W.length) : (run (n + 2)).f 8 [.p 0, .d (.bl b)] [scn W a] = .err 2 ["word", "line"] [.int a, .int 0] [scn W a] := by
  have h1 := f_at W a
  have h2 := f_tok W a
  have h3 := len_tt W
  have h4 : vMeth [(3, (resF ((run (n + 1)).f 7) [0] [] [true]))] "refuse" 0 0 (vVar 0) aNil aNil [some (.p 0), some (.d (.bl b))] (obs [scn W a]) = .err 2 ["word", "line"] [.int a, .int 0] (obs [scn W a]) :=
    call_pe (f := (run (n + 1)).f 7) (ds := []) (k := 0) (o := scn W a) (o' := scn W a) (μ := obs [scn W a]) rfl rfl (refuse_ok n W a)
  have s1 : (sIf (tOr' (tNot' (tOf (vVar 1))) (tOf (v2 fEq (v1 (fFld "at" [3]) (vVar 0)) (v1 fLen (v1 (fFld "tokens" [3]) (vVar 0)))))) (sExpr (vMeth [(3, (resF ((run (n + 1)).f 7) [0] [] [true]))] "refuse" 0 0 (vVar 0) aNil aNil)) sNil) [some (.p 0), some (.d (.bl b))] (obs [scn W a]) = .err 2 ["word", "line"] [.int a, .int 0] [some (.p 0), some (.d (.bl b))] (obs [scn W a]) := by
    generalize obs [scn W a] = μ at *
    generalize vMeth [(3, (resF ((run (n + 1)).f 7) [0] [] [true]))] "refuse" 0 0 (vVar 0) aNil aNil = M at *
    cases b with
    | false => simp [sSeq, sSet, sIf, sRet, sRetN, sSetIx, sExpr, sNil, sAsg, sAsgs, sPar, tOf, tAnd', tOr', tNot', tYes', tIfT, v2, v1, vN, vVar, vC, vAnd, vOr, vNot, vIf, aCons, aNil, fGt, fGe, fLt, fLe, fI, fIC, fSub, fMul, fDiv, fMod, fPow, fNeg, cMul, cDiv, cMod, cPow, fAbs, ev_bind, ev_berr, ev_then, ev_terr, List.getElem?_cons_zero, List.getElem?_cons_succ, List.set_cons_zero, List.set_cons_succ, fAdd, fInt, h1, h2, h3, eq_int, h4]
    | true =>
      have : a = W.length := by
        rcases h with z | z
        · cases z
        · omega
      simp [sSeq, sSet, sIf, sRet, sRetN, sSetIx, sExpr, sNil, sAsg, sAsgs, sPar, tOf, tAnd', tOr', tNot', tYes', tIfT, v2, v1, vN, vVar, vC, vAnd, vOr, vNot, vIf, aCons, aNil, fGt, fGe, fLt, fLe, fI, fIC, fSub, fMul, fDiv, fMod, fPow, fNeg, cMul, cDiv, cMod, cPow, fAbs, ev_bind, ev_berr, ev_then, ev_terr, List.getElem?_cons_zero, List.getElem?_cons_succ, List.set_cons_zero, List.set_cons_succ, fAdd, fInt, h1, h2, h3, eq_int, h4, this]
  show exitF [scn W a].length false (b_8 (run (n + 1)) [some (.p 0), some (.d (.bl b))] (obs [scn W a])) = _
  have e : b_8 (run (n + 1)) [some (.p 0), some (.d (.bl b))] (obs [scn W a]) = .err 2 ["word", "line"] [.int a, .int 0] [some (.p 0), some (.d (.bl b))] (obs [scn W a] ++ []) := by
    rw [List.append_nil]
    unfold b_8
    unfold sSeq
    rw [s1]
  rw [e]
  exact ex_err (os := [scn W a])
end K36
set_option Elab.async false
set_option linter.all false
set_option maxRecDepth 100000
set_option maxHeartbeats 2000000
set_option autoImplicit false
namespace K36
open PySem PySem.Spec PyProof.Rows L2 Iv
theorem seq_nx {a b : SmS} {ρ ρ1 : Rho} {μ μ1 : Mu} (h : a ρ μ = .nx ρ1 μ1) : sSeq a b ρ μ = b ρ1 μ1 := by
  unfold sSeq
  rw [h]
theorem seq_err {a b : SmS} {ρ ρ1 : Rho} {μ μ1 : Mu} {c : Nat} {ns : List Str} {vs : List D} (h : a ρ μ = .err c ns vs ρ1 μ1) : sSeq a b ρ μ = .err c ns vs ρ1 μ1 := by
  unfold sSeq
  rw [h]
theorem seq_ret {a b : SmS} {ρ : Rho} {μ μ1 : Mu} {u : U} (h : a ρ μ = .ret u μ1) : sSeq a b ρ μ = .ret u μ1 := by
  unfold sSeq
  rw [h]
abbrev WIS : List Nat := [105, 115]
abbrev WMORE : List Nat := [109, 111, 114, 101]
abbrev isw (w : List Nat) : Bool := decide (w = WIS) || decide (w = WMORE)
theorem in_words (neg : Bool) (w : List Nat) (μ : Mu) : fIn neg (.d (.str (SS w))) (.d (.tup [.str "is", .str "more"])) μ = .ok (.d (.bl (if neg = true then !isw w else isw w))) μ := by
  have e : inD (.str (SS w)) [.str "is", .str "more"] = isw w := by
    show (((SS WIS) == (SS w)) || (((SS WMORE) == (SS w)) || false)) = _
    rw [SX.S_beq_eq, SX.S_beq_eq, Bool.or_false]
    unfold isw
    rw [decide_eq_decide.mpr (eq_comm (a := WIS)), decide_eq_decide.mpr (eq_comm (a := WMORE))]
  have e2 : inU μ (.d (.str (SS w))) (.d (.tup [.str "is", .str "more"])) = some (inD (.str (SS w)) [.str "is", .str "more"]) := rfl
  show (match inU μ (.d (.str (SS w))) (.d (.tup [.str "is", .str "more"])) with | some b => Res.ok (U.d (D.bl (if neg = true then !b else b))) μ | none => .bad) = _
  rw [e2, e]
theorem vm1 {c k n : Nat} {res : ResL} {nm : Str} {mo : Sm U} {m : Sm (List U)} {ρ : Rho} {μ μ0 μ1 : Mu} {ns : List Str} {us vs : List U} (h0 : mo ρ μ = .ok (.p k) μ0) (h1 : μ0[k]? = some (.ins c ns us)) (h2 : ns.contains nm = false)
    (h3 : m ρ μ0 = .ok vs μ1) (h4 : vs.length = n) : vMeth [(c, res)] nm n 0 mo m aNil ρ μ = res (.p k :: vs) [] μ1 := by
  unfold vMeth
  rw [h0, ev_bind]
  have e : insU μ0 (.p k) = some (c, ns, us) := by
    unfold insU
    dsimp only
    rw [h1]
  rw [e]
  dsimp only
  rw [if_neg (by rw [h2]; exact Bool.false_ne_true), List.lookup_cons, beq_self_eq_true]
  dsimp only
  rw [h3, ev_bind]
  show (if vs.length = n ∧ ([] : List U).length = 0 then res (.p k :: vs) [] μ1 else .bad) = _
  rw [if_pos ⟨h4, rfl⟩]
theorem mk1 {c : Nat} {fn : Fn} {ix : List Nat} {ds : List D} {us ws : List U} {μ : Mu} {ds' : List D} {ns : List Str} {vs : List D} (h : fn (.p 0 :: ds'.map .d) [.ins c [] []] = .ok (.d .non) [.ins c ns vs] none)
    (hix : ixL ix ((.p μ.length :: us) ++ ws ++ ds.map .d) = .p μ.length :: ds'.map .d) : resMk c fn ix ds [true] us ws μ = .ok (.p μ.length) (μ ++ [.ins c ns (vs.map .d)]) := by
  have hk : (μ ++ [Ob.ins c [] []])[μ.length]? = some (OD.ins c [] []).ob := by simp; rfl
  have e := call_p (o' := OD.ins c ns vs) hk rfl h
  unfold resMk
  rw [hix, e, ev_bind]
  show Res.ok (U.p μ.length) ((μ ++ [Ob.ins c [] []]).set μ.length (Ob.ins c ns (vs.map .d))) = _
  rw [List.set_append_right _ _ (Nat.le_refl _), Nat.sub_self]
  rfl
theorem mk_err {c : Nat} {fn : Fn} {ix : List Nat} {ds : List D} {us ws : List U} {μ : Mu} {ds' : List D} {c2 : Nat} {ns : List Str} {vs : List D} {o' : OD} (h : fn (.p 0 :: ds'.map .d) [.ins c [] []] = .err c2 ns vs [o'])
    (hix : ixL ix ((.p μ.length :: us) ++ ws ++ ds.map .d) = .p μ.length :: ds'.map .d) : resMk c fn ix ds [true] us ws μ = .err c2 ns vs (μ ++ [o'.ob]) := by
  have hk : (μ ++ [Ob.ins c [] []])[μ.length]? = some (OD.ins c [] []).ob := by simp; rfl
  have e := call_pe (o' := o') hk rfl h
  unfold resMk
  rw [hix, e, ev_berr]
  rw [List.set_append_right _ _ (Nat.le_refl _), Nat.sub_self]
  rfl
/-! ### questions made -/
def qob (w : Str) (i : Int) (l : D) : OD := .ins 4 ["word", "number", "letter"] [.str w, .int i, l]
theorem isi_str (x : Str) (μ : Mu) : fIsi (tabB "str" [3, 4] [0, 1, 2]) (.d (.str x)) μ = .ok (.d (.bl true)) μ := rfl
theorem isi_ls (x : List D) (μ : Mu) : fIsi (tabB "list" [3, 4] [0, 1, 2]) (.d (.lst x)) μ = .ok (.d (.bl true)) μ := rfl
theorem isi_li (x : Int) (μ : Mu) : fIsi (tabB "list" [3, 4] [0, 1, 2]) (.d (.int x)) μ = .ok (.d (.bl false)) μ := rfl
theorem tup2 (a b : D) (μ : Mu) : oTup [.d a, .d b] μ = .ok (.d (.tup [a, b])) μ := rfl
theorem tup1 (a : D) (μ : Mu) : oTup [.d a] μ = .ok (.d (.tup [a])) μ := rfl
theorem tup3 (a b c : D) (μ : Mu) : oTup [.d a, .d b, .d c] μ = .ok (.d (.tup [a, b, c])) μ := rfl
theorem lst1 (a : D) (μ : Mu) : oLst [.d a] μ = .ok (.d (.lst [a])) μ := rfl
theorem lst0 (μ : Mu) : oLst [] μ = .ok (.d (.lst [])) μ := rfl
abbrev q1 (R : Rn) : SmS := sIf (tOr' (tNot' (tOf (v1 (fIsi (tabB "str" [3, 4] [0, 1, 2])) (vVar 1)))) (tOf (v2 (fIn true) (vVar 1) (vN oTup (aCons (vC (.str "is")) (aCons (vC (.str "more")) aNil)))))) (sRaise 1 1 ["value"] [0] (aCons (vVar 1) aNil)) sNil
abbrev q2 (R : Rn) : SmS := sIf (tNot' (tOf (vCall (R.f 1) 3 0 [0, 1, 2] [] [] (aCons (vVar 2) (aCons (vC (.int 0)) (aCons (vC (.int 99999)) aNil))) aNil))) (sRaise 1 1 ["value"] [0] (aCons (vVar 2) aNil)) sNil
abbrev q3 (R : Rn) : SmS := sIf (tNot' (tIfT (tOf (v2 fEq (vVar 1) (vC (.str "is")))) (tOf (vCall (R.f 3) 1 0 [0] [] [] (aCons (vVar 3) aNil) aNil)) (tOf (v2 fIs (vVar 3) (vC .non))))) (sRaise 1 1 ["value"] [0] (aCons (vVar 3) aNil)) sNil
abbrev q4 : SmS := sSeq (sFldM "word" [4] (vVar 0) (vVar 1)) (sSeq (sFldM "number" [4] (vVar 0) (vVar 2)) (sFldM "letter" [4] (vVar 0) (vVar 3)))
theorem q_all (w i l : D) : q4 [some (.p 0), some (.d w), some (.d i), some (.d l)] [.ins 4 [] []] = .nx [some (.p 0), some (.d w), some (.d i), some (.d l)] [.ins 4 ["word", "number", "letter"] [.d w, .d i, .d l]] := by kernel_rfl
theorem q_fin {R : Rn} {w : Str} {i : Int} {l : D} (h1 : q1 R [some (.p 0), some (.d (.str w)), some (.d (.int i)), some (.d l)] [.ins 4 [] []] = .nx [some (.p 0), some (.d (.str w)), some (.d (.int i)), some (.d l)] [.ins 4 [] []])
    (h2 : q2 R [some (.p 0), some (.d (.str w)), some (.d (.int i)), some (.d l)] [.ins 4 [] []] = .nx [some (.p 0), some (.d (.str w)), some (.d (.int i)), some (.d l)] [.ins 4 [] []])
    (h3 : q3 R [some (.p 0), some (.d (.str w)), some (.d (.int i)), some (.d l)] [.ins 4 [] []] = .nx [some (.p 0), some (.d (.str w)), some (.d (.int i)), some (.d l)] [.ins 4 [] []]) :
    exitF 1 false (b_12 R [some (.p 0), some (.d (.str w)), some (.d (.int i)), some (.d l)] [.ins 4 [] []]) = .ok (.d .non) [qob w i l] none := by
  have e : b_12 R [some (.p 0), some (.d (.str w)), some (.d (.int i)), some (.d l)] [.ins 4 [] []] = .nx [some (.p 0), some (.d (.str w)), some (.d (.int i)), some (.d l)] [.ins 4 ["word", "number", "letter"] [.d (.str w), .d (.int i), .d l]] := by
    show sSeq (q1 R) (sSeq (q2 R) (sSeq (q3 R) q4)) _ _ = _
    rw [seq_nx h1, seq_nx h2, seq_nx h3, q_all]
  rw [e]
  exact ex_nx (os := [qob w i l]) (ex := [])
theorem q2_ok (n : Nat) (ρ : Rho) (μ : Mu) (i : Int) (h1 : 0 ≤ i) (h2 : i ≤ 99999) (h : ρ[2]? = some (some (.d (.int i)))) : q2 (run (n + 2)) ρ μ = .nx ρ μ := by
  have e : ∀ μ, callL ((run (n + 2)).f 1) [] [.d (.int i), .d (.int 0), .d (.int 99999)] μ = .ok (.d (.bl true)) μ := fun μ => call_d (ds := [.int i, .int 0, .int 99999]) (is_within n i h1 h2)
  simp [q2, sSeq, sSet, sIf, sRet, sRetN, sSetIx, sExpr, sNil, sAsg, sAsgs, sPar, tOf, tAnd', tOr', tNot', tYes', tIfT, v2, v1, vN, vVar, vC, vAnd, vOr, vNot, vIf, aCons, aNil, fGt, fGe, fLt, fLe, fI, fIC, fSub, fMul, fDiv, fMod, fPow, fNeg, cMul, cDiv, cMod, cPow, fAbs, ev_bind, ev_berr, ev_then, ev_terr, List.getElem?_cons_zero, List.getElem?_cons_succ, List.set_cons_zero, List.set_cons_succ, fAdd, fInt, vCall, ixL, h, e]
theorem q_more (n : Nat) (i : Int) (h1 : 0 ≤ i) (h2 : i ≤ 99999) : (run (n + 3)).f 12 [.p 0, .d (.str "more"), .d (.int i), .d .non] [.ins 4 [] []] = .ok (.d .non) [qob "more" i .non] none :=
  q_fin (R := run (n + 2)) (by kernel_rfl) (q2_ok n _ _ i h1 h2 rfl) (by kernel_rfl)
theorem az1 {c : Nat} (h : 97 ≤ c ∧ c ≤ 122) : inY AZ [c] = true := by
  unfold inY
  rw [List.all_cons, decide_eq_true ((mem_az c).mpr h)]
  rfl
theorem q3_is (n : Nat) (ρ : Rho) (μ : Mu) (l : D) (b : Bool) (h0 : ρ[1]? = some (some (.d (.str "is")))) (h : ρ[3]? = some (some (.d l))) (hl : (run (n + 2)).f 3 [.d l] [] = .ok (.d (.bl b)) [] none) (hb : b = true) : q3 (run (n + 2)) ρ μ = .nx ρ μ := by
  have e : ∀ μ, callL ((run (n + 2)).f 3) [] [.d l] μ = .ok (.d (.bl b)) μ := fun μ => call_d (ds := [l]) hl
  have e2 : ∀ μ, fEq (.d (.str "is")) (.d (.str "is")) μ = .ok (.d (.bl true)) μ := fun μ => by kernel_rfl
  subst hb
  simp [q3, sSeq, sSet, sIf, sRet, sRetN, sSetIx, sExpr, sNil, sAsg, sAsgs, sPar, tOf, tAnd', tOr', tNot', tYes', tIfT, v2, v1, vN, vVar, vC, vAnd, vOr, vNot, vIf, aCons, aNil, fGt, fGe, fLt, fLe, fI, fIC, fSub, fMul, fDiv, fMod, fPow, fNeg, cMul, cDiv, cMod, cPow, fAbs, ev_bind, ev_berr, ev_then, ev_terr, List.getElem?_cons_zero, List.getElem?_cons_succ, List.set_cons_zero, List.set_cons_succ, fAdd, fInt, vCall, ixL, h, h0, e, e2]
theorem q_is (n : Nat) (i : Int) (c : Nat) (h1 : 0 ≤ i) (h2 : i ≤ 99999) (hc : 97 ≤ c ∧ c ≤ 122) : (run (n + 3)).f 12 [.p 0, .d (.str "is"), .d (.int i), .d (sg c)] [.ins 4 [] []] = .ok (.d .non) [qob "is" i (sg c)] none :=
  q_fin (R := run (n + 2)) (by kernel_rfl) (q2_ok n _ _ i h1 h2 rfl) (q3_is n _ _ (sg c) _ rfl rfl (is_letter n [c] (by simp)) (by rw [az1 hc]; rfl))
/-! ### the scan's steps -/
theorem scan_init (n : Nat) (cs : List Nat) (hcs : cs.length < 98000) : (run (n + 1)).f 5 [.p 0, .d (.str (SS cs)), .d (.int 0)] [.ins 3 [] []] = .ok (.d .non) [scn (TL.spl [32] 0 [] cs) 0] none := by
  have hsp : ∀ μ, fSplit (.d (.str (SS cs))) [.d (.str " ")] μ = .ok (.d (.lst (tt (TL.spl [32] 0 [] cs)))) μ := fun μ => by
    have h1 : ((" " : Str).length == 0) = false ∧ (SS cs).length ≤ 99000 := ⟨rfl, by show cs.toArray.size ≤ 99000; rw [List.size_toArray]; omega⟩
    have h2 : Txt.split (SS cs) " " = (TL.spl [32] 0 [] cs).map SS := SX.split_S (a := cs) (b := [32]) (by decide) (by decide)
    have h3 : ((Txt.split (SS cs) " ").map fun x => U.d (.str x)) = (tt (TL.spl [32] 0 [] cs)).map U.d := by rw [h2]; simp [tt]
    show (if ((" " : Str).length == 0) = false ∧ (SS cs).length ≤ 99000 then oLst ((Txt.split (SS cs) " ").map fun x => U.d (.str x)) μ else .bad) = _
    rw [if_pos h1, h3]
    have hl : ∀ (cs acc : List Nat), (TL.spl [32] 0 acc cs).length ≤ cs.length + 1 := by
      intro cs
      induction cs with
      | nil => intro acc; exact Nat.le_refl _
      | cons c r ih =>
        intro acc
        by_cases hp : TL.pre [32] (c :: r) = true
        · rw [TL.spl_hit hp]
          have := ih []
          show (acc :: TL.spl [32] 0 [] r).length ≤ _
          rw [List.length_cons, List.length_cons]
          omega
        · rw [TL.spl_miss (by simpa using hp)]
          have := ih (acc ++ [c])
          rw [List.length_cons]
          omega
    have := hl cs []
    unfold oLst
    rw [frzL_d]
    dsimp only
    rw [if_pos (by rw [List.length_map]; omega)]
  generalize TL.spl [32] 0 [] cs = W at *
  have s2 : sFldM "tokens" [3] (vVar 0) (vM "str" fSplit (vVar 1) (aCons (vC (.str " ")) aNil)) [some (.p 0), some (.d (.str (SS cs))), some (.d (.int 0))] [.ins 3 [] []] = .nx [some (.p 0), some (.d (.str (SS cs))), some (.d (.int 0))] [.ins 3 ["tokens"] [.d (.lst (tt W))]] := by
    have e : vM "str" fSplit (vVar 1) (aCons (vC (.str " ")) aNil) [some (.p 0), some (.d (.str (SS cs))), some (.d (.int 0))] [.ins 3 [] []] = .ok (.d (.lst (tt W))) [.ins 3 [] []] := hsp _
    unfold sFldM
    rw [e]
    kernel_rfl
  have s3 : (sSeq (sFldM "line" [3] (vVar 0) (vVar 2)) (sFldM "at" [3] (vVar 0) (vC (.int 0)))) [some (.p 0), some (.d (.str (SS cs))), some (.d (.int 0))] [.ins 3 ["tokens"] [.d (.lst (tt W))]] = .nx [some (.p 0), some (.d (.str (SS cs))), some (.d (.int 0))] (obs [scn W 0] ++ []) := by kernel_rfl
  show exitF [OD.ins 3 [] []].length false (b_5 (run n) [some (.p 0), some (.d (.str (SS cs))), some (.d (.int 0))] [.ins 3 [] []]) = _
  have e : b_5 (run n) [some (.p 0), some (.d (.str (SS cs))), some (.d (.int 0))] [.ins 3 [] []] = .nx [some (.p 0), some (.d (.str (SS cs))), some (.d (.int 0))] (obs [scn W 0] ++ []) := by
    unfold b_5
    rw [seq_nx (ρ1 := [some (.p 0), some (.d (.str (SS cs))), some (.d (.int 0))]) (μ1 := [.ins 3 [] []]) (by rfl), seq_nx s2]
    exact s3
  rw [e]
  exact ex_nx (os := [scn W 0])
theorem m_word (n : Nat) (W : List (List Nat)) (a : Nat) (ρ : Rho) (mo : Sm U) (h : mo ρ (obs [scn W a]) = .ok (.p 0) (obs [scn W a])) : vMeth [(3, (resF ((run (n + 1)).f 6) [0] [] [true]))] "word" 0 0 mo aNil aNil ρ (obs [scn W a]) = .ok (.d (.str (SS (wat W a)))) (obs [scn W a]) := by
  refine (vm1 (n := 0) (k := 0) (μ1 := obs [scn W a]) h rfl (by rfl) rfl rfl).trans ?_
  exact meth_ok (fl := []) (f := (run (n + 1)).f 6) (ds := []) (o := scn W a) rfl (word_ok n W a)
theorem m_take_ok (n : Nat) (W : List (List Nat)) (a : Nat) (ρ : Rho) (mo mb : Sm U) (h : mo ρ (obs [scn W a]) = .ok (.p 0) (obs [scn W a])) (hb : mb ρ (obs [scn W a]) = .ok (.d (.bl true)) (obs [scn W a])) (hl : a < W.length) :
    vMeth [(3, (resF ((run (n + 2)).f 8) [0, 1] [D.bl true] [true]))] "take" 1 0 mo (aCons mb aNil) aNil ρ (obs [scn W a]) = .ok (.d (.str (SS (wat W a)))) (obs [scn W (a + 1)]) := by
  have h3 : aCons mb aNil ρ (obs [scn W a]) = .ok [.d (.bl true)] (obs [scn W a]) := by
    unfold aCons
    rw [hb]
    rfl
  refine (vm1 (n := 1) (k := 0) (μ1 := obs [scn W a]) h rfl (by rfl) h3 rfl).trans ?_
  exact meth_ok (f := (run (n + 2)).f 8) (fl := [true]) (ds := [.bl true]) (o := scn W a) (o' := scn W (a + 1)) rfl (take_ok n W a hl)
theorem m_take_no (n : Nat) (W : List (List Nat)) (a : Nat) (b : Bool) (ρ : Rho) (mo mb : Sm U) (h : mo ρ (obs [scn W a]) = .ok (.p 0) (obs [scn W a])) (hb : mb ρ (obs [scn W a]) = .ok (.d (.bl b)) (obs [scn W a])) (hl : b = false ∨ W.length ≤ a) (hl2 : a ≤ W.length) :
    vMeth [(3, (resF ((run (n + 2)).f 8) [0, 1] [D.bl true] [true]))] "take" 1 0 mo (aCons mb aNil) aNil ρ (obs [scn W a]) = .err 2 ["word", "line"] [.int a, .int 0] (obs [scn W a]) := by
  have h3 : aCons mb aNil ρ (obs [scn W a]) = .ok [.d (.bl b)] (obs [scn W a]) := by
    unfold aCons
    rw [hb]
    rfl
  refine (vm1 (n := 1) (k := 0) (μ1 := obs [scn W a]) h rfl (by rfl) h3 rfl).trans ?_
  exact call_pe (f := (run (n + 2)).f 8) (ds := [.bl b]) (k := 0) (o := scn W a) (o' := scn W a) rfl rfl (take_no n W a b hl hl2)
theorem just_arg (n : Nat) (W : List (List Nat)) (a : Nat) : v2 (fIn false) (vMeth [(3, (resF ((run (n + 1)).f 6) [0] [] [true]))] "word" 0 0 (vVar 0) aNil aNil) (vVar 1) [some (.p 0), some (.d (.tup [.str "is", .str "more"]))] (obs [scn W a]) = .ok (.d (.bl (isw (wat W a)))) (obs [scn W a]) := by
  unfold v2
  rw [m_word n W a _ _ rfl, ev_bind]
  show fIn false (.d (.str (SS (wat W a)))) (.d (.tup [.str "is", .str "more"])) (obs [scn W a]) = _
  rw [in_words]
  rfl
theorem just_ok (n : Nat) (W : List (List Nat)) (a : Nat) (h : a < W.length) (hw : isw (wat W a) = true) : (run (n + 3)).f 9 [.p 0, .d (.tup [.str "is", .str "more"])] [scn W a] = .ok (.d (.str (SS (wat W a)))) [scn W (a + 1)] none := by
  have ha := just_arg (n + 1) W a
  rw [hw] at ha
  show exitF [scn W a].length false (((vMeth _ "take" 1 0 (vVar 0) (aCons _ aNil) aNil [some (.p 0), some (.d (.tup [.str "is", .str "more"]))] (obs [scn W a])).thenS _ _)) = _
  rw [m_take_ok n W a _ _ _ rfl ha h]
  exact ex_ret (os := [scn W (a + 1)]) (ex := [])
theorem just_no (n : Nat) (W : List (List Nat)) (a : Nat) (h : isw (wat W a) = false ∨ W.length ≤ a) (h2 : a ≤ W.length) : (run (n + 3)).f 9 [.p 0, .d (.tup [.str "is", .str "more"])] [scn W a] = .err 2 ["word", "line"] [.int a, .int 0] [scn W a] := by
  have ha := just_arg (n + 1) W a
  show exitF [scn W a].length false (((vMeth _ "take" 1 0 (vVar 0) (aCons _ aNil) aNil [some (.p 0), some (.d (.tup [.str "is", .str "more"]))] (obs [scn W a])).thenS _ _)) = _
  rw [m_take_no n W a _ _ _ _ rfl ha h h2]
  exact ex_err (os := [scn W a]) (ex := [])
theorem num_arg (n : Nat) (W : List (List Nat)) (hW : ∀ w ∈ W, w.length ≤ 98000) (a : Nat) (ρ : Rho) (h0 : ρ[0]? = some (some (.p 0))) (h1 : ρ[1]? = some (some (.d (.int 0)))) (h2 : ρ[2]? = some (some (.d (.int 99999)))) :
    vCall ((run (n + 1)).f 4) 3 0 [0, 1, 2] [] [] (aCons (vMeth [(3, (resF ((run (n + 1)).f 6) [0] [] [true]))] "word" 0 0 (vVar 0) aNil aNil) (aCons (vVar 1) (aCons (vVar 2) aNil))) aNil ρ (obs [scn W a]) = .ok (.d (.bl (numB (wat W a)))) (obs [scn W a]) := by
  have hv : ∀ {i : Nat} {u : U} {μ : Mu}, ρ[i]? = some (some u) → vVar i ρ μ = .ok u μ := fun {i u μ} h => by unfold vVar; rw [h]
  have hm : (aCons (vMeth [(3, (resF ((run (n + 1)).f 6) [0] [] [true]))] "word" 0 0 (vVar 0) aNil aNil) (aCons (vVar 1) (aCons (vVar 2) aNil))) ρ (obs [scn W a]) = .ok [.d (.str (SS (wat W a))), .d (.int 0), .d (.int 99999)] (obs [scn W a]) := by
    unfold aCons
    rw [m_word n W a _ _ (hv h0), ev_bind, hv h1, ev_bind, hv h2]
    rfl
  have hw : (wat W a).length ≤ 98000 := by
    unfold wat
    cases e : W[a]? with
    | none => exact Nat.zero_le _
    | some w => exact hW w (List.mem_of_getElem? e)
  unfold vCall
  rw [hm, ev_bind]
  exact call_d (f := (run (n + 1)).f 4) (fl := []) (ds := [.str (SS (wat W a)), .int 0, .int 99999]) (is_number n (wat W a) hw)
theorem tnum_ok (n : Nat) (W : List (List Nat)) (hW : ∀ w ∈ W, w.length ≤ 98000) (a : Nat) (h : a < W.length) (hw : numB (wat W a) = true) : (run (n + 3)).f 10 [.p 0, .d (.int 0), .d (.int 99999)] [scn W a] = .ok (.d (.int (dv (wat W a)))) [scn W (a + 1)] none := by
  have ha := num_arg (n + 1) W hW a [some (.p 0), some (.d (.int 0)), some (.d (.int 99999))] rfl rfl rfl
  rw [hw] at ha
  show exitF [scn W a].length false ((((vMeth _ "take" 1 0 (vVar 0) (aCons _ aNil) aNil [some (.p 0), some (.d (.int 0)), some (.d (.int 99999))] (obs [scn W a])).bind fInt).thenS _ _)) = _
  rw [m_take_ok n W a _ _ _ rfl ha h, ev_bind, int_ss hw]
  exact ex_ret (os := [scn W (a + 1)]) (ex := [])
theorem tnum_no (n : Nat) (W : List (List Nat)) (hW : ∀ w ∈ W, w.length ≤ 98000) (a : Nat) (h : numB (wat W a) = false ∨ W.length ≤ a) (h2 : a ≤ W.length) : (run (n + 3)).f 10 [.p 0, .d (.int 0), .d (.int 99999)] [scn W a] = .err 2 ["word", "line"] [.int a, .int 0] [scn W a] := by
  have ha := num_arg (n + 1) W hW a [some (.p 0), some (.d (.int 0)), some (.d (.int 99999))] rfl rfl rfl
  show exitF [scn W a].length false ((((vMeth _ "take" 1 0 (vVar 0) (aCons _ aNil) aNil [some (.p 0), some (.d (.int 0)), some (.d (.int 99999))] (obs [scn W a])).bind fInt).thenS _ _)) = _
  rw [m_take_no n W a _ _ _ _ rfl ha h h2, ev_berr]
  exact ex_err (os := [scn W a]) (ex := [])
theorem fin_ok (n : Nat) (W : List (List Nat)) (a : Nat) (h : W.length ≤ a) : (run (n + 2)).f 11 [.p 0] [scn W a] = .ok (.d .non) [scn W a] none := by
  have h1 := f_at W a
  have h2 := f_tok W a
  have h3 := len_tt W
  have e : b_11 (run (n + 1)) [some (.p 0)] (obs [scn W a]) = .nx [some (.p 0)] (obs [scn W a] ++ []) := by
    rw [List.append_nil]
    generalize obs [scn W a] = μ at *
    simp [b_11, sSeq, sSet, sIf, sRet, sRetN, sSetIx, sExpr, sNil, sAsg, sAsgs, sPar, tOf, tAnd', tOr', tNot', tYes', tIfT, v2, v1, vN, vVar, vC, vAnd, vOr, vNot, vIf, aCons, aNil, fGt, fGe, fLt, fLe, fI, fIC, fSub, fMul, fDiv, fMod, fPow, fNeg, cMul, cDiv, cMod, cPow, fAbs, ev_bind, ev_berr, ev_then, ev_terr, List.getElem?_cons_zero, List.getElem?_cons_succ, List.set_cons_zero, List.set_cons_succ, fAdd, fInt, h1, h2, h3, show ¬ a < W.length by omega]
  show exitF [scn W a].length false (b_11 (run (n + 1)) [some (.p 0)] (obs [scn W a])) = _
  rw [e]
  exact ex_nx (os := [scn W a])
theorem fin_no (n : Nat) (W : List (List Nat)) (a : Nat) (h : a < W.length) : (run (n + 2)).f 11 [.p 0] [scn W a] = .err 2 ["word", "line"] [.int a, .int 0] [scn W a] := by
  have h1 := f_at W a
  have h2 := f_tok W a
  have h3 := len_tt W
  have h4 : vMeth [(3, (resF ((run (n + 1)).f 7) [0] [] [true]))] "refuse" 0 0 (vVar 0) aNil aNil [some (.p 0)] (obs [scn W a]) = .err 2 ["word", "line"] [.int a, .int 0] (obs [scn W a]) :=
    call_pe (f := (run (n + 1)).f 7) (ds := []) (k := 0) (o := scn W a) (o' := scn W a) (μ := obs [scn W a]) rfl rfl (refuse_ok n W a)
  have e : b_11 (run (n + 1)) [some (.p 0)] (obs [scn W a]) = .err 2 ["word", "line"] [.int a, .int 0] [some (.p 0)] (obs [scn W a] ++ []) := by
    rw [List.append_nil]
    unfold b_11
    generalize obs [scn W a] = μ at *
    generalize vMeth [(3, (resF ((run (n + 1)).f 7) [0] [] [true]))] "refuse" 0 0 (vVar 0) aNil aNil = M at *
    simp [sSeq, sSet, sIf, sRet, sRetN, sSetIx, sExpr, sNil, sAsg, sAsgs, sPar, tOf, tAnd', tOr', tNot', tYes', tIfT, v2, v1, vN, vVar, vC, vAnd, vOr, vNot, vIf, aCons, aNil, fGt, fGe, fLt, fLe, fI, fIC, fSub, fMul, fDiv, fMod, fPow, fNeg, cMul, cDiv, cMod, cPow, fAbs, ev_bind, ev_berr, ev_then, ev_terr, List.getElem?_cons_zero, List.getElem?_cons_succ, List.set_cons_zero, List.set_cons_succ, fAdd, fInt, h1, h2, h3, h4, h]
  show exitF [scn W a].length false (b_11 (run (n + 1)) [some (.p 0)] (obs [scn W a])) = _
  rw [e]
  exact ex_err (os := [scn W a])
end K36
set_option Elab.async false
set_option linter.all false
set_option maxRecDepth 100000
set_option maxHeartbeats 2000000
set_option autoImplicit false
namespace K36
open PySem PySem.Spec PyProof.Rows L2 Iv
theorem par_ok {i j : Nat} {ma mb : Sm U} {ρ : Rho} {μ μ1 μ2 : Mu} {u w : U} (h1 : ma ρ μ = .ok u μ1) (h2 : mb ρ μ1 = .ok w μ2) : sPar i j (aCons ma (aCons mb aNil)) ρ μ = .nx ((ρ.set i (some u)).set j (some w)) μ2 := by
  unfold sPar aCons
  rw [h1, ev_bind]
  show ((((mb ρ μ1).bind _).bind _).thenS _ _) = _
  rw [h2]
  rfl
theorem par_e1 {i j : Nat} {ma mb : Sm U} {ρ : Rho} {μ μ1 : Mu} {c : Nat} {ns : List Str} {vs : List D} (h1 : ma ρ μ = .err c ns vs μ1) : sPar i j (aCons ma (aCons mb aNil)) ρ μ = .err c ns vs ρ μ1 := by
  unfold sPar aCons
  rw [h1]
  rfl
theorem par_e2 {i j : Nat} {ma mb : Sm U} {ρ : Rho} {μ μ1 μ2 : Mu} {u : U} {c : Nat} {ns : List Str} {vs : List D} (h1 : ma ρ μ = .ok u μ1) (h2 : mb ρ μ1 = .err c ns vs μ2) : sPar i j (aCons ma (aCons mb aNil)) ρ μ = .err c ns vs ρ μ2 := by
  unfold sPar aCons
  rw [h1, ev_bind]
  show ((((mb ρ μ1).bind _).bind _).thenS _ _) = _
  rw [h2]
  rfl
/-! ### from_text -/
abbrev letB (w : List Nat) : Bool := inY AZ w && decide (w.length = 1)
/-- what is read off the words: an error's place, or word, number, letter -/
def rdW : List (List Nat) → Sum Int (Str × Int × D)
  | w0 :: rest => if isw w0 = true then (match rest with
    | w1 :: r2 => if numB w1 = true then (if w0 = WMORE then (match r2 with
        | [] => .inr ("more", dv w1, .non)
        | _ :: _ => .inl 2) else (match r2 with
        | [w2] => if letB w2 = true then .inr ("is", dv w1, .str (SS w2)) else .inl 2
        | w2 :: _ :: _ => if letB w2 = true then .inl 3 else .inl 2
        | [] => .inl 2)) else .inl 1
    | [] => .inl 1) else .inl 0
  | [] => .inl 0
abbrev r13 (cs : List Nat) (a b c d : Option U) : Rho := [some (.d (.cls 4)), some (.d (.str (SS cs))), a, b, c, d]
abbrev T1 (R : Rn) : SmS := sSet 2 (vRun (resMk 3 (R.f 5) [0, 1, 2] [D.int (0)] [true]) 1 0 (aCons (vVar 1) aNil) aNil)
abbrev T2 (R : Rn) : SmS := sPar 3 4 (aCons (vMeth [(3, (resStar (R.f 9) 1 [true]))] "take_just" 2 0 (vVar 2) (aCons (vC (.str "is")) (aCons (vC (.str "more")) aNil)) aNil) (aCons (vMeth [(3, (resF (R.f 10) [0, 1, 2] [] [true]))] "take_number" 2 0 (vVar 2) (aCons (vC (.int 0)) (aCons (vC (.int 99999)) aNil)) aNil) aNil))
abbrev T3 (R : Rn) : SmS := sSet 5 (vIf (tOf (v2 fEq (vVar 3) (vC (.str "is")))) (vMeth [(3, (resF (R.f 8) [0, 1] [D.bl true] [true]))] "take" 1 0 (vVar 2) (aCons (vCall (R.f 3) 1 0 [0] [] [] (aCons (vMeth [(3, (resF (R.f 6) [0] [] [true]))] "word" 0 0 (vVar 2) aNil aNil) aNil) aNil) aNil) aNil) (vC .non))
abbrev T4 (R : Rn) : SmS := sExpr (vMeth [(3, (resF (R.f 11) [0] [] [true]))] "finish" 0 0 (vVar 2) aNil aNil)
abbrev T5 (R : Rn) : SmS := sRet (vRun (resMk 4 (R.f 12) [0, 1, 2, 3] [D.non] [true]) 3 0 (aCons (vVar 3) (aCons (vVar 4) (aCons (vVar 5) aNil))) aNil)
theorem b13_eq (R : Rn) : b_13 R = sSeq (T1 R) (sSeq (T2 R) (sSeq (T3 R) (sSeq (T4 R) (T5 R)))) := rfl
theorem t1_ok (n : Nat) (cs : List Nat) (hcs : cs.length < 98000) : T1 (run (n + 3)) (r13 cs none none none none) [] = .nx (r13 cs (some (.p 0)) none none none) (obs [scn (TL.spl [32] 0 [] cs) 0]) := by
  have h := mk1 (c := 3) (fn := (run (n + 3)).f 5) (ix := [0, 1, 2]) (ds := [D.int 0]) (us := [.d (.str (SS cs))]) (ws := []) (μ := []) (ds' := [.str (SS cs), .int 0]) (ns := ["tokens", "line", "at"]) (vs := [.lst (tt (TL.spl [32] 0 [] cs)), .int 0, .int 0]) (scan_init (n + 2) cs hcs) rfl
  show ((resMk 3 ((run (n + 3)).f 5) [0, 1, 2] [D.int 0] [true] [.d (.str (SS cs))] [] []).thenS _ _) = _
  rw [h]
  rfl
theorem just_m (n : Nat) (cs : List Nat) (W : List (List Nat)) : vMeth [(3, (resStar ((run (n + 3)).f 9) 1 [true]))] "take_just" 2 0 (vVar 2) (aCons (vC (.str "is")) (aCons (vC (.str "more")) aNil)) aNil (r13 cs (some (.p 0)) none none none) (obs [scn W 0]) =
    callL ((run (n + 3)).f 9) [true] (.p 0 :: [.tup [.str "is", .str "more"]].map .d) (obs [scn W 0]) :=
  (vm1 (n := 2) (k := 0) (μ1 := obs [scn W 0]) rfl rfl (by rfl) rfl rfl).trans rfl
theorem num_m (n : Nat) (ρ : Rho) (h : ρ[2]? = some (some (.p 0))) (W : List (List Nat)) (a : Nat) : vMeth [(3, (resF ((run (n + 3)).f 10) [0, 1, 2] [] [true]))] "take_number" 2 0 (vVar 2) (aCons (vC (.int 0)) (aCons (vC (.int 99999)) aNil)) aNil ρ (obs [scn W a]) =
    callL ((run (n + 3)).f 10) [true] (.p 0 :: [.int 0, .int 99999].map .d) (obs [scn W a]) :=
  (vm1 (n := 2) (k := 0) (μ1 := obs [scn W a]) (by unfold vVar; rw [h]) rfl (by rfl) rfl rfl).trans rfl
theorem t2_no0 (n : Nat) (cs : List Nat) (W : List (List Nat)) (h : isw (wat W 0) = false) : T2 (run (n + 3)) (r13 cs (some (.p 0)) none none none) (obs [scn W 0]) = .err 2 ["word", "line"] [.int 0, .int 0] (r13 cs (some (.p 0)) none none none) (obs [scn W 0]) := by
  have e := just_m n cs W
  rw [call_pe (k := 0) (o := scn W 0) (o' := scn W 0) rfl rfl (just_no n W 0 (.inl h) (Nat.zero_le _))] at e
  exact par_e1 e
theorem t2_no1 (n : Nat) (cs : List Nat) (W : List (List Nat)) (hW : ∀ w ∈ W, w.length ≤ 98000) (h0 : 0 < W.length) (h : isw (wat W 0) = true) (h1 : numB (wat W 1) = false) : T2 (run (n + 3)) (r13 cs (some (.p 0)) none none none) (obs [scn W 0]) = .err 2 ["word", "line"] [.int 1, .int 0] (r13 cs (some (.p 0)) none none none) (obs [scn W 1]) := by
  have e := just_m n cs W
  rw [call_p (k := 0) (o := scn W 0) (o' := scn W 1) rfl rfl (just_ok n W 0 h0 h)] at e
  have e2 := num_m n (r13 cs (some (.p 0)) none none none) rfl W 1
  rw [call_pe (k := 0) (o := scn W 1) (o' := scn W 1) rfl rfl (tnum_no n W hW 1 (.inl h1) h0)] at e2
  exact par_e2 e e2
theorem t2_ok (n : Nat) (cs : List Nat) (W : List (List Nat)) (hW : ∀ w ∈ W, w.length ≤ 98000) (h0 : 1 < W.length) (h : isw (wat W 0) = true) (h1 : numB (wat W 1) = true) : T2 (run (n + 3)) (r13 cs (some (.p 0)) none none none) (obs [scn W 0]) = .nx (r13 cs (some (.p 0)) (some (.d (.str (SS (wat W 0))))) (some (.d (.int (dv (wat W 1))))) none) (obs [scn W 2]) := by
  have e := just_m n cs W
  rw [call_p (k := 0) (o := scn W 0) (o' := scn W 1) rfl rfl (just_ok n W 0 (by omega) h)] at e
  have e2 := num_m n (r13 cs (some (.p 0)) none none none) rfl W 1
  rw [call_p (k := 0) (o := scn W 1) (o' := scn W 2) rfl rfl (tnum_ok n W hW 1 h0 h1)] at e2
  exact par_ok e e2
theorem t3_more (n : Nat) (cs : List Nat) (i : Int) (W : List (List Nat)) : T3 (run (n + 3)) (r13 cs (some (.p 0)) (some (.d (.str (SS WMORE)))) (some (.d (.int i))) none) (obs [scn W 2]) = .nx (r13 cs (some (.p 0)) (some (.d (.str (SS WMORE)))) (some (.d (.int i))) (some (.d .non))) (obs [scn W 2]) := by kernel_rfl
theorem let_arg (n : Nat) (cs : List Nat) (i : Int) (W : List (List Nat)) (hW : ∀ w ∈ W, w.length ≤ 98000) : vCall ((run (n + 3)).f 3) 1 0 [0] [] [] (aCons (vMeth [(3, (resF ((run (n + 3)).f 6) [0] [] [true]))] "word" 0 0 (vVar 2) aNil aNil) aNil) aNil (r13 cs (some (.p 0)) (some (.d (.str (SS WIS)))) (some (.d (.int i))) none) (obs [scn W 2]) = .ok (.d (.bl (letB (wat W 2)))) (obs [scn W 2]) := by
  have hw : (wat W 2).length ≤ 98000 := by
    unfold wat
    cases e : W[2]? with
    | none => exact Nat.zero_le _
    | some w => exact hW w (List.mem_of_getElem? e)
  have hm : (aCons (vMeth [(3, (resF ((run (n + 3)).f 6) [0] [] [true]))] "word" 0 0 (vVar 2) aNil aNil) aNil) (r13 cs (some (.p 0)) (some (.d (.str (SS WIS)))) (some (.d (.int i))) none) (obs [scn W 2]) = .ok [.d (.str (SS (wat W 2)))] (obs [scn W 2]) := by
    have e := m_word (n + 2) W 2 (r13 cs (some (.p 0)) (some (.d (.str (SS WIS)))) (some (.d (.int i))) none) (vVar 2) rfl
    unfold aCons
    rw [show (obs [scn W ((2 : Nat) : Int)]) = obs [scn W 2] from rfl] at e
    rw [e]
    rfl
  unfold vCall
  rw [hm, ev_bind]
  exact call_d (f := (run (n + 3)).f 3) (fl := []) (ds := [.str (SS (wat W 2))]) (is_letter (n + 1) (wat W 2) hw)
theorem t3_is (n : Nat) (cs : List Nat) (i : Int) (W : List (List Nat)) (r : Res U)
    (h : vMeth [(3, (resF ((run (n + 3)).f 8) [0, 1] [D.bl true] [true]))] "take" 1 0 (vVar 2) (aCons (vCall ((run (n + 3)).f 3) 1 0 [0] [] [] (aCons (vMeth [(3, (resF ((run (n + 3)).f 6) [0] [] [true]))] "word" 0 0 (vVar 2) aNil aNil) aNil) aNil) aNil) aNil (r13 cs (some (.p 0)) (some (.d (.str (SS WIS)))) (some (.d (.int i))) none) (obs [scn W 2]) = r) :
    T3 (run (n + 3)) (r13 cs (some (.p 0)) (some (.d (.str (SS WIS)))) (some (.d (.int i))) none) (obs [scn W 2]) = r.thenS (r13 cs (some (.p 0)) (some (.d (.str (SS WIS)))) (some (.d (.int i))) none) fun u μ1 => .nx (r13 cs (some (.p 0)) (some (.d (.str (SS WIS)))) (some (.d (.int i))) (some u)) μ1 := by
  subst h
  have e : tOf (v2 fEq (vVar 3) (vC (.str "is"))) (r13 cs (some (.p 0)) (some (.d (.str (SS WIS)))) (some (.d (.int i))) none) (obs [scn W 2]) = .ok true (obs [scn W 2]) := by kernel_rfl
  unfold T3 sSet vIf
  rw [e, ev_bind, if_pos rfl]
  rfl
theorem t4_ok (n : Nat) (ρ : Rho) (h : ρ[2]? = some (some (.p 0))) (W : List (List Nat)) (a : Nat) (hl : W.length ≤ a) : T4 (run (n + 3)) ρ (obs [scn W a]) = .nx ρ (obs [scn W a]) := by
  have e := vm1 (c := 3) (res := resF ((run (n + 3)).f 11) [0] [] [true]) (nm := "finish") (n := 0) (k := 0) (μ1 := obs [scn W a]) (mo := vVar 2) (m := aNil) (ρ := ρ) (μ := obs [scn W a]) (μ0 := obs [scn W a]) (by unfold vVar; rw [h]) rfl (by rfl) rfl rfl
  have e2 : resF ((run (n + 3)).f 11) [0] [] [true] [.p 0] [] (obs [scn W a]) = .ok (.d .non) (obs [scn W a]) := call_p (ds := []) (k := 0) (o := scn W a) (o' := scn W a) rfl rfl (fin_ok (n + 1) W a hl)
  unfold T4 sExpr
  rw [e, e2]
  rfl
theorem t4_no (n : Nat) (ρ : Rho) (h : ρ[2]? = some (some (.p 0))) (W : List (List Nat)) (a : Nat) (hl : a < W.length) : T4 (run (n + 3)) ρ (obs [scn W a]) = .err 2 ["word", "line"] [.int a, .int 0] ρ (obs [scn W a]) := by
  have e := vm1 (c := 3) (res := resF ((run (n + 3)).f 11) [0] [] [true]) (nm := "finish") (n := 0) (k := 0) (μ1 := obs [scn W a]) (mo := vVar 2) (m := aNil) (ρ := ρ) (μ := obs [scn W a]) (μ0 := obs [scn W a]) (by unfold vVar; rw [h]) rfl (by rfl) rfl rfl
  have e2 : resF ((run (n + 3)).f 11) [0] [] [true] [.p 0] [] (obs [scn W a]) = .err 2 ["word", "line"] [.int a, .int 0] (obs [scn W a]) := call_pe (ds := []) (k := 0) (o := scn W a) (o' := scn W a) rfl rfl (fin_no (n + 1) W a hl)
  unfold T4 sExpr
  rw [e, e2]
  rfl
abbrev qd (w : Str) (i : Int) (l : D) : D := .obj 4 ["word", "number", "letter"] [.str w, .int i, l]
theorem t5_ok (n : Nat) (cs : List Nat) (w : Str) (i : Int) (l : D) (W : List (List Nat)) (a : Int) (hq : (run (n + 3)).f 12 [.p 0, .d (.str w), .d (.int i), .d l] [.ins 4 [] []] = .ok (.d .non) [qob w i l] none) :
    T5 (run (n + 3)) (r13 cs (some (.p 0)) (some (.d (.str w))) (some (.d (.int i))) (some (.d l))) (obs [scn W a]) = .ret (.p 1) (obs [scn W a] ++ [.ins 4 ["word", "number", "letter"] [.d (.str w), .d (.int i), .d l]]) := by
  have h := mk1 (c := 4) (fn := (run (n + 3)).f 12) (ix := [0, 1, 2, 3]) (ds := [D.non]) (us := [.d (.str w), .d (.int i), .d l]) (ws := []) (μ := obs [scn W a]) (ds' := [.str w, .int i, l]) (ns := ["word", "number", "letter"]) (vs := [.str w, .int i, l]) hq rfl
  show ((resMk 4 ((run (n + 3)).f 12) [0, 1, 2, 3] [D.non] [true] [.d (.str w), .d (.int i), .d l] [] (obs [scn W a])).thenS _ _) = _
  rw [h]
  rfl
theorem ret_q (w : Str) (i : Int) (l : D) (W : List (List Nat)) (a : Int) : exitF 0 false (.ret (.p 1) (obs [scn W a] ++ [.ins 4 ["word", "number", "letter"] [.d (.str w), .d (.int i), .d l]])) = .ok (.d (qd w i l)) [] none := by kernel_rfl
def r13R : Sum Int (Str × Int × D) → FR
  | .inl k => .err 2 ["word", "line"] [.int k, .int 0] []
  | .inr (w, i, l) => .ok (.d (qd w i l)) [] none
theorem from_text (n : Nat) (cs : List Nat) (hcs : cs.length < 98000) (W : List (List Nat)) (eW : W = TL.spl [32] 0 [] cs) (hW : ∀ w ∈ W, w.length ≤ 98000) (hne : W ≠ []) : (run (n + 4)).f 13 [.d (.cls 4), .d (.str (SS cs))] [] = r13R (rdW W) := by
  show exitF 0 false (b_13 (run (n + 3)) (r13 cs none none none none) []) = _
  have s1 := t1_ok n cs hcs
  rw [← eW] at s1
  rw [b13_eq, seq_nx s1]
  cases W with
  | nil => exact absurd rfl hne
  | cons w0 rest =>
    have a0 : wat (w0 :: rest) 0 = w0 := rfl
    cases hi : isw w0 with
    | false =>
      rw [seq_err (t2_no0 n cs _ (by rw [a0]; exact hi))]
      have e : rdW (w0 :: rest) = .inl 0 := by unfold rdW; dsimp only; rw [hi]; rfl
      rw [e]
      exact ex_err (os := []) (ex := obs [scn (w0 :: rest) 0])
    | true =>
      cases hn : numB (wat (w0 :: rest) 1) with
      | false =>
        rw [seq_err (t2_no1 n cs _ hW (by simp) (by rw [a0]; exact hi) hn)]
        have e : rdW (w0 :: rest) = .inl 1 := by
          unfold rdW
          dsimp only
          rw [hi, if_pos rfl]
          cases rest with
          | nil => rfl
          | cons w1 r2 =>
            have : numB w1 = false := hn
            dsimp only
            rw [this]
            rfl
        rw [e]
        exact ex_err (os := []) (ex := obs [scn (w0 :: rest) 1])
      | true =>
        cases rest with
        | nil => cases hn
        | cons w1 r2 =>
          have a1 : wat (w0 :: w1 :: r2) 1 = w1 := rfl
          have hn1 : numB w1 = true := hn
          obtain ⟨d1, d2⟩ := dv_le hn1
          rw [seq_nx (t2_ok n cs _ hW (by simp) (by rw [a0]; exact hi) hn), a0, a1]
          by_cases hm : w0 = WMORE
          · subst hm
            rw [seq_nx (t3_more n cs _ _)]
            cases r2 with
            | nil =>
              have e : rdW [WMORE, w1] = .inr ("more", dv w1, .non) := by
                      unfold rdW; dsimp only; rw [hi, if_pos rfl]; try dsimp only
                      rw [hn1, if_pos rfl, if_pos rfl]
              have g4 : T4 (run (n + 3)) (r13 cs (some (.p 0)) (some (.d (.str (SS WMORE)))) (some (.d (.int (dv w1)))) (some (.d .non))) (obs [scn [WMORE, w1] 2]) = .nx _ (obs [scn [WMORE, w1] 2]) := t4_ok n _ rfl [WMORE, w1] 2 (by simp)
              rw [seq_nx g4, e]
              exact (congrArg (exitF 0 false) (t5_ok n cs "more" (dv w1) .non [WMORE, w1] 2 (q_more n (dv w1) d1 d2))).trans (ret_q _ _ _ _ _)
            | cons w2 r3 =>
              have e : rdW (WMORE :: w1 :: w2 :: r3) = .inl 2 := by
                      unfold rdW; dsimp only; rw [hi, if_pos rfl]; try dsimp only
                      rw [hn1, if_pos rfl, if_pos rfl]
              have g4 : T4 (run (n + 3)) (r13 cs (some (.p 0)) (some (.d (.str (SS WMORE)))) (some (.d (.int (dv w1)))) (some (.d .non))) (obs [scn (WMORE :: w1 :: w2 :: r3) 2]) = .err 2 ["word", "line"] [.int 2, .int 0] _ (obs [scn (WMORE :: w1 :: w2 :: r3) 2]) := t4_no n _ rfl (WMORE :: w1 :: w2 :: r3) 2 (by simp)
              rw [seq_err g4, e]
              exact ex_err (os := []) (ex := obs [scn (WMORE :: w1 :: w2 :: r3) 2])
          · have his : w0 = WIS := by
              have : (decide (w0 = WIS) || decide (w0 = WMORE)) = true := hi
              simpa [hm] using this
            subst his
            have la := let_arg n cs (dv w1) (WIS :: w1 :: r2) hW
            cases hl : letB (wat (WIS :: w1 :: r2) 2) with
            | false =>
              rw [hl] at la
              have e : rdW (WIS :: w1 :: r2) = .inl 2 := by
                unfold rdW; dsimp only; rw [hi, if_pos rfl]; try dsimp only
                rw [hn1, if_pos rfl, if_neg hm]
                cases r2 with
                | nil => rfl
                | cons w2 r3 =>
                  have : letB w2 = false := hl
                  cases r3 with
                  | nil => dsimp only; rw [this]; rfl
                  | cons w3 r4 => dsimp only; rw [this]; rfl
              have g := m_take_no (n + 1) (WIS :: w1 :: r2) 2 false (r13 cs (some (.p 0)) (some (.d (.str (SS WIS)))) (some (.d (.int (dv w1)))) none) (vVar 2) _ rfl la (.inl rfl) (by simp)
              rw [seq_err (t3_is n cs (dv w1) _ _ g), e]
              exact ex_err (os := []) (ex := obs [scn (WIS :: w1 :: r2) 2])
            | true =>
              rw [hl] at la
              cases r2 with
              | nil => cases hl
              | cons w2 r3 =>
                have hl2 : letB w2 = true := hl
                have g := m_take_ok (n + 1) (WIS :: w1 :: w2 :: r3) 2 (r13 cs (some (.p 0)) (some (.d (.str (SS WIS)))) (some (.d (.int (dv w1)))) none) (vVar 2) _ rfl la (by simp)
                rw [seq_nx (t3_is n cs (dv w1) _ _ g)]
                have a2 : wat (WIS :: w1 :: w2 :: r3) 2 = w2 := rfl
                rw [a2]
                cases r3 with
                | nil =>
                  have e : rdW [WIS, w1, w2] = .inr ("is", dv w1, .str (SS w2)) := by
                      unfold rdW; dsimp only; rw [hi, if_pos rfl]; try dsimp only
                      rw [hn1, if_pos rfl, if_neg hm, if_pos hl2]
                  obtain ⟨c, rfl, hc⟩ : ∃ c, w2 = [c] ∧ (97 ≤ c ∧ c ≤ 122) := by
                    have hl3 := hl2
                    unfold letB at hl3
                    rw [Bool.and_eq_true, decide_eq_true_eq] at hl3
                    match w2, hl3 with
                    | [c], ⟨h1, _⟩ =>
                      unfold inY at h1
                      rw [List.all_cons, Bool.and_eq_true] at h1
                      exact ⟨c, rfl, (mem_az c).mp (of_decide_eq_true h1.1)⟩
                  have g4 : T4 (run (n + 3)) (r13 cs (some (.p 0)) (some (.d (.str (SS WIS)))) (some (.d (.int (dv w1)))) (some (.d (.str (SS [c]))))) (obs [scn [WIS, w1, [c]] (((2 : Nat) : Int) + 1)]) = .nx _ (obs [scn [WIS, w1, [c]] (((2 : Nat) : Int) + 1)]) := t4_ok n _ rfl [WIS, w1, [c]] 3 (by simp)
                  rw [seq_nx g4, e]
                  exact (congrArg (exitF 0 false) (t5_ok n cs "is" (dv w1) (sg c) [WIS, w1, [c]] (((2 : Nat) : Int) + 1) (q_is n (dv w1) c d1 d2 hc))).trans (ret_q _ _ _ _ _)
                | cons w3 r4 =>
                  have e : rdW (WIS :: w1 :: w2 :: w3 :: r4) = .inl 3 := by
                      unfold rdW; dsimp only; rw [hi, if_pos rfl]; try dsimp only
                      rw [hn1, if_pos rfl, if_neg hm, if_pos hl2]
                  have g4 : T4 (run (n + 3)) (r13 cs (some (.p 0)) (some (.d (.str (SS WIS)))) (some (.d (.int (dv w1)))) (some (.d (.str (SS w2))))) (obs [scn (WIS :: w1 :: w2 :: w3 :: r4) (((2 : Nat) : Int) + 1)]) = .err 2 ["word", "line"] [.int 3, .int 0] _ (obs [scn (WIS :: w1 :: w2 :: w3 :: r4) (((2 : Nat) : Int) + 1)]) := t4_no n _ rfl (WIS :: w1 :: w2 :: w3 :: r4) 3 (by simp)
                  rw [seq_err g4, e]
                  exact ex_err (os := []) (ex := obs [scn (WIS :: w1 :: w2 :: w3 :: r4) 3])
end K36
set_option Elab.async false
set_option linter.all false
set_option maxRecDepth 100000
set_option maxHeartbeats 2000000
set_option autoImplicit false
namespace K36
open PySem PySem.Spec PyProof.Rows L2 Iv
theorem lam_of {N : Nat} {m : Sm U} {us : List U} {r : FR} {f : Fn} {ds : List D} (hm : ∀ μ, m (us.map some ++ List.replicate (N - us.length) none) μ = callL f [] (ds.map .d) μ) (hf : f (ds.map .d) [] = r)
    (hr : (∃ d, r = .ok (.d d) [] none) ∨ ∃ c ns vs, r = .err c ns vs []) : entry N false (sRet m) us [] = r := by
  rcases hr with ⟨d, rfl⟩ | ⟨c, ns, vs, rfl⟩
  · refine en_ret (ex := []) ?_
    unfold sRet
    rw [hm, call_d hf]
    rfl
  · refine en_err (ex := []) (ρ := us.map some ++ List.replicate (N - us.length) none) ?_
    unfold sRet
    rw [hm, call_de hf]
    rfl
/-- texts as the law has them -/
structure TxtOk (cs : List Nat) (W : List (List Nat)) : Prop where
  len : cs.length < 98000
  eq : W = TL.spl [32] 0 [] cs
  ws : ∀ w ∈ W, w.length ≤ 98000 ∧ ∀ c ∈ w, c < 1114112
  ne : W ≠ []
theorem TxtOk.le {cs : List Nat} {W : List (List Nat)} (h : TxtOk cs W) : ∀ w ∈ W, w.length ≤ 98000 := fun w hw => (h.ws w hw).1
theorem ft_lam (n k : Nat) (hk : k = 0 ∨ k = 7) (cs : List Nat) (W : List (List Nat)) (h : TxtOk cs W) : (run (n + 5)).l k [.d (.str (SS cs))] [] = r13R (rdW W) := by
  have e := from_text n cs h.len W h.eq h.le h.ne
  have hr : (∃ d, r13R (rdW W) = .ok (.d d) [] none) ∨ ∃ c ns vs, r13R (rdW W) = .err c ns vs [] := by
    cases rdW W with
    | inl k => exact .inr ⟨_, _, _, rfl⟩
    | inr p => exact .inl ⟨_, rfl⟩
  rcases hk with rfl | rfl
  · rw [show (run (n + 5)).l 0 = entry 1 false (sRet (l_0 (run (n + 4)))) from rfl]
    exact lam_of (f := (run (n + 4)).f 13) (ds := [.cls 4, .str (SS cs)]) (fun μ => rfl) e hr
  · rw [show (run (n + 5)).l 7 = entry 1 false (sRet (l_7 (run (n + 4)))) from rfl]
    exact lam_of (f := (run (n + 4)).f 13) (ds := [.cls 4, .str (SS cs)]) (fun μ => rfl) e hr
/-! ### heard -/
theorem fz1 (x : D) (μ : Mu) : frzL [.d x] μ = some ([x], μ) := frzL_d [x] μ
theorem heard_ok {m k : Nat} {ds : List D} {d : D} (hn : D.ncL ds = true) (hL : (run m).l k (ds.map .d) [] = .ok (.d d) [] none) : (run (m + 1)).f 20 [.d (.clo k ds)] [] = .ok (.d (.lst [d])) [] none := by
  rw [show (run (m + 1)).f 20 = entry 5 false (b_20 (run m)) from rfl]
  refine en_ret (ex := []) ?_
  have h1 : ∀ μ, fIs (.d .non) (.d .non) μ = .ok (.d (.bl true)) μ := fun μ => rfl
  have h2 : ∀ (ρ : Rho) (μ : Mu), sAsgs [.nm 1, .nm 2] (aCons (vC .non) (aCons (vC .non) aNil)) ρ μ = .nx ((ρ.set 1 (some (.d .non))).set 2 (some (.d .non))) μ := fun ρ μ => rfl
  unfold b_20
  unfold sSeq
  rw [h2]
  simp [sSeq, sSet, sIf, sRet, sRetN, sSetIx, sExpr, sNil, sAsg, sAsgs, sPar, tOf, tAnd', tOr', tNot', tYes', tIfT, v2, v1, vN, vVar, vC, vAnd, vOr, vNot, vIf, aCons, aNil, fGt, fGe, fLt, fLe, fI, fIC, fSub, fMul, fDiv, fMod, fPow, fNeg, cMul, cDiv, cMod, cPow, fAbs, ev_bind, ev_berr, ev_then, ev_terr, List.getElem?_cons_zero, List.getElem?_cons_succ, List.set_cons_zero, List.set_cons_succ, fAdd, fInt, sTryAs, vClo, hn, hL, retX, h1, lst1]
def marksOf : SmS := sSet 4 (vN oLst (aCons (v1 (fIsi isi_BadQuestion) (vVar 2)) (aCons (v1 (fIsi isi_BadText) (vVar 2)) aNil)))
def oddB : SmS := sIf (tOr' (tOf (v2 fNe (vM "list" fCntB (vVar 4) (aCons (vC (.bl true)) aNil)) (vC (.int 1)))) (tNot' (tOf (v1 (fIsi (tabV [3, 4] [0, 1, 2])) (vVar 2))))) (sRet (vN oTup (aCons (vC (.str "odd")) aNil))) sNil
theorem heard_err {m k c : Nat} {ds : List D} {ns : List Str} {vs : List D} {r : D} (hn : D.ncL ds = true) (hL : (run m).l k (ds.map .d) [] = .err c ns vs []) (hc : c = 1 ∨ c = 2)
    (h : sSeq marksOf (sSeq oddB (sRet (vIf (tOf (v2 fIx (vVar 4) (vC (.int 0)))) (vN oTup (aCons (vC (.str "question")) (aCons (v1 fReprA (v1 (fXf "value" [1]) (vVar 2))) aNil))) (vN oTup (aCons (vC (.str "text")) (aCons (v1 fReprA (v1 (fAt "line" [3] [2]) (vVar 2))) (aCons (v1 fReprA (v1 (fAt "word" [4] [2]) (vVar 2))) aNil)))))))
      [some (.d (.clo k ds)), some (.d .non), some (.d (.exc c ns vs)), none, none] [] = .ret (.d r) []) : (run (m + 1)).f 20 [.d (.clo k ds)] [] = .ok (.d r) [] none := by
  rw [show (run (m + 1)).f 20 = entry 5 false (b_20 (run m)) from rfl]
  refine en_ret (ex := []) ?_
  have h2 : ∀ (ρ : Rho) (μ : Mu), sAsgs [.nm 1, .nm 2] (aCons (vC .non) (aCons (vC .non) aNil)) ρ μ = .nx ((ρ.set 1 (some (.d .non))).set 2 (some (.d .non))) μ := fun ρ μ => rfl
  have h3 : (sTryAs [(0, true), (1, true), (2, true)] 3 (sSet 1 (vClo (run m).l 0)) (sSet 2 (vVar 3))) [some (.d (.clo k ds)), some (.d .non), some (.d .non), none, none] [] = .nx [some (.d (.clo k ds)), some (.d .non), some (.d (.exc c ns vs)), none, none] [] := by
    rcases hc with rfl | rfl <;> simp [sSeq, sSet, sIf, sRet, sRetN, sSetIx, sExpr, sNil, sAsg, sAsgs, sPar, tOf, tAnd', tOr', tNot', tYes', tIfT, v2, v1, vN, vVar, vC, vAnd, vOr, vNot, vIf, aCons, aNil, fGt, fGe, fLt, fLe, fI, fIC, fSub, fMul, fDiv, fMod, fPow, fNeg, cMul, cDiv, cMod, cPow, fAbs, ev_bind, ev_berr, ev_then, ev_terr, List.getElem?_cons_zero, List.getElem?_cons_succ, List.set_cons_zero, List.set_cons_succ, fAdd, fInt, sTryAs, vClo, hn, hL, retX, RS.drop, List.lookup]
  have h4 : ∀ μ, fIs (.d (.exc c ns vs)) (.d .non) μ = .ok (.d (.bl false)) μ := fun μ => rfl
  have h5 : (sIf (tOf (v2 fIs (vVar 2) (vC .non))) (sRet (vN oLst (aCons (vVar 1) aNil))) sNil) [some (.d (.clo k ds)), some (.d .non), some (.d (.exc c ns vs)), none, none] [] = .nx [some (.d (.clo k ds)), some (.d .non), some (.d (.exc c ns vs)), none, none] [] := by
    simp [sSeq, sSet, sIf, sRet, sRetN, sSetIx, sExpr, sNil, sAsg, sAsgs, sPar, tOf, tAnd', tOr', tNot', tYes', tIfT, v2, v1, vN, vVar, vC, vAnd, vOr, vNot, vIf, aCons, aNil, fGt, fGe, fLt, fLe, fI, fIC, fSub, fMul, fDiv, fMod, fPow, fNeg, cMul, cDiv, cMod, cPow, fAbs, ev_bind, ev_berr, ev_then, ev_terr, List.getElem?_cons_zero, List.getElem?_cons_succ, List.set_cons_zero, List.set_cons_succ, fAdd, fInt, h4]
  unfold b_20
  rw [seq_nx (h2 _ _)]
  refine (seq_nx h3).trans ((seq_nx h5).trans h)
theorem heard_q {m k : Nat} {ds : List D} {v : D} {s : Str} (hn : D.ncL ds = true) (hL : (run m).l k (ds.map .d) [] = .err 1 ["value"] [v] []) (hs : ∀ μ, fReprA (.d v) μ = .ok (.d (.str s)) μ) : (run (m + 1)).f 20 [.d (.clo k ds)] [] = .ok (.d (.tup [.str "question", .str s])) [] none := by
  refine heard_err hn hL (.inl rfl) ?_
  have h1 : marksOf [some (.d (.clo k ds)), some (.d .non), some (.d (.exc 1 ["value"] [v])), none, none] [] = .nx [some (.d (.clo k ds)), some (.d .non), some (.d (.exc 1 ["value"] [v])), none, some (.d (.lst [.bl true, .bl false]))] [] := by kernel_rfl
  have h2 : oddB [some (.d (.clo k ds)), some (.d .non), some (.d (.exc 1 ["value"] [v])), none, some (.d (.lst [.bl true, .bl false]))] [] = .nx [some (.d (.clo k ds)), some (.d .non), some (.d (.exc 1 ["value"] [v])), none, some (.d (.lst [.bl true, .bl false]))] [] := by kernel_rfl
  have h3 : ∀ μ, fXf "value" [1] (.d (.exc 1 ["value"] [v])) μ = .ok (.d v) μ := fun μ => by kernel_rfl
  have h4 : ∀ μ, fIx (.d (.lst [.bl true, .bl false])) (.d (.int 0)) μ = .ok (.d (.bl true)) μ := fun μ => by kernel_rfl
  rw [seq_nx h1, seq_nx h2]
  simp only [fAlt, fReprA] at hs
  simp [sSeq, sSet, sIf, sRet, sRetN, sSetIx, sExpr, sNil, sAsg, sAsgs, sPar, tOf, tAnd', tOr', tNot', tYes', tIfT, v2, v1, vN, vVar, vC, vAnd, vOr, vNot, vIf, aCons, aNil, fGt, fGe, fLt, fLe, fI, fIC, fSub, fMul, fDiv, fMod, fPow, fNeg, cMul, cDiv, cMod, cPow, fAbs, ev_bind, ev_berr, ev_then, ev_terr, List.getElem?_cons_zero, List.getElem?_cons_succ, List.set_cons_zero, List.set_cons_succ, fAdd, fInt, h3, h4, hs, tup2, fAlt]
theorem heard_t {m k : Nat} {ds : List D} {a l : Int} {s t : Str} (hn : D.ncL ds = true) (hL : (run m).l k (ds.map .d) [] = .err 2 ["word", "line"] [.int a, .int l] []) (hs : ∀ μ, fReprA (.d (.int l)) μ = .ok (.d (.str s)) μ) (ht : ∀ μ, fReprA (.d (.int a)) μ = .ok (.d (.str t)) μ) : (run (m + 1)).f 20 [.d (.clo k ds)] [] = .ok (.d (.tup [.str "text", .str s, .str t])) [] none := by
  refine heard_err hn hL (.inr rfl) ?_
  have h1 : marksOf [some (.d (.clo k ds)), some (.d .non), some (.d (.exc 2 ["word", "line"] [.int a, .int l])), none, none] [] = .nx [some (.d (.clo k ds)), some (.d .non), some (.d (.exc 2 ["word", "line"] [.int a, .int l])), none, some (.d (.lst [.bl false, .bl true]))] [] := by kernel_rfl
  have h2 : oddB [some (.d (.clo k ds)), some (.d .non), some (.d (.exc 2 ["word", "line"] [.int a, .int l])), none, some (.d (.lst [.bl false, .bl true]))] [] = .nx [some (.d (.clo k ds)), some (.d .non), some (.d (.exc 2 ["word", "line"] [.int a, .int l])), none, some (.d (.lst [.bl false, .bl true]))] [] := by kernel_rfl
  have h3 : ∀ μ, fAt "line" [3] [2] (.d (.exc 2 ["word", "line"] [.int a, .int l])) μ = .ok (.d (.int l)) μ := fun μ => by kernel_rfl
  have h5 : ∀ μ, fAt "word" [4] [2] (.d (.exc 2 ["word", "line"] [.int a, .int l])) μ = .ok (.d (.int a)) μ := fun μ => by kernel_rfl
  have h4 : ∀ μ, fIx (.d (.lst [.bl false, .bl true])) (.d (.int 0)) μ = .ok (.d (.bl false)) μ := fun μ => by kernel_rfl
  rw [seq_nx h1, seq_nx h2]
  generalize fAt "line" [3] [2] = g1 at *
  generalize fAt "word" [4] [2] = g2 at *
  generalize fReprA = g3 at *
  simp [sSeq, sSet, sIf, sRet, sRetN, sSetIx, sExpr, sNil, sAsg, sAsgs, sPar, tOf, tAnd', tOr', tNot', tYes', tIfT, v2, v1, vN, vVar, vC, vAnd, vOr, vNot, vIf, aCons, aNil, fGt, fGe, fLt, fLe, fI, fIC, fSub, fMul, fDiv, fMod, fPow, fNeg, cMul, cDiv, cMod, cPow, fAbs, ev_bind, ev_berr, ev_then, ev_terr, List.getElem?_cons_zero, List.getElem?_cons_succ, List.set_cons_zero, List.set_cons_succ, fAdd, fInt, h3, h4, h5, hs, ht, tup3]
end K36
set_option Elab.async false
set_option linter.all false
set_option maxRecDepth 100000
set_option maxHeartbeats 2000000
set_option autoImplicit false
namespace K36
open PySem PySem.Spec PyProof.Rows L2 Iv
/-! ### what the law reads -/
theorem spl_hl : ∀ (cs acc : List Nat), (TL.spl [32] 0 acc cs).length ≤ cs.length + 1 := by
  intro cs
  induction cs with
  | nil => intro acc; exact Nat.le_refl _
  | cons c r ih =>
    intro acc
    by_cases hp : TL.pre [32] (c :: r) = true
    · rw [TL.spl_hit hp]
      have := ih []
      show (acc :: TL.spl [32] 0 [] r).length ≤ _
      rw [List.length_cons, List.length_cons]
      omega
    · rw [TL.spl_miss (by simpa using hp)]
      have := ih (acc ++ [c])
      rw [List.length_cons]
      omega
theorem split_ok (cs : List Nat) (hcs : cs.length < 98000) (μ : Mu) : fSplit (.d (.str (SS cs))) [.d (.str " ")] μ = .ok (.d (.lst (tt (TL.spl [32] 0 [] cs)))) μ := by
  have h1 : ((" " : Str).length == 0) = false ∧ (SS cs).length ≤ 99000 := ⟨rfl, by show cs.toArray.size ≤ 99000; rw [List.size_toArray]; omega⟩
  have h2 : Txt.split (SS cs) " " = (TL.spl [32] 0 [] cs).map SS := SX.split_S (a := cs) (b := [32]) (by decide) (by decide)
  have h3 : ((Txt.split (SS cs) " ").map fun x => U.d (.str x)) = (tt (TL.spl [32] 0 [] cs)).map U.d := by rw [h2]; simp [tt]
  show (if ((" " : Str).length == 0) = false ∧ (SS cs).length ≤ 99000 then oLst ((Txt.split (SS cs) " ").map fun x => U.d (.str x)) μ else .bad) = _
  rw [if_pos h1, h3]
  have := spl_hl cs []
  unfold oLst
  rw [frzL_d]
  dsimp only
  rw [if_pos (by rw [List.length_map]; omega)]
def rdD : Sum Int (Str × Int × D) → D
  | .inl k => .int k
  | .inr (w, i, l) => .lst [.tup [.str w, .int i, l]]
def nes : Sm U := v2 fNe (vComp (wSeq (vVar 2)) (.nm 3) [3] (tOf (v2 (fIn true) (vVar 3) (vC (.str DG)))) (vVar 3)) (vN oLst aNil)
abbrev A4t : Sm Bool := tOr' (tNot' (tOf (v3 fLe fLe (vC (.int 1)) (v1 fLen (vVar 2)) (vC (.int 5))))) (tOr' (tOf nes) (tAnd' (tOf (v2 fEq (v2 fIx (vVar 2) (vC (.int 0))) (vC (.str "0")))) (tOf (v2 fNe (vVar 2) (vC (.str "0"))))))
abbrev A6t : Sm Bool := tOr' (tOf (v2 fLt (v1 fLen (vVar 1)) (vC (.int 3)))) (tOr' (tOf (v2 fNe (v1 fLen (v2 fIx (vVar 1) (vC (.int 2)))) (vC (.int 1)))) (tOf (v2 (fIn true) (v2 fIx (vVar 1) (vC (.int 2))) (vC (.str AZ)))))
abbrev A1 : SmS := sSet 1 (vM "str" fSplit (vVar 0) (aCons (vC (.str " ")) aNil))
abbrev A2 : SmS := sIf (tOf (v2 (fIn true) (v2 fIx (vVar 1) (vC (.int 0))) (vN oTup (aCons (vC (.str "is")) (aCons (vC (.str "more")) aNil))))) (sRet (vC (.int 0))) sNil
abbrev A3 : SmS := sSet 2 (vIf (tOf (v2 fGt (v1 fLen (vVar 1)) (vC (.int 1)))) (v2 fIx (vVar 1) (vC (.int 1))) (vC (.str "")))
abbrev A5 : SmS := sIf (tOf (v2 fEq (v2 fIx (vVar 1) (vC (.int 0))) (vC (.str "more")))) (sRet (vIf (tOf (v2 fEq (v1 fLen (vVar 1)) (vC (.int 2)))) (vN oLst (aCons (vN oTup (aCons (vC (.str "more")) (aCons (v1 fInt (vVar 2)) (aCons (vC .non) aNil)))) aNil)) (vC (.int 2)))) sNil
abbrev A7 : SmS := sRet (vIf (tOf (v2 fEq (v1 fLen (vVar 1)) (vC (.int 3)))) (vN oLst (aCons (vN oTup (aCons (vC (.str "is")) (aCons (v1 fInt (vVar 2)) (aCons (v2 fIx (vVar 1) (vC (.int 2))) aNil)))) aNil)) (vC (.int 3)))
theorem b24_eq (R : Rn) : b_24 R = sSeq A1 (sSeq A2 (sSeq A3 (sSeq (sIf A4t (sRet (vC (.int 1))) sNil) (sSeq A5 (sSeq (sIf A6t (sRet (vC (.int 2))) sNil) A7))))) := rfl
abbrev r24 (cs : List Nat) (W : List (List Nat)) (w : List Nat) : Rho := [some (.d (.str (SS cs))), some (.d (.lst (tt W))), some (.d (.str (SS w))), none]
theorem a4_ok (cs : List Nat) (W : List (List Nat)) (w : List Nat) (hw : w.length ≤ 98000) (hO : ∀ c ∈ w, c < 1114112) (μ : Mu) : A4t (r24 cs W w) μ = .ok (!numB w) μ := by
  have h1 := len_ss w (by omega)
  have h4 : nes (r24 cs W w) μ = .ok (.d (.bl (!inY DG w))) μ := none_out DG w hw hO 2 3 _ μ rfl (by show 3 < 4; omega)
  by_cases c1 : 1 ≤ w.length
  · by_cases c2 : w.length ≤ 5
    · cases c3 : inY DG w with
      | false =>
        rw [c3] at h4
        have e : numB w = false := by unfold numB; rw [c3]; simp
        rw [e]
        simp [sSeq, sSet, sIf, sRet, sRetN, sSetIx, sExpr, sNil, sAsg, sAsgs, sPar, tOf, tAnd', tOr', tNot', tYes', tIfT, v2, v1, vN, vVar, vC, vAnd, vOr, vNot, vIf, aCons, aNil, fGt, fGe, fLt, fLe, fI, fIC, fSub, fMul, fDiv, fMod, fPow, fNeg, cMul, cDiv, cMod, cPow, fAbs, ev_bind, ev_berr, ev_then, ev_terr, List.getElem?_cons_zero, List.getElem?_cons_succ, List.set_cons_zero, List.set_cons_succ, h1, h4, v3, chEnd, show (w.length : Int) ≤ 5 by omega, show (1 : Int) ≤ w.length by omega]
      | true =>
        rw [c3] at h4
        have e : numB w = canon w := by unfold numB; rw [c3, decide_eq_true c1, decide_eq_true c2]; rfl
        rw [e]
        cases w with
        | nil => cases c1
        | cons c r =>
          have g1 := head_ss c r (by omega)
          have g2 : ∀ μ, fNe (.d (.str (SS (c :: r)))) (.d (.str "0")) μ = .ok (.d (.bl (!decide (c :: r = [48])))) μ := fun μ => ne_ss (c :: r) [48] μ
          have g3 : ∀ μ, fEq (.d (.str (SS [c]))) (.d (.str "0")) μ = .ok (.d (.bl (decide ([c] = [48])))) μ := fun μ => eq_ss [c] [48] μ
          have hl : (r.length : Int) + 1 ≤ 5 := by simp at c2; omega
          have hl1 : (1 : Int) ≤ r.length + 1 := by omega
          by_cases c4 : c = 48
          · subst c4
            simp only [decide_eq_true (show [48] = [48] from rfl)] at g3
            cases r with
            | nil =>
              simp only [decide_eq_true (show [48] = [48] from rfl)] at g2
              simp [sSeq, sSet, sIf, sRet, sRetN, sSetIx, sExpr, sNil, sAsg, sAsgs, sPar, tOf, tAnd', tOr', tNot', tYes', tIfT, v2, v1, vN, vVar, vC, vAnd, vOr, vNot, vIf, aCons, aNil, fGt, fGe, fLt, fLe, fI, fIC, fSub, fMul, fDiv, fMod, fPow, fNeg, cMul, cDiv, cMod, cPow, fAbs, ev_bind, ev_berr, ev_then, ev_terr, List.getElem?_cons_zero, List.getElem?_cons_succ, List.set_cons_zero, List.set_cons_succ, h1, h4, v3, chEnd, g1, g2, g3, canon]
            | cons x l =>
              simp only [decide_eq_false (show ¬ (48 :: x :: l = [48]) by intro z; cases z)] at g2
              simp [sSeq, sSet, sIf, sRet, sRetN, sSetIx, sExpr, sNil, sAsg, sAsgs, sPar, tOf, tAnd', tOr', tNot', tYes', tIfT, v2, v1, vN, vVar, vC, vAnd, vOr, vNot, vIf, aCons, aNil, fGt, fGe, fLt, fLe, fI, fIC, fSub, fMul, fDiv, fMod, fPow, fNeg, cMul, cDiv, cMod, cPow, fAbs, ev_bind, ev_berr, ev_then, ev_terr, List.getElem?_cons_zero, List.getElem?_cons_succ, List.set_cons_zero, List.set_cons_succ, h1, h4, v3, chEnd, g1, g2, g3, canon, show (l.length : Int) + 1 + 1 ≤ 5 by simp at c2; omega, show (1 : Int) ≤ l.length + 1 + 1 by omega]
          · simp only [decide_eq_false (show ¬ ([c] = [48]) by intro z; injection z with z1; exact c4 z1)] at g3
            have hc : canon (c :: r) = true := by show (decide (c ≠ 48) || r.isEmpty) = true; rw [decide_eq_true c4]; rfl
            rw [hc]
            simp [sSeq, sSet, sIf, sRet, sRetN, sSetIx, sExpr, sNil, sAsg, sAsgs, sPar, tOf, tAnd', tOr', tNot', tYes', tIfT, v2, v1, vN, vVar, vC, vAnd, vOr, vNot, vIf, aCons, aNil, fGt, fGe, fLt, fLe, fI, fIC, fSub, fMul, fDiv, fMod, fPow, fNeg, cMul, cDiv, cMod, cPow, fAbs, ev_bind, ev_berr, ev_then, ev_terr, List.getElem?_cons_zero, List.getElem?_cons_succ, List.set_cons_zero, List.set_cons_succ, h1, h4, v3, chEnd, g1, g2, g3, hl, hl1]
    · have e : numB w = false := by unfold numB; rw [decide_eq_false c2]; simp
      rw [e]
      simp [sSeq, sSet, sIf, sRet, sRetN, sSetIx, sExpr, sNil, sAsg, sAsgs, sPar, tOf, tAnd', tOr', tNot', tYes', tIfT, v2, v1, vN, vVar, vC, vAnd, vOr, vNot, vIf, aCons, aNil, fGt, fGe, fLt, fLe, fI, fIC, fSub, fMul, fDiv, fMod, fPow, fNeg, cMul, cDiv, cMod, cPow, fAbs, ev_bind, ev_berr, ev_then, ev_terr, List.getElem?_cons_zero, List.getElem?_cons_succ, List.set_cons_zero, List.set_cons_succ, h1, h4, v3, chEnd, show ¬ (w.length : Int) ≤ 5 by omega, show (1 : Int) ≤ w.length by omega]
  · have e : numB w = false := by unfold numB; rw [decide_eq_false c1]; simp
    rw [e]
    simp [sSeq, sSet, sIf, sRet, sRetN, sSetIx, sExpr, sNil, sAsg, sAsgs, sPar, tOf, tAnd', tOr', tNot', tYes', tIfT, v2, v1, vN, vVar, vC, vAnd, vOr, vNot, vIf, aCons, aNil, fGt, fGe, fLt, fLe, fI, fIC, fSub, fMul, fDiv, fMod, fPow, fNeg, cMul, cDiv, cMod, cPow, fAbs, ev_bind, ev_berr, ev_then, ev_terr, List.getElem?_cons_zero, List.getElem?_cons_succ, List.set_cons_zero, List.set_cons_succ, h1, h4, v3, chEnd, show ¬ (1 : Int) ≤ w.length by omega]
theorem ix0 (w0 : List Nat) (r : List (List Nat)) (μ : Mu) : fIx (.d (.lst (tt (w0 :: r)))) (.d (.int 0)) μ = .ok (.d (.str (SS w0))) μ := ix_tt (a := 0) (by decide) rfl μ
theorem ix1 (w0 w1 : List Nat) (r : List (List Nat)) (μ : Mu) : fIx (.d (.lst (tt (w0 :: w1 :: r)))) (.d (.int 1)) μ = .ok (.d (.str (SS w1))) μ := ix_tt (a := 1) (by decide) rfl μ
theorem ix2 (w0 w1 w2 : List Nat) (r : List (List Nat)) (μ : Mu) : fIx (.d (.lst (tt (w0 :: w1 :: w2 :: r)))) (.d (.int 2)) μ = .ok (.d (.str (SS w2))) μ := ix_tt (a := 2) (by decide) rfl μ
theorem a6_ok (cs w w0 w1 : List Nat) (r2 : List (List Nat)) (hw : ∀ x ∈ r2, x.length ≤ 98000) (μ : Mu) : A6t (r24 cs (w0 :: w1 :: r2) w) μ = .ok (!(match r2 with | [] => false | w2 :: _ => letB w2)) μ := by
  have h1 := len_tt (w0 :: w1 :: r2)
  unfold r24
  cases r2 with
  | nil =>
    generalize tt [w0, w1] = L at *
    simp [sSeq, sSet, sIf, sRet, sRetN, sSetIx, sExpr, sNil, sAsg, sAsgs, sPar, tOf, tAnd', tOr', tNot', tYes', tIfT, v2, v1, vN, vVar, vC, vAnd, vOr, vNot, vIf, aCons, aNil, fGt, fGe, fLt, fLe, fI, fIC, fSub, fMul, fDiv, fMod, fPow, fNeg, cMul, cDiv, cMod, cPow, fAbs, ev_bind, ev_berr, ev_then, ev_terr, List.getElem?_cons_zero, List.getElem?_cons_succ, List.set_cons_zero, List.set_cons_succ, h1]
  | cons w2 r3 =>
    have h2 := ix2 w0 w1 w2 r3
    have h3 := len_ss w2 (by have := hw w2 (by simp); omega)
    have hlt : ¬ ((r3.length : Int) + 1 + 1 + 1 < 3) := by omega
    generalize tt (w0 :: w1 :: w2 :: r3) = L at *
    by_cases c1 : w2.length = 1
    · match w2, c1 with
      | [c], _ =>
        have h4 := fun μ => in1 true c AZ μ
        have e : letB [c] = decide (c ∈ AZ.cps.toList) := by
          show (([c].all fun c => decide (c ∈ AZ.cps.toList)) && decide ([c].length = 1)) = _
          simp
        dsimp only
        rw [e]
        generalize decide (c ∈ AZ.cps.toList) = b at *
        simp [sSeq, sSet, sIf, sRet, sRetN, sSetIx, sExpr, sNil, sAsg, sAsgs, sPar, tOf, tAnd', tOr', tNot', tYes', tIfT, v2, v1, vN, vVar, vC, vAnd, vOr, vNot, vIf, aCons, aNil, fGt, fGe, fLt, fLe, fI, fIC, fSub, fMul, fDiv, fMod, fPow, fNeg, cMul, cDiv, cMod, cPow, fAbs, ev_bind, ev_berr, ev_then, ev_terr, List.getElem?_cons_zero, List.getElem?_cons_succ, List.set_cons_zero, List.set_cons_succ, h1, h2, h3, h4, ne_int, hlt]
    · have e : letB w2 = false := by show (inY AZ w2 && decide (w2.length = 1)) = false; rw [decide_eq_false c1, Bool.and_false]
      dsimp only
      rw [e]
      simp [sSeq, sSet, sIf, sRet, sRetN, sSetIx, sExpr, sNil, sAsg, sAsgs, sPar, tOf, tAnd', tOr', tNot', tYes', tIfT, v2, v1, vN, vVar, vC, vAnd, vOr, vNot, vIf, aCons, aNil, fGt, fGe, fLt, fLe, fI, fIC, fSub, fMul, fDiv, fMod, fPow, fNeg, cMul, cDiv, cMod, cPow, fAbs, ev_bind, ev_berr, ev_then, ev_terr, List.getElem?_cons_zero, List.getElem?_cons_succ, List.set_cons_zero, List.set_cons_succ, h1, h2, h3, ne_int, hlt, show ¬ ((w2.length : Int) = 1) by omega]
theorem law_read (n : Nat) (cs : List Nat) (W : List (List Nat)) (h : TxtOk cs W) : (run (n + 1)).f 24 [.d (.str (SS cs))] [] = .ok (.d (rdD (rdW W))) [] none := by
  refine en_ret (b := b_24 (run n)) (N := 4) (ex := []) ?_
  show b_24 (run n) [some (.d (.str (SS cs))), none, none, none] [] = _
  have s1 : A1 [some (.d (.str (SS cs))), none, none, none] [] = .nx [some (.d (.str (SS cs))), some (.d (.lst (tt W))), none, none] [] := by
    show ((fSplit (.d (.str (SS cs))) [.d (.str " ")] []).thenS _ _) = _
    rw [split_ok cs h.len, ← h.eq]
    rfl
  rw [b24_eq, seq_nx s1]
  have hws := h.ws
  have hne := h.ne
  clear h s1
  cases W with
  | nil => exact absurd rfl hne
  | cons w0 rest =>
    have e0 := ix0 w0 rest
    have l0 := len_tt (w0 :: rest)
    have hin := fun μ => in_words true w0 μ
    have s2 : A2 [some (.d (.str (SS cs))), some (.d (.lst (tt (w0 :: rest)))), none, none] [] = if isw w0 = true then .nx [some (.d (.str (SS cs))), some (.d (.lst (tt (w0 :: rest)))), none, none] [] else .ret (.d (.int 0)) [] := by
      generalize tt (w0 :: rest) = L at *
      generalize isw w0 = b at *
      cases b <;> simp [sSeq, sSet, sIf, sRet, sRetN, sSetIx, sExpr, sNil, sAsg, sAsgs, sPar, tOf, tAnd', tOr', tNot', tYes', tIfT, v2, v1, vN, vVar, vC, vAnd, vOr, vNot, vIf, aCons, aNil, fGt, fGe, fLt, fLe, fI, fIC, fSub, fMul, fDiv, fMod, fPow, fNeg, cMul, cDiv, cMod, cPow, fAbs, ev_bind, ev_berr, ev_then, ev_terr, List.getElem?_cons_zero, List.getElem?_cons_succ, List.set_cons_zero, List.set_cons_succ, e0, hin, tup2]
    cases hi : isw w0 with
    | false =>
      rw [hi, if_neg Bool.false_ne_true] at s2
      have e : rdW (w0 :: rest) = .inl 0 := by unfold rdW; dsimp only; rw [hi]; rfl
      rw [seq_ret s2, e]
      rfl
    | true =>
      rw [hi, if_pos rfl] at s2
      rw [seq_nx s2]
      cases rest with
      | nil =>
        have s3 : A3 [some (.d (.str (SS cs))), some (.d (.lst (tt [w0]))), none, none] [] = .nx (r24 cs [w0] []) [] := by
          unfold r24
          generalize tt [w0] = L at *
          simp [sSeq, sSet, sIf, sRet, sRetN, sSetIx, sExpr, sNil, sAsg, sAsgs, sPar, tOf, tAnd', tOr', tNot', tYes', tIfT, v2, v1, vN, vVar, vC, vAnd, vOr, vNot, vIf, aCons, aNil, fGt, fGe, fLt, fLe, fI, fIC, fSub, fMul, fDiv, fMod, fPow, fNeg, cMul, cDiv, cMod, cPow, fAbs, ev_bind, ev_berr, ev_then, ev_terr, List.getElem?_cons_zero, List.getElem?_cons_succ, List.set_cons_zero, List.set_cons_succ, l0]
          rfl
        have s4 := a4_ok cs [w0] [] (by simp) (fun _ hc => by cases hc) []
        have e4 : sIf A4t (sRet (vC (.int 1))) sNil (r24 cs [w0] []) [] = .ret (.d (.int 1)) [] := by
          unfold sIf
          rw [s4]
          rfl
        have e : rdW [w0] = .inl 1 := by unfold rdW; dsimp only; rw [hi]; rfl
        rw [seq_nx s3, seq_ret e4, e]
        rfl
      | cons w1 r2 =>
        have e1 := ix1 w0 w1 r2
        have s3 : A3 [some (.d (.str (SS cs))), some (.d (.lst (tt (w0 :: w1 :: r2)))), none, none] [] = .nx (r24 cs (w0 :: w1 :: r2) w1) [] := by
          unfold r24
          have hg : (1 : Int) < (r2.length : Int) + 1 + 1 := by omega
          generalize tt (w0 :: w1 :: r2) = L at *
          simp [sSeq, sSet, sIf, sRet, sRetN, sSetIx, sExpr, sNil, sAsg, sAsgs, sPar, tOf, tAnd', tOr', tNot', tYes', tIfT, v2, v1, vN, vVar, vC, vAnd, vOr, vNot, vIf, aCons, aNil, fGt, fGe, fLt, fLe, fI, fIC, fSub, fMul, fDiv, fMod, fPow, fNeg, cMul, cDiv, cMod, cPow, fAbs, ev_bind, ev_berr, ev_then, ev_terr, List.getElem?_cons_zero, List.getElem?_cons_succ, List.set_cons_zero, List.set_cons_succ, l0, e1, hg]
        have hw1 := hws w1 (by simp)
        have s4 := a4_ok cs (w0 :: w1 :: r2) w1 hw1.1 hw1.2 []
        rw [seq_nx s3]
        cases hn : numB w1 with
        | false =>
          have e4 : sIf A4t (sRet (vC (.int 1))) sNil (r24 cs (w0 :: w1 :: r2) w1) [] = .ret (.d (.int 1)) [] := by
            unfold sIf
            rw [s4, hn]
            rfl
          have e : rdW (w0 :: w1 :: r2) = .inl 1 := by unfold rdW; dsimp only; rw [hi, if_pos rfl]; try dsimp only
                                                       rw [hn]; rfl
          rw [seq_ret e4, e]
          rfl
        | true =>
          have e4 : sIf A4t (sRet (vC (.int 1))) sNil (r24 cs (w0 :: w1 :: r2) w1) [] = .nx (r24 cs (w0 :: w1 :: r2) w1) [] := by
            unfold sIf
            rw [s4, hn]
            rfl
          rw [seq_nx e4]
          have hi1 := int_ss hn
          have hm : ∀ μ, fEq (.d (.str (SS w0))) (.d (.str "more")) μ = .ok (.d (.bl (decide (w0 = WMORE)))) μ := fun μ => eq_ss w0 WMORE μ
          by_cases c0 : w0 = WMORE
          · have s5 : A5 (r24 cs (w0 :: w1 :: r2) w1) [] = .ret (.d (rdD (rdW (w0 :: w1 :: r2)))) [] := by
              simp only [decide_eq_true c0] at hm
              cases r2 with
              | nil =>
                have e : rdW [w0, w1] = .inr ("more", dv w1, .non) := by
                  unfold rdW; dsimp only; rw [hi, if_pos rfl]; try dsimp only
                  rw [hn, if_pos rfl, if_pos c0]
                rw [e]
                unfold r24
                generalize tt [w0, w1] = L at *
                simp [sSeq, sSet, sIf, sRet, sRetN, sSetIx, sExpr, sNil, sAsg, sAsgs, sPar, tOf, tAnd', tOr', tNot', tYes', tIfT, v2, v1, vN, vVar, vC, vAnd, vOr, vNot, vIf, aCons, aNil, fGt, fGe, fLt, fLe, fI, fIC, fSub, fMul, fDiv, fMod, fPow, fNeg, cMul, cDiv, cMod, cPow, fAbs, ev_bind, ev_berr, ev_then, ev_terr, List.getElem?_cons_zero, List.getElem?_cons_succ, List.set_cons_zero, List.set_cons_succ, e0, l0, hm, eq_int, hi1, tup3, lst1, rdD]
              | cons w2 r3 =>
                have e : rdW (w0 :: w1 :: w2 :: r3) = .inl 2 := by
                  unfold rdW; dsimp only; rw [hi, if_pos rfl]; try dsimp only
                  rw [hn, if_pos rfl, if_pos c0]
                rw [e]
                unfold r24
                generalize tt (w0 :: w1 :: w2 :: r3) = L at *
                simp [sSeq, sSet, sIf, sRet, sRetN, sSetIx, sExpr, sNil, sAsg, sAsgs, sPar, tOf, tAnd', tOr', tNot', tYes', tIfT, v2, v1, vN, vVar, vC, vAnd, vOr, vNot, vIf, aCons, aNil, fGt, fGe, fLt, fLe, fI, fIC, fSub, fMul, fDiv, fMod, fPow, fNeg, cMul, cDiv, cMod, cPow, fAbs, ev_bind, ev_berr, ev_then, ev_terr, List.getElem?_cons_zero, List.getElem?_cons_succ, List.set_cons_zero, List.set_cons_succ, e0, l0, hm, eq_int, hi1, tup3, lst1, rdD, show ¬ ((r3.length : Int) + 1 + 1 + 1 = 2) by omega]
            rw [seq_ret s5]
          · simp only [decide_eq_false c0] at hm
            have s5 : A5 (r24 cs (w0 :: w1 :: r2) w1) [] = .nx (r24 cs (w0 :: w1 :: r2) w1) [] := by
              unfold r24
              generalize tt (w0 :: w1 :: r2) = L at *
              simp [sSeq, sSet, sIf, sRet, sRetN, sSetIx, sExpr, sNil, sAsg, sAsgs, sPar, tOf, tAnd', tOr', tNot', tYes', tIfT, v2, v1, vN, vVar, vC, vAnd, vOr, vNot, vIf, aCons, aNil, fGt, fGe, fLt, fLe, fI, fIC, fSub, fMul, fDiv, fMod, fPow, fNeg, cMul, cDiv, cMod, cPow, fAbs, ev_bind, ev_berr, ev_then, ev_terr, List.getElem?_cons_zero, List.getElem?_cons_succ, List.set_cons_zero, List.set_cons_succ, e0, hm]
            have s6 := a6_ok cs w1 w0 w1 r2 (fun x hx => (hws x (by simp [hx])).1) []
            rw [seq_nx s5]
            cases r2 with
            | nil =>
              have e : rdW [w0, w1] = .inl 2 := by
                unfold rdW; dsimp only; rw [hi, if_pos rfl]; try dsimp only
                rw [hn, if_pos rfl, if_neg c0]
              have e6 : sIf A6t (sRet (vC (.int 2))) sNil (r24 cs [w0, w1] w1) [] = .ret (.d (.int 2)) [] := by
                unfold sIf
                rw [s6]
                rfl
              rw [seq_ret e6, e]
              rfl
            | cons w2 r3 =>
              have e2 := ix2 w0 w1 w2 r3
              cases hl : letB w2 with
              | false =>
                have e : rdW (w0 :: w1 :: w2 :: r3) = .inl 2 := by
                  unfold rdW; dsimp only; rw [hi, if_pos rfl]; try dsimp only
                  rw [hn, if_pos rfl, if_neg c0]
                  cases r3 with
                  | nil => dsimp only; rw [hl]; rfl
                  | cons w3 r4 => dsimp only; rw [hl]; rfl
                have e6 : sIf A6t (sRet (vC (.int 2))) sNil (r24 cs (w0 :: w1 :: w2 :: r3) w1) [] = .ret (.d (.int 2)) [] := by
                  unfold sIf
                  rw [s6]
                  dsimp only
                  rw [hl]
                  rfl
                rw [seq_ret e6, e]
                rfl
              | true =>
                have e6 : sIf A6t (sRet (vC (.int 2))) sNil (r24 cs (w0 :: w1 :: w2 :: r3) w1) [] = .nx (r24 cs (w0 :: w1 :: w2 :: r3) w1) [] := by
                  unfold sIf
                  rw [s6]
                  dsimp only
                  rw [hl]
                  rfl
                rw [seq_nx e6]
                cases r3 with
                | nil =>
                  have e : rdW [w0, w1, w2] = .inr ("is", dv w1, .str (SS w2)) := by
                    unfold rdW; dsimp only; rw [hi, if_pos rfl]; try dsimp only
                    rw [hn, if_pos rfl, if_neg c0, if_pos hl]
                  rw [e]
                  unfold r24
                  generalize tt [w0, w1, w2] = L at *
                  simp [sSeq, sSet, sIf, sRet, sRetN, sSetIx, sExpr, sNil, sAsg, sAsgs, sPar, tOf, tAnd', tOr', tNot', tYes', tIfT, v2, v1, vN, vVar, vC, vAnd, vOr, vNot, vIf, aCons, aNil, fGt, fGe, fLt, fLe, fI, fIC, fSub, fMul, fDiv, fMod, fPow, fNeg, cMul, cDiv, cMod, cPow, fAbs, ev_bind, ev_berr, ev_then, ev_terr, List.getElem?_cons_zero, List.getElem?_cons_succ, List.set_cons_zero, List.set_cons_succ, e2, l0, eq_int, hi1, tup3, lst1, rdD]
                | cons w3 r4 =>
                  have e : rdW (w0 :: w1 :: w2 :: w3 :: r4) = .inl 3 := by
                    unfold rdW; dsimp only; rw [hi, if_pos rfl]; try dsimp only
                    rw [hn, if_pos rfl, if_neg c0, if_pos hl]
                  rw [e]
                  unfold r24
                  generalize tt (w0 :: w1 :: w2 :: w3 :: r4) = L at *
                  simp [sSeq, sSet, sIf, sRet, sRetN, sSetIx, sExpr, sNil, sAsg, sAsgs, sPar, tOf, tAnd', tOr', tNot', tYes', tIfT, v2, v1, vN, vVar, vC, vAnd, vOr, vNot, vIf, aCons, aNil, fGt, fGe, fLt, fLe, fI, fIC, fSub, fMul, fDiv, fMod, fPow, fNeg, cMul, cDiv, cMod, cPow, fAbs, ev_bind, ev_berr, ev_then, ev_terr, List.getElem?_cons_zero, List.getElem?_cons_succ, List.set_cons_zero, List.set_cons_succ, e2, l0, eq_int, hi1, tup3, lst1, rdD, show ¬ ((r4.length : Int) + 1 + 1 + 1 + 1 = 3) by omega]
end K36
set_option Elab.async false
set_option linter.all false
set_option maxRecDepth 100000
set_option maxHeartbeats 2000000
set_option autoImplicit false
namespace K36
open PySem PySem.Spec PyProof.Rows L2 Iv
/-! ### plain questions -/
inductive Pl where
  | more (k : Nat) | is (k c : Nat)
deriving DecidableEq
def Pl.ok : Pl → Prop
  | .more k => k ≤ 99999
  | .is k c => k ≤ 99999 ∧ 97 ≤ c ∧ c ≤ 122
def Pl.w : Pl → Str
  | .more _ => "more"
  | .is _ _ => "is"
def Pl.k : Pl → Nat
  | .more k => k
  | .is k _ => k
def Pl.l : Pl → D
  | .more _ => .non
  | .is _ c => sg c
def Pl.txt : Pl → List Nat
  | .more k => WMORE ++ [32] ++ TL.numL k
  | .is k c => WIS ++ [32] ++ TL.numL k ++ [32] ++ [c]
def Pl.d (p : Pl) : D := .tup [.str p.w, .int (p.k : Nat), p.l]
def Pl.q (p : Pl) : D := qd p.w (p.k : Nat) p.l
theorem Pl.kle {p : Pl} (h : p.ok) : p.k ≤ 99999 := by cases p with
  | more k => exact h
  | is k c => exact h.1
theorem num_len {k : Nat} (h : k ≤ 99999) : (TL.numL k).length ≤ 5 := TL.numL_len (by decide) (by omega)
theorem num_str (k : Nat) : (toString ((k : Nat) : Int) : Str) = SS (TL.numL k) := SX.num_S k
theorem rep_c : ∀ c, c < 123 → 97 ≤ c → (reprText (SS [c])).length ≤ 10 := by decide +kernel
theorem log_ok {k : Nat} (h : k ≤ 99999) : decide ((k : Int).natAbs.log2 < 1920) = true := by
  refine decide_eq_true ?_
  rw [Int.natAbs_natCast]
  refine Nat.lt_of_le_of_lt (m := 17) ?_ (by decide)
  by_cases h0 : k = 0
  · subst h0; decide
  · exact Nat.le_of_lt_succ ((Nat.log2_lt h0).mpr (by omega))
theorem tup_len3 (a b c : Str) : (tupleText [a, b, c]).length = a.length + b.length + c.length + 6 := by
  show (("(" : Str) ++ (a ++ ", " ++ (b ++ ", " ++ c)) ++ (")" : String)).length = _
  simp only [Str.length_append]
  have h1 : ("(" : Str).length = 1 := rfl
  have h2 : ((", " : String) : Str).length = 2 := rfl
  have h3 : ((")" : String) : Str).length = 1 := rfl
  omega
theorem repr_of {d : D} {p : PyData} (h : d.py = some p) (hs : shows p = true) (h0 : ∀ μ, isDic0 (.d d) μ = false) : ∀ μ, fReprA (.d d) μ = .ok (.d (.str p.shown)) μ := fun μ => by
  show (if isDic0 (.d d) μ = true then fRepr0 (.d d) μ else fRepr (.d d) μ) = _
  rw [h0, if_neg Bool.false_ne_true]
  show (match d.py with | some p => if shows p = true then Res.ok (U.d (D.str p.shown)) μ else .bad | none => .bad : Res U) = _
  rw [h]
  exact if_pos hs
theorem pl_repr {p : Pl} (hp : p.ok) : ∃ s, ∀ μ, fReprA (.d p.d) μ = .ok (.d (.str s)) μ := by
  have hk := Pl.kle hp
  have hn : ((toString ((p.k : Nat) : Int) : Str)).length ≤ 5 := by rw [num_str, SX.S_len]; exact num_len hk
  cases p with
  | more k =>
    have hk : k ≤ 99999 := hk
    refine ⟨_, repr_of (p := .tuple [.str "more", .int (k : Nat), .none]) (by rfl) ?_ (fun μ => rfl)⟩
    unfold shows
    simp only [PyData.showable, PyData.showableAll, PyData.hasDict, PyData.hasDictAll, PyData.shown, PyData.shownAll, PyData.depth, PyData.depthAll, log_ok hk, tup_len3]
    have h1 : (reprText "more").length = 6 := by kernel_rfl
    have h2 : ("None" : Str).length = 4 := rfl
    have hn' : ((toString ((k : Nat) : Int) : Str)).length ≤ 5 := hn
    generalize (toString ((k : Nat) : Int) : Str) = t at *
    simp [h1, h2]
    omega
  | is k c =>
    have hk : k ≤ 99999 := hk
    refine ⟨_, repr_of (p := .tuple [.str "is", .int (k : Nat), .str (SS [c])]) (by rfl) ?_ (fun μ => rfl)⟩
    unfold shows
    simp only [PyData.showable, PyData.showableAll, PyData.hasDict, PyData.hasDictAll, PyData.shown, PyData.shownAll, PyData.depth, PyData.depthAll, log_ok hk, tup_len3]
    have h1 : (reprText "is").length = 4 := by kernel_rfl
    have h2 := rep_c c (by have := hp.2.2; omega) hp.2.1
    have hn' : ((toString ((k : Nat) : Int) : Str)).length ≤ 5 := hn
    generalize (toString ((k : Nat) : Int) : Str) = t at *
    simp [h1]
    omega
theorem fst_int {k : Nat} (h : k ≤ 99999) (μ : Mu) : fStr (.d (.int (k : Nat))) μ = .ok (.d (.str (SS (TL.numL k)))) μ := by
  show (if ((k : Nat) : Int).natAbs < 2 ^ 1900 then Res.ok (U.d (D.str (toString ((k : Nat) : Int)))) μ else .bad : Res U) = _
  rw [if_pos (by rw [Int.natAbs_natCast]; exact Nat.lt_of_le_of_lt h (by decide)), num_str]
theorem fmt_int {k : Nat} (h : k ≤ 99999) (μ : Mu) : fFmt (.d (.int (k : Nat))) μ = .ok (.d (.str (SS (TL.numL k)))) μ := by
  show (if ((k : Nat) : Int).natAbs.log2 < 1920 then Res.ok (U.d (D.str (toString ((k : Nat) : Int)))) μ else .bad : Res U) = _
  rw [if_pos (of_decide_eq_true (log_ok h)), num_str]
theorem fmt_str (a : List Nat) (h : a.length ≤ 1000000) (μ : Mu) : fFmt (.d (.str (SS a))) μ = .ok (.d (.str (SS a))) μ := by
  show (if (SS a).length ≤ 1000000 then _ else _ : Res U) = _
  exact if_pos (by show a.toArray.size ≤ _; rw [List.size_toArray]; exact h)
theorem add_ss (a b : List Nat) (h : a.length + b.length ≤ 1000000) (μ : Mu) : fAdd (.d (.str (SS a))) (.d (.str (SS b))) μ = .ok (.d (.str (SS (a ++ b)))) μ := by
  show (if (SS a).length + (SS b).length ≤ 1000000 then Res.ok (U.d (D.str (SS a ++ SS b))) μ else .bad : Res U) = _
  rw [if_pos (by show a.toArray.size + b.toArray.size ≤ _; rw [List.size_toArray, List.size_toArray]; exact h)]
  rw [show SS a ++ SS b = SS (a ++ b) from SX.S_cat a b]
theorem vj_cons {m : Sm U} {ms : List (Sm U)} {acc y : List Nat} {ρ : Rho} {μ μ1 : Mu} (h : m ρ μ = .ok (.d (.str (SS y))) μ1) (hl : (acc ++ y).length ≤ 1000000) : vJoin (m :: ms) (SS acc) ρ μ = vJoin ms (SS (acc ++ y)) ρ μ1 := by
  show ((m ρ μ).bind _) = _
  rw [h, ev_bind]
  dsimp only
  rw [show SS acc ++ SS y = SS (acc ++ y) from SX.S_cat acc y]
  exact if_pos (by show (acc ++ y).toArray.size ≤ _; rw [List.size_toArray]; exact hl)
theorem fld_w (p : Pl) (μ : Mu) : fFld "word" [4] (.d p.q) μ = .ok (.d (.str p.w)) μ := by kernel_rfl
theorem fld_n (p : Pl) (μ : Mu) : fFld "number" [4] (.d p.q) μ = .ok (.d (.int (p.k : Nat))) μ := by kernel_rfl
theorem fld_l (p : Pl) (μ : Mu) : fFld "letter" [4] (.d p.q) μ = .ok (.d p.l) μ := by kernel_rfl
theorem at_w (p : Pl) (μ : Mu) : fAt "word" [4] [2] (.d p.q) μ = .ok (.d (.str p.w)) μ := by kernel_rfl
theorem v1_fld {f : U → Mu → Res U} {i : Nat} {ρ : Rho} {μ : Mu} {u : U} (h : ρ[i]? = some (some u)) : v1 f (vVar i) ρ μ = f u μ := by
  unfold v1 vVar
  rw [h]
  rfl
theorem str_q (n : Nat) (p : Pl) (hp : p.ok) : (run (n + 1)).f 16 [.d p.q] [] = .ok (.d (.str (SS p.txt))) [] none := by
  have hk := Pl.kle hp
  have hl := num_len hk
  refine en_ret (b := b_16 (run n)) (N := 1) (ex := []) ?_
  show b_16 (run n) [some (.d p.q)] [] = _
  have hw : v1 fFmt (v1 (fFld "word" [4]) (vVar 0)) [some (.d p.q)] [] = .ok (.d (.str p.w)) [] := by
    have e : v1 (fFld "word" [4]) (vVar 0) [some (.d p.q)] [] = .ok (.d (.str p.w)) [] := (v1_fld (i := 0) rfl).trans (fld_w p [])
    show ((v1 (fFld "word" [4]) (vVar 0) [some (.d p.q)] []).bind fFmt) = _
    rw [e]
    cases p <;> kernel_rfl
  have hn : v1 fFmt (v1 (fFld "number" [4]) (vVar 0)) [some (.d p.q)] [] = .ok (.d (.str (SS (TL.numL p.k)))) [] := by
    have e : v1 (fFld "number" [4]) (vVar 0) [some (.d p.q)] [] = .ok (.d (.int (p.k : Nat))) [] := (v1_fld (i := 0) rfl).trans (fld_n p [])
    show ((v1 (fFld "number" [4]) (vVar 0) [some (.d p.q)] []).bind fFmt) = _
    rw [e]
    exact fmt_int hk []
  have he : v1 (fFld "letter" [4]) (vVar 0) [some (.d p.q)] [] = .ok (.d p.l) [] := (v1_fld (i := 0) rfl).trans (fld_l p [])
  cases p with
  | more k =>
    have h1 : tOf (v2 fIs (v1 (fFld "letter" [4]) (vVar 0)) (vC .non)) [some (.d (Pl.more k).q)] [] = .ok true [] := by kernel_rfl
    have hj : vJoin [(v1 fFmt (v1 (fFld "word" [4]) (vVar 0))), (vC (.str " ")), (v1 fFmt (v1 (fFld "number" [4]) (vVar 0)))] Str.empty [some (.d (Pl.more k).q)] [] = .ok (.d (.str (SS (Pl.more k).txt))) [] := by
      refine (vj_cons (acc := []) (y := WMORE) hw (by decide)).trans ?_
      refine (vj_cons (acc := [] ++ WMORE) (y := [32]) rfl (by decide)).trans ?_
      refine (vj_cons hn (by simp; omega)).trans ?_
      rfl
    unfold b_16
    refine seq_ret ?_
    unfold sIf
    rw [h1]
    show sRet _ _ _ = _
    unfold sRet
    rw [hj]
    rfl
  | is k c =>
    have h1 : tOf (v2 fIs (v1 (fFld "letter" [4]) (vVar 0)) (vC .non)) [some (.d (Pl.is k c).q)] [] = .ok false [] := by kernel_rfl
    have hc : v1 fFmt (v1 (fFld "letter" [4]) (vVar 0)) [some (.d (Pl.is k c).q)] [] = .ok (.d (.str (SS [c]))) [] := by
      show ((v1 (fFld "letter" [4]) (vVar 0) [some (.d (Pl.is k c).q)] []).bind fFmt) = _
      rw [he]
      exact fmt_str [c] (by simp) []
    have hj : vJoin [(v1 fFmt (v1 (fFld "word" [4]) (vVar 0))), (vC (.str " ")), (v1 fFmt (v1 (fFld "number" [4]) (vVar 0))), (vC (.str " ")), (v1 fFmt (v1 (fFld "letter" [4]) (vVar 0)))] Str.empty [some (.d (Pl.is k c).q)] [] = .ok (.d (.str (SS (Pl.is k c).txt))) [] := by
      have hl' : (TL.numL k).length ≤ 5 := hl
      refine (vj_cons (acc := []) (y := WIS) hw (by decide)).trans ?_
      refine (vj_cons (acc := [] ++ WIS) (y := [32]) rfl (by decide)).trans ?_
      refine (vj_cons hn (by simp; omega)).trans ?_
      refine (vj_cons (y := [32]) rfl (by simp; omega)).trans ?_
      refine (vj_cons hc (by simp; omega)).trans ?_
      rfl
    unfold b_16
    have s1 : (sIf (tOf (v2 fIs (v1 (fFld "letter" [4]) (vVar 0)) (vC .non))) (sRet (vJoin [(v1 fFmt (v1 (fFld "word" [4]) (vVar 0))), (vC (.str " ")), (v1 fFmt (v1 (fFld "number" [4]) (vVar 0)))] Str.empty)) sNil) [some (.d (Pl.is k c).q)] [] = .nx [some (.d (Pl.is k c).q)] [] := by
      unfold sIf
      rw [h1]
      rfl
    rw [seq_nx s1]
    unfold sRet
    rw [hj]
    rfl
theorem eq_l (p p' : Pl) (μ : Mu) : fEq (.d p.l) (.d p'.l) μ = .ok (.d (.bl (decide (p.l.tv = p'.l.tv)))) μ := by
  cases p with
  | more k => cases p' with
    | more k' => rfl
    | is k' c' => rw [decide_eq_false (by intro z; cases z)]; rfl
  | is k c => cases p' with
    | more k' => rw [decide_eq_false (by intro z; cases z)]; rfl
    | is k' c' =>
      refine (eq_ss [c] [c'] μ).trans ?_
      congr 3
      refine decide_eq_decide.mpr ⟨fun h => ?_, fun h => ?_⟩
      · injection h with h1; subst h1; rfl
      · have h2 : V.str (SS [c]) = V.str (SS [c']) := h
        injection h2 with h3
        exact SX.S_inj h3
theorem pl_eq (p p' : Pl) : (decide (p.w = p'.w) && (decide ((p.k : Int) = p'.k) && decide (p.l.tv = p'.l.tv))) = decide (p = p') := by
  cases p with
  | more k => cases p' with
    | more k' =>
      by_cases h : k = k'
      · subst h; simp [Pl.w, Pl.k, Pl.l]
      · simp [Pl.w, Pl.k, Pl.l, h, show ¬ ((k : Int) = k') by omega]
    | is k' c' =>
      have : decide ((Pl.more k).w = (Pl.is k' c').w) = false := decide_eq_false (show ¬ (("more" : Str) = "is") by decide +kernel)
      rw [this]; simp
  | is k c => cases p' with
    | more k' =>
      have : decide ((Pl.is k c).w = (Pl.more k').w) = false := decide_eq_false (show ¬ (("is" : Str) = "more") by decide +kernel)
      rw [this]; simp
    | is k' c' =>
      have hw : decide ((Pl.is k c).w = (Pl.is k' c').w) = true := decide_eq_true rfl
      have hl : decide ((Pl.is k c).l.tv = (Pl.is k' c').l.tv) = decide (c = c') := by
        refine decide_eq_decide.mpr ⟨fun h => ?_, fun h => by rw [h]; rfl⟩
        have h2 : V.str (SS [c]) = V.str (SS [c']) := h
        injection h2 with h3
        injection (SX.S_inj h3)
      rw [hw, hl]
      by_cases h : k = k'
      · subst h; simp [Pl.k]
      · simp [Pl.k, h, show ¬ ((k : Int) = k') by omega]
theorem isq_t (p : Pl) (μ : Mu) : fIsi isi_Question (.d p.q) μ = .ok (.d (.bl true)) μ := by kernel_rfl
theorem eq_q (n : Nat) (p p' : Pl) : (run (n + 1)).f 15 [.d p.q, .d p'.q] [] = .ok (.d (.bl (decide (p = p')))) [] none := by
  refine en_ret (b := b_15 (run n)) (N := 2) (ex := []) ?_
  have h1 := isq_t p'
  have h2 := fld_w p
  have h3 := at_w p'
  have h4 := fld_n p
  have h5 := fld_n p'
  have h6 := fld_l p
  have h7 := fld_l p'
  have h8 := eq_l p p'
  have h9 : ∀ μ, fEq (.d (.str p.w)) (.d (.str p'.w)) μ = .ok (.d (.bl (decide (p.w = p'.w)))) μ := fun μ => rfl
  have h10 := fun μ => eq_int (p.k : Nat) (p'.k : Nat) μ
  rw [← pl_eq]
  show b_15 (run n) [some (.d p.q), some (.d p'.q)] [] = _
  unfold b_15
  generalize decide (p.w = p'.w) = x1 at *
  generalize decide ((p.k : Int) = p'.k) = x2 at *
  generalize decide (p.l.tv = p'.l.tv) = x3 at *
  generalize fAt "word" [4] [2] = g at *
  cases x1 <;> cases x2 <;> simp [sSeq, sSet, sIf, sRet, sRetN, sSetIx, sExpr, sNil, sAsg, sAsgs, sPar, tOf, tAnd', tOr', tNot', tYes', tIfT, v2, v1, vN, vVar, vC, vAnd, vOr, vNot, vIf, aCons, aNil, fGt, fGe, fLt, fLe, fI, fIC, fSub, fMul, fDiv, fMod, fPow, fNeg, cMul, cDiv, cMod, cPow, fAbs, ev_bind, ev_berr, ev_then, ev_terr, List.getElem?_cons_zero, List.getElem?_cons_succ, List.set_cons_zero, List.set_cons_succ, h1, h2, h3, h4, h5, h6, h7, h8, h9, h10]
theorem made (n : Nat) (p : Pl) (hp : p.ok) : (run (n + 4)).f 22 [.d p.d] [] = .ok (.d p.q) [] none := by
  have hk := Pl.kle hp
  show exitF 0 false (b_22 (run (n + 3)) [some (.d p.d)] []) = _
  cases p with
  | more k =>
    have hk : k ≤ 99999 := hk
    have h := mk1 (c := 4) (fn := (run (n + 3)).f 12) (ix := [0, 1, 2, 3]) (ds := [D.non]) (us := [.d (.str "more"), .d (.int (k : Nat))]) (ws := []) (μ := []) (ds' := [.str "more", .int (k : Nat), .non]) (ns := ["word", "number", "letter"]) (vs := [.str "more", .int (k : Nat), .non]) (q_more n k (by omega) (by omega)) rfl
    have e : b_22 (run (n + 3)) [some (.d (Pl.more k).d)] [] = .ret (.p 0) ([] ++ [.ins 4 ["word", "number", "letter"] [.d (.str "more"), .d (.int (k : Nat)), .d .non]]) := by
      show ((resMk 4 ((run (n + 3)).f 12) [0, 1, 2, 3] [D.non] [true] [.d (.str "more"), .d (.int (k : Nat))] [] []).thenS _ _) = _
      rw [h]
      rfl
    rw [e]
    kernel_rfl
  | is k c =>
    have hk : k ≤ 99999 := hk
    have h := mk1 (c := 4) (fn := (run (n + 3)).f 12) (ix := [0, 1, 2, 3]) (ds := [D.non]) (us := [.d (.str "is"), .d (.int (k : Nat)), .d (sg c)]) (ws := []) (μ := []) (ds' := [.str "is", .int (k : Nat), sg c]) (ns := ["word", "number", "letter"]) (vs := [.str "is", .int (k : Nat), sg c]) (q_is n k c (by omega) (by omega) hp.2) rfl
    have e : b_22 (run (n + 3)) [some (.d (Pl.is k c).d)] [] = .ret (.p 0) ([] ++ [.ins 4 ["word", "number", "letter"] [.d (.str "is"), .d (.int (k : Nat)), .d (sg c)]]) := by
      show ((resMk 4 ((run (n + 3)).f 12) [0, 1, 2, 3] [D.non] [true] [.d (.str "is"), .d (.int (k : Nat)), .d (sg c)] [] []).thenS _ _) = _
      rw [h]
      rfl
    rw [e]
    kernel_rfl
end K36
set_option Elab.async false
set_option linter.all false
set_option maxRecDepth 100000
set_option maxHeartbeats 2000000
set_option autoImplicit false
namespace K36
open PySem PySem.Spec PyProof.Rows L2 Iv
theorem pix0 (p : Pl) (μ : Mu) : fIx (.d p.d) (.d (.int 0)) μ = .ok (.d (.str p.w)) μ := by kernel_rfl
theorem pix1 (p : Pl) (μ : Mu) : fIx (.d p.d) (.d (.int 1)) μ = .ok (.d (.int (p.k : Nat))) μ := by kernel_rfl
theorem pix2 (p : Pl) (μ : Mu) : fIx (.d p.d) (.d (.int 2)) μ = .ok (.d p.l) μ := by kernel_rfl
theorem text_of (n : Nat) (p : Pl) (hp : p.ok) : (run (n + 1)).f 23 [.d p.d] [] = .ok (.d (.str (SS p.txt))) [] none := by
  refine en_ret (b := b_23 (run n)) (N := 1) (ex := []) ?_
  show b_23 (run n) [some (.d p.d)] [] = _
  have hk := Pl.kle hp
  have hl := num_len hk
  have h0 := pix0 p
  have h1 := pix1 p
  have h2 := pix2 p
  have h3 := fst_int hk
  cases p with
  | more k =>
    have hl : (TL.numL k).length ≤ 5 := hl
    have a1 : ∀ μ, fAdd (.d (.str (Pl.more k).w)) (.d (.str " ")) μ = .ok (.d (.str (SS (WMORE ++ [32])))) μ := fun μ => add_ss WMORE [32] (by decide) μ
    have a2 : ∀ μ, fAdd (.d (.str (SS (WMORE ++ [32])))) (.d (.str (SS (TL.numL (Pl.more k).k)))) μ = .ok (.d (.str (SS (Pl.more k).txt))) μ := fun μ => add_ss (WMORE ++ [32]) (TL.numL k) (by simp; omega) μ
    have a3 : ∀ μ, fAdd (.d (.str (SS (Pl.more k).txt))) (.d (.str "")) μ = .ok (.d (.str (SS (Pl.more k).txt))) μ := fun μ => by
      have := add_ss (Pl.more k).txt [] (by simp [Pl.txt]; omega) μ
      rw [List.append_nil] at this
      exact this
    have a4 : ∀ μ, fIs (.d (Pl.more k).l) (.d .non) μ = .ok (.d (.bl true)) μ := fun μ => rfl
    generalize (Pl.more k).d = x at *
    generalize WMORE ++ [32] = t0 at *
    simp [b_23, sSeq, sSet, sIf, sRet, sRetN, sSetIx, sExpr, sNil, sAsg, sAsgs, sPar, tOf, tAnd', tOr', tNot', tYes', tIfT, v2, v1, vN, vVar, vC, vAnd, vOr, vNot, vIf, aCons, aNil, fGt, fGe, fLt, fLe, fI, fIC, fSub, fMul, fDiv, fMod, fPow, fNeg, cMul, cDiv, cMod, cPow, fAbs, ev_bind, ev_berr, ev_then, ev_terr, List.getElem?_cons_zero, List.getElem?_cons_succ, List.set_cons_zero, List.set_cons_succ, h0, h1, h2, h3, a1, a2, a3, a4]
  | is k c =>
    have hl : (TL.numL k).length ≤ 5 := hl
    have a1 : ∀ μ, fAdd (.d (.str (Pl.is k c).w)) (.d (.str " ")) μ = .ok (.d (.str (SS (WIS ++ [32])))) μ := fun μ => add_ss WIS [32] (by decide) μ
    have a2 : ∀ μ, fAdd (.d (.str (SS (WIS ++ [32])))) (.d (.str (SS (TL.numL (Pl.is k c).k)))) μ = .ok (.d (.str (SS (WIS ++ [32] ++ TL.numL k)))) μ := fun μ => add_ss (WIS ++ [32]) (TL.numL k) (by simp; omega) μ
    have a3 : ∀ μ, fAdd (.d (.str " ")) (.d (Pl.is k c).l) μ = .ok (.d (.str (SS ([32] ++ [c])))) μ := fun μ => add_ss [32] [c] (by simp) μ
    have a4 : ∀ μ, fIs (.d (Pl.is k c).l) (.d .non) μ = .ok (.d (.bl false)) μ := fun μ => rfl
    have a5 : ∀ μ, fAdd (.d (.str (SS (WIS ++ [32] ++ TL.numL k)))) (.d (.str (SS ([32] ++ [c])))) μ = .ok (.d (.str (SS (Pl.is k c).txt))) μ := fun μ => by
      have := add_ss (WIS ++ [32] ++ TL.numL k) ([32] ++ [c]) (by simp; omega) μ
      rw [← List.append_assoc] at this
      exact this
    generalize (Pl.is k c).d = x at *
    generalize (Pl.is k c).txt = t at *
    generalize WIS ++ [32] ++ TL.numL k = t2 at *
    generalize [32] ++ [c] = t3 at *
    generalize WIS ++ [32] = t0 at *
    simp [b_23, sSeq, sSet, sIf, sRet, sRetN, sSetIx, sExpr, sNil, sAsg, sAsgs, sPar, tOf, tAnd', tOr', tNot', tYes', tIfT, v2, v1, vN, vVar, vC, vAnd, vOr, vNot, vIf, aCons, aNil, fGt, fGe, fLt, fLe, fI, fIC, fSub, fMul, fDiv, fMod, fPow, fNeg, cMul, cDiv, cMod, cPow, fAbs, ev_bind, ev_berr, ev_then, ev_terr, List.getElem?_cons_zero, List.getElem?_cons_succ, List.set_cons_zero, List.set_cons_succ, h0, h1, h2, h3, a1, a2, a3, a4, a5]
theorem spl_ne : ∀ (cs acc : List Nat), TL.spl [32] 0 acc cs ≠ []
  | [], acc => by rw [TL.spl_nil]; simp
  | c :: r, acc => by
    by_cases hp : TL.pre [32] (c :: r) = true
    · rw [TL.spl_hit hp]; simp
    · rw [TL.spl_miss (by simpa using hp)]; exact spl_ne r _
theorem join_spl : ∀ (cs acc : List Nat), TL.joinL [32] (TL.spl [32] 0 acc cs) = acc ++ cs
  | [], acc => by rw [TL.spl_nil, List.append_nil]; rfl
  | c :: r, acc => by
    by_cases hp : TL.pre [32] (c :: r) = true
    · have hc : c = 32 := by
        have : ([c] == [32]) = true := hp
        simpa using this
      rw [TL.spl_hit hp]
      show TL.joinL [32] (acc :: TL.spl [32] 0 [] r) = _
      have ih := join_spl r []
      cases e : TL.spl [32] 0 [] r with
      | nil => exact absurd e (spl_ne r [])
      | cons q l =>
        rw [e] at ih
        show acc ++ ([32] ++ TL.joinL [32] (q :: l)) = _
        rw [ih, hc]
        rfl
    · rw [TL.spl_miss (by simpa using hp), join_spl r (acc ++ [c])]
      simp
theorem rd_pl {W : List (List Nat)} {w : Str} {i : Int} {l : D} (h : rdW W = .inr (w, i, l)) : ∃ p : Pl, p.ok ∧ w = p.w ∧ i = (p.k : Nat) ∧ l = p.l ∧ TL.joinL [32] W = p.txt := by
  cases W with
  | nil => cases h
  | cons w0 rest =>
    unfold rdW at h
    dsimp only at h
    split at h
    · rename_i hi
      cases rest with
      | nil => cases h
      | cons w1 r2 =>
        dsimp only at h
        split at h
        · rename_i hn
          obtain ⟨n1, n2, n3, n4⟩ := num_parts hn
          have hb := (num_back _ w1 (Nat.le_refl _) (dg_of n3) n4).1
          have hle := (dv_le hn).2
          split at h
          · rename_i c0
            cases r2 with
            | nil =>
              cases h
              refine ⟨.more (NumText.digitsVal w1), ?_, rfl, rfl, rfl, ?_⟩
              · show NumText.digitsVal w1 ≤ 99999
                unfold dv at hle
                omega
              · show w0 ++ ([32] ++ w1) = WMORE ++ [32] ++ TL.numL (NumText.digitsVal w1)
                rw [hb, c0, List.append_assoc]
            | cons w2 r3 => cases h
          · rename_i c0
            have his : w0 = WIS := by
              have : (decide (w0 = WIS) || decide (w0 = WMORE)) = true := hi
              simpa [c0] using this
            cases r2 with
            | nil => cases h
            | cons w2 r3 =>
              cases r3 with
              | nil =>
                dsimp only at h
                split at h
                · rename_i hl
                  cases h
                  rw [Bool.and_eq_true, decide_eq_true_eq] at hl
                  match w2, hl with
                  | [c], ⟨h1, _⟩ =>
                    unfold inY at h1
                    rw [List.all_cons, Bool.and_eq_true] at h1
                    refine ⟨.is (NumText.digitsVal w1) c, ⟨?_, (mem_az c).mp (of_decide_eq_true h1.1)⟩, rfl, rfl, rfl, ?_⟩
                    · unfold dv at hle
                      omega
                    · show w0 ++ ([32] ++ (w1 ++ ([32] ++ [c]))) = WIS ++ [32] ++ TL.numL (NumText.digitsVal w1) ++ [32] ++ [c]
                      rw [hb, his]
                      simp
                · cases h
              | cons w3 r4 =>
                dsimp only at h
                split at h <;> cases h
        · cases h
    · cases h
theorem vcl0 {fn : Fn} {k : Nat} {js : List Nat} {ρ : Rho} {μ : Mu} {ds : List D} (h : capU ρ js = some (ds.map .d)) (hn : D.ncL ds = true) (hl : js.length = ds.length) : vCallLam fn k js 1 [0] [] aNil ρ μ = retY (fn [.d (.clo k ds)] []) μ := by
  show (match capU ρ js with
    | none => .bad
    | some cs => match frzL (cs ++ []) μ with
      | none => .bad
      | some (xs, μ2) => if ([] : List U).length + 1 = 1 ∧ D.ncL (xs.take js.length) = true then retY (fn ((ixL [0] ((.clo k (xs.take js.length) :: xs.drop js.length) ++ [])).map .d) []) μ2 else .bad : Res U) = _
  rw [h]
  dsimp only
  rw [List.append_nil, frzL_d]
  dsimp only
  rw [hl, List.take_length, if_pos ⟨rfl, hn⟩]
  rfl
theorem rep_small (k : Int) (h : k = 0 ∨ k = 1 ∨ k = 2 ∨ k = 3) : ∃ s, ∀ μ, fReprA (.d (.int k)) μ = .ok (.d (.str s)) μ := by
  rcases h with rfl | rfl | rfl | rfl <;> exact ⟨_, repr_of (p := .int _) (by rfl) (by decide +kernel) (fun μ => rfl)⟩
theorem rep_0 (μ : Mu) : fReprA (.d (.int 0)) μ = .ok (.d (.str "0")) μ := by kernel_rfl
theorem rd_small {W : List (List Nat)} {k : Int} (h : rdW W = .inl k) : k = 0 ∨ k = 1 ∨ k = 2 ∨ k = 3 := by
  unfold rdW at h
  split at h
  · split at h
    · split at h
      · split at h
        · split at h
          · split at h <;> cases h; omega
          · split at h
            · split at h <;> cases h; omega
            · split at h <;> cases h <;> omega
            · cases h; omega
        · cases h; omega
      · cases h; omega
    · cases h; omega
  · cases h; omega
theorem eq_tup3 (a b : Str) (μ : Mu) (ha : PyData.strOk a = true) (hb : PyData.strOk b = true) : fEq (.d (.tup [.str "text", .str a, .str b])) (.d (.tup [.str "text", .str a, .str b])) μ = .ok (.d (.bl true)) μ := by
  have hs : SeqAt.shaped (.tuple [.str "text", .str a, .str b]) = true := by
    unfold SeqAt.shaped
    simp only [PyData.canLay0, PyData.canLayAll0, PyData.depth, PyData.depthAll, ha, hb, Bool.true_and, Bool.and_true]
    kernel_rfl
  have h1 : eqD μ (.d (.tup [.str "text", .str a, .str b])) (.d (.tup [.str "text", .str a, .str b])) = some true := by
    show (if SeqAt.shaped (.tuple [.str "text", .str a, .str b]) = true ∧ SeqAt.shaped (.tuple [.str "text", .str a, .str b]) = true then some (PyData.eqv (.tuple [.str "text", .str a, .str b]) (.tuple [.str "text", .str a, .str b])) else none) = _
    rw [if_pos ⟨hs, hs⟩]
    simp [PyData.eqv, PyData.eqvAll]
  unfold fEq
  rw [h1]
end K36
set_option Elab.async false
set_option linter.all false
set_option maxRecDepth 100000
set_option maxHeartbeats 2000000
set_option autoImplicit false
namespace K36
open PySem PySem.Spec PyProof.Rows L2 Iv
theorem eqo_q (n : Nat) (p p' : Pl) (μ : Mu) : fEqO [(4, resF ((run (n + 1)).f 15) [0, 1] [] [true])] (oksO [3, 4]) (.d p.q) (.d p'.q) μ = .ok (.d (.bl (decide (p = p')))) μ := by
  show ((callL ((run (n + 1)).f 15) [true] ([p.q, p'.q].map .d) μ).bind blEnd) = _
  rw [call_d (eq_q n p p')]
  rfl
theorem stro_q (n : Nat) (p : Pl) (hp : p.ok) (μ : Mu) : fStrO [(4, (run (n + 1)).f 16)] (.d p.q) μ = .ok (.d (.str (SS p.txt))) μ := by
  show ((noErr (callL ((run (n + 1)).f 16) [true] ([p.q].map .d) μ)).bind stEnd) = _
  rw [call_d (str_q n p hp)]
  rfl
theorem neo_q (n : Nat) (p p' : Pl) (μ : Mu) : fNeO [(4, (run (n + 1)).f 15)] (oksO [3, 4]) (.d p.q) (.d p'.q) μ = .ok (.d (.bl (!decide (p = p')))) μ := by
  show ((noErr (callL ((run (n + 1)).f 15) [true] ([p.q, p'.q].map .d) μ)).bind ngEnd) = _
  rw [call_d (eq_q n p p')]
  rfl
theorem rep_smallk (k : Int) (h : k = 0 ∨ k = 1 ∨ k = 2 ∨ k = 3) : ∃ s, (∀ μ, fReprA (.d (.int k)) μ = .ok (.d (.str s)) μ) ∧ PyData.strOk s = true := by
  rcases h with rfl | rfl | rfl | rfl <;> exact ⟨_, repr_of (p := .int _) (by rfl) (by decide +kernel) (fun μ => rfl), by decide +kernel⟩
theorem nc_str (x : Str) : D.ncL [.str x] = true := rfl
theorem text_right (n : Nat) (cs : List Nat) (W : List (List Nat)) (h : TxtOk cs W) : (run (n + 7)).f 26 [.d (.str (SS cs))] [] = .ok (.d (.bl true)) [] none := by
  refine en_ret (b := b_26 (run (n + 6))) (N := 3) (ex := []) ?_
  show b_26 (run (n + 6)) [some (.d (.str (SS cs))), none, none] [] = _
  have c24 : ∀ μ, callL ((run (n + 6)).f 24) [] [.d (.str (SS cs))] μ = .ok (.d (rdD (rdW W))) μ := fun μ => call_d (ds := [.str (SS cs)]) (law_read (n + 5) cs W h)
  have e24 : vCall ((run (n + 6)).f 24) 1 0 [0] [] [] (aCons (vVar 0) aNil) aNil [some (.d (.str (SS cs))), none, none] [] = .ok (.d (rdD (rdW W))) [] := c24 []
  have hl := ft_lam n 0 (.inl rfl) cs W h
  have e20 : ∀ {r : FR}, (run (n + 6)).f 20 [.d (.clo 0 [.str (SS cs)])] [] = r → vCallLam ((run (n + 6)).f 20) 0 [0] 1 [0] [] aNil [some (.d (.str (SS cs))), none, none] [] = retY r [] := fun {r} e => by
    rw [vcl0 (ds := [.str (SS cs)]) rfl (nc_str _) rfl, e]
  have hj := join_spl cs []
  rw [← h.eq, List.nil_append] at hj
  cases hr : rdW W with
  | inl k =>
    rw [hr] at hl e24
    obtain ⟨s, hs, hok⟩ := rep_smallk k (rd_small hr)
    have f20 := e20 (heard_t (m := n + 5) (k := 0) (ds := [.str (SS cs)]) (nc_str _) hl rep_0 hs)
    have s1 : sPar 1 2 (aCons (vCall ((run (n + 6)).f 24) 1 0 [0] [] [] (aCons (vVar 0) aNil) aNil) (aCons (vCallLam ((run (n + 6)).f 20) 0 [0] 1 [0] [] aNil) aNil)) [some (.d (.str (SS cs))), none, none] [] = .nx [some (.d (.str (SS cs))), some (.d (.int k)), some (.d (.tup [.str "text", .str "0", .str s]))] [] := par_ok e24 f20
    have e3 := fun μ => eq_tup3 "0" s μ (by decide +kernel) hok
    have e4 := isi_li k
    unfold b_26
    rw [seq_nx s1]
    refine seq_ret ?_
    generalize fReprA = g at *
    simp [sSeq, sSet, sIf, sRet, sRetN, sSetIx, sExpr, sNil, sAsg, sAsgs, sPar, tOf, tAnd', tOr', tNot', tYes', tIfT, v2, v1, vN, vVar, vC, vAnd, vOr, vNot, vIf, aCons, aNil, fGt, fGe, fLt, fLe, fI, fIC, fSub, fMul, fDiv, fMod, fPow, fNeg, cMul, cDiv, cMod, cPow, fAbs, ev_bind, ev_berr, ev_then, ev_terr, List.getElem?_cons_zero, List.getElem?_cons_succ, List.set_cons_zero, List.set_cons_succ, fAdd, fInt, e4, hs, tup3, e3]
  | inr x =>
    obtain ⟨w, i, l⟩ := x
    obtain ⟨p, hp, rfl, rfl, rfl, ht⟩ := rd_pl hr
    rw [hr] at hl e24
    have f20 := e20 (heard_ok (m := n + 5) (k := 0) (ds := [.str (SS cs)]) (d := p.q) (nc_str _) hl)
    have s1 : sPar 1 2 (aCons (vCall ((run (n + 6)).f 24) 1 0 [0] [] [] (aCons (vVar 0) aNil) aNil) (aCons (vCallLam ((run (n + 6)).f 20) 0 [0] 1 [0] [] aNil) aNil)) [some (.d (.str (SS cs))), none, none] [] = .nx [some (.d (.str (SS cs))), some (.d (.lst [p.d])), some (.d (.lst [p.q]))] [] := par_ok e24 (f20.trans (by cases p <;> rfl))
    rw [hj] at ht
    subst ht
    obtain ⟨s, hs⟩ := pl_repr hp
    have e1 := isi_ls [p.d]
    have e2 := isi_ls [p.q]
    have e3 := isq_t p
    have e4 : ∀ μ, fIx (.d (.lst [p.q])) (.d (.int 0)) μ = .ok (.d p.q) μ := fun μ => by kernel_rfl
    have e5 : ∀ μ, fIx (.d (.lst [p.d])) (.d (.int 0)) μ = .ok (.d p.d) μ := fun μ => by kernel_rfl
    have e6 := at_w p
    have e7 := fld_n p
    have e8 := fld_l p
    have e9 : ∀ μ, oTup [.d (.str p.w), .d (.int (p.k : Nat)), .d p.l] μ = .ok (.d p.d) μ := fun μ => rfl
    have e10 := stro_q (n + 5) p hp
    have e11 := eqo_q (n + 5) p p
    have e12 : ∀ μ, callL ((run (n + 6)).f 22) [] [.d p.d] μ = .ok (.d p.q) μ := fun μ => call_d (ds := [p.d]) (made (n + 2) p hp)
    have e13 : ∀ μ, fEq (.d (.str s)) (.d (.str s)) μ = .ok (.d (.bl true)) μ := fun μ => by
      show Res.ok (U.d (D.bl (decide (s = s)))) μ = _
      rw [decide_eq_true rfl]
    have e14 : ∀ μ, fEq (.d (.str (SS p.txt))) (.d (.str (SS p.txt))) μ = .ok (.d (.bl true)) μ := fun μ => by rw [eq_ss, decide_eq_true rfl]
    simp only [decide_eq_true (show p = p from rfl)] at e11
    unfold b_26
    rw [seq_nx s1]
    generalize fReprA = g at *
    generalize fAt "word" [4] [2] = g2 at *
    generalize fStrO [(4, (run (n + 6)).f 16)] = g3 at *
    generalize fEqO [(4, resF ((run (n + 6)).f 15) [0, 1] [] [true])] (oksO [3, 4]) = g4 at *
    generalize p.q = q at *
    generalize p.d = d at *
    simp [sSeq, sSet, sIf, sRet, sRetN, sSetIx, sExpr, sNil, sAsg, sAsgs, sPar, tOf, tAnd', tOr', tNot', tYes', tIfT, v2, v1, vN, vVar, vC, vAnd, vOr, vNot, vIf, aCons, aNil, fGt, fGe, fLt, fLe, fI, fIC, fSub, fMul, fDiv, fMod, fPow, fNeg, cMul, cDiv, cMod, cPow, fAbs, ev_bind, ev_berr, ev_then, ev_terr, List.getElem?_cons_zero, List.getElem?_cons_succ, List.set_cons_zero, List.set_cons_succ, fAdd, fInt, e1, e2, e3, e4, e5, e6, e7, e8, e9, e10, e11, e12, e13, e14, hs, vCall, ixL]
end K36
set_option Elab.async false
set_option linter.all false
set_option maxRecDepth 100000
set_option maxHeartbeats 2000000
set_option autoImplicit false
namespace K36
open PySem PySem.Spec PyProof.Rows L2 Iv
/-! ### draws, whatever else the store holds -/
def DrG (ns : List Int) (c : Int) (F : Fn) (args : List D) (P : D → Prop) : Prop := ∀ at_ rest : Int, 0 ≤ at_ → at_ + c ≤ 1000001 → 0 ≤ rest →
  ∃ d at2 rest2, P d ∧ at_ ≤ at2 ∧ at2 ≤ at_ + c ∧ 0 ≤ rest2 ∧ F (.p 0 :: args.map .d) [pen ns at_ rest] = .ok (.d d) [pen ns at2 rest2] none
theorem DrG.call {ns : List Int} {c : Int} {F : Fn} {args : List D} {P : D → Prop} (h : DrG ns c F args P) (ex : Mu) (at_ rest : Int) (h1 : 0 ≤ at_) (h2 : at_ + c ≤ 1000001) (h3 : 0 ≤ rest) :
    ∃ d at2 rest2, P d ∧ at_ ≤ at2 ∧ at2 ≤ at_ + c ∧ 0 ≤ rest2 ∧ callL F [true] (.p 0 :: args.map .d) (pn ns at_ rest ++ ex) = .ok (.d d) (pn ns at2 rest2 ++ ex) := by
  obtain ⟨d, at2, rest2, p, q1, q2, q3, e⟩ := h at_ rest h1 h2 h3
  exact ⟨d, at2, rest2, p, q1, q2, q3, call_p (k := 0) (o := pen ns at_ rest) (o' := pen ns at2 rest2) (μ := pn ns at_ rest ++ ex) rfl rfl e⟩
theorem DrG.call0 {ns : List Int} {c : Int} {F : Fn} {args : List D} {P : D → Prop} (h : DrG ns c F args P) (at_ rest : Int) (h1 : 0 ≤ at_) (h2 : at_ + c ≤ 1000001) (h3 : 0 ≤ rest) :
    ∃ d at2 rest2, P d ∧ at_ ≤ at2 ∧ at2 ≤ at_ + c ∧ 0 ≤ rest2 ∧ callL F [true] (.p 0 :: args.map .d) (pn ns at_ rest) = .ok (.d d) (pn ns at2 rest2) := h.call [] at_ rest h1 h2 h3
theorem DrG.ofB {ns : List Int} {c : Int} {args : List D} {P : D → Prop} {N : Nat} {b : SmS}
    (h : ∀ at_ rest : Int, 0 ≤ at_ → at_ + c ≤ 1000001 → 0 ≤ rest → ∃ d at2 rest2 ex, P d ∧ at_ ≤ at2 ∧ at2 ≤ at_ + c ∧ 0 ≤ rest2 ∧ b ((U.p 0 :: args.map .d).map some ++ List.replicate (N - (U.p 0 :: args.map .d).length) none) (pn ns at_ rest) = .ret (.d d) (pn ns at2 rest2 ++ ex)) :
    DrG ns c (entry N false b) args P := fun at_ rest h1 h2 h3 => by
  obtain ⟨d, at2, rest2, ex, p, q1, q2, q3, e⟩ := h at_ rest h1 h2 h3
  refine ⟨d, at2, rest2, p, q1, q2, q3, ?_⟩
  show exitF [pen ns at_ rest].length false (b ((U.p 0 :: args.map .d).map some ++ List.replicate (N - (U.p 0 :: args.map .d).length) none) (pn ns at_ rest)) = _
  rw [e]
  exact ex_ret (os := [pen ns at2 rest2]) (ex := ex)
theorem drawG (n : Nat) (ns : List Int) (many : Int) (hm : 0 < many) (hm2 : many < 2 ^ 31) : DrG ns 1 ((run (n + 1)).f 18) [.int many] (fun d => ∃ r, d = .int r ∧ 0 ≤ r ∧ r < many) := fun at_ rest h1 h2 h3 => by
  obtain ⟨r, at2, rest2, q1, q2, q3, q4, q5, e⟩ := draw n ns at_ rest many hm hm2 h1 (by omega) h3
  exact ⟨_, at2, rest2, ⟨r, rfl, q1, q2⟩, q3, q4, q5, e⟩
theorem pickG (n : Nat) (ns : List Int) (ds : List D) (h : 0 < ds.length) (hl : ds.length < 100000) : DrG ns 1 ((run (n + 2)).f 19) [.lst ds] (fun d => d ∈ ds) := DrG.ofB (b := b_19 (run (n + 1))) (N := 2) fun at_ rest h1 h2 h3 => by
  obtain ⟨d, at2, rest2, ⟨r, rfl, r1, r2⟩, q3, q4, q5, e⟩ := (drawG n ns ds.length (by omega) (by omega)).call0 at_ rest h1 h2 h3
  have hr : r.toNat < ds.length := by omega
  refine ⟨ds[r.toNat], at2, rest2, [], List.getElem_mem hr, q3, q4, q5, ?_⟩
  simp only [List.map_cons, List.map_nil] at e
  simp [b_19, sSeq, sSet, sIf, sRet, sRetN, sSetIx, sExpr, sNil, sAsg, sAsgs, sPar, tOf, tAnd', tOr', tNot', tYes', tIfT, v2, v1, vN, vVar, vC, vAnd, vOr, vNot, vIf, aCons, aNil, fGt, fGe, fLt, fLe, fI, fIC, fSub, fMul, fDiv, fMod, fPow, fNeg, cMul, cDiv, cMod, cPow, fAbs, ev_bind, ev_berr, ev_then, ev_terr, List.getElem?_cons_zero, List.getElem?_cons_succ, List.set_cons_zero, List.set_cons_succ, fAdd, fInt, fIx, sqU, lsU, tpU, fLen, vCall, ixL, e, atI, ixN, r1, r2, hr]
theorem pickGS (n : Nat) (ns : List Int) (s : Str) (h : 0 < s.length) (hl : s.length ≤ 1000000) : DrG ns 1 ((run (n + 2)).f 19) [.str s] (fun d => ∃ c ∈ s.cps.toList, d = .str ⟨#[c]⟩) := DrG.ofB (b := b_19 (run (n + 1))) (N := 2) fun at_ rest h1 h2 h3 => by
  obtain ⟨d, at2, rest2, ⟨r, rfl, r1, r2⟩, q3, q4, q5, e⟩ := (drawG n ns s.length (by omega) (by omega)).call0 at_ rest h1 h2 h3
  have hz : s.length = s.cps.toList.length := by simp [Str.length]
  have hr : r.toNat < s.cps.toList.length := by omega
  refine ⟨.str ⟨#[s.cps.toList[r.toNat]]⟩, at2, rest2, [], ⟨_, List.getElem_mem hr, rfl⟩, q3, q4, q5, ?_⟩
  simp only [List.map_cons, List.map_nil] at e
  have e2 : L2.atI s.cps.toList r = some s.cps.toList[r.toNat] := by
    unfold L2.atI L2.ixN
    rw [if_pos r1, if_pos (by omega)]
    exact List.getElem?_eq_getElem hr
  simp [b_19, sSeq, sSet, sIf, sRet, sRetN, sSetIx, sExpr, sNil, sAsg, sAsgs, sPar, tOf, tAnd', tOr', tNot', tYes', tIfT, v2, v1, vN, vVar, vC, vAnd, vOr, vNot, vIf, aCons, aNil, fGt, fGe, fLt, fLe, fI, fIC, fSub, fMul, fDiv, fMod, fPow, fNeg, cMul, cDiv, cMod, cPow, fAbs, ev_bind, ev_berr, ev_then, ev_terr, List.getElem?_cons_zero, List.getElem?_cons_succ, List.set_cons_zero, List.set_cons_succ, fAdd, fInt, fIx, sqU, lsU, tpU, fLen, vCall, ixL, e, hl, e2]
/-- a plain question -/
theorem plainG (n : Nat) (ns : List Int) : DrG ns 4 ((run (n + 3)).f 21) [] (fun d => ∃ p : Pl, p.ok ∧ d = p.d) := DrG.ofB (b := b_21 (run (n + 2))) (N := 2) fun at_ rest h1 h2 h3 => by
  obtain ⟨d, a1, r1, ⟨r, rfl, p1, p2⟩, q1, q2, q3, e1⟩ := (drawG (n + 1) ns 100000 (by decide) (by decide)).call0 at_ rest h1 (by omega) h3
  obtain ⟨d2, a2, r2, p3, q4, q5, q6, e2⟩ := (pickG n ns [.int 0, .int 1, .int 2, .int 3, .int 9, .int 10, .int 99, .int 100, .int r, .int 99999] (Nat.succ_pos _) (show 10 < 100000 by decide)).call0 a1 r1 (by omega) (by omega) q3
  obtain ⟨k, rfl, hk⟩ : ∃ k : Nat, d2 = .int (k : Nat) ∧ k ≤ 99999 := by
    simp only [List.mem_cons, List.not_mem_nil, or_false] at p3
    rcases p3 with rfl | rfl | rfl | rfl | rfl | rfl | rfl | rfl | rfl | rfl
    · exact ⟨0, rfl, by decide⟩
    · exact ⟨1, rfl, by decide⟩
    · exact ⟨2, rfl, by decide⟩
    · exact ⟨3, rfl, by decide⟩
    · exact ⟨9, rfl, by decide⟩
    · exact ⟨10, rfl, by decide⟩
    · exact ⟨99, rfl, by decide⟩
    · exact ⟨100, rfl, by decide⟩
    · exact ⟨r.toNat, by rw [Int.toNat_of_nonneg p1], by omega⟩
    · exact ⟨99999, rfl, by decide⟩
  obtain ⟨d3, a3, r3, ⟨c, hc, rfl⟩, q7, q8, q9, e3⟩ := (pickGS n ns AZ (by decide) (by decide)).call0 a2 r2 (by omega) (by omega) q6
  obtain ⟨d4, a4, r4, p5, q10, q11, q12, e4⟩ := (pickG n ns [(Pl.more k).d, (Pl.is k c).d] (Nat.succ_pos _) (show 2 < 100000 by decide)).call0 a3 r3 (by omega) (by omega) q9
  refine ⟨d4, a4, r4, [], ?_, by omega, by omega, q12, ?_⟩
  · simp only [List.mem_cons, List.not_mem_nil, or_false] at p5
    rcases p5 with rfl | rfl
    · exact ⟨.more k, hk, rfl⟩
    · exact ⟨.is k c, ⟨hk, (mem_az c).mp hc⟩, rfl⟩
  · simp only [List.map_cons, List.map_nil] at e1 e2 e3 e4
    have o1 : ∀ μ, oLst [.d (.int 0), .d (.int 1), .d (.int 2), .d (.int 3), .d (.int 9), .d (.int 10), .d (.int 99), .d (.int 100), .d (.int r), .d (.int 99999)] μ = .ok (.d (.lst [.int 0, .int 1, .int 2, .int 3, .int 9, .int 10, .int 99, .int 100, .int r, .int 99999])) μ := fun μ => rfl
    have o2 : ∀ μ, oTup [.d (.str "more"), .d (.int (k : Nat)), .d .non] μ = .ok (.d (Pl.more k).d) μ := fun μ => rfl
    have o3 : ∀ μ, oTup [.d (.str "is"), .d (.int (k : Nat)), .d (.str ⟨#[c]⟩)] μ = .ok (.d (Pl.is k c).d) μ := fun μ => rfl
    have o4 : ∀ μ, oLst [.d (Pl.more k).d, .d (Pl.is k c).d] μ = .ok (.d (.lst [(Pl.more k).d, (Pl.is k c).d])) μ := fun μ => rfl
    generalize (Pl.more k).d = x1 at *
    generalize (Pl.is k c).d = x2 at *
    simp [b_21, sSeq, sSet, sIf, sRet, sRetN, sSetIx, sExpr, sNil, sAsg, sAsgs, sPar, tOf, tAnd', tOr', tNot', tYes', tIfT, v2, v1, vN, vVar, vC, vAnd, vOr, vNot, vIf, aCons, aNil, fGt, fGe, fLt, fLe, fI, fIC, fSub, fMul, fDiv, fMod, fPow, fNeg, cMul, cDiv, cMod, cPow, fAbs, ev_bind, ev_berr, ev_then, ev_terr, List.getElem?_cons_zero, List.getElem?_cons_succ, List.set_cons_zero, List.set_cons_succ, fAdd, fInt, vCall, ixL, e1, e2, e3, e4, o1, o2, o3, o4]
end K36
set_option Elab.async false
set_option linter.all false
set_option maxRecDepth 100000
set_option maxHeartbeats 2000000
set_option autoImplicit false
namespace K36
open PySem PySem.Spec PyProof.Rows L2 Iv
theorem if_t {c : Sm Bool} {a b : SmS} {ρ : Rho} {μ μ1 : Mu} (h : c ρ μ = .ok true μ1) : sIf c a b ρ μ = a ρ μ1 := by
  unfold sIf
  rw [h, ev_then, if_pos rfl]
theorem if_f {c : Sm Bool} {a b : SmS} {ρ : Rho} {μ μ1 : Mu} (h : c ρ μ = .ok false μ1) : sIf c a b ρ μ = b ρ μ1 := by
  unfold sIf
  rw [h, ev_then, if_neg Bool.false_ne_true]
/-! ### bent texts -/
theorem joinL_len (M : Nat) : ∀ W : List (List Nat), (∀ w ∈ W, w.length ≤ M ∧ ∀ c ∈ w, c < 1114112) → (TL.joinL [32] W).length ≤ W.length * (M + 1) ∧ ∀ c ∈ TL.joinL [32] W, c < 1114112
  | [], _ => ⟨Nat.zero_le _, fun c h => by cases h⟩
  | [w], h => by
    have := h w List.mem_cons_self
    exact ⟨by show w.length ≤ 1 * (M + 1); omega, this.2⟩
  | w :: v :: r, h => by
    have h0 := h w List.mem_cons_self
    have ih := joinL_len M (v :: r) fun x hx => h x (List.mem_cons_of_mem _ hx)
    have e : TL.joinL [32] (w :: v :: r) = w ++ ([32] ++ TL.joinL [32] (v :: r)) := rfl
    rw [e]
    refine ⟨?_, fun c hc => ?_⟩
    · rw [List.length_append, List.length_append, List.length_cons (as := v :: r), Nat.succ_mul]
      have := ih.1
      show w.length + (1 + (TL.joinL [32] (v :: r)).length) ≤ _
      omega
    · rcases List.mem_append.mp hc with q | q
      · exact h0.2 c q
      · rcases List.mem_append.mp q with q | q
        · rw [List.mem_singleton.mp q]; decide
        · exact ih.2 c q
theorem strs_tt (ws : List (List Nat)) : strsU ((tt ws).map U.d) = some (ws.map SS) := by
  induction ws with
  | nil => rfl
  | cons w ws ih =>
    show (strsU ((tt ws).map U.d)).map (fun xs => SS w :: xs) = _
    rw [ih]
    rfl
theorem join_any (M : Nat) (ws : List (List Nat)) (h : ∀ w ∈ ws, w.length ≤ M) (hl : ws.length * (M + 1) ≤ 1000000) (w : U) (μ : Mu) (hs : sqU μ w = some ((tt ws).map .d)) : fJoin (.d (.str " ")) [w] μ = .ok (.d (.str (SS (TL.joinL [32] ws)))) μ := by
  have e1 : Txt.join " " (ws.map SS) = SS (TL.joinL [32] ws) := SX.join_S [32] ws
  have e2 : ∀ ws : List (List Nat), (∀ w ∈ ws, w.length ≤ M) → ((ws.map SS).map fun x : Str => x.length).sum ≤ ws.length * M := fun ws => by
    induction ws with
    | nil => intro _; exact Nat.zero_le _
    | cons w ws ih =>
      intro h
      have h1 := h w List.mem_cons_self
      have h2 := ih fun x hx => h x (List.mem_cons_of_mem _ hx)
      rw [List.map_cons, List.map_cons, List.sum_cons, List.length_cons, Nat.succ_mul]
      have : (SS w).length = w.length := by show w.toArray.size = _; simp
      omega
  have e3 := e2 ws h
  show (match sqU μ w with
    | some l => match strsU l with
      | some ys => if (ys.map fun x : Str => x.length).sum + ys.length * (" " : Str).length ≤ 1000000 then Res.ok (U.d (.str (Txt.join " " ys))) μ else .bad
      | none => .bad
    | none => .bad) = _
  rw [hs]
  dsimp only
  rw [strs_tt]
  dsimp only
  rw [if_pos, e1]
  have e4 : (" " : Str).length = 1 := rfl
  rw [e4, List.length_map]
  rw [Nat.mul_add] at hl
  omega
abbrev MW (ns : List Int) (x y : Int) (W : List (List Nat)) : Mu := pn ns x y ++ [.lst ((tt W).map .d)]
abbrev r25 (cs : List Nat) (w : U) (way at_ : Int) (some_ : D) (o : List Nat) : Rho := [some (.p 0), some (.d (.str (SS cs))), some w, some (.d (.int way)), some (.d (.int at_)), some (.d some_), some (.d (.str (SS o)))]
abbrev E5 : SmS := sIf (tOf (v2 fLt (vVar 3) (vC (.int 2)))) (sSetIx (vVar 2) (vVar 4) (vVar 6)) (sIf (tOf (v2 fEq (vVar 3) (vC (.int 2)))) (sExpr (vM "list" fIns (vVar 2) (aCons (vVar 4) (aCons (vVar 6) aNil)))) (sIf (tOf (v2 fEq (vVar 3) (vC (.int 3)))) (sExpr (vM "list" fPop (vVar 2) (aCons (vVar 4) aNil))) (sIf (tOf (v2 fEq (vVar 3) (vC (.int 4)))) (sSet 2 (v2 fAdd (v2 fAdd (vSl (vVar 2) none (some (vVar 4))) (v1 fRevS (vSl (vVar 2) (some (vVar 4)) (some (v2 fAdd (vVar 4) (vC (.int 2))))))) (vSl (vVar 2) (some (v2 fAdd (vVar 4) (vC (.int 2)))) none))) (sExpr (vM "list" fApp (vVar 2) (aCons (vVar 6) aNil))))))
theorem tt_set (W : List (List Nat)) (j : Nat) (o : List Nat) : ((tt W).map U.d).set j (.d (.str (SS o))) = (tt (W.set j o)).map U.d := by
  simp [tt, List.map_set]
theorem ixN_ok {n : Nat} {a : Int} (h0 : 0 ≤ a) (h1 : a < n) : L2.ixN n a = some a.toNat := by
  unfold L2.ixN
  rw [if_pos h0, if_pos h1]
variable (ns : List Int) (x y : Int) (cs : List Nat) (W : List (List Nat)) (a : Int) (h0 : 0 ≤ a) (h1 : a < W.length) (hW : W.length ≤ 98000) (sm : D) (o : List Nat)
include h0 h1 hW
theorem e5_set (way : Int) (hw : way = 0 ∨ way = 1) : E5 (r25 cs (.p 1) way a sm o) (MW ns x y W) = .nx (r25 cs (.p 1) way a sm o) (MW ns x y (W.set a.toNat o)) := by
  refine (if_t (μ1 := MW ns x y W) (by rcases hw with rfl | rfl <;> kernel_rfl)).trans ?_
  show (match L2.ixN ((tt W).map U.d).length a with
      | some j => RS.nx (r25 cs (.p 1) way a sm o) ((MW ns x y W).set 1 (.lst (((tt W).map U.d).set j (.d (.str (SS o))))))
      | none => .bad) = _
  rw [ixN_ok h0 (by simpa using h1)]
  dsimp only
  rw [tt_set]
  rfl
theorem e5_ins : E5 (r25 cs (.p 1) 2 a sm o) (MW ns x y W) = .nx (r25 cs (.p 1) 2 a sm o) (MW ns x y (W.take a.toNat ++ [o] ++ W.drop a.toNat)) := by
  refine (if_f (μ1 := MW ns x y W) (by kernel_rfl)).trans ((if_t (μ1 := MW ns x y W) (by kernel_rfl)).trans ?_)
  show ((if ((tt W).map U.d).length < 100000 ∧ 0 ≤ a ∧ a < 2 ^ 63 then Res.ok (U.d .non) ((MW ns x y W).set 1 (.lst (((tt W).map U.d).take a.toNat ++ [.d (.str (SS o))] ++ ((tt W).map U.d).drop a.toNat))) else .bad : Res U).thenS _ _) = _
  rw [if_pos ⟨by simp; omega, h0, by omega⟩]
  have e : ((tt W).map U.d).take a.toNat ++ [U.d (.str (SS o))] ++ ((tt W).map U.d).drop a.toNat = (tt (W.take a.toNat ++ [o] ++ W.drop a.toNat)).map U.d := by
    simp [tt, List.map_take, List.map_drop]
  rw [e]
  rfl
theorem e5_pop : E5 (r25 cs (.p 1) 3 a sm o) (MW ns x y W) = .nx (r25 cs (.p 1) 3 a sm o) (MW ns x y (W.eraseIdx a.toNat)) := by
  refine (if_f (μ1 := MW ns x y W) (by kernel_rfl)).trans ((if_f (μ1 := MW ns x y W) (by kernel_rfl)).trans ((if_t (μ1 := MW ns x y W) (by kernel_rfl)).trans ?_))
  have hi := (L2.ixN_seq (n := ((tt W).map U.d).length) (ixN_ok h0 (by simpa using h1))).1
  obtain ⟨w, hw⟩ : ∃ w, ((tt W).map U.d)[a.toNat]? = some w := ⟨_, List.getElem?_eq_getElem (by simp; omega)⟩
  show ((if -(2 ^ 63) ≤ a ∧ a < 2 ^ 63 then (match seqIndex? a ((tt W).map U.d).length with
        | some k => (match ((tt W).map U.d)[k]? with
          | some w => Res.ok w ((MW ns x y W).set 1 (.lst (((tt W).map U.d).eraseIdx k)))
          | none => .bad)
        | none => .bad) else .bad : Res U).thenS _ _) = _
  rw [if_pos ⟨by omega, by omega⟩, hi]
  dsimp only
  rw [hw]
  dsimp only
  have e : ((tt W).map U.d).eraseIdx a.toNat = (tt (W.eraseIdx a.toNat)).map U.d := by
    have er : ∀ (f : List Nat → U) (l : List (List Nat)) (k : Nat), (l.map f).eraseIdx k = (l.eraseIdx k).map f := fun f l => by
      induction l with
      | nil => intro k; rfl
      | cons x l ih => intro k; cases k with
        | zero => rfl
        | succ k => show f x :: (l.map f).eraseIdx k = _; rw [ih]; rfl
    have := er (fun w => U.d (.str (SS w))) W a.toNat
    simpa [tt, Function.comp_def] using this
  rw [e]
  rfl
theorem e5_app : E5 (r25 cs (.p 1) 5 a sm o) (MW ns x y W) = .nx (r25 cs (.p 1) 5 a sm o) (MW ns x y (W ++ [o])) := by
  refine (if_f (μ1 := MW ns x y W) (by kernel_rfl)).trans ((if_f (μ1 := MW ns x y W) (by kernel_rfl)).trans ((if_f (μ1 := MW ns x y W) (by kernel_rfl)).trans ((if_f (μ1 := MW ns x y W) (by kernel_rfl)).trans ?_)))
  show ((if ((tt W).map U.d).length < 100000 then Res.ok (U.d .non) ((MW ns x y W).set 1 (.lst (((tt W).map U.d) ++ [.d (.str (SS o))]))) else .bad : Res U).thenS _ _) = _
  rw [if_pos (by simp; omega)]
  have e : ((tt W).map U.d) ++ [U.d (.str (SS o))] = (tt (W ++ [o])).map U.d := by simp [tt]
  rw [e]
  rfl
omit h0 h1 hW in
theorem olst_tt (W : List (List Nat)) (h : W.length ≤ 98000) (μ : Mu) : oLst ((tt W).map U.d) μ = .ok (.d (.lst (tt W))) μ := by
  unfold oLst
  rw [frzL_d]
  dsimp only
  rw [if_pos (by rw [List.length_map]; omega)]
omit h0 h1 hW in
theorem cut_tt (W : List (List Nat)) (lo hi : Option Int) : cutL ((tt W).map U.d) lo hi = (tt (cutL W lo hi)).map U.d := by
  simp [cutL, tt, List.map_take, List.map_drop]
omit h0 h1 hW in
theorem cut_len {α : Type} (W : List α) (lo hi : Option Int) : (cutL W lo hi).length ≤ W.length := by
  unfold cutL
  rw [List.length_take, List.length_drop]
  omega
def swW : List (List Nat) := cutL W none (some a) ++ (cutL W (some a) (some (a + 2))).reverse ++ cutL W (some (a + 2)) none
omit h1 hW in
theorem sw_len : (swW W a).length ≤ W.length := by
  obtain ⟨k, rfl⟩ : ∃ k : Nat, a = k := ⟨a.toNat, by omega⟩
  have e1 : HT.sIx W.length W.length (some ((k : Int) + 2)) = min (k + 2) W.length := HT.sIx_nat W.length W.length (k + 2)
  have e2 : HT.sIx W.length 0 (some ((k : Int) + 2)) = min (k + 2) W.length := HT.sIx_nat W.length 0 (k + 2)
  unfold swW cutL
  simp only [HT.sIx_nat, HT.sIx_none, e1, e2, List.length_append, List.length_reverse, List.length_take, List.length_drop]
  omega
omit h0 h1 hW in
theorem sw_mem (w : List Nat) (h : w ∈ swW W a) : w ∈ W := by
  have key : ∀ lo hi, w ∈ cutL W lo hi → w ∈ W := fun lo hi h => List.mem_of_mem_drop (List.mem_of_mem_take h)
  unfold swW at h
  rcases List.mem_append.mp h with h | h
  · rcases List.mem_append.mp h with h | h
    · exact key _ _ h
    · exact key _ _ (List.mem_reverse.mp h)
  · exact key _ _ h
theorem e5_sw : E5 (r25 cs (.p 1) 4 a sm o) (MW ns x y W) = .nx (r25 cs (.d (.lst (tt (swW W a)))) 4 a sm o) (MW ns x y W) := by
  refine (if_f (μ1 := MW ns x y W) (by kernel_rfl)).trans ((if_f (μ1 := MW ns x y W) (by kernel_rfl)).trans ((if_f (μ1 := MW ns x y W) (by kernel_rfl)).trans ((if_t (μ1 := MW ns x y W) (by kernel_rfl)).trans ?_)))
  have sl : ∀ lo hi, fSl (.p 1) lo hi (MW ns x y W) = .ok (.d (.lst (tt (cutL W lo hi)))) (MW ns x y W) := fun lo hi => by
    show oLst (cutL ((tt W).map U.d) lo hi) (MW ns x y W) = _
    rw [cut_tt, olst_tt _ (Nat.le_trans (cut_len W lo hi) hW)]
  have rv : ∀ V : List (List Nat), V.length ≤ 98000 → fRevS (.d (.lst (tt V))) (MW ns x y W) = .ok (.d (.lst (tt V.reverse))) (MW ns x y W) := fun V hV => by
    show oLst ((tt V).map U.d).reverse (MW ns x y W) = _
    rw [show ((tt V).map U.d).reverse = (tt V.reverse).map U.d by simp [tt], olst_tt _ (by rw [List.length_reverse]; exact hV)]
  have ad : ∀ V V' : List (List Nat), (V ++ V').length ≤ 98000 → fAdd (.d (.lst (tt V))) (.d (.lst (tt V'))) (MW ns x y W) = .ok (.d (.lst (tt (V ++ V')))) (MW ns x y W) := fun V V' hV => by
    show oLst ((tt V).map U.d ++ (tt V').map U.d) (MW ns x y W) = _
    rw [show (tt V).map U.d ++ (tt V').map U.d = (tt (V ++ V')).map U.d by simp [tt], olst_tt _ hV]
  have hs := sw_len W a h0
  have e : (v2 fAdd (v2 fAdd (vSl (vVar 2) none (some (vVar 4))) (v1 fRevS (vSl (vVar 2) (some (vVar 4)) (some (v2 fAdd (vVar 4) (vC (.int 2))))))) (vSl (vVar 2) (some (v2 fAdd (vVar 4) (vC (.int 2)))) none)) (r25 cs (.p 1) 4 a sm o) (MW ns x y W) = .ok (.d (.lst (tt (swW W a)))) (MW ns x y W) := by
    show (Res.bind (Res.bind (fSl (.p 1) none (some a) (MW ns x y W)) _) _) = _
    rw [sl, ev_bind]
    show (Res.bind (Res.bind (Res.bind (fSl (.p 1) (some a) (some (a + 2)) (MW ns x y W)) _) _) _) = _
    rw [sl, ev_bind, rv _ (Nat.le_trans (cut_len W _ _) hW), ev_bind, ad _ _ (Nat.le_trans (by unfold swW at hs; rw [List.length_append] at hs; exact Nat.le_trans (Nat.le_add_right _ _) hs) hW), ev_bind]
    show (Res.bind (fSl (.p 1) (some (a + 2)) none (MW ns x y W)) _) = _
    rw [sl, ev_bind]
    exact ad _ _ (Nat.le_trans hs hW)
  unfold sSet
  rw [e]
  rfl
end K36
set_option Elab.async false
set_option linter.all false
set_option maxRecDepth 100000
set_option maxHeartbeats 2000000
set_option autoImplicit false
namespace K36
open PySem PySem.Spec PyProof.Rows L2 Iv
theorem spl_mem : ∀ (cs acc w : List Nat), w ∈ TL.spl [32] 0 acc cs → w.length ≤ acc.length + cs.length ∧ ∀ c ∈ w, c ∈ acc ∨ c ∈ cs
  | [], acc, w, h => by
    rw [TL.spl_nil] at h
    rw [List.mem_singleton.mp h]
    exact ⟨Nat.le_add_right _ _, fun c hc => .inl hc⟩
  | x :: r, acc, w, h => by
    by_cases hp : TL.pre [32] (x :: r) = true
    · rw [TL.spl_hit hp] at h
      rcases List.mem_cons.mp h with rfl | h
      · exact ⟨Nat.le_add_right _ _, fun c hc => .inl hc⟩
      · obtain ⟨h1, h2⟩ := spl_mem r [] w h
        refine ⟨by rw [List.length_cons]; simp at h1; omega, fun c hc => ?_⟩
        rcases h2 c hc with q | q
        · cases q
        · exact .inr (List.mem_cons_of_mem _ q)
    · rw [TL.spl_miss (by simpa using hp)] at h
      obtain ⟨h1, h2⟩ := spl_mem r (acc ++ [x]) w h
      refine ⟨by rw [List.length_append] at h1; rw [List.length_cons]; simp at h1; omega, fun c hc => ?_⟩
      rcases h2 c hc with q | q
      · rcases List.mem_append.mp q with q | q
        · exact .inl q
        · exact .inr (by rw [List.mem_singleton.mp q]; exact List.mem_cons_self)
      · exact .inr (List.mem_cons_of_mem _ q)
theorem txt_ok {cs : List Nat} (h : cs.length < 98000) (hO : ∀ c ∈ cs, c < 1114112) : TxtOk cs (TL.spl [32] 0 [] cs) :=
  ⟨h, rfl, fun w hw => by
    obtain ⟨h1, h2⟩ := spl_mem cs [] w hw
    refine ⟨by simp at h1; omega, fun c hc => ?_⟩
    rcases h2 c hc with q | q
    · cases q
    · exact hO c q, spl_ne cs []⟩
def SOME : List (List Nat) := [[], [45], WIS, WMORE, [48], [48, 48], [48, 55], [55], [57, 57, 57, 57, 57], [49, 48, 48, 48, 48, 48], [45, 49], [49, 46, 48], [97], [122], [97, 98], [65], [49, 10], [97, 10], [78, 111, 110, 101], [43, 49], [49, 95, 48]]
theorem some_ok : ∀ w ∈ SOME, w.length ≤ 6 ∧ ∀ c ∈ w, c < 1114112 := by decide
abbrev G1 (R : Rn) : SmS := sPar 2 3 (aCons (vM "str" fSplitP (vVar 1) (aCons (vC (.str " ")) aNil)) (aCons (vCall (R.f 18) 2 0 [0, 1] [] [true] (aCons (vVar 0) (aCons (vC (.int 6)) aNil)) aNil) aNil))
abbrev G2 (R : Rn) : SmS := sSet 4 (vCall (R.f 18) 2 0 [0, 1] [] [true] (aCons (vVar 0) (aCons (v1 fLen (vVar 2)) aNil)) aNil)
abbrev G3 : SmS := sSet 5 (vN oLst (aCons (vC (.str "")) (aCons (vC (.str "-")) (aCons (vC (.str "is")) (aCons (vC (.str "more")) (aCons (vC (.str "0")) (aCons (vC (.str "00")) (aCons (vC (.str "07")) (aCons (vC (.str "7")) (aCons (vC (.str "99999")) (aCons (vC (.str "100000")) (aCons (vC (.str "-1")) (aCons (vC (.str "1.0")) (aCons (vC (.str "a")) (aCons (vC (.str "z")) (aCons (vC (.str "ab")) (aCons (vC (.str "A")) (aCons (vC (.str "1\n")) (aCons (vC (.str "a\n")) (aCons (vC (.str "None")) (aCons (vC (.str "+1")) (aCons (vC (.str "1_0")) aNil))))))))))))))))))))))
abbrev G4 (R : Rn) : SmS := sSet 6 (vCall (R.f 19) 2 0 [0, 1] [] [true] (aCons (vVar 0) (aCons (v2 fAdd (vVar 5) (vN oLst (aCons (v2 fAdd (v2 fIx (vVar 2) (vVar 4)) (vC (.str "0"))) (aCons (v2 fAdd (v2 fIx (vVar 2) (vVar 4)) (vC (.str " "))) aNil)))) aNil)) aNil)
abbrev G6 : SmS := sRet (vM "str" fJoin (vC (.str " ")) (aCons (vVar 2) aNil))
theorem b25_eq (R : Rn) : b_25 R = sSeq (G1 R) (sSeq (G2 R) (sSeq G3 (sSeq (G4 R) (sSeq E5 G6)))) := rfl
theorem g6_ok (L : Nat) (ns : List Int) (x y : Int) (cs : List Nat) (u : U) (way a : Int) (sm : D) (o : List Nat) (W' V : List (List Nat)) (hs : sqU (MW ns x y V) u = some ((tt W').map .d)) (hl : W'.length ≤ L + 2) (hL : L ≤ 250) (hw : ∀ w ∈ W', w.length ≤ L + 7) :
    G6 (r25 cs u way a sm o) (MW ns x y V) = .ret (.d (.str (SS (TL.joinL [32] W')))) (MW ns x y V) := by
  have e := join_any (L + 7) W' hw (Nat.le_trans (Nat.mul_le_mul hl (show L + 7 + 1 ≤ 258 by omega)) (by omega)) u (MW ns x y V) hs
  show ((fJoin (.d (.str " ")) [u] (MW ns x y V)).thenS _ _) = _
  rw [e]
  rfl
theorem bentG (n : Nat) (ns : List Int) (cs : List Nat) (hc : cs.length ≤ 250) (hO : ∀ c ∈ cs, c < 1114112) :
    DrG ns 3 ((run (n + 3)).f 25) [.str (SS cs)] (fun d => ∃ cs', d = .str (SS cs') ∧ cs'.length ≤ (cs.length + 2) * (cs.length + 8) ∧ ∀ c ∈ cs', c < 1114112) := DrG.ofB (b := b_25 (run (n + 2))) (N := 7) fun at_ rest h1 h2 h3 => by
  obtain ⟨W, eW⟩ : ∃ W, W = TL.spl [32] 0 [] cs := ⟨_, rfl⟩
  have hT := txt_ok (cs := cs) (by omega) hO
  rw [← eW] at hT
  have hWl : W.length ≤ cs.length + 1 := by rw [eW]; exact spl_hl cs []
  have hWm : ∀ w ∈ W, w.length ≤ cs.length ∧ ∀ c ∈ w, c < 1114112 := fun w hw => ⟨by rw [eW] at hw; have := (spl_mem cs [] w hw).1; simpa using this, (hT.ws w hw).2⟩
  have hne : 0 < W.length := List.length_pos_iff.mpr hT.ne
  obtain ⟨d1, a1, r1, ⟨way, rfl, w1, w2⟩, q1, q2, q3, e1⟩ := (drawG (n + 1) ns 6 (by decide) (by decide)).call [.lst ((tt W).map .d)] at_ rest h1 (by omega) h3
  obtain ⟨d2, a2, r2, ⟨a, rfl, u1, u2⟩, q4, q5, q6, e2⟩ := (drawG (n + 1) ns W.length (by omega) (by omega)).call [.lst ((tt W).map .d)] a1 r1 (by omega) (by omega) q3
  obtain ⟨w, hw⟩ : ∃ w, W[a.toNat]? = some w := ⟨_, List.getElem?_eq_getElem (by omega)⟩
  have hwm := hWm w (List.mem_of_getElem? hw)
  obtain ⟨d3, a3, r3, p3, q7, q8, q9, e3⟩ := (pickG n ns (tt (SOME ++ [w ++ [48], w ++ [32]])) (by simp [tt]) (by simp [tt, SOME])).call [.lst ((tt W).map .d)] a2 r2 (by omega) (by omega) q6
  obtain ⟨o, rfl, hol, hoc⟩ : ∃ o, d3 = .str (SS o) ∧ o.length ≤ cs.length + 7 ∧ ∀ c ∈ o, c < 1114112 := by
    obtain ⟨o, ho, rfl⟩ := List.mem_map.mp p3
    refine ⟨o, rfl, ?_⟩
    rcases List.mem_append.mp ho with ho | ho
    · have := some_ok o ho
      exact ⟨by omega, this.2⟩
    · simp only [List.mem_cons, List.not_mem_nil, or_false] at ho
      rcases ho with rfl | rfl
      · refine ⟨by rw [List.length_append]; have := hwm.1; simp; omega, fun c hc => ?_⟩
        rcases List.mem_append.mp hc with hc | hc
        · exact hwm.2 c hc
        · rw [List.mem_singleton.mp hc]; decide
      · refine ⟨by rw [List.length_append]; have := hwm.1; simp; omega, fun c hc => ?_⟩
        rcases List.mem_append.mp hc with hc | hc
        · exact hwm.2 c hc
        · rw [List.mem_singleton.mp hc]; decide
  simp only [List.map_cons, List.map_nil] at e1 e2 e3
  change callL _ _ _ (MW ns at_ rest W) = Res.ok _ (MW ns a1 r1 W) at e1
  change callL ((run (n + 2)).f 18) _ _ (MW ns a1 r1 W) = Res.ok _ (MW ns a2 r2 W) at e2
  change callL _ _ _ (MW ns a2 r2 W) = Res.ok _ (MW ns a3 r3 W) at e3
  -- the steps
  have s1 : G1 (run (n + 2)) [some (.p 0), some (.d (.str (SS cs))), none, none, none, none, none] (pn ns at_ rest) = .nx [some (.p 0), some (.d (.str (SS cs))), some (.p 1), some (.d (.int way)), none, none, none] (MW ns a1 r1 W) := by
    have es : vM "str" fSplitP (vVar 1) (aCons (vC (.str " ")) aNil) [some (.p 0), some (.d (.str (SS cs))), none, none, none, none, none] (pn ns at_ rest) = .ok (.p 1) (MW ns at_ rest W) := by
      have g1 : ((" " : Str).length == 0) = false ∧ (SS cs).length ≤ 99000 := ⟨rfl, by show cs.toArray.size ≤ 99000; rw [List.size_toArray]; omega⟩
      have g2 : Txt.split (SS cs) " " = (TL.spl [32] 0 [] cs).map SS := SX.split_S (a := cs) (b := [32]) (by decide) (by decide)
      have g3 : ((Txt.split (SS cs) " ").map fun x => U.d (.str x)) = (tt W).map U.d := by rw [g2, eW]; simp [tt]
      show (if ((" " : Str).length == 0) = false ∧ (SS cs).length ≤ 99000 then oLstP ((Txt.split (SS cs) " ").map fun x => U.d (.str x)) (pn ns at_ rest) else .bad) = _
      rw [if_pos g1, g3]
      show (if ((tt W).map U.d).length ≤ 100000 then Res.ok (U.p (pn ns at_ rest).length) (pn ns at_ rest ++ [.lst ((tt W).map U.d)]) else .bad) = _
      rw [if_pos (by simp; omega)]
      rfl
    refine (par_ok es (w := .d (.int way)) (μ2 := MW ns a1 r1 W) ?_).trans rfl
    exact e1
  have s2 : G2 (run (n + 2)) [some (.p 0), some (.d (.str (SS cs))), some (.p 1), some (.d (.int way)), none, none, none] (MW ns a1 r1 W) = .nx [some (.p 0), some (.d (.str (SS cs))), some (.p 1), some (.d (.int way)), some (.d (.int a)), none, none] (MW ns a2 r2 W) := by
    have el : ∀ x y, fLen (.p 1) (MW ns x y W) = .ok (.d (.int W.length)) (MW ns x y W) := fun x y => by
      show Res.ok (U.d (D.int (((tt W).map U.d).length : Nat))) (MW ns x y W) = _
      rw [List.length_map, List.length_map]
    have el := el a1 r1
    generalize MW ns a1 r1 W = μ1 at *
    generalize MW ns a2 r2 W = μ2 at *
    simp [sSeq, sSet, sIf, sRet, sRetN, sSetIx, sExpr, sNil, sAsg, sAsgs, sPar, tOf, tAnd', tOr', tNot', tYes', tIfT, v2, v1, vN, vVar, vC, vAnd, vOr, vNot, vIf, aCons, aNil, fGt, fGe, fLt, fLe, fI, fIC, fSub, fMul, fDiv, fMod, fPow, fNeg, cMul, cDiv, cMod, cPow, fAbs, ev_bind, ev_berr, ev_then, ev_terr, List.getElem?_cons_zero, List.getElem?_cons_succ, List.set_cons_zero, List.set_cons_succ, fAdd, fInt, vCall, ixL, el, e2]
  have s3 : G3 [some (.p 0), some (.d (.str (SS cs))), some (.p 1), some (.d (.int way)), some (.d (.int a)), none, none] (MW ns a2 r2 W) = .nx [some (.p 0), some (.d (.str (SS cs))), some (.p 1), some (.d (.int way)), some (.d (.int a)), some (.d (.lst (tt SOME))), none] (MW ns a2 r2 W) := by kernel_rfl
  have s4 : G4 (run (n + 2)) [some (.p 0), some (.d (.str (SS cs))), some (.p 1), some (.d (.int way)), some (.d (.int a)), some (.d (.lst (tt SOME))), none] (MW ns a2 r2 W) = .nx (r25 cs (.p 1) way a (.lst (tt SOME)) o) (MW ns a3 r3 W) := by
    have ei : fIx (.p 1) (.d (.int a)) (MW ns a2 r2 W) = .ok (.d (.str (SS w))) (MW ns a2 r2 W) := by
      have e : L2.atI ((tt W).map U.d) a = some (.d (.str (SS w))) := by
        unfold L2.atI L2.ixN
        rw [if_pos u1, List.length_map, List.length_map, if_pos u2]
        show ((tt W).map U.d)[a.toNat]? = _
        rw [List.getElem?_map, List.getElem?_map, hw]
        rfl
      show (match L2.atI ((tt W).map U.d) a with | some v => Res.ok v (MW ns a2 r2 W) | none => .bad) = _
      rw [e]
    have ea : ∀ μ, fAdd (.d (.str (SS w))) (.d (.str "0")) μ = .ok (.d (.str (SS (w ++ [48])))) μ := fun μ => add_ss w [48] (by simp; omega) μ
    have eb : ∀ μ, fAdd (.d (.str (SS w))) (.d (.str " ")) μ = .ok (.d (.str (SS (w ++ [32])))) μ := fun μ => add_ss w [32] (by simp; omega) μ
    have el : ∀ μ, oLst [.d (.str (SS (w ++ [48]))), .d (.str (SS (w ++ [32])))] μ = .ok (.d (.lst [.str (SS (w ++ [48])), .str (SS (w ++ [32]))])) μ := fun μ => rfl
    have ec : ∀ μ, fAdd (.d (.lst (tt SOME))) (.d (.lst [.str (SS (w ++ [48])), .str (SS (w ++ [32]))])) μ = .ok (.d (.lst (tt (SOME ++ [w ++ [48], w ++ [32]])))) μ := fun μ => by
      show oLst ((tt SOME).map U.d ++ [.d (.str (SS (w ++ [48]))), .d (.str (SS (w ++ [32])))]) μ = _
      rw [show (tt SOME).map U.d ++ [U.d (.str (SS (w ++ [48]))), .d (.str (SS (w ++ [32])))] = (tt (SOME ++ [w ++ [48], w ++ [32]])).map U.d by simp [tt], olst_tt _ (by simp [SOME])]
    unfold r25
    generalize MW ns a2 r2 W = μ1 at *
    generalize MW ns a3 r3 W = μ2 at *
    generalize tt (SOME ++ [w ++ [48], w ++ [32]]) = L1 at *
    generalize tt SOME = L2 at *
    generalize w ++ [48] = v1' at *
    generalize w ++ [32] = v2' at *
    simp [sSeq, sSet, sIf, sRet, sRetN, sSetIx, sExpr, sNil, sAsg, sAsgs, sPar, tOf, tAnd', tOr', tNot', tYes', tIfT, v2, v1, vN, vVar, vC, vAnd, vOr, vNot, vIf, aCons, aNil, fGt, fGe, fLt, fLe, fI, fIC, fSub, fMul, fDiv, fMod, fPow, fNeg, cMul, cDiv, cMod, cPow, fAbs, ev_bind, ev_berr, ev_then, ev_terr, List.getElem?_cons_zero, List.getElem?_cons_succ, List.set_cons_zero, List.set_cons_succ, vCall, ixL, ei, ea, eb, el, ec, e3]
  -- the end
  have fin : ∀ (u : U) (V W' : List (List Nat)), E5 (r25 cs (.p 1) way a (.lst (tt SOME)) o) (MW ns a3 r3 W) = .nx (r25 cs u way a (.lst (tt SOME)) o) (MW ns a3 r3 V) → sqU (MW ns a3 r3 V) u = some ((tt W').map .d) → W'.length ≤ cs.length + 2 → (∀ w ∈ W', w ∈ W ∨ w = o) →
      ∃ d at2 rest2 ex, (∃ cs', d = D.str (SS cs') ∧ cs'.length ≤ (cs.length + 2) * (cs.length + 8) ∧ ∀ c ∈ cs', c < 1114112) ∧ at_ ≤ at2 ∧ at2 ≤ at_ + 3 ∧ 0 ≤ rest2 ∧ b_25 (run (n + 2)) [some (.p 0), some (.d (.str (SS cs))), none, none, none, none, none] (pn ns at_ rest) = .ret (.d d) (pn ns at2 rest2 ++ ex) := by
    intro u V W' s5 hs hl hm
    have hb : ∀ w ∈ W', w.length ≤ cs.length + 7 ∧ ∀ c ∈ w, c < 1114112 := fun w hw => by
      rcases hm w hw with q | rfl
      · have := hWm w q
        exact ⟨by omega, this.2⟩
      · exact ⟨hol, hoc⟩
    obtain ⟨j1, j2⟩ := joinL_len (cs.length + 7) W' hb
    refine ⟨_, a3, r3, [.lst ((tt V).map .d)], ⟨TL.joinL [32] W', rfl, Nat.le_trans j1 (Nat.mul_le_mul_right _ hl), j2⟩, by omega, by omega, q9, ?_⟩
    rw [b25_eq, seq_nx s1, seq_nx s2, seq_nx s3, seq_nx s4, seq_nx s5]
    exact g6_ok cs.length ns a3 r3 cs u way a _ o W' V hs hl hc fun w hw => (hb w hw).1
  have hW2 : W.length ≤ 98000 := by omega
  have hcase : way = 0 ∨ way = 1 ∨ way = 2 ∨ way = 3 ∨ way = 4 ∨ way = 5 := by omega
  rcases hcase with hw0 | hw0 | rfl | rfl | rfl | rfl
  · exact fin (.p 1) _ _ (e5_set ns a3 r3 cs W a u1 u2 hW2 _ o way (.inl hw0)) rfl (by rw [List.length_set]; omega) fun w hw => by
      rcases List.mem_or_eq_of_mem_set hw with q | q
      · exact .inl q
      · exact .inr q
  · exact fin (.p 1) _ _ (e5_set ns a3 r3 cs W a u1 u2 hW2 _ o way (.inr hw0)) rfl (by rw [List.length_set]; omega) fun w hw => by
      rcases List.mem_or_eq_of_mem_set hw with q | q
      · exact .inl q
      · exact .inr q
  · exact fin (.p 1) _ _ (e5_ins ns a3 r3 cs W a u1 u2 hW2 _ o) rfl (by simp; omega) fun w hw => by
      rcases List.mem_append.mp hw with q | q
      · rcases List.mem_append.mp q with q | q
        · exact .inl (List.mem_of_mem_take q)
        · exact .inr (List.mem_singleton.mp q)
      · exact .inl (List.mem_of_mem_drop q)
  · exact fin (.p 1) _ _ (e5_pop ns a3 r3 cs W a u1 u2 hW2 _ o) rfl (by have := List.length_eraseIdx_le W a.toNat; omega) fun w hw => .inl (List.mem_of_mem_eraseIdx hw)
  · exact fin (.d (.lst (tt (swW W a)))) W _ (e5_sw ns a3 r3 cs W a u1 u2 hW2 _ o) rfl (by have := sw_len W a u1; omega) fun w hw => .inl (sw_mem W a w hw)
  · exact fin (.p 1) _ _ (e5_app ns a3 r3 cs W a u1 u2 hW2 _ o) rfl (by simp; omega) fun w hw => by
      rcases List.mem_append.mp hw with q | q
      · exact .inl q
      · exact .inr (List.mem_singleton.mp q)
end K36
set_option Elab.async false
set_option linter.all false
set_option maxRecDepth 100000
set_option maxHeartbeats 2000000
set_option autoImplicit false
namespace K36
open PySem PySem.Spec PyProof.Rows L2 Iv
/-! ### loops -/
theorem loop_ok {i m : Nat} {body : SmS} {nxt : Nxt} {val : Nat → U} (I : Nat → Rho → Mu → Prop) (hn : ∀ k, k < m → ∀ μ, nxt k μ = some (some (val k))) (he : ∀ μ, nxt m μ = some none)
    (hb : ∀ k ρ μ, k < m → I k ρ μ → ∃ ρ' μ', body (ρ.set i (some (val k))) μ = .nx ρ' μ' ∧ I (k + 1) ρ' μ') : ∀ (f k : Nat) (ρ : Rho) (μ : Mu), k + f = m → I k ρ μ → ∃ ρ' μ', loopG (.nm i) body nxt (f + 1) k ρ μ = .nx ρ' μ' ∧ I m ρ' μ'
  | 0, k, ρ, μ, h, hI => by
    have e : k = m := h
    subst e
    refine ⟨ρ, μ, ?_, hI⟩
    rw [loopG, he]
  | f + 1, k, ρ, μ, h, hI => by
    obtain ⟨ρ1, μ1, e1, h1⟩ := hb k ρ μ (by omega) hI
    obtain ⟨ρ2, μ2, e2, h2⟩ := loop_ok I hn he hb f (k + 1) ρ1 μ1 (by omega) h1
    refine ⟨ρ2, μ2, ?_, h2⟩
    rw [loopG, hn k (by omega)]
    show (match body (ρ.set i (some (val k))) μ with
        | .nx ρ2 μ2 => loopG (.nm i) body nxt (f + 1) (k + 1) ρ2 μ2
        | .ct ρ2 μ2 => loopG (.nm i) body nxt (f + 1) (k + 1) ρ2 μ2
        | .brk ρ2 μ2 => .nx ρ2 μ2
        | .ret u μ2 => .ret u μ2
        | .err c ns vs ρ2 μ2 => .err c ns vs ρ2 μ2
        | .bad => .bad : RS) = _
    rw [e1]
    exact e2
theorem for_seq {i : Nat} {body : SmS} {w : Sm Wlk} {ds : List D} {ρ : Rho} {μ μ1 : Mu} (I : Nat → Rho → Mu → Prop) (hw : w ρ μ = .ok (wkD ds) μ1) (h0 : I 0 ρ μ1)
    (hb : ∀ (k : Nat) (d : D) ρ μ, ds[k]? = some d → I k ρ μ → ∃ ρ' μ', body (ρ.set i (some (.d d))) μ = .nx ρ' μ' ∧ I (k + 1) ρ' μ') : ∃ ρ' μ', sFor w (.nm i) body ρ μ = .nx ρ' μ' ∧ I ds.length ρ' μ' := by
  obtain ⟨ρ', μ', e, h⟩ := loop_ok (i := i) (m := ds.length) (body := body) (nxt := (wkD ds).nxt) (val := fun k => .d (ds.getD k .non)) I (fun k hk μ => by
      show some ((ds[k]?).map U.d) = _
      rw [List.getElem?_eq_getElem hk, List.getD_eq_getElem?_getD, List.getElem?_eq_getElem hk]
      rfl) (fun μ => by
      show some ((ds[ds.length]?).map U.d) = _
      rw [List.getElem?_eq_none (Nat.le_refl _)]
      rfl) (fun k ρ μ hk hI => hb k _ ρ μ (by rw [List.getD_eq_getElem?_getD, List.getElem?_eq_getElem hk]; rfl) hI) ds.length 0 ρ μ1 (by omega) h0
  refine ⟨ρ', μ', ?_, h⟩
  unfold sFor
  rw [hw]
  exact e
theorem for_rng {i n : Nat} {body : SmS} {w : Sm Wlk} {ρ : Rho} {μ μ1 : Mu} (I : Nat → Rho → Mu → Prop) (hw : w ρ μ = .ok (rngW 0 n) μ1) (h0 : I 0 ρ μ1)
    (hb : ∀ (k : Nat) ρ μ, k < n → I k ρ μ → ∃ ρ' μ', body (ρ.set i (some (.d (.int (0 + (k : Nat)))))) μ = .nx ρ' μ' ∧ I (k + 1) ρ' μ') : ∃ ρ' μ', sFor w (.nm i) body ρ μ = .nx ρ' μ' ∧ I n ρ' μ' := by
  obtain ⟨ρ', μ', e, h⟩ := loop_ok (i := i) (m := n) (body := body) (nxt := (rngW 0 n).nxt) (val := fun k => .d (.int (0 + (k : Nat)))) I (fun k hk μ => by
      show some (if k < n then some (U.d (.int (0 + (k : Nat)))) else none) = _
      rw [if_pos hk]) (fun μ => by
      show some (if n < n then some (U.d (.int (0 + (n : Nat)))) else none) = _
      rw [if_neg (Nat.lt_irrefl _)]) hb n 0 ρ μ1 (by omega) h0
  refine ⟨ρ', μ', ?_, h⟩
  unfold sFor
  rw [hw]
  exact e
/-! ### refusals -/
def WORDS : List D := [.non, .str "", .str "Is", .str "IS", .str "are", .str "isn", .str "mor", .int 0, .lst [.str "is"], .tup [.str "is"], .bl true, .str "is ", .str "is\n", .dic [] []]
def NUMS : List D := [.non, .bl true, .bl false, .int (-1), .int 100000, .str "1", .tup [.int 1], .lst [], .int (10 ^ 40), .int (-(10 ^ 40))]
def LETS : List D := [.non, .str "", .str "A", .str "ab", .str ".", .int 1, .lst [.str "a"], .tup [.str "a"], .bl true, .str "a\n", .str "-", .dic [] []]
/-- what is shown of a value -/
def Shown (v : D) : Prop := ∃ s, (∀ μ, fReprA (.d v) μ = .ok (.d (.str s)) μ) ∧ PyData.strOk s = true
theorem shown_py {d : D} {p : PyData} (h : d.py = some p) (hs : shows p = true) (h0 : ∀ μ, isDic0 (.d d) μ = false) (hk : PyData.strOk p.shown = true) : Shown d := ⟨_, repr_of h hs h0, hk⟩
theorem shown_dic : Shown (.dic [] []) := ⟨"{}", fun μ => rfl, by decide +kernel⟩
theorem shown_W : ∀ v ∈ WORDS, Shown v := by
  intro v hv
  simp only [WORDS, List.mem_cons, List.not_mem_nil, or_false] at hv
  rcases hv with rfl | rfl | rfl | rfl | rfl | rfl | rfl | rfl | rfl | rfl | rfl | rfl | rfl | rfl <;> first | exact shown_dic | exact shown_py (by rfl) (by decide +kernel) (fun μ => rfl) (by decide +kernel)
theorem shown_N : ∀ v ∈ NUMS, Shown v := by
  intro v hv
  simp only [NUMS, List.mem_cons, List.not_mem_nil, or_false] at hv
  rcases hv with rfl | rfl | rfl | rfl | rfl | rfl | rfl | rfl | rfl | rfl <;> first | exact shown_dic | exact shown_py (by rfl) (by decide +kernel) (fun μ => rfl) (by decide +kernel)
theorem lam2_W (n : Nat) (a b : D) : ∀ v ∈ WORDS, (run (n + 4)).l 2 [.d v, .d a, .d b] [] = .err 1 ["value"] [v] [] := by
  intro v hv
  simp only [WORDS, List.mem_cons, List.not_mem_nil, or_false] at hv
  rcases hv with rfl | rfl | rfl | rfl | rfl | rfl | rfl | rfl | rfl | rfl | rfl | rfl | rfl | rfl <;> kernel_rfl
theorem lam3_N (n : Nat) (b w : D) (hw : w = .str "is" ∨ w = .str "more") : ∀ v ∈ NUMS, (run (n + 4)).l 3 [.d v, .d b, .d w] [] = .err 1 ["value"] [v] [] := by
  intro v hv
  simp only [NUMS, List.mem_cons, List.not_mem_nil, or_false] at hv
  rcases hw with rfl | rfl <;> rcases hv with rfl | rfl | rfl | rfl | rfl | rfl | rfl | rfl | rfl | rfl <;> kernel_rfl
theorem nc_of : ∀ (l : List D), D.ncL l = true → ∀ d ∈ l, d.nc = true
  | [], _, d, hd => by cases hd
  | x :: l, h, d, hd => by
    have h' : (x.nc && D.ncL l) = true := by rw [← D.ncL]; exact h
    rw [Bool.and_eq_true] at h'
    rcases List.mem_cons.mp hd with rfl | hd
    · exact h'.1
    · exact nc_of l h'.2 d hd
theorem nc3 {a b c : D} (ha : a.nc = true) (hb : b.nc = true) (hc : c.nc = true) : D.ncL [a, b, c] = true := by
  simp [D.ncL, ha, hb, hc]
theorem ne_tup2 (a : Str) (μ : Mu) (ha : PyData.strOk a = true) : fNe (.d (.tup [.str "question", .str a])) (.d (.tup [.str "question", .str a])) μ = .ok (.d (.bl false)) μ := by
  have hs : SeqAt.shaped (.tuple [.str "question", .str a]) = true := by
    unfold SeqAt.shaped
    simp only [PyData.canLay0, PyData.canLayAll0, PyData.depth, PyData.depthAll, ha, Bool.true_and, Bool.and_true]
    kernel_rfl
  have h1 : eqD μ (.d (.tup [.str "question", .str a])) (.d (.tup [.str "question", .str a])) = some true := by
    show (if SeqAt.shaped (.tuple [.str "question", .str a]) = true ∧ SeqAt.shaped (.tuple [.str "question", .str a]) = true then some (PyData.eqv (.tuple [.str "question", .str a]) (.tuple [.str "question", .str a])) else none) = _
    rw [if_pos ⟨hs, hs⟩]
    simp [PyData.eqv, PyData.eqvAll]
  unfold fNe
  rw [h1]
  rfl
abbrev r29 (W N L v n l w s : Option U) : Rho := [some (.p 0), W, N, L, v, n, l, w, s]
abbrev chk (k : Nat) (js : List Nat) (R : Rn) : Sm Bool := tOf (v2 fNe (vCallLam (R.f 20) k js 1 [0] [] aNil) (vN oTup (aCons (vC (.str "question")) (aCons (v1 fReprA (vVar 4)) aNil))))
theorem chk_ok {k : Nat} {js : List Nat} {R : Rn} {ρ : Rho} {μ : Mu} {v : D} {s : Str} {ds : List D} (h4 : ρ[4]? = some (some (.d v))) (hc : capU ρ js = some (ds.map .d)) (hn : D.ncL ds = true) (hl : js.length = ds.length)
    (hf : R.f 20 [.d (.clo k ds)] [] = .ok (.d (.tup [.str "question", .str s])) [] none) (hs : ∀ μ, fReprA (.d v) μ = .ok (.d (.str s)) μ) (hk : PyData.strOk s = true) : chk k js R ρ μ = .ok false μ := by
  have e1 : vCallLam (R.f 20) k js 1 [0] [] aNil ρ μ = .ok (.d (.tup [.str "question", .str s])) μ := by
    rw [vcl0 hc hn hl, hf]
    rfl
  have e2 : (vN oTup (aCons (vC (.str "question")) (aCons (v1 fReprA (vVar 4)) aNil))) ρ μ = .ok (.d (.tup [.str "question", .str s])) μ := by
    have e3 : v1 fReprA (vVar 4) ρ μ = .ok (.d (.str s)) μ := (v1_fld h4).trans (hs μ)
    generalize fReprA = g at *
    simp only [vN, aCons, vC, ev_bind, e3, aNil, tup2]
  show ((Res.bind (vCallLam (R.f 20) k js 1 [0] [] aNil ρ μ) fun u μ1 => Res.bind ((vN oTup (aCons (vC (.str "question")) (aCons (v1 fReprA (vVar 4)) aNil))) ρ μ1) fun w μ2 => fNe u w μ2).bind _) = _
  rw [e1, ev_bind, e2, ev_bind, ne_tup2 s μ hk]
  rfl
end K36
set_option Elab.async false
set_option linter.all false
set_option maxRecDepth 100000
set_option maxHeartbeats 2000000
set_option autoImplicit false
namespace K36
open PySem PySem.Spec PyProof.Rows L2 Iv
theorem asgs_ok {i j : Nat} {ma mb : Sm U} {ρ : Rho} {μ μ1 μ2 : Mu} {u w : U} (h1 : ma ρ μ = .ok u μ1) (h2 : mb ρ μ1 = .ok w μ2) : sAsgs [.nm i, .nm j] (aCons ma (aCons mb aNil)) ρ μ = .nx ((ρ.set i (some u)).set j (some w)) μ2 := by
  have e : aCons ma (aCons mb aNil) ρ μ = .ok [u, w] μ2 := by
    unfold aCons
    rw [h1, ev_bind]
    show ((Res.bind (mb ρ μ1) _).bind _) = _
    rw [h2]
    rfl
  unfold sAsgs
  rw [e]
  rfl
theorem if_no {c : Sm Bool} {a : SmS} {ρ : Rho} {μ μ1 : Mu} (h : c ρ μ = .ok false μ1) : sIf c a sNil ρ μ = .nx ρ μ1 := if_f h
abbrev pk (R : Rn) (j : Nat) : Sm U := vCall (R.f 19) 2 0 [0, 1] [] [true] (aCons (vVar 0) (aCons (vVar j) aNil)) aNil
abbrev B1 (R : Rn) : SmS := sSeq (sAsgs [.nm 5, .nm 6] (aCons (pk R 2) (aCons (pk R 3) aNil))) (sIf (chk 2 [4, 5, 6] R) (sRet (vC (.bl false))) sNil)
abbrev B2 (R : Rn) : SmS := sSeq (sAsgs [.nm 7, .nm 6] (aCons (vCall (R.f 19) 2 0 [0, 1] [] [true] (aCons (vVar 0) (aCons (vN oLst (aCons (vC (.str "is")) (aCons (vC (.str "more")) aNil))) aNil)) aNil) (aCons (pk R 3) aNil))) (sIf (chk 3 [4, 6, 7] R) (sRet (vC (.bl false))) sNil)
abbrev WO : Option U := some (.d (.lst WORDS))
abbrev NO : Option U := some (.d (.lst NUMS))
abbrev LO : Option U := some (.d (.lst LETS))
def I29 (ns : List Int) (A : Int) (k : Nat) (ρ : Rho) (μ : Mu) : Prop := ∃ v n l w s a r, ρ = r29 WO NO LO v n l w s ∧ μ = pn ns a r ∧ A ≤ a ∧ a ≤ A + 2 * k ∧ 0 ≤ r
theorem b1_ok (n : Nat) (ns : List Int) (A : Int) (hA : 0 ≤ A) (hA2 : A + 48 ≤ 1000001) (k : Nat) (hk : k < 14) (v : D) (hv : v ∈ WORDS) (ρ : Rho) (μ : Mu) (h : I29 ns A k ρ μ) :
    ∃ ρ' μ', B1 (run (n + 5)) (ρ.set 4 (some (.d v))) μ = .nx ρ' μ' ∧ I29 ns A (k + 1) ρ' μ' := by
  obtain ⟨v0, n0, l0, w0, s0, a, r, rfl, rfl, g1, g2, g3⟩ := h
  obtain ⟨d1, a1, r1, m1, q1, q2, q3, e1⟩ := (pickG (n + 3) ns NUMS (by decide) (by decide)).call0 a r (by omega) (by omega) g3
  obtain ⟨d2, a2, r2, m2, q4, q5, q6, e2⟩ := (pickG (n + 3) ns LETS (by decide) (by decide)).call0 a1 r1 (by omega) (by omega) q3
  obtain ⟨s, hs, hok⟩ := shown_W v hv
  have s1 : sAsgs [.nm 5, .nm 6] (aCons (pk (run (n + 5)) 2) (aCons (pk (run (n + 5)) 3) aNil)) (r29 WO NO LO (some (.d v)) n0 l0 w0 s0) (pn ns a r) = .nx (r29 WO NO LO (some (.d v)) (some (.d d1)) (some (.d d2)) w0 s0) (pn ns a2 r2) := asgs_ok e1 e2
  have hn := nc3 (nc_of WORDS (by rfl) v hv) (nc_of NUMS (by rfl) d1 m1) (nc_of LETS (by rfl) d2 m2)
  have s2 := chk_ok (k := 2) (js := [4, 5, 6]) (R := run (n + 5)) (ρ := r29 WO NO LO (some (.d v)) (some (.d d1)) (some (.d d2)) w0 s0) (μ := pn ns a2 r2) (v := v) (s := s) (ds := [v, d1, d2]) rfl rfl hn rfl (heard_q (m := n + 4) hn (lam2_W n d1 d2 v hv) hs) hs hok
  refine ⟨r29 WO NO LO (some (.d v)) (some (.d d1)) (some (.d d2)) w0 s0, pn ns a2 r2, ?_, _, _, _, _, _, a2, r2, rfl, rfl, by omega, by omega, q6⟩
  show B1 (run (n + 5)) (r29 WO NO LO (some (.d v)) n0 l0 w0 s0) (pn ns a r) = _
  unfold B1
  rw [seq_nx s1, if_f s2]
  rfl
theorem b2_ok (n : Nat) (ns : List Int) (A : Int) (hA : 0 ≤ A) (hA2 : A + 20 ≤ 1000001) (k : Nat) (hk : k < 10) (v : D) (hv : v ∈ NUMS) (ρ : Rho) (μ : Mu) (h : I29 ns A k ρ μ) :
    ∃ ρ' μ', B2 (run (n + 5)) (ρ.set 4 (some (.d v))) μ = .nx ρ' μ' ∧ I29 ns A (k + 1) ρ' μ' := by
  obtain ⟨v0, n0, l0, w0, s0, a, r, rfl, rfl, g1, g2, g3⟩ := h
  obtain ⟨d1, a1, r1, m1, q1, q2, q3, e1⟩ := (pickG (n + 3) ns [.str "is", .str "more"] (by decide) (by decide)).call0 a r (by omega) (by omega) g3
  obtain ⟨d2, a2, r2, m2, q4, q5, q6, e2⟩ := (pickG (n + 3) ns LETS (by decide) (by decide)).call0 a1 r1 (by omega) (by omega) q3
  obtain ⟨s, hs, hok⟩ := shown_N v hv
  have hd1 : d1 = .str "is" ∨ d1 = .str "more" := by
    simp only [List.mem_cons, List.not_mem_nil, or_false] at m1
    exact m1
  have s1 : sAsgs [.nm 7, .nm 6] (aCons (vCall ((run (n + 5)).f 19) 2 0 [0, 1] [] [true] (aCons (vVar 0) (aCons (vN oLst (aCons (vC (.str "is")) (aCons (vC (.str "more")) aNil))) aNil)) aNil) (aCons (pk (run (n + 5)) 3) aNil)) (r29 WO NO LO (some (.d v)) n0 l0 w0 s0) (pn ns a r) = .nx (r29 WO NO LO (some (.d v)) n0 (some (.d d2)) (some (.d d1)) s0) (pn ns a2 r2) := asgs_ok e1 e2
  have hn := nc3 (nc_of NUMS (by rfl) v hv) (nc_of LETS (by rfl) d2 m2) (c := d1) (by rcases hd1 with rfl | rfl <;> rfl)
  have s2 := chk_ok (k := 3) (js := [4, 6, 7]) (R := run (n + 5)) (ρ := r29 WO NO LO (some (.d v)) n0 (some (.d d2)) (some (.d d1)) s0) (μ := pn ns a2 r2) (v := v) (s := s) (ds := [v, d2, d1]) rfl rfl hn rfl (heard_q (m := n + 4) hn (lam3_N n d2 d1 hd1 v hv) hs) hs hok
  refine ⟨r29 WO NO LO (some (.d v)) n0 (some (.d d2)) (some (.d d1)) s0, pn ns a2 r2, ?_, _, _, _, _, _, a2, r2, rfl, rfl, by omega, by omega, q6⟩
  show B2 (run (n + 5)) (r29 WO NO LO (some (.d v)) n0 l0 w0 s0) (pn ns a r) = _
  unfold B2
  rw [seq_nx s1, if_f s2]
  rfl
def SOME2 : List D := [.str "", .str "A", .str "ab", .str ".", .int 1, .lst [.str "a"], .tup [.str "a"], .bl true, .str "a\n", .str "-", .dic [] [], .str "a", .str "z", .int 0, .bl false]
abbrev H1 : SmS := sSet 1 (vN oLst (aCons (vC .non) (aCons (vC (.str "")) (aCons (vC (.str "Is")) (aCons (vC (.str "IS")) (aCons (vC (.str "are")) (aCons (vC (.str "isn")) (aCons (vC (.str "mor")) (aCons (vC (.int 0)) (aCons (vN oLst (aCons (vC (.str "is")) aNil)) (aCons (vN oTup (aCons (vC (.str "is")) aNil)) (aCons (vC (.bl true)) (aCons (vC (.str "is ")) (aCons (vC (.str "is\n")) (aCons vDic0 aNil)))))))))))))))
abbrev H2 : SmS := sSet 2 (vN oLst (aCons (vC .non) (aCons (vC (.bl true)) (aCons (vC (.bl false)) (aCons (v1 fNeg (vC (.int 1))) (aCons (vC (.int 100000)) (aCons (vC (.str "1")) (aCons (vN oTup (aCons (vC (.int 1)) aNil)) (aCons (vN oLst aNil) (aCons (v2 fPow (vC (.int 10)) (vC (.int 40))) (aCons (v1 fNeg (v2 fPow (vC (.int 10)) (vC (.int 40)))) aNil)))))))))))
abbrev H3 : SmS := sSet 3 (vN oLst (aCons (vC .non) (aCons (vC (.str "")) (aCons (vC (.str "A")) (aCons (vC (.str "ab")) (aCons (vC (.str ".")) (aCons (vC (.int 1)) (aCons (vN oLst (aCons (vC (.str "a")) aNil)) (aCons (vN oTup (aCons (vC (.str "a")) aNil)) (aCons (vC (.bl true)) (aCons (vC (.str "a\n")) (aCons (vC (.str "-")) (aCons vDic0 aNil)))))))))))))
abbrev H6t (R : Rn) : Sm Bool := tOf (v2 fNe (vComp (wSeq (vVar 3)) (.nm 4) [4] (chk 4 [4] R) (vVar 4)) (vN oLst aNil))
abbrev H7 : SmS := sSet 8 (vComp (wSeq (v2 fAdd (vVar 3) (vN oLst (aCons (vC (.str "a")) (aCons (vC (.str "z")) (aCons (vC (.int 0)) (aCons (vC (.bl false)) aNil))))))) (.nm 4) [4] (tOf (v2 fIsn (vVar 4) (vC .non))) (vVar 4))
abbrev H8t (R : Rn) : Sm Bool := tOf (v2 fNe (vComp (wSeq (vVar 8)) (.nm 4) [4] (chk 5 [4] R) (vVar 4)) (vN oLst aNil))
abbrev H9 (R : Rn) : SmS := sRet (vAnd (v2 fEq (vCallLam (R.f 20) 6 [] 1 [0] [] aNil) (vN oTup (aCons (vC (.str "question")) (aCons (vC (.str "None")) aNil)))) (v2 (fEqO [(4, resF (R.f 15) [0, 1] [] [true])] (oksO [3, 4])) (vRun (resMk 4 (R.f 12) [0, 1, 2, 3] [D.non] [true]) 3 0 (aCons (vC (.str "more")) (aCons (vC (.int 5)) (aCons (vC .non) aNil))) aNil) (vRun (resMk 4 (R.f 12) [0, 1, 2, 3] [D.non] [true]) 2 0 (aCons (vC (.str "more")) (aCons (vC (.int 5)) aNil)) aNil)))
theorem b29_eq (R : Rn) : b_29 R = sSeq H1 (sSeq H2 (sSeq H3 (sSeq (sFor (wSeq (vVar 1)) (.nm 4) (B1 R)) (sSeq (sFor (wSeq (vVar 2)) (.nm 4) (B2 R)) (sSeq (sIf (H6t R) (sRet (vC (.bl false))) sNil) (sSeq H7 (sSeq (sIf (H8t R) (sRet (vC (.bl false))) sNil) (H9 R)))))))) := rfl
theorem h6_ok (n : Nat) (ns : List Int) (a r : Int) (v x l w s : Option U) : H6t (run (n + 5)) (r29 WO NO LO v x l w s) (pn ns a r) = .ok false (pn ns a r) := by kernel_rfl
theorem h7_ok (ns : List Int) (a r : Int) (v x l w s : Option U) : H7 (r29 WO NO LO v x l w s) (pn ns a r) = .nx (r29 WO NO LO v x l w (some (.d (.lst SOME2)))) (pn ns a r) := by kernel_rfl
theorem h8_ok (n : Nat) (ns : List Int) (a r : Int) (v x l w : Option U) : H8t (run (n + 5)) (r29 WO NO LO v x l w (some (.d (.lst SOME2)))) (pn ns a r) = .ok false (pn ns a r) := by kernel_rfl
theorem h9_ok (n : Nat) (ns : List Int) (a r : Int) (v x l w s : Option U) : H9 (run (n + 5)) (r29 WO NO LO v x l w s) (pn ns a r) = .ret (.d (.bl true)) (pn ns a r ++ [.ins 4 ["word", "number", "letter"] [.d (.str "more"), .d (.int 5), .d .non], .fz (qd "more" 5 .non)]) := by kernel_rfl
theorem refusedG (n : Nat) (ns : List Int) : DrG ns 48 ((run (n + 6)).f 29) [] (fun d => d = .bl true) := DrG.ofB (b := b_29 (run (n + 5))) (N := 9) fun at_ rest h1 h2 h3 => by
  have s1 : H1 [some (.p 0), none, none, none, none, none, none, none, none] (pn ns at_ rest) = .nx (r29 WO none none none none none none none) (pn ns at_ rest) := by kernel_rfl
  have s2 : H2 (r29 WO none none none none none none none) (pn ns at_ rest) = .nx (r29 WO NO none none none none none none) (pn ns at_ rest) := by kernel_rfl
  have s3 : H3 (r29 WO NO none none none none none none) (pn ns at_ rest) = .nx (r29 WO NO LO none none none none none) (pn ns at_ rest) := by kernel_rfl
  obtain ⟨ρ1, μ1, s4, I1⟩ := for_seq (i := 4) (body := B1 (run (n + 5))) (w := wSeq (vVar 1)) (ds := WORDS) (ρ := r29 WO NO LO none none none none none) (μ := pn ns at_ rest) (I29 ns at_) rfl ⟨_, _, _, _, _, at_, rest, rfl, rfl, Int.le_refl _, by omega, h3⟩ (fun k d ρ μ hk hI => b1_ok n ns at_ h1 h2 k (List.getElem?_eq_some_iff.mp hk).1 d (List.mem_of_getElem? hk) ρ μ hI)
  obtain ⟨v1', n1, l1, w1, s1', a1, r1, rfl, rfl, g1, g2, g3⟩ := I1
  have g2' : a1 ≤ at_ + 28 := g2
  obtain ⟨ρ2, μ2, s5, I2⟩ := for_seq (i := 4) (body := B2 (run (n + 5))) (w := wSeq (vVar 2)) (ds := NUMS) (ρ := r29 WO NO LO v1' n1 l1 w1 s1') (μ := pn ns a1 r1) (I29 ns a1) rfl ⟨_, _, _, _, _, a1, r1, rfl, rfl, Int.le_refl _, by omega, g3⟩ (fun k d ρ μ hk hI => b2_ok n ns a1 (by omega) (by omega) k (List.getElem?_eq_some_iff.mp hk).1 d (List.mem_of_getElem? hk) ρ μ hI)
  obtain ⟨v2', n2, l2, w2, s2', a2, r2, rfl, rfl, g4, g5, g6⟩ := I2
  have g5' : a2 ≤ a1 + 20 := g5
  refine ⟨_, a2, r2, [.ins 4 ["word", "number", "letter"] [.d (.str "more"), .d (.int 5), .d .non], .fz (qd "more" 5 .non)], rfl, by omega, by omega, g6, ?_⟩
  show b_29 (run (n + 5)) [some (.p 0), none, none, none, none, none, none, none, none] (pn ns at_ rest) = _
  rw [b29_eq, seq_nx s1, seq_nx s2, seq_nx s3, seq_nx s4, seq_nx s5, seq_nx (if_no (h6_ok n ns a2 r2 v2' n2 l2 w2 s2')), seq_nx (h7_ok ns a2 r2 v2' n2 l2 w2 s2'), seq_nx (if_no (h8_ok n ns a2 r2 v2' n2 l2 w2))]
  exact h9_ok n ns a2 r2 v2' n2 l2 w2 _
end K36
set_option Elab.async false
set_option linter.all false
set_option maxRecDepth 100000
set_option maxHeartbeats 2000000
set_option autoImplicit false
namespace K36
open PySem PySem.Spec PyProof.Rows L2 Iv
/-! ### answers -/
abbrev sl1 (ds : List Nat) (j : Nat) : List Nat := (ds.drop j).take 1
theorem cut_sl (ds : List Nat) (j : Nat) : cutS (SS ds) (some (j : Int)) (some ((j : Int) + 1)) = SS (sl1 ds j) := by
  have e2 : HT.sIx (SS ds).length (SS ds).length (some ((j : Int) + 1)) = min (j + 1) (SS ds).length := HT.sIx_nat (SS ds).length (SS ds).length (j + 1)
  unfold cutS
  rw [HT.sIx_nat, e2, show (SS ds).length = ds.length from SX.S_len ds]
  show SS ((ds.drop (min j ds.length)).take (min (j + 1) ds.length - min j ds.length)) = _
  by_cases h : j < ds.length
  · rw [Nat.min_eq_left (by omega), Nat.min_eq_left (by omega), show j + 1 - j = 1 by omega]
  · rw [show min j ds.length = ds.length by omega, show min (j + 1) ds.length = ds.length by omega, List.drop_of_length_le (Nat.le_refl _), List.take_nil]
    unfold sl1
    rw [List.drop_of_length_le (by omega), List.take_nil]
theorem f_sl (ds : List Nat) (h : ds.length ≤ 1000) (j : Nat) (μ : Mu) : fSl (.d (.str (SS ds))) (some (j : Int)) (some ((j : Int) + 1)) μ = .ok (.d (.str (SS (sl1 ds j)))) μ := by
  show (if (SS ds).length ≤ 1000000 then Res.ok (U.d (D.str (cutS (SS ds) (some (j : Int)) (some ((j : Int) + 1))))) μ else .bad : Res U) = _
  rw [if_pos (by rw [show (SS ds).length = ds.length from SX.S_len ds]; omega), cut_sl]
abbrev D1 (R : Rn) : Sm U := vCall (R.f 2) 1 0 [0] [] [] (aCons (vVar 1) aNil) aNil
theorem qf_w (w : Str) (i : Int) (l : D) : fFld "word" [4] (.p 0) (obs [qob w i l]) = .ok (.d (.str w)) (obs [qob w i l]) := by kernel_rfl
theorem qf_n (w : Str) (i : Int) (l : D) : fFld "number" [4] (.p 0) (obs [qob w i l]) = .ok (.d (.int i)) (obs [qob w i l]) := by kernel_rfl
theorem qf_l (w : Str) (i : Int) (l : D) : fFld "letter" [4] (.p 0) (obs [qob w i l]) = .ok (.d l) (obs [qob w i l]) := by kernel_rfl
theorem ans_more (n : Nat) (ds : List Nat) (h : ds.length ≤ 1000) (ha : inY AZ ds = true) (j : Nat) : (run (n + 2)).f 14 [.p 0, .d (.str (SS ds))] [qob "more" j .non] = .ok (.d (.bl (decide (j < ds.length)))) [qob "more" j .non] none := by
  have e : b_14 (run (n + 1)) [some (.p 0), some (.d (.str (SS ds)))] (obs [qob "more" j .non]) = .ret (.d (.bl (decide (j < ds.length)))) (obs [qob "more" j .non] ++ []) := by
    rw [List.append_nil]
    have h1 := qf_w "more" j .non
    have h2 := qf_n "more" j .non
    have h3 := len_ss ds (by omega)
    have h4 : ∀ μ, callL ((run (n + 1)).f 2) [] [.d (.str (SS ds))] μ = .ok (.d (.bl true)) μ := fun μ => by
      have := call_d (f := (run (n + 1)).f 2) (fl := []) (ds := [.str (SS ds)]) (μ := μ) (is_deeds n ds (by omega))
      rw [ha] at this
      exact this
    have h5 : ∀ μ, fEq (.d (.str "more")) (.d (.str "more")) μ = .ok (.d (.bl true)) μ := fun μ => by kernel_rfl
    have h6 : decide ((j : Int) < ds.length) = decide (j < ds.length) := decide_eq_decide.mpr (by omega)
    generalize obs [qob "more" j .non] = μ at *
    simp [b_14, sSeq, sSet, sIf, sRet, sRetN, sSetIx, sExpr, sNil, sAsg, sAsgs, sPar, tOf, tAnd', tOr', tNot', tYes', tIfT, v2, v1, vN, vVar, vC, vAnd, vOr, vNot, vIf, aCons, aNil, fGt, fGe, fLt, fLe, fI, fIC, fSub, fMul, fDiv, fMod, fPow, fNeg, cMul, cDiv, cMod, cPow, fAbs, ev_bind, ev_berr, ev_then, ev_terr, List.getElem?_cons_zero, List.getElem?_cons_succ, List.set_cons_zero, List.set_cons_succ, fAdd, fInt, vCall, ixL, h1, h2, h3, h4, h5]
  show exitF [qob "more" j .non].length false (b_14 (run (n + 1)) [some (.p 0), some (.d (.str (SS ds)))] (obs [qob "more" j .non])) = _
  rw [e]
  exact ex_ret
theorem ans_is (n : Nat) (ds : List Nat) (h : ds.length ≤ 1000) (ha : inY AZ ds = true) (j c : Nat) : (run (n + 2)).f 14 [.p 0, .d (.str (SS ds))] [qob "is" j (sg c)] = .ok (.d (.bl (decide (sl1 ds j = [c])))) [qob "is" j (sg c)] none := by
  have e : b_14 (run (n + 1)) [some (.p 0), some (.d (.str (SS ds)))] (obs [qob "is" j (sg c)]) = .ret (.d (.bl (decide (sl1 ds j = [c])))) (obs [qob "is" j (sg c)] ++ []) := by
    rw [List.append_nil]
    have h1 := qf_w "is" j (sg c)
    have h2 := qf_n "is" j (sg c)
    have h3 := qf_l "is" j (sg c)
    have h4 : ∀ μ, callL ((run (n + 1)).f 2) [] [.d (.str (SS ds))] μ = .ok (.d (.bl true)) μ := fun μ => by
      have := call_d (f := (run (n + 1)).f 2) (fl := []) (ds := [.str (SS ds)]) (μ := μ) (is_deeds n ds (by omega))
      rw [ha] at this
      exact this
    have h5 : ∀ μ, fEq (.d (.str "is")) (.d (.str "more")) μ = .ok (.d (.bl false)) μ := fun μ => by kernel_rfl
    have h6 := f_sl ds h j
    have h7 := eq_ss (sl1 ds j) [c]
    generalize decide (sl1 ds j = [c]) = b at *
    generalize sl1 ds j = s at *
    generalize obs [qob "is" j (sg c)] = μ at *
    simp [b_14, sSeq, sSet, sIf, sRet, sRetN, sSetIx, sExpr, sNil, sAsg, sAsgs, sPar, tOf, tAnd', tOr', tNot', tYes', tIfT, v2, v1, vN, vVar, vC, vAnd, vOr, vNot, vIf, aCons, aNil, fGt, fGe, fLt, fLe, fI, fIC, fSub, fMul, fDiv, fMod, fPow, fNeg, cMul, cDiv, cMod, cPow, fAbs, ev_bind, ev_berr, ev_then, ev_terr, List.getElem?_cons_zero, List.getElem?_cons_succ, List.set_cons_zero, List.set_cons_succ, fAdd, fInt, vCall, ixL, h1, h2, h3, h4, h5, vSl, pOpt, h6, h7]
  show exitF [qob "is" j (sg c)].length false (b_14 (run (n + 1)) [some (.p 0), some (.d (.str (SS ds)))] (obs [qob "is" j (sg c)])) = _
  rw [e]
  exact ex_ret
theorem meth_at {f : Fn} {ds : List D} {o : OD} {d : D} {μ : Mu} (hl : o.live = true) (h : f (.p 0 :: ds.map .d) [o] = .ok (.d d) [o] none) : callL f [true] (.p μ.length :: ds.map .d) (μ ++ [o.ob]) = .ok (.d d) (μ ++ [o.ob]) := by
  have hk : (μ ++ [o.ob])[μ.length]? = some o.ob := by simp
  rw [call_p hk hl h, set_self hk]
abbrev Q2 (R : Rn) (ma mb : Sm U) : Sm U := vRun (resMk 4 (R.f 12) [0, 1, 2, 3] [D.non] [true]) 2 0 (aCons ma (aCons mb aNil)) aNil
abbrev Q3 (R : Rn) (ma mb mc : Sm U) : Sm U := vRun (resMk 4 (R.f 12) [0, 1, 2, 3] [D.non] [true]) 3 0 (aCons ma (aCons mb (aCons mc aNil))) aNil
abbrev QK (R : Rn) (ma mb mc : Sm U) : Sm U := vRun (resMk 4 (R.f 12) [0, 3, 2, 1] [D.non] [true]) 0 3 aNil (aCons ma (aCons mb (aCons mc aNil)))
theorem vrun2 {res : ResL} {ma mb : Sm U} {ρ : Rho} {μ μ1 μ2 : Mu} {a b : U} (h1 : ma ρ μ = .ok a μ1) (h2 : mb ρ μ1 = .ok b μ2) : vRun res 2 0 (aCons ma (aCons mb aNil)) aNil ρ μ = res [a, b] [] μ2 := by
  have e : aCons ma (aCons mb aNil) ρ μ = .ok [a, b] μ2 := by
    unfold aCons
    rw [h1, ev_bind]
    show ((Res.bind (mb ρ μ1) _).bind _) = _
    rw [h2]
    rfl
  unfold vRun
  rw [e]
  rfl
theorem vrun3 {res : ResL} {ma mb mc : Sm U} {ρ : Rho} {μ μ1 μ2 μ3 : Mu} {a b c : U} (h1 : ma ρ μ = .ok a μ1) (h2 : mb ρ μ1 = .ok b μ2) (h3 : mc ρ μ2 = .ok c μ3) : vRun res 3 0 (aCons ma (aCons mb (aCons mc aNil))) aNil ρ μ = res [a, b, c] [] μ3 := by
  have e : aCons ma (aCons mb (aCons mc aNil)) ρ μ = .ok [a, b, c] μ3 := by
    unfold aCons
    rw [h1, ev_bind]
    show (Res.bind (Res.bind (mb ρ μ1) _) _) = _
    rw [h2, ev_bind]
    show (Res.bind (Res.bind (Res.bind (mc ρ μ2) _) _) _) = _
    rw [h3]
    rfl
  unfold vRun
  rw [e]
  rfl
theorem vrunK {res : ResL} {ma mb mc : Sm U} {ρ : Rho} {μ μ1 μ2 μ3 : Mu} {a b c : U} (h1 : ma ρ μ = .ok a μ1) (h2 : mb ρ μ1 = .ok b μ2) (h3 : mc ρ μ2 = .ok c μ3) : vRun res 0 3 aNil (aCons ma (aCons mb (aCons mc aNil))) ρ μ = res [] [a, b, c] μ3 := by
  have e : aCons ma (aCons mb (aCons mc aNil)) ρ μ = .ok [a, b, c] μ3 := by
    unfold aCons
    rw [h1, ev_bind]
    show (Res.bind (Res.bind (mb ρ μ1) _) _) = _
    rw [h2, ev_bind]
    show (Res.bind (Res.bind (Res.bind (mc ρ μ2) _) _) _) = _
    rw [h3]
    rfl
  unfold vRun
  rw [show aNil ρ μ = .ok [] μ from rfl, ev_bind, e]
  rfl
/-- a question made, whatever the store -/
theorem q3_ok (n : Nat) (p : Pl) (hp : p.ok) (μ : Mu) : resMk 4 ((run (n + 3)).f 12) [0, 1, 2, 3] [D.non] [true] [.d (.str p.w), .d (.int (p.k : Nat)), .d p.l] [] μ = .ok (.p μ.length) (μ ++ [(qob p.w (p.k : Nat) p.l).ob]) := by
  have hk := Pl.kle hp
  cases p with
  | more k =>
    have hk : k ≤ 99999 := hk
    exact mk1 (c := 4) (ix := [0, 1, 2, 3]) (ds := [D.non]) (us := [.d (.str "more"), .d (.int (k : Nat)), .d .non]) (ws := []) (ds' := [.str "more", .int (k : Nat), .non]) (ns := ["word", "number", "letter"]) (vs := [.str "more", .int (k : Nat), .non]) (q_more n k (by omega) (by omega)) rfl
  | is k c =>
    have hk : k ≤ 99999 := hk
    exact mk1 (c := 4) (ix := [0, 1, 2, 3]) (ds := [D.non]) (us := [.d (.str "is"), .d (.int (k : Nat)), .d (sg c)]) (ws := []) (ds' := [.str "is", .int (k : Nat), sg c]) (ns := ["word", "number", "letter"]) (vs := [.str "is", .int (k : Nat), sg c]) (q_is n k c (by omega) (by omega) hp.2) rfl
theorem q2_mk (n k : Nat) (hk : k ≤ 99999) (μ : Mu) : resMk 4 ((run (n + 3)).f 12) [0, 1, 2, 3] [D.non] [true] [.d (.str "more"), .d (.int (k : Nat))] [] μ = .ok (.p μ.length) (μ ++ [(qob "more" (k : Nat) .non).ob]) :=
  mk1 (c := 4) (ix := [0, 1, 2, 3]) (ds := [D.non]) (us := [.d (.str "more"), .d (.int (k : Nat))]) (ws := []) (ds' := [.str "more", .int (k : Nat), .non]) (ns := ["word", "number", "letter"]) (vs := [.str "more", .int (k : Nat), .non]) (q_more n k (by omega) (by omega)) rfl
theorem qk_mk (n k c : Nat) (hk : k ≤ 99999) (hc : 97 ≤ c ∧ c ≤ 122) (μ : Mu) : resMk 4 ((run (n + 3)).f 12) [0, 3, 2, 1] [D.non] [true] [] [.d (sg c), .d (.int (k : Nat)), .d (.str "is")] μ = .ok (.p μ.length) (μ ++ [(qob "is" (k : Nat) (sg c)).ob]) :=
  mk1 (c := 4) (ix := [0, 3, 2, 1]) (ds := [D.non]) (us := []) (ws := [.d (sg c), .d (.int (k : Nat)), .d (.str "is")]) (ds' := [.str "is", .int (k : Nat), sg c]) (ns := ["word", "number", "letter"]) (vs := [.str "is", .int (k : Nat), sg c]) (q_is n k c (by omega) (by omega) hc) rfl
theorem vm1K {c k : Nat} {res : ResL} {nm : Str} {mo mw : Sm U} {ρ : Rho} {μ μ0 μ1 : Mu} {ns : List Str} {us : List U} {v : U} (h0 : mo ρ μ = .ok (.p k) μ0) (h1 : μ0[k]? = some (.ins c ns us)) (h2 : ns.contains nm = false)
    (h3 : mw ρ μ0 = .ok v μ1) : vMeth [(c, res)] nm 0 1 mo aNil (aCons mw aNil) ρ μ = res [.p k] [v] μ1 := by
  have e1 : aCons mw aNil ρ μ0 = .ok [v] μ1 := by
    unfold aCons
    rw [h3]
    rfl
  unfold vMeth
  rw [h0, ev_bind]
  have e : insU μ0 (.p k) = some (c, ns, us) := by
    unfold insU
    dsimp only
    rw [h1]
  rw [e]
  dsimp only
  rw [if_neg (by rw [h2]; exact Bool.false_ne_true), List.lookup_cons, beq_self_eq_true]
  dsimp only
  rw [show aNil ρ μ0 = .ok [] μ0 from rfl, ev_bind, e1, ev_bind]
  rfl
theorem rep_b (b : Bool) (μ : Mu) : fReprA (.d (.bl b)) μ = .ok (.d (.str (if b = true then "True" else "False"))) μ := by cases b <;> kernel_rfl
theorem ne_same (s : Str) (μ : Mu) : fNe (.d (.str s)) (.d (.str s)) μ = .ok (.d (.bl false)) μ := by
  show Res.ok (U.d (D.bl (!decide (s = s)))) μ = _
  rw [decide_eq_true rfl]
  rfl
/-- repr(x) != repr(y), both the same bool -/
theorem same_rep {m1 m2 : Sm U} {ρ : Rho} {μ μ1 μ2 : Mu} {b : Bool} (h1 : m1 ρ μ = .ok (.d (.bl b)) μ1) (h2 : m2 ρ μ1 = .ok (.d (.bl b)) μ2) : tOf (v2 fNe (v1 fReprA m1) (v1 fReprA m2)) ρ μ = .ok false μ2 := by
  have e1 : v1 fReprA m1 ρ μ = .ok (.d (.str (if b = true then "True" else "False"))) μ1 := by
    unfold v1
    rw [h1]
    exact rep_b b μ1
  have e2 : v1 fReprA m2 ρ μ1 = .ok (.d (.str (if b = true then "True" else "False"))) μ2 := by
    unfold v1
    rw [h2]
    exact rep_b b μ2
  show ((Res.bind (v1 fReprA m1 ρ μ) fun u μ1 => Res.bind (v1 fReprA m2 ρ μ1) fun w μ2 => fNe u w μ2).bind _) = _
  rw [e1, ev_bind, e2, ev_bind, ne_same]
  rfl
end K36
set_option Elab.async false
set_option linter.all false
set_option maxRecDepth 100000
set_option maxHeartbeats 2000000
set_option autoImplicit false
namespace K36
open PySem PySem.Spec PyProof.Rows L2 Iv
theorem hv {i : Nat} {ρ : Rho} {u : U} {μ : Mu} (h : ρ[i]? = some (some u)) : vVar i ρ μ = .ok u μ := by
  unfold vVar
  rw [h]
abbrev r27 (ls ds : List Nat) (n l d o t : Option U) : Rho := [some (.p 0), some (.d (.str (SS ls))), some (.d (.str (SS ds))), n, l, d, o, t]
abbrev LT : Sm U := v2 fLt (vVar 3) (v1 fLen (vVar 2))
abbrev SL : Sm U := vSl (vVar 2) (some (vVar 3)) (some (v2 fAdd (vVar 3) (vC (.int 1))))
abbrev AN1 (R : Rn) : Sm U := vMeth [(4, (resF (R.f 14) [0, 1] [] [true]))] "answer" 1 0 (Q2 R (vC (.str "more")) (vVar 3)) (aCons (vVar 2) aNil) aNil
abbrev AN2 (R : Rn) : Sm U := vMeth [(4, (resF (R.f 14) [0, 1] [] [true]))] "answer" 0 1 (QK R (vVar 4) (vVar 3) (vC (.str "is"))) aNil (aCons (vVar 2) aNil)
abbrev CC (R : Rn) : SmS := sSeq (sSet 5 (vAnd LT (v2 fEq SL (vVar 4)))) (sIf (tOf (v2 fNe (v1 fReprA (AN2 R)) (v1 fReprA (vVar 5)))) (sRet (vC (.bl false))) sNil)
abbrev W2 (R : Rn) : Sm Wlk := wSeq (v2 fAdd (v2 fAdd (pk R 1) (vC (.str "az"))) SL)
abbrev BB (R : Rn) : SmS := sSeq (sIf (tOf (v2 fNe (v1 fReprA (AN1 R)) (v1 fReprA LT))) (sRet (vC (.bl false))) sNil) (sFor (W2 R) (.nm 4) (CC R))
section
variable (n : Nat) (ls ds : List Nat) (hds : ds.length ≤ 30) (ha : inY AZ ds = true) (j : Nat) (hj : j ≤ 99999) (l d o t : Option U) (μ : Mu)
include hds
theorem lt_ok : LT (r27 ls ds (some (.d (.int (j : Nat)))) l d o t) μ = .ok (.d (.bl (decide (j < ds.length)))) μ := by
  have h3 := len_ss ds (by omega)
  have h6 : decide ((j : Int) < ds.length) = decide (j < ds.length) := decide_eq_decide.mpr (by omega)
  simp [LT, sSeq, sSet, sIf, sRet, sRetN, sSetIx, sExpr, sNil, sAsg, sAsgs, sPar, tOf, tAnd', tOr', tNot', tYes', tIfT, v2, v1, vN, vVar, vC, vAnd, vOr, vNot, vIf, aCons, aNil, fGt, fGe, fLt, fLe, fI, fIC, fSub, fMul, fDiv, fMod, fPow, fNeg, cMul, cDiv, cMod, cPow, fAbs, ev_bind, ev_berr, ev_then, ev_terr, List.getElem?_cons_zero, List.getElem?_cons_succ, List.set_cons_zero, List.set_cons_succ, fAdd, fInt, h3]
theorem sl_ok : SL (r27 ls ds (some (.d (.int (j : Nat)))) l d o t) μ = .ok (.d (.str (SS (sl1 ds j)))) μ := by
  have h3 := f_sl ds (by omega) j
  generalize sl1 ds j = s at *
  simp [SL, sSeq, sSet, sIf, sRet, sRetN, sSetIx, sExpr, sNil, sAsg, sAsgs, sPar, tOf, tAnd', tOr', tNot', tYes', tIfT, v2, v1, vN, vVar, vC, vAnd, vOr, vNot, vIf, aCons, aNil, fGt, fGe, fLt, fLe, fI, fIC, fSub, fMul, fDiv, fMod, fPow, fNeg, cMul, cDiv, cMod, cPow, fAbs, ev_bind, ev_berr, ev_then, ev_terr, List.getElem?_cons_zero, List.getElem?_cons_succ, List.set_cons_zero, List.set_cons_succ, fAdd, fInt, vSl, pOpt, h3]
include ha hj
theorem an1_ok : AN1 (run (n + 3)) (r27 ls ds (some (.d (.int (j : Nat)))) l d o t) μ = .ok (.d (.bl (decide (j < ds.length)))) (μ ++ [(qob "more" (j : Nat) .non).ob]) := by
  have e : Q2 (run (n + 3)) (vC (.str "more")) (vVar 3) (r27 ls ds (some (.d (.int (j : Nat)))) l d o t) μ = .ok (.p μ.length) (μ ++ [(qob "more" (j : Nat) .non).ob]) := (vrun2 (μ1 := μ) (μ2 := μ) rfl (hv rfl)).trans (q2_mk n j hj μ)
  refine (vm1 (k := μ.length) (n := 1) (μ1 := μ ++ [(qob "more" (j : Nat) .non).ob]) (ns := ["word", "number", "letter"]) (us := [.d (.str "more"), .d (.int (j : Nat)), .d .non]) (vs := [.d (.str (SS ds))]) e (by simp; rfl) (by rfl) rfl rfl).trans ?_
  exact meth_at (f := (run (n + 3)).f 14) (ds := [.str (SS ds)]) (o := qob "more" (j : Nat) .non) rfl (ans_more (n + 1) ds (by omega) ha j)
theorem an2_ok (c : Nat) (hc : 97 ≤ c ∧ c ≤ 122) : AN2 (run (n + 3)) (r27 ls ds (some (.d (.int (j : Nat)))) (some (.d (sg c))) d o t) μ = .ok (.d (.bl (decide (sl1 ds j = [c])))) (μ ++ [(qob "is" (j : Nat) (sg c)).ob]) := by
  have e : QK (run (n + 3)) (vVar 4) (vVar 3) (vC (.str "is")) (r27 ls ds (some (.d (.int (j : Nat)))) (some (.d (sg c))) d o t) μ = .ok (.p μ.length) (μ ++ [(qob "is" (j : Nat) (sg c)).ob]) := (vrunK (μ1 := μ) (μ2 := μ) (μ3 := μ) (hv rfl) (hv rfl) rfl).trans (qk_mk n j c hj hc μ)
  refine (vm1K (k := μ.length) (μ1 := μ ++ [(qob "is" (j : Nat) (sg c)).ob]) (ns := ["word", "number", "letter"]) (us := [.d (.str "is"), .d (.int (j : Nat)), .d (sg c)]) (v := .d (.str (SS ds))) e (by simp; rfl) (by rfl) rfl).trans ?_
  exact meth_at (f := (run (n + 3)).f 14) (ds := [.str (SS ds)]) (o := qob "is" (j : Nat) (sg c)) rfl (ans_is (n + 1) ds (by omega) ha j c)
theorem cc_ok (c : Nat) (hc : 97 ≤ c ∧ c ≤ 122) : ∃ b, CC (run (n + 3)) (r27 ls ds (some (.d (.int (j : Nat)))) (some (.d (sg c))) d o t) μ = .nx (r27 ls ds (some (.d (.int (j : Nat)))) (some (.d (sg c))) (some (.d (.bl b))) o t) (μ ++ [(qob "is" (j : Nat) (sg c)).ob]) := by
  have key : (decide (j < ds.length) && decide (sl1 ds j = [c])) = decide (sl1 ds j = [c]) := by
    by_cases h : j < ds.length
    · rw [decide_eq_true h, Bool.true_and]
    · have : sl1 ds j = [] := by unfold sl1; rw [List.drop_of_length_le (by omega), List.take_nil]
      rw [this, decide_eq_false (show ¬ (([] : List Nat) = [c]) by intro z; cases z), Bool.and_false]
  refine ⟨decide (sl1 ds j = [c]), ?_⟩
  have s1 : sSet 5 (vAnd LT (v2 fEq SL (vVar 4))) (r27 ls ds (some (.d (.int (j : Nat)))) (some (.d (sg c))) d o t) μ = .nx (r27 ls ds (some (.d (.int (j : Nat)))) (some (.d (sg c))) (some (.d (.bl (decide (sl1 ds j = [c]))))) o t) μ := by
    have h1 := lt_ok ls ds hds j (some (.d (sg c))) d o t μ
    have h2 := sl_ok ls ds hds j (some (.d (sg c))) d o t μ
    have h3 := eq_ss (sl1 ds j) [c] μ
    rw [← key] at h3 ⊢
    unfold sSet vAnd
    rw [h1, ev_bind]
    by_cases h : j < ds.length
    · rw [decide_eq_true h] at h3 ⊢
      show (((Res.bind (SL _ μ) fun u μ1 => Res.bind (vVar 4 _ μ1) fun w μ2 => fEq u w μ2)).thenS _ _) = _
      rw [h2, ev_bind, hv (i := 4) (u := .d (sg c)) rfl, ev_bind, h3]
      rfl
    · rw [decide_eq_false h]
      rfl
  have s2 := same_rep (μ2 := μ ++ [(qob "is" (j : Nat) (sg c)).ob]) (m2 := vVar 5) (an2_ok n ls ds hds ha j hj (some (.d (.bl (decide (sl1 ds j = [c]))))) o t μ c hc) (hv rfl)
  unfold CC
  rw [seq_nx s1, if_no s2]
end
theorem az_mem {w : List Nat} (h : inY AZ w = true) : ∀ c ∈ w, 97 ≤ c ∧ c ≤ 122 := fun c hc => (mem_az c).mp (of_decide_eq_true (List.all_eq_true.mp h c hc))
theorem az_of {w : List Nat} (h : ∀ c ∈ w, 97 ≤ c ∧ c ≤ 122) : inY AZ w = true := List.all_eq_true.mpr fun c hc => decide_eq_true ((mem_az c).mpr (h c hc))
/-- one number -/
theorem bb_ok (n : Nat) (ns : List Int) (ls ds : List Nat) (hls : 0 < ls.length ∧ ls.length ≤ 26) (hla : inY AZ ls = true) (hds : ds.length ≤ 30) (ha : inY AZ ds = true) (j : Nat) (hj : j ≤ 99999) (l d o t : Option U) (a r : Int) (ex : Mu) (h1 : 0 ≤ a) (h2 : a + 1 ≤ 1000001) (h3 : 0 ≤ r) :
    ∃ l' d' a2 r2 ex', BB (run (n + 3)) (r27 ls ds (some (.d (.int (j : Nat)))) l d o t) (pn ns a r ++ ex) = .nx (r27 ls ds (some (.d (.int (j : Nat)))) l' d' o t) (pn ns a2 r2 ++ ex') ∧ a ≤ a2 ∧ a2 ≤ a + 1 ∧ 0 ≤ r2 := by
  have s1 := same_rep (m2 := LT) (an1_ok n ls ds hds ha j hj l d o t (pn ns a r ++ ex)) (lt_ok ls ds hds j l d o t _)
  obtain ⟨x, a2, r2, ⟨c0, hc0, rfl⟩, q1, q2, q3, e1⟩ := (pickGS (n + 1) ns (SS ls) (by show 0 < ls.toArray.size; rw [List.size_toArray]; exact hls.1) (by show ls.toArray.size ≤ _; rw [List.size_toArray]; omega)).call (ex ++ [(qob "more" (j : Nat) .non).ob]) a r h1 h2 h3
  have hc0' := az_mem hla c0 hc0
  have hw : W2 (run (n + 3)) (r27 ls ds (some (.d (.int (j : Nat)))) l d o t) (pn ns a r ++ (ex ++ [(qob "more" (j : Nat) .non).ob])) = .ok (wkD (([c0] ++ [97, 122] ++ sl1 ds j).map sg)) (pn ns a2 r2 ++ (ex ++ [(qob "more" (j : Nat) .non).ob])) := by
    have e2 : pk (run (n + 3)) 1 (r27 ls ds (some (.d (.int (j : Nat)))) l d o t) (pn ns a r ++ (ex ++ [(qob "more" (j : Nat) .non).ob])) = .ok (.d (.str (SS [c0]))) (pn ns a2 r2 ++ (ex ++ [(qob "more" (j : Nat) .non).ob])) := e1
    have hsl : (sl1 ds j).length ≤ 1 := by unfold sl1; rw [List.length_take]; omega
    show (Res.bind (Res.bind (Res.bind (pk _ 1 _ _) _) _) _) = _
    rw [e2, ev_bind]
    show (Res.bind (Res.bind (fAdd (.d (.str (SS [c0]))) (.d (.str (SS [97, 122]))) (pn ns a2 r2 ++ (ex ++ [(qob "more" (j : Nat) .non).ob]))) _) _) = _
    rw [add_ss [c0] [97, 122] (by simp), ev_bind]
    show (Res.bind (Res.bind (SL (r27 ls ds (some (.d (.int (j : Nat)))) l d o t) (pn ns a2 r2 ++ (ex ++ [(qob "more" (j : Nat) .non).ob]))) _) _) = _
    rw [sl_ok ls ds hds j l d o t, ev_bind, add_ss ([c0] ++ [97, 122]) (sl1 ds j) (by simp; omega), ev_bind]
    rfl
  have hall : ∀ c ∈ [c0] ++ [97, 122] ++ sl1 ds j, 97 ≤ c ∧ c ≤ 122 := fun c hc => by
    rcases List.mem_append.mp hc with q | q
    · simp only [List.cons_append, List.nil_append, List.mem_cons, List.not_mem_nil, or_false] at q
      rcases q with rfl | rfl | rfl
      · exact hc0'
      · decide
      · decide
    · exact az_mem ha c (List.mem_of_mem_drop (List.mem_of_mem_take q))
  obtain ⟨ρ', μ', s2, l', d', ex', rfl, rfl⟩ := for_seq (i := 4) (body := CC (run (n + 3))) (w := W2 (run (n + 3))) (ds := ([c0] ++ [97, 122] ++ sl1 ds j).map sg) (fun _ ρ μ => ∃ l' d' ex', ρ = r27 ls ds (some (.d (.int (j : Nat)))) l' d' o t ∧ μ = pn ns a2 r2 ++ ex') hw ⟨l, d, _, rfl, rfl⟩ (fun k x ρ μ hk ⟨l', d', ex', e1, e2⟩ => by
    subst e1 e2
    obtain ⟨c, hc, rfl⟩ := List.mem_map.mp (List.mem_of_getElem? hk)
    obtain ⟨b, e⟩ := cc_ok n ls ds hds ha j hj d' o t (pn ns a2 r2 ++ ex') c (hall c hc)
    exact ⟨_, _, e, _, _, ex' ++ [(qob "is" (j : Nat) (sg c)).ob], rfl, by rw [List.append_assoc]⟩)
  refine ⟨l', d', a2, r2, ex', ?_, q1, q2, q3⟩
  unfold BB
  rw [seq_nx (if_no s1), List.append_assoc]
  exact s2
end K36
set_option Elab.async false
set_option linter.all false
set_option maxRecDepth 100000
set_option maxHeartbeats 2000000
set_option autoImplicit false
namespace K36
open PySem PySem.Spec PyProof.Rows L2 Iv
abbrev SgP (d : D) : Prop := ∃ c, d = sg c ∧ 97 ≤ c ∧ c ≤ 122
theorem sgs_of : ∀ {ds : List D}, (∀ d ∈ ds, SgP d) → ∃ cs : List Nat, ds = cs.map sg ∧ (∀ c ∈ cs, 97 ≤ c ∧ c ≤ 122) ∧ cs.length = ds.length
  | [], _ => ⟨[], rfl, fun c h => (by cases h), rfl⟩
  | d :: ds, h => by
    obtain ⟨c, rfl, hc⟩ := h d List.mem_cons_self
    obtain ⟨cs, rfl, h2, h3⟩ := sgs_of fun x hx => h x (List.mem_cons_of_mem _ hx)
    exact ⟨c :: cs, rfl, fun x hx => (List.mem_cons.mp hx).elim (fun e => e ▸ hc) (h2 x), by simp⟩
theorem joinL_one : ∀ cs : List Nat, TL.joinL [] (cs.map fun c => [c]) = cs
  | [] => rfl
  | [c] => rfl
  | c :: d :: r => by
    have := joinL_one (d :: r)
    simp only [List.map_cons] at this ⊢
    simp [TL.joinL] at this ⊢
    exact this
theorem strs_sg (cs : List Nat) : strsU ((cs.map sg).map U.d) = some (cs.map fun c => SS [c]) := by
  induction cs with
  | nil => rfl
  | cons c cs ih =>
    show (strsU ((cs.map sg).map U.d)).map (fun xs => SS [c] :: xs) = _
    rw [ih]
    rfl
theorem join_sg (cs : List Nat) (h : cs.length ≤ 1000) (μ : Mu) : fJoin (.d (.str "")) [.d (.lst (cs.map sg))] μ = .ok (.d (.str (SS cs))) μ := by
  have e1 : Txt.join "" (cs.map fun c => SS [c]) = SS cs := by
    have h2 := SX.join_S [] (cs.map fun c => [c])
    rw [joinL_one, List.map_map] at h2
    exact h2
  have e2 : ((cs.map fun c => SS [c]).map fun x : Str => x.length).sum ≤ 1000 := by
    have : ∀ cs : List Nat, ((cs.map fun c => SS [c]).map fun x : Str => x.length).sum = cs.length := fun cs => by
      induction cs with
      | nil => rfl
      | cons c cs ih =>
        rw [List.map_cons, List.map_cons, List.sum_cons, ih, List.length_cons]
        show 1 + cs.length = _
        omega
    rw [this]; exact h
  show (match strsU ((cs.map sg).map U.d) with
    | some ys => if (ys.map fun x : Str => x.length).sum + ys.length * ("" : Str).length ≤ 1000000 then Res.ok (U.d (.str (Txt.join "" ys))) μ else .bad
    | none => .bad) = _
  rw [strs_sg]
  dsimp only
  rw [if_pos (by show _ + _ * 0 ≤ 1000000; omega), e1]
def LL : List D := [.str "a", .str "ab", .str "abc", .str AZ]
theorem ll_ok : ∀ d ∈ LL, ∃ ls : List Nat, d = .str (SS ls) ∧ 0 < ls.length ∧ ls.length ≤ 26 ∧ inY AZ ls = true := by
  intro d hd
  simp only [LL, List.mem_cons, List.not_mem_nil, or_false] at hd
  rcases hd with rfl | rfl | rfl | rfl
  · exact ⟨[97], rfl, by decide, by decide, by decide +kernel⟩
  · exact ⟨[97, 98], rfl, by decide, by decide, by decide +kernel⟩
  · exact ⟨[97, 98, 99], rfl, by decide, by decide, by decide +kernel⟩
  · exact ⟨AZ.cps.toList, rfl, by decide +kernel, by decide +kernel, by decide +kernel⟩
def CN : List D := [.int 0, .int 1, .int 2, .int 3, .int 5, .int 9, .int 30]
def ODD : List D := [.non, .int 0, .bl true, .str "A", .str "a.", .str "a b", .lst [.str "a"], .tup [.str "a"], .dic [] [], .str "a\n", .str "-"]
theorem shown_O : ∀ v ∈ ODD, Shown v := by
  intro v hv
  simp only [ODD, List.mem_cons, List.not_mem_nil, or_false] at hv
  rcases hv with rfl | rfl | rfl | rfl | rfl | rfl | rfl | rfl | rfl | rfl | rfl <;> first | exact shown_dic | exact shown_py (by rfl) (by decide +kernel) (fun μ => rfl) (by decide +kernel)
theorem lam1_O (n : Nat) : ∀ v ∈ ODD, (run (n + 4)).l 1 [.d v] [] = .err 1 ["value"] [v] [] := by
  intro v hv
  simp only [ODD, List.mem_cons, List.not_mem_nil, or_false] at hv
  rcases hv with rfl | rfl | rfl | rfl | rfl | rfl | rfl | rfl | rfl | rfl | rfl <;> kernel_rfl
theorem eq_tup2 (a : Str) (μ : Mu) (ha : PyData.strOk a = true) : fEq (.d (.tup [.str "question", .str a])) (.d (.tup [.str "question", .str a])) μ = .ok (.d (.bl true)) μ := by
  have hs : SeqAt.shaped (.tuple [.str "question", .str a]) = true := by
    unfold SeqAt.shaped
    simp only [PyData.canLay0, PyData.canLayAll0, PyData.depth, PyData.depthAll, ha, Bool.true_and, Bool.and_true]
    kernel_rfl
  have h1 : eqD μ (.d (.tup [.str "question", .str a])) (.d (.tup [.str "question", .str a])) = some true := by
    show (if SeqAt.shaped (.tuple [.str "question", .str a]) = true ∧ SeqAt.shaped (.tuple [.str "question", .str a]) = true then some (PyData.eqv (.tuple [.str "question", .str a]) (.tuple [.str "question", .str a])) else none) = _
    rw [if_pos ⟨hs, hs⟩]
    simp [PyData.eqv, PyData.eqvAll]
  unfold fEq
  rw [h1]
theorem olst_d (l : List D) (h : l.length ≤ 100000) (μ : Mu) : oLst (l.map U.d) μ = .ok (.d (.lst l)) μ := by
  unfold oLst
  rw [frzL_d]
  dsimp only
  rw [if_pos h]
abbrev J1 (R : Rn) : SmS := sSet 1 (vCall (R.f 19) 2 0 [0, 1] [] [true] (aCons (vVar 0) (aCons (vN oLst (aCons (vC (.str "a")) (aCons (vC (.str "ab")) (aCons (vC (.str "abc")) (aCons (vC (.str "abcdefghijklmnopqrstuvwxyz")) aNil))))) aNil)) aNil)
abbrev J2w (R : Rn) : Sm Wlk := wRng1 (aCons (vCall (R.f 19) 2 0 [0, 1] [] [true] (aCons (vVar 0) (aCons (vN oLst (aCons (vC (.int 0)) (aCons (vC (.int 1)) (aCons (vC (.int 2)) (aCons (vC (.int 3)) (aCons (vC (.int 5)) (aCons (vC (.int 9)) (aCons (vC (.int 30)) aNil)))))))) aNil)) aNil) aNil)
abbrev J2 (R : Rn) : SmS := sSet 2 (vM "str" fJoin (vC (.str "")) (aCons (vComp (J2w R) (.nm 7) [7] tYes' (pk R 1)) aNil))
abbrev J3w : Sm Wlk := wSeq (v2 fAdd (vLrg1 (vN (fMM false) (aCons (v2 fAdd (v1 fLen (vVar 2)) (vC (.int 2))) (aCons (vC (.int 8)) aNil)))) (vN oLst (aCons (vN (fMM true) (aCons (v2 fSub (v1 fLen (vVar 2)) (vC (.int 1))) (aCons (vC (.int 0)) aNil))) (aCons (v1 fLen (vVar 2)) (aCons (v2 fAdd (v1 fLen (vVar 2)) (vC (.int 1))) (aCons (vC (.int 99999)) aNil))))))
abbrev J4 (R : Rn) : SmS := sSet 6 (vCall (R.f 19) 2 0 [0, 1] [] [true] (aCons (vVar 0) (aCons (vN oLst (aCons (vC .non) (aCons (vC (.int 0)) (aCons (vC (.bl true)) (aCons (vC (.str "A")) (aCons (vC (.str "a.")) (aCons (vC (.str "a b")) (aCons (vN oLst (aCons (vC (.str "a")) aNil)) (aCons (vN oTup (aCons (vC (.str "a")) aNil)) (aCons vDic0 (aCons (vC (.str "a\n")) (aCons (vC (.str "-")) aNil)))))))))))) aNil)) aNil)
abbrev J5 (R : Rn) : SmS := sRet (v2 fEq (vCallLam (R.f 20) 1 [6] 1 [0] [] aNil) (vN oTup (aCons (vC (.str "question")) (aCons (v1 fReprA (vVar 6)) aNil))))
theorem b27_eq (R : Rn) : b_27 R = sSeq (J1 R) (sSeq (J2 R) (sSeq (sFor J3w (.nm 3) (BB R)) (sSeq (J4 R) (J5 R)))) := rfl
def NL (m : Nat) : List D := rgD 0 (if (8 : Int) < (m : Int) + 2 then 8 else (m : Int) + 2) ++ [.int (if (0 : Int) > (m : Int) - 1 then 0 else (m : Int) - 1), .int m, .int ((m : Int) + 1), .int 99999]
theorem rg_mem {b : Int} {d : D} (h : d ∈ rgD 0 b) : ∃ j : Nat, d = .int (j : Nat) ∧ (j : Int) < b := by
  obtain ⟨i, hi, rfl⟩ := List.mem_map.mp h
  have := List.mem_range.mp hi
  exact ⟨i, by rw [Int.zero_add], by omega⟩
theorem nl_ok (m : Nat) (hm : m ≤ 30) : (NL m).length ≤ 12 ∧ ∀ d ∈ NL m, ∃ j : Nat, d = .int (j : Nat) ∧ j ≤ 99999 := by
  refine ⟨?_, fun d hd => ?_⟩
  · unfold NL rgD
    rw [List.length_append, List.length_map, List.length_range]
    show _ + 4 ≤ 12
    split <;> omega
  · unfold NL at hd
    rcases List.mem_append.mp hd with q | q
    · obtain ⟨j, rfl, hj⟩ := rg_mem q
      refine ⟨j, rfl, ?_⟩
      split at hj <;> omega
    · simp only [List.mem_cons, List.not_mem_nil, or_false] at q
      rcases q with rfl | rfl | rfl | rfl
      · refine ⟨m - 1, ?_, by omega⟩
        congr 1
        split <;> omega
      · exact ⟨m, rfl, by omega⟩
      · exact ⟨m + 1, rfl, by omega⟩
      · exact ⟨99999, rfl, by decide⟩
theorem p3w_ok (ls ds : List Nat) (hds : ds.length ≤ 30) (n l d o t : Option U) (μ : Mu) : J3w (r27 ls ds n l d o t) μ = .ok (wkD (NL ds.length)) μ := by
  have h3 := len_ss ds (by omega)
  have hnl := nl_ok ds.length hds
  have e1 : vN (fMM false) (aCons (v2 fAdd (v1 fLen (vVar 2)) (vC (.int 2))) (aCons (vC (.int 8)) aNil)) (r27 ls ds n l d o t) μ = .ok (.d (.int (if (8 : Int) < (ds.length : Int) + 2 then 8 else (ds.length : Int) + 2))) μ := by
    simp [sSeq, sSet, sIf, sRet, sRetN, sSetIx, sExpr, sNil, sAsg, sAsgs, sPar, tOf, tAnd', tOr', tNot', tYes', tIfT, v2, v1, vN, vVar, vC, vAnd, vOr, vNot, vIf, aCons, aNil, fGt, fGe, fLt, fLe, fI, fIC, fSub, fMul, fDiv, fMod, fPow, fNeg, cMul, cDiv, cMod, cPow, fAbs, ev_bind, ev_berr, ev_then, ev_terr, List.getElem?_cons_zero, List.getElem?_cons_succ, List.set_cons_zero, List.set_cons_succ, fAdd, fInt, fMM, h3]
  have e2 : vLrg1 (vN (fMM false) (aCons (v2 fAdd (v1 fLen (vVar 2)) (vC (.int 2))) (aCons (vC (.int 8)) aNil))) (r27 ls ds n l d o t) μ = .ok (.d (.lst (rgD 0 (if (8 : Int) < (ds.length : Int) + 2 then 8 else (ds.length : Int) + 2)))) μ := by
    unfold vLrg1
    rw [e1, ev_bind]
    dsimp only
    rw [if_pos (by split <;> omega)]
    refine olst_d _ ?_ μ
    unfold rgD
    rw [List.length_map, List.length_range]
    split <;> omega
  have e3 : vN oLst (aCons (vN (fMM true) (aCons (v2 fSub (v1 fLen (vVar 2)) (vC (.int 1))) (aCons (vC (.int 0)) aNil))) (aCons (v1 fLen (vVar 2)) (aCons (v2 fAdd (v1 fLen (vVar 2)) (vC (.int 1))) (aCons (vC (.int 99999)) aNil)))) (r27 ls ds n l d o t) μ = .ok (.d (.lst [.int (if (0 : Int) > (ds.length : Int) - 1 then 0 else (ds.length : Int) - 1), .int ds.length, .int ((ds.length : Int) + 1), .int 99999])) μ := by
    have ho : ∀ a b c d : D, oLst [.d a, .d b, .d c, .d d] μ = .ok (.d (.lst [a, b, c, d])) μ := fun a b c d => rfl
    simp [sSeq, sSet, sIf, sRet, sRetN, sSetIx, sExpr, sNil, sAsg, sAsgs, sPar, tOf, tAnd', tOr', tNot', tYes', tIfT, v2, v1, vN, vVar, vC, vAnd, vOr, vNot, vIf, aCons, aNil, fGt, fGe, fLt, fLe, fI, fIC, fSub, fMul, fDiv, fMod, fPow, fNeg, cMul, cDiv, cMod, cPow, fAbs, ev_bind, ev_berr, ev_then, ev_terr, List.getElem?_cons_zero, List.getElem?_cons_succ, List.set_cons_zero, List.set_cons_succ, fAdd, fInt, fMM, h3, ho]
  have e4 : v2 fAdd (vLrg1 (vN (fMM false) (aCons (v2 fAdd (v1 fLen (vVar 2)) (vC (.int 2))) (aCons (vC (.int 8)) aNil)))) (vN oLst (aCons (vN (fMM true) (aCons (v2 fSub (v1 fLen (vVar 2)) (vC (.int 1))) (aCons (vC (.int 0)) aNil))) (aCons (v1 fLen (vVar 2)) (aCons (v2 fAdd (v1 fLen (vVar 2)) (vC (.int 1))) (aCons (vC (.int 99999)) aNil))))) (r27 ls ds n l d o t) μ = .ok (.d (.lst (NL ds.length))) μ := by
    show (Res.bind (vLrg1 _ _ _) fun u μ1 => Res.bind (vN oLst _ _ μ1) fun w μ2 => fAdd u w μ2) = _
    rw [e2, ev_bind, e3, ev_bind]
    show oLst ((rgD 0 _).map U.d ++ [.int _, .int _, .int _, .int _].map U.d) μ = _
    rw [← List.map_append]
    exact olst_d _ (by have := hnl.1; unfold NL at this; omega) μ
  show (Res.bind (v2 fAdd _ _ (r27 ls ds n l d o t) μ) _) = _
  rw [e4]
  rfl
theorem answersG (n : Nat) (ns : List Int) : DrG ns 50 ((run (n + 6)).f 27) [] (fun d => d = .bl true) := DrG.ofB (b := b_27 (run (n + 5))) (N := 8) fun at_ rest h1 h2 h3 => by
  obtain ⟨d1, a1, r1, m1, q1, q2, q3, e1⟩ := (pickG (n + 3) ns LL (by decide) (by decide)).call0 at_ rest h1 (by omega) h3
  obtain ⟨ls, rfl, l1, l2, l3⟩ := ll_ok d1 m1
  have s1 : J1 (run (n + 5)) [some (.p 0), none, none, none, none, none, none, none] (pn ns at_ rest) = .nx [some (.p 0), some (.d (.str (SS ls))), none, none, none, none, none, none] (pn ns a1 r1) := by
    show ((callL ((run (n + 5)).f 19) [true] [.p 0, .d (.lst LL)] (pn ns at_ rest)).thenS _ _) = _
    rw [show callL ((run (n + 5)).f 19) [true] [.p 0, .d (.lst LL)] (pn ns at_ rest) = _ from e1]
    rfl
  obtain ⟨d2, a2, r2, m2, q4, q5, q6, e2⟩ := (pickG (n + 3) ns CN (by decide) (by decide)).call0 a1 r1 (by omega) (by omega) q3
  obtain ⟨q, rfl, hq⟩ : ∃ q : Nat, d2 = .int (q : Nat) ∧ q ≤ 30 := by
    simp only [CN, List.mem_cons, List.not_mem_nil, or_false] at m2
    rcases m2 with rfl | rfl | rfl | rfl | rfl | rfl | rfl
    · exact ⟨0, rfl, by decide⟩
    · exact ⟨1, rfl, by decide⟩
    · exact ⟨2, rfl, by decide⟩
    · exact ⟨3, rfl, by decide⟩
    · exact ⟨5, rfl, by decide⟩
    · exact ⟨9, rfl, by decide⟩
    · exact ⟨30, rfl, by decide⟩
  have hw : J2w (run (n + 5)) [some (.p 0), some (.d (.str (SS ls))), none, none, none, none, none, none] (pn ns a1 r1) = .ok (rngW 0 q) (pn ns a2 r2) := by
    have e : aCons (vCall ((run (n + 5)).f 19) 2 0 [0, 1] [] [true] (aCons (vVar 0) (aCons (vN oLst (aCons (vC (.int 0)) (aCons (vC (.int 1)) (aCons (vC (.int 2)) (aCons (vC (.int 3)) (aCons (vC (.int 5)) (aCons (vC (.int 9)) (aCons (vC (.int 30)) aNil)))))))) aNil)) aNil) aNil [some (.p 0), some (.d (.str (SS ls))), none, none, none, none, none, none] (pn ns a1 r1) = .ok [.d (.int (q : Nat))] (pn ns a2 r2) := by
      show (Res.bind (callL ((run (n + 5)).f 19) [true] [.p 0, .d (.lst CN)] (pn ns a1 r1)) _) = _
      rw [show callL ((run (n + 5)).f 19) [true] [.p 0, .d (.lst CN)] (pn ns a1 r1) = _ from e2]
      rfl
    unfold J2w wRng1
    rw [e, ev_bind]
    dsimp only
    rw [if_pos (by omega), Int.toNat_natCast]
  have he : ∀ j : Int, Dr ns 1 SgP (pk (run (n + 5)) 1 ((wipeR [some (.p 0), some (.d (.str (SS ls))), none, none, none, none, none, none] [7]).set 7 (some (.d (.int j))))) := fun j a r g1 g2 g3 => by
    obtain ⟨x, a', r', ⟨c, hc, rfl⟩, z1, z2, z3, z4⟩ := (pickGS (n + 3) ns (SS ls) (by show 0 < ls.toArray.size; rw [List.size_toArray]; exact l1) (by show ls.toArray.size ≤ _; rw [List.size_toArray]; omega)).call0 a r g1 g2 g3
    exact ⟨_, a', r', ⟨c, rfl, az_mem l3 c hc⟩, z1, z2, z3, z4⟩
  obtain ⟨xs, a3, r3, x1, x2, x3, x4, x5, e3⟩ := comp_rng (i := 7) (own := [7]) (c := 1) (by decide) he q q 0 a2 r2 [] (by omega) (by omega) (Nat.le_refl _) (fun d hd => by cases hd) (by omega) (by omega) q6
  obtain ⟨ds, rfl, y1, y2⟩ := sgs_of x2
  have hdl : ds.length ≤ 30 := by rw [y2, x1]; show 0 + q ≤ 30; omega
  have hda := az_of y1
  have s2 : J2 (run (n + 5)) [some (.p 0), some (.d (.str (SS ls))), none, none, none, none, none, none] (pn ns a1 r1) = .nx (r27 ls ds none none none none none) (pn ns a3 r3) := by
    have ec : vComp (J2w (run (n + 5))) (.nm 7) [7] tYes' (pk (run (n + 5)) 1) [some (.p 0), some (.d (.str (SS ls))), none, none, none, none, none, none] (pn ns a1 r1) = .ok (.d (.lst (ds.map sg))) (pn ns a3 r3) := by
      unfold vComp
      rw [hw, ev_bind]
      show ((compG (.nm 7) [7] tYes' (pk (run (n + 5)) 1) (rngW 0 q).nxt (q + 1) 0 _ (pn ns a2 r2) []).bind _) = _
      rw [show ([] : List U) = ([] : List D).map .d from rfl, e3, ev_bind, frzL_d]
    have ea : aCons (vComp (J2w (run (n + 5))) (.nm 7) [7] tYes' (pk (run (n + 5)) 1)) aNil [some (.p 0), some (.d (.str (SS ls))), none, none, none, none, none, none] (pn ns a1 r1) = .ok [.d (.lst (ds.map sg))] (pn ns a3 r3) := by
      unfold aCons
      rw [ec]
      rfl
    show ((Res.bind (aCons _ aNil _ (pn ns a1 r1)) fun us μ2 => fJoin (.d (.str "")) us μ2).thenS _ _) = _
    rw [ea, ev_bind, join_sg ds (by omega)]
    rfl
  have hnl := nl_ok ds.length hdl
  obtain ⟨ρ', μ', s3, n', l', d', o', t', a4, r4, ex, rfl, rfl, w1, w2, w3⟩ := for_seq (i := 3) (body := BB (run (n + 5))) (w := J3w) (ds := NL ds.length) (ρ := r27 ls ds none none none none none) (μ := pn ns a3 r3)
    (fun k ρ μ => ∃ n' l' d' o' t' a r ex, ρ = r27 ls ds n' l' d' o' t' ∧ μ = pn ns a r ++ ex ∧ a3 ≤ a ∧ a ≤ a3 + k ∧ 0 ≤ r) (p3w_ok ls ds hdl none none none none none _) ⟨none, none, none, none, none, a3, r3, [], rfl, by rw [List.append_nil], Int.le_refl _, by omega, x5⟩
    (fun k x ρ μ hk ⟨n', l', d', o', t', a, r, ex, g1, g2, g3, g4, g5⟩ => by
      subst g1 g2
      obtain ⟨j, rfl, hj⟩ := hnl.2 x (List.mem_of_getElem? hk)
      have hk2 := (List.getElem?_eq_some_iff.mp hk).1
      have := hnl.1
      obtain ⟨l2', d2', a', r', ex', e, z1, z2, z3⟩ := bb_ok (n + 2) ns ls ds ⟨l1, l2⟩ l3 hdl hda j hj l' d' o' t' a r ex (by omega) (by omega) g5
      exact ⟨_, _, e, _, _, _, _, _, a', r', ex', rfl, rfl, by omega, by omega, z3⟩)
  have hn12 := hnl.1
  obtain ⟨d5, a5, r5, m5, q7, q8, q9, e5⟩ := (pickG (n + 3) ns ODD (by decide) (by decide)).call ex a4 r4 (by omega) (by omega) w3
  obtain ⟨s, hs, hok⟩ := shown_O d5 m5
  have s4 : J4 (run (n + 5)) (r27 ls ds n' l' d' o' t') (pn ns a4 r4 ++ ex) = .nx (r27 ls ds n' l' d' (some (.d d5)) t') (pn ns a5 r5 ++ ex) := by
    show ((callL ((run (n + 5)).f 19) [true] [.p 0, .d (.lst ODD)] (pn ns a4 r4 ++ ex)).thenS _ _) = _
    rw [show callL ((run (n + 5)).f 19) [true] [.p 0, .d (.lst ODD)] (pn ns a4 r4 ++ ex) = _ from e5]
    rfl
  have hn1 : D.ncL [d5] = true := by
    have := nc_of ODD (by rfl) d5 m5
    simp [D.ncL, this]
  have s5 : J5 (run (n + 5)) (r27 ls ds n' l' d' (some (.d d5)) t') (pn ns a5 r5 ++ ex) = .ret (.d (.bl true)) (pn ns a5 r5 ++ ex) := by
    have f1 : vCallLam ((run (n + 5)).f 20) 1 [6] 1 [0] [] aNil (r27 ls ds n' l' d' (some (.d d5)) t') (pn ns a5 r5 ++ ex) = .ok (.d (.tup [.str "question", .str s])) (pn ns a5 r5 ++ ex) := by
      rw [vcl0 (ds := [d5]) rfl hn1 rfl, heard_q (m := n + 4) hn1 (lam1_O n d5 m5) hs]
      rfl
    have f2 : (vN oTup (aCons (vC (.str "question")) (aCons (v1 fReprA (vVar 6)) aNil))) (r27 ls ds n' l' d' (some (.d d5)) t') (pn ns a5 r5 ++ ex) = .ok (.d (.tup [.str "question", .str s])) (pn ns a5 r5 ++ ex) := by
      have e3 : v1 fReprA (vVar 6) (r27 ls ds n' l' d' (some (.d d5)) t') (pn ns a5 r5 ++ ex) = .ok (.d (.str s)) (pn ns a5 r5 ++ ex) := (v1_fld rfl).trans (hs _)
      generalize fReprA = g at *
      simp only [vN, aCons, vC, ev_bind, e3, aNil, tup2]
    show ((Res.bind (vCallLam _ 1 [6] 1 [0] [] aNil _ _) fun u μ1 => Res.bind ((vN oTup (aCons (vC (.str "question")) (aCons (v1 fReprA (vVar 6)) aNil))) _ μ1) fun w μ2 => fEq u w μ2).thenS _ _) = _
    rw [f1, ev_bind, f2, ev_bind, eq_tup2 s _ hok]
    rfl
  refine ⟨_, a5, r5, ex, rfl, by omega, by omega, q9, ?_⟩
  show b_27 (run (n + 5)) [some (.p 0), none, none, none, none, none, none, none] (pn ns at_ rest) = _
  rw [b27_eq, seq_nx s1, seq_nx s2, seq_nx s3, seq_nx s4]
  exact s5
end K36
set_option Elab.async false
set_option linter.all false
set_option maxRecDepth 100000
set_option maxHeartbeats 2000000
set_option autoImplicit false
namespace K36
open PySem PySem.Spec PyProof.Rows L2 Iv
/-! ### unlike questions -/
def Pl.nxt : Pl → Pl
  | .more k => .more ((k + 1) % 100000)
  | .is k c => .is ((k + 1) % 100000) c
def Pl.oth : Pl → Pl
  | .more k => .is k 97
  | .is k _ => .more k
theorem nxt_ok {p : Pl} (h : p.ok) : p.nxt.ok := by
  cases p with
  | more k => show (k + 1) % 100000 ≤ 99999; omega
  | is k c => exact ⟨by omega, h.2⟩
theorem nxt_ne {p : Pl} (h : p.ok) : p ≠ p.nxt := by
  cases p with
  | more k =>
    intro z
    injection z with z1
    have : k ≤ 99999 := h
    omega
  | is k c =>
    intro z
    injection z with z1
    have := h.1
    omega
theorem oth_ok {p : Pl} (h : p.ok) : p.oth.ok := by
  cases p with
  | more k => exact ⟨h, by decide⟩
  | is k c => exact h.1
theorem oth_ne {p : Pl} : p ≠ p.oth := by cases p <;> intro z <;> cases z
theorem acons_ok {m : Sm U} {r : Sm (List U)} {ρ : Rho} {μ μ1 μ2 : Mu} {u : U} {us : List U} (h1 : m ρ μ = .ok u μ1) (h2 : r ρ μ1 = .ok us μ2) : aCons m r ρ μ = .ok (u :: us) μ2 := by
  unfold aCons
  rw [h1, ev_bind, h2]
  rfl
theorem call_dp {f : Fn} {a x d : D} {m : Nat} {μ μ' : Mu} (hx : frzU 9 (.p m) μ = some (x, μ')) (h : f [.d a, .d x] [] = .ok (.d d) [] none) : callL f [true] [.d a, .p m] μ = .ok (.d d) μ' := by
  have hp : pass [true] [.d a, .p m] μ [] = some ([.d a, .d x], [], μ') := by
    show (match (match ((frzU 9 (.p m) μ).map fun p => (U.d p.1, ([] : List Nat), p.2) : Option (U × List Nat × Mu)) with
        | some (w, ns1, μ1) => (match pass [] [] μ1 ns1 with
          | some (ws, ns2, μ2) => some (w :: ws, ns2, μ2)
          | none => none)
        | none => none : Option (List U × List Nat × Mu)) with
      | some (ws, ns2, μ2) => some (U.d a :: ws, ns2, μ2)
      | none => none) = _
    rw [hx]
    rfl
  unfold callL
  rw [hp]
  dsimp only
  rw [if_pos List.nodup_nil]
  show back [] μ' (f [.d a, .d x] []) = _
  rw [h]
  rfl
def NotQ (x : D) : Prop := (∃ s, x = .str s) ∨ (∃ l, x = .tup l) ∨ x = .non
theorem eq_other (n : Nat) (p : Pl) (x : D) (h : NotQ x) : (run (n + 1)).f 15 [.d p.q, .d x] [] = .ok (.d (.bl false)) [] none := by
  rcases h with ⟨s, rfl⟩ | ⟨l, rfl⟩ | rfl <;> kernel_rfl
abbrev EQ (R : Rn) : U → U → Mu → Res U := fEqO [(4, resF (R.f 15) [0, 1] [] [true])] (oksO [3, 4])
abbrev NE (R : Rn) : U → U → Mu → Res U := fNeO [(4, R.f 15)] (oksO [3, 4])
theorem eqo_other (n : Nat) (p : Pl) (x : D) (h : NotQ x) (μ : Mu) : EQ (run (n + 1)) (.d p.q) (.d x) μ = .ok (.d (.bl false)) μ := by
  have e : EQ (run (n + 1)) (.d p.q) (.d x) μ = ((callL ((run (n + 1)).f 15) [true] ([p.q, x].map .d) μ).bind blEnd) := by
    rcases h with ⟨s, rfl⟩ | ⟨l, rfl⟩ | rfl <;> rfl
  rw [e, call_d (eq_other n p x h)]
  rfl
theorem neo_other (n : Nat) (p : Pl) (x : D) (h : NotQ x) (μ : Mu) : NE (run (n + 1)) (.d p.q) (.d x) μ = .ok (.d (.bl true)) μ := by
  have e : NE (run (n + 1)) (.d p.q) (.d x) μ = ((noErr (callL ((run (n + 1)).f 15) [true] ([p.q, x].map .d) μ)).bind ngEnd) := by
    rcases h with ⟨s, rfl⟩ | ⟨l, rfl⟩ | rfl <;> rfl
  rw [e, call_d (eq_other n p x h)]
  rfl
/-- a place that holds a question -/
def Hq (μ : Mu) (m : Nat) (p' : Pl) : Prop := μ[m]? = some (qob p'.w (p'.k : Nat) p'.l).ob ∨ μ[m]? = some (.fz p'.q)
theorem hq_fz {μ : Mu} {m : Nat} {p' : Pl} (h : Hq μ m p') : ∃ μ', frzU 9 (.p m) μ = some (p'.q, μ') ∧ (μ' = μ ∨ μ' = μ.set m (.fz p'.q)) := by
  rcases h with h | h
  · refine ⟨_, ?_, .inr rfl⟩
    show (match μ[m]? with
      | some (.fz x) => some (x, μ)
      | some (.lst us) => match frzLW (frzU 8) us μ with
        | some (ds, μ1) => some (.lst ds, μ1.set m (.fz (.lst ds)))
        | none => none
      | some (.dic ks us) => match frzLW (frzU 8) us μ with
        | some (ds, μ1) => some (.dic ks ds, μ1.set m (.fz (.dic ks ds)))
        | none => none
      | some (.dit ks us) => match frzLW (frzU 8) us μ with
        | some (ds, μ1) => some (.dit ks ds, μ1.set m (.fz (.dit ks ds)))
        | none => none
      | some (.ins c ns us) => match frzLW (frzU 8) us μ with
        | some (ds, μ1) => some (.obj c ns ds, μ1.set m (.fz (.obj c ns ds)))
        | none => none
      | none => none : Option (D × Mu)) = _
    rw [h]
    rfl
  · refine ⟨μ, ?_, .inl rfl⟩
    show (match μ[m]? with
      | some (.fz x) => some (x, μ)
      | some (.lst us) => match frzLW (frzU 8) us μ with
        | some (ds, μ1) => some (.lst ds, μ1.set m (.fz (.lst ds)))
        | none => none
      | some (.dic ks us) => match frzLW (frzU 8) us μ with
        | some (ds, μ1) => some (.dic ks ds, μ1.set m (.fz (.dic ks ds)))
        | none => none
      | some (.dit ks us) => match frzLW (frzU 8) us μ with
        | some (ds, μ1) => some (.dit ks ds, μ1.set m (.fz (.dit ks ds)))
        | none => none
      | some (.ins c ns us) => match frzLW (frzU 8) us μ with
        | some (ds, μ1) => some (.obj c ns ds, μ1.set m (.fz (.obj c ns ds)))
        | none => none
      | none => none : Option (D × Mu)) = _
    rw [h]
theorem hq_kd {μ : Mu} {m : Nat} {p' : Pl} (h : Hq μ m p') : kdU μ (.p m) = some (.obj 4) := by
  rcases h with h | h
  · show (match μ[m]? with
      | some (.fz x) => x.kd
      | some (.lst _) => some .lst
      | some (.dic _ _) => some .dic
      | some (.dit _ _) => some .dic
      | some (.ins c _ _) => some (.obj c)
      | _ => none) = _
    rw [h]
    rfl
  · show (match μ[m]? with
      | some (.fz x) => x.kd
      | some (.lst _) => some .lst
      | some (.dic _ _) => some .dic
      | some (.dit _ _) => some .dic
      | some (.ins c _ _) => some (.obj c)
      | _ => none) = _
    rw [h]
    rfl
theorem hq_set {μ : Mu} {m m' : Nat} {p' p2 : Pl} (h : Hq μ m p') (h2 : Hq μ m' p2) : Hq (μ.set m (.fz p'.q)) m' p2 := by
  by_cases e : m = m'
  · subst e
    have hl : m < μ.length := by rcases h with h | h <;> exact (List.getElem?_eq_some_iff.mp h).1
    have hq : p'.q = p2.q := by
      obtain ⟨μ1, e1, _⟩ := hq_fz h
      obtain ⟨μ2, e2, _⟩ := hq_fz h2
      rw [e1] at e2
      injection e2 with e3
      injection e3 with e4
    right
    rw [List.getElem?_set_self hl, hq]
  · rcases h2 with h2 | h2
    · exact .inl (by rw [List.getElem?_set_ne e]; exact h2)
    · exact .inr (by rw [List.getElem?_set_ne e]; exact h2)
theorem eqo_p (n : Nat) (p p' : Pl) (m : Nat) (μ : Mu) (h : Hq μ m p') : ∃ μ', EQ (run (n + 1)) (.d p.q) (.p m) μ = .ok (.d (.bl (decide (p = p')))) μ' ∧ (μ' = μ ∨ μ' = μ.set m (.fz p'.q)) ∧ Hq μ' m p' := by
  obtain ⟨μ', e1, e2⟩ := hq_fz h
  refine ⟨μ', ?_, e2, by rcases e2 with rfl | rfl <;> first | exact h | exact hq_set h h⟩
  have e : EQ (run (n + 1)) (.d p.q) (.p m) μ = ((callL ((run (n + 1)).f 15) [true] [.d p.q, .p m] μ).bind blEnd) := by
    show (match insU μ (.d p.q), kdU μ (.p m) with
      | some (c, _, _), some kd => match ([(4, resF ((run (n + 1)).f 15) [0, 1] [] [true])] : List (Nat × ResL)).lookup c with
        | some res => if oksO [3, 4] kd = true then (res [.d p.q, .p m] [] μ).bind blEnd else .bad
        | none => .bad
      | _, _ => .bad : Res U) = _
    rw [hq_kd h]
    rfl
  rw [e, call_dp e1 (eq_q n p p')]
  rfl
theorem neo_p (n : Nat) (p p' : Pl) (m : Nat) (μ : Mu) (h : Hq μ m p') : ∃ μ', NE (run (n + 1)) (.d p.q) (.p m) μ = .ok (.d (.bl (!decide (p = p')))) μ' ∧ (μ' = μ ∨ μ' = μ.set m (.fz p'.q)) ∧ Hq μ' m p' := by
  obtain ⟨μ', e1, e2⟩ := hq_fz h
  refine ⟨μ', ?_, e2, by rcases e2 with rfl | rfl <;> first | exact h | exact hq_set h h⟩
  have e : NE (run (n + 1)) (.d p.q) (.p m) μ = ((noErr (callL ((run (n + 1)).f 15) [true] [.d p.q, .p m] μ)).bind ngEnd) := by
    show (match insU μ (.d p.q), kdU μ (.p m) with
      | some (c, _, _), some kd => match ([(4, (run (n + 1)).f 15)] : List (Nat × Fn)).lookup c with
        | some fn => if oksO [3, 4] kd = true then (noErr (callL fn [true] [.d p.q, .p m] μ)).bind ngEnd else .bad
        | none => .bad
      | _, _ => .bad : Res U) = _
    rw [hq_kd h]
    rfl
  rw [e, call_dp e1 (eq_q n p p')]
  rfl
/-! ### over the others -/
abbrev cnd (R : Rn) : Sm Bool := tOr' (tOf (v2 (EQ R) (vVar 2) (vVar 4))) (tNot' (tOf (v2 (NE R) (vVar 2) (vVar 4))))
/-- what the others are -/
def OkU (p : Pl) (μ : Mu) : U → Prop
  | .d x => NotQ x
  | .p m => 1 ≤ m ∧ m ≠ 3 ∧ ∃ p', p ≠ p' ∧ Hq μ m p'
def Sto (ns : List Int) (a r : Int) (us : List U) (μ : Mu) : Prop := (∃ ex, μ = pn ns a r ++ ex) ∧ μ[3]? = some (.lst us)
theorem sto_set {ns : List Int} {a r : Int} {us : List U} {μ : Mu} {m : Nat} {x : Ob} (h : Sto ns a r us μ) (h1 : 1 ≤ m) (h3 : m ≠ 3) : Sto ns a r us (μ.set m x) := by
  obtain ⟨⟨ex, rfl⟩, h2⟩ := h
  refine ⟨⟨ex.set (m - 1) x, ?_⟩, ?_⟩
  · obtain ⟨k, rfl⟩ : ∃ k, m = k + 1 := ⟨m - 1, by omega⟩
    rfl
  · rw [List.getElem?_set_ne h3]
    exact h2
theorem cnd_ok (n : Nat) (ns : List Int) (a r : Int) (us : List U) (p : Pl) (u : U) (ρ : Rho) (μ : Mu) (h2 : ρ[2]? = some (some (.d p.q))) (h4 : ρ[4]? = some (some u)) (hs : Sto ns a r us μ) (ha : ∀ w ∈ us, OkU p μ w) (hu : OkU p μ u) :
    ∃ μ', cnd (run (n + 1)) ρ μ = .ok false μ' ∧ Sto ns a r us μ' ∧ ∀ w ∈ us, OkU p μ' w := by
  have fin : ∀ {μ1 μ2 : Mu}, EQ (run (n + 1)) (.d p.q) u μ = .ok (.d (.bl false)) μ1 → NE (run (n + 1)) (.d p.q) u μ1 = .ok (.d (.bl true)) μ2 → cnd (run (n + 1)) ρ μ = .ok false μ2 := fun {μ1 μ2} e1 e2 => by
    have g1 : tOf (v2 (EQ (run (n + 1))) (vVar 2) (vVar 4)) ρ μ = .ok false μ1 := by
      unfold tOf v2
      rw [hv h2, ev_bind, hv h4, ev_bind, e1]
      rfl
    have g2 : tOf (v2 (NE (run (n + 1))) (vVar 2) (vVar 4)) ρ μ1 = .ok true μ2 := by
      unfold tOf v2
      rw [hv h2, ev_bind, hv h4, ev_bind, e2]
      rfl
    show (Res.bind (tOf (v2 (EQ (run (n + 1))) (vVar 2) (vVar 4)) ρ μ) fun b μ1 => if b = true then Res.ok true μ1 else (tNot' (tOf (v2 (NE (run (n + 1))) (vVar 2) (vVar 4)))) ρ μ1) = _
    rw [g1, ev_bind, if_neg Bool.false_ne_true]
    show (Res.bind (tOf (v2 (NE (run (n + 1))) (vVar 2) (vVar 4)) ρ μ1) _) = _
    rw [g2]
    rfl
  cases u with
  | d x => exact ⟨μ, fin (eqo_other n p x hu μ) (neo_other n p x hu μ), hs, ha⟩
  | p m =>
    obtain ⟨m1, m3, p', hne, hq⟩ := hu
    obtain ⟨μ1, e1, g1, q1⟩ := eqo_p n p p' m μ hq
    obtain ⟨μ2, e2, g2, q2⟩ := neo_p n p p' m μ1 q1
    rw [decide_eq_false hne] at e1 e2
    have pres : ∀ {ν ν' : Mu}, Sto ns a r us ν → (∀ w ∈ us, OkU p ν w) → Hq ν m p' → (ν' = ν ∨ ν' = ν.set m (.fz p'.q)) → Sto ns a r us ν' ∧ ∀ w ∈ us, OkU p ν' w := fun {ν ν'} s a h g => by
      rcases g with rfl | rfl
      · exact ⟨s, a⟩
      · refine ⟨sto_set s m1 m3, fun w hw => ?_⟩
        have := a w hw
        cases w with
        | d x => exact this
        | p m' =>
          obtain ⟨b1, b2, p2, b3, b4⟩ := this
          exact ⟨b1, b2, p2, b3, hq_set h b4⟩
    obtain ⟨s1, a1⟩ := pres hs ha hq g1
    obtain ⟨s2, a2⟩ := pres s1 a1 q1 g2
    exact ⟨μ2, fin e1 e2, s2, a2⟩
theorem comp_none (n : Nat) (ns : List Int) (a r : Int) (us : List U) (p : Pl) (ρ : Rho) (h2 : ∀ u, ((wipeR ρ [4]).set 4 (some u))[2]? = some (some (.d p.q))) (h4 : 4 < ρ.length) (nxt : Nxt) (hn : ∀ i μ, Sto ns a r us μ → nxt i μ = some us[i]?) :
    ∀ (k i : Nat) (f : Nat) (μ : Mu), i + k = us.length → k < f → Sto ns a r us μ → (∀ w ∈ us, OkU p μ w) → ∃ μ', compG (.nm 4) [4] (cnd (run (n + 1))) (vVar 4) nxt f i ρ μ [] = .ok [] μ' ∧ Sto ns a r us μ'
  | 0, i, f, μ, h, hf, hs, ha => by
    obtain ⟨f, rfl⟩ : ∃ g, f = g + 1 := ⟨f - 1, by omega⟩
    refine ⟨μ, ?_, hs⟩
    rw [compG, hn i μ hs, List.getElem?_eq_none (by omega)]
  | k + 1, i, f, μ, h, hf, hs, ha => by
    obtain ⟨f, rfl⟩ : ∃ g, f = g + 1 := ⟨f - 1, by omega⟩
    have hi : i < us.length := by omega
    obtain ⟨μ1, e1, s1, a1⟩ := cnd_ok n ns a r us p us[i] ((wipeR ρ [4]).set 4 (some us[i])) μ (h2 _) (get_set h4) hs ha (ha _ (List.getElem_mem hi))
    obtain ⟨μ2, e2, s2⟩ := comp_none n ns a r us p ρ h2 h4 nxt hn k (i + 1) f μ1 (by omega) (by omega) s1 a1
    refine ⟨μ2, ?_, s2⟩
    rw [compG, hn i μ hs, List.getElem?_eq_getElem hi]
    show (match cnd (run (n + 1)) ((wipeR ρ [4]).set 4 (some us[i])) μ with
        | .ok true μ1 => (match vVar 4 ((wipeR ρ [4]).set 4 (some us[i])) μ1 with
          | .ok y μ2 => if ([] : List U).length < 100000 then compG (.nm 4) [4] (cnd (run (n + 1))) (vVar 4) nxt f (i + 1) ρ μ2 ([] ++ [y]) else .bad
          | _ => .bad)
        | .ok false μ1 => compG (.nm 4) [4] (cnd (run (n + 1))) (vVar 4) nxt f (i + 1) ρ μ1 []
        | _ => .bad : Res (List U)) = _
    rw [e1]
    exact e2
end K36
set_option Elab.async false
set_option linter.all false
set_option maxRecDepth 100000
set_option maxHeartbeats 2000000
set_option autoImplicit false
namespace K36
open PySem PySem.Spec PyProof.Rows L2 Iv
theorem sto_app {ns : List Int} {a r : Int} {us : List U} {μ : Mu} {x : Ob} (h : Sto ns a r us μ) : Sto ns a r us (μ ++ [x]) := by
  obtain ⟨⟨ex, rfl⟩, h2⟩ := h
  refine ⟨⟨ex ++ [x], by rw [List.append_assoc]⟩, ?_⟩
  rw [List.getElem?_append_left (List.getElem?_eq_some_iff.mp h2).1]
  exact h2
theorem hq_app {μ : Mu} {m : Nat} {p' : Pl} {x : Ob} (h : Hq μ m p') : Hq (μ ++ [x]) m p' := by
  rcases h with h | h
  · exact .inl (by rw [List.getElem?_append_left (List.getElem?_eq_some_iff.mp h).1]; exact h)
  · exact .inr (by rw [List.getElem?_append_left (List.getElem?_eq_some_iff.mp h).1]; exact h)
theorem oku_app {p : Pl} {μ : Mu} {x : Ob} {w : U} (h : OkU p μ w) : OkU p (μ ++ [x]) w := by
  cases w with
  | d y => exact h
  | p m =>
    obtain ⟨h1, h2, p', h3, h4⟩ := h
    exact ⟨h1, h2, p', h3, hq_app h4⟩
theorem oku_set {p p2 : Pl} {μ : Mu} {m : Nat} {w : U} (hq : Hq μ m p2) (h : OkU p μ w) : OkU p (μ.set m (.fz p2.q)) w := by
  cases w with
  | d y => exact h
  | p m' =>
    obtain ⟨h1, h2, p', h3, h4⟩ := h
    exact ⟨h1, h2, p', h3, hq_set hq h4⟩
theorem hq_new {μ : Mu} {p' : Pl} : Hq (μ ++ [(qob p'.w (p'.k : Nat) p'.l).ob]) μ.length p' := .inl (by simp)
abbrev r28 (p : Pl) (o x : Option U) : Rho := [some (.p 0), some (.d p.d), some (.d p.q), o, x]
abbrev PX (i : Int) : Sm U := v2 fIx (vVar 1) (vC (.int i))
abbrev IST : Sm Bool := tOf (v2 fEq (PX 0) (vC (.str "is")))
abbrev QA (R : Rn) : Sm U := Q3 R (PX 0) (v2 fMod (v1 fInt (v2 fAdd (PX 1) (vC (.int 1)))) (vC (.int 100000))) (PX 2)
abbrev QB (R : Rn) : Sm U := Q3 R (vIf IST (vC (.str "more")) (vC (.str "is"))) (PX 1) (vIf IST (vC .non) (vC (.str "a")))
abbrev QC (R : Rn) : Sm U := Q3 R (vC (.str "is")) (PX 1) (vIf (tOf (v2 fNe (PX 2) (vC (.str "b")))) (vC (.str "b")) (vC (.str "c")))
abbrev QD (R : Rn) : Sm U := Q3 R (PX 0) (PX 1) (PX 2)
abbrev STR (R : Rn) : Sm U := v1 (fStrO [(4, R.f 16)]) (vVar 2)
abbrev S1 (R : Rn) : SmS := sSet 1 (vCall (R.f 21) 1 0 [0] [] [true] (aCons (vVar 0) aNil) aNil)
abbrev S2 (R : Rn) : SmS := sSet 2 (vCall (R.f 22) 1 0 [0] [] [] (aCons (vVar 1) aNil) aNil)
abbrev S3t (R : Rn) : Sm Bool := tOr' (tOf (v2 fNe (v1 fReprA (vN oTup (aCons (v1 (fAt "word" [4] [2]) (vVar 2)) (aCons (v1 (fFld "number" [4]) (vVar 2)) (aCons (v1 (fFld "letter" [4]) (vVar 2)) aNil))))) (v1 fReprA (vVar 1)))) (tOf (v2 fNe (STR R) (vCall (R.f 23) 1 0 [0] [] [] (aCons (vVar 1) aNil) aNil)))
abbrev S4 (R : Rn) : SmS := sSet 3 (vN oLstP (aCons (STR R) (aCons (vVar 1) (aCons (vC .non) (aCons (QA R) (aCons (QB R) aNil))))))
abbrev S5 (R : Rn) : SmS := sIf IST (sExpr (vM "list" fApp (vVar 3) (aCons (QC R) aNil))) sNil
abbrev S6t (R : Rn) : Sm Bool := tOr' (tNot' (tOf (v2 (EQ R) (vVar 2) (vCall (R.f 22) 1 0 [0] [] [] (aCons (vVar 1) aNil) aNil)))) (tOf (v2 (NE R) (vVar 2) (QD R)))
abbrev S7 (R : Rn) : SmS := sRet (v2 fEq (vComp (wSeq (vVar 3)) (.nm 4) [4] (cnd R) (vVar 4)) (vN oLst aNil))
theorem b28_eq (R : Rn) : b_28 R = sSeq (S1 R) (sSeq (S2 R) (sSeq (sIf (S3t R) (sRet (vC (.bl false))) sNil) (sSeq (S4 R) (sSeq (S5 R) (sSeq (sIf (S6t R) (sRet (vC (.bl false))) sNil) (S7 R)))))) := rfl
theorem px0 (p : Pl) (o x : Option U) (μ : Mu) : PX 0 (r28 p o x) μ = .ok (.d (.str p.w)) μ := by kernel_rfl
theorem px1 (p : Pl) (o x : Option U) (μ : Mu) : PX 1 (r28 p o x) μ = .ok (.d (.int (p.k : Nat))) μ := by kernel_rfl
theorem px2 (p : Pl) (o x : Option U) (μ : Mu) : PX 2 (r28 p o x) μ = .ok (.d p.l) μ := by kernel_rfl
theorem qa_ok (n : Nat) (p : Pl) (hp : p.ok) (o x : Option U) (μ : Mu) : QA (run (n + 3)) (r28 p o x) μ = .ok (.p μ.length) (μ ++ [(qob p.nxt.w (p.nxt.k : Nat) p.nxt.l).ob]) := by
  have e : (v2 fMod (v1 fInt (v2 fAdd (PX 1) (vC (.int 1)))) (vC (.int 100000))) (r28 p o x) μ = .ok (.d (.int (p.nxt.k : Nat))) μ := by
    have h : (((p.k : Nat) : Int) + 1) % 100000 = (p.nxt.k : Nat) := by cases p <;> simp [Pl.k, Pl.nxt]
    have e1 : v2 fAdd (PX 1) (vC (.int 1)) (r28 p o x) μ = .ok (.d (.int (((p.k : Nat) : Int) + 1))) μ := by
      show (Res.bind (PX 1 (r28 p o x) μ) fun u μ1 => fAdd u (.d (.int 1)) μ1) = _
      rw [px1]
      rfl
    show (Res.bind (Res.bind (v2 fAdd (PX 1) (vC (.int 1)) (r28 p o x) μ) fInt) fun u μ1 => fMod u (.d (.int 100000)) μ1) = _
    rw [e1]
    show Res.ok (U.d (.int ((((p.k : Nat) : Int) + 1) % 100000))) μ = _
    rw [h]
  refine (vrun3 (px0 p o x μ) e (px2 p o x μ)).trans ?_
  have := q3_ok n p.nxt (nxt_ok hp) μ
  cases p <;> exact this
theorem qb_ok (n : Nat) (p : Pl) (hp : p.ok) (o x : Option U) (μ : Mu) : QB (run (n + 3)) (r28 p o x) μ = .ok (.p μ.length) (μ ++ [(qob p.oth.w (p.oth.k : Nat) p.oth.l).ob]) := by
  have e1 : vIf IST (vC (.str "more")) (vC (.str "is")) (r28 p o x) μ = .ok (.d (.str p.oth.w)) μ := by cases p <;> kernel_rfl
  have e2 : PX 1 (r28 p o x) μ = .ok (.d (.int (p.oth.k : Nat))) μ := by cases p <;> kernel_rfl
  have e3 : vIf IST (vC .non) (vC (.str "a")) (r28 p o x) μ = .ok (.d p.oth.l) μ := by cases p <;> kernel_rfl
  exact (vrun3 e1 e2 e3).trans (q3_ok n p.oth (oth_ok hp) μ)
theorem qd_ok (n : Nat) (p : Pl) (hp : p.ok) (o x : Option U) (μ : Mu) : QD (run (n + 3)) (r28 p o x) μ = .ok (.p μ.length) (μ ++ [(qob p.w (p.k : Nat) p.l).ob]) :=
  (vrun3 (px0 p o x μ) (px1 p o x μ) (px2 p o x μ)).trans (q3_ok n p hp μ)
def Pl.thr (k c : Nat) : Pl := .is k (if c = 98 then 99 else 98)
theorem qc_ok (n k c : Nat) (hp : (Pl.is k c).ok) (o x : Option U) (μ : Mu) : QC (run (n + 3)) (r28 (Pl.is k c) o x) μ = .ok (.p μ.length) (μ ++ [(qob (Pl.thr k c).w ((Pl.thr k c).k : Nat) (Pl.thr k c).l).ob]) := by
  have e3 : vIf (tOf (v2 fNe (PX 2) (vC (.str "b")))) (vC (.str "b")) (vC (.str "c")) (r28 (Pl.is k c) o x) μ = .ok (.d (Pl.thr k c).l) μ := by
    have h : tOf (v2 fNe (PX 2) (vC (.str "b"))) (r28 (Pl.is k c) o x) μ = .ok (!decide (c = 98)) μ := by
      have e := ne_ss [c] [98] μ
      have e' : decide ([c] = [98]) = decide (c = 98) := decide_eq_decide.mpr (by simp)
      rw [e'] at e
      show (Res.bind (Res.bind (PX 2 (r28 (Pl.is k c) o x) μ) fun u μ1 => fNe u (.d (.str (SS [98]))) μ1) _) = _
      rw [px2, ev_bind]
      show (Res.bind (fNe (.d (.str (SS [c]))) (.d (.str (SS [98]))) μ) _) = _
      rw [e]
      rfl
    unfold vIf
    rw [h, ev_bind]
    unfold Pl.thr
    by_cases hc : c = 98
    · subst hc; rfl
    · rw [decide_eq_false hc, if_pos (by rfl)]
      simp only [if_neg hc]
      rfl
  refine (vrun3 (rfl : (vC (.str "is")) (r28 (Pl.is k c) o x) μ = _) (px1 (Pl.is k c) o x μ) e3).trans ?_
  exact q3_ok n (Pl.thr k c) ⟨hp.1, by split <;> decide⟩ μ
theorem thr_ne (k c : Nat) : Pl.is k c ≠ Pl.thr k c := by
  unfold Pl.thr
  intro z
  injection z with _ z2
  split at z2 <;> omega
theorem unlikeG (n : Nat) (ns : List Int) : DrG ns 4 ((run (n + 5)).f 28) [] (fun d => d = .bl true) := DrG.ofB (b := b_28 (run (n + 4))) (N := 5) fun at_ rest h1 h2 h3 => by
  obtain ⟨d1, a1, r1, ⟨p, hp, rfl⟩, q1, q2, q3, e1⟩ := (plainG (n + 1) ns).call0 at_ rest h1 h2 h3
  have s1 : S1 (run (n + 4)) [some (.p 0), none, none, none, none] (pn ns at_ rest) = .nx [some (.p 0), some (.d p.d), none, none, none] (pn ns a1 r1) := by
    show ((callL ((run (n + 4)).f 21) [true] [.p 0] (pn ns at_ rest)).thenS _ _) = _
    rw [show callL ((run (n + 4)).f 21) [true] [.p 0] (pn ns at_ rest) = _ from e1]
    rfl
  have c22 : ∀ μ, callL ((run (n + 4)).f 22) [] [.d p.d] μ = .ok (.d p.q) μ := fun μ => call_d (ds := [p.d]) (made n p hp)
  have s2 : S2 (run (n + 4)) [some (.p 0), some (.d p.d), none, none, none] (pn ns a1 r1) = .nx (r28 p none none) (pn ns a1 r1) := by
    show ((callL ((run (n + 4)).f 22) [] [.d p.d] (pn ns a1 r1)).thenS _ _) = _
    rw [c22]
    rfl
  -- repr and str
  obtain ⟨s, hs⟩ := pl_repr hp
  have s3 : S3t (run (n + 4)) (r28 p none none) (pn ns a1 r1) = .ok false (pn ns a1 r1) := by
    have e6 := at_w p
    have e7 := fld_n p
    have e8 := fld_l p
    have e9 : ∀ μ, oTup [.d (.str p.w), .d (.int (p.k : Nat)), .d p.l] μ = .ok (.d p.d) μ := fun μ => rfl
    have e10 := stro_q (n + 3) p hp
    have e11 : ∀ μ, callL ((run (n + 4)).f 23) [] [.d p.d] μ = .ok (.d (.str (SS p.txt))) μ := fun μ => call_d (ds := [p.d]) (text_of (n + 3) p hp)
    have e13 := ne_same s
    have e14 := ne_same (SS p.txt)
    unfold S3t STR r28
    generalize fReprA = g at *
    generalize fAt "word" [4] [2] = g2 at *
    generalize fStrO [(4, (run (n + 4)).f 16)] = g3 at *
    generalize p.q = q at *
    generalize p.d = d at *
    simp [sSeq, sSet, sIf, sRet, sRetN, sSetIx, sExpr, sNil, sAsg, sAsgs, sPar, tOf, tAnd', tOr', tNot', tYes', tIfT, v2, v1, vN, vVar, vC, vAnd, vOr, vNot, vIf, aCons, aNil, fGt, fGe, fLt, fLe, fI, fIC, fSub, fMul, fDiv, fMod, fPow, fNeg, cMul, cDiv, cMod, cPow, fAbs, ev_bind, ev_berr, ev_then, ev_terr, List.getElem?_cons_zero, List.getElem?_cons_succ, List.set_cons_zero, List.set_cons_succ, fAdd, fInt, e6, e7, e8, e9, e10, e11, e13, e14, hs, vCall, ixL]
  -- the others
  obtain ⟨us0, hus0⟩ : ∃ us0 : List U, us0 = [.d (.str (SS p.txt)), .d p.d, .d .non, .p 1, .p 2] := ⟨_, rfl⟩
  obtain ⟨obA, hA⟩ : ∃ x, x = (qob p.nxt.w (p.nxt.k : Nat) p.nxt.l).ob := ⟨_, rfl⟩
  obtain ⟨obB, hB⟩ : ∃ x, x = (qob p.oth.w (p.oth.k : Nat) p.oth.l).ob := ⟨_, rfl⟩
  have s4 : S4 (run (n + 4)) (r28 p none none) (pn ns a1 r1) = .nx (r28 p (some (.p 3)) none) (pn ns a1 r1 ++ [obA] ++ [obB] ++ [.lst us0]) := by
    have g1 : STR (run (n + 4)) (r28 p none none) (pn ns a1 r1) = .ok (.d (.str (SS p.txt))) (pn ns a1 r1) := (v1_fld (i := 2) rfl).trans (stro_q (n + 3) p hp _)
    have gA := qa_ok (n + 1) p hp none none (pn ns a1 r1)
    have gB := qb_ok (n + 1) p hp none none (pn ns a1 r1 ++ [obA])
    rw [← hA] at gA
    rw [← hB] at gB
    have gL := acons_ok g1 (acons_ok (hv (i := 1) rfl) (acons_ok (rfl : (vC .non) (r28 p none none) (pn ns a1 r1) = _) (acons_ok gA (acons_ok gB (show aNil (r28 p none none) (pn ns a1 r1 ++ [obA] ++ [obB]) = .ok [] (pn ns a1 r1 ++ [obA] ++ [obB]) from rfl)))))
    show ((Res.bind (aCons (STR (run (n + 4))) (aCons (vVar 1) (aCons (vC .non) (aCons (QA (run (n + 4))) (aCons (QB (run (n + 4))) aNil)))) (r28 p none none) (pn ns a1 r1)) oLstP).thenS _ _) = _
    rw [gL, ev_bind, hus0]
    rfl
  have k0 : Sto ns a1 r1 us0 (pn ns a1 r1 ++ [obA] ++ [obB] ++ [.lst us0]) := ⟨⟨[obA, obB, .lst us0], by simp⟩, rfl⟩
  have qA : Hq (pn ns a1 r1 ++ [obA] ++ [obB] ++ [.lst us0]) 1 p.nxt := .inl (by rw [← hA]; rfl)
  have qB : Hq (pn ns a1 r1 ++ [obA] ++ [obB] ++ [.lst us0]) 2 p.oth := .inl (by rw [← hB]; rfl)
  have o0 : ∀ w ∈ us0, OkU p (pn ns a1 r1 ++ [obA] ++ [obB] ++ [.lst us0]) w := by
    intro w hw
    rw [hus0] at hw
    simp only [List.mem_cons, List.not_mem_nil, or_false] at hw
    rcases hw with rfl | rfl | rfl | rfl | rfl
    · exact .inl ⟨_, rfl⟩
    · exact .inr (.inl ⟨_, rfl⟩)
    · exact .inr (.inr rfl)
    · exact ⟨by decide, by decide, _, nxt_ne hp, qA⟩
    · exact ⟨by decide, by decide, _, oth_ne, qB⟩
  obtain ⟨us, μ5, s5, k5, o5, l5⟩ : ∃ us μ5, S5 (run (n + 4)) (r28 p (some (.p 3)) none) (pn ns a1 r1 ++ [obA] ++ [obB] ++ [.lst us0]) = .nx (r28 p (some (.p 3)) none) μ5 ∧ Sto ns a1 r1 us μ5 ∧ (∀ w ∈ us, OkU p μ5 w) ∧ us.length ≤ 6 := by
    cases p with
    | more k =>
      refine ⟨us0, _, ?_, k0, o0, by rw [hus0]; show 5 ≤ 6; decide⟩
      exact if_no (by kernel_rfl)
    | is k c =>
      obtain ⟨obC, hC⟩ : ∃ x, x = (qob (Pl.thr k c).w ((Pl.thr k c).k : Nat) (Pl.thr k c).l).ob := ⟨_, rfl⟩
      have gC := qc_ok (n + 1) k c hp (some (.p 3)) none (pn ns a1 r1 ++ [obA] ++ [obB] ++ [.lst us0])
      rw [← hC] at gC
      have gL := acons_ok gC (rfl : aNil (r28 (Pl.is k c) (some (.p 3)) none) _ = _)
      have hq4 : Hq (pn ns a1 r1 ++ [obA] ++ [obB] ++ [.lst (us0 ++ [.p 4])] ++ [obC]) 4 (Pl.thr k c) := .inl (by rw [← hC]; rfl)
      refine ⟨us0 ++ [.p 4], pn ns a1 r1 ++ [obA] ++ [obB] ++ [.lst (us0 ++ [.p 4])] ++ [obC], ?_, ⟨⟨[obA, obB, .lst (us0 ++ [.p 4]), obC], by simp⟩, rfl⟩, ?_, by rw [hus0]; show 6 ≤ 6; decide⟩
      · refine (if_t (μ1 := pn ns a1 r1 ++ [obA] ++ [obB] ++ [.lst us0]) (by kernel_rfl)).trans ?_
        show ((Res.bind (aCons (QC (run (n + 4))) aNil (r28 (Pl.is k c) (some (.p 3)) none) (pn ns a1 r1 ++ [obA] ++ [obB] ++ [.lst us0])) fun us μ2 => fApp (.p 3) us μ2).thenS _ _) = _
        rw [gL, ev_bind]
        show ((if us0.length < 100000 then Res.ok (U.d .non) ((pn ns a1 r1 ++ [obA] ++ [obB] ++ [Ob.lst us0] ++ [obC]).set 3 (Ob.lst (us0 ++ [U.p 4]))) else .bad : Res U).thenS _ _) = _
        rw [if_pos (by rw [hus0]; show 5 < 100000; decide)]
        rfl
      · intro w hw
        rcases List.mem_append.mp hw with hw | hw
        · have := o0 w hw
          cases w with
          | d y => exact this
          | p m =>
            obtain ⟨g1, g2, p', g3, g4⟩ := this
            refine ⟨g1, g2, p', g3, ?_⟩
            have hm : m = 1 ∨ m = 2 := by
              rw [hus0] at hw
              simp at hw
              exact hw
            rcases hm with rfl | rfl
            · rcases g4 with g | g
              · exact .inl g
              · exact .inr g
            · rcases g4 with g | g
              · exact .inl g
              · exact .inr g
        · rw [List.mem_singleton.mp hw]
          exact ⟨by decide, by decide, _, thr_ne k c, hq4⟩
  -- made == made, made != made
  obtain ⟨μ6, s6, k6, o6⟩ : ∃ μ6, S6t (run (n + 4)) (r28 p (some (.p 3)) none) μ5 = .ok false μ6 ∧ Sto ns a1 r1 us μ6 ∧ ∀ w ∈ us, OkU p μ6 w := by
    have hlen : 4 ≤ μ5.length := (List.getElem?_eq_some_iff.mp k5.2).1
    obtain ⟨μ6, e6, g6, _⟩ := neo_p (n + 3) p p μ5.length _ (hq_new (μ := μ5) (p' := p))
    rw [decide_eq_true rfl] at e6
    have t1 : tOf (v2 (EQ (run (n + 4))) (vVar 2) (vCall ((run (n + 4)).f 22) 1 0 [0] [] [] (aCons (vVar 1) aNil) aNil)) (r28 p (some (.p 3)) none) μ5 = .ok true μ5 := by
      have e : vCall ((run (n + 4)).f 22) 1 0 [0] [] [] (aCons (vVar 1) aNil) aNil (r28 p (some (.p 3)) none) μ5 = .ok (.d p.q) μ5 := c22 μ5
      have e' := eqo_q (n + 3) p p μ5
      rw [decide_eq_true rfl] at e'
      unfold tOf v2
      rw [hv (i := 2) (u := .d p.q) rfl, ev_bind, e, ev_bind]
      show (Res.bind (EQ (run (n + 4)) (.d p.q) (.d p.q) μ5) _) = _
      rw [show EQ (run (n + 4)) (.d p.q) (.d p.q) μ5 = _ from e']
      rfl
    have t2 : tOf (v2 (NE (run (n + 4))) (vVar 2) (QD (run (n + 4)))) (r28 p (some (.p 3)) none) μ5 = .ok false μ6 := by
      unfold tOf v2
      rw [hv (i := 2) (u := .d p.q) rfl, ev_bind, qd_ok (n + 1) p hp (some (.p 3)) none μ5, ev_bind]
      show (Res.bind (NE (run (n + 4)) (.d p.q) (.p μ5.length) _) _) = _
      rw [e6]
      rfl
    refine ⟨μ6, ?_, ?_, ?_⟩
    · show (Res.bind (Res.bind (tOf (v2 (EQ (run (n + 4))) (vVar 2) (vCall ((run (n + 4)).f 22) 1 0 [0] [] [] (aCons (vVar 1) aNil) aNil)) (r28 p (some (.p 3)) none) μ5) _) _) = _
      rw [t1, ev_bind]
      show tOf (v2 (NE (run (n + 4))) (vVar 2) (QD (run (n + 4)))) (r28 p (some (.p 3)) none) μ5 = _
      exact t2
    · rcases g6 with rfl | rfl
      · exact sto_app k5
      · exact sto_set (sto_app k5) (by omega) (by omega)
    · intro w hw
      rcases g6 with rfl | rfl
      · exact oku_app (o5 w hw)
      · exact oku_set hq_new (oku_app (o5 w hw))
  obtain ⟨μ7, e7, k7⟩ := comp_none (n + 3) ns a1 r1 us p (r28 p (some (.p 3)) none) (fun u => rfl) (by show 4 < 5; decide) (fun (i : Nat) (μ : Mu) => (match μ[3]? with
        | some (Ob.lst us) => some us[i]?
        | some (Ob.fz (D.lst ds)) => some ((ds[i]?).map U.d)
        | _ => none : Option (Option U))) (fun i μ h => by rw [h.2]) us.length 0 100001 μ6 (by omega) (by omega) k6 o6
  have s7 : S7 (run (n + 4)) (r28 p (some (.p 3)) none) μ6 = .ret (.d (.bl true)) μ7 := by
    have ew : wSeq (vVar 3) (r28 p (some (.p 3)) none) μ6 = .ok ⟨100001, fun (i : Nat) (μ : Mu) => (match μ[3]? with
        | some (Ob.lst us) => some us[i]?
        | some (Ob.fz (D.lst ds)) => some ((ds[i]?).map U.d)
        | _ => none : Option (Option U))⟩ μ6 := by
      show (match μ6[3]? with
        | some (Ob.lst us) => Res.ok (⟨100001, fun (i : Nat) (μ : Mu) => (match μ[3]? with
          | some (Ob.lst us) => some us[i]?
          | some (Ob.fz (D.lst ds)) => some ((ds[i]?).map U.d)
          | _ => none : Option (Option U))⟩ : Wlk) μ6
        | some (Ob.fz x) => match itemsD x with
          | some ds => .ok (wkD ds) μ6
          | none => .bad
        | _ => .bad) = _
      rw [k6.2]
    have ec : vComp (wSeq (vVar 3)) (.nm 4) [4] (cnd (run (n + 4))) (vVar 4) (r28 p (some (.p 3)) none) μ6 = .ok (.d (.lst [])) μ7 := by
      unfold vComp
      rw [ew, ev_bind]
      show ((compG (.nm 4) [4] (cnd (run (n + 4))) (vVar 4) _ 100001 0 (r28 p (some (.p 3)) none) μ6 []).bind _) = _
      rw [e7]
      rfl
    show ((Res.bind (vComp (wSeq (vVar 3)) (.nm 4) [4] (cnd (run (n + 4))) (vVar 4) (r28 p (some (.p 3)) none) μ6) fun u μ1 => fEq u (.d (.lst [])) μ1).thenS _ _) = _
    rw [ec, ev_bind]
    kernel_rfl
  obtain ⟨⟨ex, rfl⟩, _⟩ := k7
  refine ⟨_, a1, r1, ex, rfl, q1, q2, q3, ?_⟩
  show b_28 (run (n + 4)) [some (.p 0), none, none, none, none] (pn ns at_ rest) = _
  rw [b28_eq, seq_nx s1, seq_nx s2, seq_nx (if_no s3), seq_nx s4, seq_nx s5, seq_nx (if_no s6)]
  exact s7
end K36
set_option Elab.async false
set_option linter.all false
set_option maxRecDepth 100000
set_option maxHeartbeats 2000000
set_option autoImplicit false
namespace K36
open PySem PySem.Spec PyProof.Rows L2 Iv
theorem sl63 (ns : List Int) (hl : ns.length ≤ 63) (μ : Mu) : fSl (.d (.lst (ns.map .int))) none (some 63) μ = .ok (.d (.lst (ns.map .int))) μ := by
  have e : cutL ((ns.map D.int).map U.d) none (some 63) = (ns.map D.int).map U.d := by
    unfold cutL
    rw [show HT.sIx ((ns.map D.int).map U.d).length 0 none = 0 from rfl, show HT.sIx ((ns.map D.int).map U.d).length ((ns.map D.int).map U.d).length (some 63) = min 63 ((ns.map D.int).map U.d).length from rfl, List.drop_zero, Nat.sub_zero]
    apply List.take_of_length_le
    rw [List.length_map, List.length_map]
    omega
  show oLst (cutL ((ns.map D.int).map U.d) none (some 63)) μ = _
  rw [e]
  unfold oLst
  rw [frzL_d]
  exact if_pos (by rw [List.length_map]; omega)
theorem pen_of (n : Nat) (ns : List Int) (hl : ns.length ≤ 63) : (run (n + 1)).f 17 [.d (.lst (ns.map .int))] [] = .ok (.p 0) [] (some (pen ns 0 0)) := by
  have e1 : vComp (wSeq (vSl (vVar 0) none (some (vC (.int 63))))) (.nm 1) [1] tYes' (v1 fInt (vVar 1)) [some (.d (.lst (ns.map .int))), none] [] = .ok (.d (.lst (ns.map .int))) [] := by
    have q := vcomp_d (ds := ns.map D.int) (w := wSeq (vSl (vVar 0) none (some (vC (.int 63))))) (t := .nm 1) (own := [1]) (cond := tYes') (elt := v1 fInt (vVar 1)) (ρ := [some (.d (.lst (ns.map .int))), none]) (μ0 := []) (μ := []) (p := fun _ => true) (g := fun d => d)
      (r := fun d => [some (.d (.lst (ns.map .int))), some (.d d)]) (by
        simp [wSeq, vSl, pOpt, vVar, vC, ev_bind, sl63 ns hl, itemsD]) (fun d hd => rfl) (fun d hd => rfl) (fun d hd _ => by
        obtain ⟨i, hi, rfl⟩ := List.mem_map.mp hd
        rfl) (by rw [List.length_map]; omega)
    rw [q]
    simp
  rw [show (run (n + 1)).f 17 = entry 2 true (b_17 (run n)) from rfl]
  have e2 : b_17 (run n) [some (.d (.lst (ns.map .int))), none] [] = .ret (.p 0) [.lst [.d (.lst (ns.map .int)), .d (.int 0), .d (.int 0)]] := by
    show ((vN oLstP (aCons (vComp (wSeq (vSl (vVar 0) none (some (vC (.int 63))))) (.nm 1) [1] tYes' (v1 fInt (vVar 1))) (aCons (vC (.int 0)) (aCons (vC (.int 0)) aNil)))) [some (.d (.lst (ns.map .int))), none] []).thenS _ _ = _
    unfold vN aCons
    rw [e1]
    rfl
  show exitF 0 true (b_17 (run n) [some (.d (.lst (ns.map .int))), none] []) = _
  rw [e2]
  rfl
/-! ### the loop -/
theorem txt_len {p : Pl} (h : p.ok) : p.txt.length ≤ 10 ∧ ∀ c ∈ p.txt, c < 1114112 := by
  have hn : ∀ k, ∀ c ∈ TL.numL k, c < 1114112 := fun k c hc => by
    have := (TL.numL_digits k c hc).2
    omega
  cases p with
  | more k =>
    have hl := num_len (show k ≤ 99999 from h)
    refine ⟨by simp [Pl.txt]; omega, fun c hc => ?_⟩
    rcases List.mem_append.mp hc with q | q
    · have : ∀ c ∈ WMORE ++ [32], c < 1114112 := by decide
      exact this c q
    · exact hn k c q
  | is k c0 =>
    have hl := num_len h.1
    refine ⟨by simp [Pl.txt]; omega, fun c hc => ?_⟩
    rcases List.mem_append.mp hc with q | q
    · rcases List.mem_append.mp q with q | q
      · rcases List.mem_append.mp q with q | q
        · have : ∀ c ∈ WIS ++ [32], c < 1114112 := by decide
          exact this c q
        · exact hn k c q
      · rw [List.mem_singleton.mp q]; decide
    · rw [List.mem_singleton.mp q]; have := h.2.2; omega
abbrev r30 (sc lap text turn bent odd : Option U) : Rho := [sc, some (.p 0), lap, text, turn, bent, odd]
abbrev C1v (R : Rn) (k : Nat) (j : Nat) : Sm U := vCall (R.f k) 1 0 [0] [] [true] (aCons (vVar j) aNil) aNil
abbrev T26 (R : Rn) (m : Sm U) : Sm U := vCall (R.f 26) 1 0 [0] [] [] (aCons m aNil) aNil
abbrev BT (R : Rn) (j : Nat) : Sm U := vCall (R.f 25) 2 0 [0, 1] [] [true] (aCons (vVar 1) (aCons (vVar j) aNil)) aNil
abbrev TBt (R : Rn) : Sm Bool := tOr' (tNot' (tOf (T26 R (vVar 3)))) (tOr' (tNot' (tOf (T26 R (vVar 5)))) (tNot' (tOf (T26 R (BT R 5)))))
abbrev TB (R : Rn) : SmS := sSeq (sSet 5 (BT R 3)) (sIf (TBt R) (sRet (vC (.bl false))) sNil)
abbrev LBt (R : Rn) : Sm Bool := tOr' (tNot' (tOf (C1v R 27 1))) (tNot' (tOf (C1v R 28 1)))
abbrev LB3 (R : Rn) : SmS := sSet 3 (vCall (R.f 23) 1 0 [0] [] [] (aCons (C1v R 21 1) aNil) aNil)
abbrev LB (R : Rn) : SmS := sSeq (sIf (LBt R) (sRet (vC (.bl false))) sNil) (sSeq (LB3 R) (sFor (wRng1 (aCons (vC (.int 8)) aNil)) (.nm 4) (TB R)))
abbrev V1 (R : Rn) : SmS := sSet 1 (vCall (R.f 17) 1 0 [0] [] [] (aCons (vVar 0) aNil) aNil)
abbrev OL (R : Rn) : Sm U := vN oLst (aCons (vC .non) (aCons (vC (.int 5)) (aCons (vC (.bl true)) (aCons (vN oLst (aCons (vC (.str "more 0")) aNil)) (aCons (vN oTup (aCons (vC (.str "more")) (aCons (vC (.int 0)) aNil))) (aCons vDic0 (aCons (Q2 R (vC (.str "more")) (vC (.int 0))) aNil)))))))
abbrev V3 (R : Rn) : SmS := sSet 6 (vCall (R.f 19) 2 0 [0, 1] [] [true] (aCons (vVar 1) (aCons (OL R) aNil)) aNil)
abbrev V4 (R : Rn) : SmS := sRet (vAnd (v2 fEq (vCallLam (R.f 20) 7 [6] 1 [0] [] aNil) (vN oTup (aCons (vC (.str "text")) (aCons (vC (.str "0")) (aCons (vC (.str "0")) aNil))))) (C1v R 29 1))
theorem b30_eq (R : Rn) : b_30 R = sSeq (V1 R) (sSeq (sFor (wRng1 (aCons (vC (.int 3)) aNil)) (.nm 2) (LB R)) (sSeq (V3 R) (V4 R))) := rfl
def ODD2 : List D := [.non, .int 5, .bl true, .lst [.str "more 0"], .tup [.str "more", .int 0], .dic [] [], qd "more" 0 .non]
theorem lam7_O (n : Nat) : ∀ v ∈ ODD2, (run (n + 5)).l 7 [.d v] [] = .err 2 ["word", "line"] [.int 0, .int 0] [] := by
  intro v hv
  simp only [ODD2, List.mem_cons, List.not_mem_nil, or_false] at hv
  rcases hv with rfl | rfl | rfl | rfl | rfl | rfl | rfl <;> kernel_rfl
theorem c1_ok {R : Rn} {k j : Nat} {ρ : Rho} {μ μ1 : Mu} {d : D} (h : ρ[j]? = some (some (.p 0))) (hc : callL (R.f k) [true] [.p 0] μ = .ok (.d d) μ1) : C1v R k j ρ μ = .ok (.d d) μ1 := by
  have e : aCons (vVar j) aNil ρ μ = .ok [.p 0] μ := acons_ok (hv h) rfl
  show (Res.bind (aCons (vVar j) aNil ρ μ) _) = _
  rw [e]
  exact hc
theorem bt_ok {R : Rn} {j : Nat} {ρ : Rho} {μ μ1 : Mu} {d d' : D} (h : ρ[1]? = some (some (.p 0))) (hj : ρ[j]? = some (some (.d d))) (hc : callL (R.f 25) [true] [.p 0, .d d] μ = .ok (.d d') μ1) : BT R j ρ μ = .ok (.d d') μ1 := by
  have e : aCons (vVar 1) (aCons (vVar j) aNil) ρ μ = .ok [.p 0, .d d] μ := acons_ok (hv h) (acons_ok (hv hj) rfl)
  show (Res.bind (aCons (vVar 1) (aCons (vVar j) aNil) ρ μ) _) = _
  rw [e]
  exact hc
theorem t26_ok (n : Nat) {ρ : Rho} {m : Sm U} {μ μ1 : Mu} {cs : List Nat} (hm : m ρ μ = .ok (.d (.str (SS cs))) μ1) (hl : cs.length < 98000) (hO : ∀ c ∈ cs, c < 1114112) : T26 (run (n + 7)) m ρ μ = .ok (.d (.bl true)) μ1 := by
  have e : aCons m aNil ρ μ = .ok [.d (.str (SS cs))] μ1 := acons_ok hm rfl
  show (Res.bind (aCons m aNil ρ μ) _) = _
  rw [e]
  exact call_d (f := (run (n + 7)).f 26) (fl := []) (ds := [.str (SS cs)]) (text_right n cs _ (txt_ok hl hO))
theorem no_of {m : Sm U} {ρ : Rho} {μ μ1 : Mu} (h : m ρ μ = .ok (.d (.bl true)) μ1) : tNot' (tOf m) ρ μ = .ok false μ1 := by
  unfold tNot' tOf
  rw [h]
  rfl
theorem or_ff {s t : Sm Bool} {ρ : Rho} {μ μ1 μ2 : Mu} (h1 : s ρ μ = .ok false μ1) (h2 : t ρ μ1 = .ok false μ2) : tOr' s t ρ μ = .ok false μ2 := by
  unfold tOr'
  rw [h1, ev_bind, if_neg Bool.false_ne_true, h2]
theorem tb_ok (ns : List Int) (sc lap turn bent odd : Option U) (cs : List Nat) (hl : cs.length ≤ 10) (hO : ∀ c ∈ cs, c < 1114112) (a r : Int) (h1 : 0 ≤ a) (h2 : a + 6 ≤ 1000001) (h3 : 0 ≤ r) :
    ∃ bent' a2 r2, TB (run 11) (r30 sc lap (some (.d (.str (SS cs)))) turn bent odd) (pn ns a r) = .nx (r30 sc lap (some (.d (.str (SS cs)))) turn bent' odd) (pn ns a2 r2) ∧ a ≤ a2 ∧ a2 ≤ a + 6 ∧ 0 ≤ r2 := by
  obtain ⟨d1, a1, r1, ⟨cs1, rfl, l1, o1⟩, q1, q2, q3, e1⟩ := (bentG 8 ns cs (by omega) hO).call0 a r h1 (by omega) h3
  have hb1 : cs1.length ≤ 250 := Nat.le_trans l1 (Nat.le_trans (Nat.mul_le_mul (show cs.length + 2 ≤ 12 by omega) (show cs.length + 8 ≤ 18 by omega)) (by decide))
  obtain ⟨d2, a2, r2, ⟨cs2, rfl, l2, o2⟩, q4, q5, q6, e2⟩ := (bentG 8 ns cs1 hb1 o1).call0 a1 r1 (by omega) (by omega) q3
  have hb2 : cs2.length < 98000 := Nat.lt_of_le_of_lt (Nat.le_trans l2 (Nat.mul_le_mul (show cs1.length + 2 ≤ 252 by omega) (show cs1.length + 8 ≤ 258 by omega))) (by decide)
  have s1 : sSet 5 (BT (run 11) 3) (r30 sc lap (some (.d (.str (SS cs)))) turn bent odd) (pn ns a r) = .nx (r30 sc lap (some (.d (.str (SS cs)))) turn (some (.d (.str (SS cs1)))) odd) (pn ns a1 r1) := by
    unfold sSet
    rw [bt_ok (j := 3) rfl rfl e1]
    rfl
  have t1 := t26_ok 4 (ρ := r30 sc lap (some (.d (.str (SS cs)))) turn (some (.d (.str (SS cs1)))) odd) (μ := pn ns a1 r1) (m := vVar 3) (hv rfl) (by omega) hO
  have t2 := t26_ok 4 (ρ := r30 sc lap (some (.d (.str (SS cs)))) turn (some (.d (.str (SS cs1)))) odd) (μ := pn ns a1 r1) (m := vVar 5) (hv rfl) (by omega) o1
  have t3 := t26_ok 4 (ρ := r30 sc lap (some (.d (.str (SS cs)))) turn (some (.d (.str (SS cs1)))) odd) (m := BT (run 11) 5) (bt_ok (j := 5) rfl rfl e2) hb2 o2
  refine ⟨some (.d (.str (SS cs1))), a2, r2, ?_, by omega, by omega, q6⟩
  unfold TB
  rw [seq_nx s1]
  exact if_no (or_ff (no_of t1) (or_ff (no_of t2) (no_of t3)))
theorem lb_ok (ns : List Int) (sc lap text turn bent odd : Option U) (a r : Int) (h1 : 0 ≤ a) (h2 : a + 106 ≤ 1000001) (h3 : 0 ≤ r) :
    ∃ text' turn' bent' a2 r2, LB (run 11) (r30 sc lap text turn bent odd) (pn ns a r) = .nx (r30 sc lap text' turn' bent' odd) (pn ns a2 r2) ∧ a ≤ a2 ∧ a2 ≤ a + 106 ∧ 0 ≤ r2 := by
  obtain ⟨d1, a1, r1, rfl, q1, q2, q3, e1⟩ := (answersG 5 ns).call0 a r h1 (by omega) h3
  obtain ⟨d2, a2, r2, rfl, q4, q5, q6, e2⟩ := (unlikeG 6 ns).call0 a1 r1 (by omega) (by omega) q3
  obtain ⟨d3, a3, r3, ⟨p, hp, rfl⟩, q7, q8, q9, e3⟩ := (plainG 8 ns).call0 a2 r2 (by omega) (by omega) q6
  obtain ⟨tl, tO⟩ := txt_len hp
  have t1 : LBt (run 11) (r30 sc lap text turn bent odd) (pn ns a r) = .ok false (pn ns a2 r2) := or_ff (no_of (c1_ok (k := 27) (j := 1) rfl e1)) (no_of (c1_ok (k := 28) (j := 1) rfl e2))
  have s2 : LB3 (run 11) (r30 sc lap text turn bent odd) (pn ns a2 r2) = .nx (r30 sc lap (some (.d (.str (SS p.txt)))) turn bent odd) (pn ns a3 r3) := by
    have e : aCons (C1v (run 11) 21 1) aNil (r30 sc lap text turn bent odd) (pn ns a2 r2) = .ok [.d p.d] (pn ns a3 r3) := acons_ok (c1_ok (k := 21) (j := 1) rfl e3) rfl
    show ((Res.bind (aCons (C1v (run 11) 21 1) aNil (r30 sc lap text turn bent odd) (pn ns a2 r2)) _).thenS _ _) = _
    rw [e, ev_bind]
    show ((callL ((run 11).f 23) [] [.d p.d] (pn ns a3 r3)).thenS _ _) = _
    rw [show callL ((run 11).f 23) [] [.d p.d] (pn ns a3 r3) = _ from call_d (ds := [p.d]) (text_of 10 p hp)]
    rfl
  obtain ⟨ρ', μ', s3, turn', bent', a4, r4, rfl, rfl, w1, w2, w3⟩ := for_rng (i := 4) (n := 8) (body := TB (run 11)) (w := wRng1 (aCons (vC (.int 8)) aNil)) (ρ := r30 sc lap (some (.d (.str (SS p.txt)))) turn bent odd) (μ := pn ns a3 r3) (μ1 := pn ns a3 r3)
    (fun k ρ μ => ∃ turn' bent' a r, ρ = r30 sc lap (some (.d (.str (SS p.txt)))) turn' bent' odd ∧ μ = pn ns a r ∧ a3 ≤ a ∧ a ≤ a3 + 6 * k ∧ 0 ≤ r) rfl ⟨turn, bent, a3, r3, rfl, rfl, Int.le_refl _, by omega, q9⟩
    (fun k ρ μ hk ⟨t', b', a', r', g1, g2, g3, g4, g5⟩ => by
      subst g1 g2
      obtain ⟨b2, a'', r'', e, z1, z2, z3⟩ := tb_ok ns sc lap (some (.d (.int (0 + (k : Nat))))) b' odd p.txt tl tO a' r' (by omega) (by omega) g5
      exact ⟨_, _, e, _, b2, a'', r'', rfl, rfl, by omega, by omega, z3⟩)
  refine ⟨some (.d (.str (SS p.txt))), turn', bent', a4, r4, ?_, by omega, by omega, w3⟩
  unfold LB
  rw [seq_nx (if_no t1), seq_nx s2]
  exact s3
theorem plain (ns : List Int) (hl : ns.length ≤ 63) : (run 12).f 30 [.d (.lst (ns.map D.int))] [] = .ok (.d (.bl true)) [] none := by
  obtain ⟨sc, hsc⟩ : ∃ sc : Option U, sc = some (.d (.lst (ns.map D.int))) := ⟨_, rfl⟩
  have h5 := pen_of 10 ns hl
  have s1 : V1 (run 11) [sc, none, none, none, none, none, none] [] = .nx (r30 sc none none none none none) (pn ns 0 0) := by
    have hp : ∀ μ, pass [] [.d (.lst (ns.map D.int))] μ [] = some ([.d (.lst (ns.map D.int))], [], μ) := fun μ => pass_d [] [.lst (ns.map D.int)] μ []
    have hc : callL ((run 11).f 17) [] [.d (.lst (ns.map D.int))] [] = .ok (.p 0) (pn ns 0 0) := by
      unfold callL
      rw [hp]
      dsimp only
      rw [if_pos List.nodup_nil]
      show back [] [] ((run 11).f 17 [.d (.lst (ns.map D.int))] []) = _
      rw [h5]
      rfl
    rw [hsc]
    show ((callL ((run 11).f 17) [] [.d (.lst (ns.map D.int))] []).thenS _ _) = _
    rw [hc]
    rfl
  obtain ⟨ρ', μ', s2, lap, text, turn, bent, a1, r1, rfl, rfl, w1, w2, w3⟩ := for_rng (i := 2) (n := 3) (body := LB (run 11)) (w := wRng1 (aCons (vC (.int 3)) aNil)) (ρ := r30 sc none none none none none) (μ := pn ns 0 0) (μ1 := pn ns 0 0)
    (fun k ρ μ => ∃ lap text turn bent a r, ρ = r30 sc lap text turn bent none ∧ μ = pn ns a r ∧ (0 : Int) ≤ a ∧ a ≤ 106 * k ∧ 0 ≤ r) rfl ⟨none, none, none, none, 0, 0, rfl, rfl, Int.le_refl _, by omega, Int.le_refl _⟩
    (fun k ρ μ hk ⟨l', t', u', b', a, r, g1, g2, g3, g4, g5⟩ => by
      subst g1 g2
      obtain ⟨t2, u2, b2, a', r', e, z1, z2, z3⟩ := lb_ok ns sc (some (.d (.int (0 + (k : Nat))))) t' u' b' none a r g3 (by omega) g5
      exact ⟨_, _, e, _, t2, u2, b2, a', r', rfl, rfl, by omega, by omega, z3⟩)
  have w2' : a1 ≤ 318 := w2
  obtain ⟨d3, a2, r2, m3, q1, q2, q3, e3⟩ := (pickG 9 ns ODD2 (by decide) (by decide)).call [.fz (qd "more" 0 .non)] a1 r1 w1 (by omega) w3
  have s3 : V3 (run 11) (r30 sc lap text turn bent none) (pn ns a1 r1) = .nx (r30 sc lap text turn bent (some (.d d3))) (pn ns a2 r2 ++ [.fz (qd "more" 0 .non)]) := by
    have eo : OL (run 11) (r30 sc lap text turn bent none) (pn ns a1 r1) = .ok (.d (.lst ODD2)) (pn ns a1 r1 ++ [.fz (qd "more" 0 .non)]) := by kernel_rfl
    have e : aCons (vVar 1) (aCons (OL (run 11)) aNil) (r30 sc lap text turn bent none) (pn ns a1 r1) = .ok [.p 0, .d (.lst ODD2)] (pn ns a1 r1 ++ [.fz (qd "more" 0 .non)]) := acons_ok (hv (i := 1) rfl) (acons_ok eo rfl)
    show ((Res.bind (aCons (vVar 1) (aCons (OL (run 11)) aNil) (r30 sc lap text turn bent none) (pn ns a1 r1)) _).thenS _ _) = _
    rw [e, ev_bind]
    show ((callL ((run 11).f 19) [true] [.p 0, .d (.lst ODD2)] (pn ns a1 r1 ++ [.fz (qd "more" 0 .non)])).thenS _ _) = _
    rw [show callL ((run 11).f 19) [true] [.p 0, .d (.lst ODD2)] (pn ns a1 r1 ++ [.fz (qd "more" 0 .non)]) = _ from e3]
    rfl
  obtain ⟨d4, a3, r3, rfl, q4, q5, q6, e4⟩ := (refusedG 5 ns).call [.fz (qd "more" 0 .non)] a2 r2 (by omega) (by omega) q3
  have hn1 : D.ncL [d3] = true := by
    have := nc_of ODD2 (by rfl) d3 m3
    simp [D.ncL, this]
  have s4 : V4 (run 11) (r30 sc lap text turn bent (some (.d d3))) (pn ns a2 r2 ++ [.fz (qd "more" 0 .non)]) = .ret (.d (.bl true)) (pn ns a3 r3 ++ [.fz (qd "more" 0 .non)]) := by
    have f1 : vCallLam ((run 11).f 20) 7 [6] 1 [0] [] aNil (r30 sc lap text turn bent (some (.d d3))) (pn ns a2 r2 ++ [.fz (qd "more" 0 .non)]) = .ok (.d (.tup [.str "text", .str "0", .str "0"])) (pn ns a2 r2 ++ [.fz (qd "more" 0 .non)]) := by
      rw [vcl0 (ds := [d3]) rfl hn1 rfl, show (run 11).f 20 [.d (.clo 7 [d3])] [] = _ from heard_t (m := 10) hn1 (lam7_O 5 d3 m3) rep_0 rep_0]
      rfl
    have f2 : v2 fEq (vCallLam ((run 11).f 20) 7 [6] 1 [0] [] aNil) (vN oTup (aCons (vC (.str "text")) (aCons (vC (.str "0")) (aCons (vC (.str "0")) aNil)))) (r30 sc lap text turn bent (some (.d d3))) (pn ns a2 r2 ++ [.fz (qd "more" 0 .non)]) = .ok (.d (.bl true)) (pn ns a2 r2 ++ [.fz (qd "more" 0 .non)]) := by
      show (Res.bind (vCallLam ((run 11).f 20) 7 [6] 1 [0] [] aNil _ _) fun u μ1 => fEq u (.d (.tup [.str "text", .str "0", .str "0"])) μ1) = _
      rw [f1, ev_bind, eq_tup3 "0" "0" _ (by decide +kernel) (by decide +kernel)]
    have f3 := c1_ok (R := run 11) (k := 29) (j := 1) (ρ := r30 sc lap text turn bent (some (.d d3))) rfl e4
    unfold V4 sRet vAnd
    rw [f2, ev_bind]
    show ((C1v (run 11) 29 1 _ _).thenS _ _) = _
    rw [f3]
    rfl
  rw [hsc] at s1 s2 s3 s4
  refine en_ret (b := b_30 (run 11)) (N := 7) (ex := pn ns a3 r3 ++ [.fz (qd "more" 0 .non)]) ?_
  show b_30 (run 11) [some (.d (.lst (ns.map D.int))), none, none, none, none, none, none] [] = _
  rw [b30_eq, seq_nx s1, seq_nx s2, seq_nx s3]
  exact s4
end K36
set_option Elab.async false
set_option linter.all false
set_option maxRecDepth 100000
set_option maxHeartbeats 0
open PySem PySem.W PySem.Calls PyProof.Rows Iv
theorem PySem.Challenge.cw_heardasmeant_k36_questions_asked_holds : PySem.Challenge.rw_heardasmeant_k36_questions_asked.Holds := by
  w_on; o_law
  refine HandSHeadRun.head_any (r := OpenLaw.row PySem.Challenge.rw_heardasmeant_k36_questions_asked) (q := view (OpenLaw.row PySem.Challenge.rw_heardasmeant_k36_questions_asked).prog [34]) (H := K36.hk) (ob := K36.ob) (M := 4000) (loose := K36.nms) (d := HandSHeadRun.topDef (OpenLaw.row PySem.Challenge.rw_heardasmeant_k36_questions_asked).prog 34) (kwd := []) K36.ob_eq
    (by kernel_rfl) (fun s => by kernel_rfl) K36.run_ok (by kernel_rfl) (by kernel_rfl) (by kernel_rfl) (by rfl) (by first | assumption | decide +kernel) (by decide +kernel) ⟨rfl, rfl, rfl, rfl, rfl, by decide +kernel⟩ ?hw ?hc
  case hw => w_witness2
  case hc =>
    refine walk_at (g := true) (l := PySem.Challenge.rw_heardasmeant_k36_questions_asked) (n := 63) (k := 38) (x := "script") rfl (by decide) (by kernel_rfl) ⟨⟨rfl, by decide, by decide⟩, fun _ => rfl⟩ ?F K36.plain
    intro w mg fa h Y G0 hmg0
    have hmg : mg ("law" : PySem.Str) = some (.ref fa) := by
      have e : (HandSHeadRun.topDef (OpenLaw.row PySem.Challenge.rw_heardasmeant_k36_questions_asked).prog 34).name = ("law" : PySem.Str) := by kernel_rfl
      rw [← e]
      exact hmg0
    exact K36.law_at Y G0 hmg
