import PyProof.Rows.All
import Wide.All
import OpenK.AllK
import Wide.FinOn
import HandS.ForMost
import HandS.Lambda
import HandS.IsInst
import HandS.ForExc
import HandS.CallSlots
import HandS.Defaults
import HandS.Wide
import HandS.Style
import HandS.TupAny
import HandS.StrMore
import HandS.Text
import HandS.WordsExc
import HandS.ExcInit
import HandS.ExcIs
import HandS.ExcField
import HandS.Small
import KE.KExcIs
import HandS.Zip
import HandS.RaiseMore
import HandS.Deep
import HandS.HeadHook4
import HandS.HeadWalk
import HandS.NestedK
import PySem.Challenge.RW_heardasmeant_k43_desk_lines
import HandS.Head0
import HandS.Head1
import HandS.Head2
import HandS.HeadEnd
import HandS.Codes
set_option Elab.async false
set_option linter.all false
set_option maxRecDepth 100000
set_option maxHeartbeats 2000000
set_option autoImplicit false
/-! Iv: deep data over the hand layer. Part A: data, the store, how both stand in the heap. -/
namespace Iv
open PySem PySem.Spec PyProof.Rows L2

/-- data that stands still -/
inductive D where
  | non | bl (b : Bool) | int (i : Int) | str (x : Str)
  | tup (l : List D) | lst (l : List D)
  | dic (ks : List Key) (vs : List D) | dit (ks : List (List Key)) (vs : List D)
  | obj (c : Nat) (ns : List Str) (vs : List D)
  | exc (c : Nat) (ns : List Str) (vs : List D)
  | clo (k : Nat) (vs : List D)
/-- what a name holds: data, or a place of the store -/
inductive U where
  | d (x : D) | p (n : Nat)
/-- what a place of the store holds -/
inductive Ob where
  | fz (x : D)
  | lst (l : List U)
  | dic (ks : List Key) (vs : List U) | dit (ks : List (List Key)) (vs : List U)
  | ins (c : Nat) (ns : List Str) (vs : List U)
abbrev Mu := List Ob
def Ob.live : Ob → Bool
  | .fz _ => false
  | _ => true
/-- a lambda of the text: its names are caps, slot by slot -/
structure LamI where
  qual : Str
  params : Arguments
  body : Expr
  scope : Scope
  caps : List Str
/-- what is known of the program's text as it stands in the heap -/
structure Gc where
  K : PySem.W.Frag
  cls : Nat → Addr
  lam : Nat → LamI
  T : List (Addr × Str)

def NT (o : HO) : Prop := ∀ ps, o ≠ .tbl ps
/-- a tuple, a list that is read -/
def TupR (G : Gc) (S : Addr → Prop) (H : Hp) (a : Addr) (vs : List V) : Prop := (¬ S a ∧ Rd H a (.tup vs)) ∨
  ∃ (o : Obj) (its : Array Value) (n : Nat), G.K.lookup a = some o ∧ o.cls = .type "tuple" ∧ o.data = .seq its n ∧ its.size ≤ sizeLine ∧ Vals vs its.toList
def LstR (G : Gc) (S : Addr → Prop) (H : Hp) (a : Addr) (vs : List V) : Prop := (¬ S a ∧ Rd H a (.lst vs)) ∨
  ∃ (o : Obj) (its : Array Value) (n : Nat), G.K.lookup a = some o ∧ o.cls = .type "list" ∧ o.dict = none ∧ o.data = .seq its n ∧ its.size ≤ sizeLine ∧ Vals vs its.toList
theorem TupR.sq {G : Gc} {S : Addr → Prop} {H : Hp} {a : Addr} {vs : List V} (h : TupR G S H a vs) : SqT G.K H a vs := h.elim (fun z => .inl z.2) fun z => .inr z
theorem LstR.sq {G : Gc} {S : Addr → Prop} {H : Hp} {a : Addr} {vs : List V} (h : LstR G S H a vs) : SqL G.K H a vs := h.elim (fun z => .inl z.2) fun z => .inr z
/-- the object of an exception that stands as a value: its class, its own dict -/
def ExcHO (C : Addr) (dx : Option Addr) (a : Addr) : HO := .ext fun h => ∃ (oe : Obj) (vs : Array Value), h.get? a = some oe ∧ Zc (.ref C) dx oe ∧ oe.data = .fields vs
/-- the cells of a closure, by the names, hold the values -/
def CellsR (S : Addr → Prop) (H : Hp) (clo : List (Str × Addr)) : List Str → List V → Prop
  | [], vs => vs = []
  | x :: xs, vs => ∃ v r c o u, vs = v :: r ∧ clo.lookup x = some c ∧ ¬ S c ∧ H c = some (.frz o (.own c)) ∧ o.data = .cell (some u) ∧ RelV v u ∧ CellsR S H clo xs r

/-- a closure's cells: of its own names, no cell twice -/
def CloF (caps : List Str) (clo : List (Str × Addr)) : Prop := (∀ y c, clo.lookup y = some c → y ∈ caps) ∧ ∀ y z c, clo.lookup y = some c → clo.lookup z = some c → y = z

mutual
/-- d is what v is -/
def Rp (G : Gc) (S : Addr → Prop) (H : Hp) : D → V → Prop
  | .non, v => v = .non
  | .bl b, v => v = .bl b
  | .int i, v => v = .int i
  | .str x, v => v = .str x
  | .tup ds, v => ∃ a vs, v = .ref a ∧ TupR G S H a vs ∧ RpL G S H ds vs
  | .lst ds, v => ∃ a vs, v = .ref a ∧ LstR G S H a vs ∧ RpL G S H ds vs
  | .dic ks ds, v => ∃ a vs, v = .ref a ∧ ¬ S a ∧ Rd H a (.dK (ks.zip vs)) ∧ ks.length = vs.length ∧ RpL G S H ds vs
  | .dit ks ds, v => ∃ a vs, v = .ref a ∧ ¬ S a ∧ Rd H a (.dT (ks.zip vs)) ∧ ks.length = vs.length ∧ RpL G S H ds vs
  | .obj c ns ds, v => ∃ a dx vs, v = .ref a ∧ ¬ S a ∧ H a = some (.ins (G.cls c) dx (ns.zip vs)) ∧ ns.length = vs.length ∧ RpL G S H ds vs
  | .exc c ns ds, v => ∃ a dx vs, v = .ref a ∧ ¬ S a ∧ H a = some (ExcHO (G.cls c) dx a) ∧ ns.length = vs.length ∧ (dx = none ∧ ns = [] ∨ ∃ d, dx = some d ∧ ¬ S d ∧ H d = some (.xd (ns.zip vs))) ∧ RpL G S H ds vs
  | .clo k ds, v => ∃ a c' pm ctv fo clo vs, v = .ref a ∧ ¬ S a ∧ H a = some (.frz fo (.own a)) ∧ fo = PySem.W.kla_obj "<lambda>" (G.lam k).qual (G.lam k).params (G.lam k).body (G.lam k).scope clo pm c' ctv ∧
      ¬ S c' ∧ H c' = some (LamX.CodeO c' (G.lam k).qual) ∧ CloF (G.lam k).caps clo ∧ CellsR S H clo (G.lam k).caps vs ∧ RpL G S H ds vs
def RpL (G : Gc) (S : Addr → Prop) (H : Hp) : List D → List V → Prop
  | [], vs => vs = []
  | d :: ds, vs => ∃ v r, vs = v :: r ∧ Rp G S H d v ∧ RpL G S H ds r
end

/-- what stands still goes on standing -/
structure Ex (S : Addr → Prop) (H : Hp) (S' : Addr → Prop) (H' : Hp) : Prop where
  keep : ∀ (a : Addr) (o : HO), H a = some o → ¬ S a → NT o → H' a = some o ∧ ¬ S' a
theorem Ex.refl {S : Addr → Prop} {H : Hp} : Ex S H S H := ⟨fun _ _ h n _ => ⟨h, n⟩⟩
theorem Ex.trans {S S1 S2 : Addr → Prop} {H H1 H2 : Hp} (a : Ex S H S1 H1) (b : Ex S1 H1 S2 H2) : Ex S H S2 H2 :=
  ⟨fun x o h n t => b.keep x o (a.keep x o h n t).1 (a.keep x o h n t).2 t⟩
theorem nt_tup {vs : List V} : NT (.tup vs) := fun ps z => nomatch z
theorem nt_lst {vs : List V} : NT (.lst vs) := fun ps z => nomatch z
theorem nt_dK {kvs : List (Key × V)} : NT (.dK kvs) := fun ps z => nomatch z
theorem nt_dT {kvs : List (List Key × V)} : NT (.dT kvs) := fun ps z => nomatch z
theorem nt_ins {C dx : Addr} {fs : List (Str × V)} : NT (.ins C dx fs) := fun ps z => nomatch z
theorem nt_xd {fs : List (Str × V)} : NT (.xd fs) := fun ps z => nomatch z
theorem nt_ext {p : Heap → Prop} : NT (.ext p) := fun ps z => nomatch z
theorem nt_code {c : Addr} {q : Str} : NT (LamX.CodeO c q) := fun ps z => LamX.codeO_ne ps z
theorem nt_exc {C : Addr} {dx : Option Addr} {a : Addr} : NT (ExcHO C dx a) := fun ps z => nomatch z
theorem nt_frz {o : Obj} {u : HO} : NT (.frz o u) := fun ps z => nomatch z
/-- what may be reserved -/
def NR (o : HO) : Prop := NT o ∧ ∀ c q, o ≠ LamX.CodeO c q
theorem nr_tup {vs : List V} : NR (.tup vs) := ⟨nt_tup, fun c q z => by unfold LamX.CodeO at z; cases z⟩
theorem nr_lst {vs : List V} : NR (.lst vs) := ⟨nt_lst, fun c q z => by unfold LamX.CodeO at z; cases z⟩
theorem nr_dK {kvs : List (Key × V)} : NR (.dK kvs) := ⟨nt_dK, fun c q z => by unfold LamX.CodeO at z; cases z⟩
theorem nr_dT {kvs : List (List Key × V)} : NR (.dT kvs) := ⟨nt_dT, fun c q z => by unfold LamX.CodeO at z; cases z⟩
theorem nr_ins {C dx : Addr} {fs : List (Str × V)} : NR (.ins C dx fs) := ⟨nt_ins, fun c q z => by unfold LamX.CodeO at z; cases z⟩
section
variable {G : Gc} {S S' : Addr → Prop} {H H' : Hp}
theorem Ex.rd (e : Ex S H S' H') {a : Addr} {u : HO} (n : ¬ S a) (t : NT u) (h : Rd H a u) : Rd H' a u ∧ ¬ S' a := by
  rcases h with h | ⟨o, h⟩
  · exact ⟨.inl (e.keep a u h n t).1, (e.keep a u h n t).2⟩
  · exact ⟨.inr ⟨o, (e.keep a _ h n nt_frz).1⟩, (e.keep a _ h n nt_frz).2⟩
theorem TupR.mono (e : Ex S H S' H') {a : Addr} {vs : List V} (h : TupR G S H a vs) : TupR G S' H' a vs := h.elim
  (fun z => .inl ⟨(e.rd z.1 nt_tup z.2).2, (e.rd z.1 nt_tup z.2).1⟩) fun z => .inr z
theorem LstR.mono (e : Ex S H S' H') {a : Addr} {vs : List V} (h : LstR G S H a vs) : LstR G S' H' a vs := h.elim
  (fun z => .inl ⟨(e.rd z.1 nt_lst z.2).2, (e.rd z.1 nt_lst z.2).1⟩) fun z => .inr z
theorem CellsR.mono (e : Ex S H S' H') {clo : List (Str × Addr)} : ∀ {xs : List Str} {vs : List V}, CellsR S H clo xs vs → CellsR S' H' clo xs vs
  | [], _, h => h
  | x :: xs, _, ⟨v, r, c, o, u, e1, e2, e3, e4, e5, e6, e7⟩ =>
    ⟨v, r, c, o, u, e1, e2, (e.keep c _ e4 e3 nt_frz).2, (e.keep c _ e4 e3 nt_frz).1, e5, e6, e7.mono e⟩
mutual
theorem Rp.mono (e : Ex S H S' H') : ∀ {d : D} {v : V}, Rp G S H d v → Rp G S' H' d v
  | .non, _, h => h
  | .bl _, _, h => h
  | .int _, _, h => h
  | .str _, _, h => h
  | .tup ds, _, ⟨a, vs, e1, e2, e3⟩ => ⟨a, vs, e1, e2.mono e, RpL.mono e e3⟩
  | .lst ds, _, ⟨a, vs, e1, e2, e3⟩ => ⟨a, vs, e1, e2.mono e, RpL.mono e e3⟩
  | .dic ks ds, _, ⟨a, vs, e1, e2, e3, e4, e5⟩ => ⟨a, vs, e1, (e.rd e2 nt_dK e3).2, (e.rd e2 nt_dK e3).1, e4, RpL.mono e e5⟩
  | .dit ks ds, _, ⟨a, vs, e1, e2, e3, e4, e5⟩ => ⟨a, vs, e1, (e.rd e2 nt_dT e3).2, (e.rd e2 nt_dT e3).1, e4, RpL.mono e e5⟩
  | .obj c ns ds, _, ⟨a, dx, vs, e1, e2, e3, e4, e5⟩ => ⟨a, dx, vs, e1, (e.keep a _ e3 e2 nt_ins).2, (e.keep a _ e3 e2 nt_ins).1, e4, RpL.mono e e5⟩
  | .exc c ns ds, _, ⟨a, dx, vs, e1, e2, e3, e4, e5, e6⟩ => ⟨a, dx, vs, e1, (e.keep a _ e3 e2 nt_exc).2, (e.keep a _ e3 e2 nt_exc).1, e4,
      e5.elim (fun z => .inl z) (fun ⟨d, z1, z2, z3⟩ => .inr ⟨d, z1, (e.keep d _ z3 z2 nt_xd).2, (e.keep d _ z3 z2 nt_xd).1⟩), RpL.mono e e6⟩
  | .clo k ds, _, ⟨a, c', pm, ctv, fo, clo, vs, e1, e2, e3, e4, e5, e6, ef, e7, e8⟩ => ⟨a, c', pm, ctv, fo, clo, vs, e1, (e.keep a _ e3 e2 nt_frz).2, (e.keep a _ e3 e2 nt_frz).1, e4,
      (e.keep c' _ e6 e5 nt_code).2, (e.keep c' _ e6 e5 nt_code).1, ef, e7.mono e, RpL.mono e e8⟩
theorem RpL.mono (e : Ex S H S' H') : ∀ {ds : List D} {vs : List V}, RpL G S H ds vs → RpL G S' H' ds vs
  | [], _, h => h
  | d :: ds, _, ⟨v, r, e1, e2, e3⟩ => ⟨v, r, e1, Rp.mono e e2, RpL.mono e e3⟩
end
end

/-! ### the store -/
def RpU (G : Gc) (φ : List Addr) (S : Addr → Prop) (H : Hp) : U → V → Prop
  | .d x, v => Rp G S H x v
  | .p n, v => ∃ a, v = .ref a ∧ φ[n]? = some a
def RpUs (G : Gc) (φ : List Addr) (S : Addr → Prop) (H : Hp) : List U → List V → Prop
  | [], vs => vs = []
  | u :: us, vs => ∃ v r, vs = v :: r ∧ RpU G φ S H u v ∧ RpUs G φ S H us r
def ObR (G : Gc) (φ : List Addr) (S : Addr → Prop) (H : Hp) (a : Addr) : Ob → Prop
  | .fz x => Rp G S H x (.ref a)
  | .lst us => ∃ vs, H a = some (.lst vs) ∧ RpUs G φ S H us vs
  | .dic ks us => ∃ vs, H a = some (.dK (ks.zip vs)) ∧ ks.length = vs.length ∧ RpUs G φ S H us vs
  | .dit ks us => ∃ vs, H a = some (.dT (ks.zip vs)) ∧ ks.length = vs.length ∧ RpUs G φ S H us vs
  | .ins c ns us => ∃ dx vs, H a = some (.ins (G.cls c) dx (ns.zip vs)) ∧ ns.length = vs.length ∧ RpUs G φ S H us vs
/-- the addresses that may change -/
def Sof (Z : Addr → Prop) (φ : List Addr) (μ : Mu) : Addr → Prop := fun a => Z a ∨ ∃ (n : Nat) (ob : Ob), φ[n]? = some a ∧ μ[n]? = some ob ∧ ob.live = true
structure Rep (G : Gc) (Z : Addr → Prop) (φ : List Addr) (H : Hp) (μ : Mu) : Prop where
  len : φ.length = μ.length
  one : ∀ (n m : Nat) (a : Addr) (o u : Ob), φ[n]? = some a → φ[m]? = some a → μ[n]? = some o → μ[m]? = some u → o.live = true → u.live = true → n = m
  at_ : ∀ (n : Nat) (a : Addr) (o : Ob), φ[n]? = some a → μ[n]? = some o → ObR G φ (Sof Z φ μ) H a o
  res : ∀ (a : Addr), Z a → ∃ o, H a = some o ∧ NR o
  apart : ∀ (n : Nat) (a : Addr) (o : Ob), φ[n]? = some a → μ[n]? = some o → o.live = true → ¬ Z a
  tab : LamX.Tabs G.T H
/-- the state goes on -/
structure Go (Z : Addr → Prop) (φ : List Addr) (μ : Mu) (H : Hp) (φ' : List Addr) (μ' : Mu) (H' : Hp) : Prop where
  ph : ∀ (n : Nat) (a : Addr), φ[n]? = some a → φ'[n]? = some a
  ex : Ex (Sof Z φ μ) H (Sof Z φ' μ') H'
  rs : ∀ (a : Addr), Z a → H' a = H a
theorem Go.refl {Z : Addr → Prop} {φ : List Addr} {μ : Mu} {H : Hp} : Go Z φ μ H φ μ H := ⟨fun _ _ h => h, Ex.refl, fun _ _ => rfl⟩
theorem Go.trans {Z : Addr → Prop} {φ φ1 φ2 : List Addr} {μ μ1 μ2 : Mu} {H H1 H2 : Hp} (a : Go Z φ μ H φ1 μ1 H1) (b : Go Z φ1 μ1 H1 φ2 μ2 H2) : Go Z φ μ H φ2 μ2 H2 :=
  ⟨fun n x h => b.ph n x (a.ph n x h), a.ex.trans b.ex, fun x h => (b.rs x h).trans (a.rs x h)⟩
section
variable {G : Gc} {Z : Addr → Prop} {φ φ' : List Addr} {μ μ' : Mu} {H H' : Hp}
theorem RpU.mono (g : Go Z φ μ H φ' μ' H') : ∀ {u : U} {v : V}, RpU G φ (Sof Z φ μ) H u v → RpU G φ' (Sof Z φ' μ') H' u v
  | .d _, _, h => Rp.mono g.ex h
  | .p n, _, ⟨a, e1, e2⟩ => ⟨a, e1, g.ph n a e2⟩
theorem RpUs.mono (g : Go Z φ μ H φ' μ' H') : ∀ {us : List U} {vs : List V}, RpUs G φ (Sof Z φ μ) H us vs → RpUs G φ' (Sof Z φ' μ') H' us vs
  | [], _, h => h
  | u :: us, _, ⟨v, r, e1, e2, e3⟩ => ⟨v, r, e1, e2.mono g, e3.mono g⟩
end
end Iv
set_option Elab.async false
set_option linter.all false
set_option maxRecDepth 100000
set_option maxHeartbeats 2000000
set_option autoImplicit false
/-! Iv, part B: meanings, and what it is that a reading is held by a meaning. -/
namespace Iv
open PySem PySem.Spec PyProof.Rows L2

inductive Res (α : Type) where
  | ok (a : α) (μ : Mu) | err (c : Nat) (ns : List Str) (vs : List D) (μ : Mu) | bad
def Res.bind {α β : Type} (r : Res α) (f : α → Mu → Res β) : Res β := match r with
  | .ok a μ => f a μ
  | .err c ns vs μ => .err c ns vs μ
  | .bad => .bad
abbrev Rho := List (Option U)
abbrev Sm (α : Type) := Rho → Mu → Res α
inductive RS where
  | nx (ρ : Rho) (μ : Mu) | ret (u : U) (μ : Mu) | brk (ρ : Rho) (μ : Mu) | ct (ρ : Rho) (μ : Mu)
  | err (c : Nat) (ns : List Str) (vs : List D) (ρ : Rho) (μ : Mu) | bad
abbrev SmS := Rho → Mu → RS

/-! ### states -/
def OptR (G : Gc) (φ : List Addr) (S : Addr → Prop) (H : Hp) : Option U → Option V → Prop
  | none, _ => True
  | some u, v => ∃ x, v = some x ∧ RpU G φ S H u x
def Sls (G : Gc) (φ : List Addr) (S : Addr → Prop) (H : Hp) : Rho → L2.St → Prop
  | [], σ => σ = []
  | o :: ρ, σ => ∃ v r, σ = v :: r ∧ OptR G φ S H o v ∧ Sls G φ S H ρ r
structure SR (G : Gc) (Z : Addr → Prop) (φ : List Addr) (H : Hp) (μ : Mu) (ρ : Rho) (σ : L2.St) : Prop where
  rep : Rep G Z φ H μ
  sl : Sls G φ (Sof Z φ μ) H ρ σ
def ErrR (G : Gc) (S : Addr → Prop) (H : Hp) (c : Nat) (ns : List Str) (vs : List D) (cls : Value) (dx : Option Addr) : Prop :=
  cls = .ref (G.cls c) ∧ ((dx = none ∧ ns = [] ∧ vs = []) ∨ ∃ d ws, dx = some d ∧ ¬ S d ∧ H d = some (.xd (ns.zip ws)) ∧ ns.length = ws.length ∧ RpL G S H vs ws)
abbrev Rl (α β : Type) := List Addr → (Addr → Prop) → Hp → α → β → Prop
def RlB : Rl Bool Bool := fun _ _ _ a b => a = b
section
variable {G : Gc} {Z : Addr → Prop} {φ φ' : List Addr} {μ μ' : Mu} {H H' : Hp}
theorem OptR.mono (g : Go Z φ μ H φ' μ' H') : ∀ {o : Option U} {v : Option V}, OptR G φ (Sof Z φ μ) H o v → OptR G φ' (Sof Z φ' μ') H' o v
  | none, _, _ => True.intro
  | some _, _, ⟨x, e, r⟩ => ⟨x, e, r.mono g⟩
theorem Sls.mono (g : Go Z φ μ H φ' μ' H') : ∀ {ρ : Rho} {σ : L2.St}, Sls G φ (Sof Z φ μ) H ρ σ → Sls G φ' (Sof Z φ' μ') H' ρ σ
  | [], _, h => h
  | o :: ρ, _, ⟨v, r, e, a, b⟩ => ⟨v, r, e, a.mono g, b.mono g⟩
theorem SR.go {ρ : Rho} {σ : L2.St} (g : Go Z φ μ H φ' μ' H') (r : Rep G Z φ' H' μ') (s : SR G Z φ H μ ρ σ) : SR G Z φ' H' μ' ρ σ := ⟨r, s.sl.mono g⟩
theorem ErrR.mono {S S' : Addr → Prop} (e : Ex S H S' H') {c : Nat} {ns : List Str} {vs : List D} {cls : Value} {dx : Option Addr} (h : ErrR G S H c ns vs cls dx) : ErrR G S' H' c ns vs cls dx :=
  ⟨h.1, h.2.elim (fun z => .inl z) fun ⟨d, ws, e1, e2, e3, e4, e5⟩ => .inr ⟨d, ws, e1, (e.keep d _ e3 e2 nt_xd).2, (e.keep d _ e3 e2 nt_xd).1, e4, RpL.mono e e5⟩⟩
theorem Sls.get {S : Addr → Prop} : ∀ {ρ : Rho} {σ : L2.St} {i : Nat} {u : U}, Sls G φ S H ρ σ → ρ[i]? = some (some u) → ∃ x, σ[i]? = some (some x) ∧ RpU G φ S H u x
  | o :: ρ, _, 0, u, ⟨v, r, e, a, b⟩, h => by
    have h' : o = some u := Option.some.inj h
    subst h'
    obtain ⟨x, e2, rx⟩ := a
    subst e; subst e2
    exact ⟨x, rfl, rx⟩
  | o :: ρ, _, i + 1, u, ⟨v, r, e, a, b⟩, h => by
    subst e
    exact Sls.get (i := i) (u := u) b h
theorem Sls.set {S : Addr → Prop} {u : Option U} {x : Option V} (r : OptR G φ S H u x) : ∀ {ρ : Rho} {σ : L2.St} (i : Nat), Sls G φ S H ρ σ → Sls G φ S H (ρ.set i u) (σ.set i x)
  | [], _, i, h => by
    obtain rfl := (show _ = [] from h)
    cases i <;> exact rfl
  | o :: ρ, _, 0, ⟨v, r', e, a, b⟩ => by subst e; exact ⟨x, r', rfl, r, b⟩
  | o :: ρ, _, i + 1, ⟨v, r', e, a, b⟩ => by subst e; exact ⟨v, _, rfl, a, Sls.set r i b⟩
theorem Sls.put {S : Addr → Prop} {u : U} {x : V} {ρ : Rho} {σ : L2.St} (i : Nat) (h : Sls G φ S H ρ σ) (r : RpU G φ S H u x) : Sls G φ S H (ρ.set i (some u)) (σ.set i (some x)) := Sls.set (u := some u) (x := some x) ⟨x, rfl, r⟩ i h
theorem Sls.length {S : Addr → Prop} : ∀ {ρ : Rho} {σ : L2.St}, Sls G φ S H ρ σ → ρ.length = σ.length
  | [], _, h => by
    obtain rfl := (show _ = [] from h)
    rfl
  | o :: ρ, _, ⟨v, r, e, a, b⟩ => by subst e; rw [List.length_cons, List.length_cons, b.length]
end

/-! ### meanings -/
def Po {α β : Type} (R : Rl α β) (G : Gc) (Z : Addr → Prop) (W : WX) (φ : List Addr) (μ : Mu) (H : Hp) (σ : L2.St) (r : Res α) (Q : β → Hp → Prop) : Prop := match r with
  | .ok a μ' => ∀ (φ' : List Addr) (H' : Hp) (b : β), Go Z φ μ H φ' μ' H' → Rep G Z φ' H' μ' → R φ' (Sof Z φ' μ') H' a b → Q b H'
  | .err c ns vs μ' => ∀ (φ' : List Addr) (H' : Hp) (cls : Value) (dx : Option Addr), Go Z φ μ H φ' μ' H' → Rep G Z φ' H' μ' → ErrR G (Sof Z φ' μ') H' c ns vs cls dx → W cls dx σ H'
  | .bad => False
def rd {α β : Type} (R : Rl α β) (G : Gc) (W : WX) (m : Sm α) (σ : L2.St) (H : Hp) (Q : β → Hp → Prop) : Prop :=
  ∃ Z φ ρ μ, SR G Z φ H μ ρ σ ∧ Po R G Z W φ μ H σ (m ρ μ) Q
abbrev rdE (G : Gc) (W : WX) (m : Sm U) : TE := rd (RpU G) G W m
abbrev rdT (G : Gc) (W : WX) (m : Sm Bool) : TT := rd RlB G W m
abbrev rdA (G : Gc) (W : WX) (m : Sm (List U)) : TA := rd (RpUs G) G W m
def PoS (G : Gc) (Z : Addr → Prop) (W : WX) (φ : List Addr) (μ : Mu) (H : Hp) (r : RS) (D : Ends) : Prop := match r with
  | .nx ρ' μ' => ∀ (φ' : List Addr) (H' : Hp) (σ' : L2.St), Go Z φ μ H φ' μ' H' → SR G Z φ' H' μ' ρ' σ' → D.nx σ' H'
  | .ret u μ' => ∀ (φ' : List Addr) (H' : Hp) (v : V), Go Z φ μ H φ' μ' H' → Rep G Z φ' H' μ' → RpU G φ' (Sof Z φ' μ') H' u v → D.rt v H'
  | .brk ρ' μ' => ∀ (φ' : List Addr) (H' : Hp) (σ' : L2.St), Go Z φ μ H φ' μ' H' → SR G Z φ' H' μ' ρ' σ' → D.bk σ' H'
  | .ct ρ' μ' => ∀ (φ' : List Addr) (H' : Hp) (σ' : L2.St), Go Z φ μ H φ' μ' H' → SR G Z φ' H' μ' ρ' σ' → D.ct σ' H'
  | .err c ns vs ρ' μ' => ∀ (φ' : List Addr) (H' : Hp) (σ' : L2.St) (cls : Value) (dx : Option Addr), Go Z φ μ H φ' μ' H' → SR G Z φ' H' μ' ρ' σ' → ErrR G (Sof Z φ' μ') H' c ns vs cls dx → W cls dx σ' H'
  | .bad => False
def rdS (G : Gc) (W : WX) (m : SmS) : TS := fun D σ H => ∃ Z φ ρ μ, SR G Z φ H μ ρ σ ∧ PoS G Z W φ μ H (m ρ μ) D

section
variable {G : Gc} {Z : Addr → Prop} {W : WX} {φ φ' : List Addr} {μ μ' : Mu} {H H' : Hp} {σ : L2.St} {ρ : Rho}
theorem Po.go {α β : Type} {R : Rl α β} {r : Res α} {Q : β → Hp → Prop} (g : Go Z φ μ H φ' μ' H') (h : Po R G Z W φ μ H σ r Q) : Po R G Z W φ' μ' H' σ r Q := by
  cases r with
  | ok a μ2 => exact fun φ2 H2 b g2 => h φ2 H2 b (g.trans g2)
  | err c ns vs μ2 => exact fun φ2 H2 cls dx g2 => h φ2 H2 cls dx (g.trans g2)
  | bad => exact h
theorem PoS.go {r : RS} {D : Ends} (g : Go Z φ μ H φ' μ' H') (h : PoS G Z W φ μ H r D) : PoS G Z W φ' μ' H' r D := by
  cases r with
  | nx ρ2 μ2 => exact fun φ2 H2 σ2 g2 => h φ2 H2 σ2 (g.trans g2)
  | ret u μ2 => exact fun φ2 H2 σ2 g2 => h φ2 H2 σ2 (g.trans g2)
  | brk ρ2 μ2 => exact fun φ2 H2 σ2 g2 => h φ2 H2 σ2 (g.trans g2)
  | ct ρ2 μ2 => exact fun φ2 H2 σ2 g2 => h φ2 H2 σ2 (g.trans g2)
  | err c ns vs ρ2 μ2 => exact fun φ2 H2 σ2 cls dx g2 => h φ2 H2 σ2 cls dx (g.trans g2)
  | bad => exact h
theorem Po.mono {α β : Type} {R : Rl α β} {r : Res α} {Q Q' : β → Hp → Prop} (h : Po R G Z W φ μ H σ r Q) (k : ∀ b H', Q b H' → Q' b H') : Po R G Z W φ μ H σ r Q' := by
  cases r with
  | ok a μ2 => exact fun φ2 H2 b g2 r2 rr => k _ _ (h φ2 H2 b g2 r2 rr)
  | err c ns vs μ2 => exact h
  | bad => exact h
theorem rd_mono {α β : Type} {R : Rl α β} {m : Sm α} {Q Q' : β → Hp → Prop} (h : rd R G W m σ H Q) (k : ∀ b H', Q b H' → Q' b H') : rd R G W m σ H Q' :=
  let ⟨Z, φ, ρ, μ, sr, po⟩ := h
  ⟨Z, φ, ρ, μ, sr, po.mono k⟩
/-- first m, then f -/
theorem po_step {α β γ δ : Type} {R1 : Rl α β} {R2 : Rl γ δ} {m : Sm α} {f : α → Mu → Res γ} {Q : δ → Hp → Prop} (sr : SR G Z φ H μ ρ σ) (po : Po R2 G Z W φ μ H σ ((m ρ μ).bind f) Q) :
    rd R1 G W m σ H (fun b H1 => ∃ φ1 μ1 a, Go Z φ μ H φ1 μ1 H1 ∧ SR G Z φ1 H1 μ1 ρ σ ∧ R1 φ1 (Sof Z φ1 μ1) H1 a b ∧ Po R2 G Z W φ1 μ1 H1 σ (f a μ1) Q) := by
  refine ⟨Z, φ, ρ, μ, sr, ?_⟩
  cases e : m ρ μ with
  | ok a μ1 =>
    rw [e] at po
    exact fun φ1 H1 b g r rr => ⟨φ1, μ1, a, g, sr.go g r, rr, Po.go g po⟩
  | err c ns vs μ1 => rw [e] at po; exact po
  | bad => rw [e] at po; exact po
/-- first m, then a statement's end -/
def Res.thenS {α : Type} (r : Res α) (ρ : Rho) (f : α → Mu → RS) : RS := match r with
  | .ok a μ => f a μ
  | .err c ns vs μ => .err c ns vs ρ μ
  | .bad => .bad
theorem pos_step {α β : Type} {R1 : Rl α β} {m : Sm α} {f : α → Mu → RS} {D : Ends} (sr : SR G Z φ H μ ρ σ) (po : PoS G Z W φ μ H ((m ρ μ).thenS ρ f) D) :
    rd R1 G W m σ H (fun b H1 => ∃ φ1 μ1 a, Go Z φ μ H φ1 μ1 H1 ∧ SR G Z φ1 H1 μ1 ρ σ ∧ R1 φ1 (Sof Z φ1 μ1) H1 a b ∧ PoS G Z W φ1 μ1 H1 (f a μ1) D) := by
  refine ⟨Z, φ, ρ, μ, sr, ?_⟩
  cases e : m ρ μ with
  | ok a μ1 =>
    rw [e] at po
    exact fun φ1 H1 b g r rr => ⟨φ1, μ1, a, g, sr.go g r, rr, PoS.go g po⟩
  | err c ns vs μ1 => rw [e] at po; exact fun φ1 H1 cls dx g r er => po φ1 H1 σ cls dx g (sr.go g r) er
  | bad => rw [e] at po; exact po
end
section
variable {X : Cx} {e : Expr} {es : List Expr} {st : Stmt} {sts : List Stmt}
theorem PE.imp {t t' : TE} (h : PE X e t) (k : ∀ σ H Q, t' σ H Q → t σ H Q) : PE X e t' := ⟨fun pins s σ H Q I q => h.run pins s σ H Q I (k σ H Q q)⟩
theorem PT.imp {t t' : TT} (h : PT X e t) (k : ∀ σ H Q, t' σ H Q → t σ H Q) : PT X e t' := ⟨fun pins s σ H Q I q => h.run pins s σ H Q I (k σ H Q q)⟩
theorem PW.imp {t t' : TT} (h : PW X e t) (k : ∀ σ H Q, t' σ H Q → t σ H Q) : PW X e t' := ⟨fun wh pins s σ H Q I q => h.run wh pins s σ H Q I (k σ H Q q)⟩
theorem PA.imp {t t' : TA} (h : PA X es t) (k : ∀ σ H Q, t' σ H Q → t σ H Q) : PA X es t' := ⟨fun pos pins s σ H Q I q => h.run pos pins s σ H Q I (k σ H Q q)⟩
theorem PS.imp {t t' : TS} (h : PS X st t) (k : ∀ D σ H, t' D σ H → t D σ H) : PS X st t' := ⟨fun pins s σ H D I q => h.run pins s σ H D I (k D σ H q)⟩
theorem PSs.imp {t t' : TS} (h : PSs X sts t) (k : ∀ D σ H, t' D σ H → t D σ H) : PSs X sts t' := ⟨fun pins s σ H D I q => h.run pins s σ H D I (k D σ H q)⟩
end

/-! ### names, constants -/
section
variable {G : Gc} {W : WX} {X : Cx} {pos : Pos}
def vVar (i : Nat) : Sm U := fun ρ μ => match ρ[i]? with
  | some (some u) => .ok u μ
  | _ => .bad
def vC (d : D) : Sm U := fun _ μ => .ok (.d d) μ
theorem i_var {i : Nat} {x : Str} (hN : X.N[i]? = some x) (hv : Vis X.env.scope x) (hd : (x == ("__debug__" : Str)) = false := by decide) (hcd : (x == ("__classdict__" : Str)) = false := by decide) : PE X (.Name x pos) (rdE G W (vVar i)) :=
  PE.imp (pe_var hN hv hd hcd) fun σ H Q ⟨Z, φ, ρ, μ, sr, po⟩ => by
    unfold vVar at po
    split at po
    · rename_i u hu
      obtain ⟨x, e, r⟩ := sr.sl.get hu
      exact ⟨x, e, po φ H x Go.refl sr.rep r⟩
    · exact False.elim po
/-- a constant of scalars -/
def scD : D → V → Prop
  | .non, v => v = .non
  | .bl b, v => v = .bl b
  | .int i, v => v = .int i
  | .str x, v => v = .str x
  | _, _ => False
theorem scD.rp {S : Addr → Prop} {H : Hp} {d : D} {v : V} (h : scD d v) : Rp G S H d v := by
  cases d <;> first | exact h | exact False.elim h
theorem i_c {e : Expr} {d : D} {v : V} (h : PE X e (tC v)) (r : scD d v) : PE X e (rdE G W (vC d)) :=
  PE.imp h fun σ H Q ⟨Z, φ, ρ, μ, sr, po⟩ => po φ H v Go.refl sr.rep (scD.rp r)
theorem i_int {i : Int} {j : Nat} : PE X (.Constant (.int i) j pos) (rdE G W (vC (.int i))) := i_c pe_int rfl
theorem i_bl {b : Bool} {j : Nat} : PE X (.Constant (.bool b) j pos) (rdE G W (vC (.bl b))) := i_c pe_bl rfl
theorem i_non {j : Nat} : PE X (.Constant .none j pos) (rdE G W (vC .non)) := i_c pe_non rfl
theorem i_str {x : Str} {j : Nat} : PE X (.Constant (.str x) j pos) (rdE G W (vC (.str x))) := i_c pe_str rfl
theorem i_glob {x : Str} {v : V} {u : Value} {d : D} (hg : Gl X x) (hm : X.mg x = some u) (r : RelV v u) (rd : scD d v) (hd : (x == ("__debug__" : Str)) = false := by decide) : PE X (.Name x pos) (rdE G W (vC d)) := i_c (pe_glob hg hm r hd) rd
end

/-! ### operations by values -/
/-- f tells what the reading r of two values asks -/
def Op2 (G : Gc) (f : U → U → Mu → Res U) (r : R2) : Prop := ∀ (Z : Addr → Prop) (W : WX) (φ : List Addr) (μ : Mu) (H : Hp) (σ : L2.St) (x y : V) (u w : U) (Q : VK), Rep G Z φ H μ → RpU G φ (Sof Z φ μ) H u x → RpU G φ (Sof Z φ μ) H w y → Po (RpU G) G Z W φ μ H σ (f u w μ) Q → r x y H Q
def Op1 (G : Gc) (f : U → Mu → Res U) (r : V → Hp → VK → Prop) : Prop := ∀ (Z : Addr → Prop) (W : WX) (φ : List Addr) (μ : Mu) (H : Hp) (σ : L2.St) (x : V) (u : U) (Q : VK), Rep G Z φ H μ → RpU G φ (Sof Z φ μ) H u x → Po (RpU G) G Z W φ μ H σ (f u μ) Q → r x H Q
def OpN (G : Gc) (f : List U → Mu → Res U) (r : List V → Hp → VK → Prop) : Prop := ∀ (Z : Addr → Prop) (W : WX) (φ : List Addr) (μ : Mu) (H : Hp) (σ : L2.St) (xs : List V) (us : List U) (Q : VK), Rep G Z φ H μ → RpUs G φ (Sof Z φ μ) H us xs → Po (RpU G) G Z W φ μ H σ (f us μ) Q → r xs H Q
def v2 (f : U → U → Mu → Res U) (ma mb : Sm U) : Sm U := fun ρ μ => (ma ρ μ).bind fun u μ1 => (mb ρ μ1).bind fun w μ2 => f u w μ2
def v1 (f : U → Mu → Res U) (ma : Sm U) : Sm U := fun ρ μ => (ma ρ μ).bind f
def vN (f : List U → Mu → Res U) (ma : Sm (List U)) : Sm U := fun ρ μ => (ma ρ μ).bind f
section
variable {G : Gc} {W : WX} {X : Cx} {pos : Pos} {a b : Expr} {ma mb : Sm U}
theorem rd2 {f : U → U → Mu → Res U} {r : R2} (hf : Op2 G f r) (σ : L2.St) (H : Hp) (Q : VK) (h : rdE G W (v2 f ma mb) σ H Q) : tOp r (rdE G W ma) (rdE G W mb) σ H Q := by
  obtain ⟨Z, φ, ρ, μ, sr, po⟩ := h
  refine rd_mono (po_step (R1 := RpU G) sr po) fun x H1 ⟨φ1, μ1, u, g1, sr1, ru, po1⟩ => ?_
  refine rd_mono (po_step (R1 := RpU G) sr1 po1) fun y H2 ⟨φ2, μ2, w, g2, sr2, rw, po2⟩ => ?_
  exact hf Z W φ2 μ2 H2 σ x y u w Q sr2.rep (ru.mono g2) rw po2
theorem rd1 {f : U → Mu → Res U} {r : V → Hp → VK → Prop} (hf : Op1 G f r) (σ : L2.St) (H : Hp) (Q : VK) (h : rdE G W (v1 f ma) σ H Q) : tUn r (rdE G W ma) σ H Q := by
  obtain ⟨Z, φ, ρ, μ, sr, po⟩ := h
  refine rd_mono (po_step (R1 := RpU G) sr po) fun x H1 ⟨φ1, μ1, u, g1, sr1, ru, po1⟩ => ?_
  exact hf Z W φ1 μ1 H1 σ x u Q sr1.rep ru po1
theorem i_bin {op : Operator} {r : R2} {f : U → U → Mu → Res U} (ho : OpR X (binaryOp op) r) (hf : Op2 G f r) (ha : PE X a (rdE G W ma)) (hb : PE X b (rdE G W mb)) : PE X (.BinOp a op b pos) (rdE G W (v2 f ma mb)) :=
  PE.imp (pe_op ho ha hb) (rd2 hf)
theorem i_un {op : UnaryOp} {r : V → Hp → VK → Prop} {f : U → Mu → Res U} (ho : UnR X (unaryOp op) r) (hf : Op1 G f r) (ha : PE X a (rdE G W ma)) : PE X (.UnaryOp op a pos) (rdE G W (v1 f ma)) :=
  PE.imp (pe_un ho ha) (rd1 hf)
theorem i_cmp {op : CmpOp} {r : R2} {f : U → U → Mu → Res U} (ho : OpR X (compareOp op) r) (hf : Op2 G f r) (ha : PE X a (rdE G W ma)) (hb : PE X b (rdE G W mb)) (hm : behindInMarks op b = false) : PE X (.Compare a [op] [b] pos) (rdE G W (v2 f ma mb)) :=
  PE.imp (pe_cmpR ho ha hb hm) (rd2 hf)
theorem i_ix {r : R2} {f : U → U → Mu → Res U} (hr : IxR X r) (hf : Op2 G f r) (ha : PE X a (rdE G W ma)) (hb : PE X b (rdE G W mb)) (hs : PlainIx b) : PE X (.Subscript a b pos) (rdE G W (v2 f ma mb)) :=
  PE.imp (pe_ix hr ha hb hs) (rd2 hf)

/-! ### tests -/
def tOf (m : Sm U) : Sm Bool := fun ρ μ => (m ρ μ).bind fun u μ1 => match u with
  | .d (.bl b) => .ok b μ1
  | _ => .bad
theorem rdTest {m : Sm U} (σ : L2.St) (H : Hp) (Q : Bool → Hp → Prop) (h : rdT G W (tOf m) σ H Q) : tTest (rdE G W m) σ H Q := by
  obtain ⟨Z, φ, ρ, μ, sr, po⟩ := h
  refine rd_mono (po_step (R1 := RpU G) sr po) fun x H1 ⟨φ1, μ1, u, g1, sr1, ru, po1⟩ => ?_
  split at po1
  · rename_i b
    exact ⟨b, ru, po1 φ1 H1 b Go.refl sr1.rep rfl⟩
  · exact False.elim po1
theorem i_tcmp {op : CmpOp} {r : R2} {f : U → U → Mu → Res U} (ho : OpR X (compareOp op) r) (hf : Op2 G f r) (ha : PE X a (rdE G W ma)) (hb : PE X b (rdE G W mb)) (hm : behindInMarks op b = false) : PT X (.Compare a [op] [b] pos) (rdT G W (tOf (v2 f ma mb))) :=
  PT.imp (pt_cmpR ho ha hb hm) fun σ H Q h => by
    have k := rdTest σ H Q h
    obtain ⟨Z, φ, ρ, μ, sr, po⟩ := k
    exact rd2 hf σ H _ ⟨Z, φ, ρ, μ, sr, po⟩
theorem i_tval {e : Expr} {m : Sm U} (h : PE X e (rdE G W m)) (he : ∀ whole, isTrue e X.env whole = (do let v ← whole; standAt e.pos; holding [v] (truthy v)) := by intro _; rfl) : PT X e (rdT G W (tOf m)) :=
  PT.imp (pt_val h he) fun σ H Q q => rdTest σ H Q q
def tAnd' (s t : Sm Bool) : Sm Bool := fun ρ μ => (s ρ μ).bind fun b μ1 => if b = true then t ρ μ1 else .ok false μ1
def tOr' (s t : Sm Bool) : Sm Bool := fun ρ μ => (s ρ μ).bind fun b μ1 => if b = true then .ok true μ1 else t ρ μ1
def tNot' (s : Sm Bool) : Sm Bool := fun ρ μ => (s ρ μ).bind fun b μ1 => .ok (!b) μ1
variable {tA tB : Sm Bool} {rest : List Expr}
theorem i_wand1 (ha : PT X a (rdT G W tA)) : PW X (.BoolOp .And [a] pos) (rdT G W tA) := pw_and1 ha
theorem i_wor1 (ha : PT X a (rdT G W tA)) : PW X (.BoolOp .Or [a] pos) (rdT G W tA) := pw_or1 ha
theorem i_wand (ha : PT X a (rdT G W tA)) (hb : PW X (.BoolOp .And (b :: rest) pos) (rdT G W tB)) : PW X (.BoolOp .And (a :: b :: rest) pos) (rdT G W (tAnd' tA tB)) :=
  PW.imp (pw_and ha hb) fun σ H Q ⟨Z, φ, ρ, μ, sr, po⟩ => by
    refine rd_mono (po_step (R1 := RlB) sr po) fun x H1 ⟨φ1, μ1, u, g1, sr1, ru, po1⟩ => ?_
    obtain rfl : u = x := ru
    cases u with
    | true =>
      rw [if_pos rfl] at po1 ⊢
      exact ⟨Z, φ1, ρ, μ1, sr1, po1⟩
    | false =>
      rw [if_neg Bool.false_ne_true] at po1 ⊢
      exact po1 φ1 H1 false Go.refl sr1.rep rfl
theorem i_wor (ha : PT X a (rdT G W tA)) (hb : PW X (.BoolOp .Or (b :: rest) pos) (rdT G W tB)) : PW X (.BoolOp .Or (a :: b :: rest) pos) (rdT G W (tOr' tA tB)) :=
  PW.imp (pw_or ha hb) fun σ H Q ⟨Z, φ, ρ, μ, sr, po⟩ => by
    refine rd_mono (po_step (R1 := RlB) sr po) fun x H1 ⟨φ1, μ1, u, g1, sr1, ru, po1⟩ => ?_
    obtain rfl : u = x := ru
    cases u with
    | true =>
      rw [if_pos rfl] at po1 ⊢
      exact po1 φ1 H1 true Go.refl sr1.rep rfl
    | false =>
      rw [if_neg Bool.false_ne_true] at po1 ⊢
      exact ⟨Z, φ1, ρ, μ1, sr1, po1⟩
theorem i_tnot (ha : PT X a (rdT G W tA)) : PT X (.UnaryOp .Not a pos) (rdT G W (tNot' tA)) :=
  PT.imp (pt_not ha) fun σ H Q ⟨Z, φ, ρ, μ, sr, po⟩ => by
    refine rd_mono (po_step (R1 := RlB) sr po) fun x H1 ⟨φ1, μ1, u, g1, sr1, ru, po1⟩ => ?_
    obtain rfl : u = x := ru
    exact po1 φ1 H1 (!u) Go.refl sr1.rep rfl
/-! ### and, or, not as values; a if t else b -/
def vAnd (s t : Sm U) : Sm U := fun ρ μ => (s ρ μ).bind fun u μ1 => match u with
  | .d (.bl true) => t ρ μ1
  | .d (.bl false) => .ok (.d (.bl false)) μ1
  | _ => .bad
def vOr (s t : Sm U) : Sm U := fun ρ μ => (s ρ μ).bind fun u μ1 => match u with
  | .d (.bl false) => t ρ μ1
  | .d (.bl true) => .ok (.d (.bl true)) μ1
  | _ => .bad
def vNot (s : Sm U) : Sm U := fun ρ μ => (s ρ μ).bind fun u μ1 => match u with
  | .d (.bl b) => .ok (.d (.bl (!b))) μ1
  | _ => .bad
def vIf (c : Sm Bool) (s t : Sm U) : Sm U := fun ρ μ => (c ρ μ).bind fun b μ1 => if b = true then s ρ μ1 else t ρ μ1
theorem i_one {op : BoolOp} (h : PE X a (rdE G W ma)) : PE X (.BoolOp op [a] pos) (rdE G W ma) := pe_one h
theorem i_and (ha : PE X a (rdE G W ma)) (hb : PE X (.BoolOp .And (b :: rest) pos) (rdE G W mb)) : PE X (.BoolOp .And (a :: b :: rest) pos) (rdE G W (vAnd ma mb)) :=
  PE.imp (pe_and ha hb) fun σ H Q ⟨Z, φ, ρ, μ, sr, po⟩ => by
    refine rd_mono (po_step (R1 := RpU G) sr po) fun x H1 ⟨φ1, μ1, u, g1, sr1, ru, po1⟩ => ?_
    split at po1
    · exact ⟨true, ru, by rw [if_pos rfl]; exact ⟨Z, φ1, ρ, μ1, sr1, po1⟩⟩
    · exact ⟨false, ru, by rw [if_neg Bool.false_ne_true]; exact po1 φ1 H1 _ Go.refl sr1.rep rfl⟩
    · exact False.elim po1
theorem i_or (ha : PE X a (rdE G W ma)) (hb : PE X (.BoolOp .Or (b :: rest) pos) (rdE G W mb)) : PE X (.BoolOp .Or (a :: b :: rest) pos) (rdE G W (vOr ma mb)) :=
  PE.imp (pe_or ha hb) fun σ H Q ⟨Z, φ, ρ, μ, sr, po⟩ => by
    refine rd_mono (po_step (R1 := RpU G) sr po) fun x H1 ⟨φ1, μ1, u, g1, sr1, ru, po1⟩ => ?_
    split at po1
    · exact ⟨false, ru, by rw [if_neg Bool.false_ne_true]; exact ⟨Z, φ1, ρ, μ1, sr1, po1⟩⟩
    · exact ⟨true, ru, by rw [if_pos rfl]; exact po1 φ1 H1 _ Go.refl sr1.rep rfl⟩
    · exact False.elim po1
theorem i_not (ha : PE X a (rdE G W ma)) : PE X (.UnaryOp .Not a pos) (rdE G W (vNot ma)) :=
  PE.imp (pe_not ha) fun σ H Q ⟨Z, φ, ρ, μ, sr, po⟩ => by
    refine rd_mono (po_step (R1 := RpU G) sr po) fun x H1 ⟨φ1, μ1, u, g1, sr1, ru, po1⟩ => ?_
    split at po1
    · rename_i c
      exact ⟨c, ru, po1 φ1 H1 _ Go.refl sr1.rep rfl⟩
    · exact False.elim po1
theorem i_ifexp {c : Expr} {tc : Sm Bool} (hc : PT X c (rdT G W tc)) (ha : PE X a (rdE G W ma)) (hb : PE X b (rdE G W mb)) : PE X (.IfExp c a b pos) (rdE G W (vIf tc ma mb)) :=
  PE.imp (pe_ifExp hc ha hb) fun σ H Q ⟨Z, φ, ρ, μ, sr, po⟩ => by
    refine rd_mono (po_step (R1 := RlB) sr po) fun x H1 ⟨φ1, μ1, u, g1, sr1, ru, po1⟩ => ?_
    obtain rfl : u = x := ru
    cases u with
    | true => rw [if_pos rfl] at po1 ⊢; exact ⟨Z, φ1, ρ, μ1, sr1, po1⟩
    | false => rw [if_neg Bool.false_ne_true] at po1 ⊢; exact ⟨Z, φ1, ρ, μ1, sr1, po1⟩
/-! ### arguments -/
def aNil : Sm (List U) := fun _ μ => .ok [] μ
def aCons (m : Sm U) (r : Sm (List U)) : Sm (List U) := fun ρ μ => (m ρ μ).bind fun u μ1 => (r ρ μ1).bind fun us μ2 => .ok (u :: us) μ2
theorem i_anil : PA X [] (rdA G W aNil) := PA.imp pa_nil fun σ H Q ⟨Z, φ, ρ, μ, sr, po⟩ => po φ H [] Go.refl sr.rep rfl
theorem i_acons {e : Expr} {es : List Expr} {m : Sm U} {r : Sm (List U)} (ha : PE X e (rdE G W m)) (hr : PA X es (rdA G W r)) (hs : starEach (e :: es) X.env = (false, eval e X.env) :: starEach es X.env := by rfl) : PA X (e :: es) (rdA G W (aCons m r)) :=
  PA.imp (pa_cons ha hr hs) fun σ H Q ⟨Z, φ, ρ, μ, sr, po⟩ => by
    refine rd_mono (po_step (R1 := RpU G) sr po) fun x H1 ⟨φ1, μ1, u, g1, sr1, ru, po1⟩ => ?_
    refine rd_mono (po_step (R1 := RpUs G) sr1 po1) fun xs H2 ⟨φ2, μ2, us, g2, sr2, rus, po2⟩ => ?_
    exact po2 φ2 H2 (x :: xs) Go.refl sr2.rep ⟨x, xs, rfl, ru.mono g2, rus⟩
theorem rdN {f : List U → Mu → Res U} {r : List V → Hp → VK → Prop} {m : Sm (List U)} (hf : OpN G f r) (σ : L2.St) (H : Hp) (Q : VK) (h : rdE G W (vN f m) σ H Q) : tCB r (rdA G W m) σ H Q := by
  obtain ⟨Z, φ, ρ, μ, sr, po⟩ := h
  refine rd_mono (po_step (R1 := RpUs G) sr po) fun xs H1 ⟨φ1, μ1, us, g1, sr1, rus, po1⟩ => ?_
  exact hf Z W φ1 μ1 H1 σ xs us Q sr1.rep rus po1
end
end Iv
set_option Elab.async false
set_option linter.all false
set_option maxRecDepth 100000
set_option maxHeartbeats 2000000
set_option autoImplicit false
/-! Iv, part C: the store's moves; what is frozen; displays; statements; targets. -/
namespace Iv
open PySem PySem.Spec PyProof.Rows L2

section
variable {G : Gc} {Z : Addr → Prop} {φ φ' : List Addr} {μ μ' : Mu} {H H' : Hp}
theorem ObR.mono (g : Go Z φ μ H φ' μ' H') {a : Addr} : ∀ {ob : Ob}, (ob.live = true → ∀ o, H a = some o → H' a = some o) → ObR G φ (Sof Z φ μ) H a ob → ObR G φ' (Sof Z φ' μ') H' a ob
  | .fz x, _, h => Rp.mono g.ex h
  | .lst us, k, ⟨vs, e, r⟩ => ⟨vs, k rfl _ e, r.mono g⟩
  | .dic ks us, k, ⟨vs, e, l, r⟩ => ⟨vs, k rfl _ e, l, r.mono g⟩
  | .dit ks us, k, ⟨vs, e, l, r⟩ => ⟨vs, k rfl _ e, l, r.mono g⟩
  | .ins c ns us, k, ⟨dx, vs, e, l, r⟩ => ⟨dx, vs, k rfl _ e, l, r.mono g⟩
theorem Rep.out (r : Rep G Z φ H μ) {n : Nat} {a : Addr} {ob : Ob} (h1 : φ[n]? = some a) (h2 : μ[n]? = some ob) (h3 : ob.live = true) : ∃ o, H a = some o := by
  have h := r.at_ n a ob h1 h2
  cases ob with
  | fz x => cases h3
  | lst us => obtain ⟨vs, e, _⟩ := h; exact ⟨_, e⟩
  | dic ks us => obtain ⟨vs, e, _⟩ := h; exact ⟨_, e⟩
  | dit ks us => obtain ⟨vs, e, _⟩ := h; exact ⟨_, e⟩
  | ins c ns us => obtain ⟨dx, vs, e, _⟩ := h; exact ⟨_, e⟩
theorem Rep.there (r : Rep G Z φ H μ) {a : Addr} (h : Sof Z φ μ a) : ∃ o, H a = some o := by
  rcases h with h | ⟨n, ob, h1, h2, h3⟩
  · obtain ⟨o, e, _⟩ := r.res a h
    exact ⟨o, e⟩
  · exact r.out h1 h2 h3
/-- a new object that stands still -/
theorem Go.newD (r : Rep G Z φ H μ) {p : Addr} {o : HO} (hp : H p = none) : Go Z φ μ H φ μ (upd H p o) :=
  ⟨fun _ _ h => h, ⟨fun a u h n _ => ⟨by rw [upd_ne (ne_of_none h hp)]; exact h, n⟩⟩, fun a h => by
    obtain ⟨w, e, _⟩ := r.res a h
    rw [upd_ne (ne_of_none e hp)]⟩
theorem Rep.newD (r : Rep G Z φ H μ) {p : Addr} {o : HO} (hp : H p = none) : Rep G Z φ (upd H p o) μ where
  len := r.len
  one := r.one
  at_ := fun n a ob h1 h2 => (r.at_ n a ob h1 h2).mono (Go.newD r hp) fun _ u e => by rw [upd_ne (ne_of_none e hp)]; exact e
  res := fun a h => by
    obtain ⟨w, e, nt⟩ := r.res a h
    exact ⟨w, by rw [upd_ne (ne_of_none e hp)]; exact e, nt⟩
  apart := r.apart
  tab := r.tab.ext fun b u e => by rw [upd_ne (ne_of_none e hp)]; exact e
theorem getElem?_snoc {α : Type} {l : List α} {x y : α} {n : Nat} (h : (l ++ [x])[n]? = some y) : l[n]? = some y ∨ (n = l.length ∧ y = x) := by
  by_cases hn : n < l.length
  · rw [List.getElem?_append_left hn] at h
    exact .inl h
  · rw [List.getElem?_append_right (by omega)] at h
    have e : n - l.length = 0 := by
      cases q : n - l.length with
      | zero => rfl
      | succ k => rw [q] at h; simp at h
    rw [e] at h
    exact .inr ⟨by omega, (Option.some.inj h).symm⟩
theorem snoc_of {α : Type} {l : List α} {x y : α} {n : Nat} (h : l[n]? = some y) : (l ++ [x])[n]? = some y := by
  have hn : n < l.length := (List.getElem?_eq_some_iff.mp h).1
  rw [List.getElem?_append_left hn]
  exact h
theorem snoc_last {α : Type} {l : List α} {x : α} : (l ++ [x])[l.length]? = some x := by simp
theorem Sof.snoc (hl : φ.length = μ.length) {p a : Addr} {ob : Ob} (h : Sof Z (φ ++ [p]) (μ ++ [ob]) a) : Sof Z φ μ a ∨ a = p := by
  rcases h with h | ⟨n, o, h1, h2, h3⟩
  · exact .inl (.inl h)
  rcases getElem?_snoc h1 with e1 | ⟨e1, e1'⟩
  · rcases getElem?_snoc h2 with e2 | ⟨e2, e2'⟩
    · exact .inl (.inr ⟨n, o, e1, e2, h3⟩)
    · have := (List.getElem?_eq_some_iff.mp e1).1
      omega
  · exact .inr e1'
/-- a new object that may change -/
theorem Go.newP (r : Rep G Z φ H μ) {p : Addr} {o : HO} {ob : Ob} (hp : H p = none) : Go Z φ μ H (φ ++ [p]) (μ ++ [ob]) (upd H p o) :=
  ⟨fun _ _ h => snoc_of h, ⟨fun a u h n _ => ⟨by rw [upd_ne (ne_of_none h hp)]; exact h, fun z => (Sof.snoc r.len z).elim n (ne_of_none h hp)⟩⟩, fun a h => by
    obtain ⟨w, e, _⟩ := r.res a h
    rw [upd_ne (ne_of_none e hp)]⟩
theorem Rep.newP (r : Rep G Z φ H μ) {p : Addr} {o : HO} {ob : Ob} (hp : H p = none) (h : ObR G (φ ++ [p]) (Sof Z (φ ++ [p]) (μ ++ [ob])) (upd H p o) p ob) : Rep G Z (φ ++ [p]) (upd H p o) (μ ++ [ob]) where
  len := by rw [List.length_append, List.length_append, r.len]; rfl
  one := fun n m a o1 u1 h1 h2 h3 h4 l1 l2 => by
    rcases getElem?_snoc h3 with e3 | ⟨e3, e3'⟩
    · rcases getElem?_snoc h4 with e4 | ⟨e4, e4'⟩
      · have z1 : n < φ.length := by have := (List.getElem?_eq_some_iff.mp e3).1; rw [r.len]; exact this
        have z2 : m < φ.length := by have := (List.getElem?_eq_some_iff.mp e4).1; rw [r.len]; exact this
        rw [List.getElem?_append_left z1] at h1
        rw [List.getElem?_append_left z2] at h2
        exact r.one n m a o1 u1 h1 h2 e3 e4 l1 l2
      · have z1 : n < φ.length := by have := (List.getElem?_eq_some_iff.mp e3).1; rw [r.len]; exact this
        rw [List.getElem?_append_left z1] at h1
        rw [e4, ← r.len, snoc_last] at h2
        obtain ⟨w, e⟩ := r.out h1 e3 l1
        cases h2
        rw [hp] at e; cases e
    · rcases getElem?_snoc h4 with e4 | ⟨e4, e4'⟩
      · have z2 : m < φ.length := by have := (List.getElem?_eq_some_iff.mp e4).1; rw [r.len]; exact this
        rw [List.getElem?_append_left z2] at h2
        rw [e3, ← r.len, snoc_last] at h1
        obtain ⟨w, e⟩ := r.out h2 e4 l2
        cases h1
        rw [hp] at e; cases e
      · omega
  at_ := fun n a ob1 h1 h2 => by
    rcases getElem?_snoc h2 with e2 | ⟨e2, e2'⟩
    · have z1 : n < φ.length := by have := (List.getElem?_eq_some_iff.mp e2).1; rw [r.len]; exact this
      rw [List.getElem?_append_left z1] at h1
      exact (r.at_ n a ob1 h1 e2).mono (Go.newP r hp) fun _ u e => by rw [upd_ne (ne_of_none e hp)]; exact e
    · rw [e2, ← r.len, snoc_last] at h1
      cases h1
      rw [e2']
      exact h
  res := fun a h => by
    obtain ⟨w, e, nt⟩ := r.res a h
    exact ⟨w, by rw [upd_ne (ne_of_none e hp)]; exact e, nt⟩
  apart := fun n a o1 h1 h2 l => by
    rcases getElem?_snoc h2 with e2 | ⟨e2, e2'⟩
    · have z1 : n < φ.length := by have := (List.getElem?_eq_some_iff.mp e2).1; rw [r.len]; exact this
      rw [List.getElem?_append_left z1] at h1
      exact r.apart n a o1 h1 e2 l
    · rw [e2, ← r.len, snoc_last] at h1
      cases h1
      intro z
      obtain ⟨w, e, _⟩ := r.res _ z
      rw [hp] at e; cases e
  tab := r.tab.ext fun b u e => by rw [upd_ne (ne_of_none e hp)]; exact e
/-- a place of the store is written -/
theorem Sof.set {n : Nat} {ob : Ob} (hn : ∃ o, μ[n]? = some o ∧ o.live = true) {a : Addr} (h : Sof Z φ (μ.set n ob) a) : Sof Z φ μ a := by
  rcases h with h | ⟨m, o, h1, h2, h3⟩
  · exact .inl h
  by_cases e : n = m
  · subst e
    obtain ⟨o', h4, h5⟩ := hn
    exact .inr ⟨n, o', h1, h4, h5⟩
  · rw [List.getElem?_set_ne e] at h2
    exact .inr ⟨m, o, h1, h2, h3⟩
theorem Go.wr (r : Rep G Z φ H μ) {n : Nat} {a : Addr} {o : HO} {ob ob' : Ob} (h1 : φ[n]? = some a) (h2 : μ[n]? = some ob) (h3 : ob.live = true) : Go Z φ μ H φ (μ.set n ob') (upd H a o) :=
  ⟨fun _ _ h => h, ⟨fun b u h hs _ => ⟨by rw [upd_ne (fun e => hs (by rw [e]; exact .inr ⟨n, ob, h1, h2, h3⟩))]; exact h, fun z => hs (Sof.set ⟨ob, h2, h3⟩ z)⟩⟩, fun b hb => by
    rw [upd_ne (fun e => r.apart n a ob h1 h2 h3 (by rw [← e]; exact hb))]⟩
theorem Rep.wr (r : Rep G Z φ H μ) {n : Nat} {a : Addr} {o : HO} {ob ob' : Ob} (h1 : φ[n]? = some a) (h2 : μ[n]? = some ob) (h3 : ob.live = true) (ht : ∀ ps, H a ≠ some (.tbl ps)) (hT : ∀ b, H a ≠ some (LamX.CodeO a b))
    (h : ObR G φ (Sof Z φ (μ.set n ob')) (upd H a o) a ob') : Rep G Z φ (upd H a o) (μ.set n ob') where
  len := by rw [List.length_set]; exact r.len
  one := fun i j b o1 u1 e1 e2 e3 e4 l1 l2 => by
    have back : ∀ {k : Nat} {w : Ob}, (μ.set n ob')[k]? = some w → w.live = true → ∃ w', μ[k]? = some w' ∧ w'.live = true := fun {k w} hk hw => by
      by_cases e : n = k
      · subst e; exact ⟨ob, h2, h3⟩
      · rw [List.getElem?_set_ne e] at hk; exact ⟨w, hk, hw⟩
    obtain ⟨w1, f1, g1⟩ := back e3 l1
    obtain ⟨w2, f2, g2⟩ := back e4 l2
    exact r.one i j b w1 w2 e1 e2 f1 f2 g1 g2
  at_ := fun m b ob1 e1 e2 => by
    by_cases e : n = m
    · subst e
      rw [h1] at e1
      cases e1
      have hn : n < μ.length := (List.getElem?_eq_some_iff.mp h2).1
      rw [List.getElem?_set_self hn] at e2
      cases e2
      exact h
    · rw [List.getElem?_set_ne e] at e2
      refine (r.at_ m b ob1 e1 e2).mono (Go.wr r h1 h2 h3) fun l u hu => ?_
      have ne : b ≠ a := fun z => by
        subst z
        exact e (r.one n m b ob ob1 h1 e1 h2 e2 h3 l)
      rw [upd_ne ne]; exact hu
  res := fun b hb => by
    obtain ⟨w, e, nt⟩ := r.res b hb
    exact ⟨w, by rw [upd_ne (fun e => r.apart n a ob h1 h2 h3 (by rw [← e]; exact hb))]; exact e, nt⟩
  apart := fun m b o1 e1 e2 l => by
    by_cases e : n = m
    · subst e
      exact r.apart n b ob e1 h2 h3
    · rw [List.getElem?_set_ne e] at e2
      exact r.apart m b o1 e1 e2 l
  tab := fun p hp => by
    obtain ⟨ps, a1, a2, a3⟩ := r.tab p hp
    have n1 : p.1 ≠ a := fun z => ht ps (by rw [← z]; exact a1)
    refine ⟨ps, by rw [upd_ne n1]; exact a1, a2, fun pos cv hc => ?_⟩
    obtain ⟨c, e1, e2⟩ := a3 pos cv hc
    refine ⟨c, e1, ?_⟩
    have n2 : c ≠ a := fun z => hT p.2 (by rw [← z]; exact e2)
    rw [upd_ne n2]; exact e2
/-- a place of the store stands still from now on -/
theorem Go.fz {n : Nat} {ob : Ob} {x : D} (h2 : μ[n]? = some ob) : Go Z φ μ H φ (μ.set n (.fz x)) H :=
  ⟨fun _ _ h => h, ⟨fun b u h hs _ => ⟨h, fun z => by
    rcases z with z | ⟨m, o, h1, h3, h4⟩
    · exact hs (.inl z)
    by_cases e : n = m
    · subst e
      have hn : n < μ.length := (List.getElem?_eq_some_iff.mp h2).1
      rw [List.getElem?_set_self hn] at h3
      cases h3
      cases h4
    · rw [List.getElem?_set_ne e] at h3
      exact hs (.inr ⟨m, o, h1, h3, h4⟩)⟩⟩, fun _ _ => rfl⟩
theorem Rep.fz (r : Rep G Z φ H μ) {n : Nat} {a : Addr} {ob : Ob} {x : D} (h1 : φ[n]? = some a) (h2 : μ[n]? = some ob) (h : Rp G (Sof Z φ (μ.set n (.fz x))) H x (.ref a)) : Rep G Z φ H (μ.set n (.fz x)) := by
  have hn : n < μ.length := (List.getElem?_eq_some_iff.mp h2).1
  have back : ∀ {k : Nat} {w : Ob}, (μ.set n (.fz x))[k]? = some w → w.live = true → μ[k]? = some w := fun {k w} hk hw => by
    by_cases e : n = k
    · subst e
      rw [List.getElem?_set_self hn] at hk
      cases hk
      cases hw
    · rw [List.getElem?_set_ne e] at hk; exact hk
  exact {
    len := by rw [List.length_set]; exact r.len
    one := fun i j b o1 u1 e1 e2 e3 e4 l1 l2 => r.one i j b o1 u1 e1 e2 (back e3 l1) (back e4 l2) l1 l2
    at_ := fun m b ob1 e1 e2 => by
      by_cases e : n = m
      · subst e
        rw [h1] at e1
        cases e1
        rw [List.getElem?_set_self hn] at e2
        cases e2
        exact h
      · rw [List.getElem?_set_ne e] at e2
        exact (r.at_ m b ob1 e1 e2).mono (Go.fz h2) fun _ u hu => hu
    res := r.res
    apart := fun m b o1 e1 e2 l => r.apart m b o1 e1 (back e2 l) l
    tab := r.tab }
end

/-! ### freezing -/
def frzLW (f : U → Mu → Option (D × Mu)) : List U → Mu → Option (List D × Mu)
  | [], μ => some ([], μ)
  | u :: us, μ => match f u μ with
    | some (d, μ1) => match frzLW f us μ1 with
      | some (ds, μ2) => some (d :: ds, μ2)
      | none => none
    | none => none
def frzU : Nat → U → Mu → Option (D × Mu)
  | _, .d x, μ => some (x, μ)
  | 0, .p _, _ => none
  | n + 1, .p k, μ => match μ[k]? with
    | some (.fz x) => some (x, μ)
    | some (.lst us) => match frzLW (frzU n) us μ with
      | some (ds, μ1) => some (.lst ds, μ1.set k (.fz (.lst ds)))
      | none => none
    | some (.dic ks us) => match frzLW (frzU n) us μ with
      | some (ds, μ1) => some (.dic ks ds, μ1.set k (.fz (.dic ks ds)))
      | none => none
    | some (.dit ks us) => match frzLW (frzU n) us μ with
      | some (ds, μ1) => some (.dit ks ds, μ1.set k (.fz (.dit ks ds)))
      | none => none
    | some (.ins c ns us) => match frzLW (frzU n) us μ with
      | some (ds, μ1) => some (.obj c ns ds, μ1.set k (.fz (.obj c ns ds)))
      | none => none
    | none => none
/-- places only stop living -/
structure Lv (μ μ' : Mu) : Prop where
  len : μ'.length = μ.length
  lv : ∀ (n : Nat) (o : Ob), μ'[n]? = some o → o.live = true → μ[n]? = some o
theorem Lv.refl (μ : Mu) : Lv μ μ := ⟨rfl, fun _ _ h _ => h⟩
theorem Lv.trans {μ μ1 μ2 : Mu} (a : Lv μ μ1) (b : Lv μ1 μ2) : Lv μ μ2 := ⟨b.len.trans a.len, fun n o h l => a.lv n o (b.lv n o h l) l⟩
theorem Lv.fz {μ : Mu} {n : Nat} {x : D} : Lv μ (μ.set n (.fz x)) := ⟨List.length_set, fun m o h l => by
  by_cases e : n = m
  · subst e
    by_cases hn : n < μ.length
    · rw [List.getElem?_set_self hn] at h
      cases h
      cases l
    · rw [List.getElem?_eq_none (by rw [List.length_set]; omega)] at h
      cases h
  · rw [List.getElem?_set_ne e] at h
    exact h⟩
theorem Lv.has {μ μ1 : Mu} (l : Lv μ μ1) {k : Nat} {ob : Ob} (h : μ[k]? = some ob) : ∃ o1, μ1[k]? = some o1 := by
  have hk : k < μ1.length := by rw [l.len]; exact (List.getElem?_eq_some_iff.mp h).1
  exact ⟨_, List.getElem?_eq_getElem hk⟩
structure Frz (G : Gc) (Z : Addr → Prop) (φ : List Addr) (H : Hp) (μ μ' : Mu) : Prop where
  go : Go Z φ μ H φ μ' H
  rep : Rep G Z φ H μ'
  lv : Lv μ μ'
section
variable {G : Gc} {Z : Addr → Prop} {φ : List Addr} {H : Hp}
theorem frzLW_ok {f : U → Mu → Option (D × Mu)} (hf : ∀ {u : U} {μ μ' : Mu} {d : D} {v : V}, f u μ = some (d, μ') → Rep G Z φ H μ → RpU G φ (Sof Z φ μ) H u v → Frz G Z φ H μ μ' ∧ Rp G (Sof Z φ μ') H d v) :
    ∀ {us : List U} {μ μ' : Mu} {ds : List D} {vs : List V}, frzLW f us μ = some (ds, μ') → Rep G Z φ H μ → RpUs G φ (Sof Z φ μ) H us vs → Frz G Z φ H μ μ' ∧ RpL G (Sof Z φ μ') H ds vs
  | [], μ, μ', ds, vs, h, r, q => by
    cases h
    exact ⟨⟨Go.refl, r, Lv.refl μ⟩, q⟩
  | u :: us, μ, μ', ds, vs, h, r, q => by
    obtain ⟨v, vs', e, q1, q2⟩ := q
    unfold frzLW at h
    split at h
    · rename_i d μ1 hd
      split at h
      · rename_i ds' μ2 hds
        cases h
        obtain ⟨a1, a2⟩ := hf hd r q1
        obtain ⟨b1, b2⟩ := frzLW_ok hf hds a1.rep (q2.mono a1.go)
        exact ⟨⟨a1.go.trans b1.go, b1.rep, a1.lv.trans b1.lv⟩, v, vs', e, Rp.mono b1.go.ex a2, b2⟩
      · cases h
    · cases h
theorem nolive {μ μ1 : Mu} (r : Rep G Z φ H μ) (l : Lv μ μ1) {k : Nat} {a : Addr} {ob : Ob} {x : D} (h1 : φ[k]? = some a) (h2 : μ[k]? = some ob) (h3 : ob.live = true) : ¬ Sof Z φ (μ1.set k (.fz x)) a := fun z => by
  rcases z with z | ⟨m, o, e1, e2, e3⟩
  · exact r.apart k a ob h1 h2 h3 z
  have hk : k < μ1.length := by rw [l.len]; exact (List.getElem?_eq_some_iff.mp h2).1
  by_cases e : k = m
  · subst e
    rw [List.getElem?_set_self hk] at e2
    cases e2
    cases e3
  · rw [List.getElem?_set_ne e] at e2
    exact e (r.one k m a ob o h1 e1 h2 (l.lv m o e2 e3) h3 e3)
theorem frz_close {μ μ1 : Mu} (r : Rep G Z φ H μ) (F : Frz G Z φ H μ μ1) {k : Nat} {a : Addr} {ob : Ob} {x : D} (h1 : φ[k]? = some a) (h2 : μ[k]? = some ob)
    (h : Rp G (Sof Z φ (μ1.set k (.fz x))) H x (.ref a)) : Frz G Z φ H μ (μ1.set k (.fz x)) ∧ Rp G (Sof Z φ (μ1.set k (.fz x))) H x (.ref a) := by
  have hk : k < μ1.length := by rw [F.lv.len]; exact (List.getElem?_eq_some_iff.mp h2).1
  have e : μ1[k]? = some μ1[k] := List.getElem?_eq_getElem hk
  exact ⟨⟨F.go.trans (Go.fz e), F.rep.fz h1 e h, F.lv.trans Lv.fz⟩, h⟩
theorem frzU_ok : ∀ {n : Nat} {u : U} {μ μ' : Mu} {d : D} {v : V}, frzU n u μ = some (d, μ') → Rep G Z φ H μ → RpU G φ (Sof Z φ μ) H u v → Frz G Z φ H μ μ' ∧ Rp G (Sof Z φ μ') H d v
  | n, .d x, μ, μ', d, v, h, r, q => by
    have h' : some (x, μ) = some (d, μ') := by cases n <;> exact h
    cases h'
    exact ⟨⟨Go.refl, r, Lv.refl μ⟩, q⟩
  | 0, .p k, μ, μ', d, v, h, r, q => by cases h
  | n + 1, .p k, μ, μ', d, v, h, r, q => by
    obtain ⟨a, rfl, ha⟩ := q
    unfold frzU at h
    split at h
    · rename_i x hx
      cases h
      exact ⟨⟨Go.refl, r, Lv.refl μ⟩, r.at_ k a _ ha hx⟩
    · rename_i us hx
      split at h
      · rename_i ds μ1 hds
        cases h
        obtain ⟨vs, e, q⟩ := r.at_ k a _ ha hx
        obtain ⟨F, rl⟩ := frzLW_ok (fun hh rr qq => frzU_ok (n := n) hh rr qq) hds r q
        obtain ⟨o1, hk⟩ := F.lv.has hx
        exact frz_close r F ha hx ⟨a, vs, rfl, .inl ⟨nolive r F.lv ha hx rfl, .inl e⟩, RpL.mono (Go.fz hk).ex rl⟩
      · cases h
    · rename_i ks us hx
      split at h
      · rename_i ds μ1 hds
        cases h
        obtain ⟨vs, e, hl, q⟩ := r.at_ k a _ ha hx
        obtain ⟨F, rl⟩ := frzLW_ok (fun hh rr qq => frzU_ok (n := n) hh rr qq) hds r q
        obtain ⟨o1, hk⟩ := F.lv.has hx
        exact frz_close r F ha hx ⟨a, vs, rfl, nolive r F.lv ha hx rfl, .inl e, hl, RpL.mono (Go.fz hk).ex rl⟩
      · cases h
    · rename_i ks us hx
      split at h
      · rename_i ds μ1 hds
        cases h
        obtain ⟨vs, e, hl, q⟩ := r.at_ k a _ ha hx
        obtain ⟨F, rl⟩ := frzLW_ok (fun hh rr qq => frzU_ok (n := n) hh rr qq) hds r q
        obtain ⟨o1, hk⟩ := F.lv.has hx
        exact frz_close r F ha hx ⟨a, vs, rfl, nolive r F.lv ha hx rfl, .inl e, hl, RpL.mono (Go.fz hk).ex rl⟩
      · cases h
    · rename_i c ns us hx
      split at h
      · rename_i ds μ1 hds
        cases h
        obtain ⟨dx, vs, e, hl, q⟩ := r.at_ k a _ ha hx
        obtain ⟨F, rl⟩ := frzLW_ok (fun hh rr qq => frzU_ok (n := n) hh rr qq) hds r q
        obtain ⟨o1, hk⟩ := F.lv.has hx
        exact frz_close r F ha hx ⟨a, dx, vs, rfl, nolive r F.lv ha hx rfl, e, hl, RpL.mono (Go.fz hk).ex rl⟩
      · cases h
    · cases h
/-- a list of such -/
def frzL (us : List U) (μ : Mu) : Option (List D × Mu) := frzLW (frzU 9) us μ
theorem frzL_ok {us : List U} {μ μ' : Mu} {ds : List D} {vs : List V} (h : frzL us μ = some (ds, μ')) (r : Rep G Z φ H μ) (q : RpUs G φ (Sof Z φ μ) H us vs) : Frz G Z φ H μ μ' ∧ RpL G (Sof Z φ μ') H ds vs :=
  frzLW_ok (fun hh rr qq => frzU_ok hh rr qq) h r q
end
theorem frzL_d (ds : List D) (μ : Mu) : frzL (ds.map .d) μ = some (ds, μ) := by
  unfold frzL
  induction ds with
  | nil => rfl
  | cons d ds ih =>
    show (match frzU 9 (.d d) μ with | some (d, μ1) => (match frzLW (frzU 9) (ds.map .d) μ1 with | some (ds, μ2) => some (d :: ds, μ2) | none => none) | none => none) = _
    show (match frzLW (frzU 9) (ds.map .d) μ with | some (ds, μ2) => some (d :: ds, μ2) | none => none) = _
    rw [ih]
end Iv
set_option Elab.async false
set_option linter.all false
set_option maxRecDepth 100000
set_option maxHeartbeats 2000000
set_option autoImplicit false
/-! Iv, part D: displays, statements, targets, what is walked, loops, comprehensions. -/
namespace Iv
open PySem PySem.Spec PyProof.Rows L2

section
variable {G : Gc} {W : WX} {X : Cx} {pos : Pos} {e : Expr} {es : List Expr} {m : Sm U} {ma : Sm (List U)}
/-! ### displays -/
/-- a new tuple of data -/
def oTup (us : List U) (μ : Mu) : Res U := match frzL us μ with
  | some (ds, μ1) => if ds.length ≤ 100000 then .ok (.d (.tup ds)) μ1 else .bad
  | none => .bad
def oLst (us : List U) (μ : Mu) : Res U := match frzL us μ with
  | some (ds, μ1) => if ds.length ≤ 100000 then .ok (.d (.lst ds)) μ1 else .bad
  | none => .bad
/-- a new list that may change -/
def oLstP (us : List U) (μ : Mu) : Res U := if us.length ≤ 100000 then .ok (.p μ.length) (μ ++ [.lst us]) else .bad
theorem sz5 {n : Nat} (h : n ≤ 100000) : n ≤ sizeLine := Nat.le_trans h (by decide)
theorem RpL.length {S : Addr → Prop} {H : Hp} : ∀ {ds : List D} {vs : List V}, RpL G S H ds vs → vs.length = ds.length
  | [], _, h => by rw [show _ = [] from h]; rfl
  | d :: ds, _, ⟨v, r, e, a, b⟩ => by rw [e, List.length_cons, List.length_cons, RpL.length b]
theorem RpUs.length {φ : List Addr} {S : Addr → Prop} {H : Hp} : ∀ {us : List U} {vs : List V}, RpUs G φ S H us vs → vs.length = us.length
  | [], _, h => by rw [show _ = [] from h]; rfl
  | d :: ds, _, ⟨v, r, e, a, b⟩ => by rw [e, List.length_cons, List.length_cons, RpUs.length b]
theorem i_tup {k : Nat} (h : PA X es (rdA G W ma)) : PE X (.Tuple es k pos) (rdE G W (vN oTup ma)) :=
  PE.imp (pe_tup h) fun σ H Q ⟨Z, φ, ρ, μ, sr, po⟩ => by
    refine rd_mono (po_step (R1 := RpUs G) sr po) fun xs H1 ⟨φ1, μ1, us, g1, sr1, rus, po1⟩ => ?_
    unfold oTup at po1
    split at po1
    · rename_i ds μ2 hf
      split at po1
      · rename_i hl
        obtain ⟨F, rl⟩ := frzL_ok hf sr1.rep rus
        refine ⟨sz5 (by rw [rl.length]; exact hl), fun p hp => ?_⟩
        have g2 : Go Z φ1 μ2 H1 φ1 μ2 (upd H1 p (.tup xs)) := Go.newD F.rep hp
        have ns : ¬ Sof Z φ1 μ2 p := fun z => by
          obtain ⟨o, ho⟩ := F.rep.there z
          rw [hp] at ho; cases ho
        exact po1 φ1 _ _ (F.go.trans g2) (F.rep.newD hp) ⟨p, xs, rfl, .inl ⟨ns, .inl upd_same⟩, RpL.mono g2.ex rl⟩
      · exact False.elim po1
    · exact False.elim po1
theorem i_lst (h : PA X es (rdA G W ma)) : PE X (.List es pos) (rdE G W (vN oLst ma)) :=
  PE.imp (pe_lst h) fun σ H Q ⟨Z, φ, ρ, μ, sr, po⟩ => by
    refine rd_mono (po_step (R1 := RpUs G) sr po) fun xs H1 ⟨φ1, μ1, us, g1, sr1, rus, po1⟩ => ?_
    unfold oLst at po1
    split at po1
    · rename_i ds μ2 hf
      split at po1
      · rename_i hl
        obtain ⟨F, rl⟩ := frzL_ok hf sr1.rep rus
        refine ⟨sz5 (by rw [rl.length]; exact hl), fun p hp => ?_⟩
        have g2 : Go Z φ1 μ2 H1 φ1 μ2 (upd H1 p (.lst xs)) := Go.newD F.rep hp
        have ns : ¬ Sof Z φ1 μ2 p := fun z => by
          obtain ⟨o, ho⟩ := F.rep.there z
          rw [hp] at ho; cases ho
        exact po1 φ1 _ _ (F.go.trans g2) (F.rep.newD hp) ⟨p, xs, rfl, .inl ⟨ns, .inl upd_same⟩, RpL.mono g2.ex rl⟩
      · exact False.elim po1
    · exact False.elim po1
theorem i_lstP (h : PA X es (rdA G W ma)) : PE X (.List es pos) (rdE G W (vN oLstP ma)) :=
  PE.imp (pe_lst h) fun σ H Q ⟨Z, φ, ρ, μ, sr, po⟩ => by
    refine rd_mono (po_step (R1 := RpUs G) sr po) fun xs H1 ⟨φ1, μ1, us, g1, sr1, rus, po1⟩ => ?_
    unfold oLstP at po1
    split at po1
    · rename_i hl
      refine ⟨sz5 (by rw [rus.length]; exact hl), fun p hp => ?_⟩
      have g2 : Go Z φ1 μ1 H1 (φ1 ++ [p]) (μ1 ++ [.lst us]) (upd H1 p (.lst xs)) := Go.newP sr1.rep hp
      exact po1 _ _ _ g2 (sr1.rep.newP hp ⟨xs, upd_same, rus.mono g2⟩) ⟨p, rfl, by rw [← sr1.rep.len]; exact snoc_last⟩
    · exact False.elim po1

/-! ### statements -/
def sNil : SmS := fun ρ μ => .nx ρ μ
def sSeq (a b : SmS) : SmS := fun ρ μ => match a ρ μ with
  | .nx ρ1 μ1 => b ρ1 μ1
  | r => r
def sIf (c : Sm Bool) (a b : SmS) : SmS := fun ρ μ => (c ρ μ).thenS ρ fun t μ1 => if t = true then a ρ μ1 else b ρ μ1
def sRet (m : Sm U) : SmS := fun ρ μ => (m ρ μ).thenS ρ fun u μ1 => .ret u μ1
def sRetN : SmS := fun _ μ => .ret (.d .non) μ
def sExpr (m : Sm U) : SmS := fun ρ μ => (m ρ μ).thenS ρ fun _ μ1 => .nx ρ μ1
def sSet (i : Nat) (m : Sm U) : SmS := fun ρ μ => (m ρ μ).thenS ρ fun u μ1 => .nx (ρ.set i (some u)) μ1
def sBrk : SmS := fun ρ μ => .brk ρ μ
def sCt : SmS := fun ρ μ => .ct ρ μ
variable {st : Stmt} {sts : List Stmt} {a b : SmS} {tc : Sm Bool}
theorem i_pnil : PSs X [] (rdS G W sNil) := PSs.imp pss_nil fun D σ H ⟨Z, φ, ρ, μ, sr, po⟩ => po φ H σ Go.refl sr
theorem rdSeq (D : Ends) (σ : L2.St) (H : Hp) (h : rdS G W (sSeq a b) D σ H) : tSeq (rdS G W a) (rdS G W b) D σ H := by
  obtain ⟨Z, φ, ρ, μ, sr, po⟩ := h
  refine ⟨Z, φ, ρ, μ, sr, ?_⟩
  unfold sSeq at po
  cases e : a ρ μ with
  | nx ρ1 μ1 => rw [e] at po; exact fun φ1 H1 σ1 g s => ⟨Z, φ1, ρ1, μ1, s, PoS.go g po⟩
  | ret u μ1 => rw [e] at po; exact po
  | brk ρ1 μ1 => rw [e] at po; exact po
  | ct ρ1 μ1 => rw [e] at po; exact po
  | err c ns vs ρ1 μ1 => rw [e] at po; exact po
  | bad => rw [e] at po; exact po
theorem i_pcons (h1 : PS X st (rdS G W a)) (h2 : PSs X sts (rdS G W b)) : PSs X (st :: sts) (rdS G W (sSeq a b)) := PSs.imp (pss_cons h1 h2) rdSeq
theorem i_pone (h1 : PS X st (rdS G W a)) : PSs X [st] (rdS G W a) := pss_one h1
theorem i_pass : PS X (.Pass pos) (rdS G W sNil) := PS.imp ps_pass fun D σ H ⟨Z, φ, ρ, μ, sr, po⟩ => po φ H σ Go.refl sr
theorem i_brk : PS X (.Break pos) (rdS G W sBrk) := PS.imp ps_break fun D σ H ⟨Z, φ, ρ, μ, sr, po⟩ => po φ H σ Go.refl sr
theorem i_ct : PS X (.Continue pos) (rdS G W sCt) := PS.imp ps_continue fun D σ H ⟨Z, φ, ρ, μ, sr, po⟩ => po φ H σ Go.refl sr
theorem i_if {c : Expr} {ba bb : List Stmt} (hc : PT X c (rdT G W tc)) (ha : PSs X ba (rdS G W a)) (hb : PSs X bb (rdS G W b)) : PS X (.If c ba bb pos) (rdS G W (sIf tc a b)) :=
  PS.imp (ps_if hc ha hb) fun D σ H ⟨Z, φ, ρ, μ, sr, po⟩ => by
    refine rd_mono (pos_step (R1 := RlB) sr po) fun x H1 ⟨φ1, μ1, u, g1, sr1, ru, po1⟩ => ?_
    obtain rfl : u = x := ru
    cases u with
    | true => rw [if_pos rfl] at po1 ⊢; exact ⟨Z, φ1, ρ, μ1, sr1, po1⟩
    | false => rw [if_neg Bool.false_ne_true] at po1 ⊢; exact ⟨Z, φ1, ρ, μ1, sr1, po1⟩
theorem i_ret (he : PE X e (rdE G W m)) : PS X (.Return (some e) pos) (rdS G W (sRet m)) :=
  PS.imp (ps_ret he) fun D σ H ⟨Z, φ, ρ, μ, sr, po⟩ => by
    refine rd_mono (pos_step (R1 := RpU G) sr po) fun x H1 ⟨φ1, μ1, u, g1, sr1, ru, po1⟩ => ?_
    exact po1 φ1 H1 x Go.refl sr1.rep ru
theorem i_retN : PS X (.Return none pos) (rdS G W sRetN) := PS.imp ps_retN fun D σ H ⟨Z, φ, ρ, μ, sr, po⟩ => po φ H .non Go.refl sr.rep rfl
theorem i_expr (he : PE X e (rdE G W m)) (hs : swapsWith e none pos.line X.env = pure false := by rfl) : PS X (.Expr e pos) (rdS G W (sExpr m)) :=
  PS.imp (ps_expr he hs) fun D σ H ⟨Z, φ, ρ, μ, sr, po⟩ => by
    refine rd_mono (pos_step (R1 := RpU G) sr po) fun x H1 ⟨φ1, μ1, u, g1, sr1, ru, po1⟩ => ?_
    exact po1 φ1 H1 σ Go.refl sr1
theorem rdSet {i : Nat} (D : Ends) (σ : L2.St) (H : Hp) (h : rdS G W (sSet i m) D σ H) : tAsg (rdE G W m) (gName i) D σ H := by
  obtain ⟨Z, φ, ρ, μ, sr, po⟩ := h
  refine rd_mono (pos_step (R1 := RpU G) sr po) fun x H1 ⟨φ1, μ1, u, g1, sr1, ru, po1⟩ => ?_
  exact po1 φ1 H1 _ Go.refl ⟨sr1.rep, sr1.sl.put i ru⟩
theorem i_set {i : Nat} {x : Str} {pos' : Pos} (hN : X.N.Nodup) (hi : X.N[i]? = some x) (hx : Loc X.env.scope x) (he : PE X e (rdE G W m)) (hs : swapsWith e (some (.Name x pos')) pos.line X.env = pure false := by rfl) (hf : X.fn x = true ∨ X.env.scope.names.lookup x = some .local := by first | exact .inl rfl | exact .inr rfl | assumption) :
    PS X (.Assign [.Name x pos'] e pos) (rdS G W (sSet i m)) := PS.imp (ps_set hN hi hx he hs hf) rdSet
end

/-! ### targets -/
inductive Tg where
  | nm (i : Nat) | tp (l : List Tg)
/-- what is unpacked -/
def U.parts : U → Option (List U)
  | .d (.tup ds) => some (ds.map .d)
  | _ => none
mutual
def tgG (K : PySem.W.Frag) : Tg → TG
  | .nm i => gName i
  | .tp l => gTup K l.length (tgGs K l)
def tgGs (K : PySem.W.Frag) : List Tg → TGs
  | [] => gNil
  | t :: r => gCons (tgG K t) (tgGs K r)
end
mutual
def tgM : Tg → U → Rho → Option Rho
  | .nm i, u, ρ => some (ρ.set i (some u))
  | .tp l, u, ρ => match u.parts with
    | some us => tgMs l us ρ
    | none => none
def tgMs : List Tg → List U → Rho → Option Rho
  | [], [], ρ => some ρ
  | t :: r, u :: us, ρ => match tgM t u ρ with
    | some ρ1 => tgMs r us ρ1
    | none => none
  | _, _, _ => none
end
mutual
def Tg.slots : Tg → List Nat
  | .nm i => [i]
  | .tp l => Tg.slotsL l
def Tg.slotsL : List Tg → List Nat
  | [] => []
  | t :: r => t.slots ++ Tg.slotsL r
end
theorem wipe_set {x : Option V} {i : Nat} : ∀ {vs : List Nat} {σ : L2.St}, i ∈ vs → wipe (σ.set i x) vs = wipe σ vs
  | v :: vs, σ, h => by
    show (wipe (σ.set i x) vs).set v none = (wipe σ vs).set v none
    by_cases hi : i ∈ vs
    · rw [wipe_set hi]
    · have e : i = v := (List.mem_cons.mp h).elim id fun z => absurd z hi
      subst e
      have k : ∀ (ws : List Nat) (τ : L2.St), i ∉ ws → wipe (τ.set i x) ws = (wipe τ ws).set i x := by
        intro ws
        induction ws with
        | nil => intro τ _; rfl
        | cons w ws ih =>
          intro τ hw
          show (wipe (τ.set i x) ws).set w none = ((wipe τ ws).set w none).set i x
          rw [ih τ fun z => hw (List.mem_cons_of_mem _ z)]
          exact List.set_comm _ _ (fun z => hw (by rw [z]; exact List.mem_cons_self))
      rw [k vs σ hi, List.set_set]
section
variable {G : Gc} {Z : Addr → Prop} {φ : List Addr} {H : Hp} {μ : Mu}
theorem RpL.us {S : Addr → Prop} : ∀ {ds : List D} {vs : List V}, RpL G S H ds vs → RpUs G φ S H (ds.map .d) vs
  | [], _, h => h
  | d :: ds, _, ⟨v, r, e, a, b⟩ => ⟨v, r, e, a, RpL.us b⟩
mutual
theorem tg_ok : ∀ {t : Tg} {u : U} {ρ ρ' : Rho} {σ : L2.St} {v : V} {Q : L2.St → Hp → Prop}, tgM t u ρ = some ρ' → SR G Z φ H μ ρ σ → RpU G φ (Sof Z φ μ) H u v →
    (∀ σ', SR G Z φ H μ ρ' σ' → (∀ ws : List Nat, (∀ i ∈ t.slots, i ∈ ws) → wipe σ' ws = wipe σ ws) → Q σ' H) → tgG G.K t v σ H Q
  | .nm i, u, ρ, ρ', σ, v, Q, h, sr, ru, k => by
    cases h
    exact k _ ⟨sr.rep, sr.sl.put i ru⟩ fun ws hw => wipe_set (hw i (List.mem_singleton.mpr rfl))
  | .tp l, u, ρ, ρ', σ, v, Q, h, sr, ru, k => by
    unfold tgM at h
    cases u with
    | p n => cases h
    | d x =>
      cases x with
      | tup ds =>
        have h' : tgMs l (ds.map .d) ρ = some ρ' := h
        obtain ⟨a, vs, e, e2, e3⟩ := ru
        refine ⟨a, vs, e, e2.sq, ?_, tgs_ok h' sr e3.us fun σ' s' hw => k σ' s' hw⟩
        rw [e3.length]
        have len : ∀ (l : List Tg) (us : List U) (ρ ρ' : Rho), tgMs l us ρ = some ρ' → us.length = l.length := by
          intro l
          induction l with
          | nil => intro us ρ ρ' h; cases us with
            | nil => rfl
            | cons u us => cases h
          | cons t r ih => intro us ρ ρ' h; cases us with
            | nil => cases h
            | cons u us =>
              unfold tgMs at h
              split at h
              · rw [List.length_cons, List.length_cons, ih _ _ _ h]
              · cases h
        have := len _ _ _ _ h'
        rw [List.length_map] at this
        exact this
      | _ => cases h
theorem tgs_ok : ∀ {l : List Tg} {us : List U} {ρ ρ' : Rho} {σ : L2.St} {vs : List V} {Q : L2.St → Hp → Prop}, tgMs l us ρ = some ρ' → SR G Z φ H μ ρ σ → RpUs G φ (Sof Z φ μ) H us vs →
    (∀ σ', SR G Z φ H μ ρ' σ' → (∀ ws : List Nat, (∀ i ∈ Tg.slotsL l, i ∈ ws) → wipe σ' ws = wipe σ ws) → Q σ' H) → tgGs G.K l vs σ H Q
  | [], [], ρ, ρ', σ, vs, Q, h, sr, ru, k => by
    cases h
    exact ⟨ru, k σ sr fun _ _ => rfl⟩
  | [], u :: us, ρ, ρ', σ, vs, Q, h, sr, ru, k => by cases h
  | t :: r, [], ρ, ρ', σ, vs, Q, h, sr, ru, k => by cases h
  | t :: r, u :: us, ρ, ρ', σ, vs, Q, h, sr, ru, k => by
    obtain ⟨v, vs', e, r1, r2⟩ := ru
    unfold tgMs at h
    split at h
    · rename_i ρ1 h1
      refine ⟨v, vs', e, tg_ok h1 sr r1 fun σ1 s1 w1 => tgs_ok h s1 r2 fun σ2 s2 w2 => k σ2 s2 fun ws hw => ?_⟩
      rw [w2 ws fun i hi => hw i (List.mem_append_right _ hi), w1 ws fun i hi => hw i (List.mem_append_left _ hi)]
    · cases h
end
end
/-- target = value -/
def sAsg (t : Tg) (m : Sm U) : SmS := fun ρ μ => (m ρ μ).thenS ρ fun u μ1 => match tgM t u ρ with
  | some ρ1 => .nx ρ1 μ1
  | none => .bad
/-- a, b = x, y by way of a tuple -/
def sAsgs (l : List Tg) (m : Sm (List U)) : SmS := fun ρ μ => (m ρ μ).thenS ρ fun us μ1 => if us.length ≤ 100000 then (match tgMs l us ρ with
  | some ρ1 => .nx ρ1 μ1
  | none => .bad) else .bad
def sPar (i j : Nat) (m : Sm (List U)) : SmS := fun ρ μ => (m ρ μ).thenS ρ fun us μ1 => match us with
  | [u, w] => .nx ((ρ.set i (some u)).set j (some w)) μ1
  | _ => .bad
section
variable {G : Gc} {W : WX} {X : Cx} {pos : Pos} {e tg : Expr} {es : List Expr} {m : Sm U} {ma : Sm (List U)}
theorem i_gnm {K : PySem.W.Frag} {i : Nat} {x : Str} (hN : X.N.Nodup) (hi : X.N[i]? = some x) (hx : Loc X.env.scope x) (hf : X.fn x = true ∨ X.env.scope.names.lookup x = some .local := by first | exact .inl rfl | exact .inr rfl | assumption) : PG X (.Name x pos) (tgG K (.nm i)) := pg_name hN hi hx hf
theorem i_gs0 {K : PySem.W.Frag} : PGs X [] (tgGs K []) := pgs_nil
theorem i_gs {K : PySem.W.Frag} {t : Tg} {l : List Tg} (h1 : PG X e (tgG K t)) (h2 : PGs X es (tgGs K l)) (hs : (assignEach (e :: es) X.env).map (·.2) = assign e X.env :: (assignEach es X.env).map (·.2) := by rfl) : PGs X (e :: es) (tgGs K (t :: l)) := pgs_cons h1 h2 hs
theorem i_gtp {k : Nat} {l : List Tg} (hc : X.calm = true) (h : PGs X es (tgGs X.K l)) (hn : (assignEach es X.env).length = l.length := by rfl) (hst : (assignEach es X.env).findIdx? (·.1) = none := by rfl) : PG X (.Tuple es k pos) (tgG X.K (.tp l)) := pg_tup hc h hn hst
theorem i_asg {t : Tg} (hK : G.K = X.K) (he : PE X e (rdE G W m)) (hg : PG X tg (tgG X.K t)) (hs : swapsWithSole [tg] e pos.line X.env = pure false := by rfl) (hw : swappedStores [tg] e X.env = pure none := by rfl)
    (h1 : (assignEach [tg] X.env).map (·.2) = [assign tg X.env] := by rfl) : PS X (.Assign [tg] e pos) (rdS G W (sAsg t m)) :=
  PS.imp (ps_asg he hg hs hw h1) fun D σ H ⟨Z, φ, ρ, μ, sr, po⟩ => by
    refine rd_mono (pos_step (R1 := RpU G) sr po) fun x H1 ⟨φ1, μ1, u, g1, sr1, ru, po1⟩ => ?_
    split at po1
    · rename_i ρ1 h
      rw [← hK]
      exact tg_ok h sr1 ru fun σ' s' _ => po1 φ1 H1 σ' Go.refl s'
    · exact False.elim po1
theorem i_asgs {l : List Tg} {k1 k2 : Nat} {p1 p2 : Pos} {ts : List Expr} (hK : G.K = X.K) (he : PA X es (rdA G W ma)) (hg : PG X (.Tuple ts k1 p1) (tgG X.K (.tp l)))
    (hs : swapsWithSole [.Tuple ts k1 p1] (.Tuple es k2 p2) pos.line X.env = pure false := by rfl) (hw : swappedStores [.Tuple ts k1 p1] (.Tuple es k2 p2) X.env = pure none := by rfl)
    (h1 : (assignEach [.Tuple ts k1 p1] X.env).map (·.2) = [assign (.Tuple ts k1 p1) X.env] := by rfl) : PS X (.Assign [.Tuple ts k1 p1] (.Tuple es k2 p2) pos) (rdS G W (sAsgs l ma)) :=
  PS.imp (ps_asg (pe_tup he) hg hs hw h1) fun D σ H ⟨Z, φ, ρ, μ, sr, po⟩ => by
    refine rd_mono (pos_step (R1 := RpUs G) sr po) fun xs H1 ⟨φ1, μ1, us, g1, sr1, rus, po1⟩ => ?_
    split at po1
    · rename_i hl
      split at po1
      · rename_i ρ1 h
        refine ⟨sz5 (by rw [rus.length]; exact hl), fun p hp => ?_⟩
        have g2 : Go Z φ1 μ1 H1 φ1 μ1 (upd H1 p (.tup xs)) := Go.newD sr1.rep hp
        have sr2 := sr1.go g2 (sr1.rep.newD hp)
        have len : us.length = l.length := by
          have len : ∀ (l : List Tg) (us : List U) (ρ ρ' : Rho), tgMs l us ρ = some ρ' → us.length = l.length := by
            intro l
            induction l with
            | nil => intro us ρ ρ' h; cases us with
              | nil => rfl
              | cons u us => cases h
            | cons t r ih => intro us ρ ρ' h; cases us with
              | nil => cases h
              | cons u us =>
                unfold tgMs at h
                split at h
                · rw [List.length_cons, List.length_cons, ih _ _ _ h]
                · cases h
          exact len _ _ _ _ h
        refine ⟨p, xs, rfl, .inl (.inl upd_same), by rw [rus.length]; exact len, ?_⟩
        rw [← hK]
        exact tgs_ok h sr2 (rus.mono g2) fun σ' s' _ => po1 φ1 _ σ' g2 s'
      · exact False.elim po1
    · exact False.elim po1
theorem i_par {i j : Nat} {x y : Str} {a b : Expr} {px py pt : Pos} {kt k2 : Nat} {pt2 : Pos} (hc : X.calm = true) (hN : X.N.Nodup) (hi : X.N[i]? = some x) (hj : X.N[j]? = some y) (hij : i ≠ j)
    (hx : X.env.scope.names.lookup x = some .local) (hy : X.env.scope.names.lookup y = some .local) (ha : PA X [a, b] (rdA G W ma))
    (hw : swappedStores [.Tuple [.Name x px, .Name y py] kt pt] (.Tuple [a, b] k2 pt2) X.env = pure (some [x, y]))
    (hs : swapsWithSole [.Tuple [.Name x px, .Name y py] kt pt] (.Tuple [a, b] k2 pt2) pos.line X.env = pure false := by rfl) :
    PS X (.Assign [.Tuple [.Name x px, .Name y py] kt pt] (.Tuple [a, b] k2 pt2) pos) (rdS G W (sPar i j ma)) :=
  PS.imp (ps_par hc hN hi hj hij hx hy ha hw hs) fun D σ H ⟨Z, φ, ρ, μ, sr, po⟩ => by
    refine rd_mono (pos_step (R1 := RpUs G) sr po) fun xs H1 ⟨φ1, μ1, us, g1, sr1, rus, po1⟩ => ?_
    split at po1
    · rename_i u w
      obtain ⟨v, r, e, q1, v2, r2, e2, q2, e3⟩ := rus
      subst e; subst e2
      rw [show r2 = [] from e3]
      exact ⟨v, v2, rfl, po1 φ1 H1 _ Go.refl ⟨sr1.rep, (sr1.sl.put i q1).put j q2⟩⟩
    · exact False.elim po1
end

/-! ### what is walked -/
/-- at turn i: an item, or the end, or nothing is known -/
abbrev Nxt := Nat → Mu → Option (Option U)
structure Wk (G : Gc) (J : It) (nxt : Nxt) (Src : List Addr → (Addr → Prop) → Hp → Prop) : Prop where
  mono : ∀ {φ φ' : List Addr} {S S' : Addr → Prop} {H H' : Hp}, (∀ (n : Nat) (a : Addr), φ[n]? = some a → φ'[n]? = some a) → Ex S H S' H' → Src φ S H → Src φ' S' H'
  go : ∀ {Z : Addr → Prop} {φ : List Addr} {μ : Mu} {H : Hp} {i : Nat} {u : U}, Rep G Z φ H μ → Src φ (Sof Z φ μ) H → nxt i μ = some (some u) → J.go i H
  stop : ∀ {Z : Addr → Prop} {φ : List Addr} {μ : Mu} {H : Hp} {i : Nat}, Rep G Z φ H μ → Src φ (Sof Z φ μ) H → nxt i μ = some none → J.stop i H
  yld : ∀ {Z : Addr → Prop} {φ : List Addr} {μ : Mu} {H H' : Hp} {i : Nat} {u : U} {x : V}, Rep G Z φ H μ → Src φ (Sof Z φ μ) H → nxt i μ = some (some u) → J.yld i H x H' → Go Z φ μ H φ μ H' ∧ Rep G Z φ H' μ ∧ RpU G φ (Sof Z φ μ) H' u x
/-- a walk begins: how many turns at most, the items -/
structure Wlk where
  fuel : Nat
  nxt : Nxt
def PoI (G : Gc) (Z : Addr → Prop) (W : WX) (φ : List Addr) (μ : Mu) (H : Hp) (σ : L2.St) (r : Res Wlk) (R : It → Hp → Prop) : Prop := match r with
  | .ok w μ' => ∀ (φ' : List Addr) (H' : Hp) (J : It) (Src : List Addr → (Addr → Prop) → Hp → Prop), Go Z φ μ H φ' μ' H' → Rep G Z φ' H' μ' → Wk G J w.nxt Src → Src φ' (Sof Z φ' μ') H' → R J H'
  | .err c ns vs μ' => ∀ (φ' : List Addr) (H' : Hp) (cls : Value) (dx : Option Addr), Go Z φ μ H φ' μ' H' → Rep G Z φ' H' μ' → ErrR G (Sof Z φ' μ') H' c ns vs cls dx → W cls dx σ H'
  | .bad => False
def rdI (G : Gc) (W : WX) (m : Sm Wlk) : TI := fun σ H R => ∃ Z φ ρ μ, SR G Z φ H μ ρ σ ∧ PoI G Z W φ μ H σ (m ρ μ) R
theorem PoI.go {G : Gc} {Z : Addr → Prop} {W : WX} {φ φ' : List Addr} {μ μ' : Mu} {H H' : Hp} {σ : L2.St} {r : Res Wlk} {R : It → Hp → Prop} (g : Go Z φ μ H φ' μ' H') (h : PoI G Z W φ μ H σ r R) : PoI G Z W φ' μ' H' σ r R := by
  cases r with
  | ok a μ2 => exact fun φ2 H2 J Src g2 => h φ2 H2 J Src (g.trans g2)
  | err c ns vs μ2 => exact fun φ2 H2 cls dx g2 => h φ2 H2 cls dx (g.trans g2)
  | bad => exact h
theorem pi_step {G : Gc} {Z : Addr → Prop} {W : WX} {φ : List Addr} {μ : Mu} {ρ : Rho} {H : Hp} {σ : L2.St} {α β : Type} {R1 : Rl α β} {m : Sm α} {f : α → Mu → Res Wlk} {R : It → Hp → Prop} (sr : SR G Z φ H μ ρ σ) (po : PoI G Z W φ μ H σ ((m ρ μ).bind f) R) :
    rd R1 G W m σ H (fun b H1 => ∃ φ1 μ1 a, Go Z φ μ H φ1 μ1 H1 ∧ SR G Z φ1 H1 μ1 ρ σ ∧ R1 φ1 (Sof Z φ1 μ1) H1 a b ∧ PoI G Z W φ1 μ1 H1 σ (f a μ1) R) := by
  refine ⟨Z, φ, ρ, μ, sr, ?_⟩
  cases e : m ρ μ with
  | ok a μ1 =>
    rw [e] at po
    exact fun φ1 H1 b g r rr => ⟨φ1, μ1, a, g, sr.go g r, rr, PoI.go g po⟩
  | err c ns vs μ1 => rw [e] at po; exact po
  | bad => rw [e] at po; exact po
/-- the items of data that stands still -/
def itemsD : D → Option (List D)
  | .lst ds => some ds
  | .tup ds => some ds
  | .str x => some (x.cps.toList.map fun c => .str ⟨#[c]⟩)
  | _ => none
def wkD (ds : List D) : Wlk := ⟨ds.length + 1, fun i _ => some ((ds[i]?).map .d)⟩
/-- over a value: a list, a tuple, a text; a list that may change as it stands at each turn -/
def wSeq (m : Sm U) : Sm Wlk := fun ρ μ => (m ρ μ).bind fun u μ1 => match u with
  | .d x => match itemsD x with
    | some ds => .ok (wkD ds) μ1
    | none => .bad
  | .p n => match μ1[n]? with
    | some (.lst us) => .ok ⟨100001, fun i μ => match μ[n]? with
        | some (.lst us) => some us[i]?
        | some (.fz (.lst ds)) => some ((ds[i]?).map .d)
        | _ => none⟩ μ1
    | some (.fz x) => match itemsD x with
      | some ds => .ok (wkD ds) μ1
      | none => .bad
    | _ => .bad
theorem PI.or {X : Cx} {tg iter : Expr} {w1 w2 : TI} (h1 : PI X tg iter w1) (h2 : PI X tg iter w2) : PI X tg iter (fun σ H R => w1 σ H R ∨ w2 σ H R) :=
  ⟨fun pins s σ H R I h => h.elim (h1.run pins s σ H R I) (h2.run pins s σ H R I)⟩
theorem PI.imp {X : Cx} {tg iter : Expr} {w w' : TI} (h : PI X tg iter w) (k : ∀ σ H R, w' σ H R → w σ H R) : PI X tg iter w' := ⟨fun pins s σ H R I q => h.run pins s σ H R I (k σ H R q)⟩
theorem RpL.get {G : Gc} {S : Addr → Prop} {H : Hp} : ∀ {ds : List D} {vs : List V} {i : Nat} {d : D}, RpL G S H ds vs → ds[i]? = some d → ∃ v, vs[i]? = some v ∧ Rp G S H d v
  | d :: ds, _, 0, x, ⟨v, r, e, a, b⟩, h => by
    cases h; subst e
    exact ⟨v, rfl, a⟩
  | d :: ds, _, i + 1, x, ⟨v, r, e, a, b⟩, h => by
    subst e
    exact RpL.get (i := i) b h
theorem RpUs.get {G : Gc} {φ : List Addr} {S : Addr → Prop} {H : Hp} : ∀ {us : List U} {vs : List V} {i : Nat} {u : U}, RpUs G φ S H us vs → us[i]? = some u → ∃ v, vs[i]? = some v ∧ RpU G φ S H u v
  | d :: ds, _, 0, x, ⟨v, r, e, a, b⟩, h => by
    cases h; subst e
    exact ⟨v, rfl, a⟩
  | d :: ds, _, i + 1, x, ⟨v, r, e, a, b⟩, h => by
    subst e
    exact RpUs.get (i := i) b h
theorem opt_map_some {α β : Type} {f : α → β} {o : Option α} {y : β} (h : some (o.map f) = some (some y)) : ∃ x, o = some x ∧ f x = y := by
  cases o with
  | none => cases h
  | some x => exact ⟨x, rfl, Option.some.inj (Option.some.inj h)⟩
theorem opt_map_none {α β : Type} {f : α → β} {o : Option α} (h : some (o.map f) = some none) : o = none := by
  cases o with
  | none => rfl
  | some x => cases h
section
variable {G : Gc}
theorem wk_lst {ds : List D} {a : Addr} : Wk G (Itl G.K a) (wkD ds).nxt (fun _ S H => Rp G S H (.lst ds) (.ref a)) where
  mono := fun _ e h => Rp.mono e h
  go := fun {Z φ μ H i u} r ⟨b, vs, e, l, q⟩ h => by
    cases e
    obtain ⟨d, hd, rfl⟩ := opt_map_some h
    obtain ⟨v, hv, rv⟩ := q.get hd
    exact ⟨vs, v, l.sq, hv⟩
  stop := fun {Z φ μ H i} r ⟨b, vs, e, l, q⟩ h => by
    cases e
    have hn := List.getElem?_eq_none_iff.mp (opt_map_none h)
    exact ⟨vs, l.sq, by rw [q.length]; exact hn⟩
  yld := fun {Z φ μ H H' i u x} r ⟨b, vs, e, l, q⟩ h y => by
    cases e
    obtain ⟨d, hd, rfl⟩ := opt_map_some h
    obtain ⟨v, hv, rv⟩ := q.get hd
    obtain ⟨rfl, y2⟩ := y
    have e2 := (y2 vs l.sq).symm.trans hv
    cases e2
    exact ⟨Go.refl, r, rv⟩
theorem wk_tup {ds : List D} {a : Addr} : Wk G (Itt G.K a) (wkD ds).nxt (fun _ S H => Rp G S H (.tup ds) (.ref a)) where
  mono := fun _ e h => Rp.mono e h
  go := fun {Z φ μ H i u} r ⟨b, vs, e, l, q⟩ h => by
    cases e
    obtain ⟨d, hd, rfl⟩ := opt_map_some h
    obtain ⟨v, hv, rv⟩ := q.get hd
    exact ⟨vs, v, l.sq, hv⟩
  stop := fun {Z φ μ H i} r ⟨b, vs, e, l, q⟩ h => by
    cases e
    have hn := List.getElem?_eq_none_iff.mp (opt_map_none h)
    exact ⟨vs, l.sq, by rw [q.length]; exact hn⟩
  yld := fun {Z φ μ H H' i u x} r ⟨b, vs, e, l, q⟩ h y => by
    cases e
    obtain ⟨d, hd, rfl⟩ := opt_map_some h
    obtain ⟨v, hv, rv⟩ := q.get hd
    obtain ⟨rfl, y2⟩ := y
    have e2 := (y2 vs l.sq).symm.trans hv
    cases e2
    exact ⟨Go.refl, r, rv⟩
theorem wk_str {x : Str} : Wk G (Its x) (wkD (x.cps.toList.map fun c => D.str ⟨#[c]⟩)).nxt (fun _ _ _ => True) where
  mono := fun _ _ _ => True.intro
  go := fun {Z φ μ H i u} r _ h => by
    obtain ⟨d, hd, rfl⟩ := opt_map_some h
    have := (List.getElem?_eq_some_iff.mp hd).1
    rw [List.length_map] at this
    show i < x.cps.size
    simpa using this
  stop := fun {Z φ μ H i} r _ h => by
    have := List.getElem?_eq_none_iff.mp (opt_map_none h)
    rw [List.length_map] at this
    show x.cps.size ≤ i
    simpa using this
  yld := fun {Z φ μ H H' i u y} r _ h q => by
    obtain ⟨d, hd, rfl⟩ := opt_map_some h
    obtain ⟨rfl, c, hc, rfl⟩ := q
    rw [List.getElem?_map] at hd
    have hc' : x.cps.toList[i]? = some c := by simpa using hc
    rw [hc'] at hd
    cases hd
    exact ⟨Go.refl, r, rfl⟩
theorem wk_live {n : Nat} {a : Addr} : Wk G (Itl G.K a) (fun i μ => match μ[n]? with
        | some (.lst us) => some us[i]?
        | some (.fz (.lst ds)) => some ((ds[i]?).map .d)
        | _ => none) (fun φ _ _ => φ[n]? = some a) where
  mono := fun p _ h => p n a h
  go := fun {Z φ μ H i u} r s h => by
    split at h
    · rename_i us hu
      obtain ⟨vs, e, q⟩ := r.at_ n a _ s hu
      have h' : us[i]? = some u := Option.some.inj h
      obtain ⟨v, hv, rv⟩ := q.get h'
      exact ⟨vs, v, SqL.of e, hv⟩
    · rename_i ds hu
      obtain ⟨b, vs, e, l, q⟩ := (show Rp G (Sof Z φ μ) H (.lst ds) (.ref a) from r.at_ n a _ s hu)
      cases e
      obtain ⟨d, hd, rfl⟩ := opt_map_some h
      obtain ⟨v, hv, rv⟩ := q.get hd
      exact ⟨vs, v, l.sq, hv⟩
    · cases h
  stop := fun {Z φ μ H i} r s h => by
    split at h
    · rename_i us hu
      obtain ⟨vs, e, q⟩ := r.at_ n a _ s hu
      have h' : us[i]? = none := Option.some.inj h
      exact ⟨vs, SqL.of e, by rw [q.length]; exact List.getElem?_eq_none_iff.mp h'⟩
    · rename_i ds hu
      obtain ⟨b, vs, e, l, q⟩ := (show Rp G (Sof Z φ μ) H (.lst ds) (.ref a) from r.at_ n a _ s hu)
      cases e
      exact ⟨vs, l.sq, by rw [q.length]; exact List.getElem?_eq_none_iff.mp (opt_map_none h)⟩
    · cases h
  yld := fun {Z φ μ H H' i u x} r s h y => by
    obtain ⟨rfl, y2⟩ := y
    split at h
    · rename_i us hu
      obtain ⟨vs, e, q⟩ := r.at_ n a _ s hu
      have h' : us[i]? = some u := Option.some.inj h
      obtain ⟨v, hv, rv⟩ := q.get h'
      have e2 := (y2 vs (SqL.of e)).symm.trans hv
      cases e2
      exact ⟨Go.refl, r, rv⟩
    · rename_i ds hu
      obtain ⟨b, vs, e, l, q⟩ := (show Rp G (Sof Z φ μ) H' (.lst ds) (.ref a) from r.at_ n a _ s hu)
      cases e
      obtain ⟨d, hd, rfl⟩ := opt_map_some h
      obtain ⟨v, hv, rv⟩ := q.get hd
      have e2 := (y2 vs l.sq).symm.trans hv
      cases e2
      exact ⟨Go.refl, r, rv⟩
    · cases h
end
end Iv
set_option Elab.async false
set_option linter.all false
set_option maxRecDepth 100000
set_option maxHeartbeats 2000000
set_option autoImplicit false
/-! Iv, part E: walks begin; for; while; list comprehensions. -/
namespace Iv
open PySem PySem.Spec PyProof.Rows L2

section
variable {G : Gc} {W : WX} {X : Cx} {pos : Pos} {e tg : Expr} {m : Sm U}
theorem i_wseq (hK : G.K = X.K) (he : PE X e (rdE G W m)) : PI X tg e (rdI G W (wSeq m)) :=
  PI.imp (PI.or (pi_list he) (PI.or (pi_tup he) (pi_str he))) fun σ H R ⟨Z, φ, ρ, μ, sr, po⟩ => by
    unfold wSeq at po
    cases hm : m ρ μ with
    | bad => rw [hm] at po; exact False.elim po
    | err c ns vs μ1 =>
      rw [hm] at po
      exact .inl ⟨Z, φ, ρ, μ, sr, by rw [hm]; exact po⟩
    | ok u μ1 =>
      rw [hm] at po
      have lst : ∀ (ds : List D), (∀ (φ' : List Addr) (H' : Hp) (b : V), Rep G Z φ' H' μ1 → RpU G φ' (Sof Z φ' μ1) H' u b → Rp G (Sof Z φ' μ1) H' (.lst ds) b) →
          (∀ (φ' : List Addr) (H' : Hp) (J : It) (Src : List Addr → (Addr → Prop) → Hp → Prop), Go Z φ μ H φ' μ1 H' → Rep G Z φ' H' μ1 → Wk G J (wkD ds).nxt Src → Src φ' (Sof Z φ' μ1) H' → R J H') → iList X.K (rdE G W m) σ H R := fun ds k po => by
        refine ⟨Z, φ, ρ, μ, sr, ?_⟩
        rw [hm]
        intro φ' H' b g r ru
        obtain ⟨a, vs, e, l, q⟩ := k φ' H' b r ru
        subst e
        exact ⟨a, rfl, ⟨vs, by rw [← hK]; exact l.sq⟩, by rw [← hK]; exact po φ' H' _ _ g r wk_lst ⟨a, vs, rfl, l, q⟩⟩
      have tup : ∀ (ds : List D), (∀ (φ' : List Addr) (H' : Hp) (b : V), Rep G Z φ' H' μ1 → RpU G φ' (Sof Z φ' μ1) H' u b → Rp G (Sof Z φ' μ1) H' (.tup ds) b) →
          (∀ (φ' : List Addr) (H' : Hp) (J : It) (Src : List Addr → (Addr → Prop) → Hp → Prop), Go Z φ μ H φ' μ1 H' → Rep G Z φ' H' μ1 → Wk G J (wkD ds).nxt Src → Src φ' (Sof Z φ' μ1) H' → R J H') → iTup X.K (rdE G W m) σ H R := fun ds k po => by
        refine ⟨Z, φ, ρ, μ, sr, ?_⟩
        rw [hm]
        intro φ' H' b g r ru
        obtain ⟨a, vs, e, l, q⟩ := k φ' H' b r ru
        subst e
        exact ⟨a, rfl, ⟨vs, by rw [← hK]; exact l.sq⟩, by rw [← hK]; exact po φ' H' _ _ g r wk_tup ⟨a, vs, rfl, l, q⟩⟩
      cases u with
      | d x =>
        cases x with
        | lst ds => exact .inl (lst ds (fun _ _ _ _ h => h) po)
        | tup ds => exact .inr (.inl (tup ds (fun _ _ _ _ h => h) po))
        | str x =>
          refine .inr (.inr ⟨Z, φ, ρ, μ, sr, ?_⟩)
          rw [hm]
          intro φ' H' b g r ru
          exact ⟨x, ru, po φ' H' _ _ g r wk_str True.intro⟩
        | _ => exact False.elim po
      | p n =>
        cases ho : μ1[n]? with
        | none => simp only [ho, Res.bind] at po; exact False.elim po
        | some ob =>
          cases ob with
          | fz x =>
            have at_ : ∀ (φ' : List Addr) (H' : Hp) (b : V), Rep G Z φ' H' μ1 → RpU G φ' (Sof Z φ' μ1) H' (.p n) b → Rp G (Sof Z φ' μ1) H' x b := fun φ' H' b r ru => by
              obtain ⟨a, rfl, ha⟩ := ru
              exact r.at_ n a _ ha ho
            cases x with
            | lst ds => simp only [ho, Res.bind, itemsD] at po; exact .inl (lst ds at_ po)
            | tup ds => simp only [ho, Res.bind, itemsD] at po; exact .inr (.inl (tup ds at_ po))
            | str x =>
              simp only [ho, Res.bind, itemsD] at po
              refine .inr (.inr ⟨Z, φ, ρ, μ, sr, ?_⟩)
              rw [hm]
              intro φ' H' b g r ru
              exact ⟨x, at_ φ' H' b r ru, po φ' H' _ _ g r wk_str True.intro⟩
            | _ => simp only [ho, Res.bind, itemsD] at po; exact False.elim po
          | lst us =>
            simp only [ho, Res.bind] at po
            refine .inl ⟨Z, φ, ρ, μ, sr, ?_⟩
            rw [hm]
            intro φ' H' b g r ru
            obtain ⟨a, rfl, ha⟩ := ru
            obtain ⟨vs, e1, _⟩ := r.at_ n a _ ha ho
            exact ⟨a, rfl, ⟨vs, SqL.of e1⟩, by rw [← hK]; exact po φ' H' _ _ g r wk_live ha⟩
          | _ => simp only [ho, Res.bind] at po; exact False.elim po
/-- range(n), range(a, b) -/
def rngW (lo : Int) (n : Nat) : Wlk := ⟨n + 1, fun i _ => some (if i < n then some (.d (.int (lo + (i : Nat)))) else none)⟩
def wRng1 (m : Sm (List U)) : Sm Wlk := fun ρ μ => (m ρ μ).bind fun us μ1 => match us with
  | [.d (.int j)] => if -(2 ^ 62) ≤ j ∧ j < 2 ^ 62 then .ok (rngW 0 j.toNat) μ1 else .bad
  | _ => .bad
def wRng2 (m : Sm (List U)) : Sm Wlk := fun ρ μ => (m ρ μ).bind fun us μ1 => match us with
  | [.d (.int i), .d (.int j)] => if -(2 ^ 62) ≤ i ∧ i < 2 ^ 62 ∧ -(2 ^ 62) ≤ j ∧ j < 2 ^ 62 then .ok (rngW i (j - i).toNat) μ1 else .bad
  | _ => .bad
theorem wk_rng {G : Gc} {lo : Int} {n : Nat} : Wk G (Itr lo n) (rngW lo n).nxt (fun _ _ _ => True) where
  mono := fun _ _ _ => True.intro
  go := fun {Z φ μ H i u} r _ h => by
    show i < n
    by_cases hi : i < n
    · exact hi
    · have h' : some (if i < n then some (U.d (.int (lo + (i : Nat)))) else none) = some (some u) := h
      rw [if_neg hi] at h'
      cases h'
  stop := fun {Z φ μ H i} r _ h => by
    show n ≤ i
    by_cases hi : i < n
    · have h' : some (if i < n then some (U.d (.int (lo + (i : Nat)))) else none) = some none := h
      rw [if_pos hi] at h'
      cases h'
    · omega
  yld := fun {Z φ μ H H' i u x} r _ h y => by
    obtain ⟨rfl, rfl⟩ := y
    by_cases hi : i < n
    · have h' : some (if i < n then some (U.d (.int (lo + (i : Nat)))) else none) = some (some u) := h
      rw [if_pos hi] at h'
      cases h'
      exact ⟨Go.refl, r, rfl⟩
    · have h' : some (if i < n then some (U.d (.int (lo + (i : Nat)))) else none) = some (some u) := h
      rw [if_neg hi] at h'
      cases h'
theorem i_wrng1 {a : Expr} {ma : Sm (List U)} {p pos : Pos} (hg : Gl X "range") (hm : X.mg "range" = none) (ha : PA X [a] (rdA G W ma)) (hs : starEach [a] X.env = [(false, eval a X.env)] := by rfl) : PI X tg (.Call (.Name "range" p) [a] [] pos) (rdI G W (wRng1 ma)) :=
  PI.imp (pi_range1 hg hm ha hs) fun σ H R ⟨Z, φ, ρ, μ, sr, po⟩ => by
    refine rd_mono (pi_step (R1 := RpUs G) sr po) fun xs H1 ⟨φ1, μ1, us, g1, sr1, rus, po1⟩ => ?_
    split at po1
    · rename_i j
      split at po1
      · rename_i hj
        obtain ⟨v, rr, e, q1, q2⟩ := rus
        obtain rfl := (show v = .int j from q1)
        obtain rfl := (show rr = [] from q2)
        exact ⟨j, e, hj.1, hj.2, po1 φ1 H1 _ _ Go.refl sr1.rep wk_rng True.intro⟩
      · exact False.elim po1
    · exact False.elim po1
theorem i_wrng2 {a b : Expr} {ma : Sm (List U)} {p pos : Pos} (hg : Gl X "range") (hm : X.mg "range" = none) (ha : PA X [a, b] (rdA G W ma)) (hs : starEach [a, b] X.env = [(false, eval a X.env), (false, eval b X.env)] := by rfl) (hs2 : starEach [b] X.env = [(false, eval b X.env)] := by rfl) : PI X tg (.Call (.Name "range" p) [a, b] [] pos) (rdI G W (wRng2 ma)) :=
  PI.imp (pi_range2 hg hm ha hs hs2) fun σ H R ⟨Z, φ, ρ, μ, sr, po⟩ => by
    refine rd_mono (pi_step (R1 := RpUs G) sr po) fun xs H1 ⟨φ1, μ1, us, g1, sr1, rus, po1⟩ => ?_
    split at po1
    · rename_i i j
      split at po1
      · rename_i hj
        obtain ⟨v, rr, e, q1, v2, r2, e2, q2, q3⟩ := rus
        obtain rfl := (show v = .int i from q1)
        obtain rfl := (show v2 = .int j from q2)
        obtain rfl := (show r2 = [] from q3)
        subst e2
        exact ⟨i, j, e, hj, po1 φ1 H1 _ _ Go.refl sr1.rep wk_rng True.intro⟩
      · exact False.elim po1
    · exact False.elim po1
end

/-! ### for -/
def loopG (t : Tg) (body : SmS) (nxt : Nxt) : Nat → Nat → SmS
  | 0, _, _, _ => .bad
  | k + 1, i, ρ, μ => match nxt i μ with
    | none => .bad
    | some none => .nx ρ μ
    | some (some u) => match tgM t u ρ with
      | none => .bad
      | some ρ1 => match body ρ1 μ with
        | .nx ρ2 μ2 => loopG t body nxt k (i + 1) ρ2 μ2
        | .ct ρ2 μ2 => loopG t body nxt k (i + 1) ρ2 μ2
        | .brk ρ2 μ2 => .nx ρ2 μ2
        | .ret u μ2 => .ret u μ2
        | .err c ns vs ρ2 μ2 => .err c ns vs ρ2 μ2
        | .bad => .bad
def sFor (w : Sm Wlk) (t : Tg) (body : SmS) : SmS := fun ρ μ => (w ρ μ).thenS ρ fun w μ1 => loopG t body w.nxt w.fuel 0 ρ μ1
def sWhile : Nat → Sm Bool → SmS → SmS
  | 0, _, _, _, _ => .bad
  | k + 1, c, body, ρ, μ => (c ρ μ).thenS ρ fun b μ1 => if b = true then (match body ρ μ1 with
      | .nx ρ2 μ2 => sWhile k c body ρ2 μ2
      | .ct ρ2 μ2 => sWhile k c body ρ2 μ2
      | .brk ρ2 μ2 => .nx ρ2 μ2
      | .ret u μ2 => .ret u μ2
      | .err c ns vs ρ2 μ2 => .err c ns vs ρ2 μ2
      | .bad => .bad) else .nx ρ μ1
section
variable {G : Gc} {W : WX} {X : Cx} {pos : Pos} {tg iter : Expr} {body : List Stmt} {w : Sm Wlk} {t : Tg} {b : SmS}
theorem i_for (hK : G.K = X.K) (hp : PassesOwn (model X.prog X.w) X.A X.env X.xe) (hc : X.calm = true) (hi : PI X tg iter (rdI G W w)) (hg : PG X tg (tgG X.K t)) (hb : PSs X body (rdS G W b))
    (hs : ∀ x, foldedSetIterable iter X.env x = pure x := by intro _; rfl) : PS X (.For tg iter body [] pos) (rdS G W (sFor w t b)) :=
  PS.imp (ps_for hp hc hi hg hb hs) fun D σ H ⟨Z, φ, ρ, μ, sr, po⟩ => by
    refine ⟨Z, φ, ρ, μ, sr, ?_⟩
    unfold sFor at po
    cases hw : w ρ μ with
    | bad => rw [hw] at po; exact po
    | err c ns vs μ1 => rw [hw] at po; exact fun φ1 H1 cls dx g r er => po φ1 H1 σ cls dx g (sr.go g r) er
    | ok wk μ1 =>
      rw [hw] at po
      intro φ1 H1 J Src g1 r1 K s1
      refine ⟨fun i k σ H => ∃ φ ρ μ, SR G Z φ H μ ρ σ ∧ Src φ (Sof Z φ μ) H ∧ PoS G Z W φ μ H (loopG t b wk.nxt k i ρ μ) D, ⟨wk.fuel, φ1, ρ, μ1, sr.go g1 r1, s1, PoS.go g1 po⟩, ?_⟩
      rintro i k σ2 H2 ⟨φ2, ρ2, μ2, sr2, s2, po2⟩
      cases k with
      | zero => exact False.elim po2
      | succ k =>
        unfold loopG at po2
        split at po2
        · exact False.elim po2
        · rename_i hn
          exact .inl ⟨K.stop sr2.rep s2 hn, po2 φ2 H2 σ2 Go.refl sr2⟩
        · rename_i u hn
          refine .inr ⟨K.go sr2.rep s2 hn, fun σ' H' => ∃ φ ρ μ, SR G Z φ H' μ ρ σ' ∧ Src φ (Sof Z φ μ) H' ∧ PoS G Z W φ μ H' (loopG t b wk.nxt k (i + 1) ρ μ) D, fun σ' H' q => ⟨k, Nat.lt_succ_self k, q⟩, fun x H3 y => ?_⟩
          obtain ⟨g3, r3, ru⟩ := K.yld sr2.rep s2 hn y
          split at po2
          · exact False.elim po2
          · rename_i ρ3 ht
            rw [← hK]
            refine tg_ok ht (sr2.go g3 r3) ru fun σ4 sr4 _ => ⟨Z, φ2, ρ3, μ2, sr4, ?_⟩
            have s3 : Src φ2 (Sof Z φ2 μ2) H3 := K.mono g3.ph g3.ex s2
            cases hbody : b ρ3 μ2 with
            | nx ρ5 μ5 => simp only [hbody] at po2; exact fun φ5 H5 σ5 g5 sr5 => ⟨φ5, ρ5, μ5, sr5, K.mono g5.ph g5.ex s3, PoS.go (g3.trans g5) po2⟩
            | ct ρ5 μ5 => simp only [hbody] at po2; exact fun φ5 H5 σ5 g5 sr5 => ⟨φ5, ρ5, μ5, sr5, K.mono g5.ph g5.ex s3, PoS.go (g3.trans g5) po2⟩
            | brk ρ5 μ5 => simp only [hbody] at po2; exact PoS.go g3 po2
            | ret u5 μ5 => simp only [hbody] at po2; exact PoS.go g3 po2
            | err c ns vs ρ5 μ5 => simp only [hbody] at po2; exact PoS.go g3 po2
            | bad => simp only [hbody] at po2; exact po2
theorem i_while {c : Expr} {k : Nat} {tc : Sm Bool} (hp : PassesOwn (model X.prog X.w) X.A X.env X.xe) (hc : PT X c (rdT G W tc)) (hb : PSs X body (rdS G W b)) : PS X (.While c body [] pos) (rdS G W (sWhile k tc b)) :=
  PS.imp (ps_while hp hc hb) fun D σ H ⟨Z, φ, ρ, μ, sr, po⟩ => by
    refine ⟨fun k σ H => ∃ φ ρ μ, SR G Z φ H μ ρ σ ∧ PoS G Z W φ μ H (sWhile k tc b ρ μ) D, ⟨k, φ, ρ, μ, sr, po⟩, ?_⟩
    rintro k σ2 H2 ⟨φ2, ρ2, μ2, sr2, po2⟩
    cases k with
    | zero => exact False.elim po2
    | succ k =>
      unfold sWhile at po2
      refine rd_mono (pos_step (R1 := RlB) sr2 po2) fun x H3 ⟨φ3, μ3, u, g3, sr3, ru, po3⟩ => ?_
      obtain rfl : u = x := ru
      cases u with
      | false =>
        rw [if_neg Bool.false_ne_true] at po3 ⊢
        exact po3 φ3 H3 σ2 Go.refl sr3
      | true =>
        rw [if_pos rfl] at po3 ⊢
        refine ⟨fun σ' H' => ∃ φ ρ μ, SR G Z φ H' μ ρ σ' ∧ PoS G Z W φ μ H' (sWhile k tc b ρ μ) D, fun σ' H' q => ⟨k, Nat.lt_succ_self k, q⟩, Z, φ3, ρ2, μ3, sr3, ?_⟩
        cases hbody : b ρ2 μ3 with
        | nx ρ5 μ5 => simp only [hbody] at po3; exact fun φ5 H5 σ5 g5 sr5 => ⟨φ5, ρ5, μ5, sr5, PoS.go g5 po3⟩
        | ct ρ5 μ5 => simp only [hbody] at po3; exact fun φ5 H5 σ5 g5 sr5 => ⟨φ5, ρ5, μ5, sr5, PoS.go g5 po3⟩
        | brk ρ5 μ5 => simp only [hbody] at po3; exact po3
        | ret u5 μ5 => simp only [hbody] at po3; exact po3
        | err c ns vs ρ5 μ5 => simp only [hbody] at po3; exact po3
        | bad => simp only [hbody] at po3; exact po3
end

/-! ### comprehensions -/
def W0 : WX := fun _ _ _ _ => False
def wipeR (ρ : Rho) : List Nat → Rho
  | [] => ρ
  | v :: vs => (wipeR ρ vs).set v none
def compG (t : Tg) (own : List Nat) (cond : Sm Bool) (elt : Sm U) (nxt : Nxt) : Nat → Nat → Rho → Mu → List U → Res (List U)
  | 0, _, _, _, _ => .bad
  | k + 1, i, ρ, μ, acc => match nxt i μ with
    | none => .bad
    | some none => .ok acc μ
    | some (some u) => match tgM t u (wipeR ρ own) with
      | none => .bad
      | some ρ1 => match cond ρ1 μ with
        | .ok true μ1 => match elt ρ1 μ1 with
          | .ok y μ2 => if acc.length < 100000 then compG t own cond elt nxt k (i + 1) ρ μ2 (acc ++ [y]) else .bad
          | _ => .bad
        | .ok false μ1 => compG t own cond elt nxt k (i + 1) ρ μ1 acc
        | _ => .bad
def vComp (w : Sm Wlk) (t : Tg) (own : List Nat) (cond : Sm Bool) (elt : Sm U) : Sm U := fun ρ μ => (w ρ μ).bind fun w μ1 => (compG t own cond elt w.nxt w.fuel 0 ρ μ1 []).bind fun acc μ2 => match frzL acc μ2 with
  | some (ds, μ3) => .ok (.d (.lst ds)) μ3
  | none => .bad
def vCompP (w : Sm Wlk) (t : Tg) (own : List Nat) (cond : Sm Bool) (elt : Sm U) : Sm U := fun ρ μ => (w ρ μ).bind fun w μ1 => (compG t own cond elt w.nxt w.fuel 0 ρ μ1 []).bind fun acc μ2 => .ok (.p μ2.length) (μ2 ++ [.lst acc])
def tYes' : Sm Bool := fun _ μ => .ok true μ
section
variable {G : Gc} {Z : Addr → Prop} {φ : List Addr} {μ : Mu} {H : Hp}
abbrev resv (Z : Addr → Prop) (p : Addr) : Addr → Prop := fun a => Z a ∨ a = p
theorem Sof.ofR {p a : Addr} (h : Sof (resv Z p) φ μ a) : Sof Z φ μ a ∨ a = p := by
  rcases h with (h | h) | h
  · exact .inl (.inl h)
  · exact .inr h
  · exact .inl (.inr h)
theorem Sof.toR {p a : Addr} (h : Sof Z φ μ a) : Sof (resv Z p) φ μ a := by
  rcases h with h | h
  · exact .inl (.inl h)
  · exact .inr h
theorem Ex.toR {p : Addr} {o : HO} (hp : H p = none) : Ex (Sof Z φ μ) H (Sof (resv Z p) φ μ) (upd H p o) :=
  ⟨fun a u h n _ => ⟨by rw [upd_ne (ne_of_none h hp)]; exact h, fun z => (Sof.ofR z).elim n (ne_of_none h hp)⟩⟩
theorem Ex.ofR (p : Addr) : Ex (Sof (resv Z p) φ μ) H (Sof Z φ μ) H := ⟨fun a u h n _ => ⟨h, fun z => n (Sof.toR z)⟩⟩
theorem RpU.ex {φ : List Addr} {S S' : Addr → Prop} {H H' : Hp} (e : Ex S H S' H') : ∀ {u : U} {v : V}, RpU G φ S H u v → RpU G φ S' H' u v
  | .d _, _, h => Rp.mono e h
  | .p _, _, h => h
theorem RpUs.ex {φ : List Addr} {S S' : Addr → Prop} {H H' : Hp} (e : Ex S H S' H') : ∀ {us : List U} {vs : List V}, RpUs G φ S H us vs → RpUs G φ S' H' us vs
  | [], _, h => h
  | _ :: _, _, ⟨v, r, e1, a, b⟩ => ⟨v, r, e1, a.ex e, b.ex e⟩
theorem ObR.ex {S S' : Addr → Prop} {H H' : Hp} (e : Ex S H S' H') {a : Addr} : ∀ {ob : Ob}, (ob.live = true → ∀ o, H a = some o → H' a = some o) → ObR G φ S H a ob → ObR G φ S' H' a ob
  | .fz x, _, h => Rp.mono e h
  | .lst us, k, ⟨vs, q, r⟩ => ⟨vs, k rfl _ q, r.ex e⟩
  | .dic ks us, k, ⟨vs, q, l, r⟩ => ⟨vs, k rfl _ q, l, r.ex e⟩
  | .dit ks us, k, ⟨vs, q, l, r⟩ => ⟨vs, k rfl _ q, l, r.ex e⟩
  | .ins c ns us, k, ⟨dx, vs, q, l, r⟩ => ⟨dx, vs, k rfl _ q, l, r.ex e⟩
theorem Sls.ex {S S' : Addr → Prop} {H H' : Hp} (e : Ex S H S' H') : ∀ {ρ : Rho} {σ : L2.St}, Sls G φ S H ρ σ → Sls G φ S' H' ρ σ
  | [], _, h => h
  | none :: ρ, _, ⟨v, r, q, _, b⟩ => ⟨v, r, q, True.intro, b.ex e⟩
  | some u :: ρ, _, ⟨v, r, q, ⟨x, q2, a⟩, b⟩ => ⟨v, r, q, ⟨x, q2, a.ex e⟩, b.ex e⟩
theorem Rep.toR (r : Rep G Z φ H μ) {p : Addr} {o : HO} (ho : NR o) (hp : H p = none) : Rep G (resv Z p) φ (upd H p o) μ where
  len := r.len
  one := r.one
  at_ := fun n a ob h1 h2 => (r.at_ n a ob h1 h2).ex (Ex.toR hp) fun _ u e => by rw [upd_ne (ne_of_none e hp)]; exact e
  res := fun a h => by
    rcases h with h | h
    · obtain ⟨w, e, nt⟩ := r.res a h
      exact ⟨w, by rw [upd_ne (ne_of_none e hp)]; exact e, nt⟩
    · exact ⟨o, by rw [h, upd_same], ho⟩
  apart := fun n a ob h1 h2 l z => by
    rcases z with z | z
    · exact r.apart n a ob h1 h2 l z
    · obtain ⟨w, e⟩ := r.out h1 h2 l
      rw [z, hp] at e; cases e
  tab := r.tab.ext fun b u e => by rw [upd_ne (ne_of_none e hp)]; exact e
theorem Rep.ofR {p : Addr} (r : Rep G (resv Z p) φ H μ) : Rep G Z φ H μ where
  len := r.len
  one := r.one
  at_ := fun n a ob h1 h2 => (r.at_ n a ob h1 h2).ex (Ex.ofR p) fun _ _ e => e
  res := fun a h => r.res a (.inl h)
  apart := fun n a ob h1 h2 l z => r.apart n a ob h1 h2 l (.inl z)
  tab := r.tab
/-- a reserved list is written -/
theorem Rep.rwr (r : Rep G Z φ H μ) {p : Addr} {xs ys : List V} (hz : Z p) (hp : H p = some (.lst xs)) : Rep G Z φ (upd H p (.lst ys)) μ ∧ Ex (Sof Z φ μ) H (Sof Z φ μ) (upd H p (.lst ys)) := by
  have ex : Ex (Sof Z φ μ) H (Sof Z φ μ) (upd H p (.lst ys)) := ⟨fun a u h n _ => ⟨by rw [upd_ne (fun e => n (.inl (by rw [e]; exact hz)))]; exact h, n⟩⟩
  refine ⟨⟨r.len, r.one, fun n a ob h1 h2 => (r.at_ n a ob h1 h2).ex ex fun l u e => ?_, fun a h => ?_, r.apart, fun q hq => ?_⟩, ex⟩
  · rw [upd_ne (fun e => r.apart n a ob h1 h2 l (by rw [e]; exact hz))]; exact e
  · by_cases e : a = p
    · exact ⟨_, by rw [e, upd_same], nr_lst⟩
    · obtain ⟨w, q, nt⟩ := r.res a h
      exact ⟨w, by rw [upd_ne e]; exact q, nt⟩
  · obtain ⟨ps, a1, a2, a3⟩ := r.tab q hq
    refine ⟨ps, by rw [upd_ne (ne_of a1 hp (fun z => nomatch z))]; exact a1, a2, fun pos cv hc => ?_⟩
    obtain ⟨c, e1, e2⟩ := a3 pos cv hc
    exact ⟨c, e1, by rw [upd_ne (ne_of e2 hp (fun z => nomatch z))]; exact e2⟩
theorem Sls.wipe {S : Addr → Prop} {ρ : Rho} {σ : L2.St} (h : Sls G φ S H ρ σ) : ∀ (vs : List Nat), Sls G φ S H (wipeR ρ vs) (L2.wipe σ vs)
  | [] => h
  | v :: vs => Sls.set (u := none) (x := none) True.intro v (Sls.wipe h vs)
theorem wipe_mem {σ : L2.St} {i : Nat} : ∀ {vs : List Nat}, i ∈ vs → (wipe σ vs).set i none = wipe σ vs
  | v :: vs, h => by
    show ((wipe σ vs).set v none).set i none = (wipe σ vs).set v none
    by_cases e : i = v
    · rw [e, List.set_set]
    · rw [List.set_comm _ _ (fun z => e z.symm), wipe_mem ((List.mem_cons.mp h).elim (fun z => absurd z e) id)]
theorem wipe_sub {σ : L2.St} : ∀ {ws vs : List Nat}, (∀ i ∈ ws, i ∈ vs) → wipe (wipe σ vs) ws = wipe σ vs
  | [], vs, _ => rfl
  | w :: ws, vs, h => by
    show (wipe (wipe σ vs) ws).set w none = wipe σ vs
    rw [wipe_sub fun i hi => h i (List.mem_cons_of_mem _ hi), wipe_mem (h w List.mem_cons_self)]
end
section
variable {G : Gc} {W : WX} {X : Cx} {pos : Pos} {tg iter : Expr} {w : Sm Wlk} {t : Tg} {cond : Sm Bool} {elt : Sm U}
/-- what has been done so far -/
structure CW (G : Gc) (Z : Addr → Prop) (Dl : Addr) (φ0 : List Addr) (μ0 : Mu) (H0 : Hp) (φ : List Addr) (μ : Mu) (H : Hp) : Prop where
  ph : ∀ (n : Nat) (a : Addr), φ0[n]? = some a → φ[n]? = some a
  ex : Ex (Sof Z φ0 μ0) H0 (Sof (resv Z Dl) φ μ) H
  rs : ∀ (a : Addr), Z a → H a = H0 a
theorem rdComp {own : List Nat} (hsl : ∀ i ∈ t.slots, i ∈ own) {fin : List U → Mu → Res U} (σ : L2.St) (H : Hp) (Q : VK)
    (hfin : ∀ (Z : Addr → Prop) (φ0 : List Addr) (μ0 : Mu) (H0 : Hp) (Dl : Addr) (φ : List Addr) (μ : Mu) (H : Hp) (acc : List U) (vs : List V), Rep G Z φ0 H0 μ0 → H0 Dl = none → CW G Z Dl φ0 μ0 H0 φ μ H → Rep G (resv Z Dl) φ H μ → H Dl = some (.lst vs) → RpUs G φ (Sof (resv Z Dl) φ μ) H acc vs →
      Po (RpU G) G Z W φ0 μ0 H0 σ (fin acc μ) Q → Q (.ref Dl) H)
    (h : rdE G W (fun ρ μ => (w ρ μ).bind fun w μ1 => (compG t own cond elt w.nxt w.fuel 0 ρ μ1 []).bind fin) σ H Q) :
    tLc (rdI G W w) (tgG G.K t) (rdT G W0 cond) (rdE G W0 elt) own σ H Q := by
  obtain ⟨Z, φ, ρ, μ, sr, po⟩ := h
  dsimp only at po
  refine ⟨Z, φ, ρ, μ, sr, ?_⟩
  cases hw : w ρ μ with
  | bad => rw [hw] at po; exact po
  | err c ns vs μ1 => rw [hw] at po; exact po
  | ok wk μ1 =>
    rw [hw] at po
    intro φ0 H0 J Src g0 r0 K s0 Dl hD
    have po0 : Po (RpU G) G Z W φ0 μ1 H0 σ ((compG t own cond elt wk.nxt wk.fuel 0 ρ μ1 []).bind fin) Q := Po.go g0 po
    have sr0 := sr.go g0 r0
    refine ⟨fun i k Hc => ∃ φ μ acc vs, CW G Z Dl φ0 μ1 H0 φ μ Hc ∧ Rep G (resv Z Dl) φ Hc μ ∧ Hc Dl = some (.lst vs) ∧ RpUs G φ (Sof (resv Z Dl) φ μ) Hc acc vs ∧ Sls G φ (Sof (resv Z Dl) φ μ) Hc ρ σ ∧ Src φ (Sof (resv Z Dl) φ μ) Hc ∧
        Po (RpU G) G Z W φ0 μ1 H0 σ ((compG t own cond elt wk.nxt k i ρ μ acc).bind fin) Q, ⟨wk.fuel, φ0, μ1, [], [], ⟨fun _ _ h => h, Ex.toR hD, fun a h => ?_⟩, r0.toR nr_lst hD, upd_same, rfl, sr0.sl.ex (Ex.toR hD), K.mono (fun _ _ h => h) (Ex.toR hD) s0, po0⟩, ?_⟩
    · obtain ⟨o, e, _⟩ := r0.res a h
      rw [upd_ne (ne_of_none e hD)]
    rintro i k H2 ⟨φ2, μ2, acc, vs, C2, r2, hD2, ra2, sl2, s2, po2⟩
    cases k with
    | zero => exact False.elim po2
    | succ k =>
      unfold compG at po2
      split at po2
      · exact False.elim po2
      · rename_i hn
        exact .inl ⟨K.stop r2 s2 hn, hfin Z φ0 μ1 H0 Dl φ2 μ2 H2 acc vs r0 hD C2 r2 hD2 ra2 po2⟩
      · rename_i u hn
        refine .inr ⟨K.go r2 s2 hn, fun Hc => ∃ φ μ acc vs, CW G Z Dl φ0 μ1 H0 φ μ Hc ∧ Rep G (resv Z Dl) φ Hc μ ∧ Hc Dl = some (.lst vs) ∧ RpUs G φ (Sof (resv Z Dl) φ μ) Hc acc vs ∧ Sls G φ (Sof (resv Z Dl) φ μ) Hc ρ σ ∧ Src φ (Sof (resv Z Dl) φ μ) Hc ∧
          Po (RpU G) G Z W φ0 μ1 H0 σ ((compG t own cond elt wk.nxt k (i + 1) ρ μ acc).bind fin) Q, fun H' q => ⟨k, Nat.lt_succ_self k, q⟩, fun x H3 y => ?_⟩
        obtain ⟨g3, r3, ru⟩ := K.yld r2 s2 hn y
        split at po2
        · exact False.elim po2
        · rename_i ρ3 ht
          have sr3 : SR G (resv Z Dl) φ2 H3 μ2 (wipeR ρ own) (wipe σ own) := ⟨r3, (sl2.mono g3).wipe own⟩
          refine tg_ok ht sr3 ru fun σ4 sr4 hwp => ?_
          have e4 : wipe σ4 own = wipe σ own := by
            rw [hwp own hsl]
            exact wipe_sub fun _ h => h
          refine ⟨e4, ⟨resv Z Dl, φ2, ρ3, μ2, sr4, ?_⟩⟩
          have cw : ∀ {φ' : List Addr} {μ' : Mu} {H' : Hp}, Go (resv Z Dl) φ2 μ2 H2 φ' μ' H' → CW G Z Dl φ0 μ1 H0 φ' μ' H' := fun g => ⟨fun n a h => g.ph n a (C2.ph n a h), C2.ex.trans g.ex, fun a h => (g.rs a (.inl h)).trans (C2.rs a h)⟩
          cases hc : cond ρ3 μ2 with
          | bad => simp only [hc] at po2; exact False.elim po2
          | err c ns vs μ5 => simp only [hc] at po2; exact False.elim po2
          | ok b μ5 =>
            intro φ5 H5 b' g5 r5 eb
            obtain rfl : b = b' := eb
            have g35 := g3.trans g5
            cases b with
            | false =>
              simp only [hc] at po2
              rw [if_neg Bool.false_ne_true]
              exact ⟨φ5, μ5, acc, vs, cw g35, r5, (g35.rs Dl (.inr rfl)).trans hD2, ra2.mono g35, sl2.mono g35, K.mono g35.ph g35.ex s2, po2⟩
            | true =>
              simp only [hc] at po2
              rw [if_pos rfl]
              refine ⟨resv Z Dl, φ5, ρ3, μ5, sr4.go g5 r5, ?_⟩
              cases he : elt ρ3 μ5 with
              | bad => simp only [he] at po2; exact False.elim po2
              | err c ns vs μ6 => simp only [he] at po2; exact False.elim po2
              | ok yv μ6 =>
                simp only [he] at po2
                intro φ6 H6 v6 g6 r6 ru6
                have g36 := g35.trans g6
                split at po2
                · rename_i hlen
                  have hD6 : H6 Dl = some (.lst vs) := (g36.rs Dl (.inr rfl)).trans hD2
                  have ra6 := ra2.mono g36
                  obtain ⟨r7, ex7⟩ := r6.rwr (p := Dl) (ys := vs ++ [v6]) (.inr rfl) hD6
                  have app : ∀ {us : List U} {xs : List V}, RpUs G φ6 (Sof (resv Z Dl) φ6 μ6) H6 us xs → RpUs G φ6 (Sof (resv Z Dl) φ6 μ6) H6 (us ++ [yv]) (xs ++ [v6]) := by
                    intro us
                    induction us with
                    | nil => intro xs h; rw [show xs = [] from h]; exact ⟨v6, [], rfl, ru6, rfl⟩
                    | cons u us ih => intro xs h; obtain ⟨v, r, e, a, b⟩ := h; subst e; exact ⟨v, r ++ [v6], rfl, a, ih b⟩
                  refine ⟨vs, hD6, ?_, φ6, μ6, acc ++ [yv], vs ++ [v6], ?_, r7, upd_same, (app ra6).ex ex7, (sl2.mono g36).ex ex7, K.mono (fun _ _ h => h) (ex7) (K.mono g36.ph g36.ex s2), po2⟩
                  · rw [ra6.length]
                    exact Nat.lt_of_lt_of_le hlen (by decide)
                  · have c6 := cw g36
                    refine ⟨c6.ph, c6.ex.trans ex7, fun a h => ?_⟩
                    rw [upd_ne (fun e => ?_)]
                    · exact c6.rs a h
                    · obtain ⟨o, q, _⟩ := r0.res a h
                      rw [e, hD] at q; cases q
                · exact False.elim po2
theorem CW.go {Z : Addr → Prop} {Dl : Addr} {φ0 φ : List Addr} {μ0 μ : Mu} {H0 H : Hp} (C : CW G Z Dl φ0 μ0 H0 φ μ H) : Go Z φ0 μ0 H0 φ μ H := ⟨C.ph, C.ex.trans (Ex.ofR _), C.rs⟩
theorem rdVComp {own : List Nat} (hsl : ∀ i ∈ t.slots, i ∈ own) (σ : L2.St) (H : Hp) (Q : VK) (h : rdE G W (vComp w t own cond elt) σ H Q) : tLc (rdI G W w) (tgG G.K t) (rdT G W0 cond) (rdE G W0 elt) own σ H Q := by
  refine rdComp hsl (fin := fun acc μ2 => match frzL acc μ2 with | some (ds, μ3) => .ok (.d (.lst ds)) μ3 | none => .bad) σ H Q (fun Z φ0 μ0 H0 Dl φ μ H acc vs r0 hD C r hDl ra po => ?_) h
  split at po
  · rename_i ds μ3 hf
    obtain ⟨F, rl⟩ := frzL_ok hf r.ofR (ra.ex (Ex.ofR _))
    have g := C.go.trans F.go
    refine po φ H (.ref Dl) g F.rep ⟨Dl, vs, rfl, .inl ⟨fun z => ?_, .inl hDl⟩, rl⟩
    rcases z with z | ⟨n, ob, e1, e2, e3⟩
    · obtain ⟨o, q, _⟩ := r0.res Dl z
      rw [hD] at q; cases q
    · exact r.apart n Dl ob e1 (F.lv.lv n ob e2 e3) e3 (.inr rfl)
  · exact False.elim po
theorem rdVCompP {own : List Nat} (hsl : ∀ i ∈ t.slots, i ∈ own) (σ : L2.St) (H : Hp) (Q : VK) (h : rdE G W (vCompP w t own cond elt) σ H Q) : tLc (rdI G W w) (tgG G.K t) (rdT G W0 cond) (rdE G W0 elt) own σ H Q := by
  refine rdComp hsl (fin := fun (acc : List U) (μ2 : Mu) => Res.ok (U.p μ2.length) (μ2 ++ [Ob.lst acc])) σ H Q (fun Z φ0 μ0 H0 Dl φ μ H acc vs r0 hD C r hDl ra po => ?_) h
  have nl : ∀ (n : Nat) (ob : Ob), φ[n]? = some Dl → μ[n]? = some ob → ob.live = true → False := fun n ob e1 e2 e3 => r.apart n Dl ob e1 e2 e3 (.inr rfl)
  have nz : ¬ Z Dl := fun z => by
    obtain ⟨o, q, _⟩ := r0.res Dl z
    rw [hD] at q; cases q
  have exq : Ex (Sof (resv Z Dl) φ μ) H (Sof Z (φ ++ [Dl]) (μ ++ [.lst acc])) H := ⟨fun a u h n _ => ⟨h, fun z => (Sof.snoc r.len z).elim (fun z => n (Sof.toR z)) fun e => n (.inl (.inr e))⟩⟩
  have g : Go Z φ0 μ0 H0 (φ ++ [Dl]) (μ ++ [.lst acc]) H := ⟨fun n a h => snoc_of (C.ph n a h), C.ex.trans exq, C.rs⟩
  have upU : ∀ {u : U} {v : V}, RpU G φ (Sof (resv Z Dl) φ μ) H u v → RpU G (φ ++ [Dl]) (Sof Z (φ ++ [Dl]) (μ ++ [.lst acc])) H u v := fun {u v} h => by
    cases u with
    | d x => exact Rp.mono exq h
    | p n => obtain ⟨a, e1, e2⟩ := h; exact ⟨a, e1, snoc_of e2⟩
  have upUs : ∀ {us : List U} {vs : List V}, RpUs G φ (Sof (resv Z Dl) φ μ) H us vs → RpUs G (φ ++ [Dl]) (Sof Z (φ ++ [Dl]) (μ ++ [.lst acc])) H us vs := by
    intro us
    induction us with
    | nil => intro vs h; exact h
    | cons u us ih => intro vs h; obtain ⟨v, r, e, a, b⟩ := h; exact ⟨v, r, e, upU a, ih b⟩
  refine po (φ ++ [Dl]) H (.ref Dl) g ?_ ⟨Dl, rfl, by rw [← r.len]; exact snoc_last⟩
  refine ⟨by rw [List.length_append, List.length_append, r.len]; rfl, fun n m a o1 u1 h1 h2 h3 h4 l1 l2 => ?_, fun n a ob h1 h2 => ?_, fun a h => r.res a (.inl h), fun n a o1 h1 h2 l => ?_, r.tab⟩
  · rcases getElem?_snoc h3 with e3 | ⟨e3, e3'⟩
    · have z1 : n < φ.length := by have := (List.getElem?_eq_some_iff.mp e3).1; rw [r.len]; exact this
      rw [List.getElem?_append_left z1] at h1
      rcases getElem?_snoc h4 with e4 | ⟨e4, e4'⟩
      · have z2 : m < φ.length := by have := (List.getElem?_eq_some_iff.mp e4).1; rw [r.len]; exact this
        rw [List.getElem?_append_left z2] at h2
        exact r.one n m a o1 u1 h1 h2 e3 e4 l1 l2
      · rw [e4, ← r.len, snoc_last] at h2
        cases h2
        exact (nl n o1 h1 e3 l1).elim
    · rw [e3, ← r.len, snoc_last] at h1
      cases h1
      rcases getElem?_snoc h4 with e4 | ⟨e4, e4'⟩
      · have z2 : m < φ.length := by have := (List.getElem?_eq_some_iff.mp e4).1; rw [r.len]; exact this
        rw [List.getElem?_append_left z2] at h2
        exact (nl m u1 h2 e4 l2).elim
      · omega
  · rcases getElem?_snoc h2 with e2 | ⟨e2, e2'⟩
    · have z1 : n < φ.length := by have := (List.getElem?_eq_some_iff.mp e2).1; rw [r.len]; exact this
      rw [List.getElem?_append_left z1] at h1
      have q := r.at_ n a ob h1 e2
      cases ob with
      | fz x => exact Rp.mono exq q
      | lst us => obtain ⟨vs, e, q⟩ := q; exact ⟨vs, e, upUs q⟩
      | dic ks us => obtain ⟨vs, e, l, q⟩ := q; exact ⟨vs, e, l, upUs q⟩
      | dit ks us => obtain ⟨vs, e, l, q⟩ := q; exact ⟨vs, e, l, upUs q⟩
      | ins c ns us => obtain ⟨dx, vs, e, l, q⟩ := q; exact ⟨dx, vs, e, l, upUs q⟩
    · rw [e2, ← r.len, snoc_last] at h1
      cases h1
      subst e2'
      exact ⟨vs, hDl, upUs ra⟩
  · rcases getElem?_snoc h2 with e2 | ⟨e2, e2'⟩
    · have z1 : n < φ.length := by have := (List.getElem?_eq_some_iff.mp e2).1; rw [r.len]; exact this
      rw [List.getElem?_append_left z1] at h1
      exact fun z => r.apart n a o1 h1 e2 l (.inl z)
    · rw [e2, ← r.len, snoc_last] at h1
      cases h1
      exact nz
section
variable {own : List (Str × Nat)} {ifs : List Expr} {scope : Scope} {elte : Expr}
theorem i_comp (hK : G.K = X.K) (hsl : ∀ i ∈ t.slots, i ∈ own.map (·.2)) (hc : X.calm = true) (hN : X.N.Nodup) (hi : PI X tg iter (rdI G W w)) (ok : BlkOk X.N X.env.scope scope own)
    (hg : ∀ (s : Shared) (H : Hp) (C : Addr) (cl : List (Str × Addr)) (fp : List Addr), PG (X.blk s H scope (compEnvC scope cl C X.env) fp) tg (tgG X.K t)) (ht : ∀ (s : Shared) (H : Hp) (C : Addr) (cl : List (Str × Addr)) (fp : List Addr), PTs (X.blk s H scope (compEnvC scope cl C X.env) fp) ifs (rdT G W0 cond))
    (he : ∀ (s : Shared) (H : Hp) (C : Addr) (cl : List (Str × Addr)) (fp : List Addr), PE (X.blk s H scope (compEnvC scope cl C X.env) fp) elte (rdE G W0 elt)) (hs : ∀ x, foldedSetIterable iter X.env x = pure x := by intro _; rfl) :
    PE X (.ListComp elte [⟨tg, iter, ifs, 0⟩] scope pos) (rdE G W (vComp w t (own.map (·.2)) cond elt)) :=
  PE.imp (pe_lc hc hN hi ok hg ht he hs) fun σ H Q h => by rw [← hK]; exact rdVComp hsl σ H Q h
theorem i_compP (hK : G.K = X.K) (hsl : ∀ i ∈ t.slots, i ∈ own.map (·.2)) (hc : X.calm = true) (hN : X.N.Nodup) (hi : PI X tg iter (rdI G W w)) (ok : BlkOk X.N X.env.scope scope own)
    (hg : ∀ (s : Shared) (H : Hp) (C : Addr) (cl : List (Str × Addr)) (fp : List Addr), PG (X.blk s H scope (compEnvC scope cl C X.env) fp) tg (tgG X.K t)) (ht : ∀ (s : Shared) (H : Hp) (C : Addr) (cl : List (Str × Addr)) (fp : List Addr), PTs (X.blk s H scope (compEnvC scope cl C X.env) fp) ifs (rdT G W0 cond))
    (he : ∀ (s : Shared) (H : Hp) (C : Addr) (cl : List (Str × Addr)) (fp : List Addr), PE (X.blk s H scope (compEnvC scope cl C X.env) fp) elte (rdE G W0 elt)) (hs : ∀ x, foldedSetIterable iter X.env x = pure x := by intro _; rfl) :
    PE X (.ListComp elte [⟨tg, iter, ifs, 0⟩] scope pos) (rdE G W (vCompP w t (own.map (·.2)) cond elt)) :=
  PE.imp (pe_lc hc hN hi ok hg ht he hs) fun σ H Q h => by rw [← hK]; exact rdVCompP hsl σ H Q h
variable {i : Nat} {y : Str} {py spos : Pos}
theorem i_setComp (hK : G.K = X.K) (hsl : ∀ i ∈ t.slots, i ∈ own.map (·.2)) (hc : X.calm = true) (hN : X.N.Nodup) (hy : X.N[i]? = some y) (hyl : X.env.scope.names.lookup y = some .local)
    (hsw : swapsWith (.ListComp elte [⟨tg, iter, ifs, 0⟩] scope pos) (some (.Name y py)) spos.line X.env = pure true) (hi : PI X tg iter (rdI G W w)) (ok : BlkOk X.N X.env.scope scope own)
    (hg : ∀ (s : Shared) (H : Hp) (C : Addr) (cl : List (Str × Addr)) (fp : List Addr), PG (X.blk s H scope (compEnvC scope cl C X.env) fp) tg (tgG X.K t)) (ht : ∀ (s : Shared) (H : Hp) (C : Addr) (cl : List (Str × Addr)) (fp : List Addr), PTs (X.blk s H scope (compEnvC scope cl C X.env) fp) ifs (rdT G W0 cond))
    (he : ∀ (s : Shared) (H : Hp) (C : Addr) (cl : List (Str × Addr)) (fp : List Addr), PE (X.blk s H scope (compEnvC scope cl C X.env) fp) elte (rdE G W0 elt)) (hs : ∀ x, foldedSetIterable iter X.env x = pure x := by intro _; rfl) :
    PS X (.Assign [.Name y py] (.ListComp elte [⟨tg, iter, ifs, 0⟩] scope pos) spos) (rdS G W (sSet i (vComp w t (own.map (·.2)) cond elt))) :=
  PS.imp (ps_setLc hc hN hy hyl hsw hi ok hg ht he hs) fun D σ H h => by
    have q := rdSet D σ H h
    rw [← hK]
    exact rdVComp hsl σ H _ q
theorem i_setCompP (hK : G.K = X.K) (hsl : ∀ i ∈ t.slots, i ∈ own.map (·.2)) (hc : X.calm = true) (hN : X.N.Nodup) (hy : X.N[i]? = some y) (hyl : X.env.scope.names.lookup y = some .local)
    (hsw : swapsWith (.ListComp elte [⟨tg, iter, ifs, 0⟩] scope pos) (some (.Name y py)) spos.line X.env = pure true) (hi : PI X tg iter (rdI G W w)) (ok : BlkOk X.N X.env.scope scope own)
    (hg : ∀ (s : Shared) (H : Hp) (C : Addr) (cl : List (Str × Addr)) (fp : List Addr), PG (X.blk s H scope (compEnvC scope cl C X.env) fp) tg (tgG X.K t)) (ht : ∀ (s : Shared) (H : Hp) (C : Addr) (cl : List (Str × Addr)) (fp : List Addr), PTs (X.blk s H scope (compEnvC scope cl C X.env) fp) ifs (rdT G W0 cond))
    (he : ∀ (s : Shared) (H : Hp) (C : Addr) (cl : List (Str × Addr)) (fp : List Addr), PE (X.blk s H scope (compEnvC scope cl C X.env) fp) elte (rdE G W0 elt)) (hs : ∀ x, foldedSetIterable iter X.env x = pure x := by intro _; rfl) :
    PS X (.Assign [.Name y py] (.ListComp elte [⟨tg, iter, ifs, 0⟩] scope pos) spos) (rdS G W (sSet i (vCompP w t (own.map (·.2)) cond elt))) :=
  PS.imp (ps_setLc hc hN hy hyl hsw hi ok hg ht he hs) fun D σ H h => by
    have q := rdSet D σ H h
    rw [← hK]
    exact rdVCompP hsl σ H _ q
theorem i_ifs0 : PTs X [] (rdT G W tYes') := ⟨fun pins s σ H Q I ⟨Z, φ, ρ, μ, sr, po⟩ => (pts_nil (X := X)).run pins s σ H Q I (po φ H true Go.refl sr.rep rfl)⟩
theorem i_ifs1 {c : Expr} (h : PT X c (rdT G W cond)) : PTs X [c] (rdT G W cond) := pts_one h
end
end
end Iv
set_option Elab.async false
set_option linter.all false
set_option maxRecDepth 100000
set_option maxHeartbeats 2000000
set_option autoImplicit false
/-! Iv, part F: what a def promises; a body keeps it; a caller uses it. -/
namespace Iv
open PySem PySem.Spec PyProof.Rows L2

/-- an object handed to a def: its contents are data -/
inductive OD where
  | fz (x : D) | lst (l : List D) | dic (ks : List Key) (vs : List D) | dit (ks : List (List Key)) (vs : List D) | ins (c : Nat) (ns : List Str) (vs : List D)
def OD.ob : OD → Ob
  | .fz x => .fz x
  | .lst l => .lst (l.map .d)
  | .dic ks vs => .dic ks (vs.map .d)
  | .dit ks vs => .dit ks (vs.map .d)
  | .ins c ns vs => .ins c ns (vs.map .d)
def OD.live : OD → Bool
  | .fz _ => false
  | _ => true
theorem OD.ob_live (o : OD) : o.ob.live = o.live := by cases o <;> rfl
inductive FR where
  | ok (u : U) (os : List OD) (new : Option OD) | err (c : Nat) (ns : List Str) (vs : List D) (os : List OD) | bad
abbrev Fn := List U → List OD → FR
abbrev obs (os : List OD) : Mu := os.map OD.ob

def PoF (G : Gc) (Z : Addr → Prop) (E : XK) (φ : List Addr) (μ : Mu) (H : Hp) (r : FR) (Q : VK) : Prop := match r with
  | .ok u os none => ∀ (H' : Hp) (v : V), Go Z φ μ H φ (obs os) H' → Rep G Z φ H' (obs os) → RpU G φ (Sof Z φ (obs os)) H' u v → Q v H'
  | .ok u os (some o) => ∀ (a : Addr) (H' : Hp) (v : V), Go Z φ μ H (φ ++ [a]) (obs os ++ [o.ob]) H' → Rep G Z (φ ++ [a]) H' (obs os ++ [o.ob]) → RpU G (φ ++ [a]) (Sof Z (φ ++ [a]) (obs os ++ [o.ob])) H' u v → Q v H'
  | .err c ns vs os => ∀ (H' : Hp) (cls : Value) (dx : Option Addr), Go Z φ μ H φ (obs os) H' → Rep G Z φ H' (obs os) → ErrR G (Sof Z φ (obs os)) H' c ns vs cls dx → E cls dx H'
  | .bad => False
/-- the promise of a def that means f -/
def spD (G : Gc) (f : Fn) (n : Nat) : Sp := fun vs H Q E => vs.length = n ∧ ∃ Z φ os us, Rep G Z φ H (obs os) ∧ RpUs G φ (Sof Z φ (obs os)) H us vs ∧ PoF G Z E φ (obs os) H (f us os) Q

/-! ### the way out of a body -/
def Ob.us : Ob → List U
  | .fz _ => []
  | .lst us => us
  | .dic _ us => us
  | .dit _ us => us
  | .ins _ _ us => us
def Ob.re : Ob → List D → Ob
  | .fz x, _ => .fz x
  | .lst _, ds => .lst (ds.map .d)
  | .dic ks _, ds => .dic ks (ds.map .d)
  | .dit ks _, ds => .dit ks (ds.map .d)
  | .ins c ns _, ds => .ins c ns (ds.map .d)
/-- the contents of a place become data -/
def clean (i : Nat) (μ : Mu) : Option Mu := match μ[i]? with
  | some ob => if ob.live = true then (match frzL ob.us μ with
      | some (ds, μ1) => (match μ1[i]? with
        | some ob1 => if ob1.live = true then some (μ1.set i (ob.re ds)) else some μ1
        | none => none)
      | none => none) else some μ
  | none => none
def cleans : Nat → Mu → Option Mu
  | 0, μ => some μ
  | n + 1, μ => match cleans n μ with
    | some μ1 => clean n μ1
    | none => none
def dOnly : List U → Option (List D)
  | [] => some []
  | .d x :: us => match dOnly us with
    | some ds => some (x :: ds)
    | none => none
  | .p _ :: _ => none
theorem dOnly_map (ds : List D) : dOnly (ds.map .d) = some ds := by
  induction ds with
  | nil => rfl
  | cons d ds ih =>
    show (match dOnly (ds.map .d) with | some ds => some (d :: ds) | none => none) = _
    rw [ih]
theorem dOnly_eq : ∀ {us : List U} {ds : List D}, dOnly us = some ds → us = ds.map .d
  | [], ds, h => by cases h; rfl
  | .d x :: us, ds, h => by
    unfold dOnly at h
    split at h
    · rename_i ds' h'
      cases h
      rw [dOnly_eq h']
      rfl
    · cases h
  | .p _ :: _, ds, h => by cases h
def readO : Ob → Option OD
  | .fz x => some (.fz x)
  | .lst us => (dOnly us).map .lst
  | .dic ks us => (dOnly us).map (.dic ks)
  | .dit ks us => (dOnly us).map (.dit ks)
  | .ins c ns us => (dOnly us).map (.ins c ns)
theorem readO_ob (o : OD) : readO o.ob = some o := by
  cases o <;> first | rfl | (simp only [OD.ob, readO, dOnly_map]; rfl)
theorem readO_eq {ob : Ob} {o : OD} (h : readO ob = some o) : ob = o.ob := by
  cases ob with
  | fz x => cases h; rfl
  | lst us =>
    obtain ⟨ds, h1, rfl⟩ := Option.map_eq_some_iff.mp h
    rw [dOnly_eq h1]; rfl
  | dic ks us =>
    obtain ⟨ds, h1, rfl⟩ := Option.map_eq_some_iff.mp h
    rw [dOnly_eq h1]; rfl
  | dit ks us =>
    obtain ⟨ds, h1, rfl⟩ := Option.map_eq_some_iff.mp h
    rw [dOnly_eq h1]; rfl
  | ins c ns us =>
    obtain ⟨ds, h1, rfl⟩ := Option.map_eq_some_iff.mp h
    rw [dOnly_eq h1]; rfl
def readOs : Mu → Option (List OD)
  | [] => some []
  | o :: μ => match readO o with
    | some x => match readOs μ with
      | some xs => some (x :: xs)
      | none => none
    | none => none
theorem readOs_obs (os : List OD) : readOs (obs os) = some os := by
  induction os with
  | nil => rfl
  | cons o os ih =>
    show (match readO o.ob with | some x => (match readOs (obs os) with | some xs => some (x :: xs) | none => none) | none => none) = _
    rw [readO_ob, ih]
theorem readOs_eq : ∀ {μ : Mu} {os : List OD}, readOs μ = some os → μ = obs os
  | [], os, h => by cases h; rfl
  | o :: μ, os, h => by
    unfold readOs at h
    split at h
    · rename_i x hx
      split at h
      · rename_i xs hxs
        cases h
        rw [readO_eq hx, readOs_eq hxs]
        rfl
      · cases h
    · cases h
/-- what a def hands back: k objects were handed in -/
def finF (k : Nat) (u : U) (μ : Mu) : FR := match (match u with
    | .p n => if n < k then some (.p n, μ) else (frzU 9 (.p n) μ).map fun p => (.d p.1, p.2)
    | .d x => some (.d x, μ) : Option (U × Mu)) with
  | some (u1, μ1) => match cleans k μ1 with
    | some μ2 => match readOs (μ2.take k) with
      | some os => .ok u1 os none
      | none => .bad
    | none => .bad
  | none => .bad
/-- a def that hands back a new object of its own -/
def finN (k : Nat) (u : U) (μ : Mu) : FR := match u with
  | .p n => if n < k then .bad else match cleans k μ with
    | some μ1 => match clean n μ1 with
      | some μ2 => match readOs (μ2.take k), μ2[n]? with
        | some os, some ob => if ob.live = true then (match readO ob with
          | some o => .ok (.p k) os (some o)
          | none => .bad) else .bad
        | _, _ => .bad
      | none => .bad
    | none => .bad
  | .d _ => .bad
def exitF (k : Nat) (fresh : Bool) (r : RS) : FR := match r with
  | .nx _ μ => finF k (.d .non) μ
  | .ret u μ => if fresh = true then finN k u μ else finF k u μ
  | .err c ns vs _ μ => match cleans k μ with
    | some μ1 => match readOs (μ1.take k) with
      | some os => .err c ns vs os
      | none => .bad
    | none => .bad
  | _ => .bad
def entry (N : Nat) (fresh : Bool) (b : SmS) : Fn := fun us os => exitF os.length fresh (b (us.map some ++ List.replicate (N - us.length) none) (obs os))

section
variable {G : Gc} {Z : Addr → Prop} {φ φ' : List Addr} {μ μ' : Mu} {H H' : Hp}
structure Fq (G : Gc) (Z : Addr → Prop) (φ : List Addr) (H : Hp) (μ μ' : Mu) : Prop where
  go : Go Z φ μ H φ μ' H
  rep : Rep G Z φ H μ'
  len : μ'.length = μ.length
theorem Fq.refl (r : Rep G Z φ H μ) : Fq G Z φ H μ μ := ⟨Go.refl, r, rfl⟩
theorem Fq.trans {μ1 μ2 : Mu} (a : Fq G Z φ H μ μ1) (b : Fq G Z φ H μ1 μ2) : Fq G Z φ H μ μ2 := ⟨a.go.trans b.go, b.rep, b.len.trans a.len⟩
theorem Frz.fq {μ1 : Mu} (F : Frz G Z φ H μ μ1) : Fq G Z φ H μ μ1 := ⟨F.go, F.rep, F.lv.len⟩
theorem Ob.re_live {ob : Ob} {ds : List D} : (ob.re ds).live = ob.live := by cases ob <;> rfl
/-- a live place told anew -/
theorem Rep.re (r : Rep G Z φ H μ) {n : Nat} {a : Addr} {ob ob' : Ob} (h1 : φ[n]? = some a) (h2 : μ[n]? = some ob) (h3 : ob.live = true) (h4 : ob'.live = true) (h : ObR G φ (Sof Z φ μ) H a ob') : Fq G Z φ H μ (μ.set n ob') := by
  have hn : n < μ.length := (List.getElem?_eq_some_iff.mp h2).1
  have s1 : ∀ {b : Addr}, Sof Z φ (μ.set n ob') b → Sof Z φ μ b := fun z => Sof.set ⟨ob, h2, h3⟩ z
  have s2 : ∀ {b : Addr}, Sof Z φ μ b → Sof Z φ (μ.set n ob') b := fun {b} z => by
    rcases z with z | ⟨m, o, e1, e2, e3⟩
    · exact .inl z
    by_cases e : n = m
    · subst e
      exact .inr ⟨n, ob', e1, List.getElem?_set_self hn, h4⟩
    · exact .inr ⟨m, o, e1, by rw [List.getElem?_set_ne e]; exact e2, e3⟩
  have ex : Ex (Sof Z φ μ) H (Sof Z φ (μ.set n ob')) H := ⟨fun b u h hs _ => ⟨h, fun z => hs (s1 z)⟩⟩
  have back : ∀ {k : Nat} {w : Ob}, (μ.set n ob')[k]? = some w → w.live = true → ∃ w', μ[k]? = some w' ∧ w'.live = true := fun {k w} hk hw => by
    by_cases e : n = k
    · subst e; exact ⟨ob, h2, h3⟩
    · rw [List.getElem?_set_ne e] at hk; exact ⟨w, hk, hw⟩
  refine ⟨⟨fun _ _ h => h, ex, fun _ _ => rfl⟩, ⟨by rw [List.length_set]; exact r.len, fun i j b o1 u1 e1 e2 e3 e4 l1 l2 => ?_, fun m b ob1 e1 e2 => ?_, r.res, fun m b o1 e1 e2 l => ?_, r.tab⟩, List.length_set⟩
  · obtain ⟨w1, f1, g1⟩ := back e3 l1
    obtain ⟨w2, f2, g2⟩ := back e4 l2
    exact r.one i j b w1 w2 e1 e2 f1 f2 g1 g2
  · by_cases e : n = m
    · subst e
      rw [h1] at e1
      cases e1
      rw [List.getElem?_set_self hn] at e2
      cases e2
      exact h.ex ex fun _ _ q => q
    · rw [List.getElem?_set_ne e] at e2
      exact (r.at_ m b ob1 e1 e2).ex ex fun _ _ q => q
  · obtain ⟨w, f, g⟩ := back e2 l
    exact r.apart m b w e1 f g
theorem ObR.us {a : Addr} : ∀ {ob : Ob}, ob.live = true → ObR G φ (Sof Z φ μ) H a ob → ∃ vs, RpUs G φ (Sof Z φ μ) H ob.us vs ∧ ∀ {μ' : Mu} {ds : List D}, RpL G (Sof Z φ μ') H ds vs → ObR G φ (Sof Z φ μ') H a (ob.re ds)
  | .fz _, l, _ => by cases l
  | .lst us, _, ⟨vs, e, r⟩ => ⟨vs, r, fun q => ⟨vs, e, q.us⟩⟩
  | .dic ks us, _, ⟨vs, e, l, r⟩ => ⟨vs, r, fun q => ⟨vs, e, l, q.us⟩⟩
  | .dit ks us, _, ⟨vs, e, l, r⟩ => ⟨vs, r, fun q => ⟨vs, e, l, q.us⟩⟩
  | .ins c ns us, _, ⟨dx, vs, e, l, r⟩ => ⟨vs, r, fun q => ⟨dx, vs, e, l, q.us⟩⟩
theorem clean_ok {i : Nat} (h : clean i μ = some μ') (r : Rep G Z φ H μ) : Fq G Z φ H μ μ' := by
  unfold clean at h
  split at h
  · rename_i ob hob
    split at h
    · rename_i hl
      split at h
      · rename_i ds μ1 hf
        obtain ⟨a, ha⟩ : ∃ a, φ[i]? = some a := ⟨_, List.getElem?_eq_getElem (by rw [r.len]; exact (List.getElem?_eq_some_iff.mp hob).1)⟩
        obtain ⟨vs, q1, q2⟩ := ObR.us hl (r.at_ i a ob ha hob)
        obtain ⟨F, rl⟩ := frzL_ok hf r q1
        split at h
        · rename_i ob1 hob1
          split at h
          · rename_i hl1
            cases h
            exact F.fq.trans (F.rep.re ha hob1 hl1 (by rw [Ob.re_live]; exact hl) (q2 rl))
          · cases h; exact F.fq
        · cases h
      · cases h
    · cases h; exact Fq.refl r
  · cases h
theorem cleans_ok : ∀ {n : Nat} {μ' : Mu}, cleans n μ = some μ' → Rep G Z φ H μ → Fq G Z φ H μ μ'
  | 0, μ', h, r => by cases h; exact Fq.refl r
  | n + 1, μ', h, r => by
    unfold cleans at h
    split at h
    · rename_i μ1 h1
      have F := cleans_ok h1 r
      exact F.trans (clean_ok h F.rep)
    · cases h
theorem Sof.take {k : Nat} {a : Addr} (h : Sof Z (φ.take k) (μ.take k) a) : Sof Z φ μ a := by
  rcases h with h | ⟨n, o, h1, h2, h3⟩
  · exact .inl h
  · have hk : n < k := by
      have := (List.getElem?_eq_some_iff.mp h1).1
      rw [List.length_take] at this
      omega
    rw [List.getElem?_take_of_lt hk] at h1 h2
    exact .inr ⟨n, o, h1, h2, h3⟩
theorem Ex.take {k : Nat} : Ex (Sof Z φ μ) H (Sof Z (φ.take k) (μ.take k)) H := ⟨fun a u h n _ => ⟨h, fun z => n z.take⟩⟩
theorem dOnlyUs {S S' : Addr → Prop} {ψ : List Addr} {H' : Hp} (e : Ex S H S' H') : ∀ {ds : List D} {vs : List V}, RpUs G φ S H (ds.map .d) vs → RpUs G ψ S' H' (ds.map .d) vs
  | [], _, h => h
  | d :: ds, _, ⟨v, r, q, a, b⟩ => ⟨v, r, q, Rp.mono e a, dOnlyUs e b⟩
theorem ObR.od {S S' : Addr → Prop} {ψ : List Addr} {H' : Hp} (e : Ex S H S' H') {a : Addr} : ∀ {o : OD}, (o.live = true → ∀ u, H a = some u → H' a = some u) → ObR G φ S H a o.ob → ObR G ψ S' H' a o.ob
  | .fz x, _, h => Rp.mono e h
  | .lst us, k, ⟨vs, q, r⟩ => ⟨vs, k rfl _ q, dOnlyUs e r⟩
  | .dic ks us, k, ⟨vs, q, l, r⟩ => ⟨vs, k rfl _ q, l, dOnlyUs e r⟩
  | .dit ks us, k, ⟨vs, q, l, r⟩ => ⟨vs, k rfl _ q, l, dOnlyUs e r⟩
  | .ins c ns us, k, ⟨dx, vs, q, l, r⟩ => ⟨dx, vs, k rfl _ q, l, dOnlyUs e r⟩
theorem Rep.take (r : Rep G Z φ H μ) {k : Nat} {os : List OD} (h : μ.take k = obs os) : Rep G Z (φ.take k) H (obs os) := by
  rw [← h]
  refine ⟨by rw [List.length_take, List.length_take, r.len], fun n m a o u h1 h2 h3 h4 l1 l2 => ?_, fun n a o h1 h2 => ?_, r.res, fun n a o h1 h2 l => ?_, r.tab⟩
  · have k1 : n < k := by have := (List.getElem?_eq_some_iff.mp h1).1; rw [List.length_take] at this; omega
    have k2 : m < k := by have := (List.getElem?_eq_some_iff.mp h2).1; rw [List.length_take] at this; omega
    rw [List.getElem?_take_of_lt k1] at h1 h3
    rw [List.getElem?_take_of_lt k2] at h2 h4
    exact r.one n m a o u h1 h2 h3 h4 l1 l2
  · have k1 : n < k := by have := (List.getElem?_eq_some_iff.mp h1).1; rw [List.length_take] at this; omega
    have h2' := h2
    rw [h] at h2'
    obtain ⟨od, _, rfl⟩ : ∃ od, os[n]? = some od ∧ od.ob = o := by
      rw [List.getElem?_map] at h2'
      cases q : os[n]? with
      | none => rw [q] at h2'; cases h2'
      | some x => rw [q] at h2'; exact ⟨x, rfl, Option.some.inj h2'⟩
    rw [List.getElem?_take_of_lt k1] at h1 h2
    exact (r.at_ n a _ h1 h2).od Ex.take fun _ _ e => e
  · have k1 : n < k := by have := (List.getElem?_eq_some_iff.mp h1).1; rw [List.length_take] at this; omega
    rw [List.getElem?_take_of_lt k1] at h1 h2
    exact r.apart n a o h1 h2 l
end
theorem take_pre {φ φ' : List Addr} (h : ∀ (n : Nat) (a : Addr), φ[n]? = some a → φ'[n]? = some a) : φ'.take φ.length = φ := by
  apply List.ext_getElem?
  intro n
  by_cases hn : n < φ.length
  · rw [List.getElem?_take_of_lt hn, List.getElem?_eq_getElem hn]
    exact h n _ (List.getElem?_eq_getElem hn)
  · rw [List.getElem?_eq_none (by rw [List.length_take]; omega), List.getElem?_eq_none (by omega)]

section
variable {G : Gc} {Z : Addr → Prop} {E : XK} {φ : List Addr} {os : List OD} {H : Hp} {Q : VK}
theorem Go.takeO {φ' : List Addr} {μ μ' : Mu} {H' : Hp} (g : Go Z φ μ H φ' μ' H') (hp : φ'.take φ.length = φ) {os' : List OD} (h : μ'.take φ.length = obs os') : Go Z φ μ H φ (obs os') H' := by
  refine ⟨fun _ _ h => h, g.ex.trans ?_, g.rs⟩
  have e := Ex.take (Z := Z) (φ := φ') (μ := μ') (H := H') (k := φ.length)
  rw [hp, h] at e
  exact e
/-- the way out, told to the promise -/
theorem fin_ok {u : U} {μ' : Mu} (r0 : Rep G Z φ H (obs os)) (po : PoF G Z E φ (obs os) H (finF os.length u μ') Q) {φ' : List Addr} {H' : Hp} {v : V} (g : Go Z φ (obs os) H φ' μ' H') (r : Rep G Z φ' H' μ') (ru : RpU G φ' (Sof Z φ' μ') H' u v) : Q v H' := by
  have hlen : os.length = φ.length := by rw [r0.len, List.length_map]
  have hp := take_pre g.ph
  unfold finF at po
  split at po
  · rename_i u1 μ1 h1
    have step : Fq G Z φ' H' μ' μ1 ∧ RpU G φ' (Sof Z φ' μ1) H' u1 v ∧ (∀ n, u1 = .p n → n < os.length) := by
      cases u with
      | d x => cases h1; exact ⟨Fq.refl r, ru, fun n e => nomatch e⟩
      | p n =>
        dsimp only at h1
        split at h1
        · rename_i hn; cases h1; exact ⟨Fq.refl r, ru, fun m e => by cases e; exact hn⟩
        · obtain ⟨⟨d, μ2⟩, h2, h3⟩ := Option.map_eq_some_iff.mp h1
          cases h3
          obtain ⟨F, rd⟩ := frzU_ok h2 r ru
          exact ⟨F.fq, rd, fun m e => nomatch e⟩
    obtain ⟨F1, ru1, hu1⟩ := step
    split at po
    · rename_i μ2 h2
      have F2 := cleans_ok h2 F1.rep
      split at po
      · rename_i os' h3
        have e3 := readOs_eq h3
        rw [hlen] at e3
        have g2 := (g.trans F1.go).trans F2.go
        have rt := F2.rep.take e3
        rw [hp] at rt
        refine po H' v (Go.takeO g2 hp e3) rt ?_
        have ru2 := ru1.mono F2.go
        cases u1 with
        | d x =>
          have e := Ex.take (Z := Z) (φ := φ') (μ := μ2) (H := H') (k := φ.length)
          rw [hp, e3] at e
          exact Rp.mono e ru2
        | p n =>
          obtain ⟨a, q1, q2⟩ := ru2
          refine ⟨a, q1, ?_⟩
          rw [← hp, List.getElem?_take_of_lt (by rw [← hlen]; exact hu1 n rfl)]
          exact q2
      · exact False.elim po
    · exact False.elim po
  · exact False.elim po
theorem finN_ok {u : U} {μ' : Mu} (r0 : Rep G Z φ H (obs os)) (po : PoF G Z E φ (obs os) H (finN os.length u μ') Q) {φ' : List Addr} {H' : Hp} {v : V} (g : Go Z φ (obs os) H φ' μ' H') (r : Rep G Z φ' H' μ') (ru : RpU G φ' (Sof Z φ' μ') H' u v) : Q v H' := by
  have hlen : os.length = φ.length := by rw [r0.len, List.length_map]
  have hp := take_pre g.ph
  unfold finN at po
  split at po
  · rename_i n
    split at po
    · exact False.elim po
    · rename_i hn
      obtain ⟨a, rfl, ha⟩ := ru
      split at po
      · rename_i μ1 h1
        have F1 := cleans_ok h1 r
        split at po
        · rename_i μ2 h2
          have F2 := F1.trans (clean_ok h2 F1.rep)
          split at po
          · rename_i os' ob h3 h4
            split at po
            · rename_i hl
              split at po
              · rename_i o h5
                have e3 := readOs_eq h3
                rw [hlen] at e3
                have e5 := readO_eq h5
                subst e5
                have g2 := g.trans F2.go
                have rt := F2.rep.take e3
                rw [hp] at rt
                have hk : (obs os').length = φ.length := rt.len.symm
                have sub : ∀ {b : Addr}, Sof Z (φ ++ [a]) (obs os' ++ [o.ob]) b → Sof Z φ' μ2 b := fun {b} z => by
                  rcases Sof.snoc (by rw [hk]) z with z | z
                  · have z' : Sof Z (φ'.take φ.length) (μ2.take φ.length) b := by rw [hp, e3]; exact z
                    exact z'.take
                  · exact .inr ⟨n, o.ob, by rw [z]; exact ha, h4, hl⟩
                have ex : Ex (Sof Z φ' μ2) H' (Sof Z (φ ++ [a]) (obs os' ++ [o.ob])) H' := ⟨fun b u h hs _ => ⟨h, fun z => hs (sub z)⟩⟩
                have at_ : ObR G (φ ++ [a]) (Sof Z (φ ++ [a]) (obs os' ++ [o.ob])) H' a o.ob := (F2.rep.at_ n a _ ha h4).od ex fun _ _ e => e
                have inn : ∀ {m : Nat} {w : Ob}, (obs os')[m]? = some w → μ2[m]? = some w ∧ m < φ.length := fun {m w} hm => by
                  have hmk : m < φ.length := by have := (List.getElem?_eq_some_iff.mp hm).1; omega
                  rw [← e3, List.getElem?_take_of_lt hmk] at hm
                  exact ⟨hm, hmk⟩
                have inφ : ∀ {m : Nat} {b : Addr}, m < φ.length → φ[m]? = some b → φ'[m]? = some b := fun {m b} hm hb => g.ph m b hb
                refine po a H' (.ref a) ⟨fun m b h => snoc_of h, g2.ex.trans ex, g2.rs⟩ ⟨?_, ?_, ?_, F2.rep.res, ?_, F2.rep.tab⟩ ⟨a, rfl, by rw [hlen]; exact snoc_last⟩
                · rw [List.length_append, List.length_append, hk]; rfl
                · intro i j b o1 u1 e1 e2 f1 f2 l1 l2
                  rcases getElem?_snoc f1 with q1 | ⟨q1, q1'⟩
                  · obtain ⟨p1, m1⟩ := inn q1
                    rw [List.getElem?_append_left m1] at e1
                    rcases getElem?_snoc f2 with q2 | ⟨q2, q2'⟩
                    · obtain ⟨p2, m2⟩ := inn q2
                      rw [List.getElem?_append_left m2] at e2
                      exact F2.rep.one i j b o1 u1 (inφ m1 e1) (inφ m2 e2) p1 p2 l1 l2
                    · rw [q2, hk, snoc_last] at e2
                      cases e2
                      have := F2.rep.one i n a o1 o.ob (inφ m1 e1) ha p1 h4 l1 hl
                      omega
                  · rw [q1, hk, snoc_last] at e1
                    cases e1
                    rcases getElem?_snoc f2 with q2 | ⟨q2, q2'⟩
                    · obtain ⟨p2, m2⟩ := inn q2
                      rw [List.getElem?_append_left m2] at e2
                      have := F2.rep.one j n a u1 o.ob (inφ m2 e2) ha p2 h4 l2 hl
                      omega
                    · omega
                · intro m b o1 e1 f1
                  rcases getElem?_snoc f1 with q1 | ⟨q1, q1'⟩
                  · obtain ⟨p1, m1⟩ := inn q1
                    rw [List.getElem?_append_left m1] at e1
                    obtain ⟨od, _, rfl⟩ : ∃ od, os'[m]? = some od ∧ od.ob = o1 := by
                      rw [List.getElem?_map] at q1
                      cases q : os'[m]? with
                      | none => rw [q] at q1; cases q1
                      | some x => rw [q] at q1; exact ⟨x, rfl, Option.some.inj q1⟩
                    exact (F2.rep.at_ m b _ (inφ m1 e1) p1).od ex fun _ _ e => e
                  · rw [q1, hk, snoc_last] at e1
                    cases e1
                    rw [q1']
                    exact at_
                · intro m b o1 e1 f1 l
                  rcases getElem?_snoc f1 with q1 | ⟨q1, q1'⟩
                  · obtain ⟨p1, m1⟩ := inn q1
                    rw [List.getElem?_append_left m1] at e1
                    exact F2.rep.apart m b o1 (inφ m1 e1) p1 l
                  · rw [q1, hk, snoc_last] at e1
                    cases e1
                    exact F2.rep.apart n a _ ha h4 hl
              · exact False.elim po
            · exact False.elim po
          · exact False.elim po
        · exact False.elim po
      · exact False.elim po
  · exact False.elim po
theorem sls_start : ∀ {us : List U} {vs : List V} {S : Addr → Prop}, RpUs G φ S H us vs → ∀ (k : Nat), Sls G φ S H (us.map some ++ List.replicate k none) (vs.map some ++ List.replicate k none)
  | [], _, S, h, k => by
    obtain rfl := (show _ = [] from h)
    show Sls G φ S H (List.replicate k none) (List.replicate k none)
    induction k with
    | zero => exact rfl
    | succ k ih => exact ⟨none, _, rfl, True.intro, ih⟩
  | u :: us, _, S, ⟨v, r, e, a, b⟩, k => by
    subst e
    exact ⟨some v, _, rfl, ⟨v, rfl, a⟩, sls_start b k⟩
theorem entry_ok {N : List Str} {vs : List V} {fresh : Bool} {b : SmS} {n : Nat} (h : spD G (entry N.length fresh b) n vs H Q E) : rdS G (fun cls d _ H => E cls d H) b { nx := fun _ H' => Q .non H', rt := Q } (L2.start N vs) H := by
  obtain ⟨hn, Z, φ, os, us, r, ru, po⟩ := h
  have hl := ru.length
  refine ⟨Z, φ, us.map some ++ List.replicate (N.length - us.length) none, obs os, ⟨r, ?_⟩, ?_⟩
  · have s := sls_start ru (N.length - us.length)
    unfold L2.start
    rw [hl]
    exact s
  · have po' : PoF G Z E φ (obs os) H (exitF os.length fresh (b (us.map some ++ List.replicate (N.length - us.length) none) (obs os))) Q := po
    cases hb : b (us.map some ++ List.replicate (N.length - us.length) none) (obs os) with
    | nx ρ1 μ1 =>
      rw [hb] at po'
      exact fun φ1 H1 σ1 g s => fin_ok (u := .d .non) (v := .non) r po' g s.rep (show Rp G (Sof Z φ1 μ1) H1 .non .non from rfl)
    | ret u μ1 =>
      rw [hb] at po'
      intro φ1 H1 v g r1 ru1
      unfold exitF at po'
      dsimp only at po'
      split at po'
      · exact finN_ok r po' g r1 ru1
      · exact fin_ok r po' g r1 ru1
    | brk ρ1 μ1 => rw [hb] at po'; exact False.elim po'
    | ct ρ1 μ1 => rw [hb] at po'; exact False.elim po'
    | bad => rw [hb] at po'; exact False.elim po'
    | err c ns vs ρ1 μ1 =>
      rw [hb] at po'
      intro φ1 H1 σ1 cls dx g s er
      unfold exitF at po'
      dsimp only at po'
      have hlen : os.length = φ.length := by rw [r.len, List.length_map]
      have hp := take_pre g.ph
      split at po'
      · rename_i μ2 h2
        have F2 := cleans_ok h2 s.rep
        split at po'
        · rename_i os' h3
          have e3 := readOs_eq h3
          rw [hlen] at e3
          have g2 := g.trans F2.go
          have rt := F2.rep.take e3
          rw [hp] at rt
          have e := Ex.take (Z := Z) (φ := φ1) (μ := μ2) (H := H1) (k := φ.length)
          rw [hp, e3] at e
          exact po' H1 cls dx (Go.takeO g2 hp e3) rt ((er.mono F2.go.ex).mono e)
        · exact False.elim po'
      · exact False.elim po'
end
end Iv
set_option Elab.async false
set_option linter.all false
set_option maxRecDepth 100000
set_option maxHeartbeats 2000000
set_option autoImplicit false
/-! Iv, part G: calls of defs, by the caller. -/
namespace Iv
open PySem PySem.Spec PyProof.Rows L2

/-- the objects handed over are told anew -/
def setAll : List Nat → List OD → Mu → Mu
  | n :: ns, o :: os, μ => setAll ns os (μ.set n o.ob)
  | _, _, μ => μ
/-- what is handed over: where fl says so the object itself, else data -/
def pass : List Bool → List U → Mu → List Nat → Option (List U × List Nat × Mu)
  | _, [], μ, ns => some ([], ns, μ)
  | fl, u :: us, μ, ns => match (match fl, u with
      | true :: _, .p n => (clean n μ).map fun μ1 => (.p ns.length, ns ++ [n], μ1)
      | _, u => (frzU 9 u μ).map fun p => (.d p.1, ns, p.2) : Option (U × List Nat × Mu)) with
    | some (w, ns1, μ1) => match pass fl.tail us μ1 ns1 with
      | some (ws, ns2, μ2) => some (w :: ws, ns2, μ2)
      | none => none
    | none => none
def readAt (μ : Mu) : List Nat → Option (List OD)
  | [] => some []
  | n :: ns => match μ[n]? with
    | some ob => if ob.live = true then (match readO ob with
      | some o => match readAt μ ns with
        | some os => some (o :: os)
        | none => none
      | none => none) else none
    | none => none
def back (ns : List Nat) (μ : Mu) : FR → Res U
  | .ok u os none => if os.length = ns.length then (match u with
      | .d d => .ok (.d d) (setAll ns os μ)
      | .p i => match ns[i]? with
        | some n => .ok (.p n) (setAll ns os μ)
        | none => .bad) else .bad
  | .ok u os (some o) => if os.length = ns.length then (match u with
      | .d d => .bad
      | .p i => if i = ns.length then .ok (.p μ.length) (setAll ns os μ ++ [o.ob]) else .bad) else .bad
  | .err c es vs os => if os.length = ns.length then .err c es vs (setAll ns os μ) else .bad
  | .bad => .bad
def callL (f : Fn) (fl : List Bool) (us : List U) (μ : Mu) : Res U := match pass fl us μ [] with
  | some (ws, ns, μ1) => if ns.Nodup then (match readAt μ1 ns with
      | some os => back ns μ1 (f ws os)
      | none => .bad) else .bad
  | none => .bad

theorem setAll_length : ∀ {ns : List Nat} {os : List OD} {μ : Mu}, (setAll ns os μ).length = μ.length
  | [], _, _ => rfl
  | n :: ns, [], _ => rfl
  | n :: ns, o :: os, μ => by
    show (setAll ns os (μ.set n o.ob)).length = μ.length
    rw [setAll_length, List.length_set]
theorem setAll_out : ∀ {ns : List Nat} {os : List OD} {μ : Mu} {m : Nat}, m ∉ ns → (setAll ns os μ)[m]? = μ[m]?
  | [], _, _, _, _ => rfl
  | n :: ns, [], _, _, _ => rfl
  | n :: ns, o :: os, μ, m, h => by
    show (setAll ns os (μ.set n o.ob))[m]? = μ[m]?
    rw [setAll_out fun z => h (List.mem_cons_of_mem _ z), List.getElem?_set_ne fun z => h (by rw [z]; exact List.mem_cons_self)]
theorem setAll_in : ∀ {ns : List Nat} {os : List OD} {μ : Mu} {i n : Nat} {o : OD}, ns.Nodup → ns[i]? = some n → os[i]? = some o → n < μ.length → (setAll ns os μ)[n]? = some o.ob
  | n0 :: ns, o0 :: os, μ, 0, n, o, nd, h1, h2, hn => by
    cases h1; cases h2
    show (setAll ns os (μ.set n0 o0.ob))[n0]? = some o0.ob
    rw [setAll_out (List.nodup_cons.mp nd).1, List.getElem?_set_self hn]
  | n0 :: ns, o0 :: os, μ, i + 1, n, o, nd, h1, h2, hn => by
    show (setAll ns os (μ.set n0 o0.ob))[n]? = some o.ob
    exact setAll_in (List.nodup_cons.mp nd).2 h1 h2 (by rw [List.length_set]; exact hn)
theorem nodup_at : ∀ {ns : List Nat} {i j n : Nat}, ns.Nodup → ns[i]? = some n → ns[j]? = some n → i = j
  | n0 :: ns, 0, 0, n, nd, h1, h2 => rfl
  | n0 :: ns, 0, j + 1, n, nd, h1, h2 => by
    cases h1
    exact absurd (List.mem_of_getElem? (show ns[j]? = some n0 from h2)) (List.nodup_cons.mp nd).1
  | n0 :: ns, i + 1, 0, n, nd, h1, h2 => by
    cases h2
    exact absurd (List.mem_of_getElem? (show ns[i]? = some n0 from h1)) (List.nodup_cons.mp nd).1
  | n0 :: ns, i + 1, j + 1, n, nd, h1, h2 => congrArg Nat.succ (nodup_at (i := i) (j := j) (n := n) (List.nodup_cons.mp nd).2 h1 h2)
theorem mem_get {ns : List Nat} {n : Nat} (h : n ∈ ns) : ∃ i : Nat, ns[i]? = some n := List.getElem?_of_mem h
theorem obs_get {os : List OD} {i : Nat} {ob : Ob} (h : (obs os)[i]? = some ob) : ∃ o, os[i]? = some o ∧ o.ob = ob := by
  rw [List.getElem?_map] at h
  cases q : os[i]? with
  | none => rw [q] at h; cases h
  | some x => rw [q] at h; exact ⟨x, rfl, Option.some.inj h⟩
theorem obs_at {os : List OD} {i : Nat} {o : OD} (h : os[i]? = some o) : (obs os)[i]? = some o.ob := by
  rw [List.getElem?_map, h]; rfl

section
variable {G : Gc} {Z : Addr → Prop} {φ : List Addr} {μ : Mu} {H : Hp}
/-- what is handed over, as it stands with the caller: ψ are new objects of the callee's own -/
structure Loc (φ : List Addr) (μ : Mu) (ns : List Nat) (os : List OD) (φl : List Addr) : Prop where
  nd : ns.Nodup
  len : os.length = ns.length
  at_ : ∀ (i n : Nat), ns[i]? = some n → ∃ a o, φ[n]? = some a ∧ φl[i]? = some a ∧ os[i]? = some o ∧ μ[n]? = some o.ob ∧ o.live = true
/-- for the callee all that may change but what is handed over is out of reach -/
def Zl (Z : Addr → Prop) (φ : List Addr) (μ : Mu) (φl : List Addr) : Addr → Prop := fun a => Sof Z φ μ a ∧ a ∉ φl
theorem Loc.out {ns : List Nat} {os : List OD} {φl : List Addr} (L : Loc φ μ ns os φl) (r : Rep G Z φ H μ) {m : Nat} {a : Addr} {ob : Ob} (h1 : φ[m]? = some a) (h2 : μ[m]? = some ob) (h3 : ob.live = true) (hm : m ∉ ns) {i : Nat} (hi : i < ns.length) : φl[i]? ≠ some a := fun z => by
  obtain ⟨b, o, e1, e2, e3, e4, e5⟩ := L.at_ i ns[i] (List.getElem?_eq_getElem hi)
  rw [z] at e2
  cases e2
  have := r.one m ns[i] a ob o.ob h1 e1 h2 e4 h3 (by rw [OD.ob_live]; exact e5)
  exact hm (by rw [this]; exact List.getElem_mem hi)
/-- behind the call: φl' the callee's places (the handed ones first), os' what stands there -/
theorem loc_back {ns : List Nat} {os : List OD} {φl φl' : List Addr} {μl μl' : Mu} {os' : List OD} {H1 H' : Hp} (r : Rep G Z φ H μ) (L : Loc φ μ ns os φl) (hll : ∀ (i : Nat), ns.length ≤ i → ∀ a, φl[i]? = some a → ¬ Sof Z φ μ a)
    (E1 : Ex (Sof Z φ μ) H (Sof (Zl Z φ μ φl) φl μl) H1) (hL : ∀ a, Sof Z φ μ a → H1 a = H a)
    (g : Go (Zl Z φ μ φl) φl μl H1 φl' μl' H') (r' : Rep G (Zl Z φ μ φl) φl' H' μl') (hos : os'.length = ns.length) (hμ : ∀ (i : Nat) (o : OD), os'[i]? = some o → μl'[i]? = some o.ob) :
    Go Z φ μ H φ (setAll ns os' μ) H' ∧ Rep G Z φ H' (setAll ns os' μ) ∧ ∀ a, Sof Z φ (setAll ns os' μ) a → Sof (Zl Z φ μ φl) φl' μl' a := by
  -- places of the caller that live behind the call
  have inn : ∀ {i n : Nat}, ns[i]? = some n → ∃ a o', φ[n]? = some a ∧ φl[i]? = some a ∧ φl'[i]? = some a ∧ os'[i]? = some o' ∧ (setAll ns os' μ)[n]? = some o'.ob ∧ μl'[i]? = some o'.ob ∧ ∃ ob, μ[n]? = some ob ∧ ob.live = true := fun {i n} hi => by
    obtain ⟨a, o, e1, e2, e3, e4, e5⟩ := L.at_ i n hi
    have hil : i < os'.length := by rw [hos]; exact (List.getElem?_eq_some_iff.mp hi).1
    have e6 : os'[i]? = some os'[i] := List.getElem?_eq_getElem hil
    exact ⟨a, os'[i], e1, e2, g.ph i a e2, e6, setAll_in L.nd hi e6 (List.getElem?_eq_some_iff.mp e4).1, hμ i _ e6, o.ob, e4, by rw [OD.ob_live]; exact e5⟩
  have live0 : ∀ {m : Nat} {a : Addr} {ob : Ob}, φ[m]? = some a → (setAll ns os' μ)[m]? = some ob → ob.live = true → m ∉ ns → μ[m]? = some ob ∧ Zl Z φ μ φl a := fun {m a ob} h1 h2 h3 hm => by
    rw [setAll_out hm] at h2
    refine ⟨h2, .inr ⟨m, ob, h1, h2, h3⟩, fun z => ?_⟩
    obtain ⟨i, hi⟩ := List.getElem?_of_mem z
    by_cases hn : i < ns.length
    · exact L.out r h1 h2 h3 hm hn hi
    · exact hll i (by omega) a hi (.inr ⟨m, ob, h1, h2, h3⟩)
  have zz : ∀ {a : Addr}, Z a → Zl Z φ μ φl a := fun {a} h => ⟨.inl h, fun z => by
    obtain ⟨i, hi⟩ := List.getElem?_of_mem z
    by_cases hn : i < ns.length
    · obtain ⟨b, o, e1, e2, e3, e4, e5⟩ := L.at_ i ns[i] (List.getElem?_eq_getElem hn)
      rw [hi] at e2
      cases e2
      exact r.apart _ a _ e1 e4 (by rw [OD.ob_live]; exact e5) h
    · exact hll i (by omega) a hi (.inl h)⟩
  have sub : ∀ a, Sof Z φ (setAll ns os' μ) a → Sof (Zl Z φ μ φl) φl' μl' a := fun a z => by
    rcases z with z | ⟨m, ob, h1, h2, h3⟩
    · exact .inl (zz z)
    by_cases hm : m ∈ ns
    · obtain ⟨i, hi⟩ := mem_get hm
      obtain ⟨b, o', e1, e2, e3, e4, e5, e6, _⟩ := inn hi
      rw [h1] at e1
      cases e1
      rw [h2] at e5
      cases e5
      exact .inr ⟨i, o'.ob, e3, e6, h3⟩
    · exact .inl (live0 h1 h2 h3 hm).2
  have back0 : ∀ {m : Nat} {ob : Ob}, (setAll ns os' μ)[m]? = some ob → ob.live = true → ∃ ob0, μ[m]? = some ob0 ∧ ob0.live = true := fun {m ob} h2 h3 => by
    by_cases hm : m ∈ ns
    · obtain ⟨i, hi⟩ := mem_get hm
      obtain ⟨b, o', e1, e2, e3, e4, e5, e6, ob0, q1, q2⟩ := inn hi
      exact ⟨ob0, q1, q2⟩
    · rw [setAll_out hm] at h2
      exact ⟨ob, h2, h3⟩
  have exS : Ex (Sof (Zl Z φ μ φl) φl' μl') H' (Sof Z φ (setAll ns os' μ)) H' := ⟨fun a o h hs _ => ⟨h, fun z => hs (sub a z)⟩⟩
  have ex : Ex (Sof Z φ μ) H (Sof Z φ (setAll ns os' μ)) H' := (E1.trans g.ex).trans exS
  have stay : ∀ {a : Addr}, Zl Z φ μ φl a → H' a = H a := fun {a} z => (g.rs a z).trans (hL a z.1)
  refine ⟨⟨fun _ _ h => h, ex, fun a h => stay (zz h)⟩, ⟨by rw [setAll_length]; exact r.len, fun i j b o1 u1 e1 e2 e3 e4 l1 l2 => ?_, fun m b ob1 e1 e2 => ?_, fun a h => ?_, fun m b o1 e1 e2 l => ?_, r'.tab⟩, sub⟩
  · obtain ⟨w1, f1, g1⟩ := back0 e3 l1
    obtain ⟨w2, f2, g2⟩ := back0 e4 l2
    exact r.one i j b w1 w2 e1 e2 f1 f2 g1 g2
  · by_cases hm : m ∈ ns
    · obtain ⟨i, hi⟩ := mem_get hm
      obtain ⟨a, o', q1, q2, q3, q4, q5, q6, _⟩ := inn hi
      rw [e1] at q1
      cases q1
      rw [e2] at q5
      cases q5
      exact (r'.at_ i b _ q3 q6).od exS fun _ _ e => e
    · rw [setAll_out hm] at e2
      refine (r.at_ m b ob1 e1 e2).ex ex fun l u hu => ?_
      rw [stay (live0 e1 (by rw [setAll_out hm]; exact e2) l hm).2]
      exact hu
  · obtain ⟨o, e, nt⟩ := r.res a h
    exact ⟨o, by rw [stay (zz h)]; exact e, nt⟩
  · obtain ⟨w, f, gl⟩ := back0 e2 l
    exact r.apart m b w e1 f gl
/-- what pass hands over -/
theorem pass_ok : ∀ {fl : List Bool} {us : List U} {vs : List V} {μ μ' : Mu} {ns0 ns : List Nat} {ws : List U}, pass fl us μ ns0 = some (ws, ns, μ') → Rep G Z φ H μ → RpUs G φ (Sof Z φ μ) H us vs →
    Fq G Z φ H μ μ' ∧ (∃ more, ns = ns0 ++ more) ∧ ∀ {ψ : List Addr} {S : Addr → Prop}, Ex (Sof Z φ μ') H S H → (∀ (i n : Nat) (a : Addr), ns[i]? = some n → φ[n]? = some a → ψ[i]? = some a) → RpUs G ψ S H ws vs
  | fl, [], vs, μ, μ', ns0, ns, ws, h, r, ru => by
    have h' : some (([] : List U), ns0, μ) = some (ws, ns, μ') := by cases fl <;> exact h
    cases h'
    exact ⟨Fq.refl r, ⟨[], (List.append_nil _).symm⟩, fun _ _ => ru⟩
  | fl, u :: us, vs, μ, μ', ns0, ns, ws, h, r, ⟨v, vs', e, ru, rus⟩ => by
    unfold pass at h
    split at h
    · rename_i w ns1 μ1 h1
      split at h
      · rename_i ws' ns2 μ2 h2
        cases h
        have dcase : (frzU 9 u μ).map (fun p => ((U.d p.1, ns0, p.2) : U × List Nat × Mu)) = some (w, ns1, μ1) → Fq G Z φ H μ μ' ∧ (∃ more, ns = ns0 ++ more) ∧ ∀ {ψ : List Addr} {S : Addr → Prop}, Ex (Sof Z φ μ') H S H → (∀ (i n : Nat) (a : Addr), ns[i]? = some n → φ[n]? = some a → ψ[i]? = some a) → RpUs G ψ S H (w :: ws') vs := fun q => by
          obtain ⟨⟨d, μ3⟩, h3, h4⟩ := Option.map_eq_some_iff.mp q
          cases h4
          obtain ⟨F, rd⟩ := frzU_ok h3 r ru
          obtain ⟨F2, m2, k2⟩ := pass_ok h2 F.rep (rus.mono F.go)
          exact ⟨F.fq.trans F2, m2, fun {ψ S} ex hψ => ⟨v, vs', e, Rp.mono ex (Rp.mono F2.go.ex rd), k2 ex hψ⟩⟩
        cases u with
        | d x => exact dcase (by cases fl with
          | nil => exact h1
          | cons b fl => cases b <;> exact h1)
        | p n =>
          cases fl with
          | nil => exact dcase h1
          | cons b fl =>
            cases b with
            | false => exact dcase h1
            | true =>
              obtain ⟨μ3, h3, h4⟩ := Option.map_eq_some_iff.mp (show (clean n μ).map (fun μ1 => ((U.p ns0.length, ns0 ++ [n], μ1) : U × List Nat × Mu)) = some (w, ns1, μ1) from h1)
              cases h4
              have F := clean_ok h3 r
              obtain ⟨F2, ⟨more, m2⟩, k2⟩ := pass_ok h2 F.rep (rus.mono F.go)
              refine ⟨F.trans F2, ⟨n :: more, by rw [m2, List.append_assoc]; rfl⟩, fun {ψ S} ex hψ => ⟨v, vs', e, ?_, k2 ex hψ⟩⟩
              obtain ⟨a, e1, e2⟩ := ru
              exact ⟨a, e1, hψ ns0.length n a (by rw [m2, List.append_assoc, List.getElem?_append_right (Nat.le_refl _)]; simp) e2⟩
      · cases h
    · cases h
theorem readAt_len : ∀ {ns : List Nat} {os : List OD}, readAt μ ns = some os → os.length = ns.length
  | [], os, h => by cases h; rfl
  | n :: ns, os, h => by
    unfold readAt at h
    split at h
    · split at h
      · split at h
        · split at h
          · rename_i os' h'
            cases h
            rw [List.length_cons, List.length_cons, readAt_len h']
          · cases h
        · cases h
      · cases h
    · cases h
theorem readAt_at : ∀ {ns : List Nat} {os : List OD} {i n : Nat}, readAt μ ns = some os → ns[i]? = some n → ∃ o, os[i]? = some o ∧ μ[n]? = some o.ob ∧ o.live = true
  | n0 :: ns, os, i, n, h, hi => by
    unfold readAt at h
    split at h
    · rename_i ob hob
      split at h
      · rename_i hl
        split at h
        · rename_i o ho
          split at h
          · rename_i os' h'
            cases h
            cases i with
            | zero =>
              cases hi
              have e := readO_eq ho
              subst e
              exact ⟨o, rfl, hob, by rw [← OD.ob_live]; exact hl⟩
            | succ i => exact readAt_at (i := i) h' hi
          · cases h
        · cases h
      · cases h
    · cases h
/-- the callee's places -/
def placesOf (φ : List Addr) (ns : List Nat) : List Addr := ns.map fun n => φ.getD n 0
theorem placesOf_at {ns : List Nat} {i n : Nat} {a : Addr} (h : ns[i]? = some n) (ha : φ[n]? = some a) : (placesOf φ ns)[i]? = some a := by
  unfold placesOf
  rw [List.getElem?_map, h]
  show some (φ.getD n 0) = some a
  rw [List.getD_eq_getElem?_getD, ha]
  rfl
theorem loc_of {ns : List Nat} {os : List OD} (r : Rep G Z φ H μ) (nd : ns.Nodup) (h : readAt μ ns = some os) : Loc φ μ ns os (placesOf φ ns) := ⟨nd, readAt_len h, fun i n hi => by
  obtain ⟨o, e1, e2, e3⟩ := readAt_at h hi
  have hn : n < φ.length := by rw [r.len]; exact (List.getElem?_eq_some_iff.mp e2).1
  have ha : φ[n]? = some φ[n] := List.getElem?_eq_getElem hn
  exact ⟨φ[n], o, ha, placesOf_at hi ha, e1, e2, e3⟩⟩
/-- for the callee as much may change as for the caller -/
theorem Loc.same {ns : List Nat} {os : List OD} {φl : List Addr} (L : Loc φ μ ns os φl) (hl : φl.length = ns.length) : ∀ a, Sof (Zl Z φ μ φl) φl (obs os) a ↔ Sof Z φ μ a := fun a => by
  constructor
  · intro z
    rcases z with z | ⟨i, ob, h1, h2, h3⟩
    · exact z.1
    · obtain ⟨o, q1, q2⟩ := obs_get h2
      have hi : i < ns.length := by rw [← hl]; exact (List.getElem?_eq_some_iff.mp h1).1
      obtain ⟨b, o', e1, e2, e3, e4, e5⟩ := L.at_ i ns[i] (List.getElem?_eq_getElem hi)
      rw [h1] at e2
      cases e2
      exact .inr ⟨_, _, e1, e4, by rw [OD.ob_live]; exact e5⟩
  · intro z
    by_cases ha : a ∈ φl
    · obtain ⟨i, hi⟩ := List.getElem?_of_mem ha
      have hn : i < ns.length := by rw [← hl]; exact (List.getElem?_eq_some_iff.mp hi).1
      obtain ⟨b, o', e1, e2, e3, e4, e5⟩ := L.at_ i ns[i] (List.getElem?_eq_getElem hn)
      exact .inr ⟨i, o'.ob, hi, obs_at e3, by rw [OD.ob_live]; exact e5⟩
    · exact .inl ⟨z, ha⟩
theorem Loc.rep {ns : List Nat} {os : List OD} {φl : List Addr} (L : Loc φ μ ns os φl) (hl : φl.length = ns.length) (r : Rep G Z φ H μ) : Rep G (Zl Z φ μ φl) φl H (obs os) := by
  have ex : Ex (Sof Z φ μ) H (Sof (Zl Z φ μ φl) φl (obs os)) H := ⟨fun a u h hs _ => ⟨h, fun z => hs ((L.same hl a).mp z)⟩⟩
  have inn : ∀ {i : Nat} {a : Addr}, φl[i]? = some a → ∃ n o, ns[i]? = some n ∧ φ[n]? = some a ∧ os[i]? = some o ∧ μ[n]? = some o.ob ∧ o.live = true := fun {i a} h => by
    have hi : i < ns.length := by rw [← hl]; exact (List.getElem?_eq_some_iff.mp h).1
    obtain ⟨b, o', e1, e2, e3, e4, e5⟩ := L.at_ i ns[i] (List.getElem?_eq_getElem hi)
    rw [h] at e2
    cases e2
    exact ⟨ns[i], o', List.getElem?_eq_getElem hi, e1, e3, e4, e5⟩
  refine ⟨by rw [List.length_map, hl, L.len], fun i j a o u h1 h2 h3 h4 l1 l2 => ?_, fun i a ob h1 h2 => ?_, fun a h => ?_, fun i a o h1 h2 _ z => z.2 (List.mem_of_getElem? h1), r.tab⟩
  · obtain ⟨n, o1, a1, a2, a3, a4, a5⟩ := inn h1
    obtain ⟨m, o2, b1, b2, b3, b4, b5⟩ := inn h2
    have e := r.one n m a _ _ a2 b2 a4 b4 (by rw [OD.ob_live]; exact a5) (by rw [OD.ob_live]; exact b5)
    subst e
    exact nodup_at L.nd a1 b1
  · obtain ⟨n, o1, a1, a2, a3, a4, a5⟩ := inn h1
    obtain ⟨o, q1, q2⟩ := obs_get h2
    rw [a3] at q1
    cases q1
    subst q2
    exact (r.at_ n a _ a2 a4).od ex fun _ _ e => e
  · rcases h.1 with z | ⟨n, ob, h1, h2, h3⟩
    · exact r.res a z
    · have q := r.at_ n a ob h1 h2
      cases ob with
      | fz x => cases h3
      | lst us => obtain ⟨vs, e, _⟩ := q; exact ⟨_, e, nr_lst⟩
      | dic ks us => obtain ⟨vs, e, _⟩ := q; exact ⟨_, e, nr_dK⟩
      | dit ks us => obtain ⟨vs, e, _⟩ := q; exact ⟨_, e, nr_dT⟩
      | ins c ns us => obtain ⟨dx, vs, e, _⟩ := q; exact ⟨_, e, nr_ins⟩
theorem placesOf_len {ns : List Nat} : (placesOf φ ns).length = ns.length := List.length_map _
/-- A CALL: what the caller wants is what the callee promises -/
theorem callL_sp {W : WX} {σ : L2.St} {f : Fn} {fl : List Bool} {us : List U} {vs : List V} {n : Nat} {Q : VK} (r : Rep G Z φ H μ) (ru : RpUs G φ (Sof Z φ μ) H us vs) (hn : vs.length = n) (po : Po (RpU G) G Z W φ μ H σ (callL f fl us μ) Q) :
    spD G f n vs H Q (fun cls dx H' => W cls dx σ H') := by
  unfold callL at po
  split at po
  · rename_i ws ns μ1 hp
    split at po
    · rename_i nd
      split at po
      · rename_i os hos
        obtain ⟨F, _, k⟩ := pass_ok hp r ru
        have L := loc_of F.rep nd hos
        have hl : (placesOf φ ns).length = ns.length := placesOf_len
        have rl := L.rep hl F.rep
        have exL : Ex (Sof Z φ μ1) H (Sof (Zl Z φ μ1 (placesOf φ ns)) (placesOf φ ns) (obs os)) H := ⟨fun a u h hs _ => ⟨h, fun z => hs ((L.same hl a).mp z)⟩⟩
        have hll : ∀ (i : Nat), ns.length ≤ i → ∀ a, (placesOf φ ns)[i]? = some a → ¬ Sof Z φ μ1 a := fun i hi a ha => by
          have := (List.getElem?_eq_some_iff.mp ha).1
          omega
        refine ⟨hn, Zl Z φ μ1 (placesOf φ ns), placesOf φ ns, os, ws, rl, k exL fun i m a h1 h2 => placesOf_at h1 h2, ?_⟩
        cases hr : f ws os with
        | bad => rw [hr] at po; exact False.elim po
        | err c es vs' os' =>
          rw [hr] at po
          unfold back at po
          dsimp only at po
          split at po
          · rename_i ho
            intro H' cls dx g r' er
            obtain ⟨g2, r2, sub⟩ := loc_back F.rep L hll exL (fun _ _ => rfl) g r' ho (fun i o h => obs_at h)
            exact po φ H' cls dx (F.go.trans g2) r2 (er.mono ⟨fun a u h hs _ => ⟨h, fun z => hs (sub a z)⟩⟩)
          · exact False.elim po
        | ok u os' new =>
          rw [hr] at po
          cases new with
          | none =>
            unfold back at po
            dsimp only at po
            split at po
            · rename_i ho
              intro H' v g r' rv
              obtain ⟨g2, r2, sub⟩ := loc_back F.rep L hll exL (fun _ _ => rfl) g r' ho (fun i o h => obs_at h)
              cases u with
              | d d => exact po φ H' v (F.go.trans g2) r2 (Rp.mono ⟨fun a u h hs _ => ⟨h, fun z => hs (sub a z)⟩⟩ rv)
              | p i =>
                dsimp only at po
                split at po
                · rename_i m hm
                  obtain ⟨a, e1, e2⟩ := rv
                  obtain ⟨b, o, q1, q2, _⟩ := L.at_ i m hm
                  rw [e2] at q2
                  cases q2
                  exact po φ H' v (F.go.trans g2) r2 ⟨a, e1, q1⟩
                · exact False.elim po
            · exact False.elim po
          | some o =>
            unfold back at po
            dsimp only at po
            split at po
            · rename_i ho
              intro a H' v g r' rv
              cases u with
              | d d => exact False.elim po
              | p i =>
                dsimp only at po
                split at po
                · rename_i hi
                  have hk : (obs os').length = (placesOf φ ns).length := by rw [List.length_map, ho, hl]
                  have hμ : ∀ (i : Nat) (o1 : OD), os'[i]? = some o1 → (obs os' ++ [o.ob])[i]? = some o1.ob := fun i o1 h => snoc_of (obs_at h)
                  obtain ⟨g2, r2, sub⟩ := loc_back F.rep L hll exL (fun _ _ => rfl) g r' ho hμ
                  have ea : (placesOf φ ns ++ [a])[i]? = some a := by rw [hi, ← hl]; exact snoc_last
                  have eo : (obs os' ++ [o.ob])[i]? = some o.ob := by rw [hi, ← hl, ← hk]; exact snoc_last
                  obtain ⟨b, e1, e2⟩ := rv
                  rw [ea] at e2
                  cases e2
                  -- the new object lies apart from all that the caller may change
                  have hfz : Sof Z φ (setAll ns os' μ1) a → o.ob.live = true → False := fun z lo => by
                    rcases z with z | ⟨m, ob, h1, h2, h3⟩
                    · refine r'.apart i a o.ob ea eo lo ⟨.inl z, fun hm => ?_⟩
                      obtain ⟨j, hj⟩ := List.getElem?_of_mem hm
                      have hjn : j < ns.length := by rw [← hl]; exact (List.getElem?_eq_some_iff.mp hj).1
                      obtain ⟨b, o1, q1, q2, q3, q4, q5⟩ := L.at_ j ns[j] (List.getElem?_eq_getElem hjn)
                      rw [hj] at q2
                      cases q2
                      exact F.rep.apart _ a _ q1 q4 (by rw [OD.ob_live]; exact q5) z
                    · by_cases hm : m ∈ ns
                      · obtain ⟨j, hj⟩ := mem_get hm
                        obtain ⟨b, o1, q1, q2, q3, q4, q5⟩ := L.at_ j m hj
                        rw [h1] at q1
                        cases q1
                        have hjl : j < os'.length := by rw [ho]; exact (List.getElem?_eq_some_iff.mp hj).1
                        have e6 : os'[j]? = some os'[j] := List.getElem?_eq_getElem hjl
                        have e7 := setAll_in nd hj e6 (List.getElem?_eq_some_iff.mp q4).1
                        rw [h2] at e7
                        cases e7
                        have := r'.one j i a _ _ (snoc_of q2) ea (hμ j _ e6) eo h3 lo
                        have := (List.getElem?_eq_some_iff.mp hj).1
                        omega
                      · have h2' := h2
                        rw [setAll_out hm] at h2'
                        refine r'.apart i a o.ob ea eo lo ⟨.inr ⟨m, ob, h1, h2', h3⟩, fun hmm => ?_⟩
                        obtain ⟨j, hj⟩ := List.getElem?_of_mem hmm
                        have hjn : j < ns.length := by rw [← hl]; exact (List.getElem?_eq_some_iff.mp hj).1
                        exact L.out F.rep h1 h2' h3 hm hjn hj
                  have sub2 : ∀ b, Sof Z (φ ++ [a]) (setAll ns os' μ1 ++ [o.ob]) b → Sof (Zl Z φ μ1 (placesOf φ ns)) (placesOf φ ns ++ [a]) (obs os' ++ [o.ob]) b := fun b z => by
                    rcases z with z | ⟨m, ob, h1, h2, h3⟩
                    · exact sub b (.inl z)
                    rcases getElem?_snoc h1 with q | ⟨q, q'⟩
                    · rcases getElem?_snoc h2 with p | ⟨p, p'⟩
                      · exact sub b (.inr ⟨m, ob, q, p, h3⟩)
                      · have := (List.getElem?_eq_some_iff.mp q).1
                        rw [r2.len] at this
                        omega
                    · rcases getElem?_snoc h2 with p | ⟨p, p'⟩
                      · have := (List.getElem?_eq_some_iff.mp p).1
                        rw [← r2.len] at this
                        omega
                      · subst q'; subst p'
                        exact .inr ⟨i, o.ob, ea, eo, h3⟩
                  have ex2 : Ex (Sof (Zl Z φ μ1 (placesOf φ ns)) (placesOf φ ns ++ [a]) (obs os' ++ [o.ob])) H' (Sof Z (φ ++ [a]) (setAll ns os' μ1 ++ [o.ob])) H' := ⟨fun b u h hs _ => ⟨h, fun z => hs (sub2 b z)⟩⟩
                  have exF : Ex (Sof Z φ μ1) H (Sof Z (φ ++ [a]) (setAll ns os' μ1 ++ [o.ob])) H' := (exL.trans g.ex).trans ex2
                  have g3 : Go Z φ μ1 H (φ ++ [a]) (setAll ns os' μ1 ++ [o.ob]) H' := ⟨fun m b h => snoc_of h, exF, g2.rs⟩
                  have hsl : (setAll ns os' μ1).length = φ.length := r2.len.symm
                  refine po (φ ++ [a]) H' v (F.go.trans g3) ⟨?_, ?_, ?_, r2.res, ?_, r'.tab⟩ ⟨a, e1, by rw [← F.rep.len]; exact snoc_last⟩
                  · rw [List.length_append, List.length_append, hsl]; rfl
                  · intro i' j' b o1 u1 h1 h2 h3 h4 l1 l2
                    rcases getElem?_snoc h3 with q1 | ⟨q1, q1'⟩
                    · have m1 : i' < φ.length := by rw [← hsl]; exact (List.getElem?_eq_some_iff.mp q1).1
                      rw [List.getElem?_append_left m1] at h1
                      rcases getElem?_snoc h4 with q2 | ⟨q2, q2'⟩
                      · have m2 : j' < φ.length := by rw [← hsl]; exact (List.getElem?_eq_some_iff.mp q2).1
                        rw [List.getElem?_append_left m2] at h2
                        exact r2.one i' j' b o1 u1 h1 h2 q1 q2 l1 l2
                      · rw [q2, hsl, snoc_last] at h2
                        cases h2
                        rw [q2'] at l2
                        exact (hfz (.inr ⟨i', o1, h1, q1, l1⟩) l2).elim
                    · rw [q1, hsl, snoc_last] at h1
                      cases h1
                      rcases getElem?_snoc h4 with q2 | ⟨q2, q2'⟩
                      · have m2 : j' < φ.length := by rw [← hsl]; exact (List.getElem?_eq_some_iff.mp q2).1
                        rw [List.getElem?_append_left m2] at h2
                        rw [q1'] at l1
                        exact (hfz (.inr ⟨j', u1, h2, q2, l2⟩) l1).elim
                      · omega
                  · intro m b ob h1 h2
                    rcases getElem?_snoc h2 with q | ⟨q, q'⟩
                    · have m1 : m < φ.length := by rw [← hsl]; exact (List.getElem?_eq_some_iff.mp q).1
                      rw [List.getElem?_append_left m1] at h1
                      have q3 := r2.at_ m b ob h1 q
                      by_cases hm : m ∈ ns
                      · obtain ⟨j, hj⟩ := mem_get hm
                        obtain ⟨c, o1, p1, p2, p3, p4, p5⟩ := L.at_ j m hj
                        rw [h1] at p1
                        cases p1
                        have hjl : j < os'.length := by rw [ho]; exact (List.getElem?_eq_some_iff.mp hj).1
                        have e6 : os'[j]? = some os'[j] := List.getElem?_eq_getElem hjl
                        have e7 := setAll_in nd hj e6 (List.getElem?_eq_some_iff.mp p4).1
                        rw [q] at e7
                        cases e7
                        exact (r'.at_ j b _ (snoc_of p2) (hμ j _ e6)).od ex2 fun _ _ e => e
                      · have q4 := q
                        rw [setAll_out hm] at q4
                        refine (F.rep.at_ m b ob h1 q4).mono g3 fun l u hu => ?_
                        rw [g.rs b ⟨.inr ⟨m, ob, h1, q4, l⟩, fun hmm => by
                          obtain ⟨j, hj⟩ := List.getElem?_of_mem hmm
                          have hjn : j < ns.length := by rw [← hl]; exact (List.getElem?_eq_some_iff.mp hj).1
                          exact L.out F.rep h1 q4 l hm hjn hj⟩]
                        exact hu
                    · rw [q, hsl, snoc_last] at h1
                      cases h1
                      rw [q']
                      exact (r'.at_ i a _ ea eo).od ex2 fun _ _ e => e
                  · intro m b ob h1 h2 l
                    rcases getElem?_snoc h2 with q | ⟨q, q'⟩
                    · have m1 : m < φ.length := by rw [← hsl]; exact (List.getElem?_eq_some_iff.mp q).1
                      rw [List.getElem?_append_left m1] at h1
                      exact r2.apart m b ob h1 q l
                    · rw [q, hsl, snoc_last] at h1
                      cases h1
                      rw [q'] at l
                      exact fun z => hfz (.inl z) l
                · exact False.elim po
            · exact False.elim po
      · exact False.elim po
    · exact False.elim po
  · exact False.elim po
end
end Iv
set_option Elab.async false
set_option linter.all false
set_option maxRecDepth 100000
set_option maxHeartbeats 2000000
set_option autoImplicit false
/-! Iv, part H: operations and built-ins by data. -/
namespace Iv
open PySem PySem.Spec PyProof.Rows L2

/-! ### what is read off a value -/
section
variable {G : Gc} {Z : Addr → Prop} {φ : List Addr} {μ : Mu} {H : Hp}
abbrev S0 : Addr → Prop := fun _ => False
theorem Ex.s0 {S : Addr → Prop} : Ex S H S0 H := ⟨fun _ _ h _ _ => ⟨h, fun z => z⟩⟩
/-- a list's items -/
def lsU (μ : Mu) : U → Option (List U)
  | .d (.lst ds) => some (ds.map .d)
  | .p n => match μ[n]? with
    | some (.lst us) => some us
    | some (.fz (.lst ds)) => some (ds.map .d)
    | _ => none
  | _ => none
theorem lsU_ok (r : Rep G Z φ H μ) {u : U} {us : List U} {x : V} (h : lsU μ u = some us) (ru : RpU G φ (Sof Z φ μ) H u x) : ∃ a vs, x = .ref a ∧ SqL G.K H a vs ∧ RpUs G φ (Sof Z φ μ) H us vs := by
  cases u with
  | d d =>
    cases d with
    | lst ds =>
      cases h
      obtain ⟨a, vs, e, l, q⟩ := ru
      exact ⟨a, vs, e, l.sq, q.us⟩
    | _ => cases h
  | p n =>
    obtain ⟨a, e, ha⟩ := ru
    unfold lsU at h
    dsimp only at h
    split at h
    · rename_i us' hu
      cases h
      obtain ⟨vs, e2, q⟩ := r.at_ n a _ ha hu
      exact ⟨a, vs, e, SqL.of e2, q⟩
    · rename_i ds hu
      cases h
      obtain ⟨b, vs, e2, l, q⟩ := (show Rp G (Sof Z φ μ) H (.lst ds) (.ref a) from r.at_ n a _ ha hu)
      cases e2
      exact ⟨a, vs, e, l.sq, q.us⟩
    · cases h
/-- a tuple's items -/
def tpU (μ : Mu) : U → Option (List D)
  | .d (.tup ds) => some ds
  | .p n => match μ[n]? with
    | some (.fz (.tup ds)) => some ds
    | _ => none
  | _ => none
theorem tpU_ok (r : Rep G Z φ H μ) {u : U} {ds : List D} {x : V} (h : tpU μ u = some ds) (ru : RpU G φ (Sof Z φ μ) H u x) : Rp G (Sof Z φ μ) H (.tup ds) x := by
  cases u with
  | d d =>
    cases d with
    | tup ds => cases h; exact ru
    | _ => cases h
  | p n =>
    obtain ⟨a, e, ha⟩ := ru
    unfold tpU at h
    dsimp only at h
    split at h
    · rename_i ds' hu
      cases h
      subst e
      exact r.at_ n a _ ha hu
    · cases h
/-- the data that a value is at this moment -/
def valD (μ : Mu) : U → Option D
  | .d x => some x
  | .p n => match μ[n]? with
    | some (.fz x) => some x
    | some (.lst us) => (dOnly us).map .lst
    | _ => none
theorem valD_ok (r : Rep G Z φ H μ) {u : U} {d : D} {x : V} (h : valD μ u = some d) (ru : RpU G φ (Sof Z φ μ) H u x) : Rp G S0 H d x := by
  cases u with
  | d x => cases h; exact Rp.mono Ex.s0 ru
  | p n =>
    obtain ⟨a, e, ha⟩ := ru
    subst e
    unfold valD at h
    dsimp only at h
    split at h
    · rename_i x hu
      cases h
      exact Rp.mono Ex.s0 (r.at_ n a _ ha hu)
    · rename_i us hu
      obtain ⟨ds, h1, rfl⟩ := Option.map_eq_some_iff.mp h
      have e1 := dOnly_eq h1
      subst e1
      obtain ⟨vs, e2, q⟩ := r.at_ n a _ ha hu
      have q' : RpL G S0 H ds vs := by
        have k : ∀ {ds : List D} {vs : List V}, RpUs G φ (Sof Z φ μ) H (ds.map .d) vs → RpL G S0 H ds vs := by
          intro ds
          induction ds with
          | nil => intro vs h; exact h
          | cons d ds ih => intro vs h; obtain ⟨v, r, e, a, b⟩ := h; exact ⟨v, r, e, Rp.mono Ex.s0 a, ih b⟩
        exact k q
      exact ⟨a, vs, rfl, .inl ⟨fun z => z, .inl e2⟩, q'⟩
    · cases h
mutual
def D.py : D → Option PyData
  | .non => some .none
  | .bl b => some (.bool b)
  | .int i => some (.int i)
  | .str x => some (.str x)
  | .lst ds => (D.pyL ds).map .list
  | .tup ds => (D.pyL ds).map .tuple
  | _ => none
def D.pyL : List D → Option (List PyData)
  | [] => some []
  | d :: ds => match d.py, D.pyL ds with
    | some p, some ps => some (p :: ps)
    | _, _ => none
end
mutual
theorem py_ok {S : Addr → Prop} : ∀ {d : D} {p : PyData} {v : V}, d.py = some p → Rp G S H d v → Dp G.K H v p
  | .non, p, v, h, r => by simp only [D.py, Option.some.injEq] at h; subst h; rw [show v = .non from r]; exact .non
  | .bl b, p, v, h, r => by simp only [D.py, Option.some.injEq] at h; subst h; rw [show v = .bl b from r]; exact .bl b
  | .int i, p, v, h, r => by simp only [D.py, Option.some.injEq] at h; subst h; rw [show v = .int i from r]; exact .int i
  | .str x, p, v, h, r => by simp only [D.py, Option.some.injEq] at h; subst h; rw [show v = .str x from r]; exact .str x
  | .lst ds, p, v, h, ⟨a, vs, e, l, q⟩ => by
    simp only [D.py] at h
    obtain ⟨ps, h1, rfl⟩ := Option.map_eq_some_iff.mp h
    subst e
    exact .lst l.sq (pyL_ok h1 q)
  | .tup ds, p, v, h, ⟨a, vs, e, l, q⟩ => by
    simp only [D.py] at h
    obtain ⟨ps, h1, rfl⟩ := Option.map_eq_some_iff.mp h
    subst e
    exact .tup l.sq (pyL_ok h1 q)
  | .dic _ _, p, v, h, r => by simp only [D.py] at h; cases h
  | .dit _ _, p, v, h, r => by simp only [D.py] at h; cases h
  | .obj _ _ _, p, v, h, r => by simp only [D.py] at h; cases h
  | .exc _ _ _, p, v, h, r => by simp only [D.py] at h; cases h
  | .clo _ _, p, v, h, r => by simp only [D.py] at h; cases h
theorem pyL_ok {S : Addr → Prop} : ∀ {ds : List D} {ps : List PyData} {vs : List V}, D.pyL ds = some ps → RpL G S H ds vs → DpAll G.K H vs ps
  | [], ps, vs, h, r => by simp only [D.pyL, Option.some.injEq] at h; subst h; rw [show vs = [] from r]; exact .nil
  | d :: ds, ps, vs, h, ⟨v, r, e, a, b⟩ => by
    simp only [D.pyL] at h
    split at h
    · rename_i p ps' h1 h2
      cases h
      subst e
      exact .cons (py_ok h1 a) (pyL_ok h2 b)
    · cases h
end
end

/-! ### arithmetic -/
section
variable {G : Gc} {X : Cx}
def fI (g : Int → Int → D) : U → U → Mu → Res U
  | .d (.int i), .d (.int j), μ => .ok (.d (g i j)) μ
  | _, _, _ => .bad
def fIC (c : Int → Int → Bool) (g : Int → Int → D) : U → U → Mu → Res U
  | .d (.int i), .d (.int j), μ => if c i j = true then .ok (.d (g i j)) μ else .bad
  | _, _, _ => .bad
theorem fI_ok {g : Int → Int → D} {g' : Int → Int → V} (h : ∀ i j, scD (g i j) (g' i j)) : Op2 G (fI g) (rI0 g') := fun Z W φ μ H σ x y u w Q r ru rw po => by
  unfold fI at po
  split at po
  · rename_i i j
    exact ⟨i, j, ru, rw, po φ H _ Go.refl r (scD.rp (h i j))⟩
  · exact False.elim po
theorem fIC_ok {c : Int → Int → Bool} {C : Int → Int → Prop} {g : Int → Int → D} {g' : Int → Int → V} (hC : ∀ i j, c i j = true → C i j) (h : ∀ i j, scD (g i j) (g' i j)) : Op2 G (fIC c g) (rI C g') := fun Z W φ μ H σ x y u w Q r ru rw po => by
  unfold fIC at po
  split at po
  · rename_i i j
    split at po
    · rename_i hc
      exact ⟨i, j, ru, rw, hC i j hc, po φ H _ Go.refl r (scD.rp (h i j))⟩
    · exact False.elim po
  · exact False.elim po
/-- list + list, whatever they stand in -/
def rCatL (K : PySem.W.Frag) : R2 := fun x y H Q => ∃ l b xs zs, x = .ref l ∧ y = .ref b ∧ SqL K H l xs ∧ SqL K H b zs ∧ xs.length + zs.length ≤ sizeLine ∧ ∀ p, H p = none → Q (.ref p) (upd H p (.lst (xs ++ zs)))
theorem op_catL : OpR X (binaryOp .Add) (rCatL X.K) := by
  intro pins s σ H x y v u Q I rx ry h
  obtain ⟨l, b, xs, zs, rfl, rfl, hl, hb, hz, q⟩ := h
  cases rx
  cases ry
  obtain ⟨its, r, ⟨o, n, ho, hc, hd, hs⟩, _⟩ := I.list hl
  obtain ⟨its2, r2, ⟨o2, n2, ho2, hc2, hd2, hs2⟩, _⟩ := I.list hb
  obtain ⟨cls, dd, data, sl⟩ := o
  obtain ⟨cls2, dd2, data2, sl2⟩ := o2
  simp only at hc hd hs hc2 hd2 hs2
  subst hc hd hs hc2 hd2 hs2
  have l1 := r.length
  have l2 := r2.length
  refine concat_meets ⟨_, ho, rfl⟩ ⟨_, ho2, rfl⟩ noFill_list_add seq_list_add PySem.F.slot_list_add PySem.F.entry_list_add (PySem.F.args_list_add_2 _ _) (PyProof.Rows.list_addW l b its.toArray its2.toArray n n2 none none sl sl2 (by rw [List.size_toArray, List.size_toArray]; omega)) ⟨ho, ho2, ?_⟩
  have ea : its.toArray ++ its2.toArray = (its ++ its2).toArray := by simp
  rw [ea]
  exact ⟨.ref _, _, I.lnew (t' := s.toks) (r.append r2) (by rw [List.length_append]; omega), rfl, q _ I.fresh⟩
def fAdd : U → U → Mu → Res U := fun u w μ => match u, w with
  | .d (.int i), .d (.int j) => .ok (.d (.int (i + j))) μ
  | .d (.str x), .d (.str y) => if x.length + y.length ≤ 1000000 then .ok (.d (.str (x ++ y))) μ else .bad
  | u, w => match lsU μ u, lsU μ w with
    | some us, some ws => oLst (us ++ ws) μ
    | _, _ => match tpU μ u, tpU μ w with
      | some us, some ws => if us.length + ws.length ≤ 100000 then .ok (.d (.tup (us ++ ws))) μ else .bad
      | _, _ => .bad
theorem RpUs.app {φ : List Addr} {S : Addr → Prop} {H : Hp} : ∀ {us ws : List U} {xs ys : List V}, RpUs G φ S H us xs → RpUs G φ S H ws ys → RpUs G φ S H (us ++ ws) (xs ++ ys)
  | [], _, _, _, h, q => by rw [show _ = [] from h]; exact q
  | u :: us, _, _, _, ⟨v, r, e, a, b⟩, q => by subst e; exact ⟨v, _, rfl, a, RpUs.app b q⟩
theorem RpL.app {S : Addr → Prop} {H : Hp} : ∀ {us ws : List D} {xs ys : List V}, RpL G S H us xs → RpL G S H ws ys → RpL G S H (us ++ ws) (xs ++ ys)
  | [], _, _, _, h, q => by rw [show _ = [] from h]; exact q
  | u :: us, _, _, _, ⟨v, r, e, a, b⟩, q => by subst e; exact ⟨v, _, rfl, a, RpL.app b q⟩
/-- a new list or tuple of what is told -/
theorem newLst {Z : Addr → Prop} {W : WX} {φ : List Addr} {μ : Mu} {H : Hp} {σ : L2.St} {us : List U} {xs : List V} {Q : VK} (r : Rep G Z φ H μ) (ru : RpUs G φ (Sof Z φ μ) H us xs) (po : Po (RpU G) G Z W φ μ H σ (oLst us μ) Q) : xs.length ≤ sizeLine ∧ ∀ p, H p = none → Q (.ref p) (upd H p (.lst xs)) := by
  unfold oLst at po
  split at po
  · rename_i ds μ2 hf
    split at po
    · rename_i hl
      obtain ⟨F, rl⟩ := frzL_ok hf r ru
      refine ⟨sz5 (by rw [rl.length]; exact hl), fun p hp => ?_⟩
      have g2 : Go Z φ μ2 H φ μ2 (upd H p (.lst xs)) := Go.newD F.rep hp
      have ns : ¬ Sof Z φ μ2 p := fun z => by
        obtain ⟨o, ho⟩ := F.rep.there z
        rw [hp] at ho; cases ho
      exact po φ _ _ (F.go.trans g2) (F.rep.newD hp) ⟨p, xs, rfl, .inl ⟨ns, .inl upd_same⟩, RpL.mono g2.ex rl⟩
    · exact False.elim po
  · exact False.elim po
theorem newTup {Z : Addr → Prop} {W : WX} {φ : List Addr} {μ : Mu} {H : Hp} {σ : L2.St} {ds : List D} {xs : List V} {Q : VK} (r : Rep G Z φ H μ) (ru : RpL G (Sof Z φ μ) H ds xs) (po : Po (RpU G) G Z W φ μ H σ (.ok (.d (.tup ds)) μ) Q) : ∀ p, H p = none → Q (.ref p) (upd H p (.tup xs)) := fun p hp => by
  have g2 : Go Z φ μ H φ μ (upd H p (.tup xs)) := Go.newD r hp
  have ns : ¬ Sof Z φ μ p := fun z => by
    obtain ⟨o, ho⟩ := r.there z
    rw [hp] at ho; cases ho
  exact po φ _ _ g2 (r.newD hp) ⟨p, xs, rfl, .inl ⟨ns, .inl upd_same⟩, RpL.mono g2.ex ru⟩
def rAddX (K : PySem.W.Frag) : R2 := fun x y H Q => (rI0 (fun i j => .int (i + j)) x y H Q ∨ (∃ i j, x = .str i ∧ y = .str j ∧ i.length + j.length ≤ sizeLine ∧ Q (.str (i ++ j)) H)) ∨ rCatL K x y H Q ∨ rCatA K x y H Q
theorem op_addX : OpR X (binaryOp .Add) (rAddX X.K) := (OpR.or op_add op_add_str).or (op_catL.or op_catA)
theorem fAdd_ok (hK : G.K = X.K) : Op2 G fAdd (rAddX X.K) := fun Z W φ μ H σ x y u w Q r ru rw po => by
  unfold fAdd at po
  split at po
  · rename_i i j
    exact .inl (.inl ⟨i, j, ru, rw, po φ H _ Go.refl r rfl⟩)
  · rename_i i j
    split at po
    · rename_i hl
      exact .inl (.inr ⟨i, j, ru, rw, Nat.le_trans hl (by decide), po φ H _ Go.refl r rfl⟩)
    · exact False.elim po
  · split at po
    · rename_i us ws h1 h2
      obtain ⟨a, xs, rfl, l1, q1⟩ := lsU_ok r h1 ru
      obtain ⟨b, ys, rfl, l2, q2⟩ := lsU_ok r h2 rw
      obtain ⟨hz, k⟩ := newLst r (q1.app q2) po
      rw [List.length_append] at hz
      exact .inr (.inl ⟨a, b, xs, ys, rfl, rfl, by rw [← hK]; exact l1, by rw [← hK]; exact l2, hz, k⟩)
    · split at po
      · rename_i us ws h1 h2
        split at po
        · rename_i hl
          have t1 := tpU_ok r h1 ru
          have t2 := tpU_ok r h2 rw
          obtain ⟨a, xs, rfl, l1, q1⟩ := t1
          obtain ⟨b, ys, rfl, l2, q2⟩ := t2
          have k := newTup r (q1.app q2) po
          refine .inr (.inr ⟨a, b, xs, ys, rfl, rfl, by rw [← hK]; exact l1.sq, by rw [← hK]; exact l2.sq, ?_, fun e => ?_, fun e e2 => ?_, fun _ _ => k⟩)
          · rw [q1.length, q2.length]; exact sz5 hl
          · have e0 : us = [] := List.eq_nil_of_length_eq_zero (by rw [← q1.length, e]; rfl)
            subst e0
            exact po φ H _ Go.refl r ⟨b, ys, rfl, l2, q2⟩
          · have e0 : ws = [] := List.eq_nil_of_length_eq_zero (by rw [← q2.length, e2]; rfl)
            subst e0
            rw [List.append_nil] at po
            exact po φ H _ Go.refl r ⟨a, xs, rfl, l1, q1⟩
        · exact False.elim po
      · exact False.elim po
theorem i_add {W : WX} {pos : Pos} {a b : Expr} {ma mb : Sm U} (hK : G.K = X.K) (ha : PE X a (rdE G W ma)) (hb : PE X b (rdE G W mb)) : PE X (.BinOp a .Add b pos) (rdE G W (v2 fAdd ma mb)) := i_bin op_addX (fAdd_ok hK) ha hb
def fSub := fI fun i j => D.int (i - j)
def cMul (i j : Int) : Bool := decide (i.natAbs < 2 ^ 64) || decide (j.natAbs < 2 ^ 64)
def fMul := fIC cMul fun i j => D.int (i * j)
def cDiv (_ j : Int) : Bool := decide (0 < j) && decide (j.natAbs < 2 ^ 64)
def fDiv := fIC cDiv fun i j => D.int (i / j)
def cMod (_ j : Int) : Bool := decide (0 < j)
def fMod := fIC cMod fun i j => D.int (i % j)
def cPow (i j : Int) : Bool := decide (0 ≤ j) && decide (j ≤ 1000000) && decide (i.natAbs < 2 ^ 64)
def fPow := fIC cPow fun i j => D.int (i ^ j.toNat)
section
variable {W : WX} {pos : Pos} {a b : Expr} {ma mb : Sm U}
theorem i_sub (ha : PE X a (rdE G W ma)) (hb : PE X b (rdE G W mb)) : PE X (.BinOp a .Sub b pos) (rdE G W (v2 fSub ma mb)) := i_bin op_sub (fI_ok fun _ _ => rfl) ha hb
theorem i_mul (ha : PE X a (rdE G W ma)) (hb : PE X b (rdE G W mb)) : PE X (.BinOp a .Mult b pos) (rdE G W (v2 fMul ma mb)) := i_bin op_mul (fIC_ok (fun i j h => by
  unfold cMul at h
  rw [Bool.or_eq_true, decide_eq_true_eq, decide_eq_true_eq] at h
  unfold CMul
  rcases h with h | h
  · exact .inl (by omega)
  · exact .inr (by omega)) fun _ _ => rfl) ha hb
theorem i_div (ha : PE X a (rdE G W ma)) (hb : PE X b (rdE G W mb)) : PE X (.BinOp a .FloorDiv b pos) (rdE G W (v2 fDiv ma mb)) := i_bin op_fdivW (fIC_ok (fun i j h => by
  unfold cDiv at h
  rw [Bool.and_eq_true, decide_eq_true_eq, decide_eq_true_eq] at h
  exact wide_div h.1 h.2 (by decide) (by decide)) fun _ _ => rfl) ha hb
theorem i_mod (ha : PE X a (rdE G W ma)) (hb : PE X b (rdE G W mb)) : PE X (.BinOp a .Mod b pos) (rdE G W (v2 fMod ma mb)) := i_bin op_mod (fIC_ok (fun i j h => by
  unfold cMod at h
  exact of_decide_eq_true h) fun _ _ => rfl) ha hb
theorem i_pow (ha : PE X a (rdE G W ma)) (hb : PE X b (rdE G W mb)) : PE X (.BinOp a .Pow b pos) (rdE G W (v2 fPow ma mb)) := i_bin op_pow (fIC_ok (fun i j h => by
  unfold cPow at h
  rw [Bool.and_eq_true, Bool.and_eq_true, decide_eq_true_eq, decide_eq_true_eq, decide_eq_true_eq] at h
  exact ⟨h.1.1, h.1.2, h.2⟩) fun _ _ => rfl) ha hb
def fNeg : U → Mu → Res U
  | .d (.int i), μ => .ok (.d (.int (-i))) μ
  | _, _ => .bad
theorem i_neg (ha : PE X a (rdE G W ma)) : PE X (.UnaryOp .USub a pos) (rdE G W (v1 fNeg ma)) := i_un un_neg (fun Z W φ μ H σ x u Q r ru po => by
  unfold fNeg at po
  split at po
  · rename_i i; exact ⟨i, ru, po φ H _ Go.refl r rfl⟩
  · exact False.elim po) ha
end

/-! ### comparisons -/
def scB : D → D → Option Bool
  | .non, .non => some true
  | .non, .int _ => some false
  | .int _, .non => some false
  | .non, .bl _ => some false
  | .bl _, .non => some false
  | .non, .str _ => some false
  | .str _, .non => some false
  | .int i, .int j => some (decide (i = j))
  | .bl i, .bl j => some (decide (i = j))
  | .str i, .str j => some (decide (i = j))
  | .int _, .str _ => some false
  | .str _, .int _ => some false
  | .bl _, .str _ => some false
  | .str _, .bl _ => some false
  | _, _ => none
def eqD (μ : Mu) (u w : U) : Option Bool := match valD μ u, valD μ w with
  | some a, some b => match scB a b with
    | some k => some k
    | none => match a.py, b.py with
      | some p, some q => if SeqAt.shaped p = true ∧ SeqAt.shaped q = true then some (PyData.eqv p q) else none
      | _, _ => none
  | _, _ => none
def fEq : U → U → Mu → Res U := fun u w μ => match eqD μ u w with
  | some k => .ok (.d (.bl k)) μ
  | none => .bad
def fNe : U → U → Mu → Res U := fun u w μ => match eqD μ u w with
  | some k => .ok (.d (.bl (!k))) μ
  | none => .bad
theorem scB_ok {S : Addr → Prop} {H : Hp} {a b : D} {x y : V} {k : Bool} (h : scB a b = some k) (ra : Rp G S H a x) (rb : Rp G S H b y) : scal x y = true ∧ decide (x = y) = k := by
  cases a <;> cases b <;> first
    | (cases h; done)
    | (obtain rfl := (show x = _ from ra); obtain rfl := (show y = _ from rb); cases h; exact ⟨rfl, by simp⟩)
theorem eqD_ok {Z : Addr → Prop} {φ : List Addr} {μ : Mu} {H : Hp} (r : Rep G Z φ H μ) {u w : U} {x y : V} {k : Bool} (h : eqD μ u w = some k) (ru : RpU G φ (Sof Z φ μ) H u x) (rw' : RpU G φ (Sof Z φ μ) H w y) :
    (scal x y = true ∧ decide (x = y) = k) ∨ ∃ d e, Dp G.K H x d ∧ Dp G.K H y e ∧ SeqAt.shaped d = true ∧ SeqAt.shaped e = true ∧ PyData.eqv d e = k := by
  unfold eqD at h
  split at h
  · rename_i a b h1 h2
    have ra := valD_ok r h1 ru
    have rb := valD_ok r h2 rw'
    split at h
    · rename_i k' hk
      cases h
      exact .inl (scB_ok hk ra rb)
    · split at h
      · rename_i p q hp hq
        split at h
        · rename_i hs
          cases h
          exact .inr ⟨p, q, py_ok hp ra, py_ok hq rb, hs.1, hs.2, rfl⟩
        · cases h
      · cases h
  · cases h
theorem fEq_ok (hK : G.K = X.K) : Op2 G fEq (fun x y H Q => rEq x y H Q ∨ rEqD X.K x y H Q) := fun Z W φ μ H σ x y u w Q r ru rw po => by
  unfold fEq at po
  split at po
  · rename_i k hk
    rcases eqD_ok r hk ru rw with ⟨h1, h2⟩ | ⟨d, e, h1, h2, h3, h4, h5⟩
    · exact .inl ⟨h1, by rw [h2]; exact po φ H _ Go.refl r rfl⟩
    · exact .inr ⟨d, e, by rw [← hK]; exact h1, by rw [← hK]; exact h2, h3, h4, by rw [h5]; exact po φ H _ Go.refl r rfl⟩
  · exact False.elim po
theorem fNe_ok (hK : G.K = X.K) : Op2 G fNe (fun x y H Q => rNe x y H Q ∨ rNeD X.K x y H Q) := fun Z W φ μ H σ x y u w Q r ru rw po => by
  unfold fNe at po
  split at po
  · rename_i k hk
    rcases eqD_ok r hk ru rw with ⟨h1, h2⟩ | ⟨d, e, h1, h2, h3, h4, h5⟩
    · exact .inl ⟨h1, by rw [h2]; exact po φ H _ Go.refl r rfl⟩
    · exact .inr ⟨d, e, by rw [← hK]; exact h1, by rw [← hK]; exact h2, h3, h4, by rw [h5]; exact po φ H _ Go.refl r rfl⟩
  · exact False.elim po
theorem op_eqX (hu : X.A.units + 64 < cLine) : OpR X (compareOp .Eq) (fun x y H Q => rEq x y H Q ∨ rEqD X.K x y H Q) := op_eq.or (op_eqD hu)
theorem op_neX (hu : X.A.units + 64 < cLine) : OpR X (compareOp .NotEq) (fun x y H Q => rNe x y H Q ∨ rNeD X.K x y H Q) := op_ne.or (op_neD hu)
def fLt := fI fun i j => D.bl (decide (i < j))
def fLe := fI fun i j => D.bl (decide (i ≤ j))
def fGt := fI fun i j => D.bl (decide (j < i))
def fGe := fI fun i j => D.bl (decide (j ≤ i))
theorem fLt_ok : Op2 G fLt (rI0 fun i j => .bl (decide (i < j))) := fI_ok fun _ _ => rfl
theorem fLe_ok : Op2 G fLe (rI0 fun i j => .bl (decide (i ≤ j))) := fI_ok fun _ _ => rfl
theorem fGt_ok : Op2 G fGt (rI0 fun i j => .bl (decide (j < i))) := fI_ok fun _ _ => rfl
theorem fGe_ok : Op2 G fGe (rI0 fun i j => .bl (decide (j ≤ i))) := fI_ok fun _ _ => rfl
/-- is None, is True, is False -/
def isNonU : U → Bool
  | .d .non => true
  | _ => false
def isU (u w : U) : Option Bool := match w with
  | .d .non => some (isNonU u)
  | .d (.bl b) => match u with
    | .d (.bl c) => some (decide (c = b))
    | _ => none
  | _ => none
def fIs : U → U → Mu → Res U := fun u w μ => match isU u w with
  | some k => .ok (.d (.bl k)) μ
  | none => .bad
def fIsn : U → U → Mu → Res U := fun u w μ => match isU u w with
  | some k => .ok (.d (.bl (!k))) μ
  | none => .bad
theorem isN_ok {Z : Addr → Prop} {φ : List Addr} {μ : Mu} {H : Hp} {u : U} {x : V} (ru : RpU G φ (Sof Z φ μ) H u x) : decide (x = .non) = isNonU u := by
  cases u with
  | p n => obtain ⟨a, rfl, _⟩ := ru; rfl
  | d d =>
    cases d with
    | non => rw [show x = .non from ru]; rfl
    | bl b => rw [show x = .bl b from ru]; rfl
    | int b => rw [show x = .int b from ru]; rfl
    | str b => rw [show x = .str b from ru]; rfl
    | tup ds => obtain ⟨a, vs, rfl, _⟩ := ru; rfl
    | lst ds => obtain ⟨a, vs, rfl, _⟩ := ru; rfl
    | dic ks ds => obtain ⟨a, vs, rfl, _⟩ := ru; rfl
    | dit ks ds => obtain ⟨a, vs, rfl, _⟩ := ru; rfl
    | obj c ns ds => obtain ⟨a, dx, vs, rfl, _⟩ := ru; rfl
    | exc c ns ds => obtain ⟨a, dx, vs, rfl, _⟩ := ru; rfl
    | clo k ds => obtain ⟨a, c', pm, ctv, fo, clo, vs, rfl, _⟩ := ru; rfl
theorem fIs_ok : Op2 G fIs (fun x y H Q => (y = .non ∧ Q (.bl (decide (x = .non))) H) ∨ rIsB x y H Q) := fun Z W φ μ H σ x y u w Q r ru rw' po => by
  unfold fIs at po
  cases w with
  | p n => exact False.elim po
  | d d =>
    cases d with
    | non => exact .inl ⟨rw', by rw [isN_ok ru]; exact po φ H _ Go.refl r rfl⟩
    | bl b =>
      cases u with
      | p n => exact False.elim po
      | d d =>
        cases d with
        | bl c => exact .inr ⟨c, b, ru, rw', po φ H _ Go.refl r rfl⟩
        | _ => exact False.elim po
    | _ => exact False.elim po
theorem fIsn_ok : Op2 G fIsn (fun x y H Q => (y = .non ∧ Q (.bl (!decide (x = .non))) H) ∨ rNotB x y H Q) := fun Z W φ μ H σ x y u w Q r ru rw' po => by
  unfold fIsn at po
  cases w with
  | p n => exact False.elim po
  | d d =>
    cases d with
    | non => exact .inl ⟨rw', by rw [isN_ok ru]; exact po φ H _ Go.refl r rfl⟩
    | bl b =>
      cases u with
      | p n => exact False.elim po
      | d d =>
        cases d with
        | bl c => exact .inr ⟨c, b, ru, rw', po φ H _ Go.refl r rfl⟩
        | _ => exact False.elim po
    | _ => exact False.elim po
end
end Iv
set_option Elab.async false
set_option linter.all false
set_option maxRecDepth 100000
set_option maxHeartbeats 2000000
set_option autoImplicit false
/-! Iv, part I: calls of defs. -/
namespace Iv
open PySem PySem.Spec PyProof.Rows L2

/-- the values at the places ix, in that order -/
def ixL {α : Type} (ix : List Nat) (l : List α) : List α := ix.filterMap fun i => l[i]?
theorem vals_ix {vs : List V} {us : List Value} (r : Vals vs us) : ∀ ix : List Nat, Vals (ixL ix vs) (ixL ix us)
  | [] => .nil
  | i :: ix => by
    unfold ixL
    rw [List.filterMap_cons, List.filterMap_cons]
    cases e : vs[i]? with
    | none =>
      have e2 : us[i]? = none := List.getElem?_eq_none (by rw [← r.length]; exact List.getElem?_eq_none_iff.mp e)
      rw [e2]
      exact vals_ix r ix
    | some v =>
      obtain ⟨u, e2, rv⟩ := r.get e
      rw [e2]
      exact .cons rv (vals_ix r ix)
theorem RpUs.at2 {G : Gc} {φ : List Addr} {S : Addr → Prop} {H : Hp} : ∀ {us : List U} {vs : List V} (i : Nat), RpUs G φ S H us vs → (us[i]? = none ∧ vs[i]? = none) ∨ ∃ u v, us[i]? = some u ∧ vs[i]? = some v ∧ RpU G φ S H u v
  | [], vs, i, h => by
    obtain rfl := (show vs = [] from h)
    exact .inl ⟨by simp, by simp⟩
  | u :: us, _, 0, ⟨v, r, e, a, b⟩ => by subst e; exact .inr ⟨u, v, rfl, rfl, a⟩
  | u :: us, _, i + 1, ⟨v, r, e, a, b⟩ => by subst e; exact RpUs.at2 i b
theorem RpUs.ix {G : Gc} {φ : List Addr} {S : Addr → Prop} {H : Hp} {us : List U} {vs : List V} (r : RpUs G φ S H us vs) : ∀ ix : List Nat, RpUs G φ S H (ixL ix us) (ixL ix vs)
  | [] => rfl
  | i :: ix => by
    unfold ixL
    rw [List.filterMap_cons, List.filterMap_cons]
    rcases r.at2 i with ⟨e1, e2⟩ | ⟨u, v, e1, e2, q⟩
    · rw [e1, e2]
      exact RpUs.ix r ix
    · rw [e1, e2]
      exact ⟨v, _, rfl, q, RpUs.ix r ix⟩
/-- how a call binds: n values, keywords named ks, defaults ds; ix: which of them goes where -/
structure BindA (G : Gc) (K : PySem.W.Frag) (fd : FuncData) (ps : List Str) (n : Nat) (ks : List Str) (ix : List Nat) (ds : List D) : Prop where
  ex : ∃ (dvs : List V) (dus : List Value), Vals dvs dus ∧ (∀ (S : Addr → Prop) (H : Hp), RpL G S H ds dvs) ∧
    ∀ (s : Shared) (us ws : List Value), K.In s.heap → us.length = n → ws.length = ks.length → BindsTo s fd ⟨us, ks.zip ws⟩ (ps.zip (ixL ix (us ++ ws ++ dus)))
theorem BindA.of {G : Gc} {K : PySem.W.Frag} {x qual : Str} {st : Stmt} {f : Addr} {fd : FuncData} {ps ks : List Str} {n : Nat} {ix : List Nat} (F : Fun K x qual st f fd)
    (h : ∀ (kV doc pm : Value) (an : Option Addr) (cdv ct : Value) (us ws : List Value), us.length = n → ws.length = ks.length → bindArgs (PySem.W.fnOf x qual (defArgs st) (defBody st) (defScope st) .none kV doc pm an cdv ct) ⟨us, ks.zip ws⟩ = pure (ps.zip (ixL ix (us ++ ws)))) : BindA G K fd ps n ks ix [] := by
  obtain ⟨oc, od, kV, doc, pm, an, cdv, ct, osl, rfl, lk, hcd⟩ := F.ex
  exact ⟨[], [], .nil, fun _ _ => rfl, fun s us ws _ h1 h2 => .of_eq (by rw [List.append_nil]; exact h kV doc pm an cdv ct us ws h1 h2)⟩

section
variable {G : Gc} {X : Cx} {W : WX} {k n : Nat} {f : Addr} {fd : FuncData} {ps ks : List Str} {fn : Fn} {ix : List Nat} {ds : List D} {fl : List Bool} {x : Str} {p pos : Pos} {e : Expr} {es : List Expr} {kws : List Keyword} {m mk : Sm (List U)}
/-- a def with its meaning -/
abbrev FnI (G : Gc) (P : Program) (w : World) (K : PySem.W.Frag) (mg : Str → Option Value) (base : Heap) (k : Nat) (f : Addr) (fd : FuncData) (ps : List Str) (fn : Fn) : Prop := FnOk P w K mg base (L2.CX P w) k f fd ps (spD G fn ps.length)
theorem run_i {pins : List (Addr × Obj)} {σ : L2.St} {H : Hp} {s : Shared} {Q : VK} {us ws : List Value} {vs zs : List V} {Z : Addr → Prop} {φ : List Addr} {μ : Mu} {as bs : List U}
    (F : FnI G X.prog X.w X.K X.mg X.base k f fd ps fn) (hr : Room k X.A) (hb : BindA G X.K fd ps n ks ix ds) (tk : Takes X W) (hl : ix.length = ps.length) (hix : ix.all (· < n + ks.length + ds.length) = true)
    (I : Inv X pins σ H s) (r : Vals vs us) (rz : Vals zs ws) (l1 : as.length = n) (l2 : bs.length = ks.length) (rp : Rep G Z φ H μ) (ra : RpUs G φ (Sof Z φ μ) H as vs) (rb : RpUs G φ (Sof Z φ μ) H bs zs)
    (h : Po (RpU G) G Z W φ μ H σ (callL fn fl (ixL ix (as ++ bs ++ ds.map .d)) μ) Q) : wpAny (model X.prog X.w) X.A (call (.ref f) us (ks.zip ws)) (EP X pins σ Q) X.xe s := by
  obtain ⟨dvs, dus, r3, rd, to⟩ := hb.ex
  have rd' : RpUs G φ (Sof Z φ μ) H (ds.map .d) dvs := (rd _ _).us
  have ru := ((ra.app rb).app rd').ix ix
  have r2 : Vals (ixL ix (vs ++ zs ++ dvs)) (ixL ix (us ++ ws ++ dus)) := vals_ix ((r.append rz).append r3) ix
  have len : ∀ {us : List U} {vs : List V}, RpUs G φ (Sof Z φ μ) H us vs → vs.length = us.length := fun {us} => by
    induction us with
    | nil => intro vs h; rw [show vs = [] from h]; rfl
    | cons u us ih => rintro vs ⟨v, r, rfl, _, b⟩; rw [List.length_cons, List.length_cons, ih b]
  have lall : (as ++ bs ++ ds.map U.d).length = n + ks.length + ds.length := by rw [List.length_append, List.length_append, List.length_map, l1, l2]
  have ixl : ∀ {ix : List Nat} {l : List U}, ix.all (· < l.length) = true → (ixL ix l).length = ix.length := fun {ix l} => by
    induction ix with
    | nil => intro _; rfl
    | cons i ix ih =>
      intro h
      rw [List.all_cons, Bool.and_eq_true, decide_eq_true_eq] at h
      unfold ixL
      rw [List.filterMap_cons, List.getElem?_eq_getElem h.1]
      exact congrArg Nat.succ (ih h.2)
  have hn : (ixL ix (vs ++ zs ++ dvs)).length = ps.length := by
    rw [len ru, ixl (by rw [lall]; exact hix), hl]
  have hq := callL_sp rp ru hn h
  refine wpAny_call (codeAny_mono (F.run X.A X.stack s H ⟨us, ks.zip ws⟩ _ _ Q _ hr I.env0 (to s us ws I.kIn (by rw [← r.length, len ra, l1]) (by rw [← rz.length, len rb, l2])) r2 hq) fun r s' hq => ?_)
  cases r with
  | error e => exact passAt tk σ pins H s e s' I hq
  | ok fl =>
    cases fl with
    | ret u => exact I.after hq
    | next => exact False.elim hq
    | brk => exact False.elim hq
    | cont => exact False.elim hq
/-- f(e, .., k = v, ..): fl says which parameters are handed over as themselves -/
def vCall (fn : Fn) (n : Nat) (nk : Nat) (ix : List Nat) (ds : List D) (fl : List Bool) (m mk : Sm (List U)) : Sm U := fun ρ μ => (m ρ μ).bind fun us μ1 => (mk ρ μ1).bind fun ws μ2 =>
  if us.length = n ∧ ws.length = nk then callL fn fl (ixL ix (us ++ ws ++ ds.map .d)) μ2 else .bad
theorem pk_imp {t t' : TA} (h : PK X kws t) (k : ∀ σ H Q, t' σ H Q → t σ H Q) : PK X kws t' := ⟨fun pos pins s σ H Q I q => h.run pos pins s σ H Q I (k σ H Q q)⟩
theorem i_knil : PK X [] (rdA G W aNil) := pk_imp pk_nil fun σ H Q ⟨Z, φ, ρ, μ, sr, po⟩ => po φ H [] Go.refl sr.rep rfl
theorem i_kcons {nm : Option Str} {kpos : Pos} {a : Sm U} (ha : PE X e (rdE G W a)) (hr : PK X kws (rdA G W m)) : PK X (⟨nm, e, kpos⟩ :: kws) (rdA G W (aCons a m)) :=
  pk_imp (pk_cons ha hr) fun σ H Q ⟨Z, φ, ρ, μ, sr, po⟩ => by
    refine rd_mono (po_step (R1 := RpU G) sr po) fun x H1 ⟨φ1, μ1, u, g1, sr1, ru, po1⟩ => ?_
    refine rd_mono (po_step (R1 := RpUs G) sr1 po1) fun xs H2 ⟨φ2, μ2, us, g2, sr2, rus, po2⟩ => ?_
    exact po2 φ2 H2 (x :: xs) Go.refl sr2.rep ⟨x, xs, rfl, ru.mono g2, rus⟩
/-- the readings that the four shapes of a call have in common -/
def tCallI (G : Gc) (W : WX) (fn : Fn) (n nk : Nat) (ix : List Nat) (ds : List D) (fl : List Bool) (m mk : Sm (List U)) : TE := fun σ H Q =>
  rdA G W m σ H fun vs H1 => rdA G W mk σ H1 fun zs H2 => ∃ Z φ μ as bs, as.length = n ∧ bs.length = nk ∧ Rep G Z φ H2 μ ∧ RpUs G φ (Sof Z φ μ) H2 as vs ∧ RpUs G φ (Sof Z φ μ) H2 bs zs ∧ Po (RpU G) G Z W φ μ H2 σ (callL fn fl (ixL ix (as ++ bs ++ ds.map .d)) μ) Q
theorem callI_of (σ : L2.St) (H : Hp) (Q : VK) (h : rdE G W (vCall fn n ks.length ix ds fl m mk) σ H Q) : tCallI G W fn n ks.length ix ds fl m mk σ H Q := by
  obtain ⟨Z, φ, ρ, μ, sr, po⟩ := h
  refine rd_mono (po_step (R1 := RpUs G) sr po) fun vs H1 ⟨φ1, μ1, us, g1, sr1, rus, po1⟩ => ?_
  refine rd_mono (po_step (R1 := RpUs G) sr1 po1) fun zs H2 ⟨φ2, μ2, ws, g2, sr2, rws, po2⟩ => ?_
  split at po2
  · rename_i hl
    exact ⟨Z, φ2, μ2, us, ws, hl.1, hl.2, sr2.rep, rus.mono g2, rws, po2⟩
  · exact False.elim po2
theorem i_call (F : FnI G X.prog X.w X.K X.mg X.base k f fd ps fn) (hr : Room k X.A) (hg : Gl X x) (hm : X.mg x = some (.ref f)) (hk : PySem.W.keepIn X.K (.ref f) = true) (hb : BindA G X.K fd ps n [] ix ds) (tk : Takes X W)
    (ha : PA X (e :: es) (rdA G W m)) (hl : ix.length = ps.length := by decide) (hix : ix.all (· < n + 0 + ds.length) = true := by decide) (hdb : (x == ("__debug__" : Str)) = false := by decide) (he : starEach (e :: es) X.env = (false, eval e X.env) :: starEach es X.env := by rfl) (hpl : (backTo pos (starEach es X.env)).any (·.1) = false := by rfl) :
    PE X (.Call (.Name x p) (e :: es) [] pos) (rdE G W (vCall fn n 0 ix ds fl m aNil)) := by
  refine ⟨fun pins s σ H Q I h => ?_⟩
  refine wpAny_Call_Name_kw (ld_glob I hg hm ?_ hdb)
  obtain h := callI_of (ks := []) σ H Q h
  refine PySem.W.callWith_K (h₀ := X.base) I.ok.mod.kin hk (thn (ha.run pos pins s σ H _ I h) fun us s1 ⟨vs, H1, I1, r, q⟩ => ⟨I1.kIn, ?_⟩) he hpl
  have q' := (i_knil (X := X) (G := G) (W := W)).run pos pins s1 σ H1 _ I1 q
  obtain ⟨Z', φ', ρ', μ', sr', po'⟩ := q
  obtain ⟨Z, φ, μ, as, bs, l1, l2, rp, ra, rb, po⟩ := po' φ' H1 [] Go.refl sr'.rep rfl
  exact run_i (ws := []) (zs := []) (ks := []) F hr hb tk hl hix I1 r .nil l1 l2 rp ra rb po
theorem i_call0 (F : FnI G X.prog X.w X.K X.mg X.base k f fd ps fn) (hr : Room k X.A) (hg : Gl X x) (hm : X.mg x = some (.ref f)) (hk : PySem.W.keepIn X.K (.ref f) = true) (hb : BindA G X.K fd ps 0 [] ix ds) (tk : Takes X W)
    (hl : ix.length = ps.length := by decide) (hix : ix.all (· < 0 + 0 + ds.length) = true := by decide) (hdb : (x == ("__debug__" : Str)) = false := by decide) :
    PE X (.Call (.Name x p) [] [] pos) (rdE G W (vCall fn 0 0 ix ds fl aNil aNil)) := by
  refine ⟨fun pins s σ H Q I h => ?_⟩
  refine wpAny_Call_Name_kw (ld_glob I hg hm ?_ hdb)
  obtain ⟨Z', φ', ρ', μ', sr', po'⟩ := callI_of (ks := []) σ H Q h
  obtain ⟨Z1, φ1, ρ1, μ1, sr1, po1⟩ := po' φ' H [] Go.refl sr'.rep rfl
  obtain ⟨Z, φ, μ, as, bs, l1, l2, rp, ra, rb, po⟩ := po1 φ1 H [] Go.refl sr1.rep rfl
  exact PySem.W.callWith_K0 I.kIn hk (run_i (us := []) (vs := []) (ws := []) (zs := []) (ks := []) F hr hb tk hl hix I .nil .nil l1 l2 rp ra rb po)
theorem i_callK (F : FnI G X.prog X.w X.K X.mg X.base k f fd ps fn) (hr : Room k X.A) (hg : Gl X x) (hm : X.mg x = some (.ref f)) (hk : PySem.W.keepIn X.K (.ref f) = true) (hb : BindA G X.K fd ps n ks ix ds) (tk : Takes X W)
    (ha : PA X (e :: es) (rdA G W m)) (hkw : PK X kws (rdA G W mk)) (hall : (backToKw pos (keywordEach kws X.env)).all (·.1.isSome) = true := by rfl) (hks : (backToKw pos (keywordEach kws X.env)).filterMap (·.1) = ks := by rfl)
    (hl : ix.length = ps.length := by decide) (hix : ix.all (· < n + ks.length + ds.length) = true := by decide) (hdb : (x == ("__debug__" : Str)) = false := by decide) (he : starEach (e :: es) X.env = (false, eval e X.env) :: starEach es X.env := by rfl)
    (hpl : ((backTo pos (starEach (e :: es) X.env)).any (·.1) || (backToKw pos (keywordEach kws X.env)).any (·.1.isNone)) = false := by rfl) :
    PE X (.Call (.Name x p) (e :: es) kws pos) (rdE G W (vCall fn n ks.length ix ds fl m mk)) := by
  refine ⟨fun pins s σ H Q I h => ?_⟩
  refine wpAny_Call_Name_kw (ld_glob I hg hm ?_ hdb)
  obtain h := callI_of σ H Q h
  refine PySem.W.callWith_KW (h₀ := X.base) I.ok.mod.kin hk hall (thn (ha.run pos pins s σ H _ I h) fun us s1 ⟨vs, H1, I1, r, q⟩ => ?_) hpl he
  refine thn (hkw.run pos pins s1 σ H1 _ I1 q) fun ws s2 ⟨zs, H2, I2, rz, Z, φ, μ, as, bs, l1, l2, rp, ra, rb, po⟩ => ⟨I2.kIn, ?_⟩
  rw [hks]
  exact run_i F hr hb tk hl hix I2 r rz l1 l2 rp ra rb po
theorem i_callK0 {e : Expr} {nm : Option Str} {kpos : Pos} (F : FnI G X.prog X.w X.K X.mg X.base k f fd ps fn) (hr : Room k X.A) (hg : Gl X x) (hm : X.mg x = some (.ref f)) (hk : PySem.W.keepIn X.K (.ref f) = true) (hb : BindA G X.K fd ps 0 ks ix ds) (tk : Takes X W)
    (hkw : PK X (⟨nm, e, kpos⟩ :: kws) (rdA G W mk)) (hall : (backToKw pos (keywordEach (⟨nm, e, kpos⟩ :: kws) X.env)).all (·.1.isSome) = true := by rfl) (hks : (backToKw pos (keywordEach (⟨nm, e, kpos⟩ :: kws) X.env)).filterMap (·.1) = ks := by rfl)
    (hl : ix.length = ps.length := by decide) (hix : ix.all (· < 0 + ks.length + ds.length) = true := by decide) (hdb : (x == ("__debug__" : Str)) = false := by decide)
    (hpl : ((backTo pos (starEach [] X.env)).any (·.1) || (backToKw pos (keywordEach (⟨nm, e, kpos⟩ :: kws) X.env)).any (·.1.isNone)) = false := by rfl) :
    PE X (.Call (.Name x p) [] (⟨nm, e, kpos⟩ :: kws) pos) (rdE G W (vCall fn 0 ks.length ix ds fl aNil mk)) := by
  refine ⟨fun pins s σ H Q I h => ?_⟩
  refine wpAny_Call_Name_kw (ld_glob I hg hm ?_ hdb)
  obtain ⟨Z', φ', ρ', μ', sr', po'⟩ := callI_of σ H Q h
  have q := po' φ' H [] Go.refl sr'.rep rfl
  refine PySem.W.callWith_KW0 (h₀ := X.base) I.ok.mod.kin hk hall ?_ hpl
  refine thn (hkw.run pos pins s σ H _ I q) fun ws s2 ⟨zs, H2, I2, rz, Z, φ, μ, as, bs, l1, l2, rp, ra, rb, po⟩ => ⟨I2.kIn, ?_⟩
  rw [hks]
  exact run_i (us := []) (vs := []) F hr hb tk hl hix I2 .nil rz l1 l2 rp ra rb po
end
end Iv
set_option Elab.async false
set_option linter.all false
set_option maxRecDepth 100000
set_option maxHeartbeats 2000000
set_option autoImplicit false
/-! Iv, part J: exceptions. -/
namespace Iv
open PySem PySem.Spec PyProof.Rows L2

/-! ### a caught exception stands as a value -/
def ExcV (cls : Value) (dx : Option Addr) (a : Addr) : HO := .ext fun h => ∃ (oe : Obj) (vs : Array Value), h.get? a = some oe ∧ Zc cls dx oe ∧ oe.data = .fields vs
theorem excV_ok {P : Program} {w : World} {H : Hp} {h : Heap} {a : Addr} {cls : Value} {dx : Option Addr} {oe : Obj} {vs : Array Value} (e : h.get? a = some oe) (z : Zc cls dx oe) (d : oe.data = .fields vs) : ObjOk P w H h a (ExcV cls dx a) :=
  ⟨⟨oe, vs, e, z, d⟩, ⟨oe, e⟩, fun _ _ ⟨o, v, q, r⟩ k => ⟨o, v, k o q, r⟩⟩
section
variable {X : Cx} {pins : List (Addr × Obj)} {σ : L2.St} {H : Hp} {s : Shared}
theorem suiteT (I : L2.Inv X pins σ H s) {a : Addr} {oe : Obj} {vs : Array Value} {cls : Value} {dx : Option Addr} (ha : s.heap.get? a = some oe) (hz : Zc cls dx oe) (hd : oe.data = .fields vs) (na : H a = none) (n0 : X.s_0.heap.get? a = none)
    (nL : a ≠ X.env.locals) (np : ∀ p ∈ X.pn ++ pins, p.1 ≠ a) : L2.Inv (X.suite a (X.pn ++ pins)) [] σ (upd H a (ExcV cls dx a)) s := by
  have ne : ∀ {b : Addr} {o : Obj}, X.s_0.heap.get? b = some o → b ≠ a := fun {b o} e z => by rw [z, n0] at e; cases e
  refine ⟨I.ok.suite _ _, I.os, I.bare, ?_, I.loc, I.cell, by rw [upd_ne (Ne.symm nL)]; exact I.free, fun x c e => ?_, fun p hp => ?_, fun b o e => ?_, I.len⟩
  · exact ⟨I.base.keep, I.base.slot, fun b o e n hx => by rw [upd_ne (ne e)]; exact I.base.free b o e n hx, I.base.there, fun b xs e => by
      have z := I.base.tups b xs e
      rw [upd_ne (ne_of_none z na)]; exact z, fun b o u e => by
      have z := I.base.frzs b o u e
      rw [upd_ne (ne_of_none z na)]; exact z, fun b ps e => by
      obtain ⟨m, z⟩ := I.base.tbls b ps e
      exact ⟨m, by rw [upd_ne (ne_of_none z na)]; exact z⟩⟩
  · have hc : c ≠ a := fun z => by
      obtain ⟨v, o, e1, e2⟩ := I.cell x c e
      rw [z, ha] at e1
      cases e1
      rw [hd] at e2
      cases e2
    rw [upd_ne hc]
    exact I.freeC x c e
  · have hp' : p ∈ X.pn ++ pins := by rw [List.append_nil] at hp; exact hp
    obtain ⟨e1, e2, e3⟩ := I.pin p hp'
    exact ⟨e1, by rw [upd_ne (np p hp')]; exact e2, e3⟩
  · by_cases hb : b = a
    · subst hb
      rw [upd_same] at e
      cases e
      exact excV_ok ha hz hd
    · rw [upd_ne hb] at e
      exact (I.hok b o e).stay (fun c v _ q => q) (fun c q => by rw [upd_ne (ne_of_none q na)]; exact q) fun c xs q => by rw [upd_ne (ne_of_none q na)]; exact q
theorem unsuiteT {a : Addr} {pn' : List (Addr × Obj)} (I : L2.Inv (X.suite a (X.pn ++ pins)) pn' σ H s) (ok : X.Ok) : L2.Inv X pins σ H s :=
  ⟨ok, I.os, I.bare, I.base, I.loc, I.cell, I.free, I.freeC, fun p hp => I.pin p (List.mem_append_left _ hp), I.hok, I.len⟩
end
/-- what 'except x as n' wishes: the exception stands as a value -/
def wAsT (K : PySem.W.Frag) (c : Value) (i : Nat) (ts : TS) (Wout : WX) (D : Ends) : WX := fun cls d σ H =>
  ∃ b, PySem.W.exmOne K cls c = some b ∧ (b = true → ∀ a, H a = none → ts { nx := fun σ' H' => D.nx (σ'.set i none) H', rt := D.rt, bk := fun σ' H' => D.bk (σ'.set i none) H', ct := fun σ' H' => D.ct (σ'.set i none) H' } (σ.set i (some (.ref a))) (upd H a (ExcV cls d a))) ∧
    (b = false → Wout cls d σ H)
section
variable {X : Cx} {x n : Str} {c : Value} {i : Nat} {body suite : List Stmt} {b₀ : Stmt} {np pos pos' : Pos} {tb : WX → TS} {ts : TS} {Wout : WX}
theorem ps_try_asT (hs : X.stack = X.env :: X.outer) (hf : X.env.frame = some X.env.locals) (hex : X.ex = []) (hN : X.N.Nodup) (hi : X.N[i]? = some n) (hln : X.env.kindOf n = some .local) (hc : Names X x c) (tk : Takes X Wout)
    (hb : ∀ (W : WX) (pn : List (Addr × Obj)) (xe : Value → Shared → Prop), Takes (X.tr pn xe) W → PassesOwn (model X.prog X.w) X.A X.env xe → PSs (X.tr pn xe) body (tb W))
    (hsu : ∀ (a : Addr) (pn : List (Addr × Obj)), PSs (X.suite a pn) (b₀ :: suite) ts) :
    PS X (.Try body [.ExceptHandler (some (.Name x np)) (some n) (b₀ :: suite) pos'] [] [] pos) (fun D σ H => tb (wAsT X.K c i ts Wout D) D σ H) := by
  refine ⟨fun pins s σ H D I h => ?_⟩
  have ok := I.ok
  have hfr : X.A.frames = some (X.env :: X.outer) := by rw [ok.frames, hs]
  have hloc : L2.Loc X.env.scope n := .inl hln
  refine wpAny_Try_except ?_
  refine wpAny_mono ((hb (wAsT X.K c i ts Wout D) (X.pn ++ pins) (fun e s₁ => wpAny (model X.prog X.w) X.A (noteFrame e X.env) (fun _ s₂ => wpAny (model X.prog X.w) X.A (setFlight e none) (fun _ s₃ =>
    wpAny (model X.prog X.w) X.A (handleBy e X.env [.ExceptHandler (some (.Name x np)) (some n) (b₀ :: suite) pos']) (SP X pins D) X.xe s₃) X.xe s₂) X.xe s₁) (fun u s' xx => ?_) PassesOwn.looking).run [] s σ H D (I.toTry _) h) (fun f s1 hsp => ?_) (fun e s1 he => he)
  · obtain ⟨a, B, sI, pins', σ', H', cls, d, rfl, J', nb, up, sky, na, os, ag, b, hb1, hyes, hno⟩ := xx
    have J : L2.Inv X pins σ' H' sI := J'.ofTry ok
    have sky' : Sky B (X.env :: X.outer) a (Zc cls d) X.env.locals s'.heap := by rw [← hs]; exact sky
    show wpAny (model X.prog X.w) X.A (noteFrame (.ref a) X.env) _ _ _
    refine Sky.land Zc.steady hfr hf sky' fun h3 fl3 up3 => ?_
    have J3 : L2.Inv X pins σ' H' { s' with heap := h3 } := J.landed nb fl3.1 (up.trans up3) os ag
    obtain ⟨oe3, vs3, he3, hz3, hd3⟩ := fl3.there
    have notFr : ∀ {h : Heap} {o : Obj} {vs : Array Value}, h.FunFrames B (X.env :: X.outer) → h.get? a = some o → o.data = .fields vs → a ∉ frs (X.env :: X.outer) := fun {h o vs} ff e dd hm => by
      obtain ⟨_, o', e', hnf⟩ := ff.mem hm
      rw [e] at e'; cases e'
      exact hnf _ dd
    have nfr := notFr fl3.2.2.1 he3 hd3
    have nL : a ≠ X.env.locals := fun z => nfr (List.mem_filterMap.mpr ⟨X.env, List.mem_cons_self, by rw [hf, z]⟩)
    have nfs : a ∉ frs X.stack := by rw [hs]; exact nfr
    have nB : B.get? a = none := fl3.2.1
    have nI : sI.heap.get? a = none := by
      cases e : sI.heap.get? a with
      | none => rfl
      | some o => rw [nb a o e nfs] at nB; cases nB
    have n0 : X.s_0.heap.get? a = none := by
      cases e : X.s_0.heap.get? a with
      | none => rfl
      | some o =>
        obtain ⟨o', e'⟩ := J.base.there a o e (by rw [hex]; exact fun z => nomatch z)
        rw [nI] at e'; cases e'
    have np' : ∀ p ∈ X.pn ++ pins, p.1 ≠ a := fun p hp z => by
      have e1 := (J.pin p hp).1
      rw [z, nI] at e1; cases e1
    have S3 := suiteT J3 he3 hz3 hd3 na n0 nL np'
    refine wpAny_handleBy_cons (codeAny_handlers_test ?_) (by intro q; cases q)
    have LT : PySem.W.Looks (model X.prog X.w) h3 (typeOf (.ref a)) cls := fun A Q E s k q => wpAny_typeOf_ref (k _ _ he3) (by rw [hz3.1]; exact q)
    have LM := PySem.W.exm_one (M := model X.prog X.w) (J3.kIn) LT hb1
    have test : ∀ {Q : Value → Shared → Prop} {E : Value → Shared → Prop}, Q c { s' with heap := h3 } → wpAny (model X.prog X.w) (X.A.mark (some (.ref a))) (eval (.Name x np) X.env) Q E { s' with heap := h3 } := fun {Q E} q => by
      obtain ⟨hg, hdbg, hm | ⟨hm, hv, hnn⟩⟩ := hc
      · exact ld_glob (X := X.suite a (X.pn ++ pins)) S3 hg hm q hdbg
      · exact ld_blt (X := X.suite a (X.pn ++ pins)) S3 hg hm hv q hnn hdbg
    refine test (LM.here ?_)
    cases b with
    | true =>
      refine codeAny_handlers_suite_as ?_
      refine HandSPX.lands_againZ fl3 fun h4 fl4 up4 => ?_
      have J4 : L2.Inv X pins σ' H' { s' with heap := h4 } := J.landed nb fl4.1 ((up.trans up3).trans up4) os ag
      obtain ⟨oe4, vs4, he4, hz4, hd4⟩ := fl4.there
      have S4 := suiteT J4 he4 hz4 hd4 na n0 nL np'
      refine store_ok (X := X.suite a (X.pn ++ pins)) (v := .ref a) S4 hN hi hloc rfl (fun s5 S5 => ?_) (.inr hln)
      refine wpAny_mono ((hsu a (X.pn ++ pins)).run [] s5 _ _ _ S5 (hyes rfl a na)) (fun f s6 hsp => ?_) (fun _ _ z => False.elim z)
      have end_ : ∀ {σ6 : L2.St} {H6 : Hp} {Q : Shared → Prop}, L2.Inv (X.suite a (X.pn ++ pins)) [] σ6 H6 s6 → (∀ s7, L2.Inv X pins (σ6.set i none) H6 s7 → Q s7) →
          wpAny (model X.prog X.w) X.A (do bindName X.env n .none; unbindBehindTheSuite X.env n pos') (fun _ s7 => Q s7) X.xe s6 := fun {σ6 H6 Q} S6 hq => gone_ok (unsuiteT S6 ok) hN hi hln hq
      cases f with
      | next =>
        obtain ⟨σ6, H6, S6, q6⟩ := hsp
        exact end_ S6 fun s7 J7 => ⟨_, _, J7, q6⟩
      | brk =>
        obtain ⟨σ6, H6, S6, q6⟩ := hsp
        exact end_ S6 fun s7 J7 => ⟨_, _, J7, q6⟩
      | cont =>
        obtain ⟨σ6, H6, S6, q6⟩ := hsp
        exact end_ S6 fun s7 J7 => ⟨_, _, J7, q6⟩
      | ret u =>
        obtain ⟨v6, σ6, H6, S6, r6, q6⟩ := hsp
        exact end_ S6 fun s7 J7 => ⟨_, _, _, J7, r6, q6⟩
    | false =>
      show wpAny _ X.A (handleBy (.ref a) X.env []) _ _ _
      refine wpAny_handleBy_nil ?_
      obtain ⟨k1, k2, k3, oe, vs, T, oT, ts', he, hz, hd, h1, hr⟩ := id fl3
      unfold PySem.passOn
      refine wpAny_bind (wpAny_field he hd h1 ?_)
      rw [if_neg (show ¬ ((Value.ref T == Value.none) = true) from by simp)]
      have fin : wpAny (model X.prog X.w) X.A (setFlight (.ref a) X.env.frame) (fun _ s4 => wpAny (model X.prog X.w) X.A (throw (.ref a) : Sem Flow) (SP X pins D) X.xe s4) X.xe { s' with heap := h3 } := by
        rw [hf]
        refine HandSPX.setFlight_upZ fl3 fun h4 hh4 up4 => wpAny_throw (tk _ _ ?_)
        exact ⟨a, B, sI, pins, σ', H', cls, d, rfl, J, nb, (up.trans up3).trans up4, .inr (.inr (by rw [hs]; exact hh4)), na, os, ag, hno rfl⟩
      first
        | exact wpAny_bind (wpAny_pure (wpAny_bind fin))
        | exact wpAny_bind fin
  · cases f with
    | next =>
      obtain ⟨σ', H', J', q⟩ := hsp
      exact wpAny_execs_nil ⟨σ', H', J'.ofTry ok, q⟩
    | brk =>
      obtain ⟨σ', H', J', q⟩ := hsp
      exact ⟨σ', H', J'.ofTry ok, q⟩
    | cont =>
      obtain ⟨σ', H', J', q⟩ := hsp
      exact ⟨σ', H', J'.ofTry ok, q⟩
    | ret u =>
      obtain ⟨v, σ', H', J', r, q⟩ := hsp
      exact ⟨v, σ', H', J'.ofTry ok, r, q⟩
end

/-! ### try, raise: meanings -/
def RS.drop (i : Nat) : RS → RS
  | .nx ρ μ => .nx (ρ.set i none) μ
  | .brk ρ μ => .brk (ρ.set i none) μ
  | .ct ρ μ => .ct (ρ.set i none) μ
  | .ret u μ => .ret u μ
  | .err _ _ _ _ _ => .bad
  | .bad => .bad
/-- try: body, except as i: suite; cov: the classes that the clause was asked for -/
def sTryAs (cov : List (Nat × Bool)) (i : Nat) (body suite : SmS) : SmS := fun ρ μ => match body ρ μ with
  | .err c ns vs ρ' μ' => match cov.lookup c with
    | some true => (suite (ρ'.set i (some (.d (.exc c ns vs)))) μ').drop i
    | some false => .err c ns vs ρ' μ'
    | none => .bad
  | r => r
section
variable {G : Gc} {X : Cx} {W : WX} {pos pos' np : Pos} {mb ms : SmS} {x n : Str} {c : Value} {i : Nat} {body suite : List Stmt} {b₀ : Stmt} {cov : List (Nat × Bool)}
theorem cov_mem {c : Nat} {b : Bool} : ∀ {cov : List (Nat × Bool)}, cov.lookup c = some b → (c, b) ∈ cov
  | (k, v) :: r, h => by
    rw [List.lookup_cons] at h
    split at h
    · rename_i e
      have e' := beq_iff_eq.mp e
      cases h
      subst e'
      exact List.mem_cons_self
    · exact List.mem_cons_of_mem _ (cov_mem h)
theorem excV_rp {Z : Addr → Prop} {φ : List Addr} {μ : Mu} {H : Hp} {c : Nat} {ns : List Str} {vs : List D} {cls : Value} {dx : Option Addr} {a : Addr} (r : Rep G Z φ H μ) (e : ErrR G (Sof Z φ μ) H c ns vs cls dx) (na : H a = none) :
    Rp G (Sof Z φ μ) (upd H a (ExcV cls dx a)) (.exc c ns vs) (.ref a) := by
  have g := Go.newD (Z := Z) (φ := φ) (μ := μ) (o := ExcV cls dx a) r na
  have nS : ¬ Sof Z φ μ a := fun z => by
    obtain ⟨o, ho⟩ := r.there z
    rw [na] at ho; cases ho
  obtain ⟨e1, e2⟩ := e
  subst e1
  rcases e2 with ⟨e2, e3, e4⟩ | ⟨d, ws, e2, e3, e4, e5, e6⟩
  · subst e2 e3 e4
    exact ⟨a, none, [], rfl, nS, upd_same, rfl, .inl ⟨rfl, rfl⟩, rfl⟩
  · subst e2
    exact ⟨a, some d, ws, rfl, nS, upd_same, e5, .inr ⟨d, rfl, (g.ex.keep d _ e4 e3 nt_xd).2, (g.ex.keep d _ e4 e3 nt_xd).1⟩, RpL.mono g.ex e6⟩
theorem i_try (hs : X.stack = X.env :: X.outer) (hf : X.env.frame = some X.env.locals) (hex : X.ex = []) (hN : X.N.Nodup) (hi : X.N[i]? = some n) (hln : X.env.kindOf n = some .local) (hc : Names X x c) (tk : Takes X W)
    (hcov : ∀ p ∈ cov, PySem.W.exmOne X.K (.ref (G.cls p.1)) c = some p.2)
    (hb : ∀ (W : WX) (pn : List (Addr × Obj)) (xe : Value → Shared → Prop), Takes (X.tr pn xe) W → PassesOwn (model X.prog X.w) X.A X.env xe → PSs (X.tr pn xe) body (rdS G W mb))
    (hsu : ∀ (a : Addr) (pn : List (Addr × Obj)), PSs (X.suite a pn) (b₀ :: suite) (rdS G (fun _ _ _ _ => False) ms)) :
    PS X (.Try body [.ExceptHandler (some (.Name x np)) (some n) (b₀ :: suite) pos'] [] [] pos) (rdS G W (sTryAs cov i mb ms)) :=
  PS.imp (ps_try_asT (tb := fun W => rdS G W mb) hs hf hex hN hi hln hc tk hb hsu) fun D σ H ⟨Z, φ, ρ, μ, sr, po⟩ => by
    refine ⟨Z, φ, ρ, μ, sr, ?_⟩
    unfold sTryAs at po
    cases e : mb ρ μ with
    | nx ρ' μ' => rw [e] at po; exact po
    | ret u μ' => rw [e] at po; exact po
    | brk ρ' μ' => rw [e] at po; exact po
    | ct ρ' μ' => rw [e] at po; exact po
    | bad => rw [e] at po; exact po
    | err c' ns vs ρ' μ' =>
      rw [e] at po
      dsimp only at po
      intro φ' H' σ' cls dx g sr' er
      split at po
      · rename_i hl
        have hm := hcov _ (cov_mem hl)
        refine ⟨true, by rw [er.1]; exact hm, fun _ a na => ?_, fun z => Bool.noConfusion z⟩
        have g2 := Go.newD (Z := Z) (φ := φ') (μ := μ') (o := ExcV cls dx a) sr'.rep na
        have r2 := Rep.newD (o := ExcV cls dx a) sr'.rep na
        refine ⟨Z, φ', _, μ', ⟨r2, Sls.put i (sr'.sl.mono g2) (show RpU G φ' _ _ (.d (.exc c' ns vs)) (.ref a) from excV_rp sr'.rep er na)⟩, ?_⟩
        have g3 := g.trans g2
        cases e2 : ms (ρ'.set i (some (.d (.exc c' ns vs)))) μ' with
        | nx ρ2 μ2 => rw [e2] at po; exact fun φ2 H2 σ2 g4 sr4 => po φ2 H2 _ (g3.trans g4) ⟨sr4.rep, Sls.set (u := none) (x := none) True.intro i sr4.sl⟩
        | brk ρ2 μ2 => rw [e2] at po; exact fun φ2 H2 σ2 g4 sr4 => po φ2 H2 _ (g3.trans g4) ⟨sr4.rep, Sls.set (u := none) (x := none) True.intro i sr4.sl⟩
        | ct ρ2 μ2 => rw [e2] at po; exact fun φ2 H2 σ2 g4 sr4 => po φ2 H2 _ (g3.trans g4) ⟨sr4.rep, Sls.set (u := none) (x := none) True.intro i sr4.sl⟩
        | ret u μ2 => rw [e2] at po; exact fun φ2 H2 v g4 r4 rv => po φ2 H2 v (g3.trans g4) r4 rv
        | err _ _ _ _ _ => rw [e2] at po; exact False.elim po
        | bad => rw [e2] at po; exact False.elim po
      · rename_i hl
        have hm := hcov _ (cov_mem hl)
        exact ⟨false, by rw [er.1]; exact hm, fun z => Bool.noConfusion z, fun _ => po φ' H' σ' cls dx g sr' er⟩
      · exact False.elim po
end
/-! ### raise -/
/-- self's fields behind __init__: the last stored first -/
def spX (C : Addr) (n : Nat) (ns : List Str) (ix : List Nat) : Sp := fun vs H Q _ => ∃ a ws, vs = .ref a :: ws ∧ ws.length = n ∧ H a = some (exo a C none) ∧
  ∀ d, H d = none → d ≠ a → Q .non (upd (upd H d (exd d (ns.zip (ixL ix ws)))) a (exo a C (some d)))
def sRaise (c n : Nat) (ns : List Str) (ix : List Nat) (m : Sm (List U)) : SmS := fun ρ μ => (m ρ μ).thenS ρ fun us μ1 => if us.length = n then (match frzL us μ1 with
  | some (ds, μ2) => .err c ns (ixL ix ds) ρ μ2
  | none => .bad) else .bad
section
variable {G : Gc} {X : Cx} {W : WX} {pos pos' p : Pos} {m : Sm (List U)} {x : Str} {e : Expr} {es : List Expr} {c n k : Nat} {ns ps : List Str} {ix : List Nat} {fI : Addr} {fd : FuncData}
theorem RpL.at2 {S : Addr → Prop} {H : Hp} : ∀ {us : List D} {vs : List V} (i : Nat), RpL G S H us vs → (us[i]? = none ∧ vs[i]? = none) ∨ ∃ u v, us[i]? = some u ∧ vs[i]? = some v ∧ Rp G S H u v
  | [], vs, i, h => by
    obtain rfl := (show vs = [] from h)
    exact .inl ⟨by simp, by simp⟩
  | u :: us, _, 0, ⟨v, r, e, a, b⟩ => by subst e; exact .inr ⟨u, v, rfl, rfl, a⟩
  | u :: us, _, i + 1, ⟨v, r, e, a, b⟩ => by subst e; exact RpL.at2 i b
theorem RpL.ixs {S : Addr → Prop} {H : Hp} {us : List D} {vs : List V} (r : RpL G S H us vs) : ∀ ix : List Nat, RpL G S H (ixL ix us) (ixL ix vs)
  | [] => rfl
  | i :: ix => by
    unfold ixL
    rw [List.filterMap_cons, List.filterMap_cons]
    rcases r.at2 i with ⟨e1, e2⟩ | ⟨u, v, e1, e2, q⟩
    · rw [e1, e2]
      exact RpL.ixs r ix
    · rw [e1, e2]
      exact ⟨v, _, rfl, q, RpL.ixs r ix⟩
theorem ixL_len {α : Type} : ∀ {ix : List Nat} {l : List α}, ix.all (· < l.length) = true → (ixL ix l).length = ix.length
  | [], _, _ => rfl
  | i :: ix, l, h => by
    rw [List.all_cons, Bool.and_eq_true, decide_eq_true_eq] at h
    unfold ixL
    rw [List.filterMap_cons, List.getElem?_eq_getElem h.1]
    exact congrArg Nat.succ (ixL_len h.2)
theorem i_raise (hc : X.calm = true) (tk : Takes X W) (T : OexC X.K (G.cls c)) (iC : PySem.W.findIn X.K (.ref (G.cls c)) "__init__" = some (some (.ref fI))) (tI : PySem.W.typeIn X.K (.ref fI) = some (.type "function"))
    (F1 : FnOk X.prog X.w X.K X.mg X.base (L2.CX X.prog X.w) k fI fd ps (spX (G.cls c) n ns ix)) (hr : Room (k + 1) X.A) (hb : Binds X.K fd ps []) (hg : Gl X x) (hm : X.mg x = some (.ref (G.cls c))) (ha : PA X (e :: es) (rdA G W m))
    (hn : n ≤ 1000 := by decide) (hl : ns.length = ix.length := by decide) (hix : ix.all (· < n) = true := by decide)
    (hdb : (x == ("__debug__" : Str)) = false := by decide) (he : starEach (e :: es) X.env = (false, eval e X.env) :: starEach es X.env := by rfl) (hpl : (backTo pos (starEach es X.env)).any (·.1) = false := by rfl) :
    PS X (.Raise (some (.Call (.Name x p) (e :: es) [] pos)) none pos') (rdS G W (sRaise c n ns ix m)) :=
  PS.imp (ps_raise hc tk (pmk_oex T iC tI F1 hr hb .nil passL hg hm ha hdb he hpl)) fun D σ H ⟨Z, φ, ρ, μ, sr, po⟩ => by
    refine rd_mono (pos_step (R1 := RpUs G) sr po) fun vs H1 ⟨φ1, μ1, us, g1, sr1, rus, po1⟩ => ?_
    split at po1
    · rename_i hl1
      split at po1
      · rename_i ds μ2 hf
        obtain ⟨F, rl⟩ := frzL_ok hf sr1.rep rus
        have lv : vs.length = n := by rw [rus.length, hl1]
        refine ⟨by rw [lv]; exact hn, fun a na => ⟨a, vs, by rw [List.append_nil], lv, upd_same, fun d nd hda => ⟨rfl, d, ns.zip (ixL ix vs), upd_same, by rw [upd_ne hda, upd_same], ?_, ?_⟩⟩⟩
        · rw [upd_ne hda] at nd; exact nd
        · have nd' : H1 d = none := by rw [upd_ne hda] at nd; exact nd
          have eH : upd (L2.del (upd (upd (upd H1 a (exo a (G.cls c) none)) d (exd d (ns.zip (ixL ix vs)))) a (exo a (G.cls c) (some d))) a) d (.xd (ns.zip (ixL ix vs))) = upd H1 d (.xd (ns.zip (ixL ix vs))) := by
            funext b
            by_cases hb : b = d
            · subst hb; rw [upd_same, upd_same]
            · rw [upd_ne hb, upd_ne hb]
              by_cases hba : b = a
              · subst hba; rw [L2.del_same, na]
              · rw [L2.del_ne hba, upd_ne hba, upd_ne hb, upd_ne hba]
          rw [eH]
          have r2 := F.rep
          have g2 := Go.newD (Z := Z) (φ := φ1) (μ := μ2) (o := .xd (ns.zip (ixL ix vs))) r2 nd'
          have nS : ¬ Sof Z φ1 μ2 d := fun z => by
            obtain ⟨o, ho⟩ := r2.there z
            rw [nd'] at ho; cases ho
          refine po1 φ1 _ σ _ _ (F.go.trans g2) ⟨r2.newD nd', sr1.sl.mono (F.go.trans g2)⟩ ⟨rfl, .inr ⟨d, ixL ix vs, rfl, nS, upd_same, ?_, RpL.mono g2.ex (rl.ixs ix)⟩⟩
          rw [ixL_len (by rw [lv]; exact hix), hl]
      · exact False.elim po1
    · exact False.elim po1
end
/-- __init__ with one field, two fields -/
theorem init1 {P : Program} {w : World} {K : PySem.W.Frag} {mg : Str → Option Value} {base : Heap} {x qual : Str} {params : Arguments} {body : List Stmt} {scope : Scope} {dvs : List V} {kws : List (Str × V)} {f C : Addr} {fd : FuncData} {s0 a fl : Str} {p1 p2 p3 p4 : Pos} {k : Nat} (F : FunD K x qual params body scope dvs kws f fd) (S : FnScope [s0, a] [s0, a] scope)
    (hb : body = [.Assign [.Attribute (.Name s0 p1) fl p2] (.Name a p3) p4]) (T : OexC K C) (hno : PySem.W.findIn K (.ref C) fl = some none) (v0 : Vis scope s0) (v1 : Vis scope a)
    (d0 : (s0 == ("__debug__" : Str)) = false := by decide) (d1 : (a == ("__debug__" : Str)) = false := by decide) (c0 : (s0 == ("__classdict__" : Str)) = false := by decide) (c1 : (a == ("__classdict__" : Str)) = false := by decide) :
    FnOk P w K mg base (L2.CX P w) (k + 1) f fd [s0, a] (spX C 1 [fl] [0]) :=
  F.ok S (fun vs H Q E ⟨a, ws, e, l, _⟩ => by rw [e, List.length_cons, l]; rfl) fun cdv A outer s H vs Q E hr hsp => by
    rw [hb]
    refine ⟨_, pss_one (ps_ost (pe_var (i := 0) rfl v0 d0 c0) (pe_var (i := 1) rfl v1 d1 c1)), ?_⟩
    obtain ⟨b, ws, rfl, l, hH, hq⟩ := hsp
    match ws, l with
    | [y], _ => exact ⟨y, rfl, .ref b, rfl, b, C, rfl, T, hno, .inl ⟨hH, fun dx nd ne => hq dx nd ne⟩⟩
theorem init2 {P : Program} {w : World} {K : PySem.W.Frag} {mg : Str → Option Value} {base : Heap} {x qual : Str} {params : Arguments} {body : List Stmt} {scope : Scope} {dvs : List V} {kws : List (Str × V)} {f C : Addr} {fd : FuncData} {s0 a a2 fl fl2 : Str} {p1 p2 p3 p4 p5 p6 p7 p8 : Pos} {k : Nat} (F : FunD K x qual params body scope dvs kws f fd) (S : FnScope [s0, a, a2] [s0, a, a2] scope)
    (hb : body = [.Assign [.Attribute (.Name s0 p1) fl p2] (.Name a p3) p4, .Assign [.Attribute (.Name s0 p5) fl2 p6] (.Name a2 p7) p8]) (T : OexC K C) (hno : PySem.W.findIn K (.ref C) fl = some none) (hno2 : PySem.W.findIn K (.ref C) fl2 = some none) (v0 : Vis scope s0) (v1 : Vis scope a) (v2 : Vis scope a2)
    (d0 : (s0 == ("__debug__" : Str)) = false := by decide) (d1 : (a == ("__debug__" : Str)) = false := by decide) (d2 : (a2 == ("__debug__" : Str)) = false := by decide) (c0 : (s0 == ("__classdict__" : Str)) = false := by decide) (c1 : (a == ("__classdict__" : Str)) = false := by decide) (c2 : (a2 == ("__classdict__" : Str)) = false := by decide) :
    FnOk P w K mg base (L2.CX P w) (k + 1) f fd [s0, a, a2] (spX C 2 [fl2, fl] [1, 0]) :=
  F.ok S (fun vs H Q E ⟨a, ws, e, l, _⟩ => by rw [e, List.length_cons, l]; rfl) fun cdv A outer s H vs Q E hr hsp => by
    rw [hb]
    refine ⟨_, pss_cons (ps_ost (pe_var (i := 0) rfl v0 d0 c0) (pe_var (i := 1) rfl v1 d1 c1)) (pss_one (ps_ost (pe_var (i := 0) rfl v0 d0 c0) (pe_var (i := 2) rfl v2 d2 c2))), ?_⟩
    obtain ⟨b, ws, rfl, l, hH, hq⟩ := hsp
    match ws, l with
    | [y, z], _ =>
      refine ⟨y, rfl, .ref b, rfl, b, C, rfl, T, hno, .inl ⟨hH, fun dx nd ne => ?_⟩⟩
      refine ⟨z, rfl, .ref b, rfl, b, C, rfl, T, hno2, .inr ⟨dx, [(fl, y)], upd_same, by rw [upd_ne ne, upd_same], Nat.le_of_ble_eq_true rfl, ?_⟩⟩
      have eH : upd (upd (upd H dx (exd dx [(fl, y)])) b (exo b C (some dx))) dx (exd dx ((fl2, z) :: [(fl, y)])) = upd (upd H dx (exd dx [(fl2, z), (fl, y)])) b (exo b C (some dx)) := by
        funext q
        by_cases h1 : q = dx
        · subst h1; rw [upd_same, upd_ne ne, upd_same]
        · rw [upd_ne h1]
          by_cases h2 : q = b
          · subst h2; rw [upd_same, upd_same]
          · rw [upd_ne h2, upd_ne h2, upd_ne h1, upd_ne h1]
      show Q .non _
      rw [eH]
      exact hq dx nd ne
end Iv
set_option Elab.async false
set_option linter.all false
set_option maxRecDepth 100000
set_option maxHeartbeats 2000000
set_option autoImplicit false
/-! Iv, part K: isinstance, what a caught exception holds. -/
namespace Iv
open PySem PySem.Spec PyProof.Rows L2

inductive Kd where
  | non | bl | int | str | tup | lst | obj (c : Nat) | exc (c : Nat)
def D.kd : D → Option Kd
  | .non => some .non
  | .bl _ => some .bl
  | .int _ => some .int
  | .str _ => some .str
  | .tup _ => some .tup
  | .lst _ => some .lst
  | .obj c _ _ => some (.obj c)
  | .exc c _ _ => some (.exc c)
  | _ => none
def kdU (μ : Mu) : U → Option Kd
  | .d x => x.kd
  | .p n => match μ[n]? with
    | some (.fz x) => x.kd
    | some (.lst _) => some .lst
    | some (.ins c _ _) => some (.obj c)
    | _ => none
def Kd.tv (G : Gc) : Kd → Value
  | .non => .type "NoneType"
  | .bl => .type "bool"
  | .int => .type "int"
  | .str => .type "str"
  | .tup => .type "tuple"
  | .lst => .type "list"
  | .obj c => .ref (G.cls c)
  | .exc c => .ref (G.cls c)
/-- what isinstance asks of an own class -/
structure InsC (K : PySem.W.Frag) (C : Addr) : Prop where
  cl : Cls K C
  ha : PySem.W.findIn K (.ref C) "__class__" = some (some (.builtin "object.__class__"))
  hn : PySem.W.specialIn K (.builtin "object.__class__") "__get__" = some (some (.builtin "getset_descriptor.__get__"))
  htk : PySem.W.takesIn K (.builtin "object.__class__") = some true
  hm : PySem.W.mroIn K C (.type "object") = some true
def KdOk (G : Gc) (K : PySem.W.Frag) : Kd → Prop
  | .obj c => InsC K (G.cls c)
  | .exc c => ExcC K (G.cls c)
  | _ => True
/-- the answers of isinstance(.., cv) that are told -/
def Isi (G : Gc) (K : PySem.W.Frag) (tab : Kd → Option Bool) (cv : Value) : Prop := ∀ k b, tab k = some b → KdOk G K k ∧ PySem.W.kitOne K (k.tv G) cv = some b
def fIsi (tab : Kd → Option Bool) : U → Mu → Res U := fun u μ => match kdU μ u with
  | some k => match tab k with
    | some b => .ok (.d (.bl b)) μ
    | none => .bad
  | none => .bad
/-- the table of a built-in type; oc: own classes, ec: own exceptions -/
def tabB (n : String) (oc ec : List Nat) : Kd → Option Bool
  | .non => some false
  | .bl => some (n == "bool" || n == "int")
  | .int => some (n == "int")
  | .str => some (n == "str")
  | .tup => some (n == "tuple")
  | .lst => some (n == "list")
  | .obj c => if oc.contains c = true then some false else none
  | .exc c => if ec.contains c = true then some false else none
/-- the table of an own class -/
def tabO (oc ec : List (Nat × Bool)) : Kd → Option Bool
  | .obj c => oc.lookup c
  | .exc c => ec.lookup c
  | _ => some false
theorem isi_B {G : Gc} {K : PySem.W.Frag} {n : String} {oc ec : List Nat} (hn : ["bool", "int", "str", "tuple", "list"].contains n = true) (ho : ∀ c ∈ oc, InsC K (G.cls c) ∧ PySem.W.kitOne K (.ref (G.cls c)) (.type n) = some false)
    (he : ∀ c ∈ ec, ExcC K (G.cls c) ∧ PySem.W.kitOne K (.ref (G.cls c)) (.type n) = some false) : Isi G K (tabB n oc ec) (.type n) := fun k b h => by
  have hn' : n = "bool" ∨ n = "int" ∨ n = "str" ∨ n = "tuple" ∨ n = "list" := by simpa using hn
  cases k with
  | obj c =>
    have h' : (if oc.contains c = true then some false else none) = some b := h
    split at h'
    · rename_i hc
      cases h'
      exact ho c (by simpa using hc)
    · cases h'
  | exc c =>
    have h' : (if ec.contains c = true then some false else none) = some b := h
    split at h'
    · rename_i hc
      cases h'
      exact he c (by simpa using hc)
    · cases h'
  | _ =>
    cases h
    refine ⟨True.intro, kit_ty ?_⟩
    rcases hn' with rfl | rfl | rfl | rfl | rfl <;> decide +kernel
theorem isi_O {G : Gc} {K : PySem.W.Frag} {C : Addr} {oc ec : List (Nat × Bool)} (hb : ∀ n, n ∈ ["NoneType", "bool", "int", "str", "tuple", "list"] → PySem.W.kitOne K (.type n) (.ref C) = some false) (ho : ∀ p ∈ oc, InsC K (G.cls p.1) ∧ PySem.W.kitOne K (.ref (G.cls p.1)) (.ref C) = some p.2)
    (he : ∀ p ∈ ec, ExcC K (G.cls p.1) ∧ PySem.W.kitOne K (.ref (G.cls p.1)) (.ref C) = some p.2) : Isi G K (tabO oc ec) (.ref C) := fun k b h => by
  cases k with
  | obj c => exact ho _ (cov_mem (show oc.lookup c = some b from h))
  | exc c => exact he _ (cov_mem (show ec.lookup c = some b from h))
  | _ => cases h; exact ⟨True.intro, hb _ (by decide)⟩
section
variable {G : Gc} {X : Cx}
def rIsEx (K : PySem.W.Frag) : List V → Hp → VK → Prop := fun xs H Q => ∃ (a D : Addr) (dx : Option Addr) (c : V) (cv : Value) (b : Bool), xs = [.ref a, c] ∧ ClsV c cv ∧ ExcC K D ∧ H a = some (ExcV (.ref D) dx a) ∧ (∀ d, dx = some d → ∃ fs, H d = some (.xd fs)) ∧ PySem.W.kitOne K (.ref D) cv = some b ∧ Q (.bl b) H
theorem exc_inst {pins : List (Addr × Obj)} {s : Shared} {σ : L2.St} {H : Hp} {a D : Addr} {dx : Option Addr} (I : L2.Inv X pins σ H s) (ea : H a = some (ExcV (.ref D) dx a)) (hd : ∀ d, dx = some d → ∃ fs, H d = some (.xd fs)) :
    ∃ ox od, PySem.W.InstAt s.heap a ox D od ∧ ∀ d fs, dx = some d → H d = some (.xd fs) → ∃ o mA, od = some o ∧ s.heap.Ns1 d mA ∧ s.heap.get? d = some o ∧ ∀ f, RelO (fs.lookup f) (mA f) := by
  obtain ⟨⟨oe, vs, h1, hz, hdat⟩, _, _⟩ := I.hok a _ ea
  cases dx with
  | none => exact ⟨oe, none, ⟨h1, hz.1, by unfold PySem.W.notCls; rw [hdat] <;> rfl, by rw [hz.2]; exact True.intro⟩, fun d fs e => nomatch e⟩
  | some d =>
    obtain ⟨fs, e⟩ := hd d rfl
    obtain ⟨mA, hns, hr⟩ := (show ObjOk X.prog X.w H s.heap d (.xd fs) from I.hok d _ e)
    obtain ⟨od, ho, _⟩ := lookIn_ns hns
    refine ⟨oe, some od, ⟨h1, hz.1, by unfold PySem.W.notCls; rw [hdat] <;> rfl, by rw [hz.2]; exact ho⟩, fun d' fs' e1 e2 => ?_⟩
    cases e1
    rw [e] at e2
    cases e2
    exact ⟨od, mA, rfl, hns, ho, hr⟩
theorem call_isEx : CallR X (.builtin "isinstance") (rIsEx X.K) := by
  intro pins s σ H xs us Q I r h
  obtain ⟨a, D, dx, c, cv, b, rfl, k, C, ea, hd, e, q⟩ := h
  obtain ⟨u1, u2, rfl, r1, r2⟩ := vals2 r
  have e2 := k.eq r2
  subst e2
  cases (show u1 = Value.ref a from r1)
  obtain ⟨ox, od, J, _⟩ := exc_inst I ea hd
  obtain ⟨cd, hc, _⟩ := PySem.W.any_some C.hd
  exact PySem.W.kia_one (PySem.W.kitx_exc (by rw [hc]; rfl) C.hg C.hk C.hs C.ha C.hn C.ht C.hm) I.kIn J e (fun z => nomatch z) fun tk => ⟨.bl b, H, I.kept (t' := tk) fun _ _ z => z, rfl, q⟩
theorem fIsi_ok {tab : Kd → Option Bool} {cv : Value} {c : V} (hK : G.K = X.K) (hc : ClsV c cv) (hT : Isi G X.K tab cv) : Op1 G (fIsi tab) (fun x H Q => rIsi X.K [x, c] H Q ∨ rIsEx X.K [x, c] H Q) := fun Z W φ μ H σ x u Q r ru po => by
  unfold fIsi at po
  split at po
  · rename_i k hk
    split at po
    · rename_i b hb
      obtain ⟨k1, k2⟩ := hT k b hb
      have q := po φ H _ Go.refl r (show RpU G φ _ H (.d (.bl b)) (.bl b) from rfl)
      have fin : TyX X.K H x (k.tv G) → rIsi X.K [x, c] H Q := fun t => ⟨x, c, _, cv, b, rfl, hc, t, k2, q⟩
      have dat : ∀ {d : D}, d.kd = some k → Rp G (Sof Z φ μ) H d x → rIsi X.K [x, c] H Q ∨ rIsEx X.K [x, c] H Q := fun {d} hd rd => by
        cases d with
        | non => cases hd; rw [show x = .non from rd] at fin ⊢; exact .inl (fin (.base .non))
        | bl y => cases hd; rw [show x = .bl y from rd] at fin ⊢; exact .inl (fin (.base (.bl y)))
        | int y => cases hd; rw [show x = .int y from rd] at fin ⊢; exact .inl (fin (.base (.int y)))
        | str y => cases hd; rw [show x = .str y from rd] at fin ⊢; exact .inl (fin (.base (.str y)))
        | tup ds =>
          cases hd
          obtain ⟨a, vs, rfl, l, _⟩ := rd
          rcases l with ⟨_, l | ⟨o, l⟩⟩ | ⟨o, its, n, e1, e2, _⟩
          · exact .inl (fin (.base (.tup l)))
          · exact .inl (fin (.fTuple l))
          · exact .inl (fin (.kTuple (by rw [← hK]; exact e1) e2))
        | lst ds =>
          cases hd
          obtain ⟨a, vs, rfl, l, _⟩ := rd
          rcases l with ⟨_, l | ⟨o, l⟩⟩ | ⟨o, its, n, e1, e2, _⟩
          · exact .inl (fin (.base (.lst l)))
          · exact .inl (fin (.base (.frz l)))
          · exact .inl (fin (.kList (by rw [← hK]; exact e1) e2))
        | obj c' ns ds =>
          cases hd
          obtain ⟨a, dx, vs, rfl, _, l, _⟩ := rd
          exact .inl (fin (.base (.ins l k1.cl k1.ha k1.hn k1.htk k1.hm)))
        | exc c' ns ds =>
          cases hd
          obtain ⟨a, dx, vs, rfl, _, l, _, hdx, _⟩ := rd
          refine .inr ⟨a, G.cls c', dx, c, cv, b, rfl, hc, k1, l, fun d e => ?_, k2, q⟩
          rcases hdx with ⟨e1, _⟩ | ⟨d', e1, _, e3⟩
          · rw [e1] at e; cases e
          · rw [e1] at e; cases e; exact ⟨_, e3⟩
        | dic _ _ => cases hd
        | dit _ _ => cases hd
        | clo _ _ => cases hd
      cases u with
      | d d => exact dat hk ru
      | p n =>
        obtain ⟨a, rfl, ha⟩ := ru
        unfold kdU at hk
        dsimp only at hk
        split at hk
        · rename_i d hd
          exact dat hk (r.at_ n a _ ha hd)
        · rename_i us hu
          cases hk
          obtain ⟨vs, e2, _⟩ := r.at_ n a _ ha hu
          exact .inl (fin (.base (.lst e2)))
        · rename_i c' ns us hu
          cases hk
          obtain ⟨dx, vs, e2, _⟩ := r.at_ n a _ ha hu
          exact .inl (fin (.base (.ins e2 k1.cl k1.ha k1.hn k1.htk k1.hm)))
        · cases hk
    · exact False.elim po
  · exact False.elim po
variable {W : WX} {pos p1 p2 : Pos} {e : Expr} {m : Sm U} {tab : Kd → Option Bool}
/-- isinstance(e, c) -/
theorem i_isi {c : Expr} {cv : Value} {v : V} (hK : G.K = X.K) (hg : Gl X "isinstance") (hm : X.mg "isinstance" = none) (hv : ClsV v cv) (hT : Isi G X.K tab cv) (he : PE X e (rdE G W m)) (hc : PE X c (tC v))
    (hs : starEach (e :: [c]) X.env = (false, eval e X.env) :: starEach [c] X.env := by rfl) (hs2 : starEach (c :: []) X.env = (false, eval c X.env) :: starEach [] X.env := by rfl) (hpl : (backTo pos (starEach [c] X.env)).any (·.1) = false := by rfl) :
    PE X (.Call (.Name "isinstance" p1) [e, c] [] pos) (rdE G W (v1 (fIsi tab) m)) :=
  PE.imp (pe_callB (call_isi.or call_isEx) hg hm (by rfl) (pa_cons he (pa_cons hc pa_nil hs2) hs) (by decide) (by decide) hs hpl) fun σ H Q h => rd1 (fIsi_ok hK hv hT) σ H Q h
/-! ### e.f, e an exception -/
def fXf (f : Str) (ec : List Nat) : U → Mu → Res U := fun u μ => match u with
  | .d (.exc c ns vs) => if ec.contains c = true then (match (ns.zip vs).lookup f with
    | some d => .ok (.d d) μ
    | none => .bad) else .bad
  | _ => .bad
theorem zip_look {S : Addr → Prop} {H : Hp} {f : Str} : ∀ {ns : List Str} {ds : List D} {vs : List V} {d : D}, RpL G S H ds vs → (ns.zip ds).lookup f = some d → ∃ v, (ns.zip vs).lookup f = some v ∧ Rp G S H d v
  | [], _, _, _, _, h => by cases h
  | n :: ns, [], _, _, _, h => by cases h
  | n :: ns, d :: ds, _, d', ⟨v, r, e, a, b⟩, h => by
    subst e
    rw [List.zip_cons_cons, List.lookup_cons] at h ⊢
    split at h
    · cases h; exact ⟨v, rfl, a⟩
    · exact zip_look b h
theorem i_xf {f : Str} {ec : List Nat} (hE : ∀ c ∈ ec, XfC X.K (G.cls c) ∧ PySem.W.findIn X.K (.ref (G.cls c)) f = some none) (he : PE X e (rdE G W m)) (hb : attributeBase e f X.env (eval e X.env) = eval e X.env := by rfl) :
    PE X (.Attribute e f pos) (rdE G W (v1 (fXf f ec) m)) := by
  refine ⟨fun pins s σ H Q I h => ?_⟩
  obtain ⟨Z, φ, ρ, μ, sr, po⟩ := h
  have h := po_step (R1 := RpU G) sr po
  refine attr_of hb (thn (he.run pins s σ H _ I h) fun u0 s1 ⟨x, H1, I1, rx, φ1, μ1, u, g1, sr1, ru, po1⟩ => ?_)
  unfold fXf at po1
  split at po1
  · rename_i c ns vs
    split at po1
    · rename_i hc
      split at po1
      · rename_i d hl
        obtain ⟨T, hno⟩ := hE c (by simpa using hc)
        obtain ⟨a, dx, ws, ex, nS, ea, hlen, hdx, rl⟩ := ru
        subst ex
        obtain rfl : u0 = Value.ref a := rx
        obtain ⟨v, hv, rv⟩ := zip_look rl hl
        rcases hdx with ⟨e1, e2⟩ | ⟨dd, e1, nd, ed⟩
        · subst e2; cases hl
        · subst e1
          obtain ⟨ox, od, J, hJ⟩ := exc_inst I1 ea fun d' e' => by cases e'; exact ⟨_, ed⟩
          obtain ⟨o, mA, rfl, hns, ho, hr⟩ := hJ dd _ rfl ed
          obtain ⟨od', ho', hl'⟩ := lookIn_ns hns
          rw [ho] at ho'
          cases ho'
          obtain ⟨w, hw, rw'⟩ := RelO.some_of (v := v) (o := mA f) (by rw [← hv]; exact hr f)
          exact HandSPX.exc_get I1.kIn J T.ga T.gg T.exC (PySem.W.findObj_own T.hdC hno rfl (by rw [hl', hw])) (handed_of rw') ⟨v, H1, I1.tok _, rw', po1 φ1 H1 v Go.refl sr1.rep rv⟩
      · exact False.elim po1
    · exact False.elim po1
  · exact False.elim po1
end
end Iv
set_option Elab.async false
set_option linter.all false
set_option maxRecDepth 100000
set_option maxHeartbeats 2000000
set_option autoImplicit false
/-! Iv, part L: built-in functions, subscripts, slices, methods. -/
namespace Iv
open PySem PySem.Spec PyProof.Rows L2

def D.flat : D → Bool
  | .non => true
  | .bl _ => true
  | .int _ => true
  | .str _ => true
  | _ => false
def D.tv : D → V
  | .bl b => .bl b
  | .int i => .int i
  | .str x => .str x
  | _ => .non
theorem flat_tv {G : Gc} {S : Addr → Prop} {H : Hp} {d : D} {v : V} (h : d.flat = true) (r : Rp G S H d v) : v = d.tv ∧ flatV v = true := by
  cases d with
  | non => rw [show v = .non from r]; exact ⟨rfl, rfl⟩
  | bl b => rw [show v = .bl b from r]; exact ⟨rfl, rfl⟩
  | int b => rw [show v = .int b from r]; exact ⟨rfl, rfl⟩
  | str b => rw [show v = .str b from r]; exact ⟨rfl, rfl⟩
  | _ => cases h
theorem flats_tv {G : Gc} {S : Addr → Prop} {H : Hp} : ∀ {ds : List D} {vs : List V}, ds.all D.flat = true → RpL G S H ds vs → vs = ds.map D.tv ∧ vs.all flatV = true
  | [], _, _, h => by rw [show _ = [] from h]; exact ⟨rfl, rfl⟩
  | d :: ds, _, hf, ⟨v, r, e, a, b⟩ => by
    rw [List.all_cons, Bool.and_eq_true] at hf
    obtain ⟨h1, h2⟩ := flat_tv hf.1 a
    obtain ⟨h3, h4⟩ := flats_tv hf.2 b
    subst e
    exact ⟨by rw [h1, h3]; rfl, by rw [List.all_cons, h2, h4]; rfl⟩
/-! ### in -/
def inS (x y : Str) : Bool := match x.cps.toList with
  | [c] => decide (c ∈ y.cps.toList)
  | _ => !(Builtin.Str.occurrences y x 0 y.length 1).isEmpty
def inD (x : D) (ds : List D) : Bool := inV x.tv (ds.map D.tv)
def inU (μ : Mu) (u w : U) : Option Bool := match w with
  | .d (.str y) => match u with
    | .d (.str x) => some (inS x y)
    | _ => none
  | w => match valD μ u, valD μ w with
    | some x, some (.lst ds) => if x.flat = true ∧ ds.all D.flat = true then some (inD x ds) else
      (match x.py, D.pyL ds with
        | some p, some ps => if SeqAt.shaped p = true ∧ SeqAt.shaped (.list ps) = true then some (ps.any fun z => PyData.eqv z p) else none
        | _, _ => none)
    | some x, some (.tup ds) => if x.flat = true ∧ ds.all D.flat = true then some (inD x ds) else none
    | _, _ => none
def fIn (neg : Bool) : U → U → Mu → Res U := fun u w μ => match inU μ u w with
  | some b => .ok (.d (.bl (if neg = true then !b else b))) μ
  | none => .bad
section
variable {G : Gc} {X : Cx}
def rInX (K : PySem.W.Frag) (neg : Bool) : R2 := fun x y H Q =>
  (∃ i j, x = .str i ∧ y = .str j ∧ Q (.bl (if neg = true then !inS i j else inS i j)) H) ∨ rIn K neg x y H Q ∨
    ∃ d ds, Dp K H x d ∧ Dp K H y (.list ds) ∧ SeqAt.shaped d = true ∧ SeqAt.shaped (.list ds) = true ∧ Q (.bl (if neg = true then !(ds.any fun z => PyData.eqv z d) else ds.any fun z => PyData.eqv z d)) H
theorem inS_one {i : Str} {c : Nat} (h : i.cps.toList = [c]) : i = ⟨#[c]⟩ := by
  obtain ⟨a⟩ := i
  obtain ⟨l⟩ := a
  cases h
  rfl
theorem inS_cases (i j : Str) : (∃ c, i.cps.toList = [c] ∧ inS i j = decide (c ∈ j.cps.toList)) ∨ inS i j = !(Builtin.Str.occurrences j i 0 j.length 1).isEmpty := by
  unfold inS
  split
  · rename_i c hc; exact .inl ⟨c, hc, rfl⟩
  · exact .inr rfl
theorem op_inX (hu : X.A.units + 65 < cLine) : OpR X (compareOp .In) (rInX X.K false) := fun pins s σ H x y v w Q I rx ry h => by
  rcases h with ⟨i, j, e1, e2, q⟩ | h | ⟨d, ds, h1, h2, h3, h4, q⟩
  · rcases inS_cases i j with ⟨c, hc, e⟩ | e
    · rw [e] at q
      exact op_in_sign pins s σ H x y v w Q I rx ry ⟨c, j, by rw [e1, inS_one hc], e2, q⟩
    · rw [e] at q
      exact op_in_str pins s σ H x y v w Q I rx ry ⟨i, j, e1, e2, q⟩
  · exact op_in_seq pins s σ H x y v w Q I rx ry h
  · exact op_inD hu pins s σ H x y v w Q I rx ry ⟨d, ds, h1, h2, h3, h4, q⟩
theorem op_ninX (hu : X.A.units + 65 < cLine) : OpR X (compareOp .NotIn) (rInX X.K true) := fun pins s σ H x y v w Q I rx ry h => by
  rcases h with ⟨i, j, e1, e2, q⟩ | h | ⟨d, ds, h1, h2, h3, h4, q⟩
  · rcases inS_cases i j with ⟨c, hc, e⟩ | e
    · rw [e] at q
      exact op_notIn_sign pins s σ H x y v w Q I rx ry ⟨c, j, by rw [e1, inS_one hc], e2, q⟩
    · rw [e] at q
      exact op_notIn_str pins s σ H x y v w Q I rx ry ⟨i, j, e1, e2, q⟩
  · exact op_notIn_seq pins s σ H x y v w Q I rx ry h
  · exact op_notInD hu pins s σ H x y v w Q I rx ry ⟨d, ds, h1, h2, h3, h4, q⟩
theorem fIn_ok {neg : Bool} (hK : G.K = X.K) : Op2 G (fIn neg) (rInX X.K neg) := fun Z W φ μ H σ x y u w Q r ru rw' po => by
  unfold fIn at po
  split at po
  · rename_i b hb
    have q := po φ H _ Go.refl r (show RpU G φ _ H (.d (.bl _)) (.bl (if neg = true then !b else b)) from rfl)
    have gen : (match valD μ u, valD μ w with
        | some x, some (.lst ds) => if x.flat = true ∧ ds.all D.flat = true then some (inD x ds) else
          (match x.py, D.pyL ds with
            | some p, some ps => if SeqAt.shaped p = true ∧ SeqAt.shaped (.list ps) = true then some (ps.any fun z => PyData.eqv z p) else none
            | _, _ => none)
        | some x, some (.tup ds) => if x.flat = true ∧ ds.all D.flat = true then some (inD x ds) else none
        | _, _ => none) = some b → rInX X.K neg x y H Q := fun hb => by
      split at hb
      · rename_i d ds h1 h2
        have ra := valD_ok r h1 ru
        have rb := valD_ok r h2 rw'
        split at hb
        · rename_i hf
          cases hb
          obtain ⟨a, vs, rfl, l, ql⟩ := rb
          obtain ⟨e1, f1⟩ := flat_tv hf.1 ra
          obtain ⟨e2, f2⟩ := flats_tv hf.2 ql
          exact .inr (.inl ⟨a, vs, rfl, .inl (by rw [← hK]; exact l.sq), f1, f2, by rw [e1, e2]; exact q⟩)
        · split at hb
          · rename_i p ps hp hps
            split at hb
            · rename_i hs
              cases hb
              have e : D.py (.lst ds) = some (.list ps) := by simp only [D.py]; rw [hps]; rfl
              exact .inr (.inr ⟨p, ps, by rw [← hK]; exact py_ok hp ra, by rw [← hK]; exact py_ok e rb, hs.1, hs.2, q⟩)
            · cases hb
          · cases hb
      · rename_i d ds h1 h2
        have ra := valD_ok r h1 ru
        have rb := valD_ok r h2 rw'
        split at hb
        · rename_i hf
          cases hb
          obtain ⟨a, vs, rfl, l, ql⟩ := rb
          obtain ⟨e1, f1⟩ := flat_tv hf.1 ra
          obtain ⟨e2, f2⟩ := flats_tv hf.2 ql
          exact .inr (.inl ⟨a, vs, rfl, .inr (by rw [← hK]; exact l.sq), f1, f2, by rw [e1, e2]; exact q⟩)
        · cases hb
      · cases hb
    unfold inU at hb
    split at hb
    · split at hb
      · cases hb
        exact .inl ⟨_, _, ru, rw', q⟩
      · cases hb
    · exact gen hb
  · exact False.elim po
/-! ### len, int, abs, str, tuple, list, all, any -/
def fLen : U → Mu → Res U := fun u μ => match u with
  | .d (.str y) => if y.length ≤ 1000000 then .ok (.d (.int y.length)) μ else .bad
  | u => match lsU μ u with
    | some us => .ok (.d (.int us.length)) μ
    | none => match tpU μ u with
      | some ds => .ok (.d (.int ds.length)) μ
      | none => .bad
/-- a function of one value, as a function of the values -/
def f1 (f : U → Mu → Res U) : List U → Mu → Res U := fun us μ => match us with
  | [u] => f u μ
  | _ => .bad
def OpF (G : Gc) (f : U → Mu → Res U) (r : List V → Hp → VK → Prop) : Prop := Op1 G f (fun x H Q => r [x] H Q)
theorem f1_ok {f : U → Mu → Res U} {r : List V → Hp → VK → Prop} (h : OpF G f r) : OpN G (f1 f) r := fun Z W φ μ H σ xs us Q rp ru po => by
  unfold f1 at po
  split at po
  · rename_i u
    obtain ⟨v, rr, e, a, b⟩ := ru
    have b' : rr = [] := b
    subst b' e
    exact h Z W φ μ H σ v u Q rp a po
  · exact False.elim po
theorem fLen_ok (hK : G.K = X.K) : OpF G fLen (fun xs H Q => ∃ x n, xs = [x] ∧ LenV X.K x H n ∧ Q (.int n) H) := fun Z W φ μ H σ x u Q r ru po => by
  unfold fLen at po
  split at po
  · rename_i y
    split at po
    · rename_i hl
      cases (show x = .str y from ru)
      exact ⟨_, y.length, rfl, ⟨Nat.le_trans hl (by decide), rfl⟩, po φ H _ Go.refl r rfl⟩
    · exact False.elim po
  · split at po
    · rename_i us hu
      obtain ⟨a, vs, rfl, l, q⟩ := lsU_ok r hu ru
      exact ⟨_, us.length, rfl, .inl ⟨vs, by rw [← hK]; exact l, by rw [q.length]⟩, po φ H _ Go.refl r rfl⟩
    · split at po
      · rename_i ds hu
        obtain ⟨a, vs, rfl, l, q⟩ := tpU_ok r hu ru
        exact ⟨_, ds.length, rfl, .inr ⟨vs, by rw [← hK]; exact l.sq, by rw [q.length]⟩, po φ H _ Go.refl r rfl⟩
      · exact False.elim po
def fInt : U → Mu → Res U := fun u μ => match u with
  | .d (.int i) => .ok (.d (.int i)) μ
  | .d (.bl b) => .ok (.d (.int (if b = true then 1 else 0))) μ
  | .d (.str a) => match PySem.intText? a with
    | some n => if a.length ≤ 640 then .ok (.d (.int n)) μ else .bad
    | none => .bad
  | _ => .bad
def rIntX : List V → Hp → VK → Prop := fun xs H Q => ((∃ i, xs = [.int i] ∧ Q (.int i) H) ∨ ∃ k, xs = [.bl k] ∧ Q (.int (if k then 1 else 0)) H) ∨ ∃ a n, xs = [.str a] ∧ PySem.intText? a = some n ∧ a.length ≤ 640 ∧ Q (.int n) H
theorem call_intX : CallR X (.type "int") rIntX := call_int1.or call_int_str
theorem fInt_ok : OpF G fInt rIntX := fun Z W φ μ H σ x u Q r ru po => by
  unfold fInt at po
  split at po
  · rename_i i; cases (show x = .int i from ru); exact .inl (.inl ⟨i, rfl, po φ H _ Go.refl r rfl⟩)
  · rename_i b; cases (show x = .bl b from ru); exact .inl (.inr ⟨b, rfl, po φ H _ Go.refl r rfl⟩)
  · rename_i a
    split at po
    · rename_i n hn
      split at po
      · rename_i hl
        cases (show x = .str a from ru)
        exact .inr ⟨a, n, rfl, hn, hl, po φ H _ Go.refl r rfl⟩
      · exact False.elim po
    · exact False.elim po
  · exact False.elim po
def fAbs : U → Mu → Res U := fun u μ => match u with
  | .d (.int i) => .ok (.d (.int (if i < 0 then -i else i))) μ
  | _ => .bad
theorem fAbs_ok : OpF G fAbs (fun xs H Q => ∃ i, xs = [.int i] ∧ Q (.int (if i < 0 then -i else i)) H) := fun Z W φ μ H σ x u Q r ru po => by
  unfold fAbs at po
  split at po
  · rename_i i; cases (show x = .int i from ru); exact ⟨i, rfl, po φ H _ Go.refl r rfl⟩
  · exact False.elim po
def fStr : U → Mu → Res U := fun u μ => match u with
  | .d (.int i) => if i.natAbs < 2 ^ 1900 then .ok (.d (.str (toString i))) μ else .bad
  | .d (.str a) => .ok (.d (.str a)) μ
  | _ => .bad
def rStrX : List V → Hp → VK → Prop := fun xs H Q => (∃ i, xs = [.int i] ∧ i.natAbs.log2 < 1920 ∧ Q (.str (toString i)) H) ∨ ∃ a, xs = [.str a] ∧ Q (.str a) H
theorem call_strX : CallR X (.type "str") rStrX := call_str_int.or SkE.call_str_str
theorem log2_lt {n : Nat} (h : n < 2 ^ 1900) : n.log2 < 1920 := by
  by_cases h0 : n = 0
  · subst h0; decide
  · exact Nat.lt_trans ((Nat.log2_lt h0).mpr h) (by decide)
theorem fStr_ok : OpF G fStr rStrX := fun Z W φ μ H σ x u Q r ru po => by
  unfold fStr at po
  split at po
  · rename_i i
    split at po
    · rename_i hl; cases (show x = .int i from ru); exact .inl ⟨i, rfl, log2_lt hl, po φ H _ Go.refl r rfl⟩
    · exact False.elim po
  · rename_i a; cases (show x = .str a from ru); exact .inr ⟨a, rfl, po φ H _ Go.refl r rfl⟩
  · exact False.elim po
/-- tuple(x), x a list or a tuple -/
def fTupOf : U → Mu → Res U := fun u μ => match lsU μ u with
  | some us => oTup us μ
  | none => match tpU μ u with
    | some ds => .ok (.d (.tup ds)) μ
    | none => .bad
theorem newTupU {Z : Addr → Prop} {W : WX} {φ : List Addr} {μ : Mu} {H : Hp} {σ : L2.St} {us : List U} {xs : List V} {Q : VK} (r : Rep G Z φ H μ) (ru : RpUs G φ (Sof Z φ μ) H us xs) (po : Po (RpU G) G Z W φ μ H σ (oTup us μ) Q) : ∀ p, H p = none → Q (.ref p) (upd H p (.tup xs)) := by
  unfold oTup at po
  split at po
  · rename_i ds μ2 hf
    split at po
    · obtain ⟨F, rl⟩ := frzL_ok hf r ru
      exact newTup F.rep rl (Po.go F.go po)
    · exact False.elim po
  · exact False.elim po
theorem fTupOf_ok (hK : G.K = X.K) : OpF G fTupOf (fun xs H Q => ∃ p ys, xs = [.ref p] ∧ ((SqL X.K H p ys ∧ ∀ l, H l = none → Q (.ref l) (upd H l (.tup ys))) ∨ (SqT X.K H p ys ∧ Q (.ref p) H))) := fun Z W φ μ H σ x u Q r ru po => by
  unfold fTupOf at po
  split at po
  · rename_i us hu
    obtain ⟨a, vs, rfl, l, q⟩ := lsU_ok r hu ru
    exact ⟨a, vs, rfl, .inl ⟨by rw [← hK]; exact l, newTupU r q po⟩⟩
  · split at po
    · rename_i ds hu
      have t := tpU_ok r hu ru
      obtain ⟨a, vs, rfl, l, q⟩ := t
      exact ⟨a, vs, rfl, .inr ⟨by rw [← hK]; exact l.sq, po φ H _ Go.refl r ⟨a, vs, rfl, l, q⟩⟩⟩
    · exact False.elim po
/-- the items of a list or a tuple -/
def sqU (μ : Mu) (u : U) : Option (List U) := match lsU μ u with
  | some us => some us
  | none => (tpU μ u).map fun ds => ds.map .d
theorem sqU_ok {Z : Addr → Prop} {φ : List Addr} {μ : Mu} {H : Hp} (r : Rep G Z φ H μ) {u : U} {us : List U} {x : V} (h : sqU μ u = some us) (ru : RpU G φ (Sof Z φ μ) H u x) : ∃ a vs, x = .ref a ∧ (SqL G.K H a vs ∨ SqT G.K H a vs) ∧ RpUs G φ (Sof Z φ μ) H us vs := by
  unfold sqU at h
  split at h
  · rename_i us' hu
    cases h
    obtain ⟨a, vs, e, l, q⟩ := lsU_ok r hu ru
    exact ⟨a, vs, e, .inl l, q⟩
  · obtain ⟨ds, hu, rfl⟩ := Option.map_eq_some_iff.mp h
    obtain ⟨a, vs, e, l, q⟩ := tpU_ok r hu ru
    exact ⟨a, vs, e, .inr l.sq, q.us⟩
/-- list(x) -/
def fLstOf : U → Mu → Res U := fun u μ => match sqU μ u with
  | some us => oLst us μ
  | none => .bad
def fLstOfP : U → Mu → Res U := fun u μ => match sqU μ u with
  | some us => oLstP us μ
  | none => .bad
theorem fLstOf_ok (hK : G.K = X.K) : OpF G fLstOf (fun xs H Q => ∃ p ys, xs = [.ref p] ∧ (SqL X.K H p ys ∨ SqT X.K H p ys) ∧ ∀ l, H l = none → Q (.ref l) (upd H l (.lst ys))) := fun Z W φ μ H σ x u Q r ru po => by
  unfold fLstOf at po
  split at po
  · rename_i us hu
    obtain ⟨a, vs, rfl, l, q⟩ := sqU_ok r hu ru
    exact ⟨a, vs, rfl, by rw [← hK]; exact l, (newLst r q po).2⟩
  · exact False.elim po
def boolsU : List U → Option (List Bool)
  | [] => some []
  | .d (.bl b) :: us => (boolsU us).map fun bs => b :: bs
  | _ => none
theorem boolsU_ok {φ : List Addr} {S : Addr → Prop} {H : Hp} : ∀ {us : List U} {bs : List Bool} {vs : List V}, boolsU us = some bs → RpUs G φ S H us vs → vs = bs.map V.bl
  | [], _, _, h, q => by cases h; exact q
  | .d (.bl b) :: us, _, _, h, ⟨v, r, e, a, q⟩ => by
    obtain ⟨bs', h1, rfl⟩ := Option.map_eq_some_iff.mp h
    subst e
    rw [boolsU_ok h1 q]
    cases (show v = .bl b from a)
    rfl
  | .p _ :: _, _, _, h, _ => by cases h
  | .d .non :: _, _, _, h, _ => by cases h
  | .d (.int _) :: _, _, _, h, _ => by cases h
  | .d (.str _) :: _, _, _, h, _ => by cases h
  | .d (.tup _) :: _, _, _, h, _ => by cases h
  | .d (.lst _) :: _, _, _, h, _ => by cases h
  | .d (.dic _ _) :: _, _, _, h, _ => by cases h
  | .d (.dit _ _) :: _, _, _, h, _ => by cases h
  | .d (.obj _ _ _) :: _, _, _, h, _ => by cases h
  | .d (.exc _ _ _) :: _, _, _, h, _ => by cases h
  | .d (.clo _ _) :: _, _, _, h, _ => by cases h
def fAllAny (all : Bool) : U → Mu → Res U := fun u μ => match lsU μ u with
  | some us => match boolsU us with
    | some bs => .ok (.d (.bl (if all = true then bs.all id else bs.any id))) μ
    | none => .bad
  | none => .bad
theorem fAll_ok (hK : G.K = X.K) : OpF G (fAllAny true) (rAll X.K) := fun Z W φ μ H σ x u Q r ru po => by
  unfold fAllAny at po
  split at po
  · rename_i us hu
    split at po
    · rename_i bs hb
      obtain ⟨a, vs, rfl, l, q⟩ := lsU_ok r hu ru
      exact ⟨a, bs, rfl, by rw [← hK, ← boolsU_ok hb q]; exact l, po φ H _ Go.refl r rfl⟩
    · exact False.elim po
  · exact False.elim po
theorem fAny_ok (hK : G.K = X.K) : OpF G (fAllAny false) (rAny X.K) := fun Z W φ μ H σ x u Q r ru po => by
  unfold fAllAny at po
  split at po
  · rename_i us hu
    split at po
    · rename_i bs hb
      obtain ⟨a, vs, rfl, l, q⟩ := lsU_ok r hu ru
      exact ⟨a, bs, rfl, by rw [← hK, ← boolsU_ok hb q]; exact l, po φ H _ Go.refl r rfl⟩
    · exact False.elim po
  · exact False.elim po
variable {W : WX} {pos p1 p2 : Pos} {e a b : Expr} {m ma mb : Sm U} {x : Str} {id T : String} {r : List V → Hp → VK → Prop} {f : U → Mu → Res U}
/-- f(e), f a built-in function; T(e), T a built-in type -/
theorem i_bf (hc : CallR X (.builtin id) r) (hf : OpF G f r) (hg : Gl X x) (hm : X.mg x = none) (hv : bootBuiltins x = some (.builtin id)) (he : PE X e (rdE G W m)) (hn : x ≠ "__name__" := by decide) (hdb : (x == ("__debug__" : Str)) = false := by decide)
    (hs : starEach (e :: []) X.env = (false, eval e X.env) :: starEach [] X.env := by rfl) (hpl : (backTo pos (starEach [] X.env)).any (·.1) = false := by rfl) : PE X (.Call (.Name x p1) [e] [] pos) (rdE G W (v1 f m)) :=
  PE.imp (pe_callB hc hg hm hv (pa_cons he pa_nil hs) hn hdb hs hpl) fun σ H Q h => rd1 hf σ H Q h
theorem i_bt (hc : CallR X (.type T) r) (hf : OpF G f r) (hg : Gl X x) (hm : X.mg x = none) (hv : bootBuiltins x = some (.type T)) (he : PE X e (rdE G W m)) (hn : x ≠ "__name__" := by decide) (hdb : (x == ("__debug__" : Str)) = false := by decide)
    (hs : starEach (e :: []) X.env = (false, eval e X.env) :: starEach [] X.env := by rfl) (hpl : (backTo pos (starEach [] X.env)).any (·.1) = false := by rfl) : PE X (.Call (.Name x p1) [e] [] pos) (rdE G W (v1 f m)) :=
  PE.imp (pe_callTy hc hg hm hv (pa_cons he pa_nil hs) hn hdb hs hpl) fun σ H Q h => rd1 hf σ H Q h
/-! ### subscripts, slices -/
def fIx : U → U → Mu → Res U := fun u w μ => match w with
  | .d (.int i) => (match u with
    | .d (.str z) => if z.length ≤ 1000000 then (match atI z.cps.toList i with
      | some c => .ok (.d (.str ⟨#[c]⟩)) μ
      | none => .bad) else .bad
    | u => match sqU μ u with
      | some us => match atI us i with
        | some v => .ok v μ
        | none => .bad
      | none => .bad)
  | _ => .bad
theorem RpUs.atI {φ : List Addr} {S : Addr → Prop} {H : Hp} {us : List U} {vs : List V} {i : Int} {u : U} (q : RpUs G φ S H us vs) (h : atI us i = some u) : ∃ v, L2.atI vs i = some v ∧ RpU G φ S H u v := by
  unfold L2.atI at h ⊢
  rw [q.length]
  obtain ⟨j, h1, h2⟩ := Option.bind_eq_some_iff.mp h
  obtain ⟨v, h3, h4⟩ := q.get h2
  exact ⟨v, by rw [h1]; exact h3, h4⟩
theorem fIx_ok (hK : G.K = X.K) : Op2 G fIx (rIx X.K) := fun Z W φ μ H σ x y u w Q r ru rw' po => by
  unfold fIx at po
  split at po
  · rename_i i
    cases (show y = .int i from rw')
    split at po
    · rename_i z
      split at po
      · rename_i hl
        split at po
        · rename_i c hc
          exact .inr (.inr ⟨z, i, c, ru, rfl, Nat.le_trans hl (by decide), hc, po φ H _ Go.refl r rfl⟩)
        · exact False.elim po
      · exact False.elim po
    · split at po
      · rename_i us hu
        split at po
        · rename_i v hv
          obtain ⟨a, vs, rfl, l, q⟩ := sqU_ok r hu ru
          obtain ⟨z, h1, h2⟩ := q.atI hv
          have qq := po φ H z Go.refl r h2
          rcases l with l | l
          · exact .inl ⟨a, vs, i, z, rfl, rfl, by rw [← hK]; exact l, h1, qq⟩
          · exact .inr (.inl ⟨a, vs, i, z, rfl, rfl, by rw [← hK]; exact l, h1, qq⟩)
        · exact False.elim po
      · exact False.elim po
  · exact False.elim po
def cutL {α : Type} (xs : List α) (lo hi : Option Int) : List α := (xs.drop (HT.sIx xs.length 0 lo)).take (HT.sIx xs.length xs.length hi - HT.sIx xs.length 0 lo)
def fSl (u : U) (lo hi : Option Int) (μ : Mu) : Res U := match u with
  | .d (.str z) => if z.length ≤ 1000000 then .ok (.d (.str (cutS z lo hi))) μ else .bad
  | u => match lsU μ u with
    | some us => oLst (cutL us lo hi) μ
    | none => match tpU μ u with
      | some ds => .ok (.d (.tup (cutL ds lo hi))) μ
      | none => .bad
def pOpt : Option (Sm U) → Sm (Option Int)
  | none => fun _ μ => .ok none μ
  | some m => fun ρ μ => (m ρ μ).bind fun u μ1 => match u with
    | .d (.int i) => .ok (some i) μ1
    | _ => .bad
def vSl (m : Sm U) (lo hi : Option (Sm U)) : Sm U := fun ρ μ => (m ρ μ).bind fun u μ1 => (pOpt lo ρ μ1).bind fun l μ2 => (pOpt hi ρ μ2).bind fun h μ3 => fSl u l h μ3
def RlO : Rl (Option Int) (Option Int) := fun _ _ _ a b => a = b
theorem i_po0 : PO X none (rd RlO G W (pOpt none)) := ⟨fun pins s σ H Q I ⟨Z, φ, ρ, μ, sr, po⟩ => (po_none (X := X)).run pins s σ H Q I (po φ H none Go.refl sr.rep rfl)⟩
theorem i_po1 (h : PE X e (rdE G W m)) : PO X (some e) (rd RlO G W (pOpt (some m))) := ⟨fun pins s σ H Q I ⟨Z, φ, ρ, μ, sr, po⟩ => (po_some h).run pins s σ H Q I (by
  refine rd_mono (po_step (R1 := RpU G) sr po) fun x H1 ⟨φ1, μ1, u, g1, sr1, ru, po1⟩ => ?_
  split at po1
  · rename_i i; exact ⟨i, ru, po1 φ1 H1 _ Go.refl sr1.rep rfl⟩
  · exact False.elim po1)⟩
theorem RpUs.drop {φ : List Addr} {S : Addr → Prop} {H : Hp} : ∀ {us : List U} {vs : List V} (n : Nat), RpUs G φ S H us vs → RpUs G φ S H (us.drop n) (vs.drop n)
  | us, vs, 0, h => by rw [List.drop_zero, List.drop_zero]; exact h
  | [], vs, n + 1, h => by rw [show vs = [] from h]; exact rfl
  | u :: us, _, n + 1, ⟨v, r, e, a, b⟩ => by subst e; exact RpUs.drop n b
theorem RpUs.take {φ : List Addr} {S : Addr → Prop} {H : Hp} : ∀ {us : List U} {vs : List V} (n : Nat), RpUs G φ S H us vs → RpUs G φ S H (us.take n) (vs.take n)
  | us, vs, 0, h => by rw [List.take_zero, List.take_zero]; exact rfl
  | [], vs, n + 1, h => by rw [show vs = [] from h]; exact rfl
  | u :: us, _, n + 1, ⟨v, r, e, a, b⟩ => by subst e; exact ⟨v, _, rfl, a, RpUs.take n b⟩
theorem RpL.drop {S : Addr → Prop} {H : Hp} : ∀ {us : List D} {vs : List V} (n : Nat), RpL G S H us vs → RpL G S H (us.drop n) (vs.drop n)
  | us, vs, 0, h => by rw [List.drop_zero, List.drop_zero]; exact h
  | [], vs, n + 1, h => by rw [show vs = [] from h]; exact rfl
  | u :: us, _, n + 1, ⟨v, r, e, a, b⟩ => by subst e; exact RpL.drop n b
theorem RpL.take {S : Addr → Prop} {H : Hp} : ∀ {us : List D} {vs : List V} (n : Nat), RpL G S H us vs → RpL G S H (us.take n) (vs.take n)
  | us, vs, 0, h => by rw [List.take_zero, List.take_zero]; exact rfl
  | [], vs, n + 1, h => by rw [show vs = [] from h]; exact rfl
  | u :: us, _, n + 1, ⟨v, r, e, a, b⟩ => by subst e; exact ⟨v, _, rfl, a, RpL.take n b⟩
theorem i_sl {lo hi : Option Expr} {l h : Option (Sm U)} (hK : G.K = X.K) (he : PE X e (rdE G W m)) (hl : PO X lo (rd RlO G W (pOpt l))) (hh : PO X hi (rd RlO G W (pOpt h))) : PE X (.Subscript e (.Slice lo hi none p2) pos) (rdE G W (vSl m l h)) :=
  PE.imp (pe_slice (SlR.or (SlR.or sl_list sl_tupA) sl_str) he hl hh) fun σ H Q ⟨Z, φ, ρ, μ, sr, po⟩ => by
    refine rd_mono (po_step (R1 := RpU G) sr po) fun x H1 ⟨φ1, μ1, u, g1, sr1, ru, po1⟩ => ?_
    refine rd_mono (po_step (R1 := RlO) sr1 po1) fun l2 H2 ⟨φ2, μ2, l', g2, sr2, e2, po2⟩ => ?_
    refine rd_mono (po_step (R1 := RlO) sr2 po2) fun h2 H3 ⟨φ3, μ3, h', g3, sr3, e3, po3⟩ => ?_
    obtain rfl := (show l' = l2 from e2)
    obtain rfl := (show h' = h2 from e3)
    have ru3 := (ru.mono g2).mono g3
    unfold fSl at po3
    split at po3
    · rename_i z _ _
      split at po3
      · rename_i hz
        exact .inr ⟨z, ru3, Nat.le_trans hz (by decide), po3 φ3 H3 _ Go.refl sr3.rep rfl⟩
      · exact False.elim po3
    · split at po3
      · rename_i us hu
        obtain ⟨a, vs, rfl, ll, q⟩ := lsU_ok sr3.rep hu ru3
        refine .inl (.inl ⟨a, vs, rfl, by rw [← hK]; exact ll, ?_⟩)
        refine (newLst (us := cutL us l' h') (xs := cutV vs l' h') sr3.rep ?_ po3).2
        unfold cutL cutV
        rw [q.length]
        exact (q.drop _).take _
      · split at po3
        · rename_i ds hu
          have t := tpU_ok sr3.rep hu ru3
          obtain ⟨a, vs, rfl, ll, q⟩ := t
          have rc : RpL G (Sof Z φ3 μ3) H3 (cutL ds l' h') (cutV vs l' h') := by
            unfold cutL cutV
            rw [q.length]
            exact (q.drop _).take _
          refine .inl (.inr ⟨a, vs, rfl, by rw [← hK]; exact ll.sq, fun ⟨e1, e2⟩ => ?_, fun _ => newTup sr3.rep rc po3⟩)
          have ev : cutV vs l' h' = vs := by
            unfold cutV
            rw [e1, e2, List.drop_zero, Nat.sub_zero, List.take_length]
          rw [ev] at rc
          exact po3 φ3 H3 _ Go.refl sr3.rep ⟨a, vs, rfl, ll, rc⟩
        · exact False.elim po3
/-! ### methods -/
def tyOk (T : String) (u : U) (μ : Mu) : Bool := match u with
  | .d (.str _) => T == "str"
  | u => match lsU μ u with
    | some _ => T == "list"
    | none => false
def vM (T : String) (f : U → List U → Mu → Res U) (m : Sm U) (ms : Sm (List U)) : Sm U := fun ρ μ => (m ρ μ).bind fun u μ1 => if tyOk T u μ1 = true then (ms ρ μ1).bind fun us μ2 => f u us μ2 else .bad
def OpM (G : Gc) (f : U → List U → Mu → Res U) (r : L2.St → V → List V → Hp → VK → Prop) : Prop := ∀ (Z : Addr → Prop) (W : WX) (φ : List Addr) (μ : Mu) (H : Hp) (σ : L2.St) (x : V) (u : U) (xs : List V) (us : List U) (Q : VK), Rep G Z φ H μ → RpU G φ (Sof Z φ μ) H u x → RpUs G φ (Sof Z φ μ) H us xs → Po (RpU G) G Z W φ μ H σ (f u us μ) Q → r σ x xs H Q
theorem rdM {T : String} {f : U → List U → Mu → Res U} {r : L2.St → V → List V → Hp → VK → Prop} {ms : Sm (List U)} (hK : G.K = X.K) (hf : OpM G f r) (σ : L2.St) (H : Hp) (Q : VK) (h : rdE G W (vM T f m ms) σ H Q) : tBMS X.K T r (rdE G W m) (rdA G W ms) σ H Q := by
  obtain ⟨Z, φ, ρ, μ, sr, po⟩ := h
  refine rd_mono (po_step (R1 := RpU G) sr po) fun x H1 ⟨φ1, μ1, u, g1, sr1, ru, po1⟩ => ?_
  split at po1
  · rename_i ht
    refine ⟨?_, rd_mono (po_step (R1 := RpUs G) sr1 po1) fun xs H2 ⟨φ2, μ2, us, g2, sr2, rus, po2⟩ => hf Z W φ2 μ2 H2 σ x u xs us Q sr2.rep (ru.mono g2) rus po2⟩
    unfold tyOk at ht
    split at ht
    · rename_i z
      cases (show x = .str z from ru)
      exact beq_iff_eq.mp ht
    · split at ht
      · rename_i us hu
        obtain ⟨a, vs, rfl, l, q⟩ := lsU_ok sr1.rep hu ru
        exact .inl ⟨beq_iff_eq.mp ht, vs, by rw [← hK]; exact l⟩
      · cases ht
  · exact False.elim po1
theorem i_m {o : Expr} {es : List Expr} {name : Str} {apos cpos : Pos} {T id : String} {r : L2.St → V → List V → Hp → VK → Prop} {f : U → List U → Mu → Res U} {ms : Sm (List U)} (hK : G.K = X.K) (pa : PlainAttrs T) (slot : Slot T name id) (hty : typeOf (.builtin id) = pure (.type "method_descriptor")) (hm : MtS X id r) (hf : OpM G f r)
    (ho : PE X o (rdE G W m)) (ha : PA X (e :: es) (rdA G W ms))
    (hbase : attributeBase o name X.env (eval o X.env) = eval o X.env := by rfl)
    (hfew : ((backTo cpos (starEach (e :: es) X.env)).all (fun x => !x.1) && (backToKw cpos (keywordEach [] X.env)).all (fun x => x.1.isSome)
      && decide ((e :: es).length + ([] : List Keyword).length + (if ([] : List Keyword).isEmpty then 0 else 1) < 30)) = true := by rfl)
    (hline : (apos.endLine == cpos.line) = true := by rfl) (hs : starEach (e :: es) X.env = (false, eval e X.env) :: starEach es X.env := by rfl) (hplain : (backTo cpos (starEach es X.env)).any (·.1) = false := by rfl) :
    PE X (.Call (.Attribute o name apos) (e :: es) [] cpos) (rdE G W (vM T f m ms)) :=
  PE.imp (pe_bmS pa slot hty hm ho ha hbase hfew hline hs hplain) fun σ H Q h => rdM hK hf σ H Q h
/-- xs.append(y) -/
def fApp : U → List U → Mu → Res U := fun u us μ => match u, us with
  | .p n, [w] => match μ[n]? with
    | some (.lst l) => if l.length < 100000 then .ok (.d .non) (μ.set n (.lst (l ++ [w]))) else .bad
    | _ => .bad
  | _, _ => .bad
theorem lst_ntbl {vs : List V} {H : Hp} {a : Addr} (h : H a = some (.lst vs)) : ∀ ps, H a ≠ some (.tbl ps) := fun ps z => by rw [h] at z; cases z
theorem lst_ncode {vs : List V} {H : Hp} {a : Addr} (h : H a = some (.lst vs)) : ∀ b, H a ≠ some (LamX.CodeO a b) := fun ps z => by
  rw [h] at z
  have z' := Option.some.inj z
  unfold LamX.CodeO at z'
  cases z'
theorem fApp_ok : OpM G fApp (fun _ x xs H Q => rAppend x xs H Q) := fun Z W φ μ H σ x u xs us Q r ru rus po => by
  unfold fApp at po
  split at po
  · rename_i n w
    split at po
    · rename_i l hl
      split at po
      · rename_i hz
        obtain ⟨a, rfl, ha⟩ := ru
        obtain ⟨vs, e, q⟩ := r.at_ n a _ ha hl
        obtain ⟨y, rr, rfl, ry, rnil⟩ := rus
        cases (show rr = [] from rnil)
        have g : Go Z φ μ H φ (μ.set n (.lst (l ++ [w]))) (upd H a (.lst (vs ++ [y]))) := Go.wr r ha hl rfl
        refine ⟨a, vs, y, rfl, rfl, e, by rw [q.length]; exact Nat.lt_of_lt_of_le hz (by decide), ?_⟩
        have rq : RpUs G φ (Sof Z φ (μ.set n (.lst (l ++ [w])))) (upd H a (.lst (vs ++ [y]))) (l ++ [w]) (vs ++ [y]) := (q.mono g).app ⟨y, [], rfl, ry.mono g, rfl⟩
        exact po φ _ _ g (r.wr ha hl rfl (lst_ntbl e) (lst_ncode e) ⟨_, upd_same, rq⟩) rfl
      · exact False.elim po
    · exact False.elim po
  · exact False.elim po
def strsU : List U → Option (List Str)
  | [] => some []
  | .d (.str x) :: us => (strsU us).map fun xs => x :: xs
  | .p _ :: _ => none
  | .d _ :: _ => none
theorem strsU_ok {φ : List Addr} {S : Addr → Prop} {H : Hp} : ∀ {us : List U} {ss : List Str} {vs : List V}, strsU us = some ss → RpUs G φ S H us vs → vs = ss.map V.str
  | [], _, _, h, q => by cases h; exact q
  | .d (.str b) :: us, _, _, h, ⟨v, r, e, a, q⟩ => by
    obtain ⟨bs', h1, rfl⟩ := Option.map_eq_some_iff.mp h
    subst e
    rw [strsU_ok h1 q]
    cases (show v = .str b from a)
    rfl
  | .p _ :: _, _, _, h, _ => by cases h
  | .d .non :: _, _, _, h, _ => by cases h
  | .d (.int _) :: _, _, _, h, _ => by cases h
  | .d (.bl _) :: _, _, _, h, _ => by cases h
  | .d (.tup _) :: _, _, _, h, _ => by cases h
  | .d (.lst _) :: _, _, _, h, _ => by cases h
  | .d (.dic _ _) :: _, _, _, h, _ => by cases h
  | .d (.dit _ _) :: _, _, _, h, _ => by cases h
  | .d (.obj _ _ _) :: _, _, _, h, _ => by cases h
  | .d (.exc _ _ _) :: _, _, _, h, _ => by cases h
  | .d (.clo _ _) :: _, _, _, h, _ => by cases h
def fJoin : U → List U → Mu → Res U := fun u us μ => match u, us with
  | .d (.str a), [w] => match sqU μ w with
    | some l => match strsU l with
      | some ys => if (ys.map (·.length)).sum + ys.length * a.length ≤ 1000000 then .ok (.d (.str (Txt.join a ys))) μ else .bad
      | none => .bad
    | none => .bad
  | _, _ => .bad
theorem fJoin_ok (hK : G.K = X.K) : OpM G fJoin (fun _ x xs H Q => ∃ a p, ∃ ys : List Str, x = .str a ∧ xs = [.ref p] ∧ (SqL X.K H p (ys.map V.str) ∨ SqT X.K H p (ys.map V.str)) ∧ (ys.map (·.length)).sum + ys.length * a.length ≤ 16777216 ∧ Q (.str (Txt.join a ys)) H) := fun Z W φ μ H σ x u xs us Q r ru rus po => by
  unfold fJoin at po
  split at po
  · rename_i a w
    split at po
    · rename_i l hl
      split at po
      · rename_i ys hy
        split at po
        · rename_i hz
          obtain ⟨y, rr, rfl, ry, rnil⟩ := rus
          cases (show rr = [] from rnil)
          obtain ⟨p, vs, rfl, ll, q⟩ := sqU_ok r hl ry
          refine ⟨a, p, ys, ru, rfl, by rw [← hK, ← strsU_ok hy q]; exact ll, Nat.le_trans hz (by decide), po φ H _ Go.refl r rfl⟩
        · exact False.elim po
      · exact False.elim po
    · exact False.elim po
  · exact False.elim po
def fSplit : U → List U → Mu → Res U := fun u us μ => match u, us with
  | .d (.str a), [.d (.str b)] => if (b.length == 0) = false ∧ a.length ≤ 99000 then oLst ((Txt.split a b).map fun x => .d (.str x)) μ else .bad
  | _, _ => .bad
theorem strs_us {φ : List Addr} {S : Addr → Prop} {H : Hp} : ∀ ys : List Str, RpUs G φ S H (ys.map fun x => U.d (.str x)) (ys.map V.str)
  | [] => rfl
  | y :: ys => ⟨.str y, _, rfl, rfl, strs_us ys⟩
theorem fSplit_ok : OpM G fSplit (fun _ x xs H Q => ∃ a b, x = .str a ∧ xs = [.str b] ∧ (b.length == 0) = false ∧ a.length + 2 ≤ sizeLine ∧ rNewStrs (Txt.split a b) H Q) := fun Z W φ μ H σ x u xs us Q r ru rus po => by
  unfold fSplit at po
  split at po
  · rename_i a b
    split at po
    · rename_i hz
      obtain ⟨y, rr, rfl, ry, rnil⟩ := rus
      cases (show rr = [] from rnil)
      cases (show y = .str b from ry)
      exact ⟨a, b, ru, rfl, hz.1, Nat.le_trans (Nat.add_le_add_right hz.2 2) (by decide), (newLst r (strs_us _) po).2⟩
    · exact False.elim po
  · exact False.elim po
def fIndexS : U → List U → Mu → Res U := fun u us μ => match u, us with
  | .d (.str a), [.d (.str b)] => match Txt.index0 a b with
    | some k => .ok (.d (.int k)) μ
    | none => .bad
  | _, _ => .bad
theorem fIndexS_ok {W' : WX} : OpM G fIndexS (rIndexX W') := fun Z W φ μ H σ x u xs us Q r ru rus po => by
  unfold fIndexS at po
  split at po
  · rename_i a b
    split at po
    · rename_i k hk
      obtain ⟨y, rr, rfl, ry, rnil⟩ := rus
      cases (show rr = [] from rnil)
      cases (show y = .str b from ry)
      refine ⟨a, b, ru, rfl, fun k' e => ?_, fun e => ?_⟩
      · rw [hk] at e; cases e; exact po φ H _ Go.refl r rfl
      · rw [hk] at e; cases e
    · exact False.elim po
  · exact False.elim po
/-! ### xs[i] = e -/
def sSetIx (mo mi me : Sm U) : SmS := fun ρ μ => (me ρ μ).thenS ρ fun w μ1 => (mo ρ μ1).thenS ρ fun u μ2 => (mi ρ μ2).thenS ρ fun i μ3 => match u, i with
  | .p n, .d (.int k) => match μ3[n]? with
    | some (.lst l) => match ixN l.length k with
      | some j => .nx ρ (μ3.set n (.lst (l.set j w)))
      | none => .bad
    | _ => .bad
  | _, _ => .bad
theorem RpUs.set {φ : List Addr} {S : Addr → Prop} {H : Hp} {w : U} {y : V} (r : RpU G φ S H w y) : ∀ {us : List U} {vs : List V} (j : Nat), RpUs G φ S H us vs → RpUs G φ S H (us.set j w) (vs.set j y)
  | [], vs, j, h => by rw [show vs = [] from h]; exact rfl
  | u :: us, _, 0, ⟨v, rr, e, a, b⟩ => by subst e; exact ⟨y, rr, rfl, r, b⟩
  | u :: us, _, j + 1, ⟨v, rr, e, a, b⟩ => by subst e; exact ⟨v, _, rfl, a, RpUs.set r j b⟩
theorem i_setix {o i : Expr} {mo mi me : Sm U} {tp : Pos} (ho : PE X o (rdE G W mo)) (hi : PE X i (rdE G W mi)) (he : PE X e (rdE G W me))
    (ha : ∀ v, assign (.Subscript o i tp) X.env v = (do
      let ov ← holding [v] (eval o X.env)
      let iv ← holding [v, ov] (eval i X.env)
      standAt tp
      holding [v, ov, iv] (setItem ov iv v)
      release [v, ov, iv] []) := by intros; rfl)
    (hs : swapsWithSole [.Subscript o i tp] e pos.line X.env = pure false := by rfl) (hw : swappedStores [.Subscript o i tp] e X.env = pure none := by rfl)
    (h1 : (assignEach [.Subscript o i tp] X.env).map (·.2) = [assign (.Subscript o i tp) X.env] := by rfl) : PS X (.Assign [.Subscript o i tp] e pos) (rdS G W (sSetIx mo mi me)) :=
  PS.imp (ps_asg he (pg_sub ho hi set_list ha) hs hw h1) fun D σ H ⟨Z, φ, ρ, μ, sr, po⟩ => by
    refine rd_mono (pos_step (R1 := RpU G) sr po) fun y H1 ⟨φ1, μ1, w, g1, sr1, rw1, po1⟩ => ?_
    refine rd_mono (pos_step (R1 := RpU G) sr1 po1) fun x H2 ⟨φ2, μ2, u, g2, sr2, ru, po2⟩ => ?_
    refine rd_mono (pos_step (R1 := RpU G) sr2 po2) fun z H3 ⟨φ3, μ3, k, g3, sr3, rk, po3⟩ => ?_
    cases u with
    | d _ => exact False.elim po3
    | p n =>
      cases k with
      | p _ => exact False.elim po3
      | d kd =>
        cases kd with
        | int k =>
          dsimp only at po3
          split at po3
          · rename_i l hl
            split at po3
            · rename_i j hj
              obtain ⟨a, rfl, ha2⟩ := ru
              have ha3 := g3.ph n a ha2
              obtain ⟨vs, ea, q⟩ := sr3.rep.at_ n a _ ha3 hl
              cases (show z = .int k from rk)
              have rw3 := (rw1.mono g2).mono g3
              have g : Go Z φ3 μ3 H3 φ3 (μ3.set n (.lst (l.set j w))) (upd H3 a (.lst (vs.set j y))) := Go.wr sr3.rep ha3 hl rfl
              have rr := sr3.rep.wr ha3 hl (ob' := .lst (l.set j w)) rfl (lst_ntbl ea) (lst_ncode ea) ⟨_, upd_same, RpUs.set (rw3.mono g) j (q.mono g)⟩
              exact ⟨a, vs, k, j, rfl, rfl, ea, by rw [q.length]; exact hj, po3 φ3 _ σ g ⟨rr, sr3.sl.mono g⟩⟩
            · exact False.elim po3
          · exact False.elim po3
        | _ => exact False.elim po3
/-! ### zip -/
def wZip (m : Sm (List U)) : Sm Wlk := fun ρ μ => (m ρ μ).bind fun us μ1 => match frzL us μ1 with
  | some ([.tup a, .tup b], μ2) => .ok (wkD ((a.zip b).map fun p => .tup [p.1, p.2])) μ2
  | some ([.lst a, .lst b], μ2) => .ok (wkD ((a.zip b).map fun p => .tup [p.1, p.2])) μ2
  | _ => .bad
theorem zip_at {ds es : List D} {i : Nat} {μ : Mu} {u : U} (h : (wkD ((ds.zip es).map fun p => .tup [p.1, p.2])).nxt i μ = some (some u)) : ∃ d e, ds[i]? = some d ∧ es[i]? = some e ∧ u = .d (.tup [d, e]) := by
  obtain ⟨d, hd, rfl⟩ := opt_map_some h
  rw [List.getElem?_map] at hd
  obtain ⟨p, hp, rfl⟩ := Option.map_eq_some_iff.mp hd
  rw [List.getElem?_zip_eq_some] at hp
  exact ⟨p.1, p.2, hp.1, hp.2, rfl⟩
theorem zip_end {ds es : List D} {i : Nat} {μ : Mu} (h : (wkD ((ds.zip es).map fun p => .tup [p.1, p.2])).nxt i μ = some none) : ds.length ≤ i ∨ es.length ≤ i := by
  have hn := List.getElem?_eq_none_iff.mp (opt_map_none h)
  rw [List.length_map, List.length_zip] at hn
  omega
theorem wk_zipT {ds es : List D} {a b : Addr} : Wk G (RZ.ItzT G.K a b) (wkD ((ds.zip es).map fun p => .tup [p.1, p.2])).nxt (fun _ S H => Rp G S H (.tup ds) (.ref a) ∧ Rp G S H (.tup es) (.ref b)) where
  mono := fun _ e h => ⟨Rp.mono e h.1, Rp.mono e h.2⟩
  go := fun {Z φ μ H i u} r ⟨⟨a', vs, e, l, q⟩, ⟨b', ws, e2, l2, q2⟩⟩ h => by
    cases e; cases e2
    obtain ⟨d, d2, hd, hd2, rfl⟩ := zip_at h
    obtain ⟨v, hv, rv⟩ := q.get hd
    obtain ⟨w, hw, rw'⟩ := q2.get hd2
    exact ⟨vs, ws, v, w, l.sq, l2.sq, hv, hw⟩
  stop := fun {Z φ μ H i} r ⟨⟨a', vs, e, l, q⟩, ⟨b', ws, e2, l2, q2⟩⟩ h => by
    cases e; cases e2
    exact ⟨vs, ws, l.sq, l2.sq, by rw [q.length, q2.length]; exact zip_end h⟩
  yld := fun {Z φ μ H H' i u x} r ⟨⟨a', vs, e, l, q⟩, ⟨b', ws, e2, l2, q2⟩⟩ h y => by
    cases e; cases e2
    obtain ⟨d, d2, hd, hd2, rfl⟩ := zip_at h
    obtain ⟨v, hv, rv⟩ := q.get hd
    obtain ⟨w, hw, rw'⟩ := q2.get hd2
    obtain ⟨T, x1, y1, rfl, hT, rfl, k1, k2⟩ := y
    have e1 := (k1 vs l.sq).symm.trans hv
    have e3 := (k2 ws l2.sq).symm.trans hw
    cases e1; cases e3
    have g := Go.newD (Z := Z) (φ := φ) (μ := μ) (o := .tup [v, w]) r hT
    have nS : ¬ Sof Z φ μ T := fun z => by
      obtain ⟨o, ho⟩ := r.there z
      rw [hT] at ho; cases ho
    exact ⟨g, r.newD hT, ⟨T, [v, w], rfl, .inl ⟨nS, .inl upd_same⟩, ⟨v, [w], rfl, Rp.mono g.ex rv, ⟨w, [], rfl, Rp.mono g.ex rw', rfl⟩⟩⟩⟩
theorem wk_zipL {ds es : List D} {a b : Addr} : Wk G (Itz G.K a b) (wkD ((ds.zip es).map fun p => .tup [p.1, p.2])).nxt (fun _ S H => Rp G S H (.lst ds) (.ref a) ∧ Rp G S H (.lst es) (.ref b)) where
  mono := fun _ e h => ⟨Rp.mono e h.1, Rp.mono e h.2⟩
  go := fun {Z φ μ H i u} r ⟨⟨a', vs, e, l, q⟩, ⟨b', ws, e2, l2, q2⟩⟩ h => by
    cases e; cases e2
    obtain ⟨d, d2, hd, hd2, rfl⟩ := zip_at h
    obtain ⟨v, hv, rv⟩ := q.get hd
    obtain ⟨w, hw, rw'⟩ := q2.get hd2
    exact ⟨vs, ws, v, w, l.sq, l2.sq, hv, hw⟩
  stop := fun {Z φ μ H i} r ⟨⟨a', vs, e, l, q⟩, ⟨b', ws, e2, l2, q2⟩⟩ h => by
    cases e; cases e2
    exact ⟨vs, ws, l.sq, l2.sq, by rw [q.length, q2.length]; exact zip_end h⟩
  yld := fun {Z φ μ H H' i u x} r ⟨⟨a', vs, e, l, q⟩, ⟨b', ws, e2, l2, q2⟩⟩ h y => by
    cases e; cases e2
    obtain ⟨d, d2, hd, hd2, rfl⟩ := zip_at h
    obtain ⟨v, hv, rv⟩ := q.get hd
    obtain ⟨w, hw, rw'⟩ := q2.get hd2
    obtain ⟨T, x1, y1, rfl, hT, rfl, k1, k2⟩ := y
    have e1 := (k1 vs l.sq).symm.trans hv
    have e3 := (k2 ws l2.sq).symm.trans hw
    cases e1; cases e3
    have g := Go.newD (Z := Z) (φ := φ) (μ := μ) (o := .tup [v, w]) r hT
    have nS : ¬ Sof Z φ μ T := fun z => by
      obtain ⟨o, ho⟩ := r.there z
      rw [hT] at ho; cases ho
    exact ⟨g, r.newD hT, ⟨T, [v, w], rfl, .inl ⟨nS, .inl upd_same⟩, ⟨v, [w], rfl, Rp.mono g.ex rv, ⟨w, [], rfl, Rp.mono g.ex rw', rfl⟩⟩⟩⟩
theorem i_wzip {elts : List Expr} {kk : Nat} {tpos p : Pos} {ms : Sm (List U)} (hK : G.K = X.K) (hg : Gl X "zip") (hm : X.mg "zip" = none) (ha : PA X [a, b] (rdA G W ms))
    (hs : starEach [a, b] X.env = (false, eval a X.env) :: starEach [b] X.env := by rfl) (hpl : (backTo pos (starEach [b] X.env)).any (·.1) = false := by rfl) :
    PI X (.Tuple elts kk tpos) (.Call (.Name "zip" p) [a, b] [] pos) (rdI G W (wZip ms)) :=
  PI.imp (RZ.pi_zipA hg hm ha hs hpl) fun σ H R ⟨Z, φ, ρ, μ, sr, po⟩ => by
    refine rd_mono (pi_step (R1 := RpUs G) sr po) fun xs H1 ⟨φ1, μ1, us, g1, sr1, rus, po1⟩ => ?_
    split at po1
    · rename_i d1 d2 μ2 hf
      obtain ⟨F, rl⟩ := frzL_ok hf sr1.rep rus
      obtain ⟨v, rr, rfl, r1, w, rr2, e2, r2, e3⟩ := rl
      have e3' : rr2 = [] := e3
      subst e2 e3'
      have t1 := r1
      have t2 := r2
      obtain ⟨x1, vs, rfl, l1, q1⟩ := t1
      obtain ⟨x2, ws, rfl, l2, q2⟩ := t2
      exact ⟨x1, x2, vs, ws, rfl, .inr ⟨by rw [← hK]; exact l1.sq, by rw [← hK]; exact l2.sq, by rw [← hK]; exact po1 φ1 H1 _ _ F.go F.rep wk_zipT ⟨r1, r2⟩⟩⟩
    · rename_i d1 d2 μ2 hf
      obtain ⟨F, rl⟩ := frzL_ok hf sr1.rep rus
      obtain ⟨v, rr, rfl, r1, w, rr2, e2, r2, e3⟩ := rl
      have e3' : rr2 = [] := e3
      subst e2 e3'
      have t1 := r1
      have t2 := r2
      obtain ⟨x1, vs, rfl, l1, q1⟩ := t1
      obtain ⟨x2, ws, rfl, l2, q2⟩ := t2
      exact ⟨x1, x2, vs, ws, rfl, .inl ⟨by rw [← hK]; exact l1.sq, by rw [← hK]; exact l2.sq, by rw [← hK]; exact po1 φ1 H1 _ _ F.go F.rep wk_zipL ⟨r1, r2⟩⟩⟩
    · exact False.elim po1
end
end Iv
set_option Elab.async false
set_option linter.all false
set_option maxRecDepth 100000
set_option maxHeartbeats 2000000
set_option autoImplicit false
/-! Iv, part M: lambdas. -/
namespace Iv
open PySem PySem.Spec PyProof.Rows L2

/-! ### cells that are lent -/
def less (L : Addr → Bool) (H : Hp) : Hp := fun b => if L b = true then none else H b
def more (L : Addr → Bool) (H0 H : Hp) : Hp := fun b => if L b = true then H0 b else H b
def LentC (L : Addr → Bool) (H : Hp) : Prop := ∀ c, L c = true → ∃ (o : Obj) (u : Value), H c = some (.frz o (.own c)) ∧ o.data = .cell (some u)
theorem less_in {L : Addr → Bool} {H : Hp} {b : Addr} (h : L b = true) : less L H b = none := if_pos h
theorem less_out {L : Addr → Bool} {H : Hp} {b : Addr} (h : L b = false) : less L H b = H b := by unfold less; rw [if_neg (by rw [h]; exact Bool.false_ne_true)]
theorem more_in {L : Addr → Bool} {H0 H : Hp} {b : Addr} (h : L b = true) : more L H0 H b = H0 b := if_pos h
theorem more_out {L : Addr → Bool} {H0 H : Hp} {b : Addr} (h : L b = false) : more L H0 H b = H b := by unfold more; rw [if_neg (by rw [h]; exact Bool.false_ne_true)]
theorem less_some {L : Addr → Bool} {H : Hp} {b : Addr} {o : HO} (h : less L H b = some o) : L b = false ∧ H b = some o := by
  cases e : L b with
  | true => rw [less_in e] at h; cases h
  | false => exact ⟨rfl, (less_out e).symm.trans h⟩
theorem LentC.out {L : Addr → Bool} {H : Hp} (lc : LentC L H) {b : Addr} {o : HO} (h : H b = some o) (n : ∀ ob c, o ≠ .frz ob (.own c)) : L b = false := by
  cases e : L b with
  | false => rfl
  | true =>
    obtain ⟨ob, u, e1, _⟩ := lc b e
    rw [h] at e1
    exact absurd (Option.some.inj e1) (n _ _)
section
variable {P : Program} {w : World} {K : PySem.W.Frag} {mg : Str → Option Value} {base : Heap} {L : Addr → Bool} {H H0 H' : Hp} {h : Heap} {G : Gc}
theorem hok_less (lc : LentC L H) (ok : HOk P w H h) : HOk P w (less L H) h := fun b o e => by
  obtain ⟨hb, e'⟩ := less_some e
  refine (ok b o e').stay (fun _ _ _ q => q) (fun c q => ?_) fun c xs q => ?_
  · rw [less_out (lc.out q fun _ _ z => by cases z)]; exact q
  · rw [less_out (lc.out q fun _ _ z => by cases z)]; exact q
theorem hok_more (lc : LentC L H0) (ok : HOk P w H h) (fr : ∀ c, L c = true → H c = none) (at_ : ∀ c o, L c = true → H0 c = some (.frz o (.own c)) → h.get? c = some o) : HOk P w (more L H0 H) h := fun b o e => by
  cases hb : L b with
  | true =>
    rw [more_in hb] at e
    obtain ⟨ob, u, e1, _⟩ := lc b hb
    rw [e1] at e
    cases e
    exact ⟨at_ b ob hb e1, ⟨ob, at_ b ob hb e1⟩⟩
  | false =>
    rw [more_out hb] at e
    have out : ∀ {c : Addr} {x : HO}, H c = some x → L c = false := fun {c x} q => by
      cases z : L c with
      | false => rfl
      | true => rw [fr c z] at q; cases q
    exact (ok b o e).stay (fun _ _ _ q => q) (fun c q => by rw [more_out (out q)]; exact q) fun c xs q => by rw [more_out (out q)]; exact q
end
mutual
/-- no lambda within -/
def D.nc : D → Bool
  | .tup l => D.ncL l
  | .lst l => D.ncL l
  | .dic _ l => D.ncL l
  | .dit _ l => D.ncL l
  | .obj _ _ l => D.ncL l
  | .exc _ _ l => D.ncL l
  | .clo _ _ => false
  | _ => true
def D.ncL : List D → Bool
  | [] => true
  | d :: ds => d.nc && D.ncL ds
end
section
variable {L : Addr → Bool} {H : Hp} {G : Gc} {S : Addr → Prop}
theorem rd_less (lc : LentC L H) {a : Addr} {u : HO} (h : Rd H a u) (n : ∀ c, u ≠ .own c) (n2 : ∀ o v, u ≠ .frz o v) : Rd (less L H) a u := by
  rcases h with h | ⟨o, h⟩
  · exact .inl (by rw [less_out (lc.out h fun ob c => n2 ob _)]; exact h)
  · exact .inr ⟨o, by rw [less_out (lc.out h fun ob c z => n c (by cases z; rfl))]; exact h⟩
theorem tupR_less (lc : LentC L H) {a : Addr} {vs : List V} (h : TupR G S H a vs) : TupR G S (less L H) a vs := h.elim (fun z => .inl ⟨z.1, rd_less lc z.2 (fun _ q => by cases q) fun _ _ q => by cases q⟩) fun z => .inr z
theorem lstR_less (lc : LentC L H) {a : Addr} {vs : List V} (h : LstR G S H a vs) : LstR G S (less L H) a vs := h.elim (fun z => .inl ⟨z.1, rd_less lc z.2 (fun _ q => by cases q) fun _ _ q => by cases q⟩) fun z => .inr z
mutual
theorem Rp.less (lc : LentC L H) : ∀ {d : D} {v : V}, d.nc = true → Rp G S H d v → Rp G S (Iv.less L H) d v
  | .non, _, _, h => h
  | .bl _, _, _, h => h
  | .int _, _, _, h => h
  | .str _, _, _, h => h
  | .tup ds, _, k, ⟨a, vs, e1, e2, e3⟩ => ⟨a, vs, e1, tupR_less lc e2, RpL.less lc k e3⟩
  | .lst ds, _, k, ⟨a, vs, e1, e2, e3⟩ => ⟨a, vs, e1, lstR_less lc e2, RpL.less lc k e3⟩
  | .dic ks ds, _, k, ⟨a, vs, e1, e2, e3, e4, e5⟩ => ⟨a, vs, e1, e2, rd_less lc e3 (fun _ q => by cases q) (fun _ _ q => by cases q), e4, RpL.less lc k e5⟩
  | .dit ks ds, _, k, ⟨a, vs, e1, e2, e3, e4, e5⟩ => ⟨a, vs, e1, e2, rd_less lc e3 (fun _ q => by cases q) (fun _ _ q => by cases q), e4, RpL.less lc k e5⟩
  | .obj c ns ds, _, k, ⟨a, dx, vs, e1, e2, e3, e4, e5⟩ => ⟨a, dx, vs, e1, e2, by rw [less_out (lc.out e3 fun _ _ q => by cases q)]; exact e3, e4, RpL.less lc k e5⟩
  | .exc c ns ds, _, k, ⟨a, dx, vs, e1, e2, e3, e4, e5, e6⟩ => ⟨a, dx, vs, e1, e2, by rw [less_out (lc.out e3 fun _ _ q => by cases q)]; exact e3, e4,
      e5.elim (fun z => .inl z) (fun ⟨d, z1, z2, z3⟩ => .inr ⟨d, z1, z2, by rw [less_out (lc.out z3 fun _ _ q => by cases q)]; exact z3⟩), RpL.less lc k e6⟩
  | .clo k ds, _, k', h => nomatch k'
theorem RpL.less (lc : LentC L H) : ∀ {ds : List D} {vs : List V}, D.ncL ds = true → RpL G S H ds vs → RpL G S (Iv.less L H) ds vs
  | [], _, _, h => h
  | d :: ds, _, k, ⟨v, r, e1, e2, e3⟩ => by
    have k' : (d.nc && D.ncL ds) = true := k
    rw [Bool.and_eq_true] at k'
    exact ⟨v, r, e1, Rp.less lc k'.1 e2, RpL.less lc k'.2 e3⟩
end
theorem tabs_less (lc : LentC L H) {T : List (Addr × Str)} (t : LamX.Tabs T H) : LamX.Tabs T (Iv.less L H) := fun p hp => by
  obtain ⟨ps, a1, a2, a3⟩ := t p hp
  refine ⟨ps, by rw [less_out (lc.out a1 fun _ _ q => by cases q)]; exact a1, a2, fun pos cv hc => ?_⟩
  obtain ⟨c, e1, e2⟩ := a3 pos cv hc
  exact ⟨c, e1, by rw [less_out (lc.out e2 fun _ _ q => by unfold LamX.CodeO at q; cases q)]; exact e2⟩
end
/-! ### a lambda, called -/
/-- what a lambda's scope says: no parameter, no name of its own: captured ones and globals -/
structure LamF (I : LamI) : Prop where
  kind : I.scope.kind = .function
  co : I.scope.isCoroutine = false
  gen : I.scope.isGenerator = false
  own : ∀ y ∈ I.scope.names, y.2 ≠ .local ∧ y.2 ≠ .cell
  free : ∀ y ∈ I.scope.names, y.2 = .free → y.1 ∈ I.caps
  all : ∀ x ∈ I.caps, I.scope.names.lookup x = some .free
  nd : I.caps.Nodup
  bind : ∀ (clo : List (Str × Addr)) (pm ctv : Value) (c' : Addr), bindArgs (PySem.W.kla_fn "<lambda>" I.qual I.params I.body I.scope clo pm (.ref c') ctv) ⟨[], []⟩ = pure []
abbrev cloEnv (I : LamI) (clo : List (Str × Addr)) (l f c' : Addr) : Env := PySem.W.envX I.qual I.scope l f (.ref c') clo
def cloCx (P : Program) (w : World) (K : PySem.W.Frag) (mg : Str → Option Value) (base : Heap) (I : LamI) (clo : List (Str × Addr)) (f c' : Addr) (A : Around) (outer : List Env) (s : Shared) (H : Hp) (E : XK) : Cx where
  prog := P
  w := w
  K := K
  mg := mg
  base := base
  A := A.deeper (cloEnv I clo s.heap.objs.size f c')
  N := I.caps
  s_0 := s
  H_0 := H
  env := cloEnv I clo s.heap.objs.size f c'
  outer := outer
  stack := cloEnv I clo s.heap.objs.size f c' :: outer
  ex := []
  fn := fun _ => false
  calm := true
  pn := []
  xe := fun e s' => wpAny (model P w) (A.deeper (cloEnv I clo s.heap.objs.size f c')) (leaving (cloEnv I clo s.heap.objs.size f c') e) (fun _ s'' => L2.CX P w outer H s E e s'') (fun e' s'' => L2.CX P w outer H s E e' s'') s'
/-- a closure at a: its object, its cells, the values in them -/
def CloAt (G : Gc) (S : Addr → Prop) (H : Hp) (k : Nat) (a : Addr) (vs : List V) : Prop := ∃ (c' : Addr) (pm ctv : Value) (fo : Obj) (clo : List (Str × Addr)), ¬ S a ∧ H a = some (.frz fo (.own a)) ∧
  fo = PySem.W.kla_obj "<lambda>" (G.lam k).qual (G.lam k).params (G.lam k).body (G.lam k).scope clo pm c' ctv ∧ ¬ S c' ∧ H c' = some (LamX.CodeO c' (G.lam k).qual) ∧ CloF (G.lam k).caps clo ∧ CellsR S H clo (G.lam k).caps vs
def lentB (caps : List Str) (clo : List (Str × Addr)) (b : Addr) : Bool := caps.any fun x => clo.lookup x == some b
theorem cellsR_at {S : Addr → Prop} {H : Hp} {clo : List (Str × Addr)} : ∀ {xs : List Str} {vs : List V} {i : Nat} {x : Str}, CellsR S H clo xs vs → xs[i]? = some x → ∃ v c o u, vs[i]? = some v ∧ clo.lookup x = some c ∧ ¬ S c ∧ H c = some (.frz o (.own c)) ∧ o.data = .cell (some u) ∧ RelV v u
  | y :: xs, _, 0, x, ⟨v, r, c, o, u, e1, e2, e3, e4, e5, e6, e7⟩, h => by
    cases h; subst e1
    exact ⟨v, c, o, u, rfl, e2, e3, e4, e5, e6⟩
  | y :: xs, _, i + 1, x, ⟨v, r, c, o, u, e1, e2, e3, e4, e5, e6, e7⟩, h => by
    subst e1
    exact cellsR_at (i := i) e7 h
theorem cellsR_len {S : Addr → Prop} {H : Hp} {clo : List (Str × Addr)} : ∀ {xs : List Str} {vs : List V}, CellsR S H clo xs vs → vs.length = xs.length
  | [], _, h => by rw [show _ = [] from h]; rfl
  | x :: xs, _, ⟨v, r, c, o, u, e1, e2, e3, e4, e5, e6, e7⟩ => by subst e1; rw [List.length_cons, List.length_cons, cellsR_len e7]
theorem lentB_of {caps : List Str} {clo : List (Str × Addr)} {b : Addr} (h : lentB caps clo b = true) : ∃ (i : Nat) (x : Str), caps[i]? = some x ∧ clo.lookup x = some b := by
  unfold lentB at h
  rw [List.any_eq_true] at h
  obtain ⟨x, hx, e⟩ := h
  obtain ⟨i, hi⟩ := List.getElem?_of_mem hx
  exact ⟨i, x, hi, beq_iff_eq.mp e⟩
theorem lentB_mk {caps : List Str} {clo : List (Str × Addr)} {b : Addr} {x : Str} (hx : x ∈ caps) (h : clo.lookup x = some b) : lentB caps clo b = true := by
  unfold lentB
  rw [List.any_eq_true]
  exact ⟨x, hx, beq_iff_eq.mpr h⟩
section
variable {P : Program} {w : World} {K : PySem.W.Frag} {mg : Str → Option Value} {base : Heap} {G : Gc}
theorem clo_lent {S : Addr → Prop} {H : Hp} {clo : List (Str × Addr)} {caps : List Str} {vs : List V} (h : CellsR S H clo caps vs) : LentC (lentB caps clo) H := fun c hc => by
  obtain ⟨i, x, hi, hx⟩ := lentB_of hc
  obtain ⟨v, c2, o, u, _, e2, _, e4, e5, _⟩ := cellsR_at h hi
  rw [hx] at e2
  cases e2
  exact ⟨o, u, e4, e5⟩
/-- the state at which the lambda's body begins -/
theorem clo_start {I : LamI} {clo : List (Str × Addr)} {f c' : Addr} {A : Around} {outer : List Env} {s : Shared} {H : Hp} {E : XK} {h₁ : Heap} {tk : Nat} {S : Addr → Prop} {vs : List V} (F : LamF I) (CF : CloF I.caps clo) (CR : CellsR S H clo I.caps vs) (e0 : Env0 P w K mg base A outer s H) (hd : A.handled = none)
    (hns : h₁.Ns s.heap.objs.size fun y => ([] : List (Str × Value)).reverse.lookup y) (kp : ∀ b o, s.heap.get? b = some o → h₁.get? b = some o) :
    L2.Inv (cloCx P w K mg base I clo f c' A outer s (less (lentB I.caps clo) H) E) [] (vs.map some) (less (lentB I.caps clo) H) { s with heap := h₁, toks := tk } := by
  have lc := clo_lent CR
  have cellK : ∀ {y c}, clo.lookup y = some c → ∃ (i : Nat) (v : V) (u : Value), I.caps[i]? = some y ∧ vs[i]? = some v ∧ RelV v u ∧ h₁.IsCell c (some u) := fun {y c} e => by
    obtain ⟨i, hi⟩ := List.getElem?_of_mem (CF.1 y c e)
    obtain ⟨v, c2, o, u, e1, e2, _, e4, e5, e6⟩ := cellsR_at CR hi
    rw [e] at e2
    cases e2
    obtain ⟨g, _⟩ := e0.hok c _ e4
    exact ⟨i, v, u, hi, e1, e6, o, kp _ _ g, e5⟩
  have look : ∀ {y}, I.scope.names.lookup y = some .free → ∃ c, clo.lookup y = some c := fun {y} hl => by
    obtain ⟨i, hi⟩ := List.getElem?_of_mem (F.free _ (PySem.mem_of_lookup hl) rfl)
    obtain ⟨v, c2, o, u, e1, e2, _⟩ := cellsR_at CR hi
    exact ⟨c2, e2⟩
  have noA : ∀ b : Addr, b ∉ (cloCx P w K mg base I clo f c' A outer s (less (lentB I.caps clo) H) E).ex := fun b z => absurd (show b ∈ ([] : List Addr) from z) (by simp)
  have nl : ∀ {b}, H b = none → less (lentB I.caps clo) H b = none := fun {b} n => by
    unfold less; split
    · rfl
    · exact n
  refine ⟨⟨e0.mod, F.kind, rfl, rfl, Nat.le_refl _, fun y z c e1 e2 => CF.2 y z c e1 e2, fun y hy => ?_, fun y c z _ => ?_, fun _ => hd, Around.frames_deeper e0.frames, .inr ⟨rfl, rfl⟩, fun b z => absurd z (noA b), fun b o e => ⟨(e0.bs b o e).1, nl (e0.bs b o e).2⟩, e0.bsz, fun b _ _ => noA b,
      fun b z => absurd z (noA b), e0.funs, fun b hb => nl (e0.frf b hb)⟩,
    rfl, e0.bare, Un.kept kp, ⟨_, hns, fun i y v e1 e2 e3 => ?_⟩, fun y c e => ?_, nl (e0.hok.fresh (Nat.le_refl _)), fun y c e => ?_, fun q hq => absurd (show q ∈ ([] : List (Addr × Obj)) ++ [] from hq) (by simp), (hok_less lc e0.hok).kept kp, ?_⟩
  · have hy : I.scope.names.lookup y = some .cell ∨ I.scope.names.lookup y = some .free := hy
    rcases hy with hy | hy
    · exact absurd rfl (F.own _ (PySem.mem_of_lookup hy)).2
    · exact look hy
  · have z : false = true := z
    cases z
  · have e3 : Vis I.scope y := e3
    rcases e3 with k | k | k
    · exact absurd rfl (F.own _ (PySem.mem_of_lookup k)).1
    · exact absurd rfl (F.own _ (PySem.mem_of_lookup k)).2
    · obtain ⟨c, hc⟩ := look k
      obtain ⟨j, v', u, hj, hv, r, z⟩ := cellK hc
      have e1 : I.caps[i]? = some y := e1
      have ij := nodup_ix F.nd hj e1
      subst ij
      rw [List.getElem?_map, hv] at e2
      cases e2
      exact ⟨u, r, .inr ⟨.inr k, c, hc, z⟩⟩
  · have e : clo.lookup y = some c := e
    obtain ⟨_, _, u, _, _, _, z⟩ := cellK e
    exact ⟨_, z⟩
  · have e : clo.lookup y = some c := e
    exact less_in (lentB_mk (CF.1 y c e) e)
  · show (vs.map some).length = I.caps.length
    rw [List.length_map, cellsR_len CR]
/-- a call's end, of the cells too -/
theorem ce_more {L : Addr → Bool} {outer : List Env} {H : Hp} {s s' : Shared} {Q : VK} {u : Value} (lc : LentC L H) (ok : HOk P w H s.heap) (frf : ∀ b ∈ frs outer, H b = none) (h : CE outer P w (less L H) s (fun v H' => (∀ c, L c = true → H' c = none) → Q v (more L H H')) u s') : CE outer P w H s Q u s' := by
  obtain ⟨v, H', os, bare, un, hok, rv, q⟩ := h
  have fr : ∀ c, L c = true → H' c = none := fun c hc => by
    obtain ⟨o, _, e, _⟩ := lc c hc
    obtain ⟨g, _⟩ := ok c _ e
    exact un.free c o g (less_in hc) (fun z => nomatch z)
  have nl : ∀ {b}, H b = none → less L H b = none ∧ L b = false := fun {b} n => by
    cases e : L b with
    | true => obtain ⟨o, _, e', _⟩ := lc b e; rw [n] at e'; cases e'
    | false => exact ⟨by rw [less_out e]; exact n, rfl⟩
  have nf : ∀ c, L c = true → c ∉ frs outer := fun c hc z => by
    obtain ⟨o, _, e', _⟩ := lc c hc
    rw [frf c z] at e'; cases e'
  refine ⟨v, more L H H', os, bare, ⟨fun b o e n hf hx => un.keep b o e (nl n).1 hf hx, fun b o e n hf hx => un.slot b o e (nl n).1 hf hx, fun b o e n hx => ?_, un.there, fun b xs e => ?_, fun b o x e => ?_, fun b ps e => ?_⟩,
    hok_more lc hok fr fun c o hc e => ?_, rv, q fr⟩
  · rw [more_out (nl n).2]; exact un.free b o e (nl n).1 hx
  · have hb := lc.out e fun _ _ z => by cases z
    rw [more_out hb]; exact un.tups b xs (by rw [less_out hb]; exact e)
  · cases hb : L b with
    | true => rw [more_in hb]; exact e
    | false => rw [more_out hb]; exact un.frzs b o x (by rw [less_out hb]; exact e)
  · have hb := lc.out e fun _ _ z => by cases z
    rw [more_out hb]; exact un.tbls b ps (by rw [less_out hb]; exact e)
  · obtain ⟨g, _⟩ := ok c _ e
    exact un.keep c o g (less_in hc) (nf c hc) (fun z => nomatch z)
theorem cx_more {L : Addr → Bool} {outer : List Env} {H : Hp} {s s' : Shared} {E : XK} {u : Value} (lc : LentC L H) (ok : HOk P w H s.heap) (frf : ∀ b ∈ frs outer, H b = none) (h : L2.CX P w outer (less L H) s (fun cls d H' => (∀ c, L c = true → H' c = none) → E cls d (more L H H')) u s') : L2.CX P w outer H s E u s' := by
  obtain ⟨a, B, H', cls, d, eu, fl, hok, ub, na, os, bare, q⟩ := h
  have fr : ∀ c, L c = true → H' c = none := fun c hc => by
    obtain ⟨o, _, e, _⟩ := lc c hc
    obtain ⟨g, _⟩ := ok c _ e
    exact ub.free c o g (less_in hc)
  have nl : ∀ {b}, H b = none → less L H b = none ∧ L b = false := fun {b} n => by
    cases e : L b with
    | true => obtain ⟨o, _, e', _⟩ := lc b e; rw [n] at e'; cases e'
    | false => exact ⟨by rw [less_out e]; exact n, rfl⟩
  have nf : ∀ c, L c = true → c ∉ frs outer := fun c hc z => by
    obtain ⟨o, _, e', _⟩ := lc c hc
    rw [frf c z] at e'; cases e'
  have inB : ∀ c o, L c = true → H c = some (.frz o (.own c)) → B.get? c = some o := fun c o hc e => by
    obtain ⟨g, _⟩ := ok c _ e
    exact ub.keep c o g (less_in hc) (nf c hc)
  have nLa : L a = false := by
    cases e : L a with
    | false => rfl
    | true =>
      obtain ⟨o, _, e', _⟩ := lc a e
      have := inB a o e e'
      rw [fl.2.1] at this; cases this
  refine ⟨a, B, more L H H', cls, d, eu, fl, hok_more lc hok fr inB, ⟨fun b o e n hf => ub.keep b o e (nl n).1 hf, ub.slot, fun b o e n => ?_, ub.there, fun b xs e => ?_, fun b o x e => ?_, fun b ps e => ?_⟩, by rw [more_out nLa]; exact na, os, bare, q fr⟩
  · rw [more_out (nl n).2]; exact ub.free b o e (nl n).1
  · have hb := lc.out e fun _ _ z => by cases z
    rw [more_out hb]; exact ub.tups b xs (by rw [less_out hb]; exact e)
  · cases hb : L b with
    | true => rw [more_in hb]; exact e
    | false => rw [more_out hb]; exact ub.frzs b o x (by rw [less_out hb]; exact e)
  · have hb := lc.out e fun _ _ z => by cases z
    rw [more_out hb]; exact ub.tbls b ps (by rw [less_out hb]; exact e)
end
end Iv
set_option Elab.async false
set_option linter.all false
set_option maxRecDepth 100000
set_option maxHeartbeats 2000000
set_option autoImplicit false
/-! Iv, part N: lambdas called and made. -/
namespace Iv
open PySem PySem.Spec PyProof.Rows L2
section
variable {P : Program} {w : World} {K : PySem.W.Frag} {mg : Str → Option Value} {base : Heap} {G : Gc} {Z : Addr → Prop} {φ φ' : List Addr} {μ μ' : Mu} {H H' H2 : Hp} {L : Addr → Bool}
theorem Go.grow (r : Rep G Z φ H μ) (k : ∀ b o, H b = some o → H2 b = some o) : Go Z φ μ H φ μ H2 :=
  ⟨fun _ _ h => h, ⟨fun a o h n _ => ⟨k a o h, n⟩⟩, fun a h => by
    obtain ⟨o, e, _⟩ := r.res a h
    rw [e, k a o e]⟩
theorem Rep.grow (r : Rep G Z φ H μ) (k : ∀ b o, H b = some o → H2 b = some o) : Rep G Z φ H2 μ where
  len := r.len
  one := r.one
  at_ := fun n a ob h1 h2 => (r.at_ n a ob h1 h2).mono (Go.grow r k) fun _ u e => k a u e
  res := fun a h => by
    obtain ⟨o, e, n⟩ := r.res a h
    exact ⟨o, k a o e, n⟩
  apart := r.apart
  tab := r.tab.ext k
theorem go_more (r' : Rep G Z φ' H' μ') (fr : ∀ c, L c = true → H' c = none) (g : Go Z φ μ (less L H) φ' μ' H') : Go Z φ μ H φ' μ' (more L H H') := by
  refine ⟨g.ph, ⟨fun a o h n t => ?_⟩, fun a h => ?_⟩
  · cases hb : L a with
    | true => exact ⟨by rw [more_in hb]; exact h, fun z => by
        obtain ⟨o2, e⟩ := r'.there z
        rw [fr a hb] at e; cases e⟩
    | false =>
      obtain ⟨k1, k2⟩ := g.ex.keep a o (by rw [less_out hb]; exact h) n t
      exact ⟨by rw [more_out hb]; exact k1, k2⟩
  · cases hb : L a with
    | true => rw [more_in hb]
    | false => rw [more_out hb, g.rs a h, less_out hb]
theorem more_grow (fr : ∀ c, L c = true → H' c = none) : ∀ b o, H' b = some o → more L H H' b = some o := fun b o e => by
  rw [more_out]
  · exact e
  · cases hb : L b with
    | false => rfl
    | true => rw [fr b hb] at e; cases e
theorem poF_more {E : XK} {Q : VK} {r : FR} (po : PoF G Z E φ μ H r Q) : PoF G Z (fun cls d H' => (∀ c, L c = true → H' c = none) → E cls d (more L H H')) φ μ (less L H) r (fun v H' => (∀ c, L c = true → H' c = none) → Q v (more L H H')) := by
  cases r with
  | bad => exact po
  | err c ns vs os =>
    intro H1 cls dx g r' er fr
    exact po _ cls dx (go_more r' fr g) (r'.grow (more_grow fr)) (er.mono (Go.grow r' (more_grow fr)).ex)
  | ok u os new =>
    cases new with
    | none => exact fun H1 v g r' rv fr => po _ v (go_more r' fr g) (r'.grow (more_grow fr)) (rv.mono (Go.grow r' (more_grow fr)))
    | some o => exact fun a H1 v g r' rv fr => po a _ v (go_more r' fr g) (r'.grow (more_grow fr)) (rv.mono (Go.grow r' (more_grow fr)))
/-- a lambda keeps its promise -/
structure LamOk (G : Gc) (P : Program) (w : World) (K : PySem.W.Frag) (mg : Str → Option Value) (base : Heap) (n k : Nat) (fn : Fn) : Prop where
  run : ∀ (A : Around) (outer : List Env) (s : Shared) (H : Hp) (a : Addr) (vs : List V) (ds : List D) (Z : Addr → Prop) (Q : VK) (E : XK), Room n A → Env0 P w K mg base A outer s H → CloAt G (Sof Z [] []) H k a vs → RpL G (Sof Z [] []) H ds vs →
    D.ncL ds = true → Rep G Z [] H [] → PoF G Z E [] [] H (fn (ds.map .d) []) Q → codeAny (model P w) A (.call (.ref a) ⟨[], []⟩) (CR (L2.CX P w) outer P w H s Q E) s
theorem rdS_ret {W : WX} {m : Sm U} {D : Ends} {σ : L2.St} (h : rdS G W (sRet m) D σ H) : rdE G W m σ H D.rt := by
  obtain ⟨Z, φ, ρ, μ, sr, po⟩ := h
  refine rd_mono (pos_step (R1 := RpU G) sr po) fun x H1 ⟨φ1, μ1, u, g1, sr1, ru, po1⟩ => ?_
  exact po1 φ1 H1 x Go.refl sr1.rep ru
theorem lam_ok {n k : Nat} {m : Sm U} {fresh : Bool} (F : LamF (G.lam k))
    (hbody : ∀ (A : Around) (outer : List Env) (s : Shared) (H : Hp) (E : XK) (f c' : Addr) (clo : List (Str × Addr)), Room n (A.deeper (cloEnv (G.lam k) clo s.heap.objs.size f c')) →
      PE (cloCx P w K mg base (G.lam k) clo f c' A outer s H E) (G.lam k).body (rdE G (fun cls d _ H => E cls d H) m)) : LamOk G P w K mg base (n + 1) k (entry (G.lam k).caps.length fresh (sRet m)) := by
  refine ⟨fun A outer s H a vs ds Z Q E hr e0 hclo rl nc rep po => ?_⟩
  obtain ⟨c', pm, ctv, fo, clo, nSa, ea, efo, nSc, ec, CF, CRr⟩ := hclo
  have lc := clo_lent CRr
  obtain ⟨ofa, _⟩ := e0.hok a _ ea
  subst efo
  obtain ⟨⟨oc, ws, t, hoc, hdc, hvc⟩, _, _⟩ := e0.hok c' _ ec
  have hlen : vs.length = (G.lam k).caps.length := cellsR_len CRr
  have repm : Rep G Z [] (less (lentB (G.lam k).caps clo) H) [] := by
    refine ⟨rfl, fun n m a o u h => (by cases h), fun n a o h => (by cases h), fun b hb => ?_, fun n a o h => (by cases h), tabs_less lc rep.tab⟩
    obtain ⟨o, e, nt⟩ := rep.res b hb
    refine ⟨o, ?_, nt⟩
    rw [less_out]
    · exact e
    · cases q : lentB (G.lam k).caps clo b with
      | false => rfl
      | true =>
        obtain ⟨i, x, hi, hx⟩ := lentB_of q
        obtain ⟨v, c2, o2, u, _, e2, nS, _⟩ := cellsR_at CRr hi
        rw [hx] at e2
        cases e2
        exact absurd (.inl hb) nS
  have sp : spD G (entry (G.lam k).caps.length fresh (sRet m)) (G.lam k).caps.length vs (less (lentB (G.lam k).caps clo) H) (fun v H' => (∀ c, lentB (G.lam k).caps clo c = true → H' c = none) → Q v (more (lentB (G.lam k).caps clo) H H'))
      (fun cls d H' => (∀ c, lentB (G.lam k).caps clo c = true → H' c = none) → E cls d (more (lentB (G.lam k).caps clo) H H')) := ⟨hlen, Z, [], [], ds.map .d, repm, (RpL.less lc nc rl).us, poF_more po⟩
  have hb := rdS_ret (entry_ok sp)
  have st : L2.start (G.lam k).caps vs = vs.map some := by
    unfold L2.start
    rw [hlen, Nat.sub_self, List.replicate_zero, List.append_nil]
  rw [st] at hb
  have rc : codeAny (model P w) A (.call (.ref a) ⟨[], []⟩) (CR (L2.CX P w) outer P w (less (lentB (G.lam k).caps clo) H) s (fun v H' => (∀ c, lentB (G.lam k).caps clo c = true → H' c = none) → Q v (more (lentB (G.lam k).caps clo) H H'))
      (fun cls d H' => (∀ c, lentB (G.lam k).caps clo c = true → H' c = none) → E cls d (more (lentB (G.lam k).caps clo) H H'))) s := by
    refine PySem.W.kla_callFunE hr.depth ofa rfl F.co F.gen rfl ⟨c', oc, ws, t, rfl, hoc, hdc, hvc⟩ ?_
    rw [F.bind]
    have lim : s.heap.NoLimit := e0.mod.nolimit.keeps fun b o e => (e0.bs b o e).1
    refine wpAny_pure (wpAny_newFunctionEnv (fun y hy => (F.own y hy).2) (fun y hy => absurd hy (by simp)) (fun h₁ hns hsb => ⟨lim.fresh _ hsb, ?_⟩) F.kind)
    show codeAny _ _ (.expr (G.lam k).body (cloEnv (G.lam k) clo s.heap.objs.size a c')) _ _
    have kp : ∀ b o, s.heap.get? b = some o → h₁.get? b = some o := fun b o e => hsb.extBut b o (Nat.ne_of_lt (Heap.lt_size e)) (Heap.get?_push_of_some _ e)
    have J := clo_start (f := a) (c' := c') (E := fun cls d H' => (∀ c, lentB (G.lam k).caps clo c = true → H' c = none) → E cls d (more (lentB (G.lam k).caps clo) H H')) (tk := s.toks + ([] : List (Str × Value)).length) F CF CRr e0 hr.hd hns kp
    refine PySem.W.kla_codeExpr (wpAny_mono ((hbody _ _ s _ _ a c' clo (hr.deeper _)).run [] _ _ _ _ J hb) (fun v s' hq => ?_) fun e s' hq => hq)
    obtain ⟨w', H', J', rv, q⟩ := hq
    exact ⟨w', H', J'.os, J'.bare, J'.base, J'.hok, rv, q⟩
  refine codeAny_mono rc fun r s' hq => ?_
  cases r with
  | error e => exact cx_more lc e0.hok e0.frf hq
  | ok fl =>
    cases fl with
    | ret u => exact ce_more lc e0.hok e0.frf hq
    | next => exact False.elim hq
    | brk => exact False.elim hq
    | cont => exact False.elim hq
end
/-! ### x(), x a lambda -/
theorem rep_all {G : Gc} {Z : Addr → Prop} {φ : List Addr} {μ : Mu} {H : Hp} (r : Rep G Z φ H μ) : Rep G (Sof Z φ μ) [] H [] := by
  refine ⟨rfl, fun n m a o u h => (by cases h), fun n a o h => (by cases h), fun b hb => ?_, fun n a o h => (by cases h), r.tab⟩
  rcases hb with hb | ⟨n, ob, h1, h2, h3⟩
  · exact r.res b hb
  · have q := r.at_ n b ob h1 h2
    cases ob with
    | fz x => cases h3
    | lst us => obtain ⟨vs, e, _⟩ := q; exact ⟨_, e, nr_lst⟩
    | dic ks us => obtain ⟨vs, e, _⟩ := q; exact ⟨_, e, nr_dK⟩
    | dit ks us => obtain ⟨vs, e, _⟩ := q; exact ⟨_, e, nr_dT⟩
    | ins c ns us => obtain ⟨dx, vs, e, _⟩ := q; exact ⟨_, e, nr_ins⟩
theorem sof_nil {Z : Addr → Prop} {μ : Mu} {a : Addr} (h : Sof Z [] μ a) : Z a := h.elim (fun z => z) fun ⟨n, ob, h1, _⟩ => by cases h1
theorem ex_all {Z : Addr → Prop} {φ : List Addr} {μ : Mu} {H : Hp} : Ex (Sof Z φ μ) H (Sof (Sof Z φ μ) [] []) H := ⟨fun a o h n _ => ⟨h, fun z => n (sof_nil z)⟩⟩
/-- behind a call that was handed nothing that may change -/
theorem all_back {G : Gc} {Z : Addr → Prop} {φ : List Addr} {μ μ' : Mu} {H H' : Hp} (r : Rep G Z φ H μ) (g : Go (Sof Z φ μ) [] [] H [] μ' H') (r' : Rep G (Sof Z φ μ) [] H' μ') : Go Z φ μ H φ μ H' ∧ Rep G Z φ H' μ := by
  have go : Go Z φ μ H φ μ H' := ⟨fun _ _ h => h, ⟨fun a o h n t => by
      obtain ⟨k1, k2⟩ := g.ex.keep a o h (fun z => n (sof_nil z)) t
      exact ⟨k1, fun z => k2 (.inl z)⟩⟩, fun a h => g.rs a (.inl h)⟩
  refine ⟨go, r.len, r.one, fun n a ob h1 h2 => (r.at_ n a ob h1 h2).mono go fun l o e => ?_, fun a h => ?_, r.apart, r'.tab⟩
  · rw [g.rs a (.inr ⟨n, ob, h1, h2, l⟩)]; exact e
  · obtain ⟨o, e, nt⟩ := r.res a h
    exact ⟨o, by rw [g.rs a (.inl h)]; exact e, nt⟩
/-- what comes back from a call that was handed nothing that may change -/
def retX : FR → Mu → Res U
  | .ok (.d d) [] none, μ => .ok (.d d) μ
  | .err c ns vs [], μ => .err c ns vs μ
  | _, _ => .bad
def vClo (LM : Nat → Fn) (i : Nat) : Sm U := fun ρ μ => match ρ[i]? with
  | some (some (.d (.clo k ds))) => if D.ncL ds = true then retX (LM k (ds.map .d) []) μ else .bad
  | _ => .bad
theorem retX_poF {G : Gc} {Z : Addr → Prop} {W : WX} {φ : List Addr} {μ : Mu} {H : Hp} {σ : L2.St} {Q : VK} {r : FR} (rp : Rep G Z φ H μ) (po : Po (RpU G) G Z W φ μ H σ (retX r μ) Q) : PoF G (Sof Z φ μ) (fun cls dx H' => W cls dx σ H') [] [] H r Q := by
  unfold retX at po
  split at po
  · intro H' v g r' rv
    obtain ⟨g2, r2⟩ := all_back rp g r'
    exact po φ H' v g2 r2 (Rp.mono (S' := Sof Z φ _) (H' := H') ⟨fun a o h n _ => ⟨h, fun z => n (.inl z)⟩⟩ rv)
  · intro H' cls dx g r' er
    obtain ⟨g2, r2⟩ := all_back rp g r'
    exact po φ H' cls dx g2 r2 (er.mono (S' := Sof Z φ _) (H' := H') ⟨fun a o h n _ => ⟨h, fun z => n (.inl z)⟩⟩)
  · exact False.elim po
section
variable {G : Gc} {X : Cx} {W : WX} {i n : Nat} {x : Str} {p1 p2 : Pos} {LM : Nat → Fn}
theorem i_clo (hL : ∀ k, LamOk G X.prog X.w X.K X.mg X.base n k (LM k)) (hr : Room n X.A) (tk : Takes X W) (hN : X.N[i]? = some x) (hv : Vis X.env.scope x) (hd : (x == ("__debug__" : Str)) = false := by decide) (hcd : (x == ("__classdict__" : Str)) = false := by decide) :
    PE X (.Call (.Name x p1) [] [] p2) (rdE G W (vClo LM i)) := by
  refine ⟨fun pins s σ H Q I ⟨Z, φ, ρ, μ, sr, po⟩ => ?_⟩
  unfold vClo at po
  split at po
  · rename_i k ds hρ
    split at po
    · rename_i hnc
      obtain ⟨y, hσ, rv⟩ := sr.sl.get hρ
      obtain ⟨a, c', pm, ctv, fo, clo, vs, rfl, nSa, ea, efo, nSc, ec, CF, CRr, rl⟩ := rv
      refine wpAny_Call_Name_kw (thn ((pe_var (pos := p1) (i := i) hN hv hd hcd).run pins s σ H (fun v H1 => v = .ref a ∧ H1 = H) I ⟨.ref a, hσ, rfl, rfl⟩) fun u s1 ⟨v, H1, I1, r1, q1⟩ => ?_)
      obtain ⟨ev, eH⟩ := q1
      subst ev
      rw [eH] at I1
      obtain rfl : u = Value.ref a := r1
      obtain ⟨ofa, _⟩ := I1.hok a _ ea
      have ofa' := ofa
      rw [efo] at ofa'
      refine PySem.W.callWith_F0 ⟨_, _, _, _, ofa'⟩ ?_
      have e := ex_all (Z := Z) (φ := φ) (μ := μ) (H := H)
      have ca : CloAt G (Sof (Sof Z φ μ) [] []) H k a vs := ⟨c', pm, ctv, fo, clo, fun z => nSa (sof_nil z), ea, efo, fun z => nSc (sof_nil z), ec, CF, CRr.mono e⟩
      refine wpAny_call (codeAny_mono ((hL k).run X.A X.stack s1 H a vs ds (Sof Z φ μ) Q (fun cls dx H' => W cls dx σ H') hr I1.env0 ca (RpL.mono e rl) hnc (rep_all sr.rep) (retX_poF sr.rep po)) fun r s' hq => ?_)
      cases r with
      | error e => exact passAt tk σ pins H s1 e s' I1 hq
      | ok fl =>
        cases fl with
        | ret u => exact I1.after hq
        | next => exact False.elim hq
        | brk => exact False.elim hq
        | cont => exact False.elim hq
    · exact False.elim po
  · exact False.elim po
end
end Iv
set_option Elab.async false
set_option linter.all false
set_option maxRecDepth 100000
set_option maxHeartbeats 2000000
set_option autoImplicit false
/-! Iv, part O: lambdas made, handed to a call. -/
namespace Iv
open PySem PySem.Spec PyProof.Rows L2 LamX
section
variable {X : Cx} {pins : List (Addr × Obj)} {σ : L2.St} {H : Hp} {s : Shared}
/-- a lambda is made: its object is new, and tracked -/
theorem lam_make3 {T : List (Addr × Str)} {c P : Addr} {params : Arguments} {body : Expr} {scope : Scope} {pos : Pos} {E : Value → Shared → Prop} {Q : Value → Shared → Prop} (I : L2.Inv X pins σ H s) (TB : TabB X.base X.mg c P) (hcode : X.env.code = .ref c)
    (hm : (P, X.env.qual ++ "<lambda>") ∈ T) (hu : ∀ p ∈ T, p.1 = P → p.2 = X.env.qual ++ "<lambda>") (hT : Tabs T H) (hdef : defaultsOf params X.env = ([], [])) (hfree : ∀ y ∈ scope.names, y.2 = .free → ∃ c, X.env.cells.lookup y.1 = some c)
    (h : ∀ (f c' : Addr) (pm ctv : Value) (H1 : Hp) (s' : Shared), L2.Inv X pins σ H1 s' → ExtN H H1 → Tabs T H1 → H f = none → H c' = none ∨ H c' = some (CodeO c' (X.env.qual ++ "<lambda>")) →
      H1 f = some (.frz (PySem.W.kla_obj "<lambda>" (X.env.qual ++ "<lambda>") params body scope (cloFrom X.env.cells scope.names []) pm c' ctv) (.own f)) → H1 c' = some (CodeO c' (X.env.qual ++ "<lambda>")) → Q (.ref f) s') :
    wpAny (model X.prog X.w) X.A (eval (.Lambda params body scope pos) X.env) Q E s := by
  obtain ⟨ps, hP, ht, ha⟩ := hT _ hm
  refine PySem.W.kla_eval hdef ?_
  have bP : s.heap.BuiltinsAt X.mg P := TB.bm.keeps I.bk
  have hP' : s.heap.get? P = some { cls := .none, data := .fields ps } := I.hok P _ hP
  have lay : ∀ {H1 : Hp} {h' : Heap} {tk tk2 : Tok} {fo : Obj} , L2.Inv X pins σ H1 { s with heap := h', toks := tk } → (h'.push fo).get? h'.objs.size = some fo → L2.Inv X pins σ (upd H1 h'.objs.size (.frz fo (.own h'.objs.size))) { s with heap := h'.push fo, toks := tk2 } := fun {H1 h' tk tk2 fo} J hf =>
    J.laid (h' := h'.push fo) (t' := tk2) (fun b o e => Heap.get?_push_of_some _ e) (Nat.le_refl _) ⟨hf, ⟨fo, hf⟩⟩
  have grow : ∀ {H1 : Hp} {f : Addr} {o : HO}, H1 f = none → ∀ b u, H1 b = some u → upd H1 f o b = some u := fun {H1 f o} hn b u e => by rw [upd_ne (ne_of_none e hn)]; exact e
  cases hc : codeAmong pos ps.toList with
  | none =>
    refine PySem.W.kla_makeFunction (mg := X.mg) (c := c) (P := P) (ps := ps) (closure_ok hfree) I.ok.glob (I.mod.glob.keeps I.bk) hcode (TB.code.keeps I.bk) hP' ht hc TB.gP bP fun c' ctv h' tk hx hge hlt hrec htb => ?_
    obtain ⟨c2, oc, vs, t, e2, hoc, hd, hv⟩ := hrec
    cases e2
    have hsz : s.heap.objs.size ≤ h'.objs.size := Nat.le_trans hge (Nat.le_of_lt hlt)
    have nC : H c' = none := I.hok.fresh hge
    have I1 := inv_table (t' := tk) (more := #[rawInt pos.line, rawInt pos.col, .ref c']) (h' := h') I hP (fun b o hb e => hx b o hb e) htb hge ⟨oc, vs, t, hoc, hd, hv⟩
    have hE : ExtN H (upd (upd H P (.tbl (ps ++ #[rawInt pos.line, rawInt pos.col, .ref c']))) c' (CodeO c' (X.env.qual ++ "<lambda>"))) := fun b o e n => by
      rw [upd_ne (ne_of_none e nC), upd_ne (fun z => n ps (Option.some.inj (e.symm.trans (by rw [z]; exact hP))))]
      exact e
    have eL : (ps ++ #[rawInt pos.line, rawInt pos.col, .ref c']).toList = ps.toList ++ [rawInt pos.line, rawInt pos.col, .ref c'] := by simp
    have nF : upd (upd H P (.tbl (ps ++ #[rawInt pos.line, rawInt pos.col, .ref c']))) c' (CodeO c' (X.env.qual ++ "<lambda>")) h'.objs.size = none := I1.hok.fresh (Nat.le_refl _)
    have hT1 : Tabs T (upd (upd H P (.tbl (ps ++ #[rawInt pos.line, rawInt pos.col, .ref c']))) c' (CodeO c' (X.env.qual ++ "<lambda>"))) := fun p hp => by
      by_cases hb : p.1 = P
      · rw [hu p hp hb, hb]
        refine ⟨_, by rw [upd_ne (ne_of_none hP nC), upd_same], by rw [eL]; exact PySem.TriplesOk_snoc _ _ _ _ ht, fun p' cv hcv => ?_⟩
        rw [eL] at hcv
        rcases among_app _ ht hcv with z | z
        · obtain ⟨c0, e1, e2⟩ := ha p' cv z
          exact ⟨c0, e1, hE _ _ e2 codeO_ne⟩
        · exact ⟨c', z, upd_same⟩
      · obtain ⟨ps', a1, a2, a3⟩ := hT p hp
        refine ⟨ps', by rw [upd_ne (ne_of_none a1 nC), upd_ne hb]; exact a1, a2, fun p' cv hcv => ?_⟩
        obtain ⟨c0, e1, e2⟩ := a3 p' cv hcv
        exact ⟨c0, e1, hE _ _ e2 codeO_ne⟩
    refine h h'.objs.size c' ((X.mg "__name__").getD .none) ctv _ _ (lay (tk2 := tk) I1 (Heap.get?_push_size _ rfl)) (ExtN.trans hE (ExtN.of (grow nF))) (hT1.ext (grow nF)) (I.hok.fresh hsz) (.inl nC) upd_same (grow nF _ _ upd_same)
  | some cv =>
    obtain ⟨c', e, hco⟩ := ha pos cv hc
    subst e
    refine PySem.W.kla_makeFunctionHit (mg := X.mg) (c := c) (P := P) (ps := ps) (closure_ok hfree) I.ok.glob (I.mod.glob.keeps I.bk) hcode (TB.code.keeps I.bk) hP' ht hc bP fun ctv h' tk hx hsz => ?_
    have I1 : L2.Inv X pins σ H { s with heap := h', toks := tk } := I.kept fun b o e => hx b o e
    have nF : H h'.objs.size = none := I.hok.fresh hsz
    exact h h'.objs.size c' ((X.mg "__name__").getD .none) ctv _ _ (lay (tk2 := tk) I1 (Heap.get?_push_size _ rfl)) (ExtN.of (grow nF)) (hT.ext (grow nF)) nF (.inr hco) upd_same (grow nF _ _ hco)
end
section
variable {P : Program} {w : World} {K : PySem.W.Frag} {mg : Str → Option Value} {base : Heap} {G : Gc} {H Hc : Hp} {L : Addr → Bool}
/-- a call's end, the lent cells taken back -/
theorem ce_less {outer : List Env} {s s' : Shared} {Q : VK} {u : Value} (lcc : LentC L Hc) (fr : ∀ c, L c = true → H c = none) (hs : ∀ c o, L c = true → Hc c = some (.frz o (.own c)) → s.heap.get? c = some o)
    (h : CE outer P w (more L Hc H) s (fun v H' => (∀ c, L c = true → H' c = Hc c) ∧ Q v (less L H')) u s') : CE outer P w H s Q u s' := by
  obtain ⟨v, H', os, bare, un, hok, rv, hL, q⟩ := h
  have lc : LentC L H' := fun c hc => by
    obtain ⟨o, x, e, d⟩ := lcc c hc
    exact ⟨o, x, (hL c hc).trans e, d⟩
  have at_ : ∀ b, L b = true → ∃ o, s.heap.get? b = some o ∧ s'.heap.get? b = some o := fun b hb => by
    obtain ⟨o, x, e, d⟩ := lcc b hb
    obtain ⟨g, _⟩ := hok b _ ((hL b hb).trans e)
    exact ⟨o, hs b o hb e, g⟩
  have up : ∀ {b : Addr} {o : HO}, H b = some o → L b = false := fun {b o} e => by
    cases z : L b with
    | false => rfl
    | true => rw [fr b z] at e; cases e
  refine ⟨v, less L H', os, bare, ⟨fun b o e n hf hx => ?_, fun b o e n hf hx => ?_, fun b o e n hx => ?_, un.there, fun b xs e => ?_, fun b o x e => ?_, fun b ps e => ?_⟩, hok_less lc hok, rv, q⟩
  · cases hb : L b with
    | true =>
      obtain ⟨o', g1, g2⟩ := at_ b hb
      rw [e] at g1
      cases g1
      exact g2
    | false => exact un.keep b o e (by rw [more_out hb]; exact n) hf hx
  · cases hb : L b with
    | true =>
      obtain ⟨o', g1, g2⟩ := at_ b hb
      rw [e] at g1
      cases g1
      exact ⟨o.slots, g2⟩
    | false => exact un.slot b o e (by rw [more_out hb]; exact n) hf hx
  · cases hb : L b with
    | true => exact less_in hb
    | false => rw [less_out hb]; exact un.free b o e (by rw [more_out hb]; exact n) hx
  · rw [less_out (up e)]; exact un.tups b xs (by rw [more_out (up e)]; exact e)
  · rw [less_out (up e)]; exact un.frzs b o x (by rw [more_out (up e)]; exact e)
  · rw [less_out (up e)]; exact un.tbls b ps (by rw [more_out (up e)]; exact e)
theorem cx_less {outer : List Env} {s s' : Shared} {E : XK} {u : Value} (lcc : LentC L Hc) (fr : ∀ c, L c = true → H c = none) (hs : ∀ c o, L c = true → Hc c = some (.frz o (.own c)) → s.heap.get? c = some o)
    (h : L2.CX P w outer (more L Hc H) s (fun cls d H' => (∀ c, L c = true → H' c = Hc c) ∧ E cls d (less L H')) u s') : L2.CX P w outer H s E u s' := by
  obtain ⟨a, B, H', cls, d, eu, fl, hok, ub, na, os, bare, hL, q⟩ := h
  have lc : LentC L H' := fun c hc => by
    obtain ⟨o, x, e, d⟩ := lcc c hc
    exact ⟨o, x, (hL c hc).trans e, d⟩
  have at_ : ∀ b, L b = true → ∃ o, s.heap.get? b = some o ∧ B.get? b = some o := fun b hb => by
    obtain ⟨o, x, e, d⟩ := lcc b hb
    obtain ⟨g, _⟩ := hok b _ ((hL b hb).trans e)
    exact ⟨o, hs b o hb e, g⟩
  have up : ∀ {b : Addr} {o : HO}, H b = some o → L b = false := fun {b o} e => by
    cases z : L b with
    | false => rfl
    | true => rw [fr b z] at e; cases e
  refine ⟨a, B, less L H', cls, d, eu, fl, hok_less lc hok, ⟨fun b o e n hf => ?_, ub.slot, fun b o e n => ?_, ub.there, fun b xs e => ?_, fun b o x e => ?_, fun b ps e => ?_⟩, ?_, os, bare, q⟩
  · cases hb : L b with
    | true =>
      obtain ⟨o', g1, g2⟩ := at_ b hb
      rw [e] at g1
      cases g1
      exact g2
    | false => exact ub.keep b o e (by rw [more_out hb]; exact n) hf
  · cases hb : L b with
    | true => exact less_in hb
    | false => rw [less_out hb]; exact ub.free b o e (by rw [more_out hb]; exact n)
  · rw [less_out (up e)]; exact ub.tups b xs (by rw [more_out (up e)]; exact e)
  · rw [less_out (up e)]; exact ub.frzs b o x (by rw [more_out (up e)]; exact e)
  · rw [less_out (up e)]; exact ub.tbls b ps (by rw [more_out (up e)]; exact e)
  · cases hb : L a with
    | true => exact less_in hb
    | false => rw [less_out hb]; exact na
end
/-! ### f(lambda: .., e, ..) -/
def capU (ρ : Rho) : List Nat → Option (List U)
  | [] => some []
  | j :: js => match ρ[j]? with
    | some (some u) => (capU ρ js).map fun us => u :: us
    | _ => none
/-- what comes back from a call that was lent cells -/
def retY : FR → Mu → Res U
  | .ok (.d d) [] none, μ => if d.nc = true then .ok (.d d) μ else .bad
  | .err c ns vs [], μ => if D.ncL vs = true then .err c ns vs μ else .bad
  | _, _ => .bad
def vCallLam (fn : Fn) (k : Nat) (js : List Nat) (n : Nat) (ix : List Nat) (ds : List D) (m : Sm (List U)) : Sm U := fun ρ μ => (m ρ μ).bind fun us μ1 => match capU ρ js with
  | none => .bad
  | some cs => match frzL (cs ++ us) μ1 with
    | none => .bad
    | some (xs, μ2) => if us.length + 1 = n ∧ D.ncL (xs.take js.length) = true then retY (fn ((ixL ix ((.clo k (xs.take js.length) :: xs.drop js.length) ++ ds)).map .d) []) μ2 else .bad
/-- a closure's object and its code -/
def CloB (G : Gc) (S : Addr → Prop) (H : Hp) (k : Nat) (clo : List (Str × Addr)) (a : Addr) : Prop := ∃ (c' : Addr) (pm ctv : Value), ¬ S a ∧
  H a = some (.frz (PySem.W.kla_obj "<lambda>" (G.lam k).qual (G.lam k).params (G.lam k).body (G.lam k).scope clo pm c' ctv) (.own a)) ∧ ¬ S c' ∧ H c' = some (LamX.CodeO c' (G.lam k).qual)
section
variable {G : Gc} {X : Cx} {W : WX} {k n lk : Nat} {f : Addr} {fd : FuncData} {ps : List Str} {fn : Fn} {ix js : List Nat} {ds : List D} {x : Str} {p pos pos2 : Pos} {es : List Expr} {m : Sm (List U)}
theorem CloB.mono {S S' : Addr → Prop} {H H' : Hp} {clo : List (Str × Addr)} {a : Addr} (e : Ex S H S' H') (h : CloB G S H k clo a) : CloB G S' H' k clo a := by
  obtain ⟨c', pm, ctv, h1, h2, h3, h4⟩ := h
  exact ⟨c', pm, ctv, (e.keep a _ h2 h1 nt_frz).2, (e.keep a _ h2 h1 nt_frz).1, (e.keep c' _ h4 h3 nt_code).2, (e.keep c' _ h4 h3 nt_code).1⟩
theorem capU_ok {φ : List Addr} {S : Addr → Prop} {H : Hp} {ρ : Rho} {σ : L2.St} (sl : Sls G φ S H ρ σ) : ∀ {js : List Nat} {cs : List U}, capU ρ js = some cs → ∃ vs, RpUs G φ S H cs vs ∧ vs.length = js.length ∧ ∀ (i j : Nat), js[i]? = some j → ∃ v, vs[i]? = some v ∧ σ[j]? = some (some v)
  | [], _, h => by cases h; exact ⟨[], rfl, rfl, fun i j h => by cases h⟩
  | j :: js, cs, h => by
    unfold capU at h
    split at h
    · rename_i u hu
      obtain ⟨us, h1, rfl⟩ := Option.map_eq_some_iff.mp h
      obtain ⟨vs, q1, q2, q3⟩ := capU_ok sl h1
      obtain ⟨v, e1, e2⟩ := sl.get hu
      refine ⟨v :: vs, ⟨v, vs, rfl, e2, q1⟩, congrArg Nat.succ q2, fun i j' hi => ?_⟩
      cases i with
      | zero => cases hi; exact ⟨v, rfl, e1⟩
      | succ i => exact q3 i j' hi
    · cases h
theorem RpL.split {S : Addr → Prop} {H : Hp} : ∀ {xs : List D} {as bs : List V}, RpL G S H xs (as ++ bs) → RpL G S H (xs.take as.length) as ∧ RpL G S H (xs.drop as.length) bs
  | xs, [], bs, h => by exact ⟨rfl, h⟩
  | [], a :: as, bs, h => by cases (show (a :: as) ++ bs = [] from h)
  | x :: xs, a :: as, bs, ⟨v, r, e, q1, q2⟩ => by
    have e1 : a = v ∧ as ++ bs = r := by injection e with e1 e2; exact ⟨e1, e2⟩
    obtain ⟨e1, e2⟩ := e1
    subst e1; subst e2
    obtain ⟨z1, z2⟩ := RpL.split q2
    exact ⟨⟨a, as, rfl, q1, z1⟩, z2⟩
theorem cellsR_mk {S : Addr → Prop} {H : Hp} {clo : List (Str × Addr)} : ∀ {xs : List Str} {vs : List V}, vs.length = xs.length → (∀ (i : Nat) (y : Str), xs[i]? = some y → ∃ v c o u, vs[i]? = some v ∧ clo.lookup y = some c ∧ ¬ S c ∧ H c = some (.frz o (.own c)) ∧ o.data = .cell (some u) ∧ RelV v u) → CellsR S H clo xs vs
  | [], vs, hl, _ => List.eq_nil_of_length_eq_zero hl
  | y :: xs, [], hl, _ => nomatch hl
  | y :: xs, v :: vs, hl, h => by
    obtain ⟨v', c, o, u, e1, e2, e3, e4, e5, e6⟩ := h 0 y rfl
    cases e1
    exact ⟨v, vs, c, o, u, rfl, e2, e3, e4, e5, e6, cellsR_mk (Nat.succ.inj hl) fun i z hz => h (i + 1) z hz⟩
/-- f(lambda: .., e, ..), names captured: cells of this frame -/
theorem i_callLam {c P : Addr} (F : FnI G X.prog X.w X.K X.mg X.base k f fd ps fn) (hr : Room k X.A) (hg : Gl X x) (hm : X.mg x = some (.ref f)) (hk : PySem.W.keepIn X.K (.ref f) = true) (hb : BindA G X.K fd ps n [] ix ds) (tk : Takes X W)
    (hq : (G.lam lk).qual = X.env.qual ++ "<lambda>") (LF : LamF (G.lam lk)) (TB : TabB X.base X.mg c P) (hcode : X.env.code = .ref c) (hT : (P, X.env.qual ++ "<lambda>") ∈ G.T) (hu : ∀ p ∈ G.T, p.1 = P → p.2 = X.env.qual ++ "<lambda>")
    (hcl : ∀ y ∈ (G.lam lk).caps, X.env.scope.names.lookup y = some .cell) (hjs : ∀ (i : Nat) (y : Str), (G.lam lk).caps[i]? = some y → ∃ j : Nat, js[i]? = some j ∧ X.N[j]? = some y) (hjl : js.length = (G.lam lk).caps.length) (hfn : ∀ y, X.fn y = true)
    (ha : PA X es (rdA G W m)) (hdef : defaultsOf (G.lam lk).params X.env = ([], []) := by rfl) (hl : ix.length = ps.length := by decide) (hix : ix.all (· < n + 0 + ds.length) = true := by decide) (hdb : (x == ("__debug__" : Str)) = false := by decide)
    (he : starEach (.Lambda (G.lam lk).params (G.lam lk).body (G.lam lk).scope pos2 :: es) X.env = (false, eval (.Lambda (G.lam lk).params (G.lam lk).body (G.lam lk).scope pos2) X.env) :: starEach es X.env := by rfl) (hpl : (backTo pos (starEach es X.env)).any (·.1) = false := by rfl) :
    PE X (.Call (.Name x p) (.Lambda (G.lam lk).params (G.lam lk).body (G.lam lk).scope pos2 :: es) [] pos) (rdE G W (vCallLam fn lk js n ix ds m)) := by
  refine ⟨fun pins s σ H Q I h => ?_⟩
  refine wpAny_Call_Name_kw (ld_glob I hg hm ?_ hdb)
  obtain ⟨clo, eclo⟩ : ∃ clo, clo = cloFrom X.env.cells (G.lam lk).scope.names [] := ⟨_, rfl⟩
  have hcell : ∀ y ∈ (G.lam lk).caps, ∃ c, X.env.cells.lookup y = some c := fun y hy => I.ok.has y (.inl (hcl y hy))
  have hfree : ∀ y ∈ (G.lam lk).scope.names, y.2 = .free → ∃ c, X.env.cells.lookup y.1 = some c := fun y hy e => hcell _ (LF.free y hy e)
  have cm : ∀ {y c}, clo.lookup y = some c → y ∈ (G.lam lk).caps ∧ X.env.cells.lookup y = some c := fun {y c} e => by
    rw [eclo] at e
    rcases cloFrom_mem (PySem.mem_of_lookup e) with hm | ⟨h1, h2⟩
    · cases hm
    · have hy := LF.free _ h1 rfl
      obtain ⟨c1, hc⟩ := hcell _ hy
      have hc : X.env.cells.lookup y = some c1 := hc
      have e2 : c = c1 := by rw [h2, hc] <;> rfl
      exact ⟨hy, by rw [e2]; exact hc⟩
  have look : ∀ {y}, y ∈ (G.lam lk).caps → ∃ c, clo.lookup y = some c ∧ X.env.cells.lookup y = some c := fun {y} hy => by
    have hm : (y, NameKind.free) ∈ (G.lam lk).scope.names := PySem.mem_of_lookup (LF.all y hy)
    obtain ⟨c, hc⟩ := mem_lookup (cloFrom_has (cells := X.env.cells) (acc := []) hm)
    rw [← eclo] at hc
    exact ⟨c, hc, (cm hc).2⟩
  have CF : CloF (G.lam lk).caps clo := ⟨fun y c e => (cm e).1, fun y z c e1 e2 => I.ok.inj y z c (cm e1).2 (cm e2).2⟩
  -- the arguments
  have h2 : tCons (fun σ H Q => LamX.Tabs G.T H ∧ ∀ (a c' : Addr) (pm ctv : Value) (H1 : Hp), ExtN H H1 → LamX.Tabs G.T H1 → H a = none → H c' = none ∨ H c' = some (LamX.CodeO c' (X.env.qual ++ "<lambda>")) →
        H1 a = some (.frz (PySem.W.kla_obj "<lambda>" (X.env.qual ++ "<lambda>") (G.lam lk).params (G.lam lk).body (G.lam lk).scope clo pm c' ctv) (.own a)) → H1 c' = some (LamX.CodeO c' (X.env.qual ++ "<lambda>")) → Q (.ref a) H1) (rdA G W m) σ H
      (fun vs H1 => ∃ (a : Addr) (ws : List V) (Z : Addr → Prop) (φ : List Addr) (ρ : Rho) (μ : Mu) (us : List U), vs = .ref a :: ws ∧ SR G Z φ H1 μ ρ σ ∧ RpUs G φ (Sof Z φ μ) H1 us ws ∧ CloB G (Sof Z φ μ) H1 lk clo a ∧
        Po (RpU G) G Z W φ μ H1 σ (match capU ρ js with
          | none => .bad
          | some cs => match frzL (cs ++ us) μ with
            | none => .bad
            | some (xs, μ2) => if us.length + 1 = n ∧ D.ncL (xs.take js.length) = true then retY (fn ((ixL ix ((.clo lk (xs.take js.length) :: xs.drop js.length) ++ ds)).map .d) []) μ2 else .bad) Q) := by
    obtain ⟨Z, φ, ρ, μ, sr, po⟩ := h
    refine ⟨sr.rep.tab, fun a c' pm ctv H1 ext tab na nc ea ec => ?_⟩
    have go : Go Z φ μ H φ μ H1 := ⟨fun _ _ h => h, ⟨fun b o e n t => ⟨ext b o e t, n⟩⟩, fun b hz => by
      obtain ⟨o, e, t⟩ := sr.rep.res b hz
      rw [e, ext b o e t.1]⟩
    have rep1 : Rep G Z φ H1 μ := ⟨sr.rep.len, sr.rep.one, fun n b ob h1 h2 => (sr.rep.at_ n b ob h1 h2).mono go fun l o e => by
        have q := sr.rep.at_ n b ob h1 h2
        cases ob with
        | fz x => cases l
        | lst us => obtain ⟨vs, e1, _⟩ := q; rw [e] at e1; cases e1; exact ext b _ e nt_lst
        | dic ks us => obtain ⟨vs, e1, _⟩ := q; rw [e] at e1; cases e1; exact ext b _ e nt_dK
        | dit ks us => obtain ⟨vs, e1, _⟩ := q; rw [e] at e1; cases e1; exact ext b _ e nt_dT
        | ins c ns us => obtain ⟨dx, vs, e1, _⟩ := q; rw [e] at e1; cases e1; exact ext b _ e nt_ins,
      fun b hz => by
        obtain ⟨o, e, t⟩ := sr.rep.res b hz
        exact ⟨o, ext b o e t.1, t⟩, sr.rep.apart, tab⟩
    have nS : ∀ {b : Addr}, H b = none → ¬ Sof Z φ μ b := fun {b} e z => by
      obtain ⟨o, ho⟩ := sr.rep.there z
      rw [e] at ho; cases ho
    have nSc : ¬ Sof Z φ μ c' := fun z => by
      rcases nc with nc | nc
      · exact nS nc z
      · rcases z with z | ⟨n, ob, h1, h2, h3⟩
        · obtain ⟨o, e, t⟩ := sr.rep.res c' z
          rw [nc] at e
          exact t.2 _ _ (Option.some.inj e).symm
        · have q := sr.rep.at_ n c' ob h1 h2
          cases ob with
          | fz x => cases h3
          | lst us => obtain ⟨vs, e1, _⟩ := q; rw [nc] at e1; unfold LamX.CodeO at e1; cases e1
          | dic ks us => obtain ⟨vs, e1, _⟩ := q; rw [nc] at e1; unfold LamX.CodeO at e1; cases e1
          | dit ks us => obtain ⟨vs, e1, _⟩ := q; rw [nc] at e1; unfold LamX.CodeO at e1; cases e1
          | ins c ns us => obtain ⟨dx, vs, e1, _⟩ := q; rw [nc] at e1; unfold LamX.CodeO at e1; cases e1
    have sr1 : SR G Z φ H1 μ ρ σ := sr.go go rep1
    have cb : CloB G (Sof Z φ μ) H1 lk clo a := ⟨c', pm, ctv, nS na, by rw [hq]; exact ea, nSc, by rw [hq]; exact ec⟩
    refine rd_mono (po_step (R1 := RpUs G) sr1 (Po.go go po)) fun ws H2 ⟨φ2, μ2, us, g2, sr2, rus, po2⟩ => ⟨a, ws, Z, φ2, ρ, μ2, us, rfl, sr2, rus, cb.mono g2.ex, po2⟩
  have peL : PE X (.Lambda (G.lam lk).params (G.lam lk).body (G.lam lk).scope pos2) (fun σ H Q => LamX.Tabs G.T H ∧ ∀ (a c' : Addr) (pm ctv : Value) (H1 : Hp), ExtN H H1 → LamX.Tabs G.T H1 → H a = none → H c' = none ∨ H c' = some (LamX.CodeO c' (X.env.qual ++ "<lambda>")) →
        H1 a = some (.frz (PySem.W.kla_obj "<lambda>" (X.env.qual ++ "<lambda>") (G.lam lk).params (G.lam lk).body (G.lam lk).scope clo pm c' ctv) (.own a)) → H1 c' = some (LamX.CodeO c' (X.env.qual ++ "<lambda>")) → Q (.ref a) H1) :=
    ⟨fun pins s σ H Q I ⟨tab, kk⟩ => lam_make3 I TB hcode hT hu tab hdef hfree fun f c' pm ctv H1 s' J ext tab1 na nc ea ec => ⟨.ref f, H1, J, rfl, kk f c' pm ctv H1 ext tab1 na nc (by rw [eclo]; exact ea) ec⟩⟩
  refine PySem.W.callWith_K (h₀ := X.base) I.ok.mod.kin hk (thn ((pa_cons peL ha he).run pos pins s σ H _ I h2) fun us s1 ⟨vs, H1, I1, r, q⟩ => ⟨I1.kIn, ?_⟩) he hpl
  obtain ⟨a, ws, Z, φ, ρ, μ, us', evs, sr, rus, cb, po⟩ := q
  subst evs
  split at po
  · exact False.elim po
  rename_i cs hcs
  split at po
  · exact False.elim po
  rename_i xs μ2 hfz
  split at po
  · rename_i hcond
    obtain ⟨hlen, hnc⟩ := hcond
    obtain ⟨cvs, q1, q2, q3⟩ := capU_ok sr.sl hcs
    obtain ⟨Fz, rl⟩ := frzL_ok hfz sr.rep (q1.app rus)
    obtain ⟨rl1, rl2⟩ := rl.split
    rw [q2] at rl1 rl2
    obtain ⟨L, eL⟩ : ∃ L, L = lentB (G.lam lk).caps clo := ⟨_, rfl⟩
    obtain ⟨Hc, eHc⟩ : ∃ Hc : Hp, Hc = fun b => (s1.heap.get? b).map fun o => .frz o (.own b) := ⟨_, rfl⟩
    have cellAt : ∀ (i : Nat) (y : Str), (G.lam lk).caps[i]? = some y → ∃ v c o u, cvs[i]? = some v ∧ clo.lookup y = some c ∧ X.env.cells.lookup y = some c ∧ s1.heap.get? c = some o ∧ o.data = .cell (some u) ∧ RelV v u := fun i y hi => by
      have hy := List.mem_of_getElem? hi
      obtain ⟨j, hj, hN⟩ := hjs i y hi
      obtain ⟨v, hv, hσ⟩ := q3 i j hj
      obtain ⟨mm, hn, hl2⟩ := I1.loc
      obtain ⟨u, rv, lk2⟩ := hl2 j y v hN hσ (.inr (.inl (hcl y hy)))
      obtain ⟨c, h1, h2⟩ := look hy
      rcases lk2 with ⟨k1, _⟩ | ⟨_, c2, k2, o, k3, k4⟩
      · have k1 : X.env.scope.names.lookup y = some .local := k1
        rw [hcl y hy] at k1
        cases k1
      · rw [h2] at k2
        cases k2
        exact ⟨v, c, o, u, hv, h1, h2, k3, k4, rv⟩
    have inL : ∀ c, L c = true → ∃ y o u, X.env.cells.lookup y = some c ∧ s1.heap.get? c = some o ∧ o.data = .cell (some u) := fun c hc => by
      rw [eL] at hc
      obtain ⟨i, y, hi, hy⟩ := lentB_of hc
      obtain ⟨v, c2, o, u, _, e1, e2, e3, e4, _⟩ := cellAt i y hi
      rw [hy] at e1
      cases e1
      exact ⟨y, o, u, e2, e3, e4⟩
    have fr : ∀ c, L c = true → H1 c = none := fun c hc => by
      obtain ⟨y, o, u, e1, _⟩ := inL c hc
      exact I1.freeC y c e1
    have lcc : LentC L Hc := fun c hc => by
      obtain ⟨y, o, u, _, e2, e3⟩ := inL c hc
      exact ⟨o, u, by rw [eHc]; show (s1.heap.get? c).map _ = _; rw [e2]; rfl, e3⟩
    have hs : ∀ c o, L c = true → Hc c = some (.frz o (.own c)) → s1.heap.get? c = some o := fun c o _ e => by
      rw [eHc] at e
      obtain ⟨o', e1, e2⟩ := Option.map_eq_some_iff.mp (show (s1.heap.get? c).map (fun o => HO.frz o (.own c)) = some (.frz o (.own c)) from e)
      cases e2
      exact e1
    have new : ∀ c, L c = true → X.s_0.heap.objs.size ≤ c ∧ c ≠ X.env.locals := fun c hc => by
      obtain ⟨y, o, u, e1, _⟩ := inL c hc
      exact ⟨I1.ok.cab y c (hfn y) e1, I1.cne y c e1⟩
    have e0 : Env0 X.prog X.w X.K X.mg X.base X.A X.stack s1 (more L Hc H1) := by
      have ev := I1.env0
      refine ⟨ev.frames, ev.mod, fun b o e => ⟨(ev.bs b o e).1, ?_⟩, ev.bsz, ev.funs, fun b hb => ?_, hok_more lcc I1.hok fr hs, ev.bare⟩
      · cases hb : L b with
        | false => rw [more_out hb]; exact (ev.bs b o e).2
        | true =>
          exact absurd (Nat.lt_of_lt_of_le (Heap.lt_size e) (Nat.le_trans I1.ok.bsz (new b hb).1)) (Nat.lt_irrefl _)
      · cases hb2 : L b with
        | false => rw [more_out hb2]; exact ev.frf b hb
        | true =>
          exfalso
          obtain ⟨h1, h2⟩ := new b hb2
          rcases List.mem_cons.mp (I1.stkSub _ hb) with e | e
          · exact h2 e
          · obtain ⟨_, o, ho, _⟩ := I1.ok.funs.mem e
            exact absurd (Nat.lt_of_lt_of_le (Heap.lt_size ho) h1) (Nat.lt_irrefl _)
    have repP : Rep G (Sof Z φ μ2) [] (more L Hc H1) [] := (rep_all Fz.rep).grow (more_grow fr)
    have eP : Ex (Sof Z φ μ2) H1 (Sof (Sof Z φ μ2) [] []) (more L Hc H1) := ex_all.trans (Go.grow (rep_all Fz.rep) (more_grow fr)).ex
    have rclo : Rp G (Sof (Sof Z φ μ2) [] []) (more L Hc H1) (.clo lk (xs.take js.length)) (.ref a) := by
      obtain ⟨c', pm, ctv, k1, k2, k3, k4⟩ := (cb.mono Fz.go.ex).mono eP
      refine ⟨a, c', pm, ctv, _, clo, cvs, rfl, k1, k2, rfl, k3, k4, CF, cellsR_mk (by rw [q2, hjl]) fun i y hi => ?_, RpL.mono eP rl1⟩
      obtain ⟨v, c, o, u, e1, e2, e3, e4, e5, e6⟩ := cellAt i y hi
      have hL : L c = true := by rw [eL]; exact lentB_mk (List.mem_of_getElem? hi) e2
      refine ⟨v, c, o, u, e1, e2, fun z => ?_, ?_, e5, e6⟩
      · obtain ⟨o2, ho2⟩ := Fz.rep.there (sof_nil z)
        rw [fr c hL] at ho2
        cases ho2
      · rw [more_in hL, eHc]
        show (s1.heap.get? c).map _ = _
        rw [e4]
        rfl
    obtain ⟨dvs, dus, r3, rd, to⟩ := hb.ex
    have rall : RpL G (Sof (Sof Z φ μ2) [] []) (more L Hc H1) ((.clo lk (xs.take js.length) :: xs.drop js.length) ++ ds) ((V.ref a :: ws) ++ dvs) := RpL.app ⟨.ref a, ws, rfl, rclo, RpL.mono eP rl2⟩ (rd _ _)
    have lws : ws.length + 1 = n := by rw [rus.length]; exact hlen
    have lxs : (xs.drop js.length).length = ws.length := (RpL.length rl2).symm
    have hn : (ixL ix ((V.ref a :: ws) ++ dvs)).length = ps.length := by
      rw [ixL_len, hl]
      rw [List.length_append, List.length_cons, lws, (rd (fun _ => False) (fun _ => none)).length]
      exact hix
    have hpo : PoF G (Sof Z φ μ2) (fun cls dx H' => (∀ c, L c = true → H' c = Hc c) ∧ W cls dx σ (less L H')) [] [] (more L Hc H1) (fn ((ixL ix ((.clo lk (xs.take js.length) :: xs.drop js.length) ++ ds)).map .d) []) (fun v H' => (∀ c, L c = true → H' c = Hc c) ∧ Q v (less L H')) := by
      have back : ∀ {H' : Hp}, Go (Sof Z φ μ2) [] [] (more L Hc H1) [] (obs []) H' → Rep G (Sof Z φ μ2) [] H' (obs []) → (∀ c, L c = true → H' c = Hc c) ∧ LentC L H' ∧ Go Z φ μ2 H1 φ μ2 (less L H') ∧ Rep G Z φ (less L H') μ2 ∧ Ex (Sof (Sof Z φ μ2) [] (obs [])) (less L H') (Sof Z φ μ2) (less L H') := fun {H'} g r' => by
        have k1 : ∀ c, L c = true → H' c = Hc c := fun c hc => by
          obtain ⟨o, u, e, _⟩ := lcc c hc
          have nS : ¬ Sof (Sof Z φ μ2) [] [] c := fun z => by
            obtain ⟨o2, ho2⟩ := Fz.rep.there (sof_nil z)
            rw [fr c hc] at ho2
            cases ho2
          rw [e]
          exact (g.ex.keep c _ (by rw [more_in hc]; exact e) nS nt_frz).1
        have k2 : LentC L H' := fun c hc => by
          obtain ⟨o, u, e, d⟩ := lcc c hc
          exact ⟨o, u, (k1 c hc).trans e, d⟩
        have up : ∀ {b : Addr} {o : HO}, H1 b = some o → L b = false := fun {b o} e => by
          cases z : L b with
          | false => rfl
          | true => rw [fr b z] at e; cases e
        have k3 : Go Z φ μ2 H1 φ μ2 (less L H') := ⟨fun _ _ h => h, ⟨fun b o e nS t => by
            obtain ⟨z1, z2⟩ := g.ex.keep b o (by rw [more_out (up e)]; exact e) (fun z => nS (sof_nil z)) t
            exact ⟨by rw [less_out (up e)]; exact z1, fun z => z2 (.inl z)⟩⟩, fun b hb => by
            obtain ⟨o, e, _⟩ := Fz.rep.res b hb
            rw [less_out (up e), g.rs b (.inl hb), more_out (up e)]⟩
        refine ⟨k1, k2, k3, ⟨Fz.rep.len, Fz.rep.one, fun n b ob h1 h2 => (Fz.rep.at_ n b ob h1 h2).mono k3 fun l o e => ?_, fun b hb => ?_, Fz.rep.apart, tabs_less k2 r'.tab⟩, ⟨fun b o e nS _ => ⟨e, fun z => nS (.inl z)⟩⟩⟩
        · rw [less_out (up e), g.rs b (.inr ⟨n, ob, h1, h2, l⟩), more_out (up e)]
          exact e
        · obtain ⟨o, e, t⟩ := Fz.rep.res b hb
          exact ⟨o, by rw [less_out (up e), g.rs b (.inl hb), more_out (up e)]; exact e, t⟩
      clear hq
      generalize fn ((ixL ix ((.clo lk (xs.take js.length) :: xs.drop js.length) ++ ds)).map .d) [] = fres at po
      unfold retY at po
      split at po
      · split at po
        · rename_i hd
          intro H' v g r' rv
          obtain ⟨k1, k2, k3, k4, k5⟩ := back g r'
          exact ⟨k1, po φ _ v (Fz.go.trans k3) k4 (Rp.mono k5 (Rp.less k2 hd rv))⟩
        · exact False.elim po
      · split at po
        · rename_i hd
          intro H' cls dx g r' er
          obtain ⟨k1, k2, k3, k4, k5⟩ := back g r'
          refine ⟨k1, po φ _ cls dx (Fz.go.trans k3) k4 ⟨er.1, er.2.elim (fun z => .inl z) fun ⟨d, ws, z1, z2, z3, z4, z5⟩ => .inr ⟨d, ws, z1, ?_, ?_, z4, RpL.mono k5 (RpL.less k2 hd z5)⟩⟩⟩
          · exact fun z => z2 (.inl z)
          · rw [less_out (k2.out z3 fun _ _ q => by cases q)]; exact z3
        · exact False.elim po
      · exact False.elim po
    have hsp : spD G fn ps.length (ixL ix ((V.ref a :: ws) ++ dvs)) (more L Hc H1) (fun v H' => (∀ c, L c = true → H' c = Hc c) ∧ Q v (less L H')) (fun cls dx H' => (∀ c, L c = true → H' c = Hc c) ∧ W cls dx σ (less L H')) :=
      ⟨hn, Sof Z φ μ2, [], [], _, repP, (rall.ixs ix).us, hpo⟩
    have lus : us.length = n := by rw [← r.length, List.length_cons]; exact lws
    have r2 : Vals (ixL ix ((V.ref a :: ws) ++ dvs)) (ixL ix (us ++ [] ++ dus)) := vals_ix ((by rw [List.append_nil]; exact r : Vals (V.ref a :: ws) (us ++ [])).append r3) ix
    refine wpAny_call (codeAny_mono (F.run X.A X.stack s1 (more L Hc H1) ⟨us, []⟩ _ _ _ _ hr e0 (to s1 us [] I1.kIn lus rfl) r2 hsp) fun r s' hq => ?_)
    cases r with
    | error e => exact passAt tk σ pins H1 s1 e s' I1 (cx_less lcc fr hs hq)
    | ok fl =>
      cases fl with
      | ret u => exact I1.after (ce_less lcc fr hs hq)
      | next => exact False.elim hq
      | brk => exact False.elim hq
      | cont => exact False.elim hq
  · exact False.elim po
/-- .. the lambda as the text has it -/
theorem i_callLm {c P : Addr} {params : Arguments} {body : Expr} {scope : Scope} (e1 : params = (G.lam lk).params) (e2 : body = (G.lam lk).body) (e3 : scope = (G.lam lk).scope)
    (F : FnI G X.prog X.w X.K X.mg X.base k f fd ps fn) (hr : Room k X.A) (hg : Gl X x) (hm : X.mg x = some (.ref f)) (hk : PySem.W.keepIn X.K (.ref f) = true) (hb : BindA G X.K fd ps n [] ix ds) (tk : Takes X W)
    (hq : (G.lam lk).qual = X.env.qual ++ "<lambda>") (LF : LamF (G.lam lk)) (TB : TabB X.base X.mg c P) (hcode : X.env.code = .ref c) (hT : (P, X.env.qual ++ "<lambda>") ∈ G.T) (hu : ∀ p ∈ G.T, p.1 = P → p.2 = X.env.qual ++ "<lambda>")
    (hcl : ∀ y ∈ (G.lam lk).caps, X.env.scope.names.lookup y = some .cell) (hjs : ∀ (i : Nat) (y : Str), (G.lam lk).caps[i]? = some y → ∃ j : Nat, js[i]? = some j ∧ X.N[j]? = some y) (hjl : js.length = (G.lam lk).caps.length) (hfn : ∀ y, X.fn y = true)
    (ha : PA X es (rdA G W m)) (hdef : defaultsOf params X.env = ([], []) := by rfl) (hl : ix.length = ps.length := by decide) (hix : ix.all (· < n + 0 + ds.length) = true := by decide) (hdb : (x == ("__debug__" : Str)) = false := by decide)
    (he : starEach (.Lambda params body scope pos2 :: es) X.env = (false, eval (.Lambda params body scope pos2) X.env) :: starEach es X.env := by rfl) (hpl : (backTo pos (starEach es X.env)).any (·.1) = false := by rfl) :
    PE X (.Call (.Name x p) (.Lambda params body scope pos2 :: es) [] pos) (rdE G W (vCallLam fn lk js n ix ds m)) := by
  subst e1 e2 e3
  exact i_callLam F hr hg hm hk hb tk hq LF TB hcode hT hu hcl hjs hjl hfn ha hdef hl hix hdb he hpl
end
end Iv
set_option Elab.async false
set_option linter.all false
set_option maxRecDepth 100000
set_option maxHeartbeats 2000000
set_option autoImplicit false
/-! Iv, part P: defs by the head's facts. -/
namespace Iv
open PySem PySem.Spec PyProof.Rows L2

/-- the function object's data at a def's place -/
def fdAt (K : PySem.W.Frag) (a : Addr) : FuncData := match K.lookup a with
  | some ⟨_, _, .func fd, _⟩ => fd
  | _ => default
theorem fdAt_of {K : PySem.W.Frag} {x qual : Str} {params : Arguments} {body : List Stmt} {scope : Scope} {dvs : List V} {kws : List (Str × V)} {f : Addr} (h : ∃ fd, FunD K x qual params body scope dvs kws f fd) : FunD K x qual params body scope dvs kws f (fdAt K f) := by
  obtain ⟨fd, F⟩ := h
  have e : fdAt K f = fd := by
    obtain ⟨oc, od, dV, kV, doc, pm, an, cdv, ct, osl, rfl, lk, _⟩ := F.ex
    unfold fdAt
    rw [lk]
  rw [e]
  exact F
section
variable {P : Program} {w : World} {K : PySem.W.Frag} {mg : Str → Option Value} {base : Heap} {G : Gc} {x qual : Str} {params : Arguments} {body : List Stmt} {scope : Scope} {dvs : List V} {kws : List (Str × V)} {fd : FuncData} {N ps ks : List Str} {n k : Nat} {ix : List Nat}
theorem BindA.ofD {f : Addr} (F : FunD K x qual params body scope [] kws f fd)
    (h : ∀ (kV doc pm : Value) (an : Option Addr) (cdv ct : Value) (us ws : List Value), us.length = n → ws.length = ks.length → bindArgs (PySem.W.fnOf x qual params body scope .none kV doc pm an cdv ct) ⟨us, ks.zip ws⟩ = pure (ps.zip (ixL ix (us ++ ws)))) : BindA G K fd ps n ks ix [] := by
  obtain ⟨oc, od, dV, kV, doc, pm, an, cdv, ct, osl, rfl, lk, hcd, hD, hK⟩ := F.ex
  rcases hD with ⟨_, rfl⟩ | ⟨e, _⟩
  · exact ⟨[], [], .nil, fun _ _ => rfl, fun s us ws _ h1 h2 => .of_eq (by rw [List.append_nil]; exact h kV doc pm an cdv ct us ws h1 h2)⟩
  · exact absurd rfl e
/-- .. with defaults: ix counts the values, the keywords' values, all the defaults -/
theorem BindA.ofDD {f : Addr} {ds : List D} (F : FunD K x qual params body scope dvs kws f fd) (hd : dvs ≠ []) (hds : ∀ (S : Addr → Prop) (H : Hp), RpL G S H ds dvs)
    (h : ∀ (T : Addr) (kV doc pm : Value) (an : Option Addr) (cdv ct : Value) (us ws its : List Value), us.length = n → ws.length = ks.length → its.length = dvs.length →
      ∃ k, bindArgs (PySem.W.fnOf x qual params body scope (.ref T) kV doc pm an cdv ct) ⟨us, ks.zip ws⟩ = seqItems? (.ref T) >>= k ∧ k (some its.toArray) = pure (ps.zip (ixL ix (us ++ ws ++ its)))) : BindA G K fd ps n ks ix ds := by
  obtain ⟨oc, od, dV, kV, doc, pm, an, cdv, ct, osl, rfl, lk, hcd, hD, hK⟩ := F.ex
  rcases hD with ⟨e, _⟩ | ⟨_, T, o, its, m, rfl, lT, oT, rT⟩
  · exact absurd e hd
  · refine ⟨dvs, its, rT, hds, fun s us ws X l1 l2 => ?_⟩
    obtain ⟨k, e1, e2⟩ := h T kV doc pm an cdv ct us ws its l1 l2 rT.length.symm
    refine BindsTo.of_looks fun M => ?_
    rw [e1]
    exact looks_items X lT oT (.of_pure e2)
/-- A DEF'S PROMISE from its body -/
theorem FnI.of {p : Str × Option Str} {fresh : Bool} {b : SmS} (F : FunD K x qual params body scope dvs kws (He.fAd K p) fd) (S : FnScope N ps scope)
    (hbody : ∀ (A : Around) (outer : List Env) (s : Shared) (H : Hp) (E : XK), Room n (A.deeper (envOfC qual scope s.heap.objs.size (He.fAd K p) (.ref (He.codeOf K p)))) →
      PSs (cxOf (L2.CX P w) P w K mg base N qual scope (He.fAd K p) (.ref (He.codeOf K p)) A outer s H E) body (rdS G (fun cls d _ H => E cls d H) b)) : FnI G P w K mg base (n + 1) (He.fAd K p) fd ps (entry N.length fresh b) := by
  obtain ⟨oc, od, dV, kV, doc, pm, an, cdv, ct, osl, rfl, lk, hcd, _, _⟩ := F.ex
  obtain ⟨c, rfl⟩ := He.codeIn_ref hcd
  have ec : He.codeOf K p = c := He.codeOf_eq lk rfl
  refine fn_of lk hcd S (fun vs H Q E h => h.1) fun A outer s H vs Q E hr hsp => ?_
  have hb := hbody A outer s H E
  rw [ec] at hb
  exact ⟨_, hb hr, entry_ok hsp⟩
theorem FnI.zero {f : Addr} : FnI G P w K mg base k f fd ps (fun _ _ => .bad) := ⟨fun vs H Q E h => h.1, fun A outer s H args us vs Q E hr e0 hb r ⟨_, Z, φ, os, us', _, _, po⟩ => False.elim po⟩
theorem LamOk.zero {j : Nat} : LamOk G P w K mg base k j (fun _ _ => .bad) := ⟨fun A outer s H a vs ds Z Q E hr e0 ca rl nc rep po => False.elim po⟩
end
/-! ### names -/
section
variable {G : Gc} {X : Cx} {W : WX} {pos : Pos}
theorem iv (i : Nat) {x : Str} (hN : X.N[i]? = some x := by rfl) (hv : Vis X.env.scope x := by first | exact Or.inl rfl | exact Or.inr (Or.inl rfl) | exact Or.inr (Or.inr rfl)) (hd : (x == ("__debug__" : Str)) = false := by decide) (hcd : (x == ("__classdict__" : Str)) = false := by decide) :
    PE X (.Name x pos) (rdE G W (vVar i)) := i_var hN hv hd hcd
theorem i_gstr {x z : Str} (hm : ∃ t, X.mg x = some (.str z t)) (hg : Gl X x := by rfl) (hd : (x == ("__debug__" : Str)) = false := by decide) : PE X (.Name x pos) (rdE G W (vC (.str z))) := by
  obtain ⟨t, e⟩ := hm
  exact i_glob (v := .str z) hg e ⟨t, rfl⟩ rfl hd
theorem i_gint {x : Str} {z : Int} (hm : ∃ t, X.mg x = some (.int z t)) (hg : Gl X x := by rfl) (hd : (x == ("__debug__" : Str)) = false := by decide) : PE X (.Name x pos) (rdE G W (vC (.int z))) := by
  obtain ⟨t, e⟩ := hm
  exact i_glob (v := .int z) hg e ⟨t, rfl⟩ rfl hd
/-- a built-in type's name, an own class's name: what isinstance is asked for -/
theorem e_ty {x : Str} {n : String} (hm : X.mg x = none) (hg : Gl X x := by rfl) (hv : bootBuiltins x = some (.type n) := by rfl) (hn : x ≠ "__name__" := by decide) (hd : (x == ("__debug__" : Str)) = false := by decide) : PE X (.Name x pos) (tC (.ty n)) := pe_bltn hg hm hv rfl hn hd
theorem e_cls {x : Str} {a : Addr} (hm : X.mg x = some (.ref a)) (hg : Gl X x := by rfl) (hd : (x == ("__debug__" : Str)) = false := by decide) : PE X (.Name x pos) (tC (.ref a)) := pe_glob hg hm rfl hd
theorem op_isX : OpR X (compareOp .Is) (fun x y H Q => (y = .non ∧ Q (.bl (decide (x = .non))) H) ∨ rIsB x y H Q) := op_isN.or op_isBl
theorem op_isnX : OpR X (compareOp .IsNot) (fun x y H Q => (y = .non ∧ Q (.bl (!decide (x = .non))) H) ∨ rNotB x y H Q) := op_notN.or op_notBl
end
/-! ### facts by a Bool -/
def oexB (K : PySem.W.Frag) (C : Addr) : Bool := (match K.lookup C with
  | some ⟨.type t, _, .cls cd, sl⟩ => (match cd.mro, sl.toList with
    | .ref C' :: bm, [_, _, _, _, some (.builtin n), _] => t == "type" && (C' == C && (n == "ValueError.__new__" && (!cd.hasDel && (cd.hasDict && PySem.HandSPX.refsVE bm))))
    | _, _ => false)
  | _ => false) && (He.eqO (PySem.W.findIn K (.ref C) "__setattr__") (some (some (.builtin "object.__setattr__"))) && (decide (PySem.W.subIn K (.ref C) (.type "BaseException") = some true) && (decide (PySem.W.typeIn K (.ref C) = some (.type "type")) && PySem.W.keepIn K (.ref C))))
theorem oexB_ok {K : PySem.W.Frag} {C : Addr} (h : oexB K C = true) : OexC K C := by
  obtain ⟨h1, h⟩ := Bool.and_eq_true_iff.mp h
  obtain ⟨h2, h⟩ := Bool.and_eq_true_iff.mp h
  obtain ⟨h3, h⟩ := Bool.and_eq_true_iff.mp h
  obtain ⟨h4, h5⟩ := Bool.and_eq_true_iff.mp h
  refine ⟨?_, He.eqO_ok h2, of_decide_eq_true h3, of_decide_eq_true h4, h5⟩
  split at h1
  · rename_i t dd cd sl ho
    split at h1
    · rename_i C' bm k0 k1 k2 k3 n k5 hm hs
      simp only [Bool.and_eq_true, beq_iff_eq, Bool.not_eq_true'] at h1
      obtain ⟨rfl, rfl, rfl, hdel, hdc, hr⟩ := h1
      obtain ⟨nm, bs, mro, ns, qn, hd, sn, sub, ab, col, del⟩ := cd
      dsimp only at hm hdel hdc
      subst hm hdel hdc
      have hsl : sl = #[k0, k1, k2, k3, some (.builtin "ValueError.__new__"), k5] := by
        obtain ⟨l⟩ := sl
        simp only at hs
        rw [hs]
      subst hsl
      exact ⟨nm, qn, ns, bs, bm, sn, sub, ab, col, dd, k0, k1, k2, k3, k5, ho, hr⟩
    · cases h1
  · cases h1
def excCB (K : PySem.W.Frag) (C : Addr) : Bool := He.eqO (PySem.W.findIn K (.ref C) "__getattribute__") (some (some (.builtin "BaseException.__getattribute__"))) && (He.eqO (PySem.W.findIn K (.ref C) "__getattr__") (some none) && (decide (PySem.W.subIn K (.ref C) (.type "BaseException") = some true) && (PySem.W.hasDictIn K C &&
  (He.eqO (PySem.W.findIn K (.ref C) "__class__") (some (some (.builtin "object.__class__"))) && (He.eqO (PySem.W.specialIn K (.builtin "object.__class__") "__get__") (some (some (.builtin "getset_descriptor.__get__"))) && (decide (PySem.W.takesIn K (.builtin "object.__class__") = some true) && decide (PySem.W.mroIn K C (.type "object") = some true)))))))
theorem excCB_ok {K : PySem.W.Frag} {C : Addr} (h : excCB K C = true) : ExcC K C := by
  obtain ⟨h1, h⟩ := Bool.and_eq_true_iff.mp h
  obtain ⟨h2, h⟩ := Bool.and_eq_true_iff.mp h
  obtain ⟨h3, h⟩ := Bool.and_eq_true_iff.mp h
  obtain ⟨h4, h⟩ := Bool.and_eq_true_iff.mp h
  obtain ⟨h5, h⟩ := Bool.and_eq_true_iff.mp h
  obtain ⟨h6, h⟩ := Bool.and_eq_true_iff.mp h
  obtain ⟨h7, h8⟩ := Bool.and_eq_true_iff.mp h
  exact ⟨He.eqO_ok h1, He.eqO_ok h2, of_decide_eq_true h3, h4, He.eqO_ok h5, He.eqO_ok h6, of_decide_eq_true h7, of_decide_eq_true h8⟩
/-- kitOne's answer -/
def kitB' (K : PySem.W.Frag) (t c : Value) (b : Bool) : Bool := decide (PySem.W.kitOne K t c = some b)
theorem kitB_ok {K : PySem.W.Frag} {t c : Value} {b : Bool} (h : kitB' K t c b = true) : PySem.W.kitOne K t c = some b := of_decide_eq_true h
def exmB (K : PySem.W.Frag) (t c : Value) (b : Bool) : Bool := decide (PySem.W.exmOne K t c = some b)
theorem exmB_ok {K : PySem.W.Frag} {t c : Value} {b : Bool} (h : exmB K t c b = true) : PySem.W.exmOne K t c = some b := of_decide_eq_true h
/-- an own class that no built-in type is under -/
def kitsB (K : PySem.W.Frag) (C : Addr) : Bool := ["NoneType", "bool", "int", "str", "tuple", "list"].all fun n => kitB' K (.type n) (.ref C) false
theorem kitsB_ok {K : PySem.W.Frag} {C : Addr} (h : kitsB K C = true) : ∀ n, n ∈ ["NoneType", "bool", "int", "str", "tuple", "list"] → PySem.W.kitOne K (.type n) (.ref C) = some false := fun n hn => kitB_ok (List.all_eq_true.mp h n hn)
/-- an exception's __init__ -/
def initB (K : PySem.W.Frag) (C f : Addr) : Bool := He.eqO (PySem.W.findIn K (.ref C) "__init__") (some (some (.ref f))) && decide (PySem.W.typeIn K (.ref f) = some (.type "function"))
theorem initB_ok {K : PySem.W.Frag} {C f : Addr} (h : initB K C f = true) : PySem.W.findIn K (.ref C) "__init__" = some (some (.ref f)) ∧ PySem.W.typeIn K (.ref f) = some (.type "function") := ⟨He.eqO_ok (Bool.and_eq_true_iff.mp h).1, of_decide_eq_true (Bool.and_eq_true_iff.mp h).2⟩
theorem room65 {k : Nat} {A : Around} (r : Room k A) : A.units + 65 < cLine := by have := r.un; omega
/-! ### parts of the text -/
def sSub : Stmt → Nat → Stmt
  | .FunctionDef _ _ b _ _ _ _ _ _ _, i => b.getD i (.Pass ⟨0, 0, 0, 0⟩)
  | .For _ _ b _ _, i => b.getD i (.Pass ⟨0, 0, 0, 0⟩)
  | .While _ b _ _, i => b.getD i (.Pass ⟨0, 0, 0, 0⟩)
  | .If _ b _ _, i => b.getD i (.Pass ⟨0, 0, 0, 0⟩)
  | .Try b _ _ _ _, i => b.getD i (.Pass ⟨0, 0, 0, 0⟩)
  | s, _ => s
def sEls : Stmt → Nat → Stmt
  | .If _ _ b _, i => b.getD i (.Pass ⟨0, 0, 0, 0⟩)
  | s, _ => s
def sExp : Stmt → Expr
  | .If e _ _ _ => e
  | .While e _ _ _ => e
  | .For _ e _ _ _ => e
  | .Return (some e) _ => e
  | .Assign _ e _ => e
  | .Expr e _ => e
  | _ => .Constant .none 0 ⟨0, 0, 0, 0⟩
def eArg : Expr → Nat → Expr
  | .Call _ as _ _, i => as.getD i (.Constant .none 0 ⟨0, 0, 0, 0⟩)
  | .BoolOp _ vs _, i => vs.getD i (.Constant .none 0 ⟨0, 0, 0, 0⟩)
  | .UnaryOp _ e _, _ => e
  | .BinOp a _ _ _, 0 => a
  | .BinOp _ _ b _, _ => b
  | .Compare a _ _ _, 0 => a
  | .Compare _ _ bs _, i + 1 => bs.getD i (.Constant .none 0 ⟨0, 0, 0, 0⟩)
  | .IfExp a _ _ _, 0 => a
  | .IfExp _ b _ _, 1 => b
  | .IfExp _ _ c _, _ => c
  | .Tuple es _ _, i => es.getD i (.Constant .none 0 ⟨0, 0, 0, 0⟩)
  | .List es _, i => es.getD i (.Constant .none 0 ⟨0, 0, 0, 0⟩)
  | e, _ => e
def lamPs : Expr → Arguments
  | .Lambda ps _ _ _ => ps
  | _ => default
def lamBd : Expr → Expr
  | .Lambda _ b _ _ => b
  | e => e
def lamSc : Expr → Scope
  | .Lambda _ _ s _ => s
  | _ => default
/-- where the captured names stand -/
theorem caps_at {caps N : List Str} {js : List Nat} (h : (caps.zip js).all (fun p => decide (N[p.2]? = some p.1)) = true ∧ js.length = caps.length) : ∀ (i : Nat) (y : Str), caps[i]? = some y → ∃ j : Nat, js[i]? = some j ∧ N[j]? = some y := fun i y hy => by
  obtain ⟨h1, h2⟩ := h
  have hi := (List.getElem?_eq_some_iff.mp hy).1
  have hj : i < js.length := by rw [h2]; exact hi
  refine ⟨js[i], List.getElem?_eq_getElem hj, ?_⟩
  have hm : (y, js[i]) ∈ caps.zip js := by
    refine List.mem_of_getElem? (i := i) ?_
    rw [List.getElem?_zip_eq_some]
    exact ⟨hy, List.getElem?_eq_getElem hj⟩
  exact of_decide_eq_true (List.all_eq_true.mp h1 _ hm)
/-! ### the law's start -/
theorem law_start {G : Gc} {K : PySem.W.Frag} {H : Hp} {a : Addr} {ns : List Int} {fn : Fn} (hK : G.K = K) (hT : LamX.Tabs G.T H) (hS : SqL K H a (ns.map V.int)) (h : fn [.d (.lst (ns.map D.int))] [] = .ok (.d (.bl true)) [] none) :
    spD G fn 1 [.ref a] H (fun v _ => v = .bl true) (fun _ _ _ => False) := by
  have aI : ∀ ns : List Int, RpL G (Sof (fun _ => False) [] []) H (ns.map D.int) (ns.map V.int) := fun ns => by
    induction ns with
    | nil => exact rfl
    | cons n ns ih => exact ⟨.int n, _, rfl, rfl, ih⟩
  refine ⟨rfl, fun _ => False, [], [], [.d (.lst (ns.map D.int))], ⟨rfl, fun n m a o u h => (by cases h), fun n a o h => (by cases h), fun a h => h.elim, fun n a o h => (by cases h), hT⟩, ⟨.ref a, [], rfl, ⟨a, ns.map V.int, rfl, ?_, aI ns⟩, rfl⟩, ?_⟩
  · subst hK
    rcases hS with hS | hS
    · exact .inl ⟨fun z => (sof_nil z).elim, hS⟩
    · exact .inr hS
  · rw [h]
    exact fun H' v _ _ rv => rv
end Iv
set_option Elab.async false
set_option linter.all false
set_option maxRecDepth 100000
set_option maxHeartbeats 2000000
set_option autoImplicit false
/-! Iv, part S: what meanings answer: tools for the plain laws. -/
namespace Iv
open PySem PySem.Spec PyProof.Rows L2
theorem ev_bind {α β : Type} (a : α) (μ : Mu) (f : α → Mu → Res β) : (Res.ok a μ).bind f = f a μ := rfl
theorem ev_berr {α β : Type} (c : Nat) (ns : List Str) (vs : List D) (μ : Mu) (f : α → Mu → Res β) : (Res.err c ns vs μ : Res α).bind f = .err c ns vs μ := rfl
theorem ev_then {α : Type} (a : α) (μ : Mu) (ρ : Rho) (f : α → Mu → RS) : (Res.ok a μ).thenS ρ f = f a μ := rfl
theorem ev_terr {α : Type} (c : Nat) (ns : List Str) (vs : List D) (μ : Mu) (ρ : Rho) (f : α → Mu → RS) : (Res.err c ns vs μ : Res α).thenS ρ f = .err c ns vs ρ μ := rfl
/-! ### data that freezes to itself -/
theorem OD.us_ob (o : OD) : ∃ ds : List D, o.ob.us = ds.map .d ∧ (o.ob.live = true → o.ob.re ds = o.ob) := by
  cases o with
  | fz x => exact ⟨[], rfl, fun h => nomatch h⟩
  | lst l => exact ⟨l, rfl, fun _ => rfl⟩
  | dic ks vs => exact ⟨vs, rfl, fun _ => rfl⟩
  | dit ks vs => exact ⟨vs, rfl, fun _ => rfl⟩
  | ins c ns vs => exact ⟨vs, rfl, fun _ => rfl⟩
theorem set_self {μ : Mu} {i : Nat} {ob : Ob} (h : μ[i]? = some ob) : μ.set i ob = μ := by
  apply List.ext_getElem?
  intro j
  by_cases e : i = j
  · subst e
    rw [h, List.getElem?_set_self (List.getElem?_eq_some_iff.mp h).1]
  · rw [List.getElem?_set_ne e]
theorem clean_d {μ : Mu} {i : Nat} {o : OD} (h : μ[i]? = some o.ob) : clean i μ = some μ := by
  unfold clean
  rw [h]
  dsimp only
  by_cases hl : o.ob.live = true
  · rw [if_pos hl]
    obtain ⟨ds, e1, e2⟩ := o.us_ob
    rw [e1, frzL_d]
    dsimp only
    rw [h]
    dsimp only
    rw [if_pos hl, e2 hl, set_self h]
  · rw [if_neg hl]
theorem cleans_d {os : List OD} {ex : Mu} : ∀ k, k ≤ os.length → cleans k (obs os ++ ex) = some (obs os ++ ex)
  | 0, _ => rfl
  | k + 1, h => by
    show (match cleans k (obs os ++ ex) with | some μ1 => clean k μ1 | none => none) = _
    rw [cleans_d k (Nat.le_of_succ_le h)]
    have hk : k < os.length := h
    refine clean_d (o := os[k]) ?_
    rw [List.getElem?_append_left (by rw [List.length_map]; exact hk), List.getElem?_map, List.getElem?_eq_getElem hk]
    rfl
theorem take_obs {os : List OD} {ex : Mu} : (obs os ++ ex).take os.length = obs os := by
  rw [List.take_append_of_le_length (by rw [List.length_map]; exact Nat.le_refl _), List.take_of_length_le (by rw [List.length_map]; exact Nat.le_refl _)]
/-- a def's ends: data handed back; nothing; an error -/
theorem ex_ret {os : List OD} {ex : Mu} {d : D} : exitF os.length false (.ret (.d d) (obs os ++ ex)) = .ok (.d d) os none := by
  unfold exitF finF
  dsimp only
  rw [if_neg Bool.false_ne_true]
  rw [cleans_d _ (Nat.le_refl _)]
  dsimp only
  rw [take_obs, readOs_obs]
theorem ex_nx {os : List OD} {ex : Mu} {ρ : Rho} {b : Bool} : exitF os.length b (.nx ρ (obs os ++ ex)) = .ok (.d .non) os none := by
  unfold exitF finF
  dsimp only
  rw [cleans_d _ (Nat.le_refl _)]
  dsimp only
  rw [take_obs, readOs_obs]
theorem ex_err {os : List OD} {ex : Mu} {ρ : Rho} {b : Bool} {c : Nat} {ns : List Str} {vs : List D} : exitF os.length b (.err c ns vs ρ (obs os ++ ex)) = .err c ns vs os := by
  unfold exitF
  dsimp only
  rw [cleans_d _ (Nat.le_refl _)]
  dsimp only
  rw [take_obs, readOs_obs]
/-! ### calls -/
/-- nothing that may change is handed over -/
theorem pass_d : ∀ (fl : List Bool) (ds : List D) (μ : Mu) (ns : List Nat), pass fl (ds.map .d) μ ns = some (ds.map .d, ns, μ)
  | fl, [], μ, ns => by cases fl <;> rfl
  | [], d :: ds, μ, ns => by
    show (match pass [] (ds.map .d) μ ns with | some (ws, ns2, μ2) => some (U.d d :: ws, ns2, μ2) | none => none) = _
    rw [pass_d [] ds μ ns]
    rfl
  | true :: fl, d :: ds, μ, ns => by
    show (match pass fl (ds.map .d) μ ns with | some (ws, ns2, μ2) => some (U.d d :: ws, ns2, μ2) | none => none) = _
    rw [pass_d fl ds μ ns]
    rfl
  | false :: fl, d :: ds, μ, ns => by
    show (match pass fl (ds.map .d) μ ns with | some (ws, ns2, μ2) => some (U.d d :: ws, ns2, μ2) | none => none) = _
    rw [pass_d fl ds μ ns]
    rfl
theorem call_d {f : Fn} {fl : List Bool} {ds : List D} {μ : Mu} {d : D} (h : f (ds.map .d) [] = .ok (.d d) [] none) : callL f fl (ds.map .d) μ = .ok (.d d) μ := by
  unfold callL
  rw [pass_d]
  dsimp only
  rw [if_pos List.nodup_nil]
  show back [] μ (f (ds.map .d) []) = _
  rw [h]
  rfl
theorem call_de {f : Fn} {fl : List Bool} {ds : List D} {μ : Mu} {c : Nat} {ns : List Str} {vs : List D} (h : f (ds.map .d) [] = .err c ns vs []) : callL f fl (ds.map .d) μ = .err c ns vs μ := by
  unfold callL
  rw [pass_d]
  dsimp only
  rw [if_pos List.nodup_nil]
  show back [] μ (f (ds.map .d) []) = _
  rw [h]
  rfl
/-- the first argument is handed over as itself -/
theorem call_p {f : Fn} {ds : List D} {μ : Mu} {k : Nat} {o o' : OD} {d : D} (hk : μ[k]? = some o.ob) (hl : o.live = true) (h : f (.p 0 :: ds.map .d) [o] = .ok (.d d) [o'] none) : callL f [true] (.p k :: ds.map .d) μ = .ok (.d d) (μ.set k o'.ob) := by
  have hp : pass [true] (.p k :: ds.map .d) μ [] = some (.p 0 :: ds.map .d, [k], μ) := by
    show (match ((clean k μ).map fun μ1 => (U.p ([] : List Nat).length, ([] : List Nat) ++ [k], μ1) : Option (U × List Nat × Mu)) with
      | some (w, ns1, μ1) => (match pass [] (ds.map .d) μ1 ns1 with
        | some (ws, ns2, μ2) => some (w :: ws, ns2, μ2)
        | none => none)
      | none => none) = _
    rw [clean_d hk]
    show (match pass [] (ds.map .d) μ [k] with | some (ws, ns2, μ2) => some (U.p 0 :: ws, ns2, μ2) | none => none) = _
    rw [pass_d]
  unfold callL
  rw [hp]
  dsimp only
  rw [if_pos (by simp)]
  have hr : readAt μ [k] = some [o] := by
    unfold readAt
    rw [hk]
    dsimp only
    rw [if_pos (by rw [OD.ob_live]; exact hl), readO_ob]
    rfl
  rw [hr]
  dsimp only
  rw [h]
  rfl
/-! ### lists against the empty list -/
theorem pyL_int : ∀ ns : List Int, D.pyL (ns.map .int) = some (ns.map .int)
  | [] => rfl
  | n :: ns => by
    rw [List.map_cons, D.pyL, pyL_int ns]
    rfl
theorem pyL_str : ∀ ns : List Str, D.pyL (ns.map .str) = some (ns.map .str)
  | [] => rfl
  | n :: ns => by
    rw [List.map_cons, D.pyL, pyL_str ns]
    rfl
theorem can_int : ∀ ns : List Int, PyData.canLayAll0 (ns.map .int) = true ∧ PyData.depthAll (ns.map .int) = 0
  | [] => ⟨by simp only [List.map_nil, PyData.canLayAll0], by simp only [List.map_nil, PyData.depthAll]⟩
  | n :: ns => by
    obtain ⟨h1, h2⟩ := can_int ns
    exact ⟨by simp only [List.map_cons, PyData.canLayAll0, PyData.canLay0, h1, Bool.and_self], by simp only [List.map_cons, PyData.depthAll, PyData.depth, h2, Nat.max_self]⟩
theorem can_str : ∀ ns : List Str, ns.all PyData.strOk = true → PyData.canLayAll0 (ns.map .str) = true ∧ PyData.depthAll (ns.map .str) = 0
  | [], _ => ⟨by simp only [List.map_nil, PyData.canLayAll0], by simp only [List.map_nil, PyData.depthAll]⟩
  | n :: ns, h => by
    rw [List.all_cons, Bool.and_eq_true] at h
    obtain ⟨h1, h2⟩ := can_str ns h.2
    exact ⟨by simp only [List.map_cons, PyData.canLayAll0, PyData.canLay0, h1, h.1, Bool.and_self], by simp only [List.map_cons, PyData.depthAll, PyData.depth, h2, Nat.max_self]⟩
theorem eqv_nil : ∀ ps : List PyData, PyData.eqv (.list ps) (.list []) = ps.isEmpty
  | [] => by simp [PyData.eqv, PyData.eqvAll]
  | p :: ps => by simp [PyData.eqv, PyData.eqvAll]
theorem shaped_nil : SeqAt.shaped (.list []) = true := by decide +kernel
theorem ne_ints (ns : List Int) (μ : Mu) : fNe (.d (.lst (ns.map .int))) (.d (.lst [])) μ = .ok (.d (.bl (!ns.isEmpty))) μ := by
  have hs : SeqAt.shaped (.list (ns.map PyData.int)) = true := by
    unfold SeqAt.shaped
    simp only [PyData.canLay0, PyData.depth, (can_int ns).1, (can_int ns).2, Bool.true_and]
    decide
  have h1 : eqD μ (.d (.lst (ns.map .int))) (.d (.lst [])) = some ns.isEmpty := by
    simp only [eqD, valD, scB, D.py, pyL_int, Option.map_some, show D.pyL [] = some [] from rfl]
    rw [if_pos ⟨hs, shaped_nil⟩, eqv_nil]
    cases ns <;> rfl
  unfold fNe
  rw [h1]
theorem ne_strs (ns : List Str) (h : ns.all PyData.strOk = true) (μ : Mu) : fNe (.d (.lst (ns.map .str))) (.d (.lst [])) μ = .ok (.d (.bl (!ns.isEmpty))) μ := by
  have hs : SeqAt.shaped (.list (ns.map PyData.str)) = true := by
    unfold SeqAt.shaped
    simp only [PyData.canLay0, PyData.depth, (can_str ns h).1, (can_str ns h).2, Bool.true_and]
    decide
  have h1 : eqD μ (.d (.lst (ns.map .str))) (.d (.lst [])) = some ns.isEmpty := by
    simp only [eqD, valD, scB, D.py, pyL_str, Option.map_some, show D.pyL [] = some [] from rfl]
    rw [if_pos ⟨hs, shaped_nil⟩, eqv_nil]
    cases ns <;> rfl
  unfold fNe
  rw [h1]
/-! ### the pen -/
def pen (ns : List Int) (at_ rest : Int) : OD := .lst [.lst (ns.map .int), .int at_, .int rest]
def pn (ns : List Int) (at_ rest : Int) : Mu := [(pen ns at_ rest).ob]
/-- f, handed the pen and args, draws at most c times and answers by what P says -/
def Dr (ns : List Int) (c : Int) (P : D → Prop) (m : Mu → Res U) : Prop := ∀ at_ rest : Int, 0 ≤ at_ → at_ + c ≤ 1000001 → 0 ≤ rest → ∃ d at2 rest2, P d ∧ at_ ≤ at2 ∧ at2 ≤ at_ + c ∧ 0 ≤ rest2 ∧ m (pn ns at_ rest) = .ok (.d d) (pn ns at2 rest2)
/-- .. of a def -/
abbrev DrF (ns : List Int) (c : Int) (F : Fn) (args : List D) (P : D → Prop) : Prop := Dr ns c P fun μ => callL F [true] (.p 0 :: args.map .d) μ
theorem DrF.of {ns : List Int} {c : Int} {F : Fn} {args : List D} {P : D → Prop}
    (h : ∀ at_ rest : Int, 0 ≤ at_ → at_ + c ≤ 1000001 → 0 ≤ rest → ∃ d at2 rest2, P d ∧ at_ ≤ at2 ∧ at2 ≤ at_ + c ∧ 0 ≤ rest2 ∧ F (.p 0 :: args.map .d) [pen ns at_ rest] = .ok (.d d) [pen ns at2 rest2] none) : DrF ns c F args P := fun at_ rest h1 h2 h3 => by
  obtain ⟨d, at2, rest2, p, q1, q2, q3, e⟩ := h at_ rest h1 h2 h3
  exact ⟨d, at2, rest2, p, q1, q2, q3, call_p (k := 0) (o := pen ns at_ rest) (μ := pn ns at_ rest) rfl rfl e⟩
theorem DrF.ofB {ns : List Int} {c : Int} {args : List D} {P : D → Prop} {N : Nat} {b : SmS}
    (h : ∀ at_ rest : Int, 0 ≤ at_ → at_ + c ≤ 1000001 → 0 ≤ rest → ∃ d at2 rest2 ex, P d ∧ at_ ≤ at2 ∧ at2 ≤ at_ + c ∧ 0 ≤ rest2 ∧ b ((U.p 0 :: args.map .d).map some ++ List.replicate (N - (U.p 0 :: args.map .d).length) none) (pn ns at_ rest) = .ret (.d d) (pn ns at2 rest2 ++ ex)) : DrF ns c (entry N false b) args P := DrF.of fun at_ rest h1 h2 h3 => by
  obtain ⟨d, at2, rest2, ex, p, q1, q2, q3, e⟩ := h at_ rest h1 h2 h3
  refine ⟨d, at2, rest2, p, q1, q2, q3, ?_⟩
  show exitF [pen ns at_ rest].length false (b ((U.p 0 :: args.map .d).map some ++ List.replicate (N - (U.p 0 :: args.map .d).length) none) (pn ns at_ rest)) = _
  rw [e]
  exact ex_ret (os := [pen ns at2 rest2]) (ex := ex)
theorem Dr.mono {ns : List Int} {c c' : Int} {P P' : D → Prop} {m : Mu → Res U} (h : Dr ns c P m) (hc : c ≤ c') (hp : ∀ d, P d → P' d) : Dr ns c' P' m := fun at_ rest h1 h2 h3 => by
  obtain ⟨d, at2, rest2, p, q1, q2, q3, e⟩ := h at_ rest h1 (by omega) h3
  exact ⟨d, at2, rest2, hp d p, q1, by omega, q3, e⟩
/-- [e for i in range(n)], e a draw -/
theorem comp_rng {ns : List Int} {i : Nat} {own : List Nat} {elt : Sm U} {ρ : Rho} {c : Int} {P : D → Prop} (hc : 0 ≤ c) (he : ∀ j : Int, Dr ns c P (elt ((wipeR ρ own).set i (some (.d (.int j)))))) (n : Nat) :
    ∀ (k m : Nat) (at_ rest : Int) (acc : List D), m + k = n → n < 100000 → acc.length ≤ m → (∀ d ∈ acc, P d) → 0 ≤ at_ → at_ + k * c ≤ 1000001 → 0 ≤ rest →
      ∃ (ds : List D) (at2 rest2 : Int), ds.length = acc.length + k ∧ (∀ d ∈ ds, P d) ∧ at_ ≤ at2 ∧ at2 ≤ at_ + k * c ∧ 0 ≤ rest2 ∧ compG (.nm i) own tYes' elt (rngW 0 n).nxt (k + 1) m ρ (pn ns at_ rest) (acc.map .d) = .ok (ds.map .d) (pn ns at2 rest2)
  | 0, m, at_, rest, acc, hm, hn, ha, hp, h1, h2, h3 => by
    refine ⟨acc, at_, rest, rfl, hp, Int.le_refl _, by omega, h3, ?_⟩
    have hx : (rngW 0 n).nxt m (pn ns at_ rest) = some none := by
      show some (if m < n then some (U.d (.int (0 + (m : Nat)))) else none) = _
      rw [if_neg (by omega)]
    show (match (rngW 0 n).nxt m (pn ns at_ rest) with
      | none => .bad
      | some none => .ok (acc.map .d) (pn ns at_ rest)
      | some (some u) => _ : Res (List U)) = _
    rw [hx]
  | k + 1, m, at_, rest, acc, hm, hn, ha, hp, h1, h2, h3 => by
    have hkc : ((k + 1 : Nat) : Int) * c = k * c + c := by
      rw [show ((k + 1 : Nat) : Int) = (k : Int) + 1 from rfl, Int.add_mul, Int.one_mul]
    rw [hkc] at h2 ⊢
    have hk0 : 0 ≤ (k : Int) * c := Int.mul_nonneg (by omega) hc
    have hx : (rngW 0 n).nxt m (pn ns at_ rest) = some (some (.d (.int (0 + (m : Nat))))) := by
      show some (if m < n then some (U.d (.int (0 + (m : Nat)))) else none) = _
      rw [if_pos (by omega)]
    obtain ⟨d, at2, rest2, p, q1, q2, q3, e⟩ := he (0 + (m : Nat)) at_ rest h1 (by omega) h3
    obtain ⟨ds, at3, rest3, r1, r2, r3, r4, r5, e2⟩ := comp_rng hc he n k (m + 1) at2 rest2 (acc ++ [d]) (by omega) hn (by rw [List.length_append]; show acc.length + 1 ≤ _; omega) (fun x hx => by
      rcases List.mem_append.mp hx with hx | hx
      · exact hp x hx
      · rw [List.mem_singleton.mp hx]; exact p) (by omega) (by omega) q3
    refine ⟨ds, at3, rest3, ?_, r2, by omega, by omega, r5, ?_⟩
    · rw [r1, List.length_append]
      show acc.length + 1 + k = _
      omega
    · rw [compG, hx]
      dsimp only
      show (match tYes' ((wipeR ρ own).set i (some (.d (.int (0 + (m : Nat)))))) (pn ns at_ rest) with
        | .ok true μ1 => (match elt ((wipeR ρ own).set i (some (.d (.int (0 + (m : Nat)))))) μ1 with
          | .ok y μ2 => if (acc.map U.d).length < 100000 then compG (.nm i) own tYes' elt (rngW 0 n).nxt (k + 1) (m + 1) ρ μ2 (acc.map U.d ++ [y]) else .bad
          | _ => .bad)
        | .ok false μ1 => compG (.nm i) own tYes' elt (rngW 0 n).nxt (k + 1) (m + 1) ρ μ1 (acc.map U.d)
        | _ => .bad : Res (List U)) = _
      show (match elt ((wipeR ρ own).set i (some (.d (.int (0 + (m : Nat)))))) (pn ns at_ rest) with
          | .ok y μ2 => if (acc.map U.d).length < 100000 then compG (.nm i) own tYes' elt (rngW 0 n).nxt (k + 1) (m + 1) ρ μ2 (acc.map U.d ++ [y]) else .bad
          | _ => .bad : Res (List U)) = _
      rw [e]
      dsimp only
      rw [if_pos (by rw [List.length_map]; omega)]
      rw [List.map_append] at e2
      exact e2
/-- .. as a value -/
theorem vcomp_rng {ns : List Int} {i : Nat} {own : List Nat} {elt : Sm U} {ρ : Rho} {w : Sm Wlk} {c : Int} {P : D → Prop} {n : Nat} {at_ rest : Int} (hw : w ρ (pn ns at_ rest) = .ok (rngW 0 n) (pn ns at_ rest)) (hc : 0 ≤ c) (he : ∀ j : Int, Dr ns c P (elt ((wipeR ρ own).set i (some (.d (.int j)))))) (hn : n < 100000)
    (h1 : 0 ≤ at_) (h2 : at_ + n * c ≤ 1000001) (h3 : 0 ≤ rest) : ∃ (ds : List D) (at2 rest2 : Int), ds.length = n ∧ (∀ d ∈ ds, P d) ∧ at_ ≤ at2 ∧ at2 ≤ at_ + n * c ∧ 0 ≤ rest2 ∧ vComp w (.nm i) own tYes' elt ρ (pn ns at_ rest) = .ok (.d (.lst ds)) (pn ns at2 rest2) := by
  obtain ⟨ds, at2, rest2, r1, r2, r3, r4, r5, e⟩ := comp_rng hc he n n 0 at_ rest [] (by omega) hn (Nat.le_refl _) (fun d hd => by cases hd) h1 h2 h3
  refine ⟨ds, at2, rest2, by rw [r1]; show 0 + n = n; omega, r2, r3, r4, r5, ?_⟩
  unfold vComp
  rw [hw]
  show ((compG (.nm i) own tYes' elt (rngW 0 n).nxt (n + 1) 0 ρ (pn ns at_ rest) []).bind _) = _
  rw [show ([] : List U) = ([] : List D).map .d from rfl, e]
  show (match frzL (ds.map .d) (pn ns at2 rest2) with
    | some (ds, μ3) => .ok (.d (.lst ds)) μ3
    | none => .bad : Res U) = _
  rw [frzL_d]
/-! ### defs that are handed data alone -/
theorem en_ret {N : Nat} {b : SmS} {us : List U} {d : D} {ex : Mu} (e : b (us.map some ++ List.replicate (N - us.length) none) [] = .ret (.d d) ex) : entry N false b us [] = .ok (.d d) [] none := by
  show exitF ([] : List OD).length false (b (us.map some ++ List.replicate (N - us.length) none) []) = _
  rw [e]
  exact ex_ret (os := []) (ex := ex)
theorem en_nx {N : Nat} {b : SmS} {us : List U} {ρ : Rho} {ex : Mu} (e : b (us.map some ++ List.replicate (N - us.length) none) [] = .nx ρ ex) : entry N false b us [] = .ok (.d .non) [] none := by
  show exitF ([] : List OD).length false (b (us.map some ++ List.replicate (N - us.length) none) []) = _
  rw [e]
  exact ex_nx (os := []) (ex := ex)
theorem en_err {N : Nat} {b : SmS} {us : List U} {ρ : Rho} {ex : Mu} {c : Nat} {ns : List Str} {vs : List D} (e : b (us.map some ++ List.replicate (N - us.length) none) [] = .err c ns vs ρ ex) : entry N false b us [] = .err c ns vs [] := by
  show exitF ([] : List OD).length false (b (us.map some ++ List.replicate (N - us.length) none) []) = _
  rw [e]
  exact ex_err (os := []) (ex := ex)
/-! ### comprehensions over data that change nothing -/
theorem comp_d {ds : List D} {t : Tg} {own : List Nat} {cond : Sm Bool} {elt : Sm U} {ρ : Rho} {μ : Mu} {p : D → Bool} {g : D → D} {r : D → Rho} (hr : ∀ x ∈ ds, tgM t (.d x) (wipeR ρ own) = some (r x)) (hc : ∀ x ∈ ds, cond (r x) μ = .ok (p x) μ)
    (he : ∀ x ∈ ds, p x = true → elt (r x) μ = .ok (.d (g x)) μ) (hl : ds.length < 100000) : ∀ (k i : Nat) (acc : List D), i + k = ds.length → acc.length ≤ i →
      compG t own cond elt (wkD ds).nxt (k + 1) i ρ μ (acc.map .d) = .ok ((acc ++ ((ds.drop i).filter p).map g).map .d) μ
  | 0, i, acc, h, ha => by
    have hx : (wkD ds).nxt i μ = some none := by
      show some ((ds[i]?).map U.d) = _
      rw [List.getElem?_eq_none (by omega)]
      rfl
    rw [compG, hx, List.drop_of_length_le (by omega)]
    simp
  | k + 1, i, acc, h, ha => by
    have hi : i < ds.length := by omega
    have hm : ds[i] ∈ ds := List.getElem_mem hi
    have hx : (wkD ds).nxt i μ = some (some (.d ds[i])) := by
      show some ((ds[i]?).map U.d) = _
      rw [List.getElem?_eq_getElem hi]
      rfl
    rw [compG, hx]
    dsimp only
    rw [hr _ hm]
    dsimp only
    rw [hc _ hm, List.drop_eq_getElem_cons hi, List.filter_cons]
    cases hp : p ds[i] with
    | true =>
      dsimp only
      rw [he _ hm hp]
      dsimp only
      rw [if_pos (by rw [List.length_map]; omega)]
      have e := comp_d hr hc he hl k (i + 1) (acc ++ [g ds[i]]) (by omega) (by rw [List.length_append]; show acc.length + 1 ≤ _; omega)
      rw [List.map_append] at e
      have e3 : acc.map U.d ++ [U.d (g ds[i])] = acc.map U.d ++ ([g ds[i]].map U.d) := rfl
      rw [e3, e]
      simp
    | false =>
      dsimp only
      rw [comp_d hr hc he hl k (i + 1) acc (by omega) (by omega)]
      simp
theorem vcomp_d {ds : List D} {w : Sm Wlk} {t : Tg} {own : List Nat} {cond : Sm Bool} {elt : Sm U} {ρ : Rho} {μ0 μ : Mu} {p : D → Bool} {g : D → D} {r : D → Rho} (hw : w ρ μ0 = .ok (wkD ds) μ) (hr : ∀ x ∈ ds, tgM t (.d x) (wipeR ρ own) = some (r x)) (hc : ∀ x ∈ ds, cond (r x) μ = .ok (p x) μ)
    (he : ∀ x ∈ ds, p x = true → elt (r x) μ = .ok (.d (g x)) μ) (hl : ds.length < 100000) : vComp w t own cond elt ρ μ0 = .ok (.d (.lst ((ds.filter p).map g))) μ := by
  have e := comp_d hr hc he hl ds.length 0 [] (by omega) (Nat.le_refl _)
  unfold vComp
  rw [hw]
  show ((compG t own cond elt (wkD ds).nxt (ds.length + 1) 0 ρ μ []).bind _) = _
  rw [show ([] : List U) = ([] : List D).map .d from rfl, e]
  show (match frzL (([] ++ ((ds.drop 0).filter p).map g).map .d) μ with
    | some (ds, μ3) => .ok (.d (.lst ds)) μ3
    | none => .bad : Res U) = _
  rw [frzL_d]
  rfl
theorem bools_d (bs : List Bool) : boolsU ((bs.map D.bl).map U.d) = some bs := by
  induction bs with
  | nil => rfl
  | cons b bs ih =>
    show (boolsU ((bs.map D.bl).map U.d)).map (fun bs => b :: bs) = _
    rw [ih]
    rfl
theorem all_d (bs : List Bool) (μ : Mu) : fAllAny true (.d (.lst (bs.map D.bl))) μ = .ok (.d (.bl (bs.all id))) μ := by
  show (match boolsU ((bs.map D.bl).map U.d) with
    | some bs => Res.ok (U.d (D.bl (if true = true then bs.all id else bs.any id))) μ
    | none => .bad) = _
  rw [bools_d]
  rfl
end Iv
set_option Elab.async false
set_option linter.all false
set_option maxRecDepth 100000
set_option maxHeartbeats 4000000
set_option autoImplicit false
namespace K43
open PySem PySem.Spec PyProof.Rows L2 Iv
def top (i : Nat) : Stmt := PySem.Challenge.pw_heardasmeant_k43_desk_lines.main.body.getD i (.Pass ⟨0, 0, 0, 0⟩)
abbrev st0 : Stmt := top 3
abbrev N0 : List Str := ["value", "sign"]
abbrev P0 : List Str := ["value"]
theorem sc0 : FnScope N0 P0 (defScope st0) := ⟨rfl, rfl, rfl, by decide +kernel, rfl, by decide +kernel, by decide +kernel⟩
abbrev at0 : Str × Option Str := ("is_row", none)
abbrev st1 : Stmt := top 9
abbrev N1 : List Str := ["line"]
abbrev P1 : List Str := ["line"]
theorem sc1 : FnScope N1 P1 (defScope st1) := ⟨rfl, rfl, rfl, by decide +kernel, rfl, by decide +kernel, by decide +kernel⟩
abbrev at1 : Str × Option Str := ("words_of", none)
abbrev st2 : Stmt := top 10
abbrev N2 : List Str := ["words", "at"]
abbrev P2 : List Str := ["words", "at"]
theorem sc2 : FnScope N2 P2 (defScope st2) := ⟨rfl, rfl, rfl, by decide +kernel, rfl, by decide +kernel, by decide +kernel⟩
abbrev at2 : Str × Option Str := ("noise_at", none)
abbrev st3 : Stmt := top 11
abbrev N3 : List Str := ["words", "at"]
abbrev P3 : List Str := ["words", "at"]
theorem sc3 : FnScope N3 P3 (defScope st3) := ⟨rfl, rfl, rfl, by decide +kernel, rfl, by decide +kernel, by decide +kernel⟩
abbrev at3 : Str × Option Str := ("row_at", none)
abbrev st4 : Stmt := top 12
abbrev N4 : List Str := ["words", "many"]
abbrev P4 : List Str := ["words", "many"]
theorem sc4 : FnScope N4 P4 (defScope st4) := ⟨rfl, rfl, rfl, by decide +kernel, rfl, by decide +kernel, by decide +kernel⟩
abbrev at4 : Str × Option Str := ("none_behind", none)
abbrev st5 : Stmt := top 14
abbrev N5 : List Str := ["script", "cell"]
abbrev P5 : List Str := ["script"]
theorem sc5 : FnScope N5 P5 (defScope st5) := ⟨rfl, rfl, rfl, by decide +kernel, rfl, by decide +kernel, by decide +kernel⟩
abbrev at5 : Str × Option Str := ("_law_pen", none)
abbrev st6 : Stmt := top 15
abbrev N6 : List Str := ["pen", "many", "rest", "at", "cell", "mixed"]
abbrev P6 : List Str := ["pen", "many"]
theorem sc6 : FnScope N6 P6 (defScope st6) := ⟨rfl, rfl, rfl, by decide +kernel, rfl, by decide +kernel, by decide +kernel⟩
abbrev at6 : Str × Option Str := ("_law_draw", none)
abbrev st7 : Stmt := top 16
abbrev N7 : List Str := ["pen", "some"]
abbrev P7 : List Str := ["pen", "some"]
theorem sc7 : FnScope N7 P7 (defScope st7) := ⟨rfl, rfl, rfl, by decide +kernel, rfl, by decide +kernel, by decide +kernel⟩
abbrev at7 : Str × Option Str := ("_law_pick", none)
abbrev st8 : Stmt := top 17
abbrev N8 : List Str := ["ask", "caught", "error"]
abbrev P8 : List Str := ["ask"]
theorem sc8 : FnScope N8 P8 (defScope st8) := ⟨rfl, rfl, rfl, by decide +kernel, rfl, by decide +kernel, by decide +kernel⟩
abbrev at8 : Str × Option Str := ("_law_caught", none)
abbrev st9 : Stmt := top 18
abbrev N9 : List Str := ["told", "due", "one", "other"]
abbrev P9 : List Str := ["told", "due"]
theorem sc9 : FnScope N9 P9 (defScope st9) := ⟨rfl, rfl, rfl, by decide +kernel, rfl, by decide +kernel, by decide +kernel⟩
abbrev at9 : Str × Option Str := ("_law_like", none)
abbrev st10 : Stmt := top 19
abbrev N10 : List Str := ["pen"]
abbrev P10 : List Str := ["pen"]
theorem sc10 : FnScope N10 P10 (defScope st10) := ⟨rfl, rfl, rfl, by decide +kernel, rfl, by decide +kernel, by decide +kernel⟩
abbrev at10 : Str × Option Str := ("_law_sign", none)
abbrev st11 : Stmt := top 20
abbrev N11 : List Str := ["pen", "near", "turn"]
abbrev P11 : List Str := ["pen"]
theorem sc11 : FnScope N11 P11 (defScope st11) := ⟨rfl, rfl, rfl, by decide +kernel, rfl, by decide +kernel, by decide +kernel⟩
abbrev at11 : Str × Option Str := ("_law_word", none)
abbrev st12 : Stmt := top 21
abbrev N12 : List Str := ["line", "words", "sign"]
abbrev P12 : List Str := ["line"]
theorem sc12 : FnScope N12 P12 (defScope st12) := ⟨rfl, rfl, rfl, by decide +kernel, rfl, by decide +kernel, by decide +kernel⟩
abbrev at12 : Str × Option Str := ("_law_parted", none)
abbrev st13 : Stmt := top 22
abbrev N13 : List Str := ["words", "at"]
abbrev P13 : List Str := ["words", "at"]
theorem sc13 : FnScope N13 P13 (defScope st13) := ⟨rfl, rfl, rfl, by decide +kernel, rfl, by decide +kernel, by decide +kernel⟩
abbrev at13 : Str × Option Str := ("_law_noise", none)
abbrev st14 : Stmt := top 23
abbrev N14 : List Str := ["words", "at", "sign"]
abbrev P14 : List Str := ["words", "at"]
theorem sc14 : FnScope N14 P14 (defScope st14) := ⟨rfl, rfl, rfl, by decide +kernel, rfl, by decide +kernel, by decide +kernel⟩
abbrev at14 : Str × Option Str := ("_law_row", none)
abbrev st15 : Stmt := top 24
abbrev N15 : List Str := ["ask", "due", "caught"]
abbrev P15 : List Str := ["ask", "due"]
theorem sc15 : FnScope N15 P15 (defScope st15) := ⟨rfl, rfl, rfl, by decide +kernel, rfl, by decide +kernel, by decide +kernel⟩
abbrev at15 : Str × Option Str := ("_law_as_due", none)
abbrev st16 : Stmt := top 25
abbrev N16 : List Str := ["script", "pen", "turn", "words", "line", "at", "value", "part"]
abbrev P16 : List Str := ["script"]
theorem sc16 : FnScope N16 P16 (defScope st16) := ⟨rfl, rfl, rfl, by decide +kernel, rfl, by decide +kernel, by decide +kernel⟩
abbrev at16 : Str × Option Str := ("law", none)
/-! ### lambdas -/
abbrev lm0 : Expr := (eArg (eArg (sExp (sSub (sSub st16 1) 4)) 0) 0)
abbrev lm1 : Expr := (eArg (eArg (sExp (sSub (sSub st16 1) 5)) 0) 0)
abbrev lm2 : Expr := (eArg (eArg (sExp (sSub (sSub st16 1) 6)) 0) 0)
abbrev lm3 : Expr := (eArg (eArg (sExp (sSub (sSub st16 1) 7)) 0) 0)
abbrev lm4 : Expr := (eArg (eArg (sExp (sSub (sSub st16 1) 8)) 0) 0)
abbrev lm5 : Expr := (eArg (eArg (sExp (sSub st16 3)) 0) 0)
def lamI (k : Nat) : LamI := match k with
  | 0 => ⟨"law.<locals>.<lambda>", lamPs lm0, lamBd lm0, lamSc lm0, ["words", "at"]⟩
  | 1 => ⟨"law.<locals>.<lambda>", lamPs lm1, lamBd lm1, lamSc lm1, ["words", "at"]⟩
  | 2 => ⟨"law.<locals>.<lambda>", lamPs lm2, lamBd lm2, lamSc lm2, ["words", "at"]⟩
  | 3 => ⟨"law.<locals>.<lambda>", lamPs lm3, lamBd lm3, lamSc lm3, ["words", "at"]⟩
  | 4 => ⟨"law.<locals>.<lambda>", lamPs lm4, lamBd lm4, lamSc lm4, ["words", "at"]⟩
  | 5 => ⟨"law.<locals>.<lambda>", lamPs lm5, lamBd lm5, lamSc lm5, ["value"]⟩
  | _ => ⟨"", lamPs (.Constant .none 0 ⟨0, 0, 0, 0⟩), .Constant .none 0 ⟨0, 0, 0, 0⟩, lamSc (.Constant .none 0 ⟨0, 0, 0, 0⟩), []⟩
theorem lamF_0 : LamF (lamI 0) := ⟨rfl, rfl, rfl, by decide +kernel, by decide +kernel, by decide +kernel, by decide +kernel, fun _ _ _ _ => rfl⟩
theorem lamF_1 : LamF (lamI 1) := ⟨rfl, rfl, rfl, by decide +kernel, by decide +kernel, by decide +kernel, by decide +kernel, fun _ _ _ _ => rfl⟩
theorem lamF_2 : LamF (lamI 2) := ⟨rfl, rfl, rfl, by decide +kernel, by decide +kernel, by decide +kernel, by decide +kernel, fun _ _ _ _ => rfl⟩
theorem lamF_3 : LamF (lamI 3) := ⟨rfl, rfl, rfl, by decide +kernel, by decide +kernel, by decide +kernel, by decide +kernel, fun _ _ _ _ => rfl⟩
theorem lamF_4 : LamF (lamI 4) := ⟨rfl, rfl, rfl, by decide +kernel, by decide +kernel, by decide +kernel, by decide +kernel, fun _ _ _ _ => rfl⟩
theorem lamF_5 : LamF (lamI 5) := ⟨rfl, rfl, rfl, by decide +kernel, by decide +kernel, by decide +kernel, by decide +kernel, fun _ _ _ _ => rfl⟩
/-! ### meanings -/
def isi_BadCommand : Kd → Option Bool := tabO [] [(0, false), (1, true)]
structure Rn where
  f : Nat → Fn
  l : Nat → Fn
def b_0 (R : Rn) : SmS := (sRet (vAnd (v1 (fIsi (tabB "str" [] [0, 1])) (vVar 0)) (v1 (fAllAny true) (vComp (wSeq (vVar 0)) (.nm 1) ([("sign", 1)].map (·.2)) tYes' (vOr (v2 (fIn false) (vVar 1) (vC (.str "abcdefghijklmnopqrstuvwxyz"))) (v2 fEq (vVar 1) (vC (.str "."))))))))
def b_1 (R : Rn) : SmS := (sSeq (sIf (tNot' (tOf (v1 (fIsi (tabB "str" [] [0, 1])) (vVar 0)))) (sRaise 1 1 ["word"] [0] (aCons (vC (.int 0)) aNil)) sNil)
  (sRet (v1 fTupOf (vM "str" fSplit (vVar 0) (aCons (vC (.str " ")) aNil)))))
def b_2 (R : Rn) : SmS := (sSeq (sIf (tOr' (tOf (v2 fGe (vVar 1) (v1 fLen (vVar 0)))) (tOr' (tOf (v2 fNe (v1 fLen (v2 fIx (vVar 0) (vVar 1))) (vC (.int 1)))) (tOf (v2 (fIn true) (v2 fIx (vVar 0) (vVar 1)) (v2 fAdd (vC (.str "0123456789")) (vC (.str "*"))))))) (sRaise 1 1 ["word"] [0] (aCons (vVar 1) aNil)) sNil)
  (sRet (vIf (tOf (v2 fEq (v2 fIx (vVar 0) (vVar 1)) (vC (.str "*")))) (vC .non) (v1 fInt (v2 fIx (vVar 0) (vVar 1))))))
def b_3 (R : Rn) : SmS := (sSeq (sIf (tOr' (tOf (v2 fGe (vVar 1) (v1 fLen (vVar 0)))) (tOr' (tOf (v2 fEq (v2 fIx (vVar 0) (vVar 1)) (vC (.str "")))) (tAnd' (tOf (v2 fNe (v2 fIx (vVar 0) (vVar 1)) (vC (.str "-")))) (tNot' (tOf (vCall (R.f 0) 1 0 [0] [] [] (aCons (v2 fIx (vVar 0) (vVar 1)) aNil) aNil)))))) (sRaise 1 1 ["word"] [0] (aCons (vVar 1) aNil)) sNil)
  (sRet (vIf (tOf (v2 fEq (v2 fIx (vVar 0) (vVar 1)) (vC (.str "-")))) (vC (.str "")) (v2 fIx (vVar 0) (vVar 1)))))
def b_4 (R : Rn) : SmS := (sIf (tOf (v2 fGt (v1 fLen (vVar 0)) (vVar 1))) (sRaise 1 1 ["word"] [0] (aCons (vVar 1) aNil)) sNil)
def b_5 (R : Rn) : SmS := (sRet (vN oLstP (aCons (vComp (wSeq (vSl (vVar 0) none (some (vC (.int 63))))) (.nm 1) ([("cell", 1)].map (·.2)) tYes' (v1 fInt (vVar 1))) (aCons (vC (.int 0)) (aCons (vC (.int 0)) aNil)))))
def b_6 (R : Rn) : SmS := (sSeq (sIf (tOf (v2 fGt (v2 fIx (vVar 0) (vC (.int 2))) (vC (.int 0)))) (sSeq (sSet 2 (v1 fInt (v2 fIx (vVar 0) (vC (.int 2)))))
  (sSeq (sSetIx (vVar 0) (vC (.int 2)) (v2 fDiv (vVar 2) (vVar 1)))
  (sRet (v2 fMod (v1 fInt (vVar 2)) (vVar 1))))) sNil)
  (sSeq (sSet 3 (v2 fIx (vVar 0) (vC (.int 1))))
  (sSeq (sSetIx (vVar 0) (vC (.int 1)) (v2 fAdd (vVar 3) (vC (.int 1))))
  (sSeq (sSet 4 (v2 fAdd (v2 fMul (vC (.int 75011)) (vVar 3)) (vC (.int 7219))))
  (sSeq (sIf (tOf (v2 fNe (v2 fIx (vVar 0) (vC (.int 0))) (vN oLst aNil))) (sSet 4 (v2 fIx (v2 fIx (vVar 0) (vC (.int 0))) (v2 fMod (v1 fInt (vVar 3)) (v1 fLen (v2 fIx (vVar 0) (vC (.int 0))))))) sNil)
  (sSeq (sIf (tAnd' (tOf (v2 fLt (vVar 3) (v1 fLen (v2 fIx (vVar 0) (vC (.int 0)))))) (tOf (v2 fGe (v1 fAbs (vVar 4)) (v2 fPow (vC (.int 10)) (vC (.int 18)))))) (sSeq (sSet 2 (v2 fAdd (v2 fMul (vC (.int 2)) (v2 fSub (v1 fAbs (v1 fInt (vVar 4))) (v2 fPow (vC (.int 10)) (vC (.int 18))))) (v1 fInt (v2 fLt (vVar 4) (vC (.int 0))))))
  (sSeq (sSetIx (vVar 0) (vC (.int 2)) (v2 fDiv (vVar 2) (vVar 1)))
  (sRet (v2 fMod (v1 fInt (vVar 2)) (vVar 1))))) sNil)
  (sSeq (sSet 5 (v2 fMod (v1 fInt (v2 fPow (v2 fAdd (v2 fAdd (v2 fMod (v1 fInt (vVar 4)) (vC (.int 2147483587))) (v2 fMul (vC (.int 63029)) (vVar 3))) (vC (.int 7219))) (vC (.int 5)))) (vC (.int 2147483629))))
  (sSeq (sSet 5 (v2 fMod (v1 fInt (v2 fPow (v2 fAdd (v2 fAdd (v2 fMul (vVar 5) (v2 fAdd (v2 fMul (vC (.int 2)) (vVar 3)) (vC (.int 7219)))) (v2 fMul (v2 fMul (vC (.int 75011)) (vVar 3)) (vVar 3))) (vC (.int 63029))) (vC (.int 3)))) (vC (.int 2147483543))))
  (sRet (v2 fMod (v1 fInt (v2 fDiv (vVar 5) (vC (.int 64)))) (vVar 1)))))))))))
def b_7 (R : Rn) : SmS := (sRet (v2 fIx (vVar 1) (vCall (R.f 6) 2 0 [0, 1] [] [true] (aCons (vVar 0) (aCons (v1 fLen (vVar 1)) aNil)) aNil)))
def b_8 (R : Rn) : SmS := (sSeq (sSet 1 (vC .non))
  (sSeq (sTryAs [(0, true), (1, true)] 2 (sExpr (vClo R.l 0)) (sSet 1 (vVar 2)))
  (sRet (vVar 1))))
def b_9 (R : Rn) : SmS := (sSeq (sIf (tOf (v2 fIs (vVar 1) (vC .non))) (sRet (v2 fIs (vVar 0) (vC .non))) sNil)
  (sSeq (sIf (tOf (v1 (fIsi (tabB "bool" [] [0, 1])) (vVar 1))) (sRet (vIf (tOf (vVar 1)) (v2 fIs (vVar 0) (vC (.bl true))) (v2 fIs (vVar 0) (vC (.bl false))))) sNil)
  (sSeq (sIf (tOf (v1 (fIsi (tabB "tuple" [] [0, 1])) (vVar 1))) (sRet (vAnd (v1 (fIsi (tabB "tuple" [] [0, 1])) (vVar 0)) (vAnd (v2 fEq (v1 fLen (vVar 0)) (v1 fLen (vVar 1))) (v1 (fAllAny true) (vComp (wZip (aCons (vVar 0) (aCons (vVar 1) aNil))) (.tp [(.nm 2), (.nm 3)]) ([("one", 2), ("other", 3)].map (·.2)) tYes' (vCall (R.f 9) 2 0 [0, 1] [] [] (aCons (vVar 2) (aCons (vVar 3) aNil)) aNil)))))) sNil)
  (sSeq (sIf (tOf (v1 (fIsi (tabB "str" [] [0, 1])) (vVar 1))) (sRet (vAnd (v1 (fIsi (tabB "str" [] [0, 1])) (vVar 0)) (v2 fEq (vVar 0) (vVar 1)))) sNil)
  (sRet (vAnd (v1 (fIsi (tabB "int" [] [0, 1])) (vVar 0)) (vAnd (vNot (v1 (fIsi (tabB "bool" [] [0, 1])) (vVar 0))) (v2 fEq (vVar 0) (vVar 1)))))))))
def b_10 (R : Rn) : SmS := (sRet (vCall (R.f 7) 2 0 [0, 1] [] [true] (aCons (vVar 0) (aCons (vCall (R.f 7) 2 0 [0, 1] [] [true] (aCons (vVar 0) (aCons (vN oLst (aCons (vC (.str "abcdefghijklmnopqrstuvwxyz.")) (aCons (vC (.str "abcdefghijklmnopqrstuvwxyz.")) (aCons (vC (.str "0123456789")) (aCons (vC (.str "-*,:/;AZ!~_+")) aNil))))) aNil)) aNil) aNil)) aNil))
def b_11 (R : Rn) : SmS := (sSeq (sSet 1 (vN oLst (aCons (v1 fStr (vCall (R.f 6) 2 0 [0, 1] [] [true] (aCons (vVar 0) (aCons (vC (.int 10)) aNil)) aNil)) (aCons (vC (.str "*")) (aCons (vC (.str "-")) (aCons (vC (.str "")) (aCons (vC (.str "10")) (aCons (vC (.str "-1")) (aCons (vC (.str "**")) (aCons (vC (.str "--")) (aCons (vC (.str "01")) (aCons (vC (.str "99")) (aCons (vC (.str "None")) (aCons (vC (.str "True")) (aCons (vC (.str ".")) (aCons (vC (.str "..")) (aCons (vC (.str "a.b")) aNil)))))))))))))))))
  (sSeq (sIf (tOf (v2 fEq (vCall (R.f 6) 2 0 [0, 1] [] [true] (aCons (vVar 0) (aCons (vC (.int 2)) aNil)) aNil) (vC (.int 0)))) (sRet (vCall (R.f 7) 2 0 [0, 1] [] [true] (aCons (vVar 0) (aCons (vVar 1) aNil)) aNil)) sNil)
  (sRet (vM "str" fJoin (vC (.str "")) (aCons (vComp (wRng1 (aCons (vCall (R.f 6) 2 0 [0, 1] [] [true] (aCons (vVar 0) (aCons (vCall (R.f 7) 2 0 [0, 1] [] [true] (aCons (vVar 0) (aCons (vN oLst (aCons (vC (.int 2)) (aCons (vC (.int 3)) (aCons (vC (.int 9)) (aCons (vC (.int 60)) aNil))))) aNil)) aNil) aNil)) aNil) aNil)) (.nm 2) ([("turn", 2)].map (·.2)) tYes' (vCall (R.f 10) 1 0 [0] [] [true] (aCons (vVar 0) aNil) aNil)) aNil)))))
def b_12 (R : Rn) : SmS := (sSeq (sSet 1 (vN oLstP (aCons (vC (.str "")) aNil)))
  (sSeq (sFor (wSeq (vVar 0)) (.nm 2) (sIf (tOf (v2 fEq (vVar 2) (vC (.str " ")))) (sExpr (vM "list" fApp (vVar 1) (aCons (vC (.str "")) aNil))) (sSetIx (vVar 1) (v1 fNeg (vC (.int 1))) (v2 fAdd (v2 fIx (vVar 1) (v1 fNeg (vC (.int 1)))) (vVar 2)))))
  (sRet (v1 fTupOf (vVar 1)))))
def b_13 (R : Rn) : SmS := (sSeq (sIf (tAnd' (tOf (v2 fLt (vVar 1) (v1 fLen (vVar 0)))) (tOf (v2 (fIn false) (v2 fIx (vVar 0) (vVar 1)) (vN oLst (aCons (vC (.str "0")) (aCons (vC (.str "1")) (aCons (vC (.str "2")) (aCons (vC (.str "3")) (aCons (vC (.str "4")) (aCons (vC (.str "5")) (aCons (vC (.str "6")) (aCons (vC (.str "7")) (aCons (vC (.str "8")) (aCons (vC (.str "9")) (aCons (vC (.str "*")) aNil))))))))))))))) (sRet (vN oLst (aCons (vIf (tOf (v2 fEq (v2 fIx (vVar 0) (vVar 1)) (vC (.str "*")))) (vC .non) (vM "str" fIndexS (vC (.str "0123456789")) (aCons (v2 fIx (vVar 0) (vVar 1)) aNil))) aNil))) sNil)
  (sRet (vVar 1)))
def b_14 (R : Rn) : SmS := (sSeq (sIf (tOr' (tOf (v2 fGe (vVar 1) (v1 fLen (vVar 0)))) (tOf (v2 fEq (v2 fIx (vVar 0) (vVar 1)) (vC (.str ""))))) (sRet (vVar 1)) sNil)
  (sSeq (sIf (tOf (v2 fEq (v2 fIx (vVar 0) (vVar 1)) (vC (.str "-")))) (sRet (vN oLst (aCons (vC (.str "")) aNil))) sNil)
  (sSeq (sIf (tOf (v2 fNe (vComp (wSeq (v2 fIx (vVar 0) (vVar 1))) (.nm 2) ([("sign", 2)].map (·.2)) (tOf (v2 (fIn true) (vVar 2) (vC (.str ".abcdefghijklmnopqrstuvwxyz")))) (vVar 2)) (vN oLst aNil))) (sRet (vVar 1)) sNil)
  (sRet (vN oLst (aCons (v2 fIx (vVar 0) (vVar 1)) aNil))))))
def b_15 (R : Rn) : SmS := (sSeq (sSet 2 (vCall (R.f 8) 1 0 [0] [] [] (aCons (vVar 0) aNil) aNil))
  (sSeq (sIf (tOf (v1 (fIsi (tabB "list" [] [0, 1])) (vVar 1))) (sRet (vAnd (v2 fIs (vVar 2) (vC .non)) (vCall (R.f 9) 2 0 [0, 1] [] [] (aCons (vClo R.l 0) (aCons (v2 fIx (vVar 1) (vC (.int 0))) aNil)) aNil))) sNil)
  (sRet (vAnd (v1 (fIsi isi_BadCommand) (vVar 2)) (vCall (R.f 9) 2 0 [0, 1] [] [] (aCons (v1 (fXf "word" [1]) (vVar 2)) (aCons (vVar 1) aNil)) aNil)))))
def b_16 (R : Rn) : SmS := (sSeq (sSet 1 (vCall (R.f 5) 1 0 [0] [] [] (aCons (vVar 0) aNil) aNil))
  (sSeq (sFor (wRng1 (aCons (vC (.int 12)) aNil)) (.nm 2) (sSeq (sSet 3 (vComp (wRng1 (aCons (vCall (R.f 6) 2 0 [0, 1] [] [true] (aCons (vVar 1) (aCons (vC (.int 7)) aNil)) aNil) aNil)) (.nm 7) ([("part", 7)].map (·.2)) tYes' (vCall (R.f 11) 1 0 [0] [] [true] (aCons (vVar 1) aNil) aNil)))
  (sSeq (sSet 4 (vM "str" fJoin (vC (.str " ")) (aCons (vVar 3) aNil)))
  (sSeq (sIf (tNot' (tOf (vCall (R.f 9) 2 0 [0, 1] [] [] (aCons (vCall (R.f 1) 1 0 [0] [] [] (aCons (vVar 4) aNil) aNil) (aCons (vCall (R.f 12) 1 0 [0] [] [] (aCons (vVar 4) aNil) aNil) aNil)) aNil))) (sRet (vC (.bl false))) sNil)
  (sSeq (sAsgs  [(.nm 3), (.nm 5)] (aCons (vCall (R.f 12) 1 0 [0] [] [] (aCons (vVar 4) aNil) aNil) (aCons (vCall (R.f 6) 2 0 [0, 1] [] [true] (aCons (vVar 1) (aCons (vC (.int 8)) aNil)) aNil) aNil)))
  (sSeq (sIf (tNot' (tOf (vCallLam (R.f 15) 0 [3, 5] 2 [0, 1] [] (aCons (vCall (R.f 13) 2 0 [0, 1] [] [] (aCons (vVar 3) (aCons (vVar 5) aNil)) aNil) aNil)))) (sRet (vC (.bl false))) sNil)
  (sSeq (sIf (tNot' (tOf (vCallLam (R.f 15) 1 [3, 5] 2 [0, 1] [] (aCons (vCall (R.f 14) 2 0 [0, 1] [] [] (aCons (vVar 3) (aCons (vVar 5) aNil)) aNil) aNil)))) (sRet (vC (.bl false))) sNil)
  (sSeq (sIf (tNot' (tOf (vCallLam (R.f 15) 2 [3, 5] 2 [0, 1] [] (aCons (vIf (tOf (v2 fLe (v1 fLen (vVar 3)) (vVar 5))) (vN oLst (aCons (vC .non) aNil)) (vVar 5)) aNil)))) (sRet (vC (.bl false))) sNil)
  (sSeq (sIf (tNot' (tOf (vCallLam (R.f 15) 3 [3, 5] 2 [0, 1] [] (aCons (vCall (R.f 13) 2 0 [0, 1] [] [] (aCons (vVar 3) (aCons (vVar 5) aNil)) aNil) aNil)))) (sRet (vC (.bl false))) sNil)
  (sIf (tNot' (tOf (vCallLam (R.f 15) 4 [3, 5] 2 [0, 1] [] (aCons (vIf (tOf (v2 fLe (v1 fLen (vVar 3)) (vVar 5))) (vN oLst (aCons (vC .non) aNil)) (vVar 5)) aNil)))) (sRet (vC (.bl false))) sNil))))))))))
  (sSeq (sSet 6 (vCall (R.f 7) 2 0 [0, 1] [] [true] (aCons (vVar 1) (aCons (vN oLst (aCons (vC .non) (aCons (vC (.int 5)) (aCons (vN oLst (aCons (vC (.str "end")) aNil)) (aCons (vN oTup (aCons (vC (.str "end")) aNil)) (aCons (vC (.bl true)) aNil)))))) aNil)) aNil))
  (sRet (vAnd (vCallLam (R.f 15) 5 [6] 2 [0, 1] [] (aCons (vC (.int 0)) aNil)) (vCall (R.f 9) 2 0 [0, 1] [] [] (aCons (vCall (R.f 1) 0 1 [0] [] [] aNil (aCons (vC (.str "")) aNil)) (aCons (vN oTup (aCons (vC (.str "")) aNil)) aNil)) aNil))))))
def l_0 (R : Rn) : Sm U := (vCall (R.f 2) 2 0 [0, 1] [] [] (aCons (vVar 0) (aCons (vVar 1) aNil)) aNil)
def l_1 (R : Rn) : Sm U := (vCall (R.f 3) 0 2 [1, 0] [] [] aNil (aCons (vVar 1) (aCons (vVar 0) aNil)))
def l_2 (R : Rn) : Sm U := (vCall (R.f 4) 2 0 [0, 1] [] [] (aCons (vVar 0) (aCons (vVar 1) aNil)) aNil)
def l_3 (R : Rn) : Sm U := (vCall (R.f 2) 0 2 [1, 0] [] [] aNil (aCons (vVar 1) (aCons (vVar 0) aNil)))
def l_4 (R : Rn) : Sm U := (vCall (R.f 4) 0 2 [1, 0] [] [] aNil (aCons (vVar 1) (aCons (vVar 0) aNil)))
def l_5 (R : Rn) : Sm U := (vCall (R.f 1) 1 0 [0] [] [] (aCons (vVar 0) aNil) aNil)
def fns (R : Rn) : List Fn := [entry N0.length false (b_0 R), entry N1.length false (b_1 R), entry N2.length false (b_2 R), entry N3.length false (b_3 R), entry N4.length false (b_4 R), entry N5.length true (b_5 R), entry N6.length false (b_6 R), entry N7.length false (b_7 R), entry N8.length false (b_8 R), entry N9.length false (b_9 R), entry N10.length false (b_10 R), entry N11.length false (b_11 R), entry N12.length false (b_12 R), entry N13.length false (b_13 R), entry N14.length false (b_14 R), entry N15.length false (b_15 R), entry N16.length false (b_16 R)]
def lmb (R : Rn) : List Fn := [entry (lamI 0).caps.length false (sRet (l_0 R)), entry (lamI 1).caps.length false (sRet (l_1 R)), entry (lamI 2).caps.length false (sRet (l_2 R)), entry (lamI 3).caps.length false (sRet (l_3 R)), entry (lamI 4).caps.length false (sRet (l_4 R)), entry (lamI 5).caps.length false (sRet (l_5 R))]
def run : Nat → Rn
  | 0 => ⟨fun _ _ _ => .bad, fun _ _ _ => .bad⟩
  | n + 1 => ⟨fun k => (fns (run n)).getD k fun _ _ => .bad, fun k => (lmb (run n)).getD k fun _ _ => .bad⟩
/-! ### what is told of the top -/
abbrev cA0 (K : PySem.W.Frag) : Addr := He.ga K "HearError"
abbrev cA1 (K : PySem.W.Frag) : Addr := He.ga K "BadCommand"
def clsA (K : PySem.W.Frag) (c : Nat) : Addr := match c with
  | 0 => cA0 K
  | 1 => cA1 K
  | _ => 0
def mkG (K : PySem.W.Frag) : Gc := ⟨K, clsA K, lamI, [((He.cT K at16).2, "law.<locals>.<lambda>")]⟩
abbrev si1 : Stmt := inClass (top 6) 0
abbrev Pi1 : List Str := ["self", "word"]
theorem sci1 : FnScope Pi1 Pi1 (defScope si1) := ⟨rfl, rfl, rfl, by decide +kernel, rfl, by decide +kernel, by decide +kernel⟩
abbrev ati1 : Str × Option Str := ("BadCommand", some "__init__")
def exL (K : PySem.W.Frag) : List Bool := [excCB K (cA0 K),
  xfB K (cA0 K),
  excCB K (cA1 K),
  xfB K (cA1 K),
  oexB K (cA1 K),
  initB K (cA1 K) (He.fAd K ati1),
  He.eqO (PySem.W.findIn K (.ref (cA1 K)) "word") (some none),
  kitsB K (cA1 K),
  kitB' K (.ref (cA0 K)) (.ref (cA1 K)) false,
  kitB' K (.ref (cA1 K)) (.ref (cA1 K)) true,
  kitB' K (.ref (cA0 K)) (.type "bool") false,
  kitB' K (.ref (cA1 K)) (.type "bool") false,
  kitB' K (.ref (cA0 K)) (.type "int") false,
  kitB' K (.ref (cA1 K)) (.type "int") false,
  kitB' K (.ref (cA0 K)) (.type "list") false,
  kitB' K (.ref (cA1 K)) (.type "list") false,
  kitB' K (.ref (cA0 K)) (.type "str") false,
  kitB' K (.ref (cA1 K)) (.type "str") false,
  kitB' K (.ref (cA0 K)) (.type "tuple") false,
  kitB' K (.ref (cA1 K)) (.type "tuple") false,
  exmB K (.ref (cA0 K)) (.ref (cA0 K)) true,
  exmB K (.ref (cA1 K)) (.ref (cA0 K)) true]
def ex (K : PySem.W.Frag) : Bool := (exL K).all id
theorem ex_at {K : PySem.W.Frag} (h : ex K = true) (i : Nat) {b : Bool} (e : (exL K)[i]? = some b) : b = true := List.all_eq_true.mp h b (List.mem_of_getElem? e)
def d0 : He.DefD := ⟨at0, "is_row", "is_row", defArgs st0, defBody st0, defScope st0, [], []⟩
def d1 : He.DefD := ⟨at1, "words_of", "words_of", defArgs st1, defBody st1, defScope st1, [], []⟩
def d2 : He.DefD := ⟨at2, "noise_at", "noise_at", defArgs st2, defBody st2, defScope st2, [], []⟩
def d3 : He.DefD := ⟨at3, "row_at", "row_at", defArgs st3, defBody st3, defScope st3, [], []⟩
def d4 : He.DefD := ⟨at4, "none_behind", "none_behind", defArgs st4, defBody st4, defScope st4, [], []⟩
def d5 : He.DefD := ⟨at5, "_law_pen", "_law_pen", defArgs st5, defBody st5, defScope st5, [], []⟩
def d6 : He.DefD := ⟨at6, "_law_draw", "_law_draw", defArgs st6, defBody st6, defScope st6, [], []⟩
def d7 : He.DefD := ⟨at7, "_law_pick", "_law_pick", defArgs st7, defBody st7, defScope st7, [], []⟩
def d8 : He.DefD := ⟨at8, "_law_caught", "_law_caught", defArgs st8, defBody st8, defScope st8, [], []⟩
def d9 : He.DefD := ⟨at9, "_law_like", "_law_like", defArgs st9, defBody st9, defScope st9, [], []⟩
def d10 : He.DefD := ⟨at10, "_law_sign", "_law_sign", defArgs st10, defBody st10, defScope st10, [], []⟩
def d11 : He.DefD := ⟨at11, "_law_word", "_law_word", defArgs st11, defBody st11, defScope st11, [], []⟩
def d12 : He.DefD := ⟨at12, "_law_parted", "_law_parted", defArgs st12, defBody st12, defScope st12, [], []⟩
def d13 : He.DefD := ⟨at13, "_law_noise", "_law_noise", defArgs st13, defBody st13, defScope st13, [], []⟩
def d14 : He.DefD := ⟨at14, "_law_row", "_law_row", defArgs st14, defBody st14, defScope st14, [], []⟩
def d15 : He.DefD := ⟨at15, "_law_as_due", "_law_as_due", defArgs st15, defBody st15, defScope st15, [], []⟩
def d16 : He.DefD := ⟨at16, "law", "law", defArgs st16, defBody st16, defScope st16, [], []⟩
def di1 : He.DefD := ⟨ati1, "__init__", "BadCommand.__init__", defArgs si1, defBody si1, defScope si1, [], []⟩
def fnL : List He.DefD := [d0, d1, d2, d3, d4, d5, d6, d7, d8, d9, d10, d11, d12, d13, d14, d15, d16, di1]
def faL : List He.Fa := [.glo "BadCommand", .glo "HearError", .glo "_law_as_due", .glo "_law_caught", .glo "_law_draw", .glo "_law_like", .glo "_law_noise", .glo "_law_parted", .glo "_law_pen", .glo "_law_pick", .glo "_law_row", .glo "_law_sign", .glo "_law_word", .glo "is_row", .glo "law", .glo "noise_at", .glo "none_behind", .glo "row_at", .glo "words_of", .free "abs", .free "all", .free "bool", .free "int", .free "isinstance", .free "len", .free "list", .free "range", .free "str", .free "tuple", .free "zip", .str "FIGURES" "0123456789", .str "LETTERS" "abcdefghijklmnopqrstuvwxyz", .str "SILENCE" "."]
def tfL : List He.Defn := [at16]
structure TT (K : PySem.W.Frag) (mg : Str → Option Value) : Prop where
  g_BadCommand : mg "BadCommand" = some (.ref (He.ga K "BadCommand"))
  g_HearError : mg "HearError" = some (.ref (He.ga K "HearError"))
  g__law_as_due : mg "_law_as_due" = some (.ref (He.ga K "_law_as_due"))
  g__law_caught : mg "_law_caught" = some (.ref (He.ga K "_law_caught"))
  g__law_draw : mg "_law_draw" = some (.ref (He.ga K "_law_draw"))
  g__law_like : mg "_law_like" = some (.ref (He.ga K "_law_like"))
  g__law_noise : mg "_law_noise" = some (.ref (He.ga K "_law_noise"))
  g__law_parted : mg "_law_parted" = some (.ref (He.ga K "_law_parted"))
  g__law_pen : mg "_law_pen" = some (.ref (He.ga K "_law_pen"))
  g__law_pick : mg "_law_pick" = some (.ref (He.ga K "_law_pick"))
  g__law_row : mg "_law_row" = some (.ref (He.ga K "_law_row"))
  g__law_sign : mg "_law_sign" = some (.ref (He.ga K "_law_sign"))
  g__law_word : mg "_law_word" = some (.ref (He.ga K "_law_word"))
  g_is_row : mg "is_row" = some (.ref (He.ga K "is_row"))
  g_law : mg "law" = some (.ref (He.ga K "law"))
  g_noise_at : mg "noise_at" = some (.ref (He.ga K "noise_at"))
  g_none_behind : mg "none_behind" = some (.ref (He.ga K "none_behind"))
  g_row_at : mg "row_at" = some (.ref (He.ga K "row_at"))
  g_words_of : mg "words_of" = some (.ref (He.ga K "words_of"))
  n_abs : mg "abs" = none
  n_all : mg "all" = none
  n_bool : mg "bool" = none
  n_int : mg "int" = none
  n_isinstance : mg "isinstance" = none
  n_len : mg "len" = none
  n_list : mg "list" = none
  n_range : mg "range" = none
  n_str : mg "str" = none
  n_tuple : mg "tuple" = none
  n_zip : mg "zip" = none
  s_FIGURES : ∃ t, mg "FIGURES" = some (.str "0123456789" t)
  s_LETTERS : ∃ t, mg "LETTERS" = some (.str "abcdefghijklmnopqrstuvwxyz" t)
  s_SILENCE : ∃ t, mg "SILENCE" = some (.str "." t)
  oc0 : ExcC K (cA0 K)
  xc0 : XfC K (cA0 K)
  oc1 : ExcC K (cA1 K)
  xc1 : XfC K (cA1 K)
  ox1 : OexC K (cA1 K)
  in1 : PySem.W.findIn K (.ref (cA1 K)) "__init__" = some (some (.ref (He.fAd K ati1))) ∧ PySem.W.typeIn K (.ref (He.fAd K ati1)) = some (.type "function")
  na1_word : PySem.W.findIn K (.ref (cA1 K)) "word" = some none
  ks_BadCommand : ∀ n, n ∈ ["NoneType", "bool", "int", "str", "tuple", "list"] → PySem.W.kitOne K (.type n) (.ref (cA1 K)) = some false
  ko_BadCommand_0 : PySem.W.kitOne K (.ref (cA0 K)) (.ref (cA1 K)) = some false
  ko_BadCommand_1 : PySem.W.kitOne K (.ref (cA1 K)) (.ref (cA1 K)) = some true
  kb_bool_0 : PySem.W.kitOne K (.ref (cA0 K)) (.type "bool") = some false
  kb_bool_1 : PySem.W.kitOne K (.ref (cA1 K)) (.type "bool") = some false
  kb_int_0 : PySem.W.kitOne K (.ref (cA0 K)) (.type "int") = some false
  kb_int_1 : PySem.W.kitOne K (.ref (cA1 K)) (.type "int") = some false
  kb_list_0 : PySem.W.kitOne K (.ref (cA0 K)) (.type "list") = some false
  kb_list_1 : PySem.W.kitOne K (.ref (cA1 K)) (.type "list") = some false
  kb_str_0 : PySem.W.kitOne K (.ref (cA0 K)) (.type "str") = some false
  kb_str_1 : PySem.W.kitOne K (.ref (cA1 K)) (.type "str") = some false
  kb_tuple_0 : PySem.W.kitOne K (.ref (cA0 K)) (.type "tuple") = some false
  kb_tuple_1 : PySem.W.kitOne K (.ref (cA1 K)) (.type "tuple") = some false
  em_HearError_0 : PySem.W.exmOne K (.ref (cA0 K)) (.ref (cA0 K)) = some true
  em_HearError_1 : PySem.W.exmOne K (.ref (cA1 K)) (.ref (cA0 K)) = some true
  f0 : FunD K "is_row" "is_row" (defArgs st0) (defBody st0) (defScope st0) [] [] (He.fAd K at0) (fdAt K (He.fAd K at0))
  f1 : FunD K "words_of" "words_of" (defArgs st1) (defBody st1) (defScope st1) [] [] (He.fAd K at1) (fdAt K (He.fAd K at1))
  f2 : FunD K "noise_at" "noise_at" (defArgs st2) (defBody st2) (defScope st2) [] [] (He.fAd K at2) (fdAt K (He.fAd K at2))
  f3 : FunD K "row_at" "row_at" (defArgs st3) (defBody st3) (defScope st3) [] [] (He.fAd K at3) (fdAt K (He.fAd K at3))
  f4 : FunD K "none_behind" "none_behind" (defArgs st4) (defBody st4) (defScope st4) [] [] (He.fAd K at4) (fdAt K (He.fAd K at4))
  f5 : FunD K "_law_pen" "_law_pen" (defArgs st5) (defBody st5) (defScope st5) [] [] (He.fAd K at5) (fdAt K (He.fAd K at5))
  f6 : FunD K "_law_draw" "_law_draw" (defArgs st6) (defBody st6) (defScope st6) [] [] (He.fAd K at6) (fdAt K (He.fAd K at6))
  f7 : FunD K "_law_pick" "_law_pick" (defArgs st7) (defBody st7) (defScope st7) [] [] (He.fAd K at7) (fdAt K (He.fAd K at7))
  f8 : FunD K "_law_caught" "_law_caught" (defArgs st8) (defBody st8) (defScope st8) [] [] (He.fAd K at8) (fdAt K (He.fAd K at8))
  f9 : FunD K "_law_like" "_law_like" (defArgs st9) (defBody st9) (defScope st9) [] [] (He.fAd K at9) (fdAt K (He.fAd K at9))
  f10 : FunD K "_law_sign" "_law_sign" (defArgs st10) (defBody st10) (defScope st10) [] [] (He.fAd K at10) (fdAt K (He.fAd K at10))
  f11 : FunD K "_law_word" "_law_word" (defArgs st11) (defBody st11) (defScope st11) [] [] (He.fAd K at11) (fdAt K (He.fAd K at11))
  f12 : FunD K "_law_parted" "_law_parted" (defArgs st12) (defBody st12) (defScope st12) [] [] (He.fAd K at12) (fdAt K (He.fAd K at12))
  f13 : FunD K "_law_noise" "_law_noise" (defArgs st13) (defBody st13) (defScope st13) [] [] (He.fAd K at13) (fdAt K (He.fAd K at13))
  f14 : FunD K "_law_row" "_law_row" (defArgs st14) (defBody st14) (defScope st14) [] [] (He.fAd K at14) (fdAt K (He.fAd K at14))
  f15 : FunD K "_law_as_due" "_law_as_due" (defArgs st15) (defBody st15) (defScope st15) [] [] (He.fAd K at15) (fdAt K (He.fAd K at15))
  f16 : FunD K "law" "law" (defArgs st16) (defBody st16) (defScope st16) [] [] (He.fAd K at16) (fdAt K (He.fAd K at16))
  fi1 : FunD K "__init__" "BadCommand.__init__" (defArgs si1) (defBody si1) (defScope si1) [] [] (He.fAd K ati1) (fdAt K (He.fAd K ati1))
theorem tt_of {w : World} {h : Heap} {K : PySem.W.Frag} {mg : Str → Option Value} (X : K.In h) (G0 : h.Ns mainGlobals mg) (c : He.SaysX faL fnL [] tfL ex w h K) : TT K mg := by
  refine ⟨?_, ?_, ?_, ?_, ?_, ?_, ?_, ?_, ?_, ?_, ?_, ?_, ?_, ?_, ?_, ?_, ?_, ?_, ?_, ?_, ?_, ?_, ?_, ?_, ?_, ?_, ?_, ?_, ?_, ?_, ?_, ?_, ?_, ?_, ?_, ?_, ?_, ?_, ?_, ?_, ?_, ?_, ?_, ?_, ?_, ?_, ?_, ?_, ?_, ?_, ?_, ?_, ?_, ?_, ?_, ?_, ?_, ?_, ?_, ?_, ?_, ?_, ?_, ?_, ?_, ?_, ?_, ?_, ?_, ?_, ?_, ?_, ?_⟩
  · exact He.glo_ok X G0 (c.t.d.fact 0 (f := .glo "BadCommand") rfl)
  · exact He.glo_ok X G0 (c.t.d.fact 1 (f := .glo "HearError") rfl)
  · exact He.glo_ok X G0 (c.t.d.fact 2 (f := .glo "_law_as_due") rfl)
  · exact He.glo_ok X G0 (c.t.d.fact 3 (f := .glo "_law_caught") rfl)
  · exact He.glo_ok X G0 (c.t.d.fact 4 (f := .glo "_law_draw") rfl)
  · exact He.glo_ok X G0 (c.t.d.fact 5 (f := .glo "_law_like") rfl)
  · exact He.glo_ok X G0 (c.t.d.fact 6 (f := .glo "_law_noise") rfl)
  · exact He.glo_ok X G0 (c.t.d.fact 7 (f := .glo "_law_parted") rfl)
  · exact He.glo_ok X G0 (c.t.d.fact 8 (f := .glo "_law_pen") rfl)
  · exact He.glo_ok X G0 (c.t.d.fact 9 (f := .glo "_law_pick") rfl)
  · exact He.glo_ok X G0 (c.t.d.fact 10 (f := .glo "_law_row") rfl)
  · exact He.glo_ok X G0 (c.t.d.fact 11 (f := .glo "_law_sign") rfl)
  · exact He.glo_ok X G0 (c.t.d.fact 12 (f := .glo "_law_word") rfl)
  · exact He.glo_ok X G0 (c.t.d.fact 13 (f := .glo "is_row") rfl)
  · exact He.glo_ok X G0 (c.t.d.fact 14 (f := .glo "law") rfl)
  · exact He.glo_ok X G0 (c.t.d.fact 15 (f := .glo "noise_at") rfl)
  · exact He.glo_ok X G0 (c.t.d.fact 16 (f := .glo "none_behind") rfl)
  · exact He.glo_ok X G0 (c.t.d.fact 17 (f := .glo "row_at") rfl)
  · exact He.glo_ok X G0 (c.t.d.fact 18 (f := .glo "words_of") rfl)
  · exact He.free_ok X G0 (c.t.d.fact 19 (f := .free "abs") rfl)
  · exact He.free_ok X G0 (c.t.d.fact 20 (f := .free "all") rfl)
  · exact He.free_ok X G0 (c.t.d.fact 21 (f := .free "bool") rfl)
  · exact He.free_ok X G0 (c.t.d.fact 22 (f := .free "int") rfl)
  · exact He.free_ok X G0 (c.t.d.fact 23 (f := .free "isinstance") rfl)
  · exact He.free_ok X G0 (c.t.d.fact 24 (f := .free "len") rfl)
  · exact He.free_ok X G0 (c.t.d.fact 25 (f := .free "list") rfl)
  · exact He.free_ok X G0 (c.t.d.fact 26 (f := .free "range") rfl)
  · exact He.free_ok X G0 (c.t.d.fact 27 (f := .free "str") rfl)
  · exact He.free_ok X G0 (c.t.d.fact 28 (f := .free "tuple") rfl)
  · exact He.free_ok X G0 (c.t.d.fact 29 (f := .free "zip") rfl)
  · exact He.str_ok X G0 (c.t.d.fact 30 (f := .str "FIGURES" "0123456789") rfl)
  · exact He.str_ok X G0 (c.t.d.fact 31 (f := .str "LETTERS" "abcdefghijklmnopqrstuvwxyz") rfl)
  · exact He.str_ok X G0 (c.t.d.fact 32 (f := .str "SILENCE" ".") rfl)
  · exact excCB_ok (ex_at c.more 0 rfl)
  · exact xfB_ok (ex_at c.more 1 rfl)
  · exact excCB_ok (ex_at c.more 2 rfl)
  · exact xfB_ok (ex_at c.more 3 rfl)
  · exact oexB_ok (ex_at c.more 4 rfl)
  · exact initB_ok (ex_at c.more 5 rfl)
  · exact He.eqO_ok (ex_at c.more 6 rfl)
  · exact kitsB_ok (ex_at c.more 7 rfl)
  · exact kitB_ok (ex_at c.more 8 rfl)
  · exact kitB_ok (ex_at c.more 9 rfl)
  · exact kitB_ok (ex_at c.more 10 rfl)
  · exact kitB_ok (ex_at c.more 11 rfl)
  · exact kitB_ok (ex_at c.more 12 rfl)
  · exact kitB_ok (ex_at c.more 13 rfl)
  · exact kitB_ok (ex_at c.more 14 rfl)
  · exact kitB_ok (ex_at c.more 15 rfl)
  · exact kitB_ok (ex_at c.more 16 rfl)
  · exact kitB_ok (ex_at c.more 17 rfl)
  · exact kitB_ok (ex_at c.more 18 rfl)
  · exact kitB_ok (ex_at c.more 19 rfl)
  · exact exmB_ok (ex_at c.more 20 rfl)
  · exact exmB_ok (ex_at c.more 21 rfl)
  · exact fdAt_of (c.t.d.def_ 0 (d := d0) rfl)
  · exact fdAt_of (c.t.d.def_ 1 (d := d1) rfl)
  · exact fdAt_of (c.t.d.def_ 2 (d := d2) rfl)
  · exact fdAt_of (c.t.d.def_ 3 (d := d3) rfl)
  · exact fdAt_of (c.t.d.def_ 4 (d := d4) rfl)
  · exact fdAt_of (c.t.d.def_ 5 (d := d5) rfl)
  · exact fdAt_of (c.t.d.def_ 6 (d := d6) rfl)
  · exact fdAt_of (c.t.d.def_ 7 (d := d7) rfl)
  · exact fdAt_of (c.t.d.def_ 8 (d := d8) rfl)
  · exact fdAt_of (c.t.d.def_ 9 (d := d9) rfl)
  · exact fdAt_of (c.t.d.def_ 10 (d := d10) rfl)
  · exact fdAt_of (c.t.d.def_ 11 (d := d11) rfl)
  · exact fdAt_of (c.t.d.def_ 12 (d := d12) rfl)
  · exact fdAt_of (c.t.d.def_ 13 (d := d13) rfl)
  · exact fdAt_of (c.t.d.def_ 14 (d := d14) rfl)
  · exact fdAt_of (c.t.d.def_ 15 (d := d15) rfl)
  · exact fdAt_of (c.t.d.def_ 16 (d := d16) rfl)
  · exact fdAt_of (c.t.d.def_ 17 (d := di1) rfl)
section
variable {P : Program} {w : World} {K : PySem.W.Frag} {mg : Str → Option Value} {base : Heap} {n : Nat}
structure OK (P : Program) (w : World) (K : PySem.W.Frag) (mg : Str → Option Value) (base : Heap) (n : Nat) : Prop where
  r0 : FnI (mkG K) P w K mg base (n + 2) (He.fAd K at0) (fdAt K (He.fAd K at0)) P0 ((run n).f 0)
  r1 : FnI (mkG K) P w K mg base (n + 2) (He.fAd K at1) (fdAt K (He.fAd K at1)) P1 ((run n).f 1)
  r2 : FnI (mkG K) P w K mg base (n + 2) (He.fAd K at2) (fdAt K (He.fAd K at2)) P2 ((run n).f 2)
  r3 : FnI (mkG K) P w K mg base (n + 2) (He.fAd K at3) (fdAt K (He.fAd K at3)) P3 ((run n).f 3)
  r4 : FnI (mkG K) P w K mg base (n + 2) (He.fAd K at4) (fdAt K (He.fAd K at4)) P4 ((run n).f 4)
  r5 : FnI (mkG K) P w K mg base (n + 2) (He.fAd K at5) (fdAt K (He.fAd K at5)) P5 ((run n).f 5)
  r6 : FnI (mkG K) P w K mg base (n + 2) (He.fAd K at6) (fdAt K (He.fAd K at6)) P6 ((run n).f 6)
  r7 : FnI (mkG K) P w K mg base (n + 2) (He.fAd K at7) (fdAt K (He.fAd K at7)) P7 ((run n).f 7)
  r8 : FnI (mkG K) P w K mg base (n + 2) (He.fAd K at8) (fdAt K (He.fAd K at8)) P8 ((run n).f 8)
  r9 : FnI (mkG K) P w K mg base (n + 2) (He.fAd K at9) (fdAt K (He.fAd K at9)) P9 ((run n).f 9)
  r10 : FnI (mkG K) P w K mg base (n + 2) (He.fAd K at10) (fdAt K (He.fAd K at10)) P10 ((run n).f 10)
  r11 : FnI (mkG K) P w K mg base (n + 2) (He.fAd K at11) (fdAt K (He.fAd K at11)) P11 ((run n).f 11)
  r12 : FnI (mkG K) P w K mg base (n + 2) (He.fAd K at12) (fdAt K (He.fAd K at12)) P12 ((run n).f 12)
  r13 : FnI (mkG K) P w K mg base (n + 2) (He.fAd K at13) (fdAt K (He.fAd K at13)) P13 ((run n).f 13)
  r14 : FnI (mkG K) P w K mg base (n + 2) (He.fAd K at14) (fdAt K (He.fAd K at14)) P14 ((run n).f 14)
  r15 : FnI (mkG K) P w K mg base (n + 2) (He.fAd K at15) (fdAt K (He.fAd K at15)) P15 ((run n).f 15)
  r16 : FnI (mkG K) P w K mg base (n + 2) (He.fAd K at16) (fdAt K (He.fAd K at16)) P16 ((run n).f 16)
  lam : ∀ k, LamOk (mkG K) P w K mg base (n + 2) k ((run n).l k)
structure TX (K : PySem.W.Frag) (mg : Str → Option Value) (base : Heap) : Prop extends TT K mg where
  b_is_row_1 : BindA (mkG K) K (fdAt K (He.fAd K at0)) P0 1 [] [0] []
  b__law_draw_2 : BindA (mkG K) K (fdAt K (He.fAd K at6)) P6 2 [] [0, 1] []
  b__law_like_2 : BindA (mkG K) K (fdAt K (He.fAd K at9)) P9 2 [] [0, 1] []
  b__law_pick_2 : BindA (mkG K) K (fdAt K (He.fAd K at7)) P7 2 [] [0, 1] []
  b__law_sign_1 : BindA (mkG K) K (fdAt K (He.fAd K at10)) P10 1 [] [0] []
  b__law_caught_1 : BindA (mkG K) K (fdAt K (He.fAd K at8)) P8 1 [] [0] []
  b__law_pen_1 : BindA (mkG K) K (fdAt K (He.fAd K at5)) P5 1 [] [0] []
  b__law_word_1 : BindA (mkG K) K (fdAt K (He.fAd K at11)) P11 1 [] [0] []
  b_words_of_1 : BindA (mkG K) K (fdAt K (He.fAd K at1)) P1 1 [] [0] []
  b__law_parted_1 : BindA (mkG K) K (fdAt K (He.fAd K at12)) P12 1 [] [0] []
  b__law_as_due_2 : BindA (mkG K) K (fdAt K (He.fAd K at15)) P15 2 [] [0, 1] []
  b__law_noise_2 : BindA (mkG K) K (fdAt K (He.fAd K at13)) P13 2 [] [0, 1] []
  b__law_row_2 : BindA (mkG K) K (fdAt K (He.fAd K at14)) P14 2 [] [0, 1] []
  b_words_of_0_line : BindA (mkG K) K (fdAt K (He.fAd K at1)) P1 0 ["line"] [0] []
  b_noise_at_2 : BindA (mkG K) K (fdAt K (He.fAd K at2)) P2 2 [] [0, 1] []
  b_row_at_0_at_words : BindA (mkG K) K (fdAt K (He.fAd K at3)) P3 0 ["at", "words"] [1, 0] []
  b_none_behind_2 : BindA (mkG K) K (fdAt K (He.fAd K at4)) P4 2 [] [0, 1] []
  b_noise_at_0_at_words : BindA (mkG K) K (fdAt K (He.fAd K at2)) P2 0 ["at", "words"] [1, 0] []
  b_none_behind_0_many_words : BindA (mkG K) K (fdAt K (He.fAd K at4)) P4 0 ["many", "words"] [1, 0] []
  tb : LamX.TabB base mg (He.cT K at16).1 (He.cT K at16).2
  isi_BadCommand : Isi (mkG K) K K43.isi_BadCommand (.ref (cA1 K))
  isi_bool : Isi (mkG K) K (tabB "bool" [] [0, 1]) (.type "bool")
  isi_int : Isi (mkG K) K (tabB "int" [] [0, 1]) (.type "int")
  isi_list : Isi (mkG K) K (tabB "list" [] [0, 1]) (.type "list")
  isi_str : Isi (mkG K) K (tabB "str" [] [0, 1]) (.type "str")
  isi_tuple : Isi (mkG K) K (tabB "tuple" [] [0, 1]) (.type "tuple")
  xf_word : ∀ c ∈ [1], XfC K ((mkG K).cls c) ∧ PySem.W.findIn K (.ref ((mkG K).cls c)) "word" = some none
  cov_HearError : ∀ p ∈ [(0, true), (1, true)], PySem.W.exmOne K (.ref ((mkG K).cls p.1)) (.ref (cA0 K)) = some p.2
  ini1 : ∀ {P : Program} {w : World} {k : Nat}, FnOk P w K mg base (L2.CX P w) (k + 1) (He.fAd K ati1) (fdAt K (He.fAd K ati1)) Pi1 (spX ((mkG K).cls 1) 1 ["word"] [0])
  bi1 : Binds K (fdAt K (He.fAd K ati1)) Pi1 []
theorem tx_of (T : TT K mg) (tb : LamX.TabB base mg (He.cT K at16).1 (He.cT K at16).2) : TX K mg base := { T with
  b_is_row_1 := BindA.ofD T.f0 fun _ _ _ _ _ _ us ws h1 h2 => match us, ws, h1, h2 with | [_], [], _, _ => rfl
  b__law_draw_2 := BindA.ofD T.f6 fun _ _ _ _ _ _ us ws h1 h2 => match us, ws, h1, h2 with | [_, _], [], _, _ => rfl
  b__law_like_2 := BindA.ofD T.f9 fun _ _ _ _ _ _ us ws h1 h2 => match us, ws, h1, h2 with | [_, _], [], _, _ => rfl
  b__law_pick_2 := BindA.ofD T.f7 fun _ _ _ _ _ _ us ws h1 h2 => match us, ws, h1, h2 with | [_, _], [], _, _ => rfl
  b__law_sign_1 := BindA.ofD T.f10 fun _ _ _ _ _ _ us ws h1 h2 => match us, ws, h1, h2 with | [_], [], _, _ => rfl
  b__law_caught_1 := BindA.ofD T.f8 fun _ _ _ _ _ _ us ws h1 h2 => match us, ws, h1, h2 with | [_], [], _, _ => rfl
  b__law_pen_1 := BindA.ofD T.f5 fun _ _ _ _ _ _ us ws h1 h2 => match us, ws, h1, h2 with | [_], [], _, _ => rfl
  b__law_word_1 := BindA.ofD T.f11 fun _ _ _ _ _ _ us ws h1 h2 => match us, ws, h1, h2 with | [_], [], _, _ => rfl
  b_words_of_1 := BindA.ofD T.f1 fun _ _ _ _ _ _ us ws h1 h2 => match us, ws, h1, h2 with | [_], [], _, _ => rfl
  b__law_parted_1 := BindA.ofD T.f12 fun _ _ _ _ _ _ us ws h1 h2 => match us, ws, h1, h2 with | [_], [], _, _ => rfl
  b__law_as_due_2 := BindA.ofD T.f15 fun _ _ _ _ _ _ us ws h1 h2 => match us, ws, h1, h2 with | [_, _], [], _, _ => rfl
  b__law_noise_2 := BindA.ofD T.f13 fun _ _ _ _ _ _ us ws h1 h2 => match us, ws, h1, h2 with | [_, _], [], _, _ => rfl
  b__law_row_2 := BindA.ofD T.f14 fun _ _ _ _ _ _ us ws h1 h2 => match us, ws, h1, h2 with | [_, _], [], _, _ => rfl
  b_words_of_0_line := BindA.ofD T.f1 fun _ _ _ _ _ _ us ws h1 h2 => match us, ws, h1, h2 with | [], [_], _, _ => rfl
  b_noise_at_2 := BindA.ofD T.f2 fun _ _ _ _ _ _ us ws h1 h2 => match us, ws, h1, h2 with | [_, _], [], _, _ => rfl
  b_row_at_0_at_words := BindA.ofD T.f3 fun _ _ _ _ _ _ us ws h1 h2 => match us, ws, h1, h2 with | [], [_, _], _, _ => rfl
  b_none_behind_2 := BindA.ofD T.f4 fun _ _ _ _ _ _ us ws h1 h2 => match us, ws, h1, h2 with | [_, _], [], _, _ => rfl
  b_noise_at_0_at_words := BindA.ofD T.f2 fun _ _ _ _ _ _ us ws h1 h2 => match us, ws, h1, h2 with | [], [_, _], _, _ => rfl
  b_none_behind_0_many_words := BindA.ofD T.f4 fun _ _ _ _ _ _ us ws h1 h2 => match us, ws, h1, h2 with | [], [_, _], _, _ => rfl
  tb := tb
  isi_BadCommand := isi_O T.ks_BadCommand (fun c hc => (by cases hc)) (by
    intro p hp
    have hp' : p = (0, false) ∨ p = (1, true) := by simpa using hp
    rcases hp' with rfl | rfl
    · exact ⟨T.oc0, T.ko_BadCommand_0⟩
    · exact ⟨T.oc1, T.ko_BadCommand_1⟩
    )
  isi_bool := isi_B (by decide) (fun c hc => (by cases hc)) (by
    intro c hc
    have hc' : c = 0 ∨ c = 1 := by simpa using hc
    rcases hc' with rfl | rfl
    · exact ⟨T.oc0, T.kb_bool_0⟩
    · exact ⟨T.oc1, T.kb_bool_1⟩)
  isi_int := isi_B (by decide) (fun c hc => (by cases hc)) (by
    intro c hc
    have hc' : c = 0 ∨ c = 1 := by simpa using hc
    rcases hc' with rfl | rfl
    · exact ⟨T.oc0, T.kb_int_0⟩
    · exact ⟨T.oc1, T.kb_int_1⟩)
  isi_list := isi_B (by decide) (fun c hc => (by cases hc)) (by
    intro c hc
    have hc' : c = 0 ∨ c = 1 := by simpa using hc
    rcases hc' with rfl | rfl
    · exact ⟨T.oc0, T.kb_list_0⟩
    · exact ⟨T.oc1, T.kb_list_1⟩)
  isi_str := isi_B (by decide) (fun c hc => (by cases hc)) (by
    intro c hc
    have hc' : c = 0 ∨ c = 1 := by simpa using hc
    rcases hc' with rfl | rfl
    · exact ⟨T.oc0, T.kb_str_0⟩
    · exact ⟨T.oc1, T.kb_str_1⟩)
  isi_tuple := isi_B (by decide) (fun c hc => (by cases hc)) (by
    intro c hc
    have hc' : c = 0 ∨ c = 1 := by simpa using hc
    rcases hc' with rfl | rfl
    · exact ⟨T.oc0, T.kb_tuple_0⟩
    · exact ⟨T.oc1, T.kb_tuple_1⟩)
  xf_word := by
    intro c hc
    have hc' : c = 1 := by simpa using hc
    rcases hc' with rfl
    · exact ⟨T.xc1, T.na1_word⟩
  cov_HearError := by
    intro p hp
    have hp' : p = (0, true) ∨ p = (1, true) := by simpa using hp
    rcases hp' with rfl | rfl
    · exact T.em_HearError_0
    · exact T.em_HearError_1
  ini1 := init1 T.fi1 sci1 rfl T.ox1 T.na1_word (Or.inl rfl) (Or.inl rfl)
  bi1 := FunD.bindsN T.fi1 fun _ _ _ _ _ _ us hl => match us, hl with | [_, _], _ => rfl
  }
theorem ok_0 (T : TX K mg base) (h : OK P w K mg base n) : FnI (mkG K) P w K mg base (n + 3) (He.fAd K at0) (fdAt K (He.fAd K at0)) P0 ((run (n + 1)).f 0) :=
  FnI.of (N := N0) (p := at0) (b := b_0 (run n)) T.f0 sc0 fun A outer s H E hr => by
    have tkB := L2.takes_of (X := cxOf (L2.CX P w) P w K mg base N0 "is_row" (defScope st0) (He.fAd K at0) (.ref (He.codeOf K at0)) A outer s H E) (E := E) rfl rfl rfl rfl
    exact (i_pone (i_ret (i_and (i_isi rfl rfl T.n_isinstance (.ty _) T.isi_str (iv 0) (e_ty T.n_str)) (i_one (i_bf (cr_all rfl) (fAll_ok rfl) rfl T.n_all (by rfl) (i_comp rfl (own := [("sign", 1)]) (by decide) rfl (sc0).nd (i_wseq rfl (iv 0)) (blkOk_by (N := N0) (sc := (defScope st0)) (by decide +kernel)) (fun _ _ _ _ _ => (i_gnm (i := 1) (sc0).nd rfl (by first | exact Or.inl rfl | exact Or.inr rfl))) (fun _ _ _ _ _ => i_ifs0) (fun _ _ _ _ _ => (i_or (i_cmp (op_inX (room65 hr)) (fIn_ok rfl) (iv 1) (i_gstr T.s_LETTERS) (by with_unfolding_all rfl)) (i_one (i_cmp (op_eqX hr.units) (fEq_ok rfl) (iv 1) (i_gstr T.s_SILENCE) (nomark _)))))))))))
theorem ok_1 (T : TX K mg base) (h : OK P w K mg base n) : FnI (mkG K) P w K mg base (n + 3) (He.fAd K at1) (fdAt K (He.fAd K at1)) P1 ((run (n + 1)).f 1) :=
  FnI.of (N := N1) (p := at1) (b := b_1 (run n)) T.f1 sc1 fun A outer s H E hr => by
    have tkB := L2.takes_of (X := cxOf (L2.CX P w) P w K mg base N1 "words_of" (defScope st1) (He.fAd K at1) (.ref (He.codeOf K at1)) A outer s H E) (E := E) rfl rfl rfl rfl
    exact (i_pcons (i_if (i_tnot (i_tval (i_isi rfl rfl T.n_isinstance (.ty _) T.isi_str (iv 0) (e_ty T.n_str)) (by intro _; rfl))) (i_pone (i_raise (c := 1) rfl tkB T.ox1 T.in1.1 T.in1.2 (T.ini1 (k := 0)) (Room.mono hr (by omega)) T.bi1 rfl T.g_BadCommand (i_acons i_int i_anil))) i_pnil)
  (i_pone (i_ret (i_bt call_tuple_of (fTupOf_ok rfl) rfl T.n_tuple (by rfl) (i_m rfl PySem.F.plainAttrs_str PySem.F.slot_str_split PySem.F.type_str_split (MtR.toS mt_split) fSplit_ok (iv 0) (i_acons i_str i_anil))))))
theorem ok_2 (T : TX K mg base) (h : OK P w K mg base n) : FnI (mkG K) P w K mg base (n + 3) (He.fAd K at2) (fdAt K (He.fAd K at2)) P2 ((run (n + 1)).f 2) :=
  FnI.of (N := N2) (p := at2) (b := b_2 (run n)) T.f2 sc2 fun A outer s H E hr => by
    have tkB := L2.takes_of (X := cxOf (L2.CX P w) P w K mg base N2 "noise_at" (defScope st2) (He.fAd K at2) (.ref (He.codeOf K at2)) A outer s H E) (E := E) rfl rfl rfl rfl
    exact (i_pcons (i_if (PW.pt (i_wor (i_tcmp op_ge fGe_ok (iv 1) (i_bf call_len (fLen_ok rfl) rfl T.n_len (by rfl) (iv 0)) (nomark _)) (i_wor (i_tcmp (op_neX hr.units) (fNe_ok rfl) (i_bf call_len (fLen_ok rfl) rfl T.n_len (by rfl) (i_ix ix_seq (fIx_ok rfl) (iv 0) (iv 1) (fun _ _ => rfl))) i_int (nomark _)) (i_wor1 (i_tcmp (op_ninX (room65 hr)) (fIn_ok rfl) (i_ix ix_seq (fIx_ok rfl) (iv 0) (iv 1) (fun _ _ => rfl)) (i_add rfl (i_gstr T.s_FIGURES) i_str) (by with_unfolding_all rfl)))))) (i_pone (i_raise (c := 1) rfl tkB T.ox1 T.in1.1 T.in1.2 (T.ini1 (k := 0)) (Room.mono hr (by omega)) T.bi1 rfl T.g_BadCommand (i_acons (iv 1) i_anil))) i_pnil)
  (i_pone (i_ret (i_ifexp (i_tcmp (op_eqX hr.units) (fEq_ok rfl) (i_ix ix_seq (fIx_ok rfl) (iv 0) (iv 1) (fun _ _ => rfl)) i_str (nomark _)) i_non (i_bt call_intX fInt_ok rfl T.n_int (by rfl) (i_ix ix_seq (fIx_ok rfl) (iv 0) (iv 1) (fun _ _ => rfl)))))))
theorem ok_3 (T : TX K mg base) (h : OK P w K mg base n) : FnI (mkG K) P w K mg base (n + 3) (He.fAd K at3) (fdAt K (He.fAd K at3)) P3 ((run (n + 1)).f 3) :=
  FnI.of (N := N3) (p := at3) (b := b_3 (run n)) T.f3 sc3 fun A outer s H E hr => by
    have tkB := L2.takes_of (X := cxOf (L2.CX P w) P w K mg base N3 "row_at" (defScope st3) (He.fAd K at3) (.ref (He.codeOf K at3)) A outer s H E) (E := E) rfl rfl rfl rfl
    exact (i_pcons (i_if (PW.pt (i_wor (i_tcmp op_ge fGe_ok (iv 1) (i_bf call_len (fLen_ok rfl) rfl T.n_len (by rfl) (iv 0)) (nomark _)) (i_wor (i_tcmp (op_eqX hr.units) (fEq_ok rfl) (i_ix ix_seq (fIx_ok rfl) (iv 0) (iv 1) (fun _ _ => rfl)) i_str (nomark _)) (i_wor1 (PW.pt (i_wand (i_tcmp (op_neX hr.units) (fNe_ok rfl) (i_ix ix_seq (fIx_ok rfl) (iv 0) (iv 1) (fun _ _ => rfl)) i_str (nomark _)) (i_wand1 (i_tnot (i_tval (i_call (fl := []) (ix := [0]) h.r0 hr rfl T.g_is_row T.f0.kp T.b_is_row_1 tkB (i_acons (i_ix ix_seq (fIx_ok rfl) (iv 0) (iv 1) (fun _ _ => rfl)) i_anil)) (by intro _; rfl)))))))))) (i_pone (i_raise (c := 1) rfl tkB T.ox1 T.in1.1 T.in1.2 (T.ini1 (k := 0)) (Room.mono hr (by omega)) T.bi1 rfl T.g_BadCommand (i_acons (iv 1) i_anil))) i_pnil)
  (i_pone (i_ret (i_ifexp (i_tcmp (op_eqX hr.units) (fEq_ok rfl) (i_ix ix_seq (fIx_ok rfl) (iv 0) (iv 1) (fun _ _ => rfl)) i_str (nomark _)) i_str (i_ix ix_seq (fIx_ok rfl) (iv 0) (iv 1) (fun _ _ => rfl))))))
theorem ok_4 (T : TX K mg base) (h : OK P w K mg base n) : FnI (mkG K) P w K mg base (n + 3) (He.fAd K at4) (fdAt K (He.fAd K at4)) P4 ((run (n + 1)).f 4) :=
  FnI.of (N := N4) (p := at4) (b := b_4 (run n)) T.f4 sc4 fun A outer s H E hr => by
    have tkB := L2.takes_of (X := cxOf (L2.CX P w) P w K mg base N4 "none_behind" (defScope st4) (He.fAd K at4) (.ref (He.codeOf K at4)) A outer s H E) (E := E) rfl rfl rfl rfl
    exact (i_pone (i_if (i_tcmp op_gt fGt_ok (i_bf call_len (fLen_ok rfl) rfl T.n_len (by rfl) (iv 0)) (iv 1) (nomark _)) (i_pone (i_raise (c := 1) rfl tkB T.ox1 T.in1.1 T.in1.2 (T.ini1 (k := 0)) (Room.mono hr (by omega)) T.bi1 rfl T.g_BadCommand (i_acons (iv 1) i_anil))) i_pnil))
theorem ok_5 (T : TX K mg base) (h : OK P w K mg base n) : FnI (mkG K) P w K mg base (n + 3) (He.fAd K at5) (fdAt K (He.fAd K at5)) P5 ((run (n + 1)).f 5) :=
  FnI.of (N := N5) (p := at5) (b := b_5 (run n)) T.f5 sc5 fun A outer s H E hr => by
    have tkB := L2.takes_of (X := cxOf (L2.CX P w) P w K mg base N5 "_law_pen" (defScope st5) (He.fAd K at5) (.ref (He.codeOf K at5)) A outer s H E) (E := E) rfl rfl rfl rfl
    exact (i_pone (i_ret (i_lstP (i_acons (i_comp rfl (own := [("cell", 1)]) (by decide) rfl (sc5).nd (i_wseq rfl (i_sl rfl (iv 0) i_po0 (i_po1 i_int))) (blkOk_by (N := N5) (sc := (defScope st5)) (by decide +kernel)) (fun _ _ _ _ _ => (i_gnm (i := 1) (sc5).nd rfl (by first | exact Or.inl rfl | exact Or.inr rfl))) (fun _ _ _ _ _ => i_ifs0) (fun _ _ _ _ _ => (i_bt call_intX fInt_ok rfl T.n_int (by rfl) (iv 1)))) (i_acons i_int (i_acons i_int i_anil))))))
theorem ok_6 (T : TX K mg base) (h : OK P w K mg base n) : FnI (mkG K) P w K mg base (n + 3) (He.fAd K at6) (fdAt K (He.fAd K at6)) P6 ((run (n + 1)).f 6) :=
  FnI.of (N := N6) (p := at6) (b := b_6 (run n)) T.f6 sc6 fun A outer s H E hr => by
    have tkB := L2.takes_of (X := cxOf (L2.CX P w) P w K mg base N6 "_law_draw" (defScope st6) (He.fAd K at6) (.ref (He.codeOf K at6)) A outer s H E) (E := E) rfl rfl rfl rfl
    exact (i_pcons (i_if (i_tcmp op_gt fGt_ok (i_ix ix_seq (fIx_ok rfl) (iv 0) i_int (fun _ _ => rfl)) i_int (nomark _)) (i_pcons (i_set (i := 2) (sc6).nd rfl (by first | exact Or.inl rfl | exact Or.inr rfl) (i_bt call_intX fInt_ok rfl T.n_int (by rfl) (i_ix ix_seq (fIx_ok rfl) (iv 0) i_int (fun _ _ => rfl))))
  (i_pcons (i_setix (iv 0) i_int (i_div (iv 2) (iv 1)))
  (i_pone (i_ret (i_mod (i_bt call_intX fInt_ok rfl T.n_int (by rfl) (iv 2)) (iv 1)))))) i_pnil)
  (i_pcons (i_set (i := 3) (sc6).nd rfl (by first | exact Or.inl rfl | exact Or.inr rfl) (i_ix ix_seq (fIx_ok rfl) (iv 0) i_int (fun _ _ => rfl)))
  (i_pcons (i_setix (iv 0) i_int (i_add rfl (iv 3) i_int))
  (i_pcons (i_set (i := 4) (sc6).nd rfl (by first | exact Or.inl rfl | exact Or.inr rfl) (i_add rfl (i_mul i_int (iv 3)) i_int))
  (i_pcons (i_if (i_tcmp (op_neX hr.units) (fNe_ok rfl) (i_ix ix_seq (fIx_ok rfl) (iv 0) i_int (fun _ _ => rfl)) (i_lst i_anil) (nomark _)) (i_pone (i_set (i := 4) (sc6).nd rfl (by first | exact Or.inl rfl | exact Or.inr rfl) (i_ix ix_seq (fIx_ok rfl) (i_ix ix_seq (fIx_ok rfl) (iv 0) i_int (fun _ _ => rfl)) (i_mod (i_bt call_intX fInt_ok rfl T.n_int (by rfl) (iv 3)) (i_bf call_len (fLen_ok rfl) rfl T.n_len (by rfl) (i_ix ix_seq (fIx_ok rfl) (iv 0) i_int (fun _ _ => rfl)))) (fun _ _ => rfl)))) i_pnil)
  (i_pcons (i_if (PW.pt (i_wand (i_tcmp op_lt fLt_ok (iv 3) (i_bf call_len (fLen_ok rfl) rfl T.n_len (by rfl) (i_ix ix_seq (fIx_ok rfl) (iv 0) i_int (fun _ _ => rfl))) (nomark _)) (i_wand1 (i_tcmp op_ge fGe_ok (i_bf call_abs fAbs_ok rfl T.n_abs (by rfl) (iv 4)) (i_pow i_int i_int) (nomark _))))) (i_pcons (i_set (i := 2) (sc6).nd rfl (by first | exact Or.inl rfl | exact Or.inr rfl) (i_add rfl (i_mul i_int (i_sub (i_bf call_abs fAbs_ok rfl T.n_abs (by rfl) (i_bt call_intX fInt_ok rfl T.n_int (by rfl) (iv 4))) (i_pow i_int i_int))) (i_bt call_intX fInt_ok rfl T.n_int (by rfl) (i_cmp op_lt fLt_ok (iv 4) i_int (nomark _)))))
  (i_pcons (i_setix (iv 0) i_int (i_div (iv 2) (iv 1)))
  (i_pone (i_ret (i_mod (i_bt call_intX fInt_ok rfl T.n_int (by rfl) (iv 2)) (iv 1)))))) i_pnil)
  (i_pcons (i_set (i := 5) (sc6).nd rfl (by first | exact Or.inl rfl | exact Or.inr rfl) (i_mod (i_bt call_intX fInt_ok rfl T.n_int (by rfl) (i_pow (i_add rfl (i_add rfl (i_mod (i_bt call_intX fInt_ok rfl T.n_int (by rfl) (iv 4)) i_int) (i_mul i_int (iv 3))) i_int) i_int)) i_int))
  (i_pcons (i_set (i := 5) (sc6).nd rfl (by first | exact Or.inl rfl | exact Or.inr rfl) (i_mod (i_bt call_intX fInt_ok rfl T.n_int (by rfl) (i_pow (i_add rfl (i_add rfl (i_mul (iv 5) (i_add rfl (i_mul i_int (iv 3)) i_int)) (i_mul (i_mul i_int (iv 3)) (iv 3))) i_int) i_int)) i_int))
  (i_pone (i_ret (i_mod (i_bt call_intX fInt_ok rfl T.n_int (by rfl) (i_div (iv 5) i_int)) (iv 1))))))))))))
theorem ok_7 (T : TX K mg base) (h : OK P w K mg base n) : FnI (mkG K) P w K mg base (n + 3) (He.fAd K at7) (fdAt K (He.fAd K at7)) P7 ((run (n + 1)).f 7) :=
  FnI.of (N := N7) (p := at7) (b := b_7 (run n)) T.f7 sc7 fun A outer s H E hr => by
    have tkB := L2.takes_of (X := cxOf (L2.CX P w) P w K mg base N7 "_law_pick" (defScope st7) (He.fAd K at7) (.ref (He.codeOf K at7)) A outer s H E) (E := E) rfl rfl rfl rfl
    exact (i_pone (i_ret (i_ix ix_seq (fIx_ok rfl) (iv 1) (i_call (fl := [true]) (ix := [0, 1]) h.r6 hr rfl T.g__law_draw T.f6.kp T.b__law_draw_2 tkB (i_acons (iv 0) (i_acons (i_bf call_len (fLen_ok rfl) rfl T.n_len (by rfl) (iv 1)) i_anil))) (fun _ _ => rfl))))
theorem ok_8 (T : TX K mg base) (h : OK P w K mg base n) : FnI (mkG K) P w K mg base (n + 3) (He.fAd K at8) (fdAt K (He.fAd K at8)) P8 ((run (n + 1)).f 8) :=
  FnI.of (N := N8) (p := at8) (b := b_8 (run n)) T.f8 sc8 fun A outer s H E hr => by
    have tkB := L2.takes_of (X := cxOf (L2.CX P w) P w K mg base N8 "_law_caught" (defScope st8) (He.fAd K at8) (.ref (He.codeOf K at8)) A outer s H E) (E := E) rfl rfl rfl rfl
    exact (i_pcons (i_set (i := 1) (sc8).nd rfl (by first | exact Or.inl rfl | exact Or.inr rfl) i_non)
  (i_pcons (i_try (cov := [(0, true), (1, true)]) (i := 2) rfl rfl rfl (sc8).nd rfl rfl ⟨rfl, by decide, Or.inl T.g_HearError⟩ tkB T.cov_HearError (fun W1 pn xe tk1 pw => (i_pone (i_expr (i_clo (i := 0) h.lam hr tk1 rfl (by first | exact Or.inl rfl | exact Or.inr (Or.inl rfl) | exact Or.inr (Or.inr rfl)))))) (fun a pn => (i_pone (i_set (i := 1) (sc8).nd rfl (by first | exact Or.inl rfl | exact Or.inr rfl) (iv 2)))))
  (i_pone (i_ret (iv 1)))))
theorem ok_9 (T : TX K mg base) (h : OK P w K mg base n) : FnI (mkG K) P w K mg base (n + 3) (He.fAd K at9) (fdAt K (He.fAd K at9)) P9 ((run (n + 1)).f 9) :=
  FnI.of (N := N9) (p := at9) (b := b_9 (run n)) T.f9 sc9 fun A outer s H E hr => by
    have tkB := L2.takes_of (X := cxOf (L2.CX P w) P w K mg base N9 "_law_like" (defScope st9) (He.fAd K at9) (.ref (He.codeOf K at9)) A outer s H E) (E := E) rfl rfl rfl rfl
    exact (i_pcons (i_if (i_tcmp op_isX fIs_ok (iv 1) i_non (nomark _)) (i_pone (i_ret (i_cmp op_isX fIs_ok (iv 0) i_non (nomark _)))) i_pnil)
  (i_pcons (i_if (i_tval (i_isi rfl rfl T.n_isinstance (.ty _) T.isi_bool (iv 1) (e_ty T.n_bool)) (by intro _; rfl)) (i_pone (i_ret (i_ifexp (i_tval (iv 1) (by intro _; rfl)) (i_cmp op_isX fIs_ok (iv 0) i_bl (nomark _)) (i_cmp op_isX fIs_ok (iv 0) i_bl (nomark _))))) i_pnil)
  (i_pcons (i_if (i_tval (i_isi rfl rfl T.n_isinstance (.ty _) T.isi_tuple (iv 1) (e_ty T.n_tuple)) (by intro _; rfl)) (i_pone (i_ret (i_and (i_isi rfl rfl T.n_isinstance (.ty _) T.isi_tuple (iv 0) (e_ty T.n_tuple)) (i_and (i_cmp (op_eqX hr.units) (fEq_ok rfl) (i_bf call_len (fLen_ok rfl) rfl T.n_len (by rfl) (iv 0)) (i_bf call_len (fLen_ok rfl) rfl T.n_len (by rfl) (iv 1)) (nomark _)) (i_one (i_bf (cr_all rfl) (fAll_ok rfl) rfl T.n_all (by rfl) (i_comp rfl (own := [("one", 2), ("other", 3)]) (by decide) rfl (sc9).nd (i_wzip rfl rfl T.n_zip (i_acons (iv 0) (i_acons (iv 1) i_anil))) (blkOk_by (N := N9) (sc := (defScope st9)) (by decide +kernel)) (fun _ _ _ _ _ => (i_gtp rfl (i_gs (i_gnm (i := 2) (sc9).nd rfl (by first | exact Or.inl rfl | exact Or.inr rfl)) (i_gs (i_gnm (i := 3) (sc9).nd rfl (by first | exact Or.inl rfl | exact Or.inr rfl)) i_gs0)))) (fun _ _ _ _ _ => i_ifs0) (fun _ _ _ _ _ => (i_call (fl := []) (ix := [0, 1]) h.r9 hr rfl T.g__law_like T.f9.kp T.b__law_like_2 LamX.takes0 (i_acons (iv 2) (i_acons (iv 3) i_anil))))))))))) i_pnil)
  (i_pcons (i_if (i_tval (i_isi rfl rfl T.n_isinstance (.ty _) T.isi_str (iv 1) (e_ty T.n_str)) (by intro _; rfl)) (i_pone (i_ret (i_and (i_isi rfl rfl T.n_isinstance (.ty _) T.isi_str (iv 0) (e_ty T.n_str)) (i_one (i_cmp (op_eqX hr.units) (fEq_ok rfl) (iv 0) (iv 1) (nomark _)))))) i_pnil)
  (i_pone (i_ret (i_and (i_isi rfl rfl T.n_isinstance (.ty _) T.isi_int (iv 0) (e_ty T.n_int)) (i_and (i_not (i_isi rfl rfl T.n_isinstance (.ty _) T.isi_bool (iv 0) (e_ty T.n_bool))) (i_one (i_cmp (op_eqX hr.units) (fEq_ok rfl) (iv 0) (iv 1) (nomark _)))))))))))
theorem ok_10 (T : TX K mg base) (h : OK P w K mg base n) : FnI (mkG K) P w K mg base (n + 3) (He.fAd K at10) (fdAt K (He.fAd K at10)) P10 ((run (n + 1)).f 10) :=
  FnI.of (N := N10) (p := at10) (b := b_10 (run n)) T.f10 sc10 fun A outer s H E hr => by
    have tkB := L2.takes_of (X := cxOf (L2.CX P w) P w K mg base N10 "_law_sign" (defScope st10) (He.fAd K at10) (.ref (He.codeOf K at10)) A outer s H E) (E := E) rfl rfl rfl rfl
    exact (i_pone (i_ret (i_call (fl := [true]) (ix := [0, 1]) h.r7 hr rfl T.g__law_pick T.f7.kp T.b__law_pick_2 tkB (i_acons (iv 0) (i_acons (i_call (fl := [true]) (ix := [0, 1]) h.r7 hr rfl T.g__law_pick T.f7.kp T.b__law_pick_2 tkB (i_acons (iv 0) (i_acons (i_lst (i_acons i_str (i_acons i_str (i_acons i_str (i_acons i_str i_anil))))) i_anil))) i_anil)))))
theorem ok_11 (T : TX K mg base) (h : OK P w K mg base n) : FnI (mkG K) P w K mg base (n + 3) (He.fAd K at11) (fdAt K (He.fAd K at11)) P11 ((run (n + 1)).f 11) :=
  FnI.of (N := N11) (p := at11) (b := b_11 (run n)) T.f11 sc11 fun A outer s H E hr => by
    have tkB := L2.takes_of (X := cxOf (L2.CX P w) P w K mg base N11 "_law_word" (defScope st11) (He.fAd K at11) (.ref (He.codeOf K at11)) A outer s H E) (E := E) rfl rfl rfl rfl
    exact (i_pcons (i_set (i := 1) (sc11).nd rfl (by first | exact Or.inl rfl | exact Or.inr rfl) (i_lst (i_acons (i_bt call_strX fStr_ok rfl T.n_str (by rfl) (i_call (fl := [true]) (ix := [0, 1]) h.r6 hr rfl T.g__law_draw T.f6.kp T.b__law_draw_2 tkB (i_acons (iv 0) (i_acons i_int i_anil)))) (i_acons i_str (i_acons i_str (i_acons i_str (i_acons i_str (i_acons i_str (i_acons i_str (i_acons i_str (i_acons i_str (i_acons i_str (i_acons i_str (i_acons i_str (i_acons i_str (i_acons i_str (i_acons i_str i_anil)))))))))))))))))
  (i_pcons (i_if (i_tcmp (op_eqX hr.units) (fEq_ok rfl) (i_call (fl := [true]) (ix := [0, 1]) h.r6 hr rfl T.g__law_draw T.f6.kp T.b__law_draw_2 tkB (i_acons (iv 0) (i_acons i_int i_anil))) i_int (nomark _)) (i_pone (i_ret (i_call (fl := [true]) (ix := [0, 1]) h.r7 hr rfl T.g__law_pick T.f7.kp T.b__law_pick_2 tkB (i_acons (iv 0) (i_acons (iv 1) i_anil))))) i_pnil)
  (i_pone (i_ret (i_m rfl PySem.F.plainAttrs_str PySem.F.slot_str_join PySem.F.type_str_join (MtR.toS mt_join) (fJoin_ok rfl) i_str (i_acons (i_comp rfl (own := [("turn", 2)]) (by decide) rfl (sc11).nd (i_wrng1 rfl T.n_range (i_acons (i_call (fl := [true]) (ix := [0, 1]) h.r6 hr rfl T.g__law_draw T.f6.kp T.b__law_draw_2 tkB (i_acons (iv 0) (i_acons (i_call (fl := [true]) (ix := [0, 1]) h.r7 hr rfl T.g__law_pick T.f7.kp T.b__law_pick_2 tkB (i_acons (iv 0) (i_acons (i_lst (i_acons i_int (i_acons i_int (i_acons i_int (i_acons i_int i_anil))))) i_anil))) i_anil))) i_anil)) (blkOk_by (N := N11) (sc := (defScope st11)) (by decide +kernel)) (fun _ _ _ _ _ => (i_gnm (i := 2) (sc11).nd rfl (by first | exact Or.inl rfl | exact Or.inr rfl))) (fun _ _ _ _ _ => i_ifs0) (fun _ _ _ _ _ => (i_call (fl := [true]) (ix := [0]) h.r10 hr rfl T.g__law_sign T.f10.kp T.b__law_sign_1 LamX.takes0 (i_acons (iv 0) i_anil)))) i_anil))))))
theorem ok_12 (T : TX K mg base) (h : OK P w K mg base n) : FnI (mkG K) P w K mg base (n + 3) (He.fAd K at12) (fdAt K (He.fAd K at12)) P12 ((run (n + 1)).f 12) :=
  FnI.of (N := N12) (p := at12) (b := b_12 (run n)) T.f12 sc12 fun A outer s H E hr => by
    have tkB := L2.takes_of (X := cxOf (L2.CX P w) P w K mg base N12 "_law_parted" (defScope st12) (He.fAd K at12) (.ref (He.codeOf K at12)) A outer s H E) (E := E) rfl rfl rfl rfl
    exact (i_pcons (i_set (i := 1) (sc12).nd rfl (by first | exact Or.inl rfl | exact Or.inr rfl) (i_lstP (i_acons i_str i_anil)))
  (i_pcons (i_for rfl (passes_of rfl) rfl (i_wseq rfl (iv 0)) (i_gnm (i := 2) (sc12).nd rfl (by first | exact Or.inl rfl | exact Or.inr rfl)) (i_pone (i_if (i_tcmp (op_eqX hr.units) (fEq_ok rfl) (iv 2) i_str (nomark _)) (i_pone (i_expr (i_m rfl PySem.F.plainAttrs_list PySem.F.slot_list_append PySem.F.type_list_append (MtR.toS (r0 := rAppend) mt_append) fApp_ok (iv 1) (i_acons i_str i_anil)))) (i_pone (i_setix (iv 1) (i_neg i_int) (i_add rfl (i_ix ix_seq (fIx_ok rfl) (iv 1) (i_neg i_int) (fun _ _ => rfl)) (iv 2)))))))
  (i_pone (i_ret (i_bt call_tuple_of (fTupOf_ok rfl) rfl T.n_tuple (by rfl) (iv 1))))))
theorem ok_13 (T : TX K mg base) (h : OK P w K mg base n) : FnI (mkG K) P w K mg base (n + 3) (He.fAd K at13) (fdAt K (He.fAd K at13)) P13 ((run (n + 1)).f 13) :=
  FnI.of (N := N13) (p := at13) (b := b_13 (run n)) T.f13 sc13 fun A outer s H E hr => by
    have tkB := L2.takes_of (X := cxOf (L2.CX P w) P w K mg base N13 "_law_noise" (defScope st13) (He.fAd K at13) (.ref (He.codeOf K at13)) A outer s H E) (E := E) rfl rfl rfl rfl
    exact (i_pcons (i_if (PW.pt (i_wand (i_tcmp op_lt fLt_ok (iv 1) (i_bf call_len (fLen_ok rfl) rfl T.n_len (by rfl) (iv 0)) (nomark _)) (i_wand1 (i_tcmp (op_inX (room65 hr)) (fIn_ok rfl) (i_ix ix_seq (fIx_ok rfl) (iv 0) (iv 1) (fun _ _ => rfl)) (i_lst (i_acons i_str (i_acons i_str (i_acons i_str (i_acons i_str (i_acons i_str (i_acons i_str (i_acons i_str (i_acons i_str (i_acons i_str (i_acons i_str (i_acons i_str i_anil)))))))))))) (by with_unfolding_all rfl))))) (i_pone (i_ret (i_lst (i_acons (i_ifexp (i_tcmp (op_eqX hr.units) (fEq_ok rfl) (i_ix ix_seq (fIx_ok rfl) (iv 0) (iv 1) (fun _ _ => rfl)) i_str (nomark _)) i_non (i_m rfl PySem.F.plainAttrs_str PySem.F.slot_str_index PySem.F.type_str_index (mt_indexX rfl tkB) fIndexS_ok i_str (i_acons (i_ix ix_seq (fIx_ok rfl) (iv 0) (iv 1) (fun _ _ => rfl)) i_anil))) i_anil)))) i_pnil)
  (i_pone (i_ret (iv 1))))
theorem ok_14 (T : TX K mg base) (h : OK P w K mg base n) : FnI (mkG K) P w K mg base (n + 3) (He.fAd K at14) (fdAt K (He.fAd K at14)) P14 ((run (n + 1)).f 14) :=
  FnI.of (N := N14) (p := at14) (b := b_14 (run n)) T.f14 sc14 fun A outer s H E hr => by
    have tkB := L2.takes_of (X := cxOf (L2.CX P w) P w K mg base N14 "_law_row" (defScope st14) (He.fAd K at14) (.ref (He.codeOf K at14)) A outer s H E) (E := E) rfl rfl rfl rfl
    exact (i_pcons (i_if (PW.pt (i_wor (i_tcmp op_ge fGe_ok (iv 1) (i_bf call_len (fLen_ok rfl) rfl T.n_len (by rfl) (iv 0)) (nomark _)) (i_wor1 (i_tcmp (op_eqX hr.units) (fEq_ok rfl) (i_ix ix_seq (fIx_ok rfl) (iv 0) (iv 1) (fun _ _ => rfl)) i_str (nomark _))))) (i_pone (i_ret (iv 1))) i_pnil)
  (i_pcons (i_if (i_tcmp (op_eqX hr.units) (fEq_ok rfl) (i_ix ix_seq (fIx_ok rfl) (iv 0) (iv 1) (fun _ _ => rfl)) i_str (nomark _)) (i_pone (i_ret (i_lst (i_acons i_str i_anil)))) i_pnil)
  (i_pcons (i_if (i_tcmp (op_neX hr.units) (fNe_ok rfl) (i_comp rfl (own := [("sign", 2)]) (by decide) rfl (sc14).nd (i_wseq rfl (i_ix ix_seq (fIx_ok rfl) (iv 0) (iv 1) (fun _ _ => rfl))) (blkOk_by (N := N14) (sc := (defScope st14)) (by decide +kernel)) (fun _ _ _ _ _ => (i_gnm (i := 2) (sc14).nd rfl (by first | exact Or.inl rfl | exact Or.inr rfl))) (fun _ _ _ _ _ => (i_ifs1 (i_tcmp (op_ninX (room65 hr)) (fIn_ok rfl) (iv 2) i_str (by with_unfolding_all rfl)))) (fun _ _ _ _ _ => (iv 2))) (i_lst i_anil) (nomark _)) (i_pone (i_ret (iv 1))) i_pnil)
  (i_pone (i_ret (i_lst (i_acons (i_ix ix_seq (fIx_ok rfl) (iv 0) (iv 1) (fun _ _ => rfl)) i_anil)))))))
theorem ok_15 (T : TX K mg base) (h : OK P w K mg base n) : FnI (mkG K) P w K mg base (n + 3) (He.fAd K at15) (fdAt K (He.fAd K at15)) P15 ((run (n + 1)).f 15) :=
  FnI.of (N := N15) (p := at15) (b := b_15 (run n)) T.f15 sc15 fun A outer s H E hr => by
    have tkB := L2.takes_of (X := cxOf (L2.CX P w) P w K mg base N15 "_law_as_due" (defScope st15) (He.fAd K at15) (.ref (He.codeOf K at15)) A outer s H E) (E := E) rfl rfl rfl rfl
    exact (i_pcons (i_set (i := 2) (sc15).nd rfl (by first | exact Or.inl rfl | exact Or.inr rfl) (i_call (fl := []) (ix := [0]) h.r8 hr rfl T.g__law_caught T.f8.kp T.b__law_caught_1 tkB (i_acons (iv 0) i_anil)))
  (i_pcons (i_if (i_tval (i_isi rfl rfl T.n_isinstance (.ty _) T.isi_list (iv 1) (e_ty T.n_list)) (by intro _; rfl)) (i_pone (i_ret (i_and (i_cmp op_isX fIs_ok (iv 2) i_non (nomark _)) (i_one (i_call (fl := []) (ix := [0, 1]) h.r9 hr rfl T.g__law_like T.f9.kp T.b__law_like_2 tkB (i_acons (i_clo (i := 0) h.lam hr tkB rfl (by first | exact Or.inl rfl | exact Or.inr (Or.inl rfl) | exact Or.inr (Or.inr rfl))) (i_acons (i_ix ix_seq (fIx_ok rfl) (iv 1) i_int (fun _ _ => rfl)) i_anil))))))) i_pnil)
  (i_pone (i_ret (i_and (i_isi rfl rfl T.n_isinstance (.own _) T.isi_BadCommand (iv 2) (e_cls T.g_BadCommand)) (i_one (i_call (fl := []) (ix := [0, 1]) h.r9 hr rfl T.g__law_like T.f9.kp T.b__law_like_2 tkB (i_acons (i_xf T.xf_word (iv 2)) (i_acons (iv 1) i_anil)))))))))
theorem ok_16 (T : TX K mg base) (h : OK P w K mg base n) : FnI (mkG K) P w K mg base (n + 3) (He.fAd K at16) (fdAt K (He.fAd K at16)) P16 ((run (n + 1)).f 16) :=
  FnI.of (N := N16) (p := at16) (b := b_16 (run n)) T.f16 sc16 fun A outer s H E hr => by
    have tkB := L2.takes_of (X := cxOf (L2.CX P w) P w K mg base N16 "law" (defScope st16) (He.fAd K at16) (.ref (He.codeOf K at16)) A outer s H E) (E := E) rfl rfl rfl rfl
    exact (i_pcons (i_set (i := 1) (sc16).nd rfl (by first | exact Or.inl rfl | exact Or.inr rfl) (i_call (fl := []) (ix := [0]) h.r5 hr rfl T.g__law_pen T.f5.kp T.b__law_pen_1 tkB (i_acons (iv 0) i_anil)))
  (i_pcons (i_for rfl (passes_of rfl) rfl (i_wrng1 rfl T.n_range (i_acons i_int i_anil)) (i_gnm (i := 2) (sc16).nd rfl (by first | exact Or.inl rfl | exact Or.inr rfl)) (i_pcons (i_set (i := 3) (sc16).nd rfl (by first | exact Or.inl rfl | exact Or.inr rfl) (i_comp rfl (own := [("part", 7)]) (by decide) rfl (sc16).nd (i_wrng1 rfl T.n_range (i_acons (i_call (fl := [true]) (ix := [0, 1]) h.r6 hr rfl T.g__law_draw T.f6.kp T.b__law_draw_2 tkB (i_acons (iv 1) (i_acons i_int i_anil))) i_anil)) (blkOk_by (N := N16) (sc := (defScope st16)) (by decide +kernel)) (fun _ _ _ _ _ => (i_gnm (i := 7) (sc16).nd rfl (by first | exact Or.inl rfl | exact Or.inr rfl))) (fun _ _ _ _ _ => i_ifs0) (fun _ _ _ _ _ => (i_call (fl := [true]) (ix := [0]) h.r11 hr rfl T.g__law_word T.f11.kp T.b__law_word_1 LamX.takes0 (i_acons (iv 1) i_anil)))))
  (i_pcons (i_set (i := 4) (sc16).nd rfl (by first | exact Or.inl rfl | exact Or.inr rfl) (i_m rfl PySem.F.plainAttrs_str PySem.F.slot_str_join PySem.F.type_str_join (MtR.toS mt_join) (fJoin_ok rfl) i_str (i_acons (iv 3) i_anil)))
  (i_pcons (i_if (i_tnot (i_tval (i_call (fl := []) (ix := [0, 1]) h.r9 hr rfl T.g__law_like T.f9.kp T.b__law_like_2 tkB (i_acons (i_call (fl := []) (ix := [0]) h.r1 hr rfl T.g_words_of T.f1.kp T.b_words_of_1 tkB (i_acons (iv 4) i_anil)) (i_acons (i_call (fl := []) (ix := [0]) h.r12 hr rfl T.g__law_parted T.f12.kp T.b__law_parted_1 tkB (i_acons (iv 4) i_anil)) i_anil))) (by intro _; rfl))) (i_pone (i_ret i_bl)) i_pnil)
  (i_pcons (i_asgs rfl (i_acons (i_call (fl := []) (ix := [0]) h.r12 hr rfl T.g__law_parted T.f12.kp T.b__law_parted_1 tkB (i_acons (iv 4) i_anil)) (i_acons (i_call (fl := [true]) (ix := [0, 1]) h.r6 hr rfl T.g__law_draw T.f6.kp T.b__law_draw_2 tkB (i_acons (iv 1) (i_acons i_int i_anil))) i_anil)) (i_gtp rfl (i_gs (i_gnm (i := 3) (sc16).nd rfl (by first | exact Or.inl rfl | exact Or.inr rfl)) (i_gs (i_gnm (i := 5) (sc16).nd rfl (by first | exact Or.inl rfl | exact Or.inr rfl)) i_gs0))))
  (i_pcons (i_if (i_tnot (i_tval (i_callLm (G := mkG K) (lk := 0) (js := [3, 5]) (ix := [0, 1]) rfl rfl rfl (h.r15) hr rfl T.g__law_as_due T.f15.kp T.b__law_as_due_2 tkB rfl lamF_0 T.tb rfl (List.mem_singleton.mpr rfl) (fun p hp _ => by rw [List.mem_singleton.mp hp] <;> rfl) (by exact (by decide +kernel : ∀ y ∈ (lamI 0).caps, (defScope st16).names.lookup y = some .cell)) (by exact (caps_at (caps := (lamI 0).caps) (N := N16) (js := [3, 5]) (by decide +kernel))) rfl (fun _ => rfl) (i_acons (i_call (fl := []) (ix := [0, 1]) h.r13 hr rfl T.g__law_noise T.f13.kp T.b__law_noise_2 tkB (i_acons (iv 3) (i_acons (iv 5) i_anil))) i_anil)) (by intro _; rfl))) (i_pone (i_ret i_bl)) i_pnil)
  (i_pcons (i_if (i_tnot (i_tval (i_callLm (G := mkG K) (lk := 1) (js := [3, 5]) (ix := [0, 1]) rfl rfl rfl (h.r15) hr rfl T.g__law_as_due T.f15.kp T.b__law_as_due_2 tkB rfl lamF_1 T.tb rfl (List.mem_singleton.mpr rfl) (fun p hp _ => by rw [List.mem_singleton.mp hp] <;> rfl) (by exact (by decide +kernel : ∀ y ∈ (lamI 1).caps, (defScope st16).names.lookup y = some .cell)) (by exact (caps_at (caps := (lamI 1).caps) (N := N16) (js := [3, 5]) (by decide +kernel))) rfl (fun _ => rfl) (i_acons (i_call (fl := []) (ix := [0, 1]) h.r14 hr rfl T.g__law_row T.f14.kp T.b__law_row_2 tkB (i_acons (iv 3) (i_acons (iv 5) i_anil))) i_anil)) (by intro _; rfl))) (i_pone (i_ret i_bl)) i_pnil)
  (i_pcons (i_if (i_tnot (i_tval (i_callLm (G := mkG K) (lk := 2) (js := [3, 5]) (ix := [0, 1]) rfl rfl rfl (h.r15) hr rfl T.g__law_as_due T.f15.kp T.b__law_as_due_2 tkB rfl lamF_2 T.tb rfl (List.mem_singleton.mpr rfl) (fun p hp _ => by rw [List.mem_singleton.mp hp] <;> rfl) (by exact (by decide +kernel : ∀ y ∈ (lamI 2).caps, (defScope st16).names.lookup y = some .cell)) (by exact (caps_at (caps := (lamI 2).caps) (N := N16) (js := [3, 5]) (by decide +kernel))) rfl (fun _ => rfl) (i_acons (i_ifexp (i_tcmp op_le fLe_ok (i_bf call_len (fLen_ok rfl) rfl T.n_len (by rfl) (iv 3)) (iv 5) (nomark _)) (i_lst (i_acons i_non i_anil)) (iv 5)) i_anil)) (by intro _; rfl))) (i_pone (i_ret i_bl)) i_pnil)
  (i_pcons (i_if (i_tnot (i_tval (i_callLm (G := mkG K) (lk := 3) (js := [3, 5]) (ix := [0, 1]) rfl rfl rfl (h.r15) hr rfl T.g__law_as_due T.f15.kp T.b__law_as_due_2 tkB rfl lamF_3 T.tb rfl (List.mem_singleton.mpr rfl) (fun p hp _ => by rw [List.mem_singleton.mp hp] <;> rfl) (by exact (by decide +kernel : ∀ y ∈ (lamI 3).caps, (defScope st16).names.lookup y = some .cell)) (by exact (caps_at (caps := (lamI 3).caps) (N := N16) (js := [3, 5]) (by decide +kernel))) rfl (fun _ => rfl) (i_acons (i_call (fl := []) (ix := [0, 1]) h.r13 hr rfl T.g__law_noise T.f13.kp T.b__law_noise_2 tkB (i_acons (iv 3) (i_acons (iv 5) i_anil))) i_anil)) (by intro _; rfl))) (i_pone (i_ret i_bl)) i_pnil)
  (i_pone (i_if (i_tnot (i_tval (i_callLm (G := mkG K) (lk := 4) (js := [3, 5]) (ix := [0, 1]) rfl rfl rfl (h.r15) hr rfl T.g__law_as_due T.f15.kp T.b__law_as_due_2 tkB rfl lamF_4 T.tb rfl (List.mem_singleton.mpr rfl) (fun p hp _ => by rw [List.mem_singleton.mp hp] <;> rfl) (by exact (by decide +kernel : ∀ y ∈ (lamI 4).caps, (defScope st16).names.lookup y = some .cell)) (by exact (caps_at (caps := (lamI 4).caps) (N := N16) (js := [3, 5]) (by decide +kernel))) rfl (fun _ => rfl) (i_acons (i_ifexp (i_tcmp op_le fLe_ok (i_bf call_len (fLen_ok rfl) rfl T.n_len (by rfl) (iv 3)) (iv 5) (nomark _)) (i_lst (i_acons i_non i_anil)) (iv 5)) i_anil)) (by intro _; rfl))) (i_pone (i_ret i_bl)) i_pnil)))))))))))
  (i_pcons (i_set (i := 6) (sc16).nd rfl (by first | exact Or.inl rfl | exact Or.inr rfl) (i_call (fl := [true]) (ix := [0, 1]) h.r7 hr rfl T.g__law_pick T.f7.kp T.b__law_pick_2 tkB (i_acons (iv 1) (i_acons (i_lst (i_acons i_non (i_acons i_int (i_acons (i_lst (i_acons i_str i_anil)) (i_acons (i_tup (i_acons i_str i_anil)) (i_acons i_bl i_anil)))))) i_anil))))
  (i_pone (i_ret (i_and (i_callLm (G := mkG K) (lk := 5) (js := [6]) (ix := [0, 1]) rfl rfl rfl (h.r15) hr rfl T.g__law_as_due T.f15.kp T.b__law_as_due_2 tkB rfl lamF_5 T.tb rfl (List.mem_singleton.mpr rfl) (fun p hp _ => by rw [List.mem_singleton.mp hp] <;> rfl) (by exact (by decide +kernel : ∀ y ∈ (lamI 5).caps, (defScope st16).names.lookup y = some .cell)) (by exact (caps_at (caps := (lamI 5).caps) (N := N16) (js := [6]) (by decide +kernel))) rfl (fun _ => rfl) (i_acons i_int i_anil)) (i_one (i_call (fl := []) (ix := [0, 1]) h.r9 hr rfl T.g__law_like T.f9.kp T.b__law_like_2 tkB (i_acons (i_callK0 (ks := ["line"]) (fl := []) (ix := [0]) h.r1 hr rfl T.g_words_of T.f1.kp T.b_words_of_0_line tkB (i_kcons i_str i_knil)) (i_acons (i_tup (i_acons i_str i_anil)) i_anil))))))))))
theorem okl_0 (T : TX K mg base) (h : OK P w K mg base n) : LamOk (mkG K) P w K mg base (n + 3) 0 ((run (n + 1)).l 0) :=
  lam_ok (m := l_0 (run n)) lamF_0 fun A outer s H E f c' clo hr => by
    have tkB := L2.takes_of (X := cloCx P w K mg base (lamI 0) clo f c' A outer s H E) (E := E) rfl rfl rfl rfl
    exact (i_call (fl := []) (ix := [0, 1]) h.r2 hr rfl T.g_noise_at T.f2.kp T.b_noise_at_2 tkB (i_acons (iv 0) (i_acons (iv 1) i_anil)))
theorem okl_1 (T : TX K mg base) (h : OK P w K mg base n) : LamOk (mkG K) P w K mg base (n + 3) 1 ((run (n + 1)).l 1) :=
  lam_ok (m := l_1 (run n)) lamF_1 fun A outer s H E f c' clo hr => by
    have tkB := L2.takes_of (X := cloCx P w K mg base (lamI 1) clo f c' A outer s H E) (E := E) rfl rfl rfl rfl
    exact (i_callK0 (ks := ["at", "words"]) (fl := []) (ix := [1, 0]) h.r3 hr rfl T.g_row_at T.f3.kp T.b_row_at_0_at_words tkB (i_kcons (iv 1) (i_kcons (iv 0) i_knil)))
theorem okl_2 (T : TX K mg base) (h : OK P w K mg base n) : LamOk (mkG K) P w K mg base (n + 3) 2 ((run (n + 1)).l 2) :=
  lam_ok (m := l_2 (run n)) lamF_2 fun A outer s H E f c' clo hr => by
    have tkB := L2.takes_of (X := cloCx P w K mg base (lamI 2) clo f c' A outer s H E) (E := E) rfl rfl rfl rfl
    exact (i_call (fl := []) (ix := [0, 1]) h.r4 hr rfl T.g_none_behind T.f4.kp T.b_none_behind_2 tkB (i_acons (iv 0) (i_acons (iv 1) i_anil)))
theorem okl_3 (T : TX K mg base) (h : OK P w K mg base n) : LamOk (mkG K) P w K mg base (n + 3) 3 ((run (n + 1)).l 3) :=
  lam_ok (m := l_3 (run n)) lamF_3 fun A outer s H E f c' clo hr => by
    have tkB := L2.takes_of (X := cloCx P w K mg base (lamI 3) clo f c' A outer s H E) (E := E) rfl rfl rfl rfl
    exact (i_callK0 (ks := ["at", "words"]) (fl := []) (ix := [1, 0]) h.r2 hr rfl T.g_noise_at T.f2.kp T.b_noise_at_0_at_words tkB (i_kcons (iv 1) (i_kcons (iv 0) i_knil)))
theorem okl_4 (T : TX K mg base) (h : OK P w K mg base n) : LamOk (mkG K) P w K mg base (n + 3) 4 ((run (n + 1)).l 4) :=
  lam_ok (m := l_4 (run n)) lamF_4 fun A outer s H E f c' clo hr => by
    have tkB := L2.takes_of (X := cloCx P w K mg base (lamI 4) clo f c' A outer s H E) (E := E) rfl rfl rfl rfl
    exact (i_callK0 (ks := ["many", "words"]) (fl := []) (ix := [1, 0]) h.r4 hr rfl T.g_none_behind T.f4.kp T.b_none_behind_0_many_words tkB (i_kcons (iv 1) (i_kcons (iv 0) i_knil)))
theorem okl_5 (T : TX K mg base) (h : OK P w K mg base n) : LamOk (mkG K) P w K mg base (n + 3) 5 ((run (n + 1)).l 5) :=
  lam_ok (m := l_5 (run n)) lamF_5 fun A outer s H E f c' clo hr => by
    have tkB := L2.takes_of (X := cloCx P w K mg base (lamI 5) clo f c' A outer s H E) (E := E) rfl rfl rfl rfl
    exact (i_call (fl := []) (ix := [0]) h.r1 hr rfl T.g_words_of T.f1.kp T.b_words_of_1 tkB (i_acons (iv 0) i_anil))
theorem ok_all (T : TX K mg base) : ∀ n, OK P w K mg base n
  | 0 => ⟨FnI.zero, FnI.zero, FnI.zero, FnI.zero, FnI.zero, FnI.zero, FnI.zero, FnI.zero, FnI.zero, FnI.zero, FnI.zero, FnI.zero, FnI.zero, FnI.zero, FnI.zero, FnI.zero, FnI.zero, fun _ => LamOk.zero⟩
  | n + 1 => by
    have h := ok_all T n
    refine ⟨ok_0 T h, ok_1 T h, ok_2 T h, ok_3 T h, ok_4 T h, ok_5 T h, ok_6 T h, ok_7 T h, ok_8 T h, ok_9 T h, ok_10 T h, ok_11 T h, ok_12 T h, ok_13 T h, ok_14 T h, ok_15 T h, ok_16 T h, fun k => ?_⟩
    match k with
    | 0 => exact okl_0 T h
    | 1 => exact okl_1 T h
    | 2 => exact okl_2 T h
    | 3 => exact okl_3 T h
    | 4 => exact okl_4 T h
    | 5 => exact okl_5 T h
    | k + 6 => exact LamOk.zero
end
end K43
set_option Elab.async false
set_option linter.all false
set_option maxRecDepth 100000
set_option maxHeartbeats 0
set_option autoImplicit false
namespace K43
open PySem PySem.Spec PyProof.Rows L2 Iv
/-! ### the head -/
abbrev R0 : PySem.W.OpenRow := PySem.W.OpenLaw.row PySem.Challenge.rw_heardasmeant_k43_desk_lines
abbrev hk : PySem.W.Hook := He.hookX 6 faL fnL [] tfL ex
def ob (s : PySem.W.SharedT) : He.AlX := He.obsX 6 faL fnL [] tfL ex (HandSHeadRun.getT s)
theorem ob_eq (s : PySem.W.SharedT) : ob s = hk.obs s.abs := He.obsX_eq (HandSHeadRun.getT_eq s)
def nm0 : List Str := ["LETTERS", "SILENCE", "is_row", "HearError", "BadCommand", "FIGURES", "words_of", "noise_at", "row_at", "none_behind", "_law_pen", "_law_draw", "_law_pick", "_law_caught", "_law_like", "_law_sign", "_law_word", "_law_parted", "_law_noise", "_law_row", "_law_as_due"]
def nms : List Str := nm0
theorem run_ok (w : World) : HandSHeadRun.RunEq R0 (PySem.W.view R0.prog [25]) hk ob 4000 nms w := by
  intro os
  kernel_rfl
theorem law_at (plain : ∀ ns : List Int, ns.length ≤ 63 → (run 12).f 16 [.d (.lst (ns.map D.int))] [] = .ok (.d (.bl true)) [] none) {w : World} {mg : Str → Option Value} {fa : Addr} {h : Heap} (Y : hk.says w h) (G0 : h.Ns mainGlobals mg) (hmg : mg "law" = some (.ref fa)) :
    ∃ K : PySem.W.Frag, K.In h ∧ LamX.LawAtS PySem.Challenge.rw_heardasmeant_k43_desk_lines w K (L2.CX (PySem.Challenge.rw_heardasmeant_k43_desk_lines).prog w) 14 63 "script" mg fa h := by
  obtain ⟨K, KX, c⟩ := Y
  have T := tt_of KX G0 c
  have e := hmg.symm.trans T.g_law
  cases e
  have b := FunD.bindsA (ps := P16) T.f16 fun _ _ _ _ _ _ us hl => match us, hl with | [_], _ => rfl
  refine ⟨K, KX, fdAt K (He.fAd K at16), [He.cT K at16], spD (mkG K) ((run 12).f 16) 1, fun p hp => ?_, fun p hp => ?_, fun p hp => ?_, fun s u => b s [u] rfl, fun H a ns hl _ hH hS => ?_, fun base KB GB TB => ?_⟩
  · cases List.mem_singleton.mp hp; exact c.empty at16 (List.mem_singleton.mpr rfl)
  · cases List.mem_singleton.mp hp; exact c.out at16 (List.mem_singleton.mpr rfl)
  · cases List.mem_singleton.mp hp; exact PySem.W.codeHd_of_K KX (c.hd at16 (List.mem_singleton.mpr rfl))
  · exact law_start rfl (fun p hp => (by cases List.mem_singleton.mp hp; exact LamX.TabS.nil (hH (He.cT K at16) (List.mem_singleton.mpr rfl)))) hS (plain ns hl)
  · exact (ok_all (tx_of T (TB (He.cT K at16) (List.mem_singleton.mpr rfl))) 12).r16
theorem cx_no {P : Program} (w : World) (H : Hp) (s : Shared) (e : Value) (s' : Shared) (z : L2.CX P w [] H s (fun _ _ _ => False) e s') : False := by
  obtain ⟨_, _, _, _, _, _, _, _, _, _, _, _, z⟩ := z
  exact z
end K43
set_option Elab.async false
set_option linter.all false
set_option maxRecDepth 100000
set_option maxHeartbeats 2000000
set_option autoImplicit false
namespace K43
open PySem PySem.Spec PyProof.Rows L2 Iv
theorem draw1 (R : Rn) (ns : List Int) (at_ rest many : Int) (hm : 0 < many) (hm2 : many < 2 ^ 31) (hr : 0 < rest) : b_6 R [some (.p 0), some (.d (.int many)), none, none, none, none] (obs [pen ns at_ rest]) = .ret (.d (.int (rest % many))) (obs [pen ns at_ (rest / many)]) := by
  have e1 : decide (0 < rest) = true := decide_eq_true hr
  have e2 : decide (0 < many) = true := decide_eq_true hm
  have e3 : decide (many.natAbs < 2 ^ 64) = true := decide_eq_true (by omega)
  simp [b_6, obs, pen, OD.ob, sSeq, sSet, sIf, sRet, sRetN, sSetIx, sExpr, sNil, sAsg, sAsgs, sPar, tOf, tAnd', tOr', tNot', tYes', v2, v1, vN, vVar, vC, vAnd, vOr, vNot, vIf, aCons, aNil, fGt, fGe, fLt, fLe, fI, fIC, fAdd, fSub, fMul, fDiv, fMod, fPow, fNeg, cMul, cDiv, cMod, cPow, fIx, sqU, lsU, tpU, fLen, fInt, fAbs, ev_bind, ev_berr, ev_then, ev_terr, List.getElem?_cons_zero, List.getElem?_cons_succ, List.set_cons_zero, List.set_cons_succ, atI, ixN, hr, hm, show many.natAbs < 2 ^ 64 by omega]
theorem bound1 {c at_ : Int} (ha : 0 ≤ at_) (hb : at_ ≤ 1000000) : (c % 2147483587 + 63029 * at_ + 7219).natAbs < 18446744073709551616 := by omega
theorem bound2 {m at_ : Int} (ha : 0 ≤ at_) (hb : at_ ≤ 1000000) (hm : 0 ≤ m) (hm2 : m < 2147483629) : (m * (2 * at_ + 7219) + 75011 * at_ * at_ + 63029).natAbs < 18446744073709551616 := by
  have h1 : m * (2 * at_ + 7219) ≤ 2147483629 * (2 * at_ + 7219) := Int.mul_le_mul_of_nonneg_right (Int.le_of_lt hm2) (by omega)
  have h2 : 0 ≤ m * (2 * at_ + 7219) := Int.mul_nonneg hm (by omega)
  have h3 : 75011 * at_ * at_ ≤ 75011 * at_ * 1000000 := Int.mul_le_mul_of_nonneg_left hb (by omega)
  have h4 : 0 ≤ 75011 * at_ * at_ := Int.mul_nonneg (by omega) ha
  omega
theorem draw2 (R : Rn) (at_ many : Int) (hm : 0 < many) (hm2 : many < 2 ^ 31) (ha : 0 ≤ at_) (hb : at_ ≤ 1000000) : ∃ r, b_6 R [some (.p 0), some (.d (.int many)), none, none, none, none] (obs [pen [] at_ 0]) = .ret (.d (.int (r % many))) (obs [pen [] (at_ + 1) 0]) := by
  have e4 : ¬ at_ < 0 := by omega
  have e10 : (2 * at_ + 7219).natAbs < 18446744073709551616 := by omega
  have e11 : at_.natAbs < 18446744073709551616 := by omega
  have e5 := bound2 (m := (((75011 * at_ + 7219) % 2147483587 + 63029 * at_ + 7219) ^ 5 % 2147483629)) ha hb (Int.emod_nonneg _ (by decide)) (Int.emod_lt_of_pos _ (by decide))
  have e6 := ne_ints []
  rw [List.map_nil] at e6
  simp [b_6, obs, pen, OD.ob, sSeq, sSet, sIf, sRet, sRetN, sSetIx, sExpr, sNil, sAsg, sAsgs, sPar, tOf, tAnd', tOr', tNot', tYes', v2, v1, vN, vVar, vC, vAnd, vOr, vNot, vIf, aCons, aNil, fGt, fGe, fLt, fLe, fI, fIC, fAdd, fSub, fMul, fDiv, fMod, fPow, fNeg, cMul, cDiv, cMod, cPow, fIx, sqU, lsU, tpU, fLen, fInt, fAbs, ev_bind, ev_berr, ev_then, ev_terr, List.getElem?_cons_zero, List.getElem?_cons_succ, List.set_cons_zero, List.set_cons_succ, atI, ixN, hm, show many.natAbs < 2 ^ 64 by omega, ha, hb, e4, bound1 ha hb, e10, e11, e5, e6, oLst, frzL, frzLW]
  exact ⟨_, rfl⟩
theorem draw3 (R : Rn) (ns : List Int) (hne : ns ≠ []) (at_ many : Int) (hm : 0 < many) (hm2 : many < 2 ^ 31) (ha : 0 ≤ at_) (hb : at_ ≤ 1000000) : ∃ r rest, 0 ≤ rest ∧ b_6 R [some (.p 0), some (.d (.int many)), none, none, none, none] (obs [pen ns at_ 0]) = .ret (.d (.int (r % many))) (obs [pen ns (at_ + 1) rest]) := by
  have e4 : ¬ at_ < 0 := by omega
  have e10 : (2 * at_ + 7219).natAbs < 18446744073709551616 := by omega
  have e11 : at_.natAbs < 18446744073709551616 := by omega
  have hl : 0 < ns.length := List.length_pos_iff.mpr hne
  have e6 : ns.isEmpty = false := by cases ns with
    | nil => exact absurd rfl hne
    | cons _ _ => rfl
  have e7 : 0 ≤ at_ % (ns.length : Int) := Int.emod_nonneg _ (by omega)
  have e8 : at_ % (ns.length : Int) < ns.length := Int.emod_lt_of_pos _ (by omega)
  have hlt : (at_ % (ns.length : Int)).toNat < ns.length := by omega
  have e5 := bound2 (m := ((ns[(at_ % (ns.length : Int)).toNat] % 2147483587 + 63029 * at_ + 7219) ^ 5 % 2147483629)) ha hb (Int.emod_nonneg _ (by decide)) (Int.emod_lt_of_pos _ (by decide))
  by_cases c1 : at_ < ns.length
  · by_cases c2 : (1000000000000000000 : Int) ≤ if ns[(at_ % (ns.length : Int)).toNat] < 0 then -ns[(at_ % (ns.length : Int)).toNat] else ns[(at_ % (ns.length : Int)).toNat]
    · refine ⟨2 * ((if ns[(at_ % (ns.length : Int)).toNat] < 0 then -ns[(at_ % (ns.length : Int)).toNat] else ns[(at_ % (ns.length : Int)).toNat]) - 1000000000000000000) + if ns[(at_ % (ns.length : Int)).toNat] < 0 then 1 else 0, _, Int.ediv_nonneg (a := 2 * ((if ns[(at_ % (ns.length : Int)).toNat] < 0 then -ns[(at_ % (ns.length : Int)).toNat] else ns[(at_ % (ns.length : Int)).toNat]) - 1000000000000000000) + if ns[(at_ % (ns.length : Int)).toNat] < 0 then 1 else 0) (b := many) (by split <;> omega) (by omega), ?_⟩
      simp [b_6, obs, pen, OD.ob, sSeq, sSet, sIf, sRet, sRetN, sSetIx, sExpr, sNil, sAsg, sAsgs, sPar, tOf, tAnd', tOr', tNot', tYes', v2, v1, vN, vVar, vC, vAnd, vOr, vNot, vIf, aCons, aNil, fGt, fGe, fLt, fLe, fI, fIC, fAdd, fSub, fMul, fDiv, fMod, fPow, fNeg, cMul, cDiv, cMod, cPow, fIx, sqU, lsU, tpU, fLen, fInt, fAbs, ev_bind, ev_berr, ev_then, ev_terr, List.getElem?_cons_zero, List.getElem?_cons_succ, List.set_cons_zero, List.set_cons_succ, atI, ixN, hm, show many.natAbs < 2 ^ 64 by omega, ha, hb, e4, bound1 ha hb, e10, e11, e5, ne_ints, oLst, frzL, frzLW, e6, hl, e7, e8, c1, c2]
    · obtain ⟨r, e⟩ : ∃ r, b_6 R [some (.p 0), some (.d (.int many)), none, none, none, none] (obs [pen ns at_ 0]) = .ret (.d (.int (r % many))) (obs [pen ns (at_ + 1) 0]) := by
        simp [b_6, obs, pen, OD.ob, sSeq, sSet, sIf, sRet, sRetN, sSetIx, sExpr, sNil, sAsg, sAsgs, sPar, tOf, tAnd', tOr', tNot', tYes', v2, v1, vN, vVar, vC, vAnd, vOr, vNot, vIf, aCons, aNil, fGt, fGe, fLt, fLe, fI, fIC, fAdd, fSub, fMul, fDiv, fMod, fPow, fNeg, cMul, cDiv, cMod, cPow, fIx, sqU, lsU, tpU, fLen, fInt, fAbs, ev_bind, ev_berr, ev_then, ev_terr, List.getElem?_cons_zero, List.getElem?_cons_succ, List.set_cons_zero, List.set_cons_succ, atI, ixN, hm, show many.natAbs < 2 ^ 64 by omega, ha, hb, e4, bound1 ha hb, e10, e11, e5, ne_ints, oLst, frzL, frzLW, e6, hl, e7, e8, c1, c2]
        exact ⟨_, rfl⟩
      exact ⟨r, 0, Int.le_refl _, e⟩
  · obtain ⟨r, e⟩ : ∃ r, b_6 R [some (.p 0), some (.d (.int many)), none, none, none, none] (obs [pen ns at_ 0]) = .ret (.d (.int (r % many))) (obs [pen ns (at_ + 1) 0]) := by
      simp [b_6, obs, pen, OD.ob, sSeq, sSet, sIf, sRet, sRetN, sSetIx, sExpr, sNil, sAsg, sAsgs, sPar, tOf, tAnd', tOr', tNot', tYes', v2, v1, vN, vVar, vC, vAnd, vOr, vNot, vIf, aCons, aNil, fGt, fGe, fLt, fLe, fI, fIC, fAdd, fSub, fMul, fDiv, fMod, fPow, fNeg, cMul, cDiv, cMod, cPow, fIx, sqU, lsU, tpU, fLen, fInt, fAbs, ev_bind, ev_berr, ev_then, ev_terr, List.getElem?_cons_zero, List.getElem?_cons_succ, List.set_cons_zero, List.set_cons_succ, atI, ixN, hm, show many.natAbs < 2 ^ 64 by omega, ha, hb, e4, bound1 ha hb, e10, e11, e5, ne_ints, oLst, frzL, frzLW, e6, hl, e7, e8, c1]
      exact ⟨_, rfl⟩
    exact ⟨r, 0, Int.le_refl _, e⟩
/-- a draw -/
theorem draw (n : Nat) (ns : List Int) (at_ rest many : Int) (hm : 0 < many) (hm2 : many < 2 ^ 31) (ha : 0 ≤ at_) (hb : at_ ≤ 1000000) (hr : 0 ≤ rest) :
    ∃ r at2 rest2, 0 ≤ r ∧ r < many ∧ at_ ≤ at2 ∧ at2 ≤ at_ + 1 ∧ 0 ≤ rest2 ∧ (run (n + 1)).f 6 [.p 0, .d (.int many)] [pen ns at_ rest] = .ok (.d (.int r)) [pen ns at2 rest2] none := by
  have fin : ∀ {r at2 rest2 : Int}, b_6 (run n) [some (.p 0), some (.d (.int many)), none, none, none, none] (obs [pen ns at_ rest]) = .ret (.d (.int (r % many))) (obs [pen ns at2 rest2]) → (run (n + 1)).f 6 [.p 0, .d (.int many)] [pen ns at_ rest] = .ok (.d (.int (r % many))) [pen ns at2 rest2] none := fun {r at2 rest2} e => by
    show exitF [pen ns at_ rest].length false (b_6 (run n) [some (.p 0), some (.d (.int many)), none, none, none, none] (obs [pen ns at_ rest])) = _
    rw [e]
    exact ex_ret (os := [pen ns at2 rest2]) (ex := [])
  by_cases h : 0 < rest
  · exact ⟨_, _, _, Int.emod_nonneg _ (by omega), Int.emod_lt_of_pos _ hm, Int.le_refl _, by omega, Int.ediv_nonneg hr (by omega), fin (draw1 _ _ _ _ _ hm hm2 h)⟩
  · have e : rest = 0 := by omega
    subst e
    by_cases hn : ns = []
    · subst hn
      obtain ⟨r, e⟩ := draw2 (run n) at_ many hm hm2 ha hb
      exact ⟨_, _, _, Int.emod_nonneg _ (by omega), Int.emod_lt_of_pos _ hm, by omega, Int.le_refl _, Int.le_refl _, fin e⟩
    · obtain ⟨r, rest2, h2, e⟩ := draw3 (run n) ns hn at_ many hm hm2 ha hb
      exact ⟨_, _, _, Int.emod_nonneg _ (by omega), Int.emod_lt_of_pos _ hm, by omega, Int.le_refl _, h2, fin e⟩
theorem drawF (n : Nat) (ns : List Int) (many : Int) (hm : 0 < many) (hm2 : many < 2 ^ 31) : DrF ns 1 ((run (n + 1)).f 6) [.int many] (fun d => ∃ r, d = .int r ∧ 0 ≤ r ∧ r < many) := DrF.of fun at_ rest h1 h2 h3 => by
  obtain ⟨r, at2, rest2, q1, q2, q3, q4, q5, e⟩ := draw n ns at_ rest many hm hm2 h1 (by omega) h3
  exact ⟨_, at2, rest2, ⟨r, rfl, q1, q2⟩, q3, q4, q5, e⟩
theorem pickL (n : Nat) (ns : List Int) (ds : List D) (h : 0 < ds.length) (hl : ds.length < 100000) : DrF ns 1 ((run (n + 2)).f 7) [.lst ds] (fun d => d ∈ ds) := DrF.ofB (b := b_7 (run (n + 1))) (N := 2) fun at_ rest h1 h2 h3 => by
  obtain ⟨d, at2, rest2, ⟨r, rfl, r1, r2⟩, q3, q4, q5, e⟩ := drawF n ns ds.length (by omega) (by omega) at_ rest h1 h2 h3
  have hr : r.toNat < ds.length := by omega
  refine ⟨ds[r.toNat], at2, rest2, [], List.getElem_mem hr, q3, q4, q5, ?_⟩
  simp only [List.map_cons, List.map_nil] at e
  simp [b_7, sSeq, sSet, sIf, sRet, sRetN, sSetIx, sExpr, sNil, sAsg, sAsgs, sPar, tOf, tAnd', tOr', tNot', tYes', v2, v1, vN, vVar, vC, vAnd, vOr, vNot, vIf, aCons, aNil, fGt, fGe, fLt, fLe, fI, fIC, fAdd, fSub, fMul, fDiv, fMod, fPow, fNeg, cMul, cDiv, cMod, cPow, fIx, sqU, lsU, tpU, fLen, fInt, fAbs, ev_bind, ev_berr, ev_then, ev_terr, List.getElem?_cons_zero, List.getElem?_cons_succ, List.set_cons_zero, List.set_cons_succ, vCall, ixL, e, atI, ixN, r1, r2, hr]
theorem pickS (n : Nat) (ns : List Int) (s : Str) (h : 0 < s.length) (hl : s.length ≤ 1000000) : DrF ns 1 ((run (n + 2)).f 7) [.str s] (fun d => ∃ c ∈ s.cps.toList, d = .str ⟨#[c]⟩) := DrF.ofB (b := b_7 (run (n + 1))) (N := 2) fun at_ rest h1 h2 h3 => by
  obtain ⟨d, at2, rest2, ⟨r, rfl, r1, r2⟩, q3, q4, q5, e⟩ := drawF n ns s.length (by omega) (by omega) at_ rest h1 h2 h3
  have hz : s.length = s.cps.toList.length := by simp [Str.length]
  have hr : r.toNat < s.cps.toList.length := by omega
  refine ⟨.str ⟨#[s.cps.toList[r.toNat]]⟩, at2, rest2, [], ⟨_, List.getElem_mem hr, rfl⟩, q3, q4, q5, ?_⟩
  simp only [List.map_cons, List.map_nil] at e
  have e2 : L2.atI s.cps.toList r = some s.cps.toList[r.toNat] := by
    unfold L2.atI L2.ixN
    rw [if_pos r1, if_pos (by omega)]
    exact List.getElem?_eq_getElem hr
  simp [b_7, sSeq, sSet, sIf, sRet, sRetN, sSetIx, sExpr, sNil, sAsg, sAsgs, sPar, tOf, tAnd', tOr', tNot', tYes', v2, v1, vN, vVar, vC, vAnd, vOr, vNot, vIf, aCons, aNil, fGt, fGe, fLt, fLe, fI, fIC, fAdd, fSub, fMul, fDiv, fMod, fPow, fNeg, cMul, cDiv, cMod, cPow, fIx, sqU, lsU, tpU, fLen, fInt, fAbs, ev_bind, ev_berr, ev_then, ev_terr, List.getElem?_cons_zero, List.getElem?_cons_succ, List.set_cons_zero, List.set_cons_succ, vCall, ixL, e, hl, e2]
end K43
set_option Elab.async false
set_option linter.all false
set_option maxRecDepth 100000
set_option maxHeartbeats 2000000
set_option autoImplicit false
namespace K43
open PySem PySem.Spec PyProof.Rows L2 Iv
/-! ### parted, split -/
abbrev SS (l : List Nat) : Str := ⟨l.toArray⟩
def us (ws : List (List Nat)) : List U := ws.map fun w => .d (.str (SS w))
theorem atI_last {α : Type} (l : List α) (x : α) : L2.atI (l ++ [x]) (-1) = some x := by
  have h : L2.ixN (l ++ [x]).length (-1) = some l.length := by
    unfold L2.ixN
    rw [if_neg (by decide), List.length_append]
    show (if -((l.length + 1 : Nat) : Int) ≤ -1 then some ((-1 : Int) + ((l.length + 1 : Nat) : Int)).toNat else none) = _
    rw [if_pos (by omega)]
    congr 1
    omega
  unfold L2.atI
  rw [h]
  show (l ++ [x])[l.length]? = some x
  simp
theorem ixN_last {α : Type} (l : List α) (x : α) : L2.ixN (l ++ [x]).length (-1) = some l.length := by
  unfold L2.ixN
  rw [if_neg (by decide), List.length_append]
  show (if -((l.length + 1 : Nat) : Int) ≤ -1 then some ((-1 : Int) + ((l.length + 1 : Nat) : Int)).toNat else none) = _
  rw [if_pos (by omega)]
  congr 1
  omega
theorem ixN_m1 (n : Nat) : L2.ixN (n + 1) (-1) = some n := by
  unfold L2.ixN
  rw [if_neg (by decide), if_pos (by omega)]
  congr 1
  omega
theorem set_last {α : Type} (l : List α) (x y : α) : (l ++ [x]).set l.length y = l ++ [y] := by
  simp
abbrev pBody : SmS := sIf (tOf (v2 fEq (vVar 2) (vC (.str " ")))) (sExpr (vM "list" fApp (vVar 1) (aCons (vC (.str "")) aNil))) (sSetIx (vVar 1) (v1 fNeg (vC (.int 1))) (v2 fAdd (v2 fIx (vVar 1) (v1 fNeg (vC (.int 1)))) (vVar 2)))
theorem sp_eq (c : Nat) : (decide ((⟨#[c]⟩ : Str) = (" " : Str))) = decide (c = 32) := by
  by_cases h : c = 32
  · subst h; rfl
  · rw [decide_eq_false h]
    refine decide_eq_false fun z => h ?_
    have := congrArg (fun s : Str => s.cps.toList) z
    have e : [c] = [32] := this
    injection e
theorem eq_str (μ : Mu) (a b : Str) : fEq (.d (.str a)) (.d (.str b)) μ = .ok (.d (.bl (decide (a = b)))) μ := rfl
/-- one sign -/
theorem p_turn (line : U) (c : Nat) (pre : List (List Nat)) (acc : List Nat) (h1 : pre.length < 99000) (h2 : acc.length < 99000) :
    pBody [some line, some (.p 0), some (.d (.str ⟨#[c]⟩))] [.lst (us (pre ++ [acc]))] = .nx [some line, some (.p 0), some (.d (.str ⟨#[c]⟩))] [.lst (us (if c = 32 then pre ++ [acc] ++ [[]] else pre ++ [acc ++ [c]]))] := by
  have e0 : us (pre ++ [acc]) = us pre ++ [.d (.str (SS acc))] := by simp [us]
  by_cases h : c = 32
  · rw [if_pos h]
    have hl : (us (pre ++ [acc])).length < 100000 := by simp [us]; omega
    have e1 : us (pre ++ [acc] ++ [[]]) = us (pre ++ [acc]) ++ [.d (.str (""))] := by simp [us]; rfl
    rw [e1]
    simp [pBody, sSeq, sSet, sIf, sRet, sRetN, sSetIx, sExpr, sNil, sAsg, sAsgs, sPar, tOf, tAnd', tOr', tNot', tYes', v2, v1, vN, vVar, vC, vAnd, vOr, vNot, vIf, aCons, aNil, fGt, fGe, fLt, fLe, fI, fIC, fAdd, fSub, fMul, fDiv, fMod, fPow, fNeg, cMul, cDiv, cMod, cPow, fIx, sqU, lsU, tpU, fLen, fInt, fAbs, ev_bind, ev_berr, ev_then, ev_terr, List.getElem?_cons_zero, List.getElem?_cons_succ, List.set_cons_zero, List.set_cons_succ, eq_str, sp_eq, h, vM, tyOk, fApp, hl]
  · rw [if_neg h]
    have hl : acc.length + 1 ≤ 1000000 := by omega
    have e1 : us (pre ++ [acc ++ [c]]) = us pre ++ [.d (.str (SS acc ++ ⟨#[c]⟩))] := by
      have e2 : SS (acc ++ [c]) = SS acc ++ ⟨#[c]⟩ := by
        show (⟨(acc ++ [c]).toArray⟩ : Str) = ⟨acc.toArray ++ #[c]⟩
        simp
      rw [← e2]
      simp [us]
    have hA : (SS acc).length + (⟨#[c]⟩ : Str).length ≤ 1000000 := hl
    rw [e1, e0]
    simp [pBody, sSeq, sSet, sIf, sRet, sRetN, sSetIx, sExpr, sNil, sAsg, sAsgs, sPar, tOf, tAnd', tOr', tNot', tYes', v2, v1, vN, vVar, vC, vAnd, vOr, vNot, vIf, aCons, aNil, fGt, fGe, fLt, fLe, fI, fIC, fAdd, fSub, fMul, fDiv, fMod, fPow, fNeg, cMul, cDiv, cMod, cPow, fIx, sqU, lsU, tpU, fLen, fInt, fAbs, ev_bind, ev_berr, ev_then, ev_terr, List.getElem?_cons_zero, List.getElem?_cons_succ, List.set_cons_zero, List.set_cons_succ, eq_str, sp_eq, h, atI_last, ixN_m1, hA]
abbrev spl := TL.spl [32] 0
theorem spl_nil (acc : List Nat) : spl acc [] = [acc] := rfl
theorem spl_cons (acc : List Nat) (c : Nat) (r : List Nat) : spl acc (c :: r) = if c = 32 then acc :: spl [] r else spl (acc ++ [c]) r := by
  show (if TL.pre [32] (c :: r) = true then acc :: TL.spl [32] 0 [] r else TL.spl [32] 0 (acc ++ [c]) r) = _
  have e : TL.pre [32] (c :: r) = decide (c = 32) := by
    unfold TL.pre
    by_cases h : c = 32
    · subst h; rfl
    · rw [decide_eq_false h]
      show ([c] == [32]) = false
      simpa using h
  rw [e]
  by_cases h : c = 32 <;> simp [h]
theorem p_loop (line : U) (cs : List Nat) (hcs : cs.length < 98000) : ∀ (k i : Nat) (pre : List (List Nat)) (acc : List Nat) (t : Option U), i + k = cs.length → pre.length ≤ i → acc.length ≤ i →
    ∃ t', loopG (.nm 2) pBody (wkD (cs.map fun c => D.str ⟨#[c]⟩)).nxt (k + 1) i [some line, some (.p 0), t] [.lst (us (pre ++ [acc]))] = .nx [some line, some (.p 0), t'] [.lst (us (pre ++ spl acc (cs.drop i)))]
  | 0, i, pre, acc, t, h, h1, h2 => by
    have hx : (wkD (cs.map fun c => D.str ⟨#[c]⟩)).nxt i [.lst (us (pre ++ [acc]))] = some none := by
      show some (((cs.map fun c => D.str ⟨#[c]⟩)[i]?).map U.d) = _
      rw [List.getElem?_eq_none (by rw [List.length_map]; omega)]
      rfl
    refine ⟨t, ?_⟩
    rw [loopG, hx, List.drop_of_length_le (by omega), spl_nil]
  | k + 1, i, pre, acc, t, h, h1, h2 => by
    have hi : i < cs.length := by omega
    have hx : (wkD (cs.map fun c => D.str ⟨#[c]⟩)).nxt i [.lst (us (pre ++ [acc]))] = some (some (.d (.str ⟨#[cs[i]]⟩))) := by
      show some (((cs.map fun c => D.str ⟨#[c]⟩)[i]?).map U.d) = _
      rw [List.getElem?_map, List.getElem?_eq_getElem hi]
      rfl
    have step := p_turn line cs[i] pre acc (by omega) (by omega)
    have e : loopG (.nm 2) pBody (wkD (cs.map fun c => D.str ⟨#[c]⟩)).nxt (k + 1 + 1) i [some line, some (.p 0), t] [.lst (us (pre ++ [acc]))] =
        loopG (.nm 2) pBody (wkD (cs.map fun c => D.str ⟨#[c]⟩)).nxt (k + 1) (i + 1) [some line, some (.p 0), some (.d (.str ⟨#[cs[i]]⟩))] [.lst (us (if cs[i] = 32 then pre ++ [acc] ++ [[]] else pre ++ [acc ++ [cs[i]]]))] := by
      rw [loopG, hx]
      dsimp only
      show (match pBody [some line, some (.p 0), some (.d (.str ⟨#[cs[i]]⟩))] [.lst (us (pre ++ [acc]))] with
        | .nx ρ2 μ2 => loopG (.nm 2) pBody (wkD (cs.map fun c => D.str ⟨#[c]⟩)).nxt (k + 1) (i + 1) ρ2 μ2
        | .ct ρ2 μ2 => loopG (.nm 2) pBody (wkD (cs.map fun c => D.str ⟨#[c]⟩)).nxt (k + 1) (i + 1) ρ2 μ2
        | .brk ρ2 μ2 => .nx ρ2 μ2
        | .ret u μ2 => .ret u μ2
        | .err c ns vs ρ2 μ2 => .err c ns vs ρ2 μ2
        | .bad => .bad : RS) = _
      rw [step]
    rw [e, List.drop_eq_getElem_cons hi, spl_cons]
    by_cases hc : cs[i] = 32
    · rw [if_pos hc, if_pos hc]
      obtain ⟨t', e2⟩ := p_loop line cs hcs k (i + 1) (pre ++ [acc]) [] (some (.d (.str ⟨#[cs[i]]⟩))) (by omega) (by rw [List.length_append]; show pre.length + 1 ≤ _; omega) (Nat.zero_le _)
      exact ⟨t', by rw [e2]; simp⟩
    · rw [if_neg hc, if_neg hc]
      exact p_loop line cs hcs k (i + 1) pre (acc ++ [cs[i]]) _ (by omega) (by omega) (by rw [List.length_append]; show acc.length + 1 ≤ _; omega)
/-- _law_parted(line) -/
theorem us_d (ws : List (List Nat)) : us ws = (ws.map fun w => D.str (SS w)).map .d := by simp [us]
theorem spl_len : ∀ (cs acc : List Nat), (spl acc cs).length ≤ cs.length + 1
  | [], acc => Nat.le_refl _
  | c :: r, acc => by
    rw [spl_cons]
    split
    · have := spl_len r []
      rw [List.length_cons, List.length_cons]
      omega
    · have := spl_len r (acc ++ [c])
      rw [List.length_cons]
      omega
abbrev wds (cs : List Nat) : List D := (spl [] cs).map fun w => D.str (SS w)
theorem parted (n : Nat) (cs : List Nat) (hcs : cs.length < 98000) : (run (n + 1)).f 12 [.d (.str (SS cs))] [] = .ok (.d (.tup (wds cs))) [] none := by
  obtain ⟨t', e⟩ := p_loop (.d (.str (SS cs))) cs hcs cs.length 0 [] [] none (by omega) (Nat.zero_le _) (Nat.zero_le _)
  have hw : (wSeq (vVar 0)) [some (.d (.str (SS cs))), some (.p 0), none] [.lst (us ([] ++ [[]]))] = .ok (wkD (cs.map fun c => D.str ⟨#[c]⟩)) [.lst (us ([] ++ [[]]))] := rfl
  have hl : (wds cs).length ≤ 100000 := by
    have := spl_len cs []
    rw [List.length_map]
    omega
  have eb : b_12 (run n) [some (.d (.str (SS cs))), none, none] [] = .ret (.d (.tup (wds cs))) [.lst (us (spl [] cs))] := by
    show (match (match (wSeq (vVar 0)) [some (.d (.str (SS cs))), some (.p 0), none] [.lst (us ([] ++ [[]]))] with
        | .ok w μ1 => loopG (.nm 2) pBody w.nxt w.fuel 0 [some (.d (.str (SS cs))), some (.p 0), none] μ1
        | .err c ns vs μ1 => .err c ns vs [some (.d (.str (SS cs))), some (.p 0), none] μ1
        | .bad => .bad : RS) with
      | .nx ρ1 μ1 => sRet (v1 fTupOf (vVar 1)) ρ1 μ1
      | r => r) = _
    rw [hw]
    dsimp only
    have ef : (wkD (cs.map fun c => D.str ⟨#[c]⟩)).fuel = cs.length + 1 := by
      show (cs.map fun c => D.str ⟨#[c]⟩).length + 1 = _
      rw [List.length_map]
    rw [ef, e]
    dsimp only
    rw [List.nil_append, List.drop_zero, us_d]
    show ((fTupOf (.p 0) [.lst ((wds cs).map .d)]).thenS [some (.d (.str (SS cs))), some (.p 0), t'] fun u μ1 => RS.ret u μ1) = _
    have et : fTupOf (.p 0) [.lst ((wds cs).map .d)] = .ok (.d (.tup (wds cs))) [.lst ((wds cs).map .d)] := by
      show oTup ((wds cs).map .d) [.lst ((wds cs).map .d)] = _
      unfold oTup
      rw [frzL_d]
      dsimp only
      rw [if_pos hl]
    rw [et]
    rfl
  show exitF 0 false (b_12 (run n) [some (.d (.str (SS cs))), none, none] []) = _
  rw [eb]
  exact ex_ret (os := []) (ex := [.lst (us (spl [] cs))])
end K43
set_option Elab.async false
set_option linter.all false
set_option maxRecDepth 100000
set_option maxHeartbeats 2000000
set_option autoImplicit false
namespace K43
open PySem PySem.Spec PyProof.Rows L2 Iv
abbrev tt (W : List (List Nat)) : List D := W.map fun w => D.str (SS w)
theorem ix_tt {W : List (List Nat)} {a : Int} {w : List Nat} (ha : 0 ≤ a) (h : W[a.toNat]? = some w) (μ : Mu) : fIx (.d (.tup (tt W))) (.d (.int a)) μ = .ok (.d (.str (SS w))) μ := by
  have hl := (List.getElem?_eq_some_iff.mp h).1
  have e : L2.atI (((tt W).map U.d)) a = some (.d (.str (SS w))) := by
    unfold L2.atI L2.ixN
    rw [if_pos ha, List.length_map, List.length_map, if_pos (by omega)]
    show ((tt W).map U.d)[a.toNat]? = _
    rw [List.getElem?_map, List.getElem?_map, h]
    rfl
  unfold fIx
  dsimp only
  show (match L2.atI (((tt W).map U.d)) a with | some v => Res.ok v μ | none => .bad) = _
  rw [e]
theorem len_tt (W : List (List Nat)) (μ : Mu) : fLen (.d (.tup (tt W))) μ = .ok (.d (.int W.length)) μ := by
  show (Res.ok (U.d (D.int ((tt W).length : Nat))) μ : Res U) = _
  rw [List.length_map]
theorem len_ss (w : List Nat) (h : w.length ≤ 1000000) (μ : Mu) : fLen (.d (.str (SS w))) μ = .ok (.d (.int w.length)) μ := by
  unfold fLen
  dsimp only
  exact if_pos h
/-- what noise_at answers -/
def noiseR (W : List (List Nat)) (a : Int) : Option D := match W[a.toNat]? with
  | some [c] => if c = 42 then some .non else if 48 ≤ c ∧ c ≤ 57 then some (.int ((c : Int) - 48)) else none
  | _ => none
theorem ne_int (i j : Int) (μ : Mu) : fNe (.d (.int i)) (.d (.int j)) μ = .ok (.d (.bl (!decide (i = j)))) μ := rfl
theorem eq_int (i j : Int) (μ : Mu) : fEq (.d (.int i)) (.d (.int j)) μ = .ok (.d (.bl (decide (i = j)))) μ := rfl
theorem ne_str (a b : Str) (μ : Mu) : fNe (.d (.str a)) (.d (.str b)) μ = .ok (.d (.bl (!decide (a = b)))) μ := rfl
theorem in_str (neg : Bool) (a b : Str) (μ : Mu) : fIn neg (.d (.str a)) (.d (.str b)) μ = .ok (.d (.bl (if neg = true then !inS a b else inS a b))) μ := rfl
theorem star_eq (w : List Nat) (x : Nat) : decide (SS w = SS [x]) = decide (w = [x]) := by
  by_cases h : w = [x]
  · subst h; simp
  · rw [decide_eq_false h]
    refine decide_eq_false fun z => h ?_
    have e : (SS w).cps.toList = (SS [x]).cps.toList := congrArg (fun s : Str => s.cps.toList) z
    exact e
theorem dig_in (c : Nat) : inS (SS [c]) "0123456789*" = decide (c = 42 ∨ (48 ≤ c ∧ c ≤ 57)) := by
  show decide (c ∈ ([48, 49, 50, 51, 52, 53, 54, 55, 56, 57, 42] : List Nat)) = _
  refine decide_eq_decide.mpr ?_
  simp only [List.mem_cons, List.not_mem_nil, or_false]
  omega
theorem dig_int {c : Nat} (h1 : 48 ≤ c) (h2 : c ≤ 57) : PySem.intText? (SS [c]) = some ((c : Int) - 48) := by
  have : c = 48 ∨ c = 49 ∨ c = 50 ∨ c = 51 ∨ c = 52 ∨ c = 53 ∨ c = 54 ∨ c = 55 ∨ c = 56 ∨ c = 57 := by omega
  rcases this with h | h | h | h | h | h | h | h | h | h <;> subst h <;> decide +kernel
theorem noise_at (n : Nat) (W : List (List Nat)) (hW : ∀ w ∈ W, w.length ≤ 98000) (a : Int) (ha : 0 ≤ a) : (run (n + 1)).f 2 [.d (.tup (tt W)), .d (.int a)] [] = match noiseR W a with
    | some d => .ok (.d d) [] none
    | none => .err 1 ["word"] [.int a] [] := by
  have fz : ∀ (x : D) (μ : Mu), frzL [.d x] μ = some ([x], μ) := fun x μ => frzL_d [x] μ
  by_cases hl : (W.length : Int) ≤ a
  · have e : noiseR W a = none := by
      unfold noiseR
      rw [List.getElem?_eq_none (by omega)]
    rw [e]
    refine en_err (b := b_2 (run n)) (N := 2) (ex := []) (ρ := [some (.d (.tup (tt W))), some (.d (.int a))]) ?_
    simp [b_2, sSeq, sSet, sIf, sRet, sRetN, sSetIx, sExpr, sNil, sAsg, sAsgs, sPar, tOf, tAnd', tOr', tNot', tYes', v2, v1, vN, vVar, vC, vAnd, vOr, vNot, vIf, aCons, aNil, fGt, fGe, fLt, fLe, fI, fIC, fAdd, fSub, fMul, fDiv, fMod, fPow, fNeg, cMul, cDiv, cMod, cPow, fInt, fAbs, ev_bind, ev_berr, ev_then, ev_terr, List.getElem?_cons_zero, List.getElem?_cons_succ, List.set_cons_zero, List.set_cons_succ, len_tt, hl, sRaise, fz, ixL]
  · obtain ⟨w, hw⟩ : ∃ w, W[a.toNat]? = some w := ⟨_, List.getElem?_eq_getElem (by omega)⟩
    have hw2 := hW w (List.mem_of_getElem? hw)
    have hl2 : ¬ (W.length : Int) ≤ a := hl
    by_cases h1 : w.length = 1
    · obtain ⟨c, rfl⟩ : ∃ c, w = [c] := by
        match w, h1 with
        | [c], _ => exact ⟨c, rfl⟩
      have hs : ∀ μ, fLen (.d (.str (SS [c]))) μ = .ok (.d (.int 1)) μ := fun μ => len_ss [c] (Nat.le_of_ble_eq_true rfl) μ
      have hst : decide (SS [c] = "*") = decide (c = 42) := by
        rw [show ("*" : Str) = SS [42] from rfl, star_eq]
        simp
      have heq : ∀ μ : Mu, fEq (.d (.str (SS [c]))) (.d (.str "*")) μ = .ok (.d (.bl (decide (c = 42)))) μ := fun μ => by rw [eq_str, hst]
      have hin : ∀ μ : Mu, fIn true (.d (.str (SS [c]))) (.d (.str "0123456789*")) μ = .ok (.d (.bl (!decide (c = 42 ∨ (48 ≤ c ∧ c ≤ 57))))) μ := fun μ => by rw [in_str, dig_in]; rfl
      have hadd : ∀ μ : Mu, fAdd (.d (.str "0123456789")) (.d (.str "*")) μ = .ok (.d (.str "0123456789*")) μ := fun μ => rfl
      by_cases h3 : c = 42
      · have e : noiseR W a = some .non := by unfold noiseR; rw [hw]; exact if_pos h3
        rw [e]
        refine en_ret (b := b_2 (run n)) (N := 2) (ex := []) ?_
        have h4 : decide (c = 42) = true := decide_eq_true h3
        have h5 : decide (c = 42 ∨ (48 ≤ c ∧ c ≤ 57)) = true := decide_eq_true (.inl h3)
        simp only [h4] at heq
        simp only [h5] at hin
        simp [b_2, sSeq, sSet, sIf, sRet, sRetN, sSetIx, sExpr, sNil, sAsg, sAsgs, sPar, tOf, tAnd', tOr', tNot', tYes', v2, v1, vN, vVar, vC, vAnd, vOr, vNot, vIf, aCons, aNil, fGt, fGe, fLt, fLe, fI, fIC, fSub, fMul, fDiv, fMod, fPow, fNeg, cMul, cDiv, cMod, cPow, fAbs, ev_bind, ev_berr, ev_then, ev_terr, List.getElem?_cons_zero, List.getElem?_cons_succ, List.set_cons_zero, List.set_cons_succ, len_tt, hl, ix_tt ha hw, hs, ne_int, hin, heq, hadd]
      · by_cases h2 : 48 ≤ c ∧ c ≤ 57
        · have e : noiseR W a = some (.int ((c : Int) - 48)) := by unfold noiseR; rw [hw]; exact (if_neg h3).trans (if_pos h2)
          rw [e]
          refine en_ret (b := b_2 (run n)) (N := 2) (ex := []) ?_
          have hi : ∀ μ, fInt (.d (.str (SS [c]))) μ = .ok (.d (.int ((c : Int) - 48))) μ := fun μ => by
            unfold fInt
            dsimp only
            rw [dig_int h2.1 h2.2]
            rfl
          have h4 : decide (c = 42) = false := decide_eq_false h3
          have h5 : decide (c = 42 ∨ (48 ≤ c ∧ c ≤ 57)) = true := decide_eq_true (.inr h2)
          simp only [h4] at heq
          simp only [h5] at hin
          simp [b_2, sSeq, sSet, sIf, sRet, sRetN, sSetIx, sExpr, sNil, sAsg, sAsgs, sPar, tOf, tAnd', tOr', tNot', tYes', v2, v1, vN, vVar, vC, vAnd, vOr, vNot, vIf, aCons, aNil, fGt, fGe, fLt, fLe, fI, fIC, fSub, fMul, fDiv, fMod, fPow, fNeg, cMul, cDiv, cMod, cPow, fAbs, ev_bind, ev_berr, ev_then, ev_terr, List.getElem?_cons_zero, List.getElem?_cons_succ, List.set_cons_zero, List.set_cons_succ, len_tt, hl, ix_tt ha hw, hs, ne_int, hin, heq, hadd, hi]
        · have e : noiseR W a = none := by unfold noiseR; rw [hw]; exact (if_neg h3).trans (if_neg h2)
          rw [e]
          refine en_err (b := b_2 (run n)) (N := 2) (ex := []) (ρ := [some (.d (.tup (tt W))), some (.d (.int a))]) ?_
          have h5 : decide (c = 42 ∨ (48 ≤ c ∧ c ≤ 57)) = false := decide_eq_false fun z => z.elim h3 h2
          simp only [h5] at hin
          simp [b_2, sSeq, sSet, sIf, sRet, sRetN, sSetIx, sExpr, sNil, sAsg, sAsgs, sPar, tOf, tAnd', tOr', tNot', tYes', v2, v1, vN, vVar, vC, vAnd, vOr, vNot, vIf, aCons, aNil, fGt, fGe, fLt, fLe, fI, fIC, fSub, fMul, fDiv, fMod, fPow, fNeg, cMul, cDiv, cMod, cPow, fAbs, ev_bind, ev_berr, ev_then, ev_terr, List.getElem?_cons_zero, List.getElem?_cons_succ, List.set_cons_zero, List.set_cons_succ, len_tt, hl, ix_tt ha hw, hs, ne_int, hin, hadd, sRaise, fz, ixL]
    · have e : noiseR W a = none := by
        unfold noiseR
        rw [hw]
        match w, h1 with
        | [], _ => rfl
        | _ :: _ :: _, _ => rfl
      rw [e]
      refine en_err (b := b_2 (run n)) (N := 2) (ex := []) (ρ := [some (.d (.tup (tt W))), some (.d (.int a))]) ?_
      have h1' : ¬ (w.length : Int) = 1 := by omega
      simp [b_2, sSeq, sSet, sIf, sRet, sRetN, sSetIx, sExpr, sNil, sAsg, sAsgs, sPar, tOf, tAnd', tOr', tNot', tYes', v2, v1, vN, vVar, vC, vAnd, vOr, vNot, vIf, aCons, aNil, fGt, fGe, fLt, fLe, fI, fIC, fAdd, fSub, fMul, fDiv, fMod, fPow, fNeg, cMul, cDiv, cMod, cPow, fInt, fAbs, ev_bind, ev_berr, ev_then, ev_terr, List.getElem?_cons_zero, List.getElem?_cons_succ, List.set_cons_zero, List.set_cons_succ, len_tt, hl, ix_tt ha hw, len_ss w (by omega), ne_int, h1', sRaise, fz, ixL]
end K43
set_option Elab.async false
set_option linter.all false
set_option maxRecDepth 100000
set_option maxHeartbeats 2000000
set_option autoImplicit false
namespace K43
open PySem PySem.Spec PyProof.Rows L2 Iv
theorem fz1 (x : D) (μ : Mu) : frzL [.d x] μ = some ([x], μ) := frzL_d [x] μ
abbrev digs : List (List Nat) := [[48], [49], [50], [51], [52], [53], [54], [55], [56], [57], [42]]
def dg : List D := digs.map fun w => D.str (SS w)
theorem in_digs (w : List Nat) (μ : Mu) : fIn false (.d (.str (SS w))) (.d (.lst dg)) μ = .ok (.d (.bl (decide (w ∈ digs)))) μ := by
  have e : inD (.str (SS w)) dg = decide (w ∈ digs) := by
    have key : ∀ l : List (List Nat), inD (.str (SS w)) (l.map fun w => D.str (SS w)) = decide (w ∈ l) := fun l => by
      induction l with
      | nil => rfl
      | cons x l ih =>
        show (((SS x) == (SS w)) || inD (.str (SS w)) (l.map fun w => D.str (SS w))) = _
        rw [ih]
        by_cases h : x = w
        · subst h; simp
        · have h2 : ((SS x) == (SS w)) = false := by
            refine beq_eq_false_iff_ne.mpr fun z => h ?_
            have e : (SS x).cps.toList = (SS w).cps.toList := congrArg (fun s : Str => s.cps.toList) z
            exact e
          rw [h2]
          simp [List.mem_cons, Ne.symm h, fun z : w = x => h z.symm]
    exact key digs
  show (match inU μ (.d (.str (SS w))) (.d (.lst dg)) with | some b => Res.ok (U.d (D.bl (if false = true then !b else b))) μ | none => .bad) = _
  have e2 : inU μ (.d (.str (SS w))) (.d (.lst dg)) = some (inD (.str (SS w)) dg) := rfl
  rw [e2, e]
  rfl
theorem mem_digs (w : List Nat) : w ∈ digs ↔ ∃ c, w = [c] ∧ (c = 42 ∨ (48 ≤ c ∧ c ≤ 57)) := by
  constructor
  · intro h
    simp only [digs, List.mem_cons, List.not_mem_nil, or_false] at h
    rcases h with h | h | h | h | h | h | h | h | h | h | h <;> exact ⟨_, h, by omega⟩
  · rintro ⟨c, rfl, h⟩
    simp only [digs, List.mem_cons, List.not_mem_nil, or_false, List.cons.injEq, and_true]
    omega
theorem dig_ix {c : Nat} (h1 : 48 ≤ c) (h2 : c ≤ 57) : Txt.index0 "0123456789" (SS [c]) = some (c - 48) := by
  have : c = 48 ∨ c = 49 ∨ c = 50 ∨ c = 51 ∨ c = 52 ∨ c = 53 ∨ c = 54 ∨ c = 55 ∨ c = 56 ∨ c = 57 := by omega
  rcases this with h | h | h | h | h | h | h | h | h | h <;> subst h <;> decide +kernel
theorem law_noise (n : Nat) (W : List (List Nat)) (hW : ∀ w ∈ W, w.length ≤ 98000) (a : Int) (ha : 0 ≤ a) : (run (n + 1)).f 13 [.d (.tup (tt W)), .d (.int a)] [] = match noiseR W a with
    | some d => .ok (.d (.lst [d])) [] none
    | none => .ok (.d (.int a)) [] none := by
  have hlst : ∀ μ : Mu, oLst [.d (.str "0"), .d (.str "1"), .d (.str "2"), .d (.str "3"), .d (.str "4"), .d (.str "5"), .d (.str "6"), .d (.str "7"), .d (.str "8"), .d (.str "9"), .d (.str "*")] μ = .ok (.d (.lst dg)) μ := fun μ => rfl
  have hl1 : ∀ (x : D) (μ : Mu), oLst [.d x] μ = .ok (.d (.lst [x])) μ := fun x μ => rfl
  by_cases hl : a < (W.length : Int)
  · obtain ⟨w, hw⟩ : ∃ w, W[a.toNat]? = some w := ⟨_, List.getElem?_eq_getElem (by omega)⟩
    by_cases hd : w ∈ digs
    · obtain ⟨c, rfl, hc⟩ := (mem_digs w).mp hd
      have hin : ∀ μ, fIn false (.d (.str (SS [c]))) (.d (.lst dg)) μ = .ok (.d (.bl true)) μ := fun μ => by rw [in_digs, decide_eq_true hd]
      by_cases h3 : c = 42
      · have e : noiseR W a = some .non := by unfold noiseR; rw [hw]; exact if_pos h3
        rw [e]
        refine en_ret (b := b_13 (run n)) (N := 2) (ex := []) ?_
        have heq : ∀ μ : Mu, fEq (.d (.str (SS [c]))) (.d (.str "*")) μ = .ok (.d (.bl true)) μ := fun μ => by rw [eq_str, show ("*" : Str) = SS [42] from rfl, h3]; simp
        simp [b_13, sSeq, sSet, sIf, sRet, sRetN, sSetIx, sExpr, sNil, sAsg, sAsgs, sPar, tOf, tAnd', tOr', tNot', tYes', v2, v1, vN, vVar, vC, vAnd, vOr, vNot, vIf, aCons, aNil, fGt, fGe, fLt, fLe, fI, fIC, fAdd, fSub, fMul, fDiv, fMod, fPow, fNeg, cMul, cDiv, cMod, cPow, fInt, fAbs, ev_bind, ev_berr, ev_then, ev_terr, List.getElem?_cons_zero, List.getElem?_cons_succ, List.set_cons_zero, List.set_cons_succ, len_tt, hl, ix_tt ha hw, hlst, hin, heq, hl1]
      · have h2 : 48 ≤ c ∧ c ≤ 57 := hc.elim (fun z => absurd z h3) fun z => z
        have e : noiseR W a = some (.int ((c : Int) - 48)) := by unfold noiseR; rw [hw]; exact (if_neg h3).trans (if_pos h2)
        rw [e]
        refine en_ret (b := b_13 (run n)) (N := 2) (ex := []) ?_
        have heq : ∀ μ : Mu, fEq (.d (.str (SS [c]))) (.d (.str "*")) μ = .ok (.d (.bl false)) μ := fun μ => by
          rw [eq_str, show ("*" : Str) = SS [42] from rfl, star_eq]
          simp [h3]
        have hix : ∀ μ : Mu, fIndexS (.d (.str "0123456789")) [.d (.str (SS [c]))] μ = .ok (.d (.int ((c : Int) - 48))) μ := fun μ => by
          show (match Txt.index0 "0123456789" (SS [c]) with | some k => Res.ok (U.d (D.int (k : Nat))) μ | none => .bad) = _
          rw [dig_ix h2.1 h2.2]
          have : (((c - 48 : Nat)) : Int) = (c : Int) - 48 := by omega
          dsimp only
          rw [this]
        simp [b_13, sSeq, sSet, sIf, sRet, sRetN, sSetIx, sExpr, sNil, sAsg, sAsgs, sPar, tOf, tAnd', tOr', tNot', tYes', v2, v1, vN, vVar, vC, vAnd, vOr, vNot, vIf, aCons, aNil, fGt, fGe, fLt, fLe, fI, fIC, fAdd, fSub, fMul, fDiv, fMod, fPow, fNeg, cMul, cDiv, cMod, cPow, fInt, fAbs, ev_bind, ev_berr, ev_then, ev_terr, List.getElem?_cons_zero, List.getElem?_cons_succ, List.set_cons_zero, List.set_cons_succ, len_tt, hl, ix_tt ha hw, hlst, hin, heq, hl1, vM, tyOk, hix]
    · have e : noiseR W a = none := by
        unfold noiseR
        rw [hw]
        match w, hd with
        | [], _ => rfl
        | [c], hd =>
          have h := fun z => hd ((mem_digs [c]).mpr ⟨c, rfl, z⟩)
          exact (if_neg fun z => h (.inl z)).trans (if_neg fun z => h (.inr z))
        | _ :: _ :: _, _ => rfl
      rw [e]
      refine en_ret (b := b_13 (run n)) (N := 2) (ex := []) ?_
      have hin : ∀ μ, fIn false (.d (.str (SS w))) (.d (.lst dg)) μ = .ok (.d (.bl false)) μ := fun μ => by rw [in_digs, decide_eq_false hd]
      simp [b_13, sSeq, sSet, sIf, sRet, sRetN, sSetIx, sExpr, sNil, sAsg, sAsgs, sPar, tOf, tAnd', tOr', tNot', tYes', v2, v1, vN, vVar, vC, vAnd, vOr, vNot, vIf, aCons, aNil, fGt, fGe, fLt, fLe, fI, fIC, fAdd, fSub, fMul, fDiv, fMod, fPow, fNeg, cMul, cDiv, cMod, cPow, fInt, fAbs, ev_bind, ev_berr, ev_then, ev_terr, List.getElem?_cons_zero, List.getElem?_cons_succ, List.set_cons_zero, List.set_cons_succ, len_tt, hl, ix_tt ha hw, hlst, hin]
  · have e : noiseR W a = none := by
      unfold noiseR
      rw [List.getElem?_eq_none (by omega)]
    rw [e]
    refine en_ret (b := b_13 (run n)) (N := 2) (ex := []) ?_
    simp [b_13, sSeq, sSet, sIf, sRet, sRetN, sSetIx, sExpr, sNil, sAsg, sAsgs, sPar, tOf, tAnd', tOr', tNot', tYes', v2, v1, vN, vVar, vC, vAnd, vOr, vNot, vIf, aCons, aNil, fGt, fGe, fLt, fLe, fI, fIC, fAdd, fSub, fMul, fDiv, fMod, fPow, fNeg, cMul, cDiv, cMod, cPow, fInt, fAbs, ev_bind, ev_berr, ev_then, ev_terr, List.getElem?_cons_zero, List.getElem?_cons_succ, List.set_cons_zero, List.set_cons_succ, len_tt, hl]
end K43
set_option Elab.async false
set_option linter.all false
set_option maxRecDepth 100000
set_option maxHeartbeats 2000000
set_option autoImplicit false
namespace K43
open PySem PySem.Spec PyProof.Rows L2 Iv
abbrev okc (c : Nat) : Bool := decide ((97 ≤ c ∧ c ≤ 122) ∨ c = 46)
abbrev sg (c : Nat) : D := .str (SS [c])
theorem mem_az (c : Nat) : c ∈ ("abcdefghijklmnopqrstuvwxyz" : Str).cps.toList ↔ 97 ≤ c ∧ c ≤ 122 := by
  show c ∈ ([97, 98, 99, 100, 101, 102, 103, 104, 105, 106, 107, 108, 109, 110, 111, 112, 113, 114, 115, 116, 117, 118, 119, 120, 121, 122] : List Nat) ↔ _
  simp only [List.mem_cons, List.not_mem_nil, or_false]
  omega
theorem mem_az2 (c : Nat) : c ∈ (".abcdefghijklmnopqrstuvwxyz" : Str).cps.toList ↔ (97 ≤ c ∧ c ≤ 122) ∨ c = 46 := by
  show c ∈ ([46, 97, 98, 99, 100, 101, 102, 103, 104, 105, 106, 107, 108, 109, 110, 111, 112, 113, 114, 115, 116, 117, 118, 119, 120, 121, 122] : List Nat) ↔ _
  simp only [List.mem_cons, List.not_mem_nil, or_false]
  omega
theorem in1 (neg : Bool) (c : Nat) (y : Str) (μ : Mu) : fIn neg (.d (sg c)) (.d (.str y)) μ = .ok (.d (.bl (if neg = true then !decide (c ∈ y.cps.toList) else decide (c ∈ y.cps.toList)))) μ := rfl
theorem eq1 (c x : Nat) (μ : Mu) : fEq (.d (sg c)) (.d (.str (SS [x]))) μ = .ok (.d (.bl (decide (c = x)))) μ := by
  rw [eq_str, star_eq]
  simp
theorem tgnm (i : Nat) (u : U) (ρ : Rho) : tgM (.nm i) u ρ = some (ρ.set i (some u)) := rfl
def gOk : D → D
  | .str s => .bl (match s.cps.toList with | [c] => okc c | _ => false)
  | _ => .non
theorem is_row (n : Nat) (w : List Nat) (hw : w.length ≤ 98000) : (run (n + 1)).f 0 [.d (.str (SS w))] [] = .ok (.d (.bl (w.all okc))) [] none := by
  have hv := vcomp_d (ds := w.map sg) (w := wSeq (vVar 0)) (t := .nm 1) (own := [1]) (cond := tYes') (elt := vOr (v2 (fIn false) (vVar 1) (vC (.str "abcdefghijklmnopqrstuvwxyz"))) (v2 fEq (vVar 1) (vC (.str "."))))
    (ρ := [some (.d (.str (SS w))), none]) (μ0 := []) (μ := []) (p := fun _ => true) (g := gOk) (r := fun x => [some (.d (.str (SS w))), some (.d x)]) rfl (fun x _ => rfl) (fun x _ => rfl) (fun x hx _ => by
      obtain ⟨c, _, rfl⟩ := List.mem_map.mp hx
      have h1 := in1 false c "abcdefghijklmnopqrstuvwxyz" []
      have h2 : fEq (.d (sg c)) (.d (.str ".")) [] = .ok (.d (.bl (decide (c = 46)))) [] := eq1 c 46 []
      have h3 : gOk (sg c) = .bl (decide (c ∈ ("abcdefghijklmnopqrstuvwxyz" : Str).cps.toList) || decide (c = 46)) := by
        show D.bl (okc c) = _
        by_cases q : 97 ≤ c ∧ c ≤ 122
        · rw [decide_eq_true ((mem_az c).mpr q)]
          simp [okc, q]
        · rw [decide_eq_false fun z => q ((mem_az c).mp z)]
          simp [okc, q]
      generalize decide (c ∈ ("abcdefghijklmnopqrstuvwxyz" : Str).cps.toList) = b at h1 h3
      rw [h3]
      show ((fIn false (.d (sg c)) (.d (.str "abcdefghijklmnopqrstuvwxyz")) []).bind _) = _
      rw [h1]
      cases b with
      | true => rfl
      | false =>
        show ((fEq (.d (sg c)) (.d (.str ".")) []) : Res U) = _
        rw [h2]
        rfl) (by rw [List.length_map]; omega)
  have e1 : (((w.map sg).filter fun _ => true).map gOk) = (w.map okc).map D.bl := by
    have : ∀ l : List D, l.filter (fun _ => true) = l := fun l => by simp
    rw [this, List.map_map, List.map_map]
    rfl
  rw [e1] at hv
  refine en_ret (b := b_0 (run n)) (N := 2) (ex := []) ?_
  show (((fIsi (tabB "str" [] [0, 1]) (.d (.str (SS w))) []).bind _).thenS _ _) = _
  show ((vAnd (v1 (fIsi (tabB "str" [] [0, 1])) (vVar 0)) (v1 (fAllAny true) (vComp (wSeq (vVar 0)) (.nm 1) [1] tYes' (vOr (v2 (fIn false) (vVar 1) (vC (.str "abcdefghijklmnopqrstuvwxyz"))) (v2 fEq (vVar 1) (vC (.str ".")))))) [some (.d (.str (SS w))), none] []).thenS [some (.d (.str (SS w))), none] fun u μ1 => RS.ret u μ1) = _
  have e2 : vAnd (v1 (fIsi (tabB "str" [] [0, 1])) (vVar 0)) (v1 (fAllAny true) (vComp (wSeq (vVar 0)) (.nm 1) [1] tYes' (vOr (v2 (fIn false) (vVar 1) (vC (.str "abcdefghijklmnopqrstuvwxyz"))) (v2 fEq (vVar 1) (vC (.str ".")))))) [some (.d (.str (SS w))), none] [] = .ok (.d (.bl (w.all okc))) [] := by
    show (v1 (fAllAny true) (vComp (wSeq (vVar 0)) (.nm 1) [1] tYes' (vOr (v2 (fIn false) (vVar 1) (vC (.str "abcdefghijklmnopqrstuvwxyz"))) (v2 fEq (vVar 1) (vC (.str "."))))) [some (.d (.str (SS w))), none] []) = _
    unfold v1
    rw [hv]
    show fAllAny true (.d (.lst ((w.map okc).map D.bl))) [] = _
    rw [all_d, List.all_map]
    rfl
  rw [e2]
  rfl
/-- what row_at answers -/
def rowR (W : List (List Nat)) (a : Int) : Option D := match W[a.toNat]? with
  | some w => if w = [] then none else if w = [45] then some (.str "") else if w.all okc = true then some (.str (SS w)) else none
  | none => none
theorem ss_eq (w x : List Nat) : decide (SS w = SS x) = decide (w = x) := by
  by_cases h : w = x
  · subst h; simp
  · rw [decide_eq_false h]
    refine decide_eq_false fun z => h ?_
    have e : (SS w).cps.toList = (SS x).cps.toList := congrArg (fun s : Str => s.cps.toList) z
    exact e
theorem row_at (n : Nat) (W : List (List Nat)) (hW : ∀ w ∈ W, w.length ≤ 98000) (a : Int) (ha : 0 ≤ a) : (run (n + 2)).f 3 [.d (.tup (tt W)), .d (.int a)] [] = match rowR W a with
    | some d => .ok (.d d) [] none
    | none => .err 1 ["word"] [.int a] [] := by
  by_cases hl : (W.length : Int) ≤ a
  · have e : rowR W a = none := by
      unfold rowR
      rw [List.getElem?_eq_none (by omega)]
    rw [e]
    refine en_err (b := b_3 (run (n + 1))) (N := 2) (ex := []) (ρ := [some (.d (.tup (tt W))), some (.d (.int a))]) ?_
    simp [b_3, sSeq, sSet, sIf, sRet, sRetN, sSetIx, sExpr, sNil, sAsg, sAsgs, sPar, tOf, tAnd', tOr', tNot', tYes', v2, v1, vN, vVar, vC, vAnd, vOr, vNot, vIf, aCons, aNil, fGt, fGe, fLt, fLe, fI, fIC, fAdd, fSub, fMul, fDiv, fMod, fPow, fNeg, cMul, cDiv, cMod, cPow, fInt, fAbs, ev_bind, ev_berr, ev_then, ev_terr, List.getElem?_cons_zero, List.getElem?_cons_succ, List.set_cons_zero, List.set_cons_succ, len_tt, hl, sRaise, fz1, ixL]
  · obtain ⟨w, hw⟩ : ∃ w, W[a.toNat]? = some w := ⟨_, List.getElem?_eq_getElem (by omega)⟩
    have hw2 := hW w (List.mem_of_getElem? hw)
    have hE : ∀ μ, fEq (.d (.str (SS w))) (.d (.str "")) μ = .ok (.d (.bl (decide (w = [])))) μ := fun μ => by rw [eq_str, show ("" : Str) = SS [] from rfl, ss_eq]
    have hD : ∀ μ, fEq (.d (.str (SS w))) (.d (.str "-")) μ = .ok (.d (.bl (decide (w = [45])))) μ := fun μ => by rw [eq_str, show ("-" : Str) = SS [45] from rfl, ss_eq]
    have hN : ∀ μ, fNe (.d (.str (SS w))) (.d (.str "-")) μ = .ok (.d (.bl (!decide (w = [45])))) μ := fun μ => by rw [ne_str, show ("-" : Str) = SS [45] from rfl, ss_eq]
    have hR : ∀ μ, callL ((run (n + 1)).f 0) [] [.d (.str (SS w))] μ = .ok (.d (.bl (w.all okc))) μ := fun μ => call_d (ds := [.str (SS w)]) (is_row n w hw2)
    by_cases h1 : w = []
    · have e : rowR W a = none := by unfold rowR; rw [hw]; exact if_pos h1
      rw [e]
      refine en_err (b := b_3 (run (n + 1))) (N := 2) (ex := []) (ρ := [some (.d (.tup (tt W))), some (.d (.int a))]) ?_
      simp only [decide_eq_true h1] at hE
      simp [b_3, sSeq, sSet, sIf, sRet, sRetN, sSetIx, sExpr, sNil, sAsg, sAsgs, sPar, tOf, tAnd', tOr', tNot', tYes', v2, v1, vN, vVar, vC, vAnd, vOr, vNot, vIf, aCons, aNil, fGt, fGe, fLt, fLe, fI, fIC, fAdd, fSub, fMul, fDiv, fMod, fPow, fNeg, cMul, cDiv, cMod, cPow, fInt, fAbs, ev_bind, ev_berr, ev_then, ev_terr, List.getElem?_cons_zero, List.getElem?_cons_succ, List.set_cons_zero, List.set_cons_succ, len_tt, hl, ix_tt ha hw, hE, sRaise, fz1, ixL]
    · simp only [decide_eq_false h1] at hE
      by_cases h2 : w = [45]
      · have e : rowR W a = some (.str "") := by unfold rowR; rw [hw]; exact (if_neg h1).trans (if_pos h2)
        rw [e]
        refine en_ret (b := b_3 (run (n + 1))) (N := 2) (ex := []) ?_
        simp only [decide_eq_true h2] at hD hN
        simp [b_3, sSeq, sSet, sIf, sRet, sRetN, sSetIx, sExpr, sNil, sAsg, sAsgs, sPar, tOf, tAnd', tOr', tNot', tYes', v2, v1, vN, vVar, vC, vAnd, vOr, vNot, vIf, aCons, aNil, fGt, fGe, fLt, fLe, fI, fIC, fAdd, fSub, fMul, fDiv, fMod, fPow, fNeg, cMul, cDiv, cMod, cPow, fInt, fAbs, ev_bind, ev_berr, ev_then, ev_terr, List.getElem?_cons_zero, List.getElem?_cons_succ, List.set_cons_zero, List.set_cons_succ, len_tt, hl, ix_tt ha hw, hE, hD, hN]
      · simp only [decide_eq_false h2] at hD hN
        by_cases h3 : w.all okc = true
        · have e : rowR W a = some (.str (SS w)) := by unfold rowR; rw [hw]; exact (if_neg h1).trans ((if_neg h2).trans (if_pos h3))
          rw [e]
          refine en_ret (b := b_3 (run (n + 1))) (N := 2) (ex := []) ?_
          simp only [h3] at hR
          simp [b_3, sSeq, sSet, sIf, sRet, sRetN, sSetIx, sExpr, sNil, sAsg, sAsgs, sPar, tOf, tAnd', tOr', tNot', tYes', v2, v1, vN, vVar, vC, vAnd, vOr, vNot, vIf, aCons, aNil, fGt, fGe, fLt, fLe, fI, fIC, fAdd, fSub, fMul, fDiv, fMod, fPow, fNeg, cMul, cDiv, cMod, cPow, fInt, fAbs, ev_bind, ev_berr, ev_then, ev_terr, List.getElem?_cons_zero, List.getElem?_cons_succ, List.set_cons_zero, List.set_cons_succ, len_tt, hl, ix_tt ha hw, hE, hD, hN, vCall, ixL, hR]
        · have e : rowR W a = none := by unfold rowR; rw [hw]; exact (if_neg h1).trans ((if_neg h2).trans (if_neg h3))
          rw [e]
          refine en_err (b := b_3 (run (n + 1))) (N := 2) (ex := []) (ρ := [some (.d (.tup (tt W))), some (.d (.int a))]) ?_
          simp only [show w.all okc = false by simpa using h3] at hR
          simp [b_3, sSeq, sSet, sIf, sRet, sRetN, sSetIx, sExpr, sNil, sAsg, sAsgs, sPar, tOf, tAnd', tOr', tNot', tYes', v2, v1, vN, vVar, vC, vAnd, vOr, vNot, vIf, aCons, aNil, fGt, fGe, fLt, fLe, fI, fIC, fAdd, fSub, fMul, fDiv, fMod, fPow, fNeg, cMul, cDiv, cMod, cPow, fInt, fAbs, ev_bind, ev_berr, ev_then, ev_terr, List.getElem?_cons_zero, List.getElem?_cons_succ, List.set_cons_zero, List.set_cons_succ, len_tt, hl, ix_tt ha hw, hE, hD, hN, vCall, ixL, hR, sRaise, fz1]
theorem none_behind (n : Nat) (W : List (List Nat)) (a : Int) : (run (n + 1)).f 4 [.d (.tup (tt W)), .d (.int a)] [] = if a < W.length then .err 1 ["word"] [.int a] [] else .ok (.d .non) [] none := by
  by_cases hl : a < (W.length : Int)
  · rw [if_pos hl]
    refine en_err (b := b_4 (run n)) (N := 2) (ex := []) (ρ := [some (.d (.tup (tt W))), some (.d (.int a))]) ?_
    simp [b_4, sSeq, sSet, sIf, sRet, sRetN, sSetIx, sExpr, sNil, sAsg, sAsgs, sPar, tOf, tAnd', tOr', tNot', tYes', v2, v1, vN, vVar, vC, vAnd, vOr, vNot, vIf, aCons, aNil, fGt, fGe, fLt, fLe, fI, fIC, fAdd, fSub, fMul, fDiv, fMod, fPow, fNeg, cMul, cDiv, cMod, cPow, fInt, fAbs, ev_bind, ev_berr, ev_then, ev_terr, List.getElem?_cons_zero, List.getElem?_cons_succ, List.set_cons_zero, List.set_cons_succ, len_tt, hl, sRaise, fz1, ixL]
  · rw [if_neg hl]
    refine en_nx (b := b_4 (run n)) (N := 2) (ex := []) (ρ := [some (.d (.tup (tt W))), some (.d (.int a))]) ?_
    simp [b_4, sSeq, sSet, sIf, sRet, sRetN, sSetIx, sExpr, sNil, sAsg, sAsgs, sPar, tOf, tAnd', tOr', tNot', tYes', v2, v1, vN, vVar, vC, vAnd, vOr, vNot, vIf, aCons, aNil, fGt, fGe, fLt, fLe, fI, fIC, fAdd, fSub, fMul, fDiv, fMod, fPow, fNeg, cMul, cDiv, cMod, cPow, fInt, fAbs, ev_bind, ev_berr, ev_then, ev_terr, List.getElem?_cons_zero, List.getElem?_cons_succ, List.set_cons_zero, List.set_cons_succ, len_tt, hl]
end K43
set_option Elab.async false
set_option linter.all false
set_option maxRecDepth 100000
set_option maxHeartbeats 2000000
set_option autoImplicit false
namespace K43
open PySem PySem.Spec PyProof.Rows L2 Iv
def pNo : D → Bool
  | .str s => !(match s.cps.toList with | [c] => okc c | _ => false)
  | _ => false
theorem fil_all (w : List Nat) : ((w.filter fun c => !okc c).map fun c => SS [c]).isEmpty = w.all okc := by
  induction w with
  | nil => rfl
  | cons c l ih =>
    rw [List.filter_cons, List.all_cons]
    generalize okc c = b
    cases b with
    | true => exact ih
    | false => rfl
theorem law_row (n : Nat) (W : List (List Nat)) (hW : ∀ w ∈ W, w.length ≤ 98000) (hO : ∀ w ∈ W, ∀ c ∈ w, c < 1114112) (a : Int) (ha : 0 ≤ a) : (run (n + 1)).f 14 [.d (.tup (tt W)), .d (.int a)] [] = match rowR W a with
    | some d => .ok (.d (.lst [d])) [] none
    | none => .ok (.d (.int a)) [] none := by
  have hl1 : ∀ (x : D) (μ : Mu), oLst [.d x] μ = .ok (.d (.lst [x])) μ := fun x μ => rfl
  have hl0 : ∀ (μ : Mu), oLst [] μ = .ok (.d (.lst [])) μ := fun μ => rfl
  by_cases hl : (W.length : Int) ≤ a
  · have e : rowR W a = none := by
      unfold rowR
      rw [List.getElem?_eq_none (by omega)]
    rw [e]
    refine en_ret (b := b_14 (run n)) (N := 3) (ex := []) ?_
    simp [b_14, sSeq, sSet, sIf, sRet, sRetN, sSetIx, sExpr, sNil, sAsg, sAsgs, sPar, tOf, tAnd', tOr', tNot', tYes', v2, v1, vN, vVar, vC, vAnd, vOr, vNot, vIf, aCons, aNil, fGt, fGe, fLt, fLe, fI, fIC, fAdd, fSub, fMul, fDiv, fMod, fPow, fNeg, cMul, cDiv, cMod, cPow, fInt, fAbs, ev_bind, ev_berr, ev_then, ev_terr, List.getElem?_cons_zero, List.getElem?_cons_succ, List.set_cons_zero, List.set_cons_succ, len_tt, hl]
  · obtain ⟨w, hw⟩ : ∃ w, W[a.toNat]? = some w := ⟨_, List.getElem?_eq_getElem (by omega)⟩
    have hm := List.mem_of_getElem? hw
    have hw2 := hW w hm
    have hE : ∀ μ, fEq (.d (.str (SS w))) (.d (.str "")) μ = .ok (.d (.bl (decide (w = [])))) μ := fun μ => by rw [eq_str, show ("" : Str) = SS [] from rfl, ss_eq]
    have hD : ∀ μ, fEq (.d (.str (SS w))) (.d (.str "-")) μ = .ok (.d (.bl (decide (w = [45])))) μ := fun μ => by rw [eq_str, show ("-" : Str) = SS [45] from rfl, ss_eq]
    by_cases h1 : w = []
    · have e : rowR W a = none := by unfold rowR; rw [hw]; exact if_pos h1
      rw [e]
      refine en_ret (b := b_14 (run n)) (N := 3) (ex := []) ?_
      simp only [decide_eq_true h1] at hE
      simp [b_14, sSeq, sSet, sIf, sRet, sRetN, sSetIx, sExpr, sNil, sAsg, sAsgs, sPar, tOf, tAnd', tOr', tNot', tYes', v2, v1, vN, vVar, vC, vAnd, vOr, vNot, vIf, aCons, aNil, fGt, fGe, fLt, fLe, fI, fIC, fAdd, fSub, fMul, fDiv, fMod, fPow, fNeg, cMul, cDiv, cMod, cPow, fInt, fAbs, ev_bind, ev_berr, ev_then, ev_terr, List.getElem?_cons_zero, List.getElem?_cons_succ, List.set_cons_zero, List.set_cons_succ, len_tt, hl, ix_tt ha hw, hE]
    · simp only [decide_eq_false h1] at hE
      by_cases h2 : w = [45]
      · have e : rowR W a = some (.str "") := by unfold rowR; rw [hw]; exact (if_neg h1).trans (if_pos h2)
        rw [e]
        refine en_ret (b := b_14 (run n)) (N := 3) (ex := []) ?_
        simp only [decide_eq_true h2] at hD
        simp [b_14, sSeq, sSet, sIf, sRet, sRetN, sSetIx, sExpr, sNil, sAsg, sAsgs, sPar, tOf, tAnd', tOr', tNot', tYes', v2, v1, vN, vVar, vC, vAnd, vOr, vNot, vIf, aCons, aNil, fGt, fGe, fLt, fLe, fI, fIC, fAdd, fSub, fMul, fDiv, fMod, fPow, fNeg, cMul, cDiv, cMod, cPow, fInt, fAbs, ev_bind, ev_berr, ev_then, ev_terr, List.getElem?_cons_zero, List.getElem?_cons_succ, List.set_cons_zero, List.set_cons_succ, len_tt, hl, ix_tt ha hw, hE, hD, hl1]
      · simp only [decide_eq_false h2] at hD
        have hix := ix_tt ha hw []
        have hv := vcomp_d (ds := w.map sg) (w := wSeq (v2 fIx (vVar 0) (vVar 1))) (t := .nm 2) (own := [2]) (cond := tOf (v2 (fIn true) (vVar 2) (vC (.str ".abcdefghijklmnopqrstuvwxyz")))) (elt := vVar 2)
          (ρ := [some (.d (.tup (tt W))), some (.d (.int a)), none]) (μ0 := []) (μ := []) (p := pNo) (g := fun x => x) (r := fun x => [some (.d (.tup (tt W))), some (.d (.int a)), some (.d x)]) (by
            show ((fIx (.d (.tup (tt W))) (.d (.int a)) []).bind _) = _
            rw [hix]
            show Res.ok (wkD ((SS w).cps.toList.map fun c => D.str ⟨#[c]⟩)) [] = _
            rfl) (fun x _ => rfl) (fun x hx => by
            obtain ⟨c, _, rfl⟩ := List.mem_map.mp hx
            have h1 := in1 true c ".abcdefghijklmnopqrstuvwxyz" []
            have h3 : decide (c ∈ (".abcdefghijklmnopqrstuvwxyz" : Str).cps.toList) = okc c := decide_eq_decide.mpr (mem_az2 c)
            rw [h3] at h1
            show ((fIn true (.d (sg c)) (.d (.str ".abcdefghijklmnopqrstuvwxyz")) []).bind _) = _
            rw [h1]
            rfl) (fun x _ _ => rfl) (by rw [List.length_map]; omega)
        have e1 : (((w.map sg).filter pNo).map fun x => x) = ((w.filter fun c => !okc c).map fun c => SS [c]).map D.str := by
          rw [List.map_id', List.filter_map, List.map_map]
          rfl
        rw [e1] at hv
        have hne := ne_strs ((w.filter fun c => !okc c).map fun c => SS [c]) (by
          rw [List.all_eq_true]
          intro s hs
          obtain ⟨c, hc, rfl⟩ := List.mem_map.mp hs
          have := hO w hm c (List.mem_filter.mp hc).1
          simp [PyData.strOk, this]) []
        rw [fil_all] at hne
        obtain ⟨L, hL⟩ : ∃ L, L = ((w.filter fun c => !okc c).map fun c => SS [c]).map D.str := ⟨_, rfl⟩
        rw [← hL] at hv hne
        by_cases h3 : w.all okc = true
        · have e : rowR W a = some (.str (SS w)) := by unfold rowR; rw [hw]; exact (if_neg h1).trans ((if_neg h2).trans (if_pos h3))
          rw [e]
          refine en_ret (b := b_14 (run n)) (N := 3) (ex := []) ?_
          simp only [h3] at hne
          simp [b_14, sSeq, sSet, sIf, sRet, sRetN, sSetIx, sExpr, sNil, sAsg, sAsgs, sPar, tOf, tAnd', tOr', tNot', tYes', v2, v1, vN, vVar, vC, vAnd, vOr, vNot, vIf, aCons, aNil, fGt, fGe, fLt, fLe, fI, fIC, fAdd, fSub, fMul, fDiv, fMod, fPow, fNeg, cMul, cDiv, cMod, cPow, fInt, fAbs, ev_bind, ev_berr, ev_then, ev_terr, List.getElem?_cons_zero, List.getElem?_cons_succ, List.set_cons_zero, List.set_cons_succ, len_tt, hl, ix_tt ha hw, hE, hD, hl1, hl0, hv, hne]
        · have e : rowR W a = none := by unfold rowR; rw [hw]; exact (if_neg h1).trans ((if_neg h2).trans (if_neg h3))
          rw [e]
          refine en_ret (b := b_14 (run n)) (N := 3) (ex := []) ?_
          simp only [show w.all okc = false by simpa using h3] at hne
          simp [b_14, sSeq, sSet, sIf, sRet, sRetN, sSetIx, sExpr, sNil, sAsg, sAsgs, sPar, tOf, tAnd', tOr', tNot', tYes', v2, v1, vN, vVar, vC, vAnd, vOr, vNot, vIf, aCons, aNil, fGt, fGe, fLt, fLe, fI, fIC, fAdd, fSub, fMul, fDiv, fMod, fPow, fNeg, cMul, cDiv, cMod, cPow, fInt, fAbs, ev_bind, ev_berr, ev_then, ev_terr, List.getElem?_cons_zero, List.getElem?_cons_succ, List.set_cons_zero, List.set_cons_succ, len_tt, hl, ix_tt ha hw, hE, hD, hl1, hl0, hv, hne]
/-! ### words_of -/
theorem words_of (n : Nat) (cs : List Nat) (hcs : cs.length < 98000) : (run (n + 1)).f 1 [.d (.str (SS cs))] [] = .ok (.d (.tup (wds cs))) [] none := by
  have hi : ∀ μ, fIsi (tabB "str" [] [0, 1]) (.d (.str (SS cs))) μ = .ok (.d (.bl true)) μ := fun μ => rfl
  have hsp : ∀ μ, fSplit (.d (.str (SS cs))) [.d (.str " ")] μ = .ok (.d (.lst (wds cs))) μ := fun μ => by
    have h1 : ((" " : Str).length == 0) = false ∧ (SS cs).length ≤ 99000 := ⟨rfl, by show cs.toArray.size ≤ 99000; rw [List.size_toArray]; omega⟩
    have h2 : Txt.split (SS cs) " " = (spl [] cs).map SS := SX.split_S (a := cs) (b := [32]) (by decide) (by decide)
    have h3 : ((Txt.split (SS cs) " ").map fun x => U.d (.str x)) = (wds cs).map U.d := by rw [h2]; simp [wds]
    show (if ((" " : Str).length == 0) = false ∧ (SS cs).length ≤ 99000 then oLst ((Txt.split (SS cs) " ").map fun x => U.d (.str x)) μ else .bad) = _
    rw [if_pos h1, h3]
    unfold oLst
    rw [frzL_d]
    dsimp only
    have := spl_len cs []
    rw [if_pos (by rw [List.length_map]; omega)]
  have ht : ∀ μ, fTupOf (.d (.lst (wds cs))) μ = .ok (.d (.tup (wds cs))) μ := fun μ => by
    show oTup ((wds cs).map U.d) μ = _
    unfold oTup
    rw [frzL_d]
    dsimp only
    have := spl_len cs []
    rw [if_pos (by rw [List.length_map]; omega)]
  refine en_ret (b := b_1 (run n)) (N := 1) (ex := []) ?_
  obtain ⟨L, hL⟩ : ∃ L, L = wds cs := ⟨_, rfl⟩
  rw [← hL] at hsp ht ⊢
  simp [b_1, sSeq, sSet, sIf, sRet, sRetN, sSetIx, sExpr, sNil, sAsg, sAsgs, sPar, tOf, tAnd', tOr', tNot', tYes', v2, v1, vN, vVar, vC, vAnd, vOr, vNot, vIf, aCons, aNil, fGt, fGe, fLt, fLe, fI, fIC, fAdd, fSub, fMul, fDiv, fMod, fPow, fNeg, cMul, cDiv, cMod, cPow, fInt, fAbs, ev_bind, ev_berr, ev_then, ev_terr, List.getElem?_cons_zero, List.getElem?_cons_succ, List.set_cons_zero, List.set_cons_succ, hi, vM, tyOk, hsp, ht]
theorem words_no (n : Nat) (d : D) (h : ∀ μ, fIsi (tabB "str" [] [0, 1]) (.d d) μ = .ok (.d (.bl false)) μ) : (run (n + 1)).f 1 [.d d] [] = .err 1 ["word"] [.int 0] [] := by
  refine en_err (b := b_1 (run n)) (N := 1) (ex := []) (ρ := [some (.d d)]) ?_
  simp [b_1, sSeq, sSet, sIf, sRet, sRetN, sSetIx, sExpr, sNil, sAsg, sAsgs, sPar, tOf, tAnd', tOr', tNot', tYes', v2, v1, vN, vVar, vC, vAnd, vOr, vNot, vIf, aCons, aNil, fGt, fGe, fLt, fLe, fI, fIC, fAdd, fSub, fMul, fDiv, fMod, fPow, fNeg, cMul, cDiv, cMod, cPow, fInt, fAbs, ev_bind, ev_berr, ev_then, ev_terr, List.getElem?_cons_zero, List.getElem?_cons_succ, List.set_cons_zero, List.set_cons_succ, h, sRaise, fz1, ixL]
/-! ### like -/
theorem like_non (n : Nat) : (run (n + 1)).f 9 [.d .non, .d .non] [] = .ok (.d (.bl true)) [] none := by
  rw [show (run (n + 1)).f 9 = entry 4 false (b_9 (run n)) from rfl]
  refine en_ret (ex := []) ?_
  have h1 : ∀ μ, fIs (.d .non) (.d .non) μ = .ok (.d (.bl true)) μ := fun μ => rfl
  simp [b_9, sSeq, sSet, sIf, sRet, sRetN, sSetIx, sExpr, sNil, sAsg, sAsgs, sPar, tOf, tAnd', tOr', tNot', tYes', v2, v1, vN, vVar, vC, vAnd, vOr, vNot, vIf, aCons, aNil, fGt, fGe, fLt, fLe, fI, fIC, fAdd, fSub, fMul, fDiv, fMod, fPow, fNeg, cMul, cDiv, cMod, cPow, fInt, fAbs, ev_bind, ev_berr, ev_then, ev_terr, List.getElem?_cons_zero, List.getElem?_cons_succ, List.set_cons_zero, List.set_cons_succ, h1]
theorem like_int (n : Nat) (i : Int) : (run (n + 1)).f 9 [.d (.int i), .d (.int i)] [] = .ok (.d (.bl true)) [] none := by
  rw [show (run (n + 1)).f 9 = entry 4 false (b_9 (run n)) from rfl]
  refine en_ret (ex := []) ?_
  have h1 : ∀ μ, fIs (.d (.int i)) (.d .non) μ = .ok (.d (.bl false)) μ := fun μ => rfl
  have h2 : ∀ μ, fIsi (tabB "bool" [] [0, 1]) (.d (.int i)) μ = .ok (.d (.bl false)) μ := fun μ => rfl
  have h3 : ∀ μ, fIsi (tabB "tuple" [] [0, 1]) (.d (.int i)) μ = .ok (.d (.bl false)) μ := fun μ => rfl
  have h4 : ∀ μ, fIsi (tabB "str" [] [0, 1]) (.d (.int i)) μ = .ok (.d (.bl false)) μ := fun μ => rfl
  have h5 : ∀ μ, fIsi (tabB "int" [] [0, 1]) (.d (.int i)) μ = .ok (.d (.bl true)) μ := fun μ => rfl
  have h6 : ∀ μ, fEq (.d (.int i)) (.d (.int i)) μ = .ok (.d (.bl true)) μ := fun μ => by rw [eq_int, decide_eq_true rfl]
  simp [b_9, sSeq, sSet, sIf, sRet, sRetN, sSetIx, sExpr, sNil, sAsg, sAsgs, sPar, tOf, tAnd', tOr', tNot', tYes', v2, v1, vN, vVar, vC, vAnd, vOr, vNot, vIf, aCons, aNil, fGt, fGe, fLt, fLe, fI, fIC, fAdd, fSub, fMul, fDiv, fMod, fPow, fNeg, cMul, cDiv, cMod, cPow, fInt, fAbs, ev_bind, ev_berr, ev_then, ev_terr, List.getElem?_cons_zero, List.getElem?_cons_succ, List.set_cons_zero, List.set_cons_succ, h1, h2, h3, h4, h5, h6]
theorem like_str (n : Nat) (i : Str) : (run (n + 1)).f 9 [.d (.str i), .d (.str i)] [] = .ok (.d (.bl true)) [] none := by
  rw [show (run (n + 1)).f 9 = entry 4 false (b_9 (run n)) from rfl]
  refine en_ret (ex := []) ?_
  have h1 : ∀ μ, fIs (.d (.str i)) (.d .non) μ = .ok (.d (.bl false)) μ := fun μ => rfl
  have h2 : ∀ μ, fIsi (tabB "bool" [] [0, 1]) (.d (.str i)) μ = .ok (.d (.bl false)) μ := fun μ => rfl
  have h3 : ∀ μ, fIsi (tabB "tuple" [] [0, 1]) (.d (.str i)) μ = .ok (.d (.bl false)) μ := fun μ => rfl
  have h4 : ∀ μ, fIsi (tabB "str" [] [0, 1]) (.d (.str i)) μ = .ok (.d (.bl true)) μ := fun μ => rfl
  have h6 : ∀ μ, fEq (.d (.str i)) (.d (.str i)) μ = .ok (.d (.bl true)) μ := fun μ => by rw [eq_str, decide_eq_true rfl]
  simp [b_9, sSeq, sSet, sIf, sRet, sRetN, sSetIx, sExpr, sNil, sAsg, sAsgs, sPar, tOf, tAnd', tOr', tNot', tYes', v2, v1, vN, vVar, vC, vAnd, vOr, vNot, vIf, aCons, aNil, fGt, fGe, fLt, fLe, fI, fIC, fAdd, fSub, fMul, fDiv, fMod, fPow, fNeg, cMul, cDiv, cMod, cPow, fInt, fAbs, ev_bind, ev_berr, ev_then, ev_terr, List.getElem?_cons_zero, List.getElem?_cons_succ, List.set_cons_zero, List.set_cons_succ, h1, h2, h3, h4, h6]
theorem like_tup (n : Nat) (W : List (List Nat)) (hl : W.length < 99000) : (run (n + 2)).f 9 [.d (.tup (tt W)), .d (.tup (tt W))] [] = .ok (.d (.bl true)) [] none := by
  rw [show (run (n + 2)).f 9 = entry 4 false (b_9 (run (n + 1))) from rfl]
  refine en_ret (ex := []) ?_
  have h1 : ∀ μ, fIs (.d (.tup (tt W))) (.d .non) μ = .ok (.d (.bl false)) μ := fun μ => rfl
  have h2 : ∀ μ, fIsi (tabB "bool" [] [0, 1]) (.d (.tup (tt W))) μ = .ok (.d (.bl false)) μ := fun μ => rfl
  have h3 : ∀ μ, fIsi (tabB "tuple" [] [0, 1]) (.d (.tup (tt W))) μ = .ok (.d (.bl true)) μ := fun μ => rfl
  have hz : ((tt W).zip (tt W)).map (fun p => D.tup [p.1, p.2]) = W.map fun w => D.tup [.str (SS w), .str (SS w)] := by
    induction W with
    | nil => rfl
    | cons w W ih => 
      have := ih (by rw [List.length_cons] at hl; omega) (fun μ => rfl) (fun μ => rfl) (fun μ => rfl)
      simp [tt] at this ⊢
      exact this
  have hv := vcomp_d (ds := W.map fun w => D.tup [.str (SS w), .str (SS w)]) (w := wZip (aCons (vVar 0) (aCons (vVar 1) aNil))) (t := .tp [(.nm 2), (.nm 3)]) (own := [2, 3]) (cond := tYes') (elt := vCall ((run (n + 1)).f 9) 2 0 [0, 1] [] [] (aCons (vVar 2) (aCons (vVar 3) aNil)) aNil)
    (ρ := [some (.d (.tup (tt W))), some (.d (.tup (tt W))), none, none]) (μ0 := []) (μ := []) (p := fun _ => true) (g := fun _ => .bl true) (r := fun x => match x with
      | .tup [y, z] => [some (.d (.tup (tt W))), some (.d (.tup (tt W))), some (.d y), some (.d z)]
      | _ => []) (by rw [← hz]; rfl) (fun x hx => by
      obtain ⟨w, _, rfl⟩ := List.mem_map.mp hx
      rfl) (fun x _ => rfl) (fun x hx _ => by
      obtain ⟨w, _, rfl⟩ := List.mem_map.mp hx
      have e : callL ((run (n + 1)).f 9) [] [.d (.str (SS w)), .d (.str (SS w))] [] = .ok (.d (.bl true)) [] := call_d (ds := [.str (SS w), .str (SS w)]) (like_str n (SS w))
      show (if 2 = 2 ∧ 0 = 0 then callL ((run (n + 1)).f 9) [] [.d (.str (SS w)), .d (.str (SS w))] [] else .bad) = _
      rw [if_pos ⟨rfl, rfl⟩, e]) (by rw [List.length_map]; omega)
  have e1 : (((W.map fun w => D.tup [.str (SS w), .str (SS w)]).filter fun _ => true).map fun _ => D.bl true) = (W.map fun _ => true).map D.bl := by
    have : ∀ l : List D, l.filter (fun _ => true) = l := fun l => by simp
    rw [this, List.map_map, List.map_map]
    rfl
  rw [e1] at hv
  have hA := all_d (W.map fun _ => true) []
  have e3 : (W.map fun _ => true).all id = true := by simp
  rw [e3] at hA
  obtain ⟨L, hL⟩ : ∃ L, L = (W.map fun _ => true).map D.bl := ⟨_, rfl⟩
  rw [← hL] at hv hA
  have h6 : ∀ μ, fEq (.d (.int W.length)) (.d (.int W.length)) μ = .ok (.d (.bl true)) μ := fun μ => by rw [eq_int, decide_eq_true rfl]
  simp [b_9, sSeq, sSet, sIf, sRet, sRetN, sSetIx, sExpr, sNil, sAsg, sAsgs, sPar, tOf, tAnd', tOr', tNot', tYes', v2, v1, vN, vVar, vC, vAnd, vOr, vNot, vIf, aCons, aNil, fGt, fGe, fLt, fLe, fI, fIC, fAdd, fSub, fMul, fDiv, fMod, fPow, fNeg, cMul, cDiv, cMod, cPow, fInt, fAbs, ev_bind, ev_berr, ev_then, ev_terr, List.getElem?_cons_zero, List.getElem?_cons_succ, List.set_cons_zero, List.set_cons_succ, h1, h2, h3, len_tt, h6, hv, hA]
end K43
set_option Elab.async false
set_option linter.all false
set_option maxRecDepth 100000
set_option maxHeartbeats 2000000
set_option autoImplicit false
namespace K43
open PySem PySem.Spec PyProof.Rows L2 Iv
theorem caught_ok {m k : Nat} {ds : List D} {d : D} (hn : D.ncL ds = true) (hL : (run m).l k (ds.map .d) [] = .ok (.d d) [] none) : (run (m + 1)).f 8 [.d (.clo k ds)] [] = .ok (.d .non) [] none := by
  rw [show (run (m + 1)).f 8 = entry 3 false (b_8 (run m)) from rfl]
  refine en_ret (ex := []) ?_
  simp [b_8, sSeq, sSet, sIf, sRet, sRetN, sSetIx, sExpr, sNil, sAsg, sAsgs, sPar, tOf, tAnd', tOr', tNot', tYes', v2, v1, vN, vVar, vC, vAnd, vOr, vNot, vIf, aCons, aNil, fGt, fGe, fLt, fLe, fI, fIC, fAdd, fSub, fMul, fDiv, fMod, fPow, fNeg, cMul, cDiv, cMod, cPow, fInt, fAbs, ev_bind, ev_berr, ev_then, ev_terr, List.getElem?_cons_zero, List.getElem?_cons_succ, List.set_cons_zero, List.set_cons_succ, sTryAs, vClo, hn, hL, retX]
theorem caught_err {m k : Nat} {ds : List D} {a : Int} (hn : D.ncL ds = true) (hL : (run m).l k (ds.map .d) [] = .err 1 ["word"] [.int a] []) : (run (m + 1)).f 8 [.d (.clo k ds)] [] = .ok (.d (.exc 1 ["word"] [.int a])) [] none := by
  rw [show (run (m + 1)).f 8 = entry 3 false (b_8 (run m)) from rfl]
  refine en_ret (ex := []) ?_
  simp [b_8, sSeq, sSet, sIf, sRet, sRetN, sSetIx, sExpr, sNil, sAsg, sAsgs, sPar, tOf, tAnd', tOr', tNot', tYes', v2, v1, vN, vVar, vC, vAnd, vOr, vNot, vIf, aCons, aNil, fGt, fGe, fLt, fLe, fI, fIC, fAdd, fSub, fMul, fDiv, fMod, fPow, fNeg, cMul, cDiv, cMod, cPow, fInt, fAbs, ev_bind, ev_berr, ev_then, ev_terr, List.getElem?_cons_zero, List.getElem?_cons_succ, List.set_cons_zero, List.set_cons_succ, sTryAs, vClo, hn, hL, retX, RS.drop, List.lookup]
theorem as_due_ok {m k : Nat} {ds : List D} {d d' : D} (hn : D.ncL ds = true) (hL : (run m).l k (ds.map .d) [] = .ok (.d d) [] none) (hL2 : (run (m + 1)).l k (ds.map .d) [] = .ok (.d d) [] none) (hk : (run (m + 1)).f 9 [.d d, .d d'] [] = .ok (.d (.bl true)) [] none) :
    (run (m + 2)).f 15 [.d (.clo k ds), .d (.lst [d'])] [] = .ok (.d (.bl true)) [] none := by
  have h8 : ∀ μ, callL ((run (m + 1)).f 8) [] [.d (.clo k ds)] μ = .ok (.d .non) μ := fun μ => call_d (ds := [.clo k ds]) (caught_ok hn hL)
  have h9 : ∀ μ, callL ((run (m + 1)).f 9) [] [.d d, .d d'] μ = .ok (.d (.bl true)) μ := fun μ => call_d (ds := [d, d']) hk
  have h1 : ∀ μ, fIsi (tabB "list" [] [0, 1]) (.d (.lst [d'])) μ = .ok (.d (.bl true)) μ := fun μ => rfl
  have h2 : ∀ μ, fIs (.d .non) (.d .non) μ = .ok (.d (.bl true)) μ := fun μ => rfl
  have h3 : ∀ μ, fIx (.d (.lst [d'])) (.d (.int 0)) μ = .ok (.d d') μ := fun μ => rfl
  rw [show (run (m + 2)).f 15 = entry 3 false (b_15 (run (m + 1))) from rfl]
  refine en_ret (ex := []) ?_
  simp [b_15, sSeq, sSet, sIf, sRet, sRetN, sSetIx, sExpr, sNil, sAsg, sAsgs, sPar, tOf, tAnd', tOr', tNot', tYes', v2, v1, vN, vVar, vC, vAnd, vOr, vNot, vIf, aCons, aNil, fGt, fGe, fLt, fLe, fI, fIC, fAdd, fSub, fMul, fDiv, fMod, fPow, fNeg, cMul, cDiv, cMod, cPow, fInt, fAbs, ev_bind, ev_berr, ev_then, ev_terr, List.getElem?_cons_zero, List.getElem?_cons_succ, List.set_cons_zero, List.set_cons_succ, vCall, ixL, h8, h1, h2, h3, vClo, hn, hL2, retX, h9]
theorem as_due_err {m k : Nat} {ds : List D} {a : Int} (hn : D.ncL ds = true) (hL : (run m).l k (ds.map .d) [] = .err 1 ["word"] [.int a] []) :
    (run (m + 2)).f 15 [.d (.clo k ds), .d (.int a)] [] = .ok (.d (.bl true)) [] none := by
  have h8 : ∀ μ, callL ((run (m + 1)).f 8) [] [.d (.clo k ds)] μ = .ok (.d (.exc 1 ["word"] [.int a])) μ := fun μ => call_d (ds := [.clo k ds]) (caught_err hn hL)
  have h9 : ∀ μ, callL ((run (m + 1)).f 9) [] [.d (.int a), .d (.int a)] μ = .ok (.d (.bl true)) μ := fun μ => call_d (ds := [.int a, .int a]) (like_int m a)
  have h1 : ∀ μ, fIsi (tabB "list" [] [0, 1]) (.d (.int a)) μ = .ok (.d (.bl false)) μ := fun μ => rfl
  have h2 : ∀ μ, fIsi isi_BadCommand (.d (.exc 1 ["word"] [.int a])) μ = .ok (.d (.bl true)) μ := fun μ => rfl
  have h3 : ∀ μ, fXf "word" [1] (.d (.exc 1 ["word"] [.int a])) μ = .ok (.d (.int a)) μ := fun μ => rfl
  rw [show (run (m + 2)).f 15 = entry 3 false (b_15 (run (m + 1))) from rfl]
  refine en_ret (ex := []) ?_
  simp [b_15, sSeq, sSet, sIf, sRet, sRetN, sSetIx, sExpr, sNil, sAsg, sAsgs, sPar, tOf, tAnd', tOr', tNot', tYes', v2, v1, vN, vVar, vC, vAnd, vOr, vNot, vIf, aCons, aNil, fGt, fGe, fLt, fLe, fI, fIC, fAdd, fSub, fMul, fDiv, fMod, fPow, fNeg, cMul, cDiv, cMod, cPow, fInt, fAbs, ev_bind, ev_berr, ev_then, ev_terr, List.getElem?_cons_zero, List.getElem?_cons_succ, List.set_cons_zero, List.set_cons_succ, vCall, ixL, h8, h1, h2, h3, h9]
/-! ### the lambdas -/
theorem lam_of {N : Nat} {m : Sm U} {us : List U} {r : FR} {f : Fn} {ds : List D} (hm : ∀ μ, m (us.map some ++ List.replicate (N - us.length) none) μ = callL f [] (ds.map .d) μ) (hf : f (ds.map .d) [] = r)
    (hr : (∃ d, r = .ok (.d d) [] none) ∨ ∃ c ns vs, r = .err c ns vs []) : entry N false (sRet m) us [] = r := by
  rcases hr with ⟨d, rfl⟩ | ⟨c, ns, vs, rfl⟩
  · refine en_ret (ex := []) ?_
    unfold sRet
    rw [hm, call_d hf]
    rfl
  · refine en_err (ex := []) (ρ := us.map some ++ List.replicate (N - us.length) none) ?_
    unfold sRet
    rw [hm, call_de hf]
    rfl
theorem lam0 (n : Nat) (W : List (List Nat)) (a : Int) {r : FR} (h : (run (n + 1)).f 2 [.d (.tup (tt W)), .d (.int a)] [] = r) (hr : (∃ d, r = .ok (.d d) [] none) ∨ ∃ c ns vs, r = .err c ns vs []) : (run (n + 2)).l 0 [.d (.tup (tt W)), .d (.int a)] [] = r := by
  rw [show (run (n + 2)).l 0 = entry 2 false (sRet (l_0 (run (n + 1)))) from rfl]
  exact lam_of (f := (run (n + 1)).f 2) (ds := [.tup (tt W), .int a]) (fun μ => rfl) h hr
theorem lam1 (n : Nat) (W : List (List Nat)) (a : Int) {r : FR} (h : (run (n + 1)).f 3 [.d (.tup (tt W)), .d (.int a)] [] = r) (hr : (∃ d, r = .ok (.d d) [] none) ∨ ∃ c ns vs, r = .err c ns vs []) : (run (n + 2)).l 1 [.d (.tup (tt W)), .d (.int a)] [] = r := by
  rw [show (run (n + 2)).l 1 = entry 2 false (sRet (l_1 (run (n + 1)))) from rfl]
  exact lam_of (f := (run (n + 1)).f 3) (ds := [.tup (tt W), .int a]) (fun μ => rfl) h hr
theorem lam2 (n : Nat) (W : List (List Nat)) (a : Int) {r : FR} (h : (run (n + 1)).f 4 [.d (.tup (tt W)), .d (.int a)] [] = r) (hr : (∃ d, r = .ok (.d d) [] none) ∨ ∃ c ns vs, r = .err c ns vs []) : (run (n + 2)).l 2 [.d (.tup (tt W)), .d (.int a)] [] = r := by
  rw [show (run (n + 2)).l 2 = entry 2 false (sRet (l_2 (run (n + 1)))) from rfl]
  exact lam_of (f := (run (n + 1)).f 4) (ds := [.tup (tt W), .int a]) (fun μ => rfl) h hr
theorem lam3 (n : Nat) (W : List (List Nat)) (a : Int) {r : FR} (h : (run (n + 1)).f 2 [.d (.tup (tt W)), .d (.int a)] [] = r) (hr : (∃ d, r = .ok (.d d) [] none) ∨ ∃ c ns vs, r = .err c ns vs []) : (run (n + 2)).l 3 [.d (.tup (tt W)), .d (.int a)] [] = r := by
  rw [show (run (n + 2)).l 3 = entry 2 false (sRet (l_3 (run (n + 1)))) from rfl]
  exact lam_of (f := (run (n + 1)).f 2) (ds := [.tup (tt W), .int a]) (fun μ => rfl) h hr
theorem lam4 (n : Nat) (W : List (List Nat)) (a : Int) {r : FR} (h : (run (n + 1)).f 4 [.d (.tup (tt W)), .d (.int a)] [] = r) (hr : (∃ d, r = .ok (.d d) [] none) ∨ ∃ c ns vs, r = .err c ns vs []) : (run (n + 2)).l 4 [.d (.tup (tt W)), .d (.int a)] [] = r := by
  rw [show (run (n + 2)).l 4 = entry 2 false (sRet (l_4 (run (n + 1)))) from rfl]
  exact lam_of (f := (run (n + 1)).f 4) (ds := [.tup (tt W), .int a]) (fun μ => rfl) h hr
theorem lam5 (n : Nat) (d : D) {r : FR} (h : (run (n + 1)).f 1 [.d d] [] = r) (hr : (∃ d, r = .ok (.d d) [] none) ∨ ∃ c ns vs, r = .err c ns vs []) : (run (n + 2)).l 5 [.d d] [] = r := by
  rw [show (run (n + 2)).l 5 = entry 1 false (sRet (l_5 (run (n + 1)))) from rfl]
  exact lam_of (f := (run (n + 1)).f 1) (ds := [d]) (fun μ => rfl) h hr
theorem nc_tt (W : List (List Nat)) : D.ncL (tt W) = true := by
  induction W with
  | nil => rfl
  | cons w W ih =>
    show ((D.str (SS w)).nc && D.ncL (tt W)) = true
    rw [ih]
    rfl
theorem nc2 (W : List (List Nat)) (a : Int) : D.ncL [.tup (tt W), .int a] = true := by
  show (D.ncL (tt W) && ((D.int a).nc && D.ncL [])) = true
  rw [nc_tt]
  rfl
/-- noise_at asked through a lambda answers as due -/
theorem due_noise (n : Nat) (k : Nat) (hk : k = 0 ∨ k = 3) (W : List (List Nat)) (hW : ∀ w ∈ W, w.length ≤ 98000) (a : Int) (ha : 0 ≤ a) : ∃ due, (run (n + 4)).f 13 [.d (.tup (tt W)), .d (.int a)] [] = .ok (.d due) [] none ∧
    (run (n + 4)).f 15 [.d (.clo k [.tup (tt W), .int a]), .d due] [] = .ok (.d (.bl true)) [] none := by
  have lamk : ∀ (j : Nat) {r : FR}, (run (j + 1)).f 2 [.d (.tup (tt W)), .d (.int a)] [] = r → ((∃ d, r = .ok (.d d) [] none) ∨ ∃ c ns vs, r = .err c ns vs []) → (run (j + 2)).l k [.d (.tup (tt W)), .d (.int a)] [] = r := fun j r h hr => by
    rcases hk with rfl | rfl
    · exact lam0 j W a h hr
    · exact lam3 j W a h hr
  have hN := law_noise (n + 3) W hW a ha
  have h1 := noise_at n W hW a ha
  have h2 := noise_at (n + 1) W hW a ha
  cases e : noiseR W a with
  | none =>
    rw [e] at hN h1 h2
    exact ⟨_, hN, as_due_err (m := n + 2) (ds := [.tup (tt W), .int a]) (nc2 W a) (lamk n h1 (.inr ⟨_, _, _, rfl⟩))⟩
  | some d =>
    rw [e] at hN h1 h2
    refine ⟨_, hN, as_due_ok (m := n + 2) (ds := [.tup (tt W), .int a]) (nc2 W a) (lamk n h1 (.inl ⟨_, rfl⟩)) (lamk (n + 1) h2 (.inl ⟨_, rfl⟩)) ?_⟩
    unfold noiseR at e
    split at e
    · split at e
      · cases e; exact like_non _
      · split at e
        · cases e; exact like_int _ _
        · cases e
    · cases e
theorem due_row (n : Nat) (W : List (List Nat)) (hW : ∀ w ∈ W, w.length ≤ 98000) (hO : ∀ w ∈ W, ∀ c ∈ w, c < 1114112) (a : Int) (ha : 0 ≤ a) : ∃ due, (run (n + 5)).f 14 [.d (.tup (tt W)), .d (.int a)] [] = .ok (.d due) [] none ∧
    (run (n + 5)).f 15 [.d (.clo 1 [.tup (tt W), .int a]), .d due] [] = .ok (.d (.bl true)) [] none := by
  have hN := law_row (n + 4) W hW hO a ha
  have h1 := row_at n W hW a ha
  have h2 := row_at (n + 1) W hW a ha
  cases e : rowR W a with
  | none =>
    rw [e] at hN h1 h2
    exact ⟨_, hN, as_due_err (m := n + 3) (ds := [.tup (tt W), .int a]) (nc2 W a) (lam1 (n + 1) W a h1 (.inr ⟨_, _, _, rfl⟩))⟩
  | some d =>
    rw [e] at hN h1 h2
    refine ⟨_, hN, as_due_ok (m := n + 3) (ds := [.tup (tt W), .int a]) (nc2 W a) (lam1 (n + 1) W a h1 (.inl ⟨_, rfl⟩)) (lam1 (n + 2) W a h2 (.inl ⟨_, rfl⟩)) ?_⟩
    unfold rowR at e
    split at e
    · split at e
      · cases e
      · split at e
        · cases e; exact like_str _ _
        · split at e
          · cases e; exact like_str _ _
          · cases e
    · cases e
theorem due_behind (n : Nat) (k : Nat) (hk : k = 2 ∨ k = 4) (W : List (List Nat)) (a : Int) :
    (run (n + 4)).f 15 [.d (.clo k [.tup (tt W), .int a]), .d (if (W.length : Int) ≤ a then .lst [.non] else .int a)] [] = .ok (.d (.bl true)) [] none := by
  have lamk : ∀ (j : Nat) {r : FR}, (run (j + 1)).f 4 [.d (.tup (tt W)), .d (.int a)] [] = r → ((∃ d, r = .ok (.d d) [] none) ∨ ∃ c ns vs, r = .err c ns vs []) → (run (j + 2)).l k [.d (.tup (tt W)), .d (.int a)] [] = r := fun j r h hr => by
    rcases hk with rfl | rfl
    · exact lam2 j W a h hr
    · exact lam4 j W a h hr
  have h1 := none_behind n W a
  have h2 := none_behind (n + 1) W a
  by_cases h : (W.length : Int) ≤ a
  · rw [if_pos h]
    rw [if_neg (by omega)] at h1 h2
    exact as_due_ok (m := n + 2) (ds := [.tup (tt W), .int a]) (nc2 W a) (lamk n h1 (.inl ⟨_, rfl⟩)) (lamk (n + 1) h2 (.inl ⟨_, rfl⟩)) (like_non _)
  · rw [if_neg h]
    rw [if_pos (by omega)] at h1 h2
    exact as_due_err (m := n + 2) (ds := [.tup (tt W), .int a]) (nc2 W a) (lamk n h1 (.inr ⟨_, _, _, rfl⟩))
end K43
set_option Elab.async false
set_option linter.all false
set_option maxRecDepth 100000
set_option maxHeartbeats 2000000
set_option autoImplicit false
namespace K43
open PySem PySem.Spec PyProof.Rows L2 Iv
def SgP (d : D) : Prop := ∃ c, d = sg c ∧ c < 128
def WdP (d : D) : Prop := ∃ w : List Nat, d = .str (SS w) ∧ w.length ≤ 60 ∧ ∀ c ∈ w, c < 128
def kinds : List D := [.str "abcdefghijklmnopqrstuvwxyz.", .str "abcdefghijklmnopqrstuvwxyz.", .str "0123456789", .str "-*,:/;AZ!~_+"]
theorem kinds_ok : ∀ d ∈ kinds, ∃ s : Str, d = .str s ∧ 0 < s.length ∧ s.length ≤ 1000000 ∧ ∀ c ∈ s.cps.toList, c < 128 := by
  intro d hd
  simp only [kinds, List.mem_cons, List.not_mem_nil, or_false] at hd
  rcases hd with rfl | rfl | rfl | rfl <;> exact ⟨_, rfl, by decide +kernel, by decide +kernel, by decide +kernel⟩
theorem sign (n : Nat) (ns : List Int) : DrF ns 2 ((run (n + 3)).f 10) [] SgP := by
  rw [show (run (n + 3)).f 10 = entry 1 false (b_10 (run (n + 2))) from rfl]
  refine DrF.ofB fun at_ rest h1 h2 h3 => ?_
  have hk : ∀ μ : Mu, oLst [.d (.str "abcdefghijklmnopqrstuvwxyz."), .d (.str "abcdefghijklmnopqrstuvwxyz."), .d (.str "0123456789"), .d (.str "-*,:/;AZ!~_+")] μ = .ok (.d (.lst kinds)) μ := fun μ => rfl
  obtain ⟨d, at2, rest2, hd, q1, q2, q3, e⟩ := pickL n ns kinds (by decide) (by decide) at_ rest h1 (by omega) h3
  obtain ⟨s, rfl, s1, s2, s3⟩ := kinds_ok d hd
  obtain ⟨d3, at3, rest3, ⟨c, hc, rfl⟩, r1, r2, r3, e2⟩ := pickS n ns s s1 s2 at2 rest2 (by omega) (by omega) q3
  refine ⟨sg c, at3, rest3, [], ⟨c, rfl, s3 c hc⟩, by omega, by omega, r3, ?_⟩
  simp only [List.map_cons, List.map_nil] at e e2
  simp [b_10, sSeq, sSet, sIf, sRet, sRetN, sSetIx, sExpr, sNil, sAsg, sAsgs, sPar, tOf, tAnd', tOr', tNot', tYes', v2, v1, vN, vVar, vC, vAnd, vOr, vNot, vIf, aCons, aNil, fGt, fGe, fLt, fLe, fI, fIC, fAdd, fSub, fMul, fDiv, fMod, fPow, fNeg, cMul, cDiv, cMod, cPow, fInt, fAbs, ev_bind, ev_berr, ev_then, ev_terr, List.getElem?_cons_zero, List.getElem?_cons_succ, List.set_cons_zero, List.set_cons_succ, vCall, ixL, hk, e, e2]
def nearL (r : Int) : List D := [.str (toString r), .str "*", .str "-", .str "", .str "10", .str "-1", .str "**", .str "--", .str "01", .str "99", .str "None", .str "True", .str ".", .str "..", .str "a.b"]
theorem wdp_of {s : Str} (h : s.cps.toList.length ≤ 60 ∧ ∀ c ∈ s.cps.toList, c < 128) : WdP (.str s) := ⟨s.cps.toList, rfl, h.1, h.2⟩
theorem near_ok (r : Int) (h1 : 0 ≤ r) (h2 : r < 10) : ∀ d ∈ nearL r, WdP d := by
  intro d hd
  simp only [nearL, List.mem_cons, List.not_mem_nil, or_false] at hd
  rcases hd with rfl | rfl | rfl | rfl | rfl | rfl | rfl | rfl | rfl | rfl | rfl | rfl | rfl | rfl | rfl
  · have : r = 0 ∨ r = 1 ∨ r = 2 ∨ r = 3 ∨ r = 4 ∨ r = 5 ∨ r = 6 ∨ r = 7 ∨ r = 8 ∨ r = 9 := by omega
    rcases this with h | h | h | h | h | h | h | h | h | h <;> subst h <;> exact wdp_of (by decide +kernel)
  all_goals exact wdp_of (by decide +kernel)
theorem sgs_of : ∀ {ds : List D}, (∀ d ∈ ds, SgP d) → ∃ cs : List Nat, ds = cs.map sg ∧ (∀ c ∈ cs, c < 128) ∧ cs.length = ds.length
  | [], _ => ⟨[], rfl, fun c h => (by cases h), rfl⟩
  | d :: ds, h => by
    obtain ⟨c, rfl, hc⟩ := h d List.mem_cons_self
    obtain ⟨cs, rfl, h2, h3⟩ := sgs_of fun x hx => h x (List.mem_cons_of_mem _ hx)
    exact ⟨c :: cs, rfl, fun x hx => (List.mem_cons.mp hx).elim (fun e => e ▸ hc) (h2 x), by simp⟩
theorem joinL_one : ∀ cs : List Nat, TL.joinL [] (cs.map fun c => [c]) = cs
  | [] => rfl
  | [c] => rfl
  | c :: d :: r => by
    have := joinL_one (d :: r)
    simp only [List.map_cons] at this ⊢
    simp [TL.joinL] at this ⊢
    exact this
theorem strs_sg (cs : List Nat) : strsU ((cs.map sg).map U.d) = some (cs.map fun c => SS [c]) := by
  induction cs with
  | nil => rfl
  | cons c cs ih =>
    show (strsU ((cs.map sg).map U.d)).map (fun xs => SS [c] :: xs) = _
    rw [ih]
    rfl
theorem join_sg (cs : List Nat) (h : cs.length ≤ 1000) (μ : Mu) : fJoin (.d (.str "")) [.d (.lst (cs.map sg))] μ = .ok (.d (.str (SS cs))) μ := by
  have e1 : Txt.join "" (cs.map fun c => SS [c]) = SS cs := by
    have h2 := SX.join_S [] (cs.map fun c => [c])
    rw [joinL_one, List.map_map] at h2
    exact h2
  have e2 : ((cs.map fun c => SS [c]).map fun x : Str => x.length).sum ≤ 1000 := by
    have : ∀ cs : List Nat, ((cs.map fun c => SS [c]).map fun x : Str => x.length).sum = cs.length := fun cs => by
      induction cs with
      | nil => rfl
      | cons c cs ih => 
        rw [List.map_cons, List.map_cons, List.sum_cons, ih, List.length_cons]
        show 1 + cs.length = _
        omega
    rw [this]; exact h
  show (match strsU ((cs.map sg).map U.d) with
    | some ys => if (ys.map fun x : Str => x.length).sum + ys.length * ("" : Str).length ≤ 1000000 then Res.ok (U.d (.str (Txt.join "" ys))) μ else .bad
    | none => .bad) = _
  rw [strs_sg]
  dsimp only
  rw [if_pos (by show _ + _ * 0 ≤ 1000000; omega), e1]
def fours : List D := [.int 2, .int 3, .int 9, .int 60]
theorem word (n : Nat) (ns : List Int) : DrF ns 130 ((run (n + 4)).f 11) [] WdP := by
  rw [show (run (n + 4)).f 11 = entry 3 false (b_11 (run (n + 3))) from rfl]
  refine DrF.ofB fun at_ rest h1 h2 h3 => ?_
  obtain ⟨d1, at1, rest1, ⟨r, rfl, p1, p2⟩, q1, q2, q3, e1⟩ := drawF (n + 2) ns 10 (by decide) (by decide) at_ rest h1 (by omega) h3
  obtain ⟨rs, hrs⟩ : ∃ rs : Str, rs = toString r := ⟨_, rfl⟩
  have hs : ∀ μ, fStr (.d (.int r)) μ = .ok (.d (.str rs)) μ := fun μ => by
    rw [hrs]
    show (if r.natAbs < 2 ^ 1900 then Res.ok (U.d (.str (toString r))) μ else .bad) = _
    rw [if_pos (Nat.lt_of_lt_of_le (show r.natAbs < 10 by omega) (by decide +kernel))]
  have hn : ∀ μ : Mu, oLst [.d (.str rs), .d (.str "*"), .d (.str "-"), .d (.str ""), .d (.str "10"), .d (.str "-1"), .d (.str "**"), .d (.str "--"), .d (.str "01"), .d (.str "99"), .d (.str "None"), .d (.str "True"), .d (.str "."), .d (.str ".."), .d (.str "a.b")] μ = .ok (.d (.lst (nearL r))) μ := fun μ => by rw [hrs]; rfl
  obtain ⟨d2, at2, rest2, ⟨r2, rfl, p3, p4⟩, q4, q5, q6, e2⟩ := drawF (n + 2) ns 2 (by decide) (by decide) at1 rest1 (by omega) (by omega) q3
  simp only [List.map_cons, List.map_nil] at e1 e2
  by_cases hr : r2 = 0
  · obtain ⟨d3, at3, rest3, hd, q7, q8, q9, e3⟩ := pickL (n + 1) ns (nearL r) (by show 0 < 15; decide) (by show 15 < 100000; decide) at2 rest2 (by omega) (by omega) q6
    have hq : ∀ μ, fEq (.d (.int r2)) (.d (.int 0)) μ = .ok (.d (.bl true)) μ := fun μ => by rw [eq_int, decide_eq_true hr]
    refine ⟨d3, at3, rest3, [], near_ok r p1 p2 d3 hd, by omega, by omega, q9, ?_⟩
    simp only [List.map_cons, List.map_nil] at e3
    obtain ⟨L, hL⟩ : ∃ L, L = nearL r := ⟨_, rfl⟩
    rw [← hL] at hn e3
    simp [b_11, sSeq, sSet, sIf, sRet, sRetN, sSetIx, sExpr, sNil, sAsg, sAsgs, sPar, tOf, tAnd', tOr', tNot', tYes', v2, v1, vN, vVar, vC, vAnd, vOr, vNot, vIf, aCons, aNil, fGt, fGe, fLt, fLe, fI, fIC, fAdd, fSub, fMul, fDiv, fMod, fPow, fNeg, cMul, cDiv, cMod, cPow, fInt, fAbs, ev_bind, ev_berr, ev_then, ev_terr, List.getElem?_cons_zero, List.getElem?_cons_succ, List.set_cons_zero, List.set_cons_succ, vCall, ixL, e1, hs, hn, e2, hq, e3]
  · have hq : ∀ μ, fEq (.d (.int r2)) (.d (.int 0)) μ = .ok (.d (.bl false)) μ := fun μ => by rw [eq_int, decide_eq_false hr]
    have h4 : ∀ μ : Mu, oLst [.d (.int 2), .d (.int 3), .d (.int 9), .d (.int 60)] μ = .ok (.d (.lst fours)) μ := fun μ => rfl
    obtain ⟨d3, at3, rest3, hd, q7, q8, q9, e3⟩ := pickL (n + 1) ns fours (by decide) (by decide) at2 rest2 (by omega) (by omega) q6
    obtain ⟨m, rfl, m1, m2⟩ : ∃ m : Int, d3 = .int m ∧ 0 < m ∧ m ≤ 60 := by
      simp only [fours, List.mem_cons, List.not_mem_nil, or_false] at hd
      rcases hd with rfl | rfl | rfl | rfl <;> exact ⟨_, rfl, by decide, by decide⟩
    obtain ⟨d4, at4, rest4, ⟨r4, rfl, p5, p6⟩, t1, t2, t3, e4⟩ := drawF (n + 2) ns m m1 (by omega) at3 rest3 (by omega) (by omega) q9
    simp only [List.map_cons, List.map_nil] at e3 e4
    have hw : (wRng1 (aCons (vCall ((run (n + 3)).f 6) 2 0 [0, 1] [] [true] (aCons (vVar 0) (aCons (vCall ((run (n + 3)).f 7) 2 0 [0, 1] [] [true] (aCons (vVar 0) (aCons (vN oLst (aCons (vC (.int 2)) (aCons (vC (.int 3)) (aCons (vC (.int 9)) (aCons (vC (.int 60)) aNil))))) aNil)) aNil) aNil)) aNil) aNil))
        [some (.p 0), some (.d (.lst (nearL r))), none] (pn ns at2 rest2) = .ok (rngW 0 r4.toNat) (pn ns at4 rest4) := by
      have hb : -4611686018427387904 ≤ r4 ∧ r4 < 4611686018427387904 := by omega
      simp [wRng1, sSeq, sSet, sIf, sRet, sRetN, sSetIx, sExpr, sNil, sAsg, sAsgs, sPar, tOf, tAnd', tOr', tNot', tYes', v2, v1, vN, vVar, vC, vAnd, vOr, vNot, vIf, aCons, aNil, fGt, fGe, fLt, fLe, fI, fIC, fAdd, fSub, fMul, fDiv, fMod, fPow, fNeg, cMul, cDiv, cMod, cPow, fInt, fAbs, ev_bind, ev_berr, ev_then, ev_terr, List.getElem?_cons_zero, List.getElem?_cons_succ, List.set_cons_zero, List.set_cons_succ, vCall, ixL, h4, e3, e4, hb]
    have hu : (wSeq (vVar 0)) = wSeq (vVar 0) := rfl
    obtain ⟨ds, at5, rest5, s1, s2, s3, s4, s5, e5⟩ : ∃ (ds : List D) (at5 rest5 : Int), ds.length = r4.toNat ∧ (∀ d ∈ ds, SgP d) ∧ at4 ≤ at5 ∧ at5 ≤ at4 + r4.toNat * 2 ∧ 0 ≤ rest5 ∧
        vComp (fun _ μ => .ok (rngW 0 r4.toNat) μ) (.nm 2) [2] tYes' (vCall ((run (n + 3)).f 10) 1 0 [0] [] [true] (aCons (vVar 0) aNil) aNil) [some (.p 0), some (.d (.lst (nearL r))), none] (pn ns at4 rest4) = .ok (.d (.lst ds)) (pn ns at5 rest5) :=
      vcomp_rng (c := 2) (P := SgP) rfl (by decide) (fun j at_ rest h1 h2 h3 => by
        obtain ⟨d, a2, b2, z1, z2, z3, z4, z5⟩ := sign n ns at_ rest h1 h2 h3
        refine ⟨d, a2, b2, z1, z2, z3, z4, ?_⟩
        simp only [List.map_nil] at z5
        simp [sSeq, sSet, sIf, sRet, sRetN, sSetIx, sExpr, sNil, sAsg, sAsgs, sPar, tOf, tAnd', tOr', tNot', tYes', v2, v1, vN, vVar, vC, vAnd, vOr, vNot, vIf, aCons, aNil, fGt, fGe, fLt, fLe, fI, fIC, fAdd, fSub, fMul, fDiv, fMod, fPow, fNeg, cMul, cDiv, cMod, cPow, fInt, fAbs, ev_bind, ev_berr, ev_then, ev_terr, List.getElem?_cons_zero, List.getElem?_cons_succ, List.set_cons_zero, List.set_cons_succ, vCall, ixL, z5, wipeR]) (by omega) (by omega) (by omega) t3
    obtain ⟨cs, rfl, c1, c2⟩ := sgs_of s2
    have e6 : vComp (wRng1 (aCons (vCall ((run (n + 3)).f 6) 2 0 [0, 1] [] [true] (aCons (vVar 0) (aCons (vCall ((run (n + 3)).f 7) 2 0 [0, 1] [] [true] (aCons (vVar 0) (aCons (vN oLst (aCons (vC (.int 2)) (aCons (vC (.int 3)) (aCons (vC (.int 9)) (aCons (vC (.int 60)) aNil))))) aNil)) aNil) aNil)) aNil) aNil)) (.nm 2) [2] tYes' (vCall ((run (n + 3)).f 10) 1 0 [0] [] [true] (aCons (vVar 0) aNil) aNil) [some (.p 0), some (.d (.lst (nearL r))), none] (pn ns at2 rest2) = .ok (.d (.lst (cs.map sg))) (pn ns at5 rest5) := by
      rw [← e5]
      unfold vComp
      rw [hw]
    refine ⟨.str (SS cs), at5, rest5, [], ⟨cs, rfl, by rw [c2, s1]; omega, c1⟩, by omega, by omega, s5, ?_⟩
    have hj := join_sg cs (by rw [c2, s1]; omega)
    obtain ⟨L, hL⟩ : ∃ L, L = nearL r := ⟨_, rfl⟩
    rw [← hL] at hn e6
    obtain ⟨M, hM⟩ : ∃ M, M = cs.map sg := ⟨_, rfl⟩
    rw [← hM] at hj e6
    simp [b_11, sSeq, sSet, sIf, sRet, sRetN, sSetIx, sExpr, sNil, sAsg, sAsgs, sPar, tOf, tAnd', tOr', tNot', tYes', v2, v1, vN, vVar, vC, vAnd, vOr, vNot, vIf, aCons, aNil, fGt, fGe, fLt, fLe, fI, fIC, fAdd, fSub, fMul, fDiv, fMod, fPow, fNeg, cMul, cDiv, cMod, cPow, fInt, fAbs, ev_bind, ev_berr, ev_then, ev_terr, List.getElem?_cons_zero, List.getElem?_cons_succ, List.set_cons_zero, List.set_cons_succ, vCall, ixL, e1, hs, hn, e2, hq, vM, tyOk, e6, hj]
end K43
set_option Elab.async false
set_option linter.all false
set_option maxRecDepth 100000
set_option maxHeartbeats 2000000
set_option autoImplicit false
namespace K43
open PySem PySem.Spec PyProof.Rows L2 Iv
abbrev R1 : Rn := run 11
theorem seq_nx {a b : SmS} {ρ ρ1 : Rho} {μ μ1 : Mu} (h : a ρ μ = .nx ρ1 μ1) : sSeq a b ρ μ = b ρ1 μ1 := by
  unfold sSeq
  rw [h]
theorem if_ok {m : Sm U} {b : SmS} {ρ : Rho} {μ μ1 : Mu} (h : m ρ μ = .ok (.d (.bl true)) μ1) : sIf (tNot' (tOf m)) b sNil ρ μ = .nx ρ μ1 := by
  unfold sIf tNot' tOf
  rw [h]
  rfl
theorem spl_mem : ∀ (cs acc w : List Nat), w ∈ spl acc cs → w.length ≤ acc.length + cs.length ∧ ∀ c ∈ w, c ∈ acc ∨ c ∈ cs
  | [], acc, w, h => by
    rw [spl_nil, List.mem_singleton] at h
    subst h
    exact ⟨Nat.le_refl _, fun c hc => .inl hc⟩
  | c :: r, acc, w, h => by
    rw [spl_cons] at h
    split at h
    · rcases List.mem_cons.mp h with rfl | h
      · exact ⟨Nat.le_add_right _ _, fun c hc => .inl hc⟩
      · obtain ⟨h1, h2⟩ := spl_mem r [] w h
        refine ⟨by rw [List.length_cons]; simp at h1; omega, fun x hx => ?_⟩
        rcases h2 x hx with q | q
        · cases q
        · exact .inr (List.mem_cons_of_mem _ q)
    · obtain ⟨h1, h2⟩ := spl_mem r (acc ++ [c]) w h
      refine ⟨by rw [List.length_append] at h1; rw [List.length_cons]; simp at h1; omega, fun x hx => ?_⟩
      rcases h2 x hx with q | q
      · rcases List.mem_append.mp q with q | q
        · exact .inl q
        · rw [List.mem_singleton.mp q]; exact .inr List.mem_cons_self
      · exact .inr (List.mem_cons_of_mem _ q)
theorem wds_of : ∀ {ds : List D}, (∀ d ∈ ds, WdP d) → ∃ ws : List (List Nat), ds = tt ws ∧ (∀ w ∈ ws, w.length ≤ 60 ∧ ∀ c ∈ w, c < 128) ∧ ws.length = ds.length
  | [], _ => ⟨[], rfl, fun c h => (by cases h), rfl⟩
  | d :: ds, h => by
    obtain ⟨w, rfl, hw, hc⟩ := h d List.mem_cons_self
    obtain ⟨ws, rfl, h2, h3⟩ := wds_of fun x hx => h x (List.mem_cons_of_mem _ hx)
    exact ⟨w :: ws, rfl, fun x hx => (List.mem_cons.mp hx).elim (fun e => e ▸ ⟨hw, hc⟩) (h2 x), by simp⟩
theorem joinL_ok : ∀ ws : List (List Nat), (∀ w ∈ ws, w.length ≤ 60 ∧ ∀ c ∈ w, c < 128) → (TL.joinL [32] ws).length ≤ 61 * ws.length ∧ ∀ c ∈ TL.joinL [32] ws, c < 128
  | [], _ => ⟨Nat.le_refl _, fun c h => by cases h⟩
  | [w], h => by
    have := h w List.mem_cons_self
    exact ⟨by show w.length ≤ 61; omega, this.2⟩
  | w :: v :: r, h => by
    have h0 := h w List.mem_cons_self
    have ih := joinL_ok (v :: r) fun x hx => h x (List.mem_cons_of_mem _ hx)
    have e : TL.joinL [32] (w :: v :: r) = w ++ ([32] ++ TL.joinL [32] (v :: r)) := rfl
    rw [e]
    refine ⟨?_, fun c hc => ?_⟩
    · rw [List.length_append, List.length_append, List.length_cons (as := v :: r)]
      have := ih.1
      show w.length + (1 + (TL.joinL [32] (v :: r)).length) ≤ _
      omega
    · rcases List.mem_append.mp hc with q | q
      · exact h0.2 c q
      · rcases List.mem_append.mp q with q | q
        · rw [List.mem_singleton.mp q]; decide
        · exact ih.2 c q
theorem strs_tt (ws : List (List Nat)) : strsU ((tt ws).map U.d) = some (ws.map SS) := by
  induction ws with
  | nil => rfl
  | cons w ws ih =>
    show (strsU ((tt ws).map U.d)).map (fun xs => SS w :: xs) = _
    rw [ih]
    rfl
theorem join_tt (ws : List (List Nat)) (h : ∀ w ∈ ws, w.length ≤ 60 ∧ ∀ c ∈ w, c < 128) (hl : ws.length ≤ 10) (μ : Mu) : fJoin (.d (.str " ")) [.d (.lst (tt ws))] μ = .ok (.d (.str (SS (TL.joinL [32] ws)))) μ := by
  have e1 : Txt.join " " (ws.map SS) = SS (TL.joinL [32] ws) := SX.join_S [32] ws
  have e2 : ∀ ws : List (List Nat), (∀ w ∈ ws, w.length ≤ 60 ∧ ∀ c ∈ w, c < 128) → ((ws.map SS).map fun x : Str => x.length).sum ≤ 60 * ws.length := fun ws => by
    induction ws with
    | nil => intro _; exact Nat.le_refl _
    | cons w ws ih =>
      intro h
      have h1 := (h w List.mem_cons_self).1
      have h2 := ih fun x hx => h x (List.mem_cons_of_mem _ hx)
      rw [List.map_cons, List.map_cons, List.sum_cons, List.length_cons]
      have : (SS w).length = w.length := by show w.toArray.size = _; simp
      omega
  have e3 := e2 ws h
  show (match strsU ((tt ws).map U.d) with
    | some ys => if (ys.map fun x : Str => x.length).sum + ys.length * (" " : Str).length ≤ 1000000 then Res.ok (U.d (.str (Txt.join " " ys))) μ else .bad
    | none => .bad) = _
  rw [strs_tt]
  dsimp only
  rw [if_pos, e1]
  have e4 : (" " : Str).length = 1 := rfl
  rw [e4, List.length_map]
  have : ((ws.map SS).map fun x : Str => x.length).sum ≤ 600 := by omega
  show ((ws.map SS).map fun x : Str => x.length).sum + _ ≤ _
  omega
theorem vcl {f : Fn} {k : Nat} {m : Sm (List U)} {ρ : Rho} {μ : Mu} {W : List (List Nat)} {a : Int} {due : D} (h3 : ρ[3]? = some (some (.d (.tup (tt W))))) (h5 : ρ[5]? = some (some (.d (.int a)))) (hm : m ρ μ = .ok [.d due] μ)
    (hf : f [.d (.clo k [.tup (tt W), .int a]), .d due] [] = .ok (.d (.bl true)) [] none) : vCallLam f k [3, 5] 2 [0, 1] [] m ρ μ = .ok (.d (.bl true)) μ := by
  unfold vCallLam
  rw [hm]
  have hc : capU ρ [3, 5] = some [.d (.tup (tt W)), .d (.int a)] := by
    simp [capU, h3, h5]
  show (match capU ρ [3, 5] with
    | none => .bad
    | some cs => (match frzL (cs ++ [.d due]) μ with
      | none => .bad
      | some (xs, μ2) => if [U.d due].length + 1 = 2 ∧ D.ncL (xs.take [3, 5].length) = true then retY (f ((ixL [0, 1] ((.clo k (xs.take [3, 5].length) :: xs.drop [3, 5].length) ++ [])).map .d) []) μ2 else .bad) : Res U) = _
  rw [hc]
  dsimp only
  rw [show ([U.d (.tup (tt W)), .d (.int a)] ++ [.d due] : List U) = [.tup (tt W), .int a, due].map U.d from rfl, frzL_d]
  dsimp only
  rw [if_pos ⟨rfl, nc2 W a⟩]
  show retY (f [.d (.clo k [.tup (tt W), .int a]), .d due] []) μ = _
  rw [hf]
  rfl
abbrev tB (R : Rn) : SmS := (sSeq (sSet 3 (vComp (wRng1 (aCons (vCall (R.f 6) 2 0 [0, 1] [] [true] (aCons (vVar 1) (aCons (vC (.int 7)) aNil)) aNil) aNil)) (.nm 7) ([("part", 7)].map (·.2)) tYes' (vCall (R.f 11) 1 0 [0] [] [true] (aCons (vVar 1) aNil) aNil)))
  (sSeq (sSet 4 (vM "str" fJoin (vC (.str " ")) (aCons (vVar 3) aNil)))
  (sSeq (sIf (tNot' (tOf (vCall (R.f 9) 2 0 [0, 1] [] [] (aCons (vCall (R.f 1) 1 0 [0] [] [] (aCons (vVar 4) aNil) aNil) (aCons (vCall (R.f 12) 1 0 [0] [] [] (aCons (vVar 4) aNil) aNil) aNil)) aNil))) (sRet (vC (.bl false))) sNil)
  (sSeq (sAsgs  [(.nm 3), (.nm 5)] (aCons (vCall (R.f 12) 1 0 [0] [] [] (aCons (vVar 4) aNil) aNil) (aCons (vCall (R.f 6) 2 0 [0, 1] [] [true] (aCons (vVar 1) (aCons (vC (.int 8)) aNil)) aNil) aNil)))
  (sSeq (sIf (tNot' (tOf (vCallLam (R.f 15) 0 [3, 5] 2 [0, 1] [] (aCons (vCall (R.f 13) 2 0 [0, 1] [] [] (aCons (vVar 3) (aCons (vVar 5) aNil)) aNil) aNil)))) (sRet (vC (.bl false))) sNil)
  (sSeq (sIf (tNot' (tOf (vCallLam (R.f 15) 1 [3, 5] 2 [0, 1] [] (aCons (vCall (R.f 14) 2 0 [0, 1] [] [] (aCons (vVar 3) (aCons (vVar 5) aNil)) aNil) aNil)))) (sRet (vC (.bl false))) sNil)
  (sSeq (sIf (tNot' (tOf (vCallLam (R.f 15) 2 [3, 5] 2 [0, 1] [] (aCons (vIf (tOf (v2 fLe (v1 fLen (vVar 3)) (vVar 5))) (vN oLst (aCons (vC .non) aNil)) (vVar 5)) aNil)))) (sRet (vC (.bl false))) sNil)
  (sSeq (sIf (tNot' (tOf (vCallLam (R.f 15) 3 [3, 5] 2 [0, 1] [] (aCons (vCall (R.f 13) 2 0 [0, 1] [] [] (aCons (vVar 3) (aCons (vVar 5) aNil)) aNil) aNil)))) (sRet (vC (.bl false))) sNil)
  (sIf (tNot' (tOf (vCallLam (R.f 15) 4 [3, 5] 2 [0, 1] [] (aCons (vIf (tOf (v2 fLe (v1 fLen (vVar 3)) (vVar 5))) (vN oLst (aCons (vC .non) aNil)) (vVar 5)) aNil)))) (sRet (vC (.bl false))) sNil)))))))))
theorem turn (ns : List Int) (sc : Option U) (j : Int) (w l a v p : Option U) (at_ rest : Int) (h1 : 0 ≤ at_) (h2 : at_ + 900 ≤ 1000001) (h3 : 0 ≤ rest) : ∃ (w' l' a' : Option U) (at2 rest2 : Int), at_ ≤ at2 ∧ at2 ≤ at_ + 900 ∧ 0 ≤ rest2 ∧
    tB R1 [sc, some (.p 0), some (.d (.int j)), w, l, a, v, p] (pn ns at_ rest) = .nx [sc, some (.p 0), some (.d (.int j)), w', l', a', v, p] (pn ns at2 rest2) := by
  -- words = [..]
  obtain ⟨d1, at1, rest1, ⟨r, rfl, p1, p2⟩, q1, q2, q3, e1⟩ := drawF 10 ns 7 (by decide) (by decide) at_ rest h1 (by omega) h3
  simp only [List.map_cons, List.map_nil] at e1
  have hw : (wRng1 (aCons (vCall (R1.f 6) 2 0 [0, 1] [] [true] (aCons (vVar 1) (aCons (vC (.int 7)) aNil)) aNil) aNil)) [sc, some (.p 0), some (.d (.int j)), w, l, a, v, p] (pn ns at_ rest) = .ok (rngW 0 r.toNat) (pn ns at1 rest1) := by
    have hb : -4611686018427387904 ≤ r ∧ r < 4611686018427387904 := by omega
    simp [wRng1, sSeq, sSet, sIf, sRet, sRetN, sSetIx, sExpr, sNil, sAsg, sAsgs, sPar, tOf, tAnd', tOr', tNot', tYes', v2, v1, vN, vVar, vC, vAnd, vOr, vNot, vIf, aCons, aNil, fGt, fGe, fLt, fLe, fI, fIC, fAdd, fSub, fMul, fDiv, fMod, fPow, fNeg, cMul, cDiv, cMod, cPow, fInt, fAbs, ev_bind, ev_berr, ev_then, ev_terr, List.getElem?_cons_zero, List.getElem?_cons_succ, List.set_cons_zero, List.set_cons_succ, vCall, ixL, e1, hb]
  obtain ⟨ds, at2, rest2, s1, s2, s3, s4, s5, e2⟩ : ∃ (ds : List D) (at2 rest2 : Int), ds.length = r.toNat ∧ (∀ d ∈ ds, WdP d) ∧ at1 ≤ at2 ∧ at2 ≤ at1 + r.toNat * 130 ∧ 0 ≤ rest2 ∧
      vComp (fun _ μ => .ok (rngW 0 r.toNat) μ) (.nm 7) [7] tYes' (vCall (R1.f 11) 1 0 [0] [] [true] (aCons (vVar 1) aNil) aNil) [sc, some (.p 0), some (.d (.int j)), w, l, a, v, p] (pn ns at1 rest1) = .ok (.d (.lst ds)) (pn ns at2 rest2) :=
    vcomp_rng (c := 130) (P := WdP) rfl (by decide) (fun j at_ rest h1 h2 h3 => by
      obtain ⟨d, a2, b2, z1, z2, z3, z4, z5⟩ := word 7 ns at_ rest h1 h2 h3
      refine ⟨d, a2, b2, z1, z2, z3, z4, ?_⟩
      simp only [List.map_nil] at z5
      simp [sSeq, sSet, sIf, sRet, sRetN, sSetIx, sExpr, sNil, sAsg, sAsgs, sPar, tOf, tAnd', tOr', tNot', tYes', v2, v1, vN, vVar, vC, vAnd, vOr, vNot, vIf, aCons, aNil, fGt, fGe, fLt, fLe, fI, fIC, fAdd, fSub, fMul, fDiv, fMod, fPow, fNeg, cMul, cDiv, cMod, cPow, fInt, fAbs, ev_bind, ev_berr, ev_then, ev_terr, List.getElem?_cons_zero, List.getElem?_cons_succ, List.set_cons_zero, List.set_cons_succ, vCall, ixL, z5, wipeR]) (by omega) (by omega) (by omega) q3
  obtain ⟨ws, rfl, w1, w2⟩ := wds_of s2
  have st1 : ((sSet 3 (vComp (wRng1 (aCons (vCall (R1.f 6) 2 0 [0, 1] [] [true] (aCons (vVar 1) (aCons (vC (.int 7)) aNil)) aNil) aNil)) (.nm 7) ([("part", 7)].map (·.2)) tYes' (vCall (R1.f 11) 1 0 [0] [] [true] (aCons (vVar 1) aNil) aNil))) : SmS) [sc, some (.p 0), some (.d (.int j)), w, l, a, v, p] (pn ns at_ rest) = .nx [sc, some (.p 0), some (.d (.int j)), some (.d (.lst (tt ws))), l, a, v, p] (pn ns at2 rest2) := by
    unfold sSet
    show ((vComp (wRng1 (aCons (vCall (R1.f 6) 2 0 [0, 1] [] [true] (aCons (vVar 1) (aCons (vC (.int 7)) aNil)) aNil) aNil)) (.nm 7) [7] tYes' (vCall (R1.f 11) 1 0 [0] [] [true] (aCons (vVar 1) aNil) aNil) [sc, some (.p 0), some (.d (.int j)), w, l, a, v, p] (pn ns at_ rest)).thenS _ _) = _
    have e3 : vComp (wRng1 (aCons (vCall (R1.f 6) 2 0 [0, 1] [] [true] (aCons (vVar 1) (aCons (vC (.int 7)) aNil)) aNil) aNil)) (.nm 7) [7] tYes' (vCall (R1.f 11) 1 0 [0] [] [true] (aCons (vVar 1) aNil) aNil) [sc, some (.p 0), some (.d (.int j)), w, l, a, v, p] (pn ns at_ rest) = .ok (.d (.lst (tt ws))) (pn ns at2 rest2) := by
      rw [← e2]
      unfold vComp
      rw [hw]
    rw [e3]
    rfl
  -- line
  obtain ⟨ln, hln⟩ : ∃ ln, ln = TL.joinL [32] ws := ⟨_, rfl⟩
  obtain ⟨l1, l2⟩ := joinL_ok ws w1
  rw [← hln] at l1 l2
  have hj := join_tt ws w1 (by rw [w2, s1]; omega) (pn ns at2 rest2)
  rw [← hln] at hj
  have hlen : ln.length < 1000 := by
    have : ws.length ≤ 7 := by rw [w2, s1]; omega
    omega
  have st2 : ((sSet 4 (vM "str" fJoin (vC (.str " ")) (aCons (vVar 3) aNil))) : SmS) [sc, some (.p 0), some (.d (.int j)), some (.d (.lst (tt ws))), l, a, v, p] (pn ns at2 rest2) = .nx [sc, some (.p 0), some (.d (.int j)), some (.d (.lst (tt ws))), some (.d (.str (SS ln))), a, v, p] (pn ns at2 rest2) := by
    show ((fJoin (.d (.str " ")) [.d (.lst (tt ws))] (pn ns at2 rest2)).thenS _ _) = _
    rw [hj]
    rfl
  -- words_of, parted
  obtain ⟨W, hW⟩ : ∃ W, W = spl [] ln := ⟨_, rfl⟩
  have hWl : W.length ≤ 1001 := by rw [hW]; have := spl_len ln []; omega
  have hWm : ∀ w ∈ W, w.length ≤ 98000 ∧ ∀ c ∈ w, c < 1114112 := fun w hw => by
    rw [hW] at hw
    obtain ⟨z1, z2⟩ := spl_mem ln [] w hw
    refine ⟨by simp at z1; omega, fun c hc => ?_⟩
    rcases z2 c hc with q | q
    · cases q
    · have := l2 c q
      omega
  have f1 : ∀ μ, callL (R1.f 1) [] [.d (.str (SS ln))] μ = .ok (.d (.tup (tt W))) μ := fun μ => call_d (ds := [.str (SS ln)]) (by rw [hW]; exact words_of 10 ln (by omega))
  have f12 : ∀ μ, callL (R1.f 12) [] [.d (.str (SS ln))] μ = .ok (.d (.tup (tt W))) μ := fun μ => call_d (ds := [.str (SS ln)]) (by rw [hW]; exact parted 10 ln (by omega))
  have f9 : ∀ μ, callL (R1.f 9) [] [.d (.tup (tt W)), .d (.tup (tt W))] μ = .ok (.d (.bl true)) μ := fun μ => call_d (ds := [.tup (tt W), .tup (tt W)]) (like_tup 9 W (by omega))
  have st3 : ((sIf (tNot' (tOf (vCall (R1.f 9) 2 0 [0, 1] [] [] (aCons (vCall (R1.f 1) 1 0 [0] [] [] (aCons (vVar 4) aNil) aNil) (aCons (vCall (R1.f 12) 1 0 [0] [] [] (aCons (vVar 4) aNil) aNil) aNil)) aNil))) (sRet (vC (.bl false))) sNil) : SmS) [sc, some (.p 0), some (.d (.int j)), some (.d (.lst (tt ws))), some (.d (.str (SS ln))), a, v, p] (pn ns at2 rest2) = .nx [sc, some (.p 0), some (.d (.int j)), some (.d (.lst (tt ws))), some (.d (.str (SS ln))), a, v, p] (pn ns at2 rest2) := by
    refine if_ok ?_
    simp [sSeq, sSet, sIf, sRet, sRetN, sSetIx, sExpr, sNil, sAsg, sAsgs, sPar, tOf, tAnd', tOr', tNot', tYes', v2, v1, vN, vVar, vC, vAnd, vOr, vNot, vIf, aCons, aNil, fGt, fGe, fLt, fLe, fI, fIC, fAdd, fSub, fMul, fDiv, fMod, fPow, fNeg, cMul, cDiv, cMod, cPow, fInt, fAbs, ev_bind, ev_berr, ev_then, ev_terr, List.getElem?_cons_zero, List.getElem?_cons_succ, List.set_cons_zero, List.set_cons_succ, vCall, ixL, f1, f12, f9]
  -- words, at
  obtain ⟨d4, at4, rest4, ⟨r4, rfl, p5, p6⟩, t1, t2, t3, e4⟩ := drawF 10 ns 8 (by decide) (by decide) at2 rest2 (by omega) (by omega) s5
  simp only [List.map_cons, List.map_nil] at e4
  have st4 : ((sAsgs  [(.nm 3), (.nm 5)] (aCons (vCall (R1.f 12) 1 0 [0] [] [] (aCons (vVar 4) aNil) aNil) (aCons (vCall (R1.f 6) 2 0 [0, 1] [] [true] (aCons (vVar 1) (aCons (vC (.int 8)) aNil)) aNil) aNil))) : SmS) [sc, some (.p 0), some (.d (.int j)), some (.d (.lst (tt ws))), some (.d (.str (SS ln))), a, v, p] (pn ns at2 rest2) = .nx [sc, some (.p 0), some (.d (.int j)), some (.d (.tup (tt W))), some (.d (.str (SS ln))), some (.d (.int r4)), v, p] (pn ns at4 rest4) := by
    simp [sSeq, sSet, sIf, sRet, sRetN, sSetIx, sExpr, sNil, sAsg, sAsgs, sPar, tOf, tAnd', tOr', tNot', tYes', v2, v1, vN, vVar, vC, vAnd, vOr, vNot, vIf, aCons, aNil, fGt, fGe, fLt, fLe, fI, fIC, fAdd, fSub, fMul, fDiv, fMod, fPow, fNeg, cMul, cDiv, cMod, cPow, fInt, fAbs, ev_bind, ev_berr, ev_then, ev_terr, List.getElem?_cons_zero, List.getElem?_cons_succ, List.set_cons_zero, List.set_cons_succ, vCall, ixL, f12, e4, tgMs, tgM]
  -- the lambdas
  obtain ⟨dn, g13, g15⟩ := due_noise 7 0 (.inl rfl) W (fun w hw => (hWm w hw).1) r4 p5
  obtain ⟨dn3, g13', g15'⟩ := due_noise 7 3 (.inr rfl) W (fun w hw => (hWm w hw).1) r4 p5
  obtain ⟨dr, g14, g16⟩ := due_row 6 W (fun w hw => (hWm w hw).1) (fun w hw => (hWm w hw).2) r4 p5
  have b2 := due_behind 7 2 (.inl rfl) W r4
  have b4 := due_behind 7 4 (.inr rfl) W r4
  have c13 : ∀ μ, callL (R1.f 13) [] [.d (.tup (tt W)), .d (.int r4)] μ = .ok (.d dn) μ := fun μ => call_d (ds := [.tup (tt W), .int r4]) g13
  have c13' : ∀ μ, callL (R1.f 13) [] [.d (.tup (tt W)), .d (.int r4)] μ = .ok (.d dn3) μ := fun μ => call_d (ds := [.tup (tt W), .int r4]) g13'
  have c14 : ∀ μ, callL (R1.f 14) [] [.d (.tup (tt W)), .d (.int r4)] μ = .ok (.d dr) μ := fun μ => call_d (ds := [.tup (tt W), .int r4]) g14
  have m13 : (aCons (vCall (R1.f 13) 2 0 [0, 1] [] [] (aCons (vVar 3) (aCons (vVar 5) aNil)) aNil) aNil) [sc, some (.p 0), some (.d (.int j)), some (.d (.tup (tt W))), some (.d (.str (SS ln))), some (.d (.int r4)), v, p] (pn ns at4 rest4) = .ok [.d dn] (pn ns at4 rest4) := by
    simp [sSeq, sSet, sIf, sRet, sRetN, sSetIx, sExpr, sNil, sAsg, sAsgs, sPar, tOf, tAnd', tOr', tNot', tYes', v2, v1, vN, vVar, vC, vAnd, vOr, vNot, vIf, aCons, aNil, fGt, fGe, fLt, fLe, fI, fIC, fAdd, fSub, fMul, fDiv, fMod, fPow, fNeg, cMul, cDiv, cMod, cPow, fInt, fAbs, ev_bind, ev_berr, ev_then, ev_terr, List.getElem?_cons_zero, List.getElem?_cons_succ, List.set_cons_zero, List.set_cons_succ, vCall, ixL, c13]
  have m13' : (aCons (vCall (R1.f 13) 2 0 [0, 1] [] [] (aCons (vVar 3) (aCons (vVar 5) aNil)) aNil) aNil) [sc, some (.p 0), some (.d (.int j)), some (.d (.tup (tt W))), some (.d (.str (SS ln))), some (.d (.int r4)), v, p] (pn ns at4 rest4) = .ok [.d dn3] (pn ns at4 rest4) := by
    simp [sSeq, sSet, sIf, sRet, sRetN, sSetIx, sExpr, sNil, sAsg, sAsgs, sPar, tOf, tAnd', tOr', tNot', tYes', v2, v1, vN, vVar, vC, vAnd, vOr, vNot, vIf, aCons, aNil, fGt, fGe, fLt, fLe, fI, fIC, fAdd, fSub, fMul, fDiv, fMod, fPow, fNeg, cMul, cDiv, cMod, cPow, fInt, fAbs, ev_bind, ev_berr, ev_then, ev_terr, List.getElem?_cons_zero, List.getElem?_cons_succ, List.set_cons_zero, List.set_cons_succ, vCall, ixL, c13']
  have m14 : (aCons (vCall (R1.f 14) 2 0 [0, 1] [] [] (aCons (vVar 3) (aCons (vVar 5) aNil)) aNil) aNil) [sc, some (.p 0), some (.d (.int j)), some (.d (.tup (tt W))), some (.d (.str (SS ln))), some (.d (.int r4)), v, p] (pn ns at4 rest4) = .ok [.d dr] (pn ns at4 rest4) := by
    simp [sSeq, sSet, sIf, sRet, sRetN, sSetIx, sExpr, sNil, sAsg, sAsgs, sPar, tOf, tAnd', tOr', tNot', tYes', v2, v1, vN, vVar, vC, vAnd, vOr, vNot, vIf, aCons, aNil, fGt, fGe, fLt, fLe, fI, fIC, fAdd, fSub, fMul, fDiv, fMod, fPow, fNeg, cMul, cDiv, cMod, cPow, fInt, fAbs, ev_bind, ev_berr, ev_then, ev_terr, List.getElem?_cons_zero, List.getElem?_cons_succ, List.set_cons_zero, List.set_cons_succ, vCall, ixL, c14]
  have mb : (aCons (vIf (tOf (v2 fLe (v1 fLen (vVar 3)) (vVar 5))) (vN oLst (aCons (vC .non) aNil)) (vVar 5)) aNil) [sc, some (.p 0), some (.d (.int j)), some (.d (.tup (tt W))), some (.d (.str (SS ln))), some (.d (.int r4)), v, p] (pn ns at4 rest4) = .ok [.d (if (W.length : Int) ≤ r4 then .lst [.non] else .int r4)] (pn ns at4 rest4) := by
    have ho : ∀ μ : Mu, oLst [.d .non] μ = .ok (.d (.lst [.non])) μ := fun μ => rfl
    by_cases hc : (W.length : Int) ≤ r4
    · simp [sSeq, sSet, sIf, sRet, sRetN, sSetIx, sExpr, sNil, sAsg, sAsgs, sPar, tOf, tAnd', tOr', tNot', tYes', v2, v1, vN, vVar, vC, vAnd, vOr, vNot, vIf, aCons, aNil, fGt, fGe, fLt, fLe, fI, fIC, fAdd, fSub, fMul, fDiv, fMod, fPow, fNeg, cMul, cDiv, cMod, cPow, fInt, fAbs, ev_bind, ev_berr, ev_then, ev_terr, List.getElem?_cons_zero, List.getElem?_cons_succ, List.set_cons_zero, List.set_cons_succ, len_tt, hc, ho]
    · simp [sSeq, sSet, sIf, sRet, sRetN, sSetIx, sExpr, sNil, sAsg, sAsgs, sPar, tOf, tAnd', tOr', tNot', tYes', v2, v1, vN, vVar, vC, vAnd, vOr, vNot, vIf, aCons, aNil, fGt, fGe, fLt, fLe, fI, fIC, fAdd, fSub, fMul, fDiv, fMod, fPow, fNeg, cMul, cDiv, cMod, cPow, fInt, fAbs, ev_bind, ev_berr, ev_then, ev_terr, List.getElem?_cons_zero, List.getElem?_cons_succ, List.set_cons_zero, List.set_cons_succ, len_tt, hc]
  refine ⟨some (.d (.tup (tt W))), some (.d (.str (SS ln))), some (.d (.int r4)), at4, rest4, by omega, by omega, t3, ?_⟩
  unfold tB
  rw [seq_nx st1, seq_nx st2, seq_nx st3, seq_nx st4, seq_nx (if_ok (vcl rfl rfl m13 g15)), seq_nx (if_ok (vcl rfl rfl m14 g16)), seq_nx (if_ok (vcl rfl rfl mb b2)), seq_nx (if_ok (vcl rfl rfl m13' g15'))]
  exact if_ok (vcl rfl rfl mb b4)
end K43
set_option Elab.async false
set_option linter.all false
set_option maxRecDepth 100000
set_option maxHeartbeats 2000000
set_option autoImplicit false
namespace K43
open PySem PySem.Spec PyProof.Rows L2 Iv
/-! ### the pen -/
theorem sl63 (ns : List Int) (hl : ns.length ≤ 63) (μ : Mu) : fSl (.d (.lst (ns.map .int))) none (some 63) μ = .ok (.d (.lst (ns.map .int))) μ := by
  have e : cutL ((ns.map D.int).map U.d) none (some 63) = (ns.map D.int).map U.d := by
    unfold cutL
    rw [show HT.sIx ((ns.map D.int).map U.d).length 0 none = 0 from rfl, show HT.sIx ((ns.map D.int).map U.d).length ((ns.map D.int).map U.d).length (some 63) = min 63 ((ns.map D.int).map U.d).length from rfl, List.drop_zero, Nat.sub_zero]
    apply List.take_of_length_le
    rw [List.length_map, List.length_map]
    omega
  show oLst (cutL ((ns.map D.int).map U.d) none (some 63)) μ = _
  rw [e]
  unfold oLst
  rw [frzL_d]
  exact if_pos (by rw [List.length_map]; omega)
theorem pen_of (n : Nat) (ns : List Int) (hl : ns.length ≤ 63) : (run (n + 1)).f 5 [.d (.lst (ns.map .int))] [] = .ok (.p 0) [] (some (pen ns 0 0)) := by
  have e1 : vComp (wSeq (vSl (vVar 0) none (some (vC (.int 63))))) (.nm 1) [1] tYes' (v1 fInt (vVar 1)) [some (.d (.lst (ns.map .int))), none] [] = .ok (.d (.lst (ns.map .int))) [] := by
    have q := vcomp_d (ds := ns.map D.int) (w := wSeq (vSl (vVar 0) none (some (vC (.int 63))))) (t := .nm 1) (own := [1]) (cond := tYes') (elt := v1 fInt (vVar 1)) (ρ := [some (.d (.lst (ns.map .int))), none]) (μ0 := []) (μ := []) (p := fun _ => true) (g := fun d => d)
      (r := fun d => [some (.d (.lst (ns.map .int))), some (.d d)]) (by
        simp [wSeq, vSl, pOpt, vVar, vC, ev_bind, sl63 ns hl, itemsD]) (fun d hd => rfl) (fun d hd => rfl) (fun d hd _ => by
        obtain ⟨i, hi, rfl⟩ := List.mem_map.mp hd
        rfl) (by rw [List.length_map]; omega)
    rw [q]
    simp
  rw [show (run (n + 1)).f 5 = entry 2 true (b_5 (run n)) from rfl]
  have e2 : b_5 (run n) [some (.d (.lst (ns.map .int))), none] [] = .ret (.p 0) [.lst [.d (.lst (ns.map .int)), .d (.int 0), .d (.int 0)]] := by
    show ((vN oLstP (aCons (vComp (wSeq (vSl (vVar 0) none (some (vC (.int 63))))) (.nm 1) [1] tYes' (v1 fInt (vVar 1))) (aCons (vC (.int 0)) (aCons (vC (.int 0)) aNil)))) [some (.d (.lst (ns.map .int))), none] []).thenS _ _ = _
    unfold vN aCons
    rw [e1]
    rfl
  show exitF 0 true (b_5 (run n) [some (.d (.lst (ns.map .int))), none] []) = _
  rw [e2]
  rfl
/-! ### the loop -/
theorem turns (ns : List Int) (sc v p : Option U) : ∀ (k i : Nat) (w l a t : Option U) (at_ rest : Int), i + k = 12 → 0 ≤ at_ → at_ + k * 900 ≤ 1000001 → 0 ≤ rest → ∃ (t' w' l' a' : Option U) (at2 rest2 : Int), at_ ≤ at2 ∧ at2 ≤ at_ + k * 900 ∧ 0 ≤ rest2 ∧
    loopG (.nm 2) (tB R1) (rngW 0 12).nxt (k + 1) i [sc, some (.p 0), t, w, l, a, v, p] (pn ns at_ rest) = .nx [sc, some (.p 0), t', w', l', a', v, p] (pn ns at2 rest2)
  | 0, i, w, l, a, t, at_, rest, hi, h1, h2, h3 => by
    have : i = 12 := by omega
    subst this
    exact ⟨t, w, l, a, at_, rest, by omega, by omega, h3, rfl⟩
  | k + 1, i, w, l, a, t, at_, rest, hi, h1, h2, h3 => by
    obtain ⟨w', l', a', at2, rest2, q1, q2, q3, e⟩ := turn ns sc ((0 : Int) + i) w l a v p at_ rest h1 (by omega) h3
    obtain ⟨t3, w3, l3, a3, at3, rest3, z1, z2, z3, e3⟩ := turns ns sc v p k (i + 1) w' l' a' (some (.d (.int ((0 : Int) + i)))) at2 rest2 (by omega) (by omega) (by omega) q3
    refine ⟨t3, w3, l3, a3, at3, rest3, by omega, by omega, z3, ?_⟩
    have hn : (rngW 0 12).nxt i (pn ns at_ rest) = some (some (.d (.int ((0 : Int) + i)))) := by
      show some (if i < 12 then some (U.d (.int ((0 : Int) + i))) else none) = _
      rw [if_pos (by omega)]
    unfold loopG
    rw [hn]
    show (match tB R1 [sc, some (.p 0), some (.d (.int ((0 : Int) + i))), w, l, a, v, p] (pn ns at_ rest) with
        | .nx ρ2 μ2 => loopG (.nm 2) (tB R1) (rngW 0 12).nxt (k + 1) (i + 1) ρ2 μ2
        | .ct ρ2 μ2 => loopG (.nm 2) (tB R1) (rngW 0 12).nxt (k + 1) (i + 1) ρ2 μ2
        | .brk ρ2 μ2 => .nx ρ2 μ2
        | .ret u μ2 => .ret u μ2
        | .err c ns vs ρ2 μ2 => .err c ns vs ρ2 μ2
        | .bad => .bad) = _
    rw [e]
    exact e3
theorem plain (ns : List Int) (hl : ns.length ≤ 63) : (run 12).f 16 [.d (.lst (ns.map D.int))] [] = .ok (.d (.bl true)) [] none := by
  rw [show (run 12).f 16 = entry 8 false (b_16 R1) from rfl]
  obtain ⟨sc, hsc⟩ : ∃ sc : Option U, sc = some (.d (.lst (ns.map D.int))) := ⟨_, rfl⟩
  have h5 := pen_of 10 ns hl
  have s1 : (sSet 1 (vCall (R1.f 5) 1 0 [0] [] [] (aCons (vVar 0) aNil) aNil)) [sc, none, none, none, none, none, none, none] [] = .nx [sc, some (.p 0), none, none, none, none, none, none] (pn ns 0 0) := by
    have hp : ∀ μ, pass [] [.d (.lst (ns.map D.int))] μ [] = some ([.d (.lst (ns.map D.int))], [], μ) := fun μ => pass_d [] [.lst (ns.map D.int)] μ []
    have hc : callL (R1.f 5) [] [.d (.lst (ns.map D.int))] [] = .ok (.p 0) (pn ns 0 0) := by
      unfold callL
      rw [hp]
      dsimp only
      rw [if_pos List.nodup_nil]
      show back [] [] ((run 11).f 5 [.d (.lst (ns.map D.int))] []) = _
      rw [h5]
      rfl
    rw [hsc]
    simp [sSeq, sSet, sIf, sRet, sRetN, sSetIx, sExpr, sNil, sAsg, sAsgs, sPar, tOf, tAnd', tOr', tNot', tYes', v2, v1, vN, vVar, vC, vAnd, vOr, vNot, vIf, aCons, aNil, fGt, fGe, fLt, fLe, fI, fIC, fAdd, fSub, fMul, fDiv, fMod, fPow, fNeg, cMul, cDiv, cMod, cPow, fInt, fAbs, ev_bind, ev_berr, ev_then, ev_terr, List.getElem?_cons_zero, List.getElem?_cons_succ, List.set_cons_zero, List.set_cons_succ, vCall, ixL, hc]
  obtain ⟨t', w', l', a', at2, rest2, q1, q2, q3, e2⟩ := turns ns sc none none 12 0 none none none none 0 0 rfl (by omega) (by omega) (by omega)
  have s2 : (sFor (wRng1 (aCons (vC (.int 12)) aNil)) (.nm 2) (tB R1)) [sc, some (.p 0), none, none, none, none, none, none] (pn ns 0 0) = .nx [sc, some (.p 0), t', w', l', a', none, none] (pn ns at2 rest2) := by
    rw [← e2]
    rfl
  obtain ⟨d, at3, rest3, p1, z1, z2, z3, e3⟩ := pickL 9 ns [.non, .int 5, .lst [.str "end"], .tup [.str "end"], .bl true] (by decide) (by decide) at2 rest2 (by omega) (by omega) q3
  simp only [List.map_cons, List.map_nil] at e3
  have hno : (∀ μ, fIsi (tabB "str" [] [0, 1]) (.d d) μ = .ok (.d (.bl false)) μ) ∧ D.ncL [d] = true := by
    simp only [List.mem_cons, List.not_mem_nil, or_false] at p1
    rcases p1 with rfl | rfl | rfl | rfl | rfl <;> exact ⟨fun μ => rfl, rfl⟩
  have o1 : ∀ μ : Mu, oLst [.d (.str "end")] μ = .ok (.d (.lst [.str "end"])) μ := fun μ => rfl
  have o2 : ∀ μ : Mu, oTup [.d (.str "end")] μ = .ok (.d (.tup [.str "end"])) μ := fun μ => rfl
  have o3 : ∀ μ : Mu, oLst [.d .non, .d (.int 5), .d (.lst [.str "end"]), .d (.tup [.str "end"]), .d (.bl true)] μ = .ok (.d (.lst [.non, .int 5, .lst [.str "end"], .tup [.str "end"], .bl true])) μ := fun μ => rfl
  have s3 : ((sSet 6 (vCall (R1.f 7) 2 0 [0, 1] [] [true] (aCons (vVar 1) (aCons (vN oLst (aCons (vC .non) (aCons (vC (.int 5)) (aCons (vN oLst (aCons (vC (.str "end")) aNil)) (aCons (vN oTup (aCons (vC (.str "end")) aNil)) (aCons (vC (.bl true)) aNil)))))) aNil)) aNil)) : SmS) [sc, some (.p 0), t', w', l', a', none, none] (pn ns at2 rest2) = .nx [sc, some (.p 0), t', w', l', a', some (.d d), none] (pn ns at3 rest3) := by
    simp [sSeq, sSet, sIf, sRet, sRetN, sSetIx, sExpr, sNil, sAsg, sAsgs, sPar, tOf, tAnd', tOr', tNot', tYes', v2, v1, vN, vVar, vC, vAnd, vOr, vNot, vIf, aCons, aNil, fGt, fGe, fLt, fLe, fI, fIC, fAdd, fSub, fMul, fDiv, fMod, fPow, fNeg, cMul, cDiv, cMod, cPow, fInt, fAbs, ev_bind, ev_berr, ev_then, ev_terr, List.getElem?_cons_zero, List.getElem?_cons_succ, List.set_cons_zero, List.set_cons_succ, vCall, ixL, o1, o2, o3, e3]
  have g15 : (run 11).f 15 [.d (.clo 5 [d]), .d (.int 0)] [] = .ok (.d (.bl true)) [] none :=
    as_due_err (m := 9) (ds := [d]) (a := 0) hno.2 (lam5 7 d (words_no 7 d hno.1) (.inr ⟨_, _, _, rfl⟩))
  have c15 : vCallLam (R1.f 15) 5 [6] 2 [0, 1] [] (aCons (vC (.int 0)) aNil) [sc, some (.p 0), t', w', l', a', some (.d d), none] (pn ns at3 rest3) = .ok (.d (.bl true)) (pn ns at3 rest3) := by
    unfold vCallLam
    show (match frzL ([.d d] ++ [.d (.int 0)]) (pn ns at3 rest3) with
      | none => .bad
      | some (xs, μ2) => if [U.d (.int 0)].length + 1 = 2 ∧ D.ncL (xs.take [6].length) = true then retY ((R1.f 15) ((ixL [0, 1] ((.clo 5 (xs.take [6].length) :: xs.drop [6].length) ++ [])).map .d) []) μ2 else .bad : Res U) = _
    rw [show ([U.d d] ++ [.d (.int 0)] : List U) = [d, .int 0].map U.d from rfl, frzL_d]
    dsimp only
    rw [if_pos ⟨rfl, hno.2⟩]
    show retY ((run 11).f 15 [.d (.clo 5 [d]), .d (.int 0)] []) _ = _
    rw [g15]
    rfl
  have f1 : ∀ μ, callL (R1.f 1) [] [.d (.str "")] μ = .ok (.d (.tup [.str ""])) μ := fun μ => call_d (ds := [.str ""]) (words_of 10 [] (by decide))
  have f9 : ∀ μ, callL (R1.f 9) [] [.d (.tup [.str ""]), .d (.tup [.str ""])] μ = .ok (.d (.bl true)) μ := fun μ => call_d (ds := [.tup [.str ""], .tup [.str ""]]) (like_tup 9 [[]] (by decide))
  have o4 : ∀ μ : Mu, oTup [.d (.str "")] μ = .ok (.d (.tup [.str ""])) μ := fun μ => rfl
  have s4 : ((sRet (vAnd (vCallLam (R1.f 15) 5 [6] 2 [0, 1] [] (aCons (vC (.int 0)) aNil)) (vCall (R1.f 9) 2 0 [0, 1] [] [] (aCons (vCall (R1.f 1) 0 1 [0] [] [] aNil (aCons (vC (.str "")) aNil)) (aCons (vN oTup (aCons (vC (.str "")) aNil)) aNil)) aNil))) : SmS) [sc, some (.p 0), t', w', l', a', some (.d d), none] (pn ns at3 rest3) = .ret (.d (.bl true)) (pn ns at3 rest3) := by
    simp [sSeq, sSet, sIf, sRet, sRetN, sSetIx, sExpr, sNil, sAsg, sAsgs, sPar, tOf, tAnd', tOr', tNot', tYes', v2, v1, vN, vVar, vC, vAnd, vOr, vNot, vIf, aCons, aNil, fGt, fGe, fLt, fLe, fI, fIC, fAdd, fSub, fMul, fDiv, fMod, fPow, fNeg, cMul, cDiv, cMod, cPow, fInt, fAbs, ev_bind, ev_berr, ev_then, ev_terr, List.getElem?_cons_zero, List.getElem?_cons_succ, List.set_cons_zero, List.set_cons_succ, vCall, ixL, f1, f9, o4, c15]
  rw [hsc] at s1 s2 s3 s4
  refine en_ret (ex := pn ns at3 rest3) ?_
  show (sSeq _ (sSeq (sFor _ _ (tB R1)) (sSeq _ _))) [some (.d (.lst (ns.map D.int))), none, none, none, none, none, none, none] [] = _
  rw [seq_nx s1, seq_nx s2, seq_nx s3]
  exact s4
end K43
set_option Elab.async false
set_option linter.all false
set_option maxRecDepth 100000
set_option maxHeartbeats 0
open PySem PySem.W PySem.Calls PyProof.Rows
theorem PySem.Challenge.cw_heardasmeant_k43_desk_lines_holds : PySem.Challenge.rw_heardasmeant_k43_desk_lines.Holds := by
  w_on; o_law
  refine HandSHeadRun.head_any (r := OpenLaw.row PySem.Challenge.rw_heardasmeant_k43_desk_lines) (q := view (OpenLaw.row PySem.Challenge.rw_heardasmeant_k43_desk_lines).prog [25]) (H := K43.hk) (ob := K43.ob) (M := 4000) (loose := K43.nms) (d := HandSHeadRun.topDef (OpenLaw.row PySem.Challenge.rw_heardasmeant_k43_desk_lines).prog 25) (kwd := []) K43.ob_eq
    (by kernel_rfl) (fun s => by kernel_rfl) K43.run_ok (by kernel_rfl) (by kernel_rfl) (by kernel_rfl) (by rfl) (by first | assumption | decide +kernel) (by decide +kernel) ⟨rfl, rfl, rfl, rfl, rfl, by decide +kernel⟩ ?hw ?hc
  case hw => w_witness2
  case hc =>
    refine LamX.walk_ofTsE (l := PySem.Challenge.rw_heardasmeant_k43_desk_lines) (n := 63) (k := 14) (x := "script") (CX := fun w => L2.CX (PySem.Challenge.rw_heardasmeant_k43_desk_lines).prog w) rfl (by decide) (by kernel_rfl) ⟨rfl, by decide, by decide⟩ ?F (fun w H s e s' z => K43.cx_no w H s e s' z)
    intro w mg fa h Y G0 hmg0
    have hmg : mg ("law" : PySem.Str) = some (.ref fa) := by
      have e : (HandSHeadRun.topDef (OpenLaw.row PySem.Challenge.rw_heardasmeant_k43_desk_lines).prog 25).name = ("law" : PySem.Str) := by kernel_rfl
      rw [← e]
      exact hmg0
    exact K43.law_at K43.plain Y G0 hmg
