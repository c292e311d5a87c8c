import PyProof.Rows.All
import Wide.All
import OpenK.AllK
import Wide.FinOn
import HandS.ForMost
import HandS.Walk
import HandS.Slots
import HandS.SlotsOwn
import HandS.ClsMeth
import HandS.IsInst
import HandS.Defaults
import HandS.Deep
import HandS.Conv
import HandS.TupAny
import HandS.SortInts
import HandS.WideBits
import KE.GoesMore
import KE.GoesZip
import HandS.Zip
import PyProof.ListRange
import PySem.Challenge.RW_newsbooks_k78_whole_levels_and_sinks_rea
import HandS.Text
import PyProof.EqAt
import PyProof.EqKinds
import PyProof.TupleCall
import HandS.SetFor
import HandS.Strs
import PyProof.ListNew
import HandS.CallLocal
import HandS.Style
import HandS.TupSets
import PyProof.ExcBaseAll.Exception
import HandS.ExcInit
import HandS.ExcField
import HandS.ExcOwn
import HandS.WordsExc
import HandS.ExcSuper
set_option Elab.async false
set_option linter.all false
set_option maxRecDepth 100000
set_option maxHeartbeats 4000000
/-! # Fw -/
namespace My
open PySem L2

/-! ### data -/
inductive Dt where
  | non | bl (b : Bool) | int (i : Int) | str (x : Str) | lst (l : List Dt) | tup (l : List Dt) | rk (L : List Nat) | cl | rng (n : Nat)
abbrev Dt.n (k : Nat) : Dt := .int (k : Int)
abbrev Dt.T (xs : List Nat) : Dt := .tup (xs.map Dt.n)
abbrev Dt.L (xs : List Nat) : Dt := .lst (xs.map Dt.n)
abbrev Dt.TT (xs : List (List Nat)) : Dt := .tup (xs.map Dt.T)
abbrev Dt.LT (xs : List (List Nat)) : Dt := .lst (xs.map Dt.T)
abbrev Dt.LL (xs : List (List Nat)) : Dt := .lst (xs.map Dt.L)
abbrev Dt.LI (xs : List Int) : Dt := .lst (xs.map Dt.int)
abbrev Dt.LB (xs : List Bool) : Dt := .lst (xs.map Dt.bl)
/-- the number of cells, a cell, the cells of a rank given by its levels -/
def ncells (L : List Nat) : Nat := L.foldr (fun a m => max (a + 1) m) 0
def cell (L : List Nat) (c : Nat) : List Nat := (List.range L.length).filter fun w => L.getD w 0 == c
def cellsOf (L : List Nat) : List (List Nat) := (List.range (ncells L)).map (cell L)

mutual
/-- a value of the base heap that bears the datum -/
inductive Rp (C : Addr) (B : Hp) : V → Dt → Prop
  | non : Rp C B .non .non
  | bl (b : Bool) : Rp C B (.bl b) (.bl b)
  | int (i : Int) : Rp C B (.int i) (.int i)
  | str (x : Str) : Rp C B (.str x) (.str x)
  | lst {a : Addr} {xs : List V} {ds : List Dt} : B a = some (.lst xs) → RpAll C B xs ds → Rp C B (.ref a) (.lst ds)
  | tup {a : Addr} {xs : List V} {ds : List Dt} : B a = some (.tup xs) → RpAll C B xs ds → Rp C B (.ref a) (.tup ds)
  | rk {a dx c l : Addr} {L : List Nat} : B a = some (SlX.SlO a C dx [some (.ref c), some (.ref l), some (.int (L.length : Nat))]) → B dx = some (.xd []) → Rp C B (.ref c) (Dt.TT (cellsOf L)) → Rp C B (.ref l) (Dt.T L) → Rp C B (.ref a) (.rk L)
  | cl : Rp C B (.ref C) .cl
  | rng {a : Addr} {n : Nat} : B a = some (.rng 0 (n : Nat)) → Rp C B (.ref a) (.rng n)
inductive RpAll (C : Addr) (B : Hp) : List V → List Dt → Prop
  | nil : RpAll C B [] []
  | cons {v : V} {vs : List V} {d : Dt} {ds : List Dt} : Rp C B v d → RpAll C B vs ds → RpAll C B (v :: vs) (d :: ds)
end

theorem Rp.mono {C : Addr} {B B' : Hp} (e : Same B B') {v : V} {d : Dt} (h : Rp C B v d) : Rp C B' v d :=
  Rp.rec (motive_1 := fun v d _ => Rp C B' v d) (motive_2 := fun vs ds _ => RpAll C B' vs ds)
    .non .bl .int .str (fun h _ ih => .lst (e _ _ h) ih) (fun h _ ih => .tup (e _ _ h) ih) (fun h1 h2 _ _ i1 i2 => .rk (e _ _ h1) (e _ _ h2) i1 i2) .cl (fun h => .rng (e _ _ h)) .nil (fun _ _ i1 i2 => .cons i1 i2) h
theorem RpAll.mono {C : Addr} {B B' : Hp} (e : Same B B') : ∀ {vs : List V} {ds : List Dt}, RpAll C B vs ds → RpAll C B' vs ds
  | _, _, .nil => .nil
  | _, _, .cons h t => .cons (h.mono e) (t.mono e)
theorem RpAll.length {C : Addr} {B : Hp} : ∀ {vs : List V} {ds : List Dt}, RpAll C B vs ds → vs.length = ds.length
  | _, _, .nil => rfl
  | _, _, .cons _ t => congrArg Nat.succ t.length
theorem RpAll.get {C : Addr} {B : Hp} : ∀ {vs : List V} {ds : List Dt} {i : Nat} {d : Dt}, RpAll C B vs ds → ds[i]? = some d → ∃ v, vs[i]? = some v ∧ Rp C B v d
  | _, _, _, _, .nil, e => by simp at e
  | _, _, 0, _, .cons h _, e => by simp at e; subst e; exact ⟨_, rfl, h⟩
  | _, _, i + 1, d, .cons _ t, e => by
    obtain ⟨v, h1, h2⟩ := RpAll.get (i := i) (d := d) t (by simpa using e)
    exact ⟨v, by simpa using h1, h2⟩
theorem RpAll.getV {C : Addr} {B : Hp} {vs : List V} {ds : List Dt} {i : Nat} {v : V} (h : RpAll C B vs ds) (e : vs[i]? = some v) : ∃ d, ds[i]? = some d ∧ Rp C B v d := by
  obtain ⟨h1, _⟩ := List.getElem?_eq_some_iff.mp e
  have h2 : i < ds.length := by rw [← h.length]; exact h1
  obtain ⟨u, e2, r⟩ := h.get (i := i) (d := ds[i]) (by simp [h2])
  rw [e] at e2
  cases e2
  exact ⟨_, by simp [h2], r⟩
theorem RpAll.append {C : Addr} {B : Hp} : ∀ {vs us : List V} {ds es : List Dt}, RpAll C B vs ds → RpAll C B us es → RpAll C B (vs ++ us) (ds ++ es)
  | _, _, _, _, .nil, t => t
  | _, _, _, _, .cons h r, t => .cons h (r.append t)
theorem RpAll.ints {C : Addr} {B : Hp} : ∀ {vs : List V} {xs : List Int}, RpAll C B vs (xs.map Dt.int) → vs = xs.map V.int
  | _, [], h => by cases h; rfl
  | _, x :: xs, h => by
    cases h with
    | cons a t =>
      cases a
      rw [t.ints]
      rfl
theorem RpAll.nats {C : Addr} {B : Hp} {vs : List V} {xs : List Nat} (h : RpAll C B vs (xs.map Dt.n)) : vs = (xs.map fun (k : Nat) => (k : Int)).map V.int := by
  have e : xs.map Dt.n = (xs.map fun (k : Nat) => (k : Int)).map Dt.int := by rw [List.map_map]; rfl
  rw [e] at h
  exact h.ints
theorem RpAll.ofInts {C : Addr} {B : Hp} : ∀ (xs : List Int), RpAll C B (xs.map V.int) (xs.map Dt.int)
  | [] => .nil
  | x :: xs => .cons (.int x) (RpAll.ofInts xs)
theorem RpAll.ofNats {C : Addr} {B : Hp} (xs : List Nat) : RpAll C B ((xs.map fun (k : Nat) => (k : Int)).map V.int) (xs.map Dt.n) := by
  have e : xs.map Dt.n = (xs.map fun (k : Nat) => (k : Int)).map Dt.int := by rw [List.map_map]; rfl
  rw [e]
  exact RpAll.ofInts _
theorem RpAll.bools {C : Addr} {B : Hp} : ∀ {vs : List V} {xs : List Bool}, RpAll C B vs (xs.map Dt.bl) → vs = xs.map V.bl
  | _, [], h => by cases h; rfl
  | _, x :: xs, h => by
    cases h with
    | cons a t =>
      cases a
      rw [t.bools]
      rfl

/-! ### growth -/
structure Gr (B H B' H' : Hp) : Prop where
  b : Same B B'
  h : Same H H'
  bh : Same B' H'
  fr : ∀ a, H a ≠ none → B a = none → B' a = none
theorem Gr.refl {B H : Hp} (e : Same B H) : Gr B H B H := ⟨Same.refl _, Same.refl _, e, fun _ _ h => h⟩
theorem Gr.trans {B H B1 H1 B2 H2 : Hp} (a : Gr B H B1 H1) (b : Gr B1 H1 B2 H2) : Gr B H B2 H2 :=
  ⟨a.b.trans b.b, a.h.trans b.h, b.bh, fun p h1 h2 => b.fr p (fun z => by
    cases e : H p with
    | none => exact h1 e
    | some o => rw [a.h p o e] at z; cases z) (a.fr p h1 h2)⟩
theorem freeB {B H : Hp} {p : Addr} (e : Same B H) (h : H p = none) : B p = none := e.free h
theorem same_new {H : Hp} {p : Addr} {o : HO} (h : H p = none) : Same H (upd H p o) := fun a u e => by
  rw [upd_ne (ne_of_none e h)]
  exact e
theorem Gr.new {B H : Hp} {p : Addr} {o : HO} (e : Same B H) (h : H p = none) : Gr B H (upd B p o) (upd H p o) := by
  refine ⟨same_new (e.free h), same_new h, fun a u q => ?_, fun a h1 h2 => ?_⟩
  · by_cases ha : a = p
    · subst ha
      rw [upd_same] at q ⊢
      exact q
    · rw [upd_ne ha] at q ⊢
      exact e a u q
  · have ha : a ≠ p := fun z => by
      subst z
      exact h1 h
    rw [upd_ne ha]
    exact h2
/-- a heap object that is not in the base is laid -/
theorem Gr.newH {B H : Hp} {p : Addr} {o : HO} (e : Same B H) (h : H p = none) : Gr B H B (upd H p o) :=
  ⟨Same.refl _, same_new h, e.trans (same_new h), fun _ _ z => z⟩

/-! ### slots -/
inductive Sl where
  | un | v (d : Dt) | o (ds : List Dt) | w (x : V) | k (x : V) (P : Hp → Prop)
def SlOk (C : Addr) (B H : Hp) (q : Option (Option V)) : Sl → Prop
  | .un => True
  | .v d => ∃ x, q = some (some x) ∧ Rp C B x d
  | .w x => q = some (some x)
  | .k x P => q = some (some x) ∧ ∀ H' : Hp, Same B H' → P H'
  | .o ds => ∃ a xs, q = some (some (.ref a)) ∧ B a = none ∧ H a = some (.lst xs) ∧ RpAll C B xs ds
structure SEnv (C : Addr) (B : Hp) (σ : St) (H : Hp) (ρ : List Sl) : Prop where
  bh : Same B H
  sl : ∀ (i : Nat) (s : Sl), ρ[i]? = some s → SlOk C B H σ[i]? s
  dj : ∀ (i j : Nat) (ds es : List Dt) (a : Addr), i ≠ j → ρ[i]? = some (.o ds) → ρ[j]? = some (.o es) → σ[i]? = some (some (.ref a)) → σ[j]? = some (some (.ref a)) → False
  len : σ.length = ρ.length
theorem SlOk.grow {C : Addr} {B H B' H' : Hp} {q : Option (Option V)} {s : Sl} (g : Gr B H B' H') (h : SlOk C B H q s) : SlOk C B' H' q s := by
  cases s with
  | un => trivial
  | v d => obtain ⟨x, e, r⟩ := h; exact ⟨x, e, r.mono g.b⟩
  | w x => exact h
  | k x P => exact ⟨h.1, fun H2 e => h.2 H2 (g.b.trans e)⟩
  | o ds =>
    obtain ⟨a, xs, e, h1, h2, r⟩ := h
    exact ⟨a, xs, e, g.fr a (by rw [h2]; intro z; cases z) h1, g.h _ _ h2, r.mono g.b⟩
theorem SEnv.grow {C : Addr} {B H B' H' : Hp} {σ : St} {ρ : List Sl} (E : SEnv C B σ H ρ) (g : Gr B H B' H') : SEnv C B' σ H' ρ :=
  ⟨g.bh, fun i s h => (E.sl i s h).grow g, E.dj, E.len⟩
structure EnvS (C : Addr) (B0 H0 : Hp) (B : Hp) (σ : St) (H : Hp) (ρ : List Sl) : Prop where
  e : SEnv C B σ H ρ
  g : Gr B0 H0 B H
  own : ∀ (i : Nat) (ds : List Dt) (a : Addr), ρ[i]? = some (.o ds) → σ[i]? = some (some (.ref a)) → H0 a = none
theorem EnvS.grow {C : Addr} {B0 H0 B H B' H' : Hp} {σ : St} {ρ : List Sl} (E : EnvS C B0 H0 B σ H ρ) (g : Gr B H B' H') : EnvS C B0 H0 B' σ H' ρ :=
  ⟨E.e.grow g, E.g.trans g, E.own⟩

/-! ### what evaluates to what -/
def ED (C : Addr) (te : TE) (ρ : List Sl) (d : Dt) : Prop := ∀ B σ H, SEnv C B σ H ρ → ∀ Q : VK, (∀ x B' H', Gr B H B' H' → Rp C B' x d → Q x H') → te σ H Q
def TD (C : Addr) (tt : TT) (ρ : List Sl) (b : Bool) : Prop := ∀ B σ H, SEnv C B σ H ρ → ∀ Q : Bool → Hp → Prop, (∀ B' H', Gr B H B' H' → Q b H') → tt σ H Q
def AD (C : Addr) (ta : TA) (ρ : List Sl) (ds : List Dt) : Prop := ∀ B σ H, SEnv C B σ H ρ → ∀ Q : List V → Hp → Prop, (∀ xs B' H', Gr B H B' H' → RpAll C B' xs ds → Q xs H') → ta σ H Q
/-- an iterator over the data ds -/
structure ItOf (C : Addr) (J : It) (B1 : Hp) (ds : List Dt) : Prop where
  go : ∀ i H, i < ds.length → Same B1 H → J.go i H
  stop : ∀ H, Same B1 H → J.stop ds.length H
  yld : ∀ i B2 H2 x H' (h : i < ds.length), Same B1 B2 → Same B2 H2 → J.yld i H2 x H' → ∃ B', Gr B2 H2 B' H' ∧ Rp C B' x ds[i]
def ID (C : Addr) (wi : TI) (ρ : List Sl) (ds : List Dt) : Prop := ∀ B σ H, SEnv C B σ H ρ → ∀ R : It → Hp → Prop, (∀ J B' H', Gr B H B' H' → ItOf C J B' ds → R J H') → wi σ H R
/-- a target takes a datum -/
def GD (C : Addr) (g : TG) (ρ : List Sl) (d : Dt) (ρ2 : List Sl) : Prop := ∀ B0 H0 B σ H, EnvS C B0 H0 B σ H ρ → ∀ (x : V) (Q : St → Hp → Prop), Rp C B x d → (∀ σ', EnvS C B0 H0 B σ' H ρ2 → Q σ' H) → g x σ H Q
def SD (C : Addr) (ts : TS) (ρ : List Sl) (N : List Sl → Prop) (R : Dt → Prop) (BK CT : List Sl → Prop) : Prop :=
  ∀ B0 H0 D B σ H, EnvS C B0 H0 B σ H ρ →
    (∀ B' σ' H' ρ', N ρ' → Same B B' → EnvS C B0 H0 B' σ' H' ρ' → D.nx σ' H') →
    (∀ x B' H' d, R d → Gr B0 H0 B' H' → Rp C B' x d → D.rt x H') →
    (∀ B' σ' H' ρ', BK ρ' → Same B B' → EnvS C B0 H0 B' σ' H' ρ' → D.bk σ' H') →
    (∀ B' σ' H' ρ', CT ρ' → Same B B' → EnvS C B0 H0 B' σ' H' ρ' → D.ct σ' H') → ts D σ H

/-! ### the static part of a context -/
structure Gx where
  P : Program
  w : World
  K : PySem.W.Frag
  mg : Str → Option Value
  base : Heap
  C : Addr
structure SC extends Gx where
  N : List Str
  sc : Scope
  fn : Str → Bool
  k : Nat
structure CtxOk (S : SC) (X : Cx) : Prop where
  prog : X.prog = S.P
  w : X.w = S.w
  K : X.K = S.K
  mg : X.mg = S.mg
  base : X.base = S.base
  N : X.N = S.N
  sc : X.env.scope = S.sc
  fn : X.fn = S.fn
  calm : X.calm = true
  nd : S.N.Nodup
  room : Room S.k X.A
  xe : X.xe = fun _ _ => False
abbrev SC.blk (S : SC) (scope : Scope) : SC := { S with sc := relS scope S.sc, fn := fun x => scope.names.lookup x == some .cell }
theorem CtxOk.blk {S : SC} {X : Cx} (h : CtxOk S X) (scope : Scope) (s : Shared) (H : Hp) (Cc : Addr) (cl : List (Str × Addr)) (fp : List Addr) : CtxOk (S.blk scope) (X.blk s H scope (compEnvC scope cl Cc X.env) fp) := by
  obtain ⟨h1, h2, h3, h4, h5, h6, h7, h8, h9, h10, h11, h12⟩ := h
  refine ⟨h1, h2, h3, h4, h5, h6, ?_, rfl, h9, h10, h11, rfl⟩
  show relS scope X.env.scope = relS scope S.sc
  rw [h7]
def wE (S : SC) (e : Expr) : TE := fun σ H Q => ∃ t : TE, (∀ X, CtxOk S X → PE X e t) ∧ t σ H Q
def wT (S : SC) (e : Expr) : TT := fun σ H Q => ∃ t : TT, (∀ X, CtxOk S X → PT X e t) ∧ t σ H Q
def wW (S : SC) (e : Expr) : TT := fun σ H Q => ∃ t : TT, (∀ X, CtxOk S X → PW X e t) ∧ t σ H Q
def wTs (S : SC) (es : List Expr) : TT := fun σ H Q => ∃ t : TT, (∀ X, CtxOk S X → PTs X es t) ∧ t σ H Q
def wA (S : SC) (es : List Expr) : TA := fun σ H Q => ∃ t : TA, (∀ X, CtxOk S X → PA X es t) ∧ t σ H Q
def wI (S : SC) (tg e : Expr) : TI := fun σ H Q => ∃ t : TI, (∀ X, CtxOk S X → PI X tg e t) ∧ t σ H Q
def wG (S : SC) (e : Expr) : TG := fun v σ H Q => ∃ t : TG, (∀ X, CtxOk S X → PG X e t) ∧ t v σ H Q
def wS (S : SC) (e : Stmt) : TS := fun D σ H => ∃ t : TS, (∀ X, CtxOk S X → PS X e t) ∧ t D σ H
def wB (S : SC) (es : List Stmt) : TS := fun D σ H => ∃ t : TS, (∀ X, CtxOk S X → PSs X es t) ∧ t D σ H
section
variable {S : SC} {X : Cx}
theorem wE_ok {e : Expr} (h : CtxOk S X) : PE X e (wE S e) := ⟨fun pins s σ H Q I ⟨_, p, q⟩ => (p X h).run pins s σ H Q I q⟩
theorem wT_ok {e : Expr} (h : CtxOk S X) : PT X e (wT S e) := ⟨fun pins s σ H Q I ⟨_, p, q⟩ => (p X h).run pins s σ H Q I q⟩
theorem wW_ok {e : Expr} (h : CtxOk S X) : PW X e (wW S e) := ⟨fun wh pins s σ H Q I ⟨_, p, q⟩ => (p X h).run wh pins s σ H Q I q⟩
theorem wTs_ok {es : List Expr} (h : CtxOk S X) : PTs X es (wTs S es) := ⟨fun pins s σ H Q I ⟨_, p, q⟩ => (p X h).run pins s σ H Q I q⟩
theorem wA_ok {es : List Expr} (h : CtxOk S X) : PA X es (wA S es) := ⟨fun pos pins s σ H Q I ⟨_, p, q⟩ => (p X h).run pos pins s σ H Q I q⟩
theorem wI_ok {tg e : Expr} (h : CtxOk S X) : PI X tg e (wI S tg e) := ⟨fun pins s σ H Q I ⟨_, p, q⟩ => (p X h).run pins s σ H Q I q⟩
theorem wG_ok {e : Expr} (h : CtxOk S X) : PG X e (wG S e) := ⟨fun pins s σ H v u Q I r ⟨_, p, q⟩ => (p X h).run pins s σ H v u Q I r q⟩
theorem wS_ok {e : Stmt} (h : CtxOk S X) : PS X e (wS S e) := ⟨fun pins s σ H D I ⟨_, p, q⟩ => (p X h).run pins s σ H D I q⟩
theorem wB_ok {es : List Stmt} (h : CtxOk S X) : PSs X es (wB S es) := ⟨fun pins s σ H D I ⟨_, p, q⟩ => (p X h).run pins s σ H D I q⟩
end
abbrev JE (S : SC) (e : Expr) (ρ : List Sl) (d : Dt) : Prop := ED S.C (wE S e) ρ d
abbrev JT (S : SC) (e : Expr) (ρ : List Sl) (b : Bool) : Prop := TD S.C (wT S e) ρ b
abbrev JW (S : SC) (e : Expr) (ρ : List Sl) (b : Bool) : Prop := TD S.C (wW S e) ρ b
abbrev JTs (S : SC) (es : List Expr) (ρ : List Sl) (b : Bool) : Prop := TD S.C (wTs S es) ρ b
abbrev JA (S : SC) (es : List Expr) (ρ : List Sl) (ds : List Dt) : Prop := AD S.C (wA S es) ρ ds
abbrev JI (S : SC) (tg e : Expr) (ρ : List Sl) (ds : List Dt) : Prop := ID S.C (wI S tg e) ρ ds
abbrev JG (S : SC) (tg : Expr) (ρ : List Sl) (d : Dt) (ρ2 : List Sl) : Prop := GD S.C (wG S tg) ρ d ρ2
abbrev JS (S : SC) (st : Stmt) (ρ : List Sl) (N : List Sl → Prop) (R : Dt → Prop) (BK CT : List Sl → Prop) : Prop := SD S.C (wS S st) ρ N R BK CT
abbrev JB (S : SC) (st : List Stmt) (ρ : List Sl) (N : List Sl → Prop) (R : Dt → Prop) (BK CT : List Sl → Prop) : Prop := SD S.C (wB S st) ρ N R BK CT
section
variable {S : SC} {ρ ρ' : List Sl} {d d' : Dt} {b b' : Bool} {ds : List Dt} {N N' : List Sl → Prop} {R R' : Dt → Prop} {BK CT : List Sl → Prop}
theorem je_of {e : Expr} {t : TE} (h : ∀ X, CtxOk S X → PE X e t) (q : ED S.C t ρ d) : JE S e ρ d := fun B σ H E Q k => ⟨t, h, q B σ H E Q k⟩
theorem jt_of {e : Expr} {t : TT} (h : ∀ X, CtxOk S X → PT X e t) (q : TD S.C t ρ b) : JT S e ρ b := fun B σ H E Q k => ⟨t, h, q B σ H E Q k⟩
theorem jw_of {e : Expr} {t : TT} (h : ∀ X, CtxOk S X → PW X e t) (q : TD S.C t ρ b) : JW S e ρ b := fun B σ H E Q k => ⟨t, h, q B σ H E Q k⟩
theorem jts_of {e : List Expr} {t : TT} (h : ∀ X, CtxOk S X → PTs X e t) (q : TD S.C t ρ b) : JTs S e ρ b := fun B σ H E Q k => ⟨t, h, q B σ H E Q k⟩
theorem ja_of {e : List Expr} {t : TA} (h : ∀ X, CtxOk S X → PA X e t) (q : AD S.C t ρ ds) : JA S e ρ ds := fun B σ H E Q k => ⟨t, h, q B σ H E Q k⟩
theorem ji_of {tg e : Expr} {t : TI} (h : ∀ X, CtxOk S X → PI X tg e t) (q : ID S.C t ρ ds) : JI S tg e ρ ds := fun B σ H E Q k => ⟨t, h, q B σ H E Q k⟩
theorem jg_of {e : Expr} {t : TG} {ρ2 : List Sl} (h : ∀ X, CtxOk S X → PG X e t) (q : GD S.C t ρ d ρ2) : JG S e ρ d ρ2 := fun B0 H0 B σ H E x Q r k => ⟨t, h, q B0 H0 B σ H E x Q r k⟩
theorem js_of {e : Stmt} {t : TS} (h : ∀ X, CtxOk S X → PS X e t) (q : SD S.C t ρ N R BK CT) : JS S e ρ N R BK CT := fun B0 H0 D B σ H E k1 k2 k3 k4 => ⟨t, h, q B0 H0 D B σ H E k1 k2 k3 k4⟩
theorem jb_of {e : List Stmt} {t : TS} (h : ∀ X, CtxOk S X → PSs X e t) (q : SD S.C t ρ N R BK CT) : JB S e ρ N R BK CT := fun B0 H0 D B σ H E k1 k2 k3 k4 => ⟨t, h, q B0 H0 D B σ H E k1 k2 k3 k4⟩
theorem je_is {e : Expr} (h : JE S e ρ d) (q : d = d') : JE S e ρ d' := q ▸ h
theorem jt_is {e : Expr} (h : JT S e ρ b) (q : b = b') : JT S e ρ b' := q ▸ h
theorem SD.imp {C : Addr} {t : TS} (h : SD C t ρ N R BK CT) (hN : ∀ ρ', N ρ' → N' ρ') (hR : ∀ d, R d → R' d) : SD C t ρ N' R' BK CT :=
  fun B0 H0 D B σ H E k1 k2 k3 k4 => h B0 H0 D B σ H E (fun B' σ' H' ρ' n => k1 B' σ' H' ρ' (hN ρ' n)) (fun x B' H' d r => k2 x B' H' d (hR d r)) k3 k4

/-! ### names, constants -/
theorem je_var (i : Nat) {x : Str} {pos : Pos} (hN : S.N[i]? = some x := by rfl) (hv : Vis S.sc x := by first | exact Or.inl rfl | exact Or.inr (Or.inl rfl) | exact Or.inr (Or.inr rfl)) (hl : ρ[i]? = some (.v d) := by rfl)
    (hd : (x == ("__debug__" : Str)) = false := by decide) (hcd : (x == ("__classdict__" : Str)) = false := by decide) : JE S (.Name x pos) ρ d :=
  je_of (t := tVar i) (fun X h => pe_var (by rw [h.N]; exact hN) (by rw [h.sc]; exact hv) hd hcd) fun B σ H E Q k => by
    obtain ⟨x, e, r⟩ := E.sl i _ hl
    exact ⟨x, e, k x B H (Gr.refl E.bh) r⟩
theorem je_int {i : Int} {j pos} : JE S (.Constant (.int i) j pos) ρ (.int i) := je_of (fun _ _ => pe_int) fun B σ H E Q k => k _ B H (Gr.refl E.bh) (.int i)
theorem je_bl {i : Bool} {j pos} : JE S (.Constant (.bool i) j pos) ρ (.bl i) := je_of (fun _ _ => pe_bl) fun B σ H E Q k => k _ B H (Gr.refl E.bh) (.bl i)
theorem je_non {j pos} : JE S (.Constant .none j pos) ρ .non := je_of (fun _ _ => pe_non) fun B σ H E Q k => k _ B H (Gr.refl E.bh) .non
theorem je_str {x : Str} {j pos} : JE S (.Constant (.str x) j pos) ρ (.str x) := je_of (fun _ _ => pe_str) fun B σ H E Q k => k _ B H (Gr.refl E.bh) (.str x)

/-! ### two-place operations by values -/
variable {e1 e2 : Expr} {pos : Pos}
theorem ed_op {C : Addr} {ta tb : TE} {r : R2} {x y : Dt} (ha : ED C ta ρ x) (hb : ED C tb ρ y)
    (hr : ∀ B H v u Q, Same B H → Rp C B v x → Rp C B u y → (∀ z B' H', Gr B H B' H' → Rp C B' z d → Q z H') → r v u H Q) : ED C (tOp r ta tb) ρ d := fun B σ H E Q k =>
  ha B σ H E _ fun v B1 H1 g1 r1 => hb B1 σ H1 (E.grow g1) _ fun u B2 H2 g2 r2 => hr B2 H2 v u Q g2.bh (r1.mono g2.b) r2 fun z B' H' g3 r3 => k z B' H' ((g1.trans g2).trans g3) r3
theorem je_opI {op : Operator} {g : Int → Int → V} {gd : Int → Int → Dt} {i j : Int} (ho : ∀ X, OpR X (binaryOp op) (rI0 g)) (hg : ∀ B, Rp S.C B (g i j) d) (ha : JE S e1 ρ (.int i)) (hb : JE S e2 ρ (.int j)) : JE S (.BinOp e1 op e2 pos) ρ d :=
  je_of (fun X h => pe_op (ho X) (wE_ok h) (wE_ok h)) (ed_op ha hb fun B H v u Q bh r1 r2 k => by
    cases r1; cases r2
    exact ⟨i, j, rfl, rfl, k _ B H (Gr.refl bh) (hg B)⟩)
theorem je_opC {op : Operator} {Cd : Int → Int → Prop} {g : Int → Int → V} {i j : Int} (ho : ∀ X, OpR X (binaryOp op) (rI Cd g)) (hg : ∀ B, Rp S.C B (g i j) d) (ha : JE S e1 ρ (.int i)) (hb : JE S e2 ρ (.int j)) (hc : Cd i j) : JE S (.BinOp e1 op e2 pos) ρ d :=
  je_of (fun X h => pe_op (ho X) (wE_ok h) (wE_ok h)) (ed_op ha hb fun B H v u Q bh r1 r2 k => by
    cases r1; cases r2
    exact ⟨i, j, rfl, rfl, hc, k _ B H (Gr.refl bh) (hg B)⟩)
theorem je_add {i j : Int} (ha : JE S e1 ρ (.int i)) (hb : JE S e2 ρ (.int j)) : JE S (.BinOp e1 .Add e2 pos) ρ (.int (i + j)) := je_opI (gd := fun _ _ => .non) (fun _ => op_add) (fun _ => .int _) ha hb
theorem je_sub {i j : Int} (ha : JE S e1 ρ (.int i)) (hb : JE S e2 ρ (.int j)) : JE S (.BinOp e1 .Sub e2 pos) ρ (.int (i - j)) := je_opI (gd := fun _ _ => .non) (fun _ => op_sub) (fun _ => .int _) ha hb
theorem je_mul {i j : Int} (ha : JE S e1 ρ (.int i)) (hb : JE S e2 ρ (.int j)) (hc : CMul i j) : JE S (.BinOp e1 .Mult e2 pos) ρ (.int (i * j)) := je_opC (fun _ => op_mul) (fun _ => .int _) ha hb hc
theorem je_mod {i j : Int} (ha : JE S e1 ρ (.int i)) (hb : JE S e2 ρ (.int j)) (hc : 0 < j) : JE S (.BinOp e1 .Mod e2 pos) ρ (.int (i % j)) := je_opC (fun _ => op_mod) (fun _ => .int _) ha hb hc
theorem je_fdiv {i j : Int} (ha : JE S e1 ρ (.int i)) (hb : JE S e2 ρ (.int j)) (hc : CDiv i j) : JE S (.BinOp e1 .FloorDiv e2 pos) ρ (.int (i / j)) := je_opC (fun _ => op_fdiv) (fun _ => .int _) ha hb hc
theorem je_pow {i j : Int} (ha : JE S e1 ρ (.int i)) (hb : JE S e2 ρ (.int j)) (hc : CPow i j) : JE S (.BinOp e1 .Pow e2 pos) ρ (.int (i ^ j.toNat)) := je_opC (fun _ => op_pow) (fun _ => .int _) ha hb hc
theorem je_shr {i j : Int} (ha : JE S e1 ρ (.int i)) (hb : JE S e2 ρ (.int j)) (hc : 0 ≤ j) : JE S (.BinOp e1 .RShift e2 pos) ρ (.int (i / 2 ^ j.toNat)) := je_opC (fun _ => op_shr) (fun _ => .int _) ha hb hc
theorem je_band {i j : Int} (ha : JE S e1 ρ (.int i)) (hb : JE S e2 ρ (.int j)) : JE S (.BinOp e1 .BitAnd e2 pos) ρ (.int (Builtin.bitAnd i j)) := je_opI (gd := fun _ _ => .non) (fun _ => op_and) (fun _ => .int _) ha hb
theorem je_neg {i : Int} (ha : JE S e1 ρ (.int i)) : JE S (.UnaryOp .USub e1 pos) ρ (.int (-i)) :=
  je_of (fun X h => pe_un un_neg (wE_ok h)) fun B σ H E Q k => ha B σ H E _ fun v B1 H1 g1 r1 => by
    cases r1
    exact ⟨i, rfl, k _ B1 H1 g1 (.int _)⟩
end
end My

/-! # Fw2 -/
namespace My
open PySem L2
/-! ### data as the library's PyData, for == and in -/
mutual
def toPy : Dt → PyData
  | .non => .none
  | .bl b => .bool b
  | .int i => .int i
  | .str x => .str x
  | .lst l => .list (toPyAll l)
  | .tup l => .tuple (toPyAll l)
  | .rk _ => .none
  | .cl => .none
  | .rng _ => .none
def toPyAll : List Dt → List PyData
  | [] => []
  | d :: ds => toPy d :: toPyAll ds
end
mutual
/-- None, ints, lists and tuples of such -/
def pln : Dt → Bool
  | .non => true
  | .int _ => true
  | .lst l => plnAll l
  | .tup l => plnAll l
  | _ => false
def plnAll : List Dt → Bool
  | [] => true
  | d :: ds => pln d && plnAll ds
end
mutual
def dep : Dt → Nat
  | .lst l => depAll l + 1
  | .tup l => depAll l + 1
  | _ => 0
def depAll : List Dt → Nat
  | [] => 0
  | d :: ds => max (dep d) (depAll ds)
end
theorem rp_dp {C : Addr} {K : PySem.W.Frag} {B H : Hp} (e : Same B H) {v : V} {d : Dt} (h : Rp C B v d) : pln d = true → Dp K H v (toPy d) :=
  Rp.rec (motive_1 := fun v d _ => pln d = true → Dp K H v (toPy d)) (motive_2 := fun vs ds _ => plnAll ds = true → DpAll K H vs (toPyAll ds))
    (fun _ => .non) (fun b _ => .bl b) (fun i _ => .int i) (fun x _ => .str x) (fun h _ ih p => .lst (SqL.of (e _ _ h)) (ih p)) (fun h _ ih p => .tup (SqT.of (e _ _ h)) (ih p))
    (fun _ _ _ _ _ _ p => by cases p) (fun p => by cases p) (fun _ p => by cases p) (fun _ => .nil)
    (fun {v vs d ds} _ _ i1 i2 p => by
      have p' : (pln d && plnAll ds) = true := p
      rw [Bool.and_eq_true] at p'
      exact .cons (i1 p'.1) (i2 p'.2)) h
mutual
theorem lay_of : ∀ d : Dt, pln d = true → (toPy d).canLay0 = true
  | .non, _ => by simp [toPy, PyData.canLay0]
  | .bl b, _ => by simp [toPy, PyData.canLay0]
  | .int i, _ => by simp [toPy, PyData.canLay0]
  | .str x, h => by cases h
  | .lst l, h => by
    have := layAll_of l h
    simpa [toPy, PyData.canLay0] using this
  | .tup l, h => by
    have := layAll_of l h
    simpa [toPy, PyData.canLay0] using this
  | .rk _, h => by cases h
  | .cl, h => by cases h
  | .rng _, h => by cases h
theorem layAll_of : ∀ ds : List Dt, plnAll ds = true → PyData.canLayAll0 (toPyAll ds) = true
  | [], _ => by simp [toPyAll, PyData.canLayAll0]
  | d :: ds, h => by
    have h' : (pln d && plnAll ds) = true := h
    rw [Bool.and_eq_true] at h'
    have h1 := lay_of d h'.1
    have h2 := layAll_of ds h'.2
    simp [toPyAll, PyData.canLayAll0, h1, h2]
end
mutual
theorem depth_of : ∀ d : Dt, (toPy d).depth = dep d
  | .non => by simp [toPy, PyData.depth, dep]
  | .bl b => by simp [toPy, PyData.depth, dep]
  | .int i => by simp [toPy, PyData.depth, dep]
  | .str x => by simp [toPy, PyData.depth, dep]
  | .lst l => by
    have := depthAll_of l
    simp [toPy, PyData.depth, dep, this]
  | .tup l => by
    have := depthAll_of l
    simp [toPy, PyData.depth, dep, this]
  | .rk _ => by simp [toPy, PyData.depth, dep]
  | .cl => by simp [toPy, PyData.depth, dep]
  | .rng _ => by simp [toPy, PyData.depth, dep]
theorem depthAll_of : ∀ ds : List Dt, PyData.depthAll (toPyAll ds) = depAll ds
  | [] => by simp [toPyAll, PyData.depthAll, depAll]
  | d :: ds => by
    have h1 := depth_of d
    have h2 := depthAll_of ds
    simp [toPyAll, PyData.depthAll, depAll, h1, h2]
end
theorem shaped_of {d : Dt} (h : pln d = true) (hd : dep d ≤ 64) : SeqAt.shaped (toPy d) = true := by
  show ((toPy d).canLay0 && decide ((toPy d).depth ≤ 64)) = true
  rw [Bool.and_eq_true]
  exact ⟨lay_of d h, decide_eq_true (by rw [depth_of]; exact hd)⟩
mutual
theorem eqv_iff : ∀ d e : Dt, pln d = true → pln e = true → (PyData.eqv (toPy d) (toPy e) = true ↔ d = e)
  | .non, .non, _, _ => by simp [toPy, PyData.eqv]
  | .non, .int _, _, _ => by simp [toPy, PyData.eqv]
  | .non, .lst _, _, _ => by simp [toPy, PyData.eqv]
  | .non, .tup _, _, _ => by simp [toPy, PyData.eqv]
  | .int _, .non, _, _ => by simp [toPy, PyData.eqv]
  | .int i, .int j, _, _ => by simp [toPy, PyData.eqv]
  | .int _, .lst _, _, _ => by simp [toPy, PyData.eqv]
  | .int _, .tup _, _, _ => by simp [toPy, PyData.eqv]
  | .lst _, .non, _, _ => by simp [toPy, PyData.eqv]
  | .lst _, .int _, _, _ => by simp [toPy, PyData.eqv]
  | .lst l, .lst m, h1, h2 => by
    have := eqvAll_iff l m h1 h2
    simpa [toPy, PyData.eqv] using this
  | .lst _, .tup _, _, _ => by simp [toPy, PyData.eqv]
  | .tup _, .non, _, _ => by simp [toPy, PyData.eqv]
  | .tup _, .int _, _, _ => by simp [toPy, PyData.eqv]
  | .tup _, .lst _, _, _ => by simp [toPy, PyData.eqv]
  | .tup l, .tup m, h1, h2 => by
    have := eqvAll_iff l m h1 h2
    simpa [toPy, PyData.eqv] using this
  | .bl _, _, h, _ => by cases h
  | .str _, _, h, _ => by cases h
  | .rk _, _, h, _ => by cases h
  | .cl, _, h, _ => by cases h
  | .rng _, _, h, _ => by cases h
  | .non, .bl _, _, h => by cases h
  | .non, .str _, _, h => by cases h
  | .non, .rk _, _, h => by cases h
  | .non, .cl, _, h => by cases h
  | .non, .rng _, _, h => by cases h
  | .int _, .bl _, _, h => by cases h
  | .int _, .str _, _, h => by cases h
  | .int _, .rk _, _, h => by cases h
  | .int _, .cl, _, h => by cases h
  | .int _, .rng _, _, h => by cases h
  | .lst _, .bl _, _, h => by cases h
  | .lst _, .str _, _, h => by cases h
  | .lst _, .rk _, _, h => by cases h
  | .lst _, .cl, _, h => by cases h
  | .lst _, .rng _, _, h => by cases h
  | .tup _, .bl _, _, h => by cases h
  | .tup _, .str _, _, h => by cases h
  | .tup _, .rk _, _, h => by cases h
  | .tup _, .cl, _, h => by cases h
  | .tup _, .rng _, _, h => by cases h
theorem eqvAll_iff : ∀ ds es : List Dt, plnAll ds = true → plnAll es = true → (PyData.eqvAll (toPyAll ds) (toPyAll es) = true ↔ ds = es)
  | [], [], _, _ => by simp [toPyAll, PyData.eqvAll]
  | [], _ :: _, _, _ => by simp [toPyAll, PyData.eqvAll]
  | _ :: _, [], _, _ => by simp [toPyAll, PyData.eqvAll]
  | d :: ds, e :: es, h1, h2 => by
    have h1' : (pln d && plnAll ds) = true := h1
    have h2' : (pln e && plnAll es) = true := h2
    rw [Bool.and_eq_true] at h1' h2'
    have a := eqv_iff d e h1'.1 h2'.1
    have b := eqvAll_iff ds es h1'.2 h2'.2
    simp [toPyAll, PyData.eqvAll, a, b]
end
theorem eqv_dec {d e : Dt} {p : Prop} [Decidable p] (h1 : pln d = true) (h2 : pln e = true) (h : d = e ↔ p) : PyData.eqv (toPy d) (toPy e) = decide p := by
  have q := eqv_iff d e h1 h2
  by_cases hp : p
  · rw [decide_eq_true hp]
    exact q.mpr (h.mpr hp)
  · rw [decide_eq_false hp]
    exact Bool.eq_false_iff.mpr fun z => hp (h.mp (q.mp z))
/-! the shapes -/
theorem plnAll_map {α : Type} {f : α → Dt} (h : ∀ x, pln (f x) = true) : ∀ xs : List α, plnAll (xs.map f) = true
  | [] => rfl
  | x :: xs => by
    show (pln (f x) && plnAll (xs.map f)) = true
    rw [h x, plnAll_map h xs]
    rfl
theorem depAll_map {α : Type} {f : α → Dt} {k : Nat} (h : ∀ x, dep (f x) ≤ k) : ∀ xs : List α, depAll (xs.map f) ≤ k
  | [] => Nat.zero_le _
  | x :: xs => by
    show max (dep (f x)) (depAll (xs.map f)) ≤ k
    have := h x
    have := depAll_map h xs
    omega
theorem inj_n {a b : Nat} (h : Dt.n a = Dt.n b) : a = b := by
  injection h with h
  omega
theorem map_inj {α β : Type} {f : α → β} (h : ∀ a b, f a = f b → a = b) : ∀ {xs ys : List α}, xs.map f = ys.map f → xs = ys
  | [], [], _ => rfl
  | [], _ :: _, e => by cases e
  | _ :: _, [], e => by cases e
  | x :: xs, y :: ys, e => by
    have e' : f x :: xs.map f = f y :: ys.map f := e
    injection e' with e1 e2
    rw [h _ _ e1, map_inj h e2]
theorem pln_L (xs : List Nat) : pln (.L xs) = true := plnAll_map (f := Dt.n) (fun _ => rfl) xs
theorem pln_T (xs : List Nat) : pln (.T xs) = true := plnAll_map (f := Dt.n) (fun _ => rfl) xs
theorem pln_TT (xs : List (List Nat)) : pln (.TT xs) = true := plnAll_map (f := Dt.T) pln_T xs
theorem pln_LT (xs : List (List Nat)) : pln (.LT xs) = true := plnAll_map (f := Dt.T) pln_T xs
theorem pln_LL (xs : List (List Nat)) : pln (.LL xs) = true := plnAll_map (f := Dt.L) pln_L xs
theorem dep_L (xs : List Nat) : dep (.L xs) ≤ 1 := by
  have := depAll_map (f := Dt.n) (k := 0) (fun _ => Nat.le_refl _) xs
  show depAll (xs.map Dt.n) + 1 ≤ 1
  omega
theorem dep_T (xs : List Nat) : dep (.T xs) ≤ 1 := dep_L xs
theorem dep_TT (xs : List (List Nat)) : dep (.TT xs) ≤ 2 := by
  have := depAll_map (f := Dt.T) (k := 1) dep_T xs
  show depAll (xs.map Dt.T) + 1 ≤ 2
  omega
theorem dep_LT (xs : List (List Nat)) : dep (.LT xs) ≤ 2 := dep_TT xs
theorem dep_LL (xs : List (List Nat)) : dep (.LL xs) ≤ 2 := by
  have := depAll_map (f := Dt.L) (k := 1) dep_L xs
  show depAll (xs.map Dt.L) + 1 ≤ 2
  omega
theorem L_iff {xs ys : List Nat} : Dt.L xs = Dt.L ys ↔ xs = ys := ⟨fun h => by injection h with h; exact map_inj (fun _ _ => inj_n) h, fun h => by rw [h]⟩
theorem T_iff {xs ys : List Nat} : Dt.T xs = Dt.T ys ↔ xs = ys := ⟨fun h => by injection h with h; exact map_inj (fun _ _ => inj_n) h, fun h => by rw [h]⟩
theorem TT_iff {xs ys : List (List Nat)} : Dt.TT xs = Dt.TT ys ↔ xs = ys := ⟨fun h => by injection h with h; exact map_inj (fun _ _ => T_iff.mp) h, fun h => by rw [h]⟩
theorem LT_iff {xs ys : List (List Nat)} : Dt.LT xs = Dt.LT ys ↔ xs = ys := ⟨fun h => by injection h with h; exact map_inj (fun _ _ => T_iff.mp) h, fun h => by rw [h]⟩
theorem LL_iff {xs ys : List (List Nat)} : Dt.LL xs = Dt.LL ys ↔ xs = ys := ⟨fun h => by injection h with h; exact map_inj (fun _ _ => L_iff.mp) h, fun h => by rw [h]⟩

section
variable {S : SC} {ρ : List Sl} {d : Dt} {b : Bool} {e1 e2 : Expr} {pos : Pos}
/-! ### comparisons -/
theorem td_test {C : Addr} {t : TE} (h : ED C t ρ (.bl b)) : TD C (tTest t) ρ b := fun B σ H E Q k => h B σ H E _ fun x B' H' g r => by
  cases r
  exact ⟨b, rfl, k B' H' g⟩
theorem jt_cmpR {op : CmpOp} {r : R2} {x y : Dt} (ho : ∀ X, CtxOk S X → OpR X (compareOp op) r) (ha : JE S e1 ρ x) (hb : JE S e2 ρ y) (hm : behindInMarks op e2 = false)
    (hr : ∀ B H v u Q, Same B H → Rp S.C B v x → Rp S.C B u y → (∀ z B' H', Gr B H B' H' → Rp S.C B' z (.bl b) → Q z H') → r v u H Q) : JT S (.Compare e1 [op] [e2] pos) ρ b :=
  jt_of (fun X h => pt_cmpR (ho X h) (wE_ok h) (wE_ok h) hm) (td_test (ed_op ha hb hr))
theorem je_cmpR {op : CmpOp} {r : R2} {x y : Dt} (ho : ∀ X, CtxOk S X → OpR X (compareOp op) r) (ha : JE S e1 ρ x) (hb : JE S e2 ρ y) (hm : behindInMarks op e2 = false)
    (hr : ∀ B H v u Q, Same B H → Rp S.C B v x → Rp S.C B u y → (∀ z B' H', Gr B H B' H' → Rp S.C B' z d → Q z H') → r v u H Q) : JE S (.Compare e1 [op] [e2] pos) ρ d :=
  je_of (fun X h => pe_cmpR (ho X h) (wE_ok h) (wE_ok h) hm) (ed_op ha hb hr)
theorem rI0_hr {C : Addr} {g : Int → Int → Bool} {i j : Int} (B : Hp) (H : Hp) (v u : V) (Q : VK) (bh : Same B H) (r1 : Rp C B v (.int i)) (r2 : Rp C B u (.int j)) (k : ∀ z B' H', Gr B H B' H' → Rp C B' z (.bl (g i j)) → Q z H') :
    rI0 (fun i j => .bl (g i j)) v u H Q := by
  cases r1; cases r2
  exact ⟨i, j, rfl, rfl, k _ B H (Gr.refl bh) (.bl _)⟩
theorem jt_lt {i j : Int} (ha : JE S e1 ρ (.int i)) (hb : JE S e2 ρ (.int j)) : JT S (.Compare e1 [.Lt] [e2] pos) ρ (decide (i < j)) := jt_cmpR (fun _ _ => op_lt) ha hb (nomark _) (rI0_hr (g := fun i j => decide (i < j)))
theorem jt_le {i j : Int} (ha : JE S e1 ρ (.int i)) (hb : JE S e2 ρ (.int j)) : JT S (.Compare e1 [.LtE] [e2] pos) ρ (decide (i ≤ j)) := jt_cmpR (fun _ _ => op_le) ha hb (nomark _) (rI0_hr (g := fun i j => decide (i ≤ j)))
theorem jt_gt {i j : Int} (ha : JE S e1 ρ (.int i)) (hb : JE S e2 ρ (.int j)) : JT S (.Compare e1 [.Gt] [e2] pos) ρ (decide (j < i)) := jt_cmpR (fun _ _ => op_gt) ha hb (nomark _) (rI0_hr (g := fun i j => decide (j < i)))
theorem jt_ge {i j : Int} (ha : JE S e1 ρ (.int i)) (hb : JE S e2 ρ (.int j)) : JT S (.Compare e1 [.GtE] [e2] pos) ρ (decide (j ≤ i)) := jt_cmpR (fun _ _ => op_ge) ha hb (nomark _) (rI0_hr (g := fun i j => decide (j ≤ i)))
theorem je_lt {i j : Int} (ha : JE S e1 ρ (.int i)) (hb : JE S e2 ρ (.int j)) : JE S (.Compare e1 [.Lt] [e2] pos) ρ (.bl (decide (i < j))) := je_cmpR (fun _ _ => op_lt) ha hb (nomark _) (rI0_hr (g := fun i j => decide (i < j)))
theorem je_le {i j : Int} (ha : JE S e1 ρ (.int i)) (hb : JE S e2 ρ (.int j)) : JE S (.Compare e1 [.LtE] [e2] pos) ρ (.bl (decide (i ≤ j))) := je_cmpR (fun _ _ => op_le) ha hb (nomark _) (rI0_hr (g := fun i j => decide (i ≤ j)))
theorem je_gt {i j : Int} (ha : JE S e1 ρ (.int i)) (hb : JE S e2 ρ (.int j)) : JE S (.Compare e1 [.Gt] [e2] pos) ρ (.bl (decide (j < i))) := je_cmpR (fun _ _ => op_gt) ha hb (nomark _) (rI0_hr (g := fun i j => decide (j < i)))
theorem je_ge {i j : Int} (ha : JE S e1 ρ (.int i)) (hb : JE S e2 ρ (.int j)) : JE S (.Compare e1 [.GtE] [e2] pos) ρ (.bl (decide (j ≤ i))) := je_cmpR (fun _ _ => op_ge) ha hb (nomark _) (rI0_hr (g := fun i j => decide (j ≤ i)))
/-- == of ints, bools, texts -/
theorem rEq_hr {C : Addr} {x y : Dt} (hx : ∀ B v, Rp C B v x → ∀ u, Rp C B u y → scal v u = true ∧ decide (v = u) = b) (B : Hp) (H : Hp) (v u : V) (Q : VK) (bh : Same B H) (r1 : Rp C B v x) (r2 : Rp C B u y) (k : ∀ z B' H', Gr B H B' H' → Rp C B' z (.bl b) → Q z H') : rEq v u H Q := by
  obtain ⟨s, e⟩ := hx B v r1 u r2
  refine ⟨s, ?_⟩
  rw [e]
  exact k _ B H (Gr.refl bh) (.bl _)
theorem rNe_hr {C : Addr} {x y : Dt} (hx : ∀ B v, Rp C B v x → ∀ u, Rp C B u y → scal v u = true ∧ decide (v = u) = b) (B : Hp) (H : Hp) (v u : V) (Q : VK) (bh : Same B H) (r1 : Rp C B v x) (r2 : Rp C B u y) (k : ∀ z B' H', Gr B H B' H' → Rp C B' z (.bl (!b)) → Q z H') : rNe v u H Q := by
  obtain ⟨s, e⟩ := hx B v r1 u r2
  refine ⟨s, ?_⟩
  rw [e]
  exact k _ B H (Gr.refl bh) (.bl _)
theorem scI {C : Addr} {i j : Int} (B : Hp) (v : V) (h : Rp C B v (.int i)) (u : V) (h2 : Rp C B u (.int j)) : scal v u = true ∧ decide (v = u) = decide (i = j) := by
  cases h; cases h2
  refine ⟨rfl, ?_⟩
  by_cases e : i = j
  · rw [decide_eq_true e, decide_eq_true (by rw [e])]
  · rw [decide_eq_false e, decide_eq_false (fun z => e (by injection z))]
theorem scB {C : Addr} {i j : Bool} (B : Hp) (v : V) (h : Rp C B v (.bl i)) (u : V) (h2 : Rp C B u (.bl j)) : scal v u = true ∧ decide (v = u) = (i == j) := by
  cases h; cases h2
  refine ⟨rfl, ?_⟩
  cases i <;> cases j <;> rfl
theorem scS {C : Addr} {i j : Str} (B : Hp) (v : V) (h : Rp C B v (.str i)) (u : V) (h2 : Rp C B u (.str j)) : scal v u = true ∧ decide (v = u) = decide (i = j) := by
  cases h; cases h2
  refine ⟨rfl, ?_⟩
  by_cases e : i = j
  · rw [decide_eq_true e, decide_eq_true (by rw [e])]
  · rw [decide_eq_false e, decide_eq_false (fun z => e (by injection z))]
theorem jt_eq {i j : Int} (ha : JE S e1 ρ (.int i)) (hb : JE S e2 ρ (.int j)) : JT S (.Compare e1 [.Eq] [e2] pos) ρ (decide (i = j)) := jt_cmpR (fun _ _ => op_eq) ha hb (nomark _) (rEq_hr scI)
theorem jt_ne {i j : Int} (ha : JE S e1 ρ (.int i)) (hb : JE S e2 ρ (.int j)) : JT S (.Compare e1 [.NotEq] [e2] pos) ρ (!decide (i = j)) := jt_cmpR (fun _ _ => op_ne) ha hb (nomark _) (rNe_hr scI)
theorem je_eq {i j : Int} (ha : JE S e1 ρ (.int i)) (hb : JE S e2 ρ (.int j)) : JE S (.Compare e1 [.Eq] [e2] pos) ρ (.bl (decide (i = j))) := je_cmpR (fun _ _ => op_eq) ha hb (nomark _) (rEq_hr scI)
theorem jt_eqS {i j : Str} (ha : JE S e1 ρ (.str i)) (hb : JE S e2 ρ (.str j)) : JT S (.Compare e1 [.Eq] [e2] pos) ρ (decide (i = j)) := jt_cmpR (fun _ _ => op_eq) ha hb (nomark _) (rEq_hr scS)
theorem jt_neB {i j : Bool} (ha : JE S e1 ρ (.bl i)) (hb : JE S e2 ρ (.bl j)) : JT S (.Compare e1 [.NotEq] [e2] pos) ρ (!(i == j)) := jt_cmpR (fun _ _ => op_ne) ha hb (nomark _) (rNe_hr scB)
/-- == of data -/
theorem eqD_hr {C : Addr} {K : PySem.W.Frag} {x y : Dt} {p : Prop} [Decidable p] (h1 : pln x = true) (h2 : pln y = true) (d1 : dep x ≤ 64) (d2 : dep y ≤ 64) (h : x = y ↔ p) (B : Hp) (H : Hp) (v u : V) (Q : VK) (bh : Same B H) (r1 : Rp C B v x) (r2 : Rp C B u y)
    (k : ∀ z B' H', Gr B H B' H' → Rp C B' z (.bl (decide p)) → Q z H') : rEqD K v u H Q :=
  ⟨toPy x, toPy y, rp_dp bh r1 h1, rp_dp bh r2 h2, shaped_of h1 d1, shaped_of h2 d2, by rw [eqv_dec h1 h2 h]; exact k _ B H (Gr.refl bh) (.bl _)⟩
theorem neD_hr {C : Addr} {K : PySem.W.Frag} {x y : Dt} {p : Prop} [Decidable p] (h1 : pln x = true) (h2 : pln y = true) (d1 : dep x ≤ 64) (d2 : dep y ≤ 64) (h : x = y ↔ p) (B : Hp) (H : Hp) (v u : V) (Q : VK) (bh : Same B H) (r1 : Rp C B v x) (r2 : Rp C B u y)
    (k : ∀ z B' H', Gr B H B' H' → Rp C B' z (.bl (!decide p)) → Q z H') : rNeD K v u H Q :=
  ⟨toPy x, toPy y, rp_dp bh r1 h1, rp_dp bh r2 h2, shaped_of h1 d1, shaped_of h2 d2, by rw [eqv_dec h1 h2 h]; exact k _ B H (Gr.refl bh) (.bl _)⟩
theorem jt_eqD {x y : Dt} {p : Prop} [Decidable p] (ha : JE S e1 ρ x) (hb : JE S e2 ρ y) (h1 : pln x = true) (h2 : pln y = true) (d1 : dep x ≤ 64) (d2 : dep y ≤ 64) (h : x = y ↔ p) : JT S (.Compare e1 [.Eq] [e2] pos) ρ (decide p) :=
  jt_cmpR (r := rEqD S.K) (fun X h => by have := op_eqD (X := X) h.room.units; rw [h.K] at this; exact this) ha hb (nomark _) (eqD_hr h1 h2 d1 d2 h)
theorem je_eqD {x y : Dt} {p : Prop} [Decidable p] (ha : JE S e1 ρ x) (hb : JE S e2 ρ y) (h1 : pln x = true) (h2 : pln y = true) (d1 : dep x ≤ 64) (d2 : dep y ≤ 64) (h : x = y ↔ p) : JE S (.Compare e1 [.Eq] [e2] pos) ρ (.bl (decide p)) :=
  je_cmpR (r := rEqD S.K) (fun X h => by have := op_eqD (X := X) h.room.units; rw [h.K] at this; exact this) ha hb (nomark _) (eqD_hr h1 h2 d1 d2 h)
theorem jt_neD {x y : Dt} {p : Prop} [Decidable p] (ha : JE S e1 ρ x) (hb : JE S e2 ρ y) (h1 : pln x = true) (h2 : pln y = true) (d1 : dep x ≤ 64) (d2 : dep y ≤ 64) (h : x = y ↔ p) : JT S (.Compare e1 [.NotEq] [e2] pos) ρ (!decide p) :=
  jt_cmpR (r := rNeD S.K) (fun X h => by have := op_neD (X := X) h.room.units; rw [h.K] at this; exact this) ha hb (nomark _) (neD_hr h1 h2 d1 d2 h)
/-- is None, is not None -/
def isN : Dt → Bool
  | .non => true
  | _ => false
theorem isN_rp {C : Addr} {B : Hp} {v : V} {d : Dt} (h : Rp C B v d) : decide (v = .non) = isN d := by cases h <;> rfl
theorem jt_isN {j p2} {x : Dt} (ha : JE S e1 ρ x) : JT S (.Compare e1 [.Is] [.Constant .none j p2] pos) ρ (isN x) :=
  jt_of (fun X h => pt_cmp (pc_isN (wE_ok h))) fun B σ H E Q k => ha B σ H E _ fun v B1 H1 g r => ⟨_, rfl, by rw [isN_rp r]; exact k B1 H1 g⟩
theorem jt_notN {j p2} {x : Dt} (ha : JE S e1 ρ x) : JT S (.Compare e1 [.IsNot] [.Constant .none j p2] pos) ρ (!isN x) :=
  jt_of (fun X h => pt_cmp (pc_notN (wE_ok h))) fun B σ H E Q k => ha B σ H E _ fun v B1 H1 g r => ⟨_, rfl, by rw [isN_rp r]; exact k B1 H1 g⟩
theorem je_isN {j p2} {x : Dt} (ha : JE S e1 ρ x) : JE S (.Compare e1 [.Is] [.Constant .none j p2] pos) ρ (.bl (isN x)) :=
  je_of (fun X h => pe_cmp (pc_isN (wE_ok h))) fun B σ H E Q k => ha B σ H E _ fun v B1 H1 g r => by rw [isN_rp r]; exact k _ B1 H1 g (.bl _)
theorem je_notN {j p2} {x : Dt} (ha : JE S e1 ρ x) : JE S (.Compare e1 [.IsNot] [.Constant .none j p2] pos) ρ (.bl (!isN x)) :=
  je_of (fun X h => pe_cmp (pc_notN (wE_ok h))) fun B σ H E Q k => ha B σ H E _ fun v B1 H1 g r => by rw [isN_rp r]; exact k _ B1 H1 g (.bl _)
/-- an int in a tuple or list of ints -/
theorem inV_ints (i : Int) : ∀ xs : List Int, inV (.int i) (xs.map V.int) = decide (i ∈ xs)
  | [] => rfl
  | x :: xs => by
    have ih := inV_ints i xs
    show (eqV (.int x) (.int i) || inV (.int i) (xs.map V.int)) = decide (i ∈ x :: xs)
    rw [ih]
    have e : eqV (.int x) (.int i) = decide (x = i) := by
      show (x == i) = decide (x = i)
      exact Bool.beq_eq_decide_eq _ _
    rw [e]
    by_cases h : x = i
    · simp [h]
    · have h' : ¬ i = x := fun z => h z.symm
      simp [h, h']
theorem flat_ints : ∀ xs : List Int, (xs.map V.int).all flatV = true
  | [] => rfl
  | x :: xs => by
    show (true && (xs.map V.int).all flatV) = true
    rw [flat_ints xs]
    rfl
theorem mem_nats {i : Nat} {xs : List Nat} : decide ((i : Int) ∈ xs.map fun (k : Nat) => (k : Int)) = decide (i ∈ xs) := by
  by_cases h : i ∈ xs
  · rw [decide_eq_true h, decide_eq_true (List.mem_map.mpr ⟨i, h, rfl⟩)]
  · rw [decide_eq_false h, decide_eq_false]
    intro z
    obtain ⟨k, hk, e⟩ := List.mem_map.mp z
    have e' : k = i := by omega
    exact h (e' ▸ hk)
/-- a sequence of ints, list or tuple -/
def seqOf (d : Dt) (xs : List Nat) : Prop := d = .T xs ∨ d = .L xs
theorem in_hr {C : Addr} {K : PySem.W.Frag} {neg : Bool} {i : Nat} {xs : List Nat} {y : Dt} (hy : seqOf y xs) (B : Hp) (H : Hp) (v u : V) (Q : VK) (bh : Same B H) (r1 : Rp C B v (.n i)) (r2 : Rp C B u y)
    (k : ∀ z B' H', Gr B H B' H' → Rp C B' z (.bl (if neg then !decide (i ∈ xs) else decide (i ∈ xs))) → Q z H') : rIn K neg v u H Q := by
  cases r1
  rcases hy with rfl | rfl
  · cases r2 with
    | @tup a vs _ ha hv =>
      rw [hv.nats] at ha
      refine ⟨a, _, rfl, .inr (SqT.of (bh _ _ ha)), rfl, flat_ints _, ?_⟩
      rw [inV_ints, mem_nats]
      exact k _ B H (Gr.refl bh) (.bl _)
  · cases r2 with
    | @lst a vs _ ha hv =>
      rw [hv.nats] at ha
      refine ⟨a, _, rfl, .inl (SqL.of (bh _ _ ha)), rfl, flat_ints _, ?_⟩
      rw [inV_ints, mem_nats]
      exact k _ B H (Gr.refl bh) (.bl _)
variable {i : Nat} {xs : List Nat}
theorem jt_in {y : Dt} (ha : JE S e1 ρ (.n i)) (hb : JE S e2 ρ y) (hy : seqOf y xs) (hm : behindInMarks .In e2 = false := by rfl) : JT S (.Compare e1 [.In] [e2] pos) ρ (decide (i ∈ xs)) :=
  jt_cmpR (r := rIn S.K false) (fun X h => by have := op_in_seq (X := X); rw [h.K] at this; exact this) ha hb hm (in_hr (K := S.K) (neg := false) hy)
theorem jt_nin {y : Dt} (ha : JE S e1 ρ (.n i)) (hb : JE S e2 ρ y) (hy : seqOf y xs) (hm : behindInMarks .NotIn e2 = false := by rfl) : JT S (.Compare e1 [.NotIn] [e2] pos) ρ (!decide (i ∈ xs)) :=
  jt_cmpR (r := rIn S.K true) (fun X h => by have := op_notIn_seq (X := X); rw [h.K] at this; exact this) ha hb hm (in_hr (K := S.K) (neg := true) hy)
theorem je_in {y : Dt} (ha : JE S e1 ρ (.n i)) (hb : JE S e2 ρ y) (hy : seqOf y xs) (hm : behindInMarks .In e2 = false := by rfl) : JE S (.Compare e1 [.In] [e2] pos) ρ (.bl (decide (i ∈ xs))) :=
  je_cmpR (r := rIn S.K false) (fun X h => by have := op_in_seq (X := X); rw [h.K] at this; exact this) ha hb hm (in_hr (K := S.K) (neg := false) hy)
/-- a list of ints in a list of such -/
theorem memLL {x : List Nat} : ∀ xss : List (List Nat), ((toPyAll (xss.map Dt.L)).any fun z => PyData.eqv z (toPy (.L x))) = decide (x ∈ xss)
  | [] => rfl
  | y :: ys => by
    have ih := memLL (x := x) ys
    show (PyData.eqv (toPy (.L y)) (toPy (.L x)) || (toPyAll (ys.map Dt.L)).any fun z => PyData.eqv z (toPy (.L x))) = decide (x ∈ y :: ys)
    rw [ih, eqv_dec (pln_L y) (pln_L x) L_iff]
    by_cases h : y = x
    · simp [h]
    · have h' : ¬ x = y := fun z => h z.symm
      simp [h, h']
/-! ### truth -/
theorem td_B {C : Addr} {t : TE} (h : ED C t ρ (.bl b)) : TD C (tB t) ρ b := fun B σ H E Q k => h B σ H E _ fun x B' H' g r => by
  cases r
  exact ⟨b, rfl, k B' H' g⟩
theorem jt_val {e : Expr} (h : JE S e ρ (.bl b)) (he : ∀ (env : Env) whole, isTrue e env whole = (do let v ← whole; standAt e.pos; holding [v] (truthy v)) := by intro _ _; rfl) : JT S e ρ b :=
  jt_of (fun X h => pt_val (wE_ok h) (he X.env)) (td_B h)
def truD : Dt → Bool
  | .tup l => !l.isEmpty
  | .lst l => !l.isEmpty
  | .int i => i != 0
  | .bl b => b
  | .non => false
  | _ => true
theorem isE {C : Addr} {B : Hp} {vs : List V} {ds : List Dt} (h : RpAll C B vs ds) : vs.isEmpty = ds.isEmpty := by cases h <;> rfl
/-- the truth of a tuple or a list -/
theorem jt_tru {e : Expr} {l : List Dt} {d : Dt} (h : JE S e ρ d) (hd : d = .tup l ∨ d = .lst l) (he : ∀ (env : Env) whole, isTrue e env whole = (do let v ← whole; standAt e.pos; holding [v] (truthy v)) := by intro _ _; rfl) : JT S e ρ (!l.isEmpty) :=
  jt_of (t := fun σ H Q => wE S e σ H fun x H' => ∃ k, TruV S.K x H' k ∧ Q k H') (fun X h => by have := pt_truth (X := X) (wE_ok h) (he X.env); rw [h.K] at this; exact this) fun B σ H E Q k => h B σ H E _ fun x B' H' g r => by
    rcases hd with rfl | rfl
    · cases r with
      | @tup a vs _ ha hv => exact ⟨_, .inr (.inl ⟨vs, SqT.of (g.bh _ _ ha), rfl⟩), by rw [isE hv]; exact k B' H' g⟩
    · cases r with
      | @lst a vs _ ha hv => exact ⟨_, .inl ⟨vs, SqL.of (g.bh _ _ ha), rfl⟩, by rw [isE hv]; exact k B' H' g⟩
theorem jt_not (h : JT S e1 ρ b) : JT S (.UnaryOp .Not e1 pos) ρ (!b) := jt_of (fun X h => pt_not (wT_ok h)) fun B σ H E Q k => h B σ H E _ fun B' H' g => k B' H' g
theorem jt_w {e : Expr} (h : JW S e ρ b) : JT S e ρ b := jt_of (fun X h => (wW_ok h).pt) h
variable {c : Bool} {rest : List Expr}
theorem td_and {C : Addr} {t u : TT} (h1 : TD C t ρ b) (h2 : b = true → TD C u ρ c) : TD C (tAnd t u) ρ (b && c) := fun B σ H E Q k => h1 B σ H E _ fun B' H' g => by
  cases b with
  | true =>
    show u σ H' Q
    exact h2 rfl B' σ H' (E.grow g) Q fun B2 H2 g2 => k B2 H2 (g.trans g2)
  | false => exact k B' H' g
theorem td_or {C : Addr} {t u : TT} (h1 : TD C t ρ b) (h2 : b = false → TD C u ρ c) : TD C (tOr t u) ρ (b || c) := fun B σ H E Q k => h1 B σ H E _ fun B' H' g => by
  cases b with
  | true => exact k B' H' g
  | false =>
    show u σ H' Q
    exact h2 rfl B' σ H' (E.grow g) Q fun B2 H2 g2 => k B2 H2 (g.trans g2)
theorem jw_and1 (h : JT S e1 ρ b) : JW S (.BoolOp .And [e1] pos) ρ b := jw_of (fun X h => pw_and1 (wT_ok h)) h
theorem jw_or1 (h : JT S e1 ρ b) : JW S (.BoolOp .Or [e1] pos) ρ b := jw_of (fun X h => pw_or1 (wT_ok h)) h
theorem jw_and (h1 : JT S e1 ρ b) (h2 : b = true → JW S (.BoolOp .And (e2 :: rest) pos) ρ c) : JW S (.BoolOp .And (e1 :: e2 :: rest) pos) ρ (b && c) := jw_of (fun X h => pw_and (wT_ok h) (wW_ok h)) (td_and h1 h2)
theorem jw_or (h1 : JT S e1 ρ b) (h2 : b = false → JW S (.BoolOp .Or (e2 :: rest) pos) ρ c) : JW S (.BoolOp .Or (e1 :: e2 :: rest) pos) ρ (b || c) := jw_of (fun X h => pw_or (wT_ok h) (wW_ok h)) (td_or h1 h2)
/-- as values (bools) -/
theorem je_one {op} (h : JE S e1 ρ d) : JE S (.BoolOp op [e1] pos) ρ d := je_of (fun X h => pe_one (wE_ok h)) h
theorem je_and (h1 : JE S e1 ρ (.bl b)) (h2 : b = true → JE S (.BoolOp .And (e2 :: rest) pos) ρ (.bl c)) : JE S (.BoolOp .And (e1 :: e2 :: rest) pos) ρ (.bl (b && c)) :=
  je_of (fun X h => pe_and (wE_ok h) (wE_ok h)) fun B σ H E Q k => h1 B σ H E _ fun x B' H' g r => by
    cases r
    refine ⟨b, rfl, ?_⟩
    cases b with
    | true => exact h2 rfl B' σ H' (E.grow g) Q fun z B2 H2 g2 r2 => k z B2 H2 (g.trans g2) r2
    | false => exact k _ B' H' g (.bl _)
theorem je_not (h : JE S e1 ρ (.bl b)) : JE S (.UnaryOp .Not e1 pos) ρ (.bl (!b)) := je_of (fun X h => pe_not (wE_ok h)) fun B σ H E Q k => h B σ H E _ fun x B' H' g r => by
  cases r
  exact ⟨b, rfl, k _ B' H' g (.bl _)⟩
theorem je_if {e3 : Expr} (h1 : JT S e1 ρ b) (h2 : b = true → JE S e2 ρ d) (h3 : b = false → JE S e3 ρ d) : JE S (.IfExp e1 e2 e3 pos) ρ d :=
  je_of (fun X h => pe_ifExp (wT_ok h) (wE_ok h) (wE_ok h)) fun B σ H E Q k => h1 B σ H E _ fun B' H' g => by
    cases b with
    | true => exact h2 rfl B' σ H' (E.grow g) Q fun z B2 H2 g2 r2 => k z B2 H2 (g.trans g2) r2
    | false => exact h3 rfl B' σ H' (E.grow g) Q fun z B2 H2 g2 r2 => k z B2 H2 (g.trans g2) r2
/-- a <= b < c of ints -/
theorem chain_hr {op op' : CmpOp} {g g' : Int → Int → Bool} {x y z : Int} {e3 : Expr} (ho : ∀ X, OpR X (compareOp op) (rI0 fun i j => .bl (g i j))) (ho' : ∀ X, OpR X (compareOp op') (rI0 fun i j => .bl (g' i j))) (h1 : JE S e1 ρ (.int x)) (h2 : JE S e2 ρ (.int y)) (h3 : JE S e3 ρ (.int z)) :
    ED S.C (tChain (rI0 fun i j => .bl (g i j)) (rI0 fun i j => .bl (g' i j)) (wE S e1) (wE S e2) (wE S e3)) ρ (.bl (g x y && g' y z)) := fun B σ H E Q k =>
  h1 B σ H E _ fun v1 B1 H1 g1 r1 => h2 B1 σ H1 (E.grow g1) _ fun v2 B2 H2 g2 r2 => by
    cases r1; cases r2
    refine ⟨x, y, rfl, rfl, _, rfl, ?_⟩
    cases e : g x y with
    | true =>
      show wE S e3 σ H2 _
      refine h3 B2 σ H2 (E.grow (g1.trans g2)) _ fun v3 B3 H3 g3 r3 => ?_
      cases r3
      refine ⟨y, z, rfl, rfl, k _ B3 H3 ((g1.trans g2).trans g3) ?_⟩
      rw [e, Bool.true_and]
      exact .bl _
    | false =>
      refine k _ B2 H2 (g1.trans g2) ?_
      rw [e, Bool.false_and]
      exact .bl _
end
end My

/-! # Fw3 -/
namespace My
open PySem L2
theorem szl {n : Nat} (h : n ≤ 10000) : n ≤ sizeLine := by rw [sizeLine_eq]; omega
section
variable {S : SC} {ρ : List Sl} {d : Dt} {b : Bool} {e1 e2 : Expr} {pos p : Pos} {es : List Expr} {ds : List Dt} {e : Expr}
theorem jt_chain {op op' : CmpOp} {g g' : Int → Int → Bool} {x y z : Int} {e3 : Expr} (ho : ∀ X, OpR X (compareOp op) (rI0 fun i j => .bl (g i j))) (ho' : ∀ X, OpR X (compareOp op') (rI0 fun i j => .bl (g' i j))) (h1 : JE S e1 ρ (.int x)) (h2 : JE S e2 ρ (.int y)) (h3 : JE S e3 ρ (.int z))
    (hm : lastMarks [op, op'] [e2, e3] = false := by with_unfolding_all rfl) : JT S (.Compare e1 [op, op'] [e2, e3] pos) ρ (g x y && g' y z) :=
  jt_of (fun X h => pt_chain (ho X) (ho' X) (wE_ok h) (wE_ok h) (wE_ok h) hm) (td_test (chain_hr ho ho' h1 h2 h3))
theorem je_chain {op op' : CmpOp} {g g' : Int → Int → Bool} {x y z : Int} {e3 : Expr} (ho : ∀ X, OpR X (compareOp op) (rI0 fun i j => .bl (g i j))) (ho' : ∀ X, OpR X (compareOp op') (rI0 fun i j => .bl (g' i j))) (h1 : JE S e1 ρ (.int x)) (h2 : JE S e2 ρ (.int y)) (h3 : JE S e3 ρ (.int z))
    (hm : lastMarks [op, op'] [e2, e3] = false := by with_unfolding_all rfl) : JE S (.Compare e1 [op, op'] [e2, e3] pos) ρ (.bl (g x y && g' y z)) :=
  je_of (fun X h => pe_chain (ho X) (ho' X) (wE_ok h) (wE_ok h) (wE_ok h) hm) (chain_hr ho ho' h1 h2 h3)
theorem je_leLt {x y z : Int} {e3 : Expr} (h1 : JE S e1 ρ (.int x)) (h2 : JE S e2 ρ (.int y)) (h3 : JE S e3 ρ (.int z)) (hm : lastMarks [.LtE, .Lt] [e2, e3] = false := by with_unfolding_all rfl) :
    JE S (.Compare e1 [.LtE, .Lt] [e2, e3] pos) ρ (.bl (decide (x ≤ y) && decide (y < z))) := je_chain (g := fun i j => decide (i ≤ j)) (g' := fun i j => decide (i < j)) (fun _ => op_le) (fun _ => op_lt) h1 h2 h3 hm
theorem jt_leLe {x y z : Int} {e3 : Expr} (h1 : JE S e1 ρ (.int x)) (h2 : JE S e2 ρ (.int y)) (h3 : JE S e3 ρ (.int z)) (hm : lastMarks [.LtE, .LtE] [e2, e3] = false := by with_unfolding_all rfl) :
    JT S (.Compare e1 [.LtE, .LtE] [e2, e3] pos) ρ (decide (x ≤ y) && decide (y ≤ z)) := jt_chain (g := fun i j => decide (i ≤ j)) (g' := fun i j => decide (i ≤ j)) (fun _ => op_le) (fun _ => op_le) h1 h2 h3 hm

/-! ### argument lists, displays -/
theorem ja_nil : JA S [] ρ [] := ja_of (fun _ _ => pa_nil) fun B σ H E Q k => k [] B H (Gr.refl E.bh) .nil
theorem ja_cons (h1 : JE S e ρ d) (h2 : JA S es ρ ds) (hs : ∀ env, starEach (e :: es) env = (false, eval e env) :: starEach es env := by intro _; rfl) : JA S (e :: es) ρ (d :: ds) :=
  ja_of (fun X h => pa_cons (wE_ok h) (wA_ok h) (hs _)) fun B σ H E Q k => h1 B σ H E _ fun x B1 H1 g1 r1 => h2 B1 σ H1 (E.grow g1) _ fun xs B2 H2 g2 r2 => k _ B2 H2 (g1.trans g2) (.cons (r1.mono g2.b) r2)
theorem je_tup {x1} (h : JA S es ρ ds) (hl : ds.length ≤ 10000 := by decide) : JE S (.Tuple es x1 pos) ρ (.tup ds) :=
  je_of (fun X hx => pe_tup (wA_ok hx)) fun B σ H E Q k => h B σ H E _ fun xs B1 H1 g1 r1 => ⟨szl (by rw [r1.length]; exact hl), fun q hq =>
    k _ _ _ (g1.trans (Gr.new g1.bh hq)) (.tup upd_same (r1.mono (same_new (g1.bh.free hq))))⟩
theorem je_lst (h : JA S es ρ ds) (hl : ds.length ≤ 10000 := by decide) : JE S (.List es pos) ρ (.lst ds) :=
  je_of (fun X hx => pe_lst (wA_ok hx)) fun B σ H E Q k => h B σ H E _ fun xs B1 H1 g1 r1 => ⟨szl (by rw [r1.length]; exact hl), fun q hq =>
    k _ _ _ (g1.trans (Gr.new g1.bh hq)) (.lst upd_same (r1.mono (same_new (g1.bh.free hq))))⟩

/-! ### built-ins by name -/
theorem je_callB {x : Str} {id : String} {r : List V → Hp → VK → Prop} (hc : ∀ X, CtxOk S X → CallR X (.builtin id) r) (hg : S.sc.names.lookup x = some .globalImplicit) (hm : S.mg x = none) (hv : bootBuiltins x = some (.builtin id)) (ha : JA S (e :: es) ρ ds)
    (hr : ∀ B H vs Q, Same B H → RpAll S.C B vs ds → (∀ z B' H', Gr B H B' H' → Rp S.C B' z d → Q z H') → r vs H Q) (hn : x ≠ "__name__") (hdb : (x == ("__debug__" : Str)) = false)
    (he : ∀ env, starEach (e :: es) env = (false, eval e env) :: starEach es env) (hpl : ∀ env, (backTo pos (starEach es env)).any (·.1) = false) : JE S (.Call (.Name x p) (e :: es) [] pos) ρ d :=
  je_of (fun X h => pe_callB (hc X h) (show X.env.scope.names.lookup x = _ by rw [h.sc]; exact hg) (by rw [h.mg]; exact hm) hv (wA_ok h) hn hdb (he _) (hpl _)) fun B σ H E Q k => ha B σ H E _ fun xs B1 H1 g1 r1 => hr B1 H1 xs Q g1.bh r1 fun z B' H' g2 r2 => k z B' H' (g1.trans g2) r2
theorem je_callTy {x : Str} {id : String} {r : List V → Hp → VK → Prop} (hc : ∀ X, CtxOk S X → CallR X (.type id) r) (hg : S.sc.names.lookup x = some .globalImplicit) (hm : S.mg x = none) (hv : bootBuiltins x = some (.type id)) (ha : JA S (e :: es) ρ ds)
    (hr : ∀ B H vs Q, Same B H → RpAll S.C B vs ds → (∀ z B' H', Gr B H B' H' → Rp S.C B' z d → Q z H') → r vs H Q) (hn : x ≠ "__name__") (hdb : (x == ("__debug__" : Str)) = false)
    (he : ∀ env, starEach (e :: es) env = (false, eval e env) :: starEach es env) (hpl : ∀ env, (backTo pos (starEach es env)).any (·.1) = false) : JE S (.Call (.Name x p) (e :: es) [] pos) ρ d :=
  je_of (fun X h => pe_callTy (hc X h) (show X.env.scope.names.lookup x = _ by rw [h.sc]; exact hg) (by rw [h.mg]; exact hm) hv (wA_ok h) hn hdb (he _) (hpl _)) fun B σ H E Q k => ha B σ H E _ fun xs B1 H1 g1 r1 => hr B1 H1 xs Q g1.bh r1 fun z B' H' g2 r2 => k z B' H' (g1.trans g2) r2
/-- one argument -/
theorem rp1 {C : Addr} {B : Hp} {vs : List V} {d : Dt} (h : RpAll C B vs [d]) : ∃ v, vs = [v] ∧ Rp C B v d := by
  cases h with
  | cons r t => cases t; exact ⟨_, rfl, r⟩
theorem ja1 {d : Dt} (h : JE S e ρ d) (hs : ∀ env, starEach [e] env = (false, eval e env) :: starEach [] env := by intro _; rfl) : JA S [e] ρ [d] := ja_cons h ja_nil hs
variable {l : List Dt}
/-- a list or a tuple -/
def sq (d : Dt) (l : List Dt) : Prop := d = .tup l ∨ d = .lst l
theorem sq_rd {C : Addr} {B H : Hp} {K : PySem.W.Frag} {v : V} {d : Dt} (bh : Same B H) (r : Rp C B v d) (h : sq d l) : ∃ a vs, v = .ref a ∧ RpAll C B vs l ∧ (SqL K H a vs ∨ SqT K H a vs) := by
  rcases h with rfl | rfl
  · cases r with
    | tup ha hv => exact ⟨_, _, rfl, hv, .inr (SqT.of (bh _ _ ha))⟩
  · cases r with
    | lst ha hv => exact ⟨_, _, rfl, hv, .inl (SqL.of (bh _ _ ha))⟩
theorem je_len {d : Dt} (hm : S.mg "len" = none) (ha : JE S e ρ d) (hd : sq d l) (hg : S.sc.names.lookup ("len" : Str) = some .globalImplicit := by rfl) (hs : ∀ env, starEach [e] env = (false, eval e env) :: starEach [] env := by intro _; rfl) :
    JE S (.Call (.Name "len" p) [e] [] pos) ρ (.n l.length) :=
  je_callB (r := fun xs H Q => ∃ p ys, xs = [.ref p] ∧ (SqL S.K H p ys ∨ SqT S.K H p ys) ∧ Q (.int ys.length) H) (fun X h => by have := call_len_seq (X := X); rw [h.K] at this; exact this) hg hm PySem.boot_len (ja1 ha hs) (fun B H vs Q bh r k => by
    obtain ⟨v, rfl, rv⟩ := rp1 r
    obtain ⟨a, us, rfl, hv, q⟩ := sq_rd (K := S.K) bh rv hd
    exact ⟨a, us, rfl, q, by rw [hv.length]; exact k _ B H (Gr.refl bh) (.int _)⟩) (by decide) (by decide) hs (fun _ => rfl)
theorem je_tuple {d : Dt} (hm : S.mg "tuple" = none) (ha : JE S e ρ d) (hd : sq d l) (hg : S.sc.names.lookup ("tuple" : Str) = some .globalImplicit := by rfl) (hs : ∀ env, starEach [e] env = (false, eval e env) :: starEach [] env := by intro _; rfl) :
    JE S (.Call (.Name "tuple" p) [e] [] pos) ρ (.tup l) :=
  je_callTy (r := fun xs H Q => ∃ p ys, xs = [.ref p] ∧ ((SqL S.K H p ys ∧ ∀ l, H l = none → Q (.ref l) (upd H l (.tup ys))) ∨ (SqT S.K H p ys ∧ Q (.ref p) H))) (fun X h => by have := call_tuple_of (X := X); rw [h.K] at this; exact this) hg hm (by decide +kernel) (ja1 ha hs) (fun B H vs Q bh r k => by
    obtain ⟨v, rfl, rv⟩ := rp1 r
    rcases hd with rfl | rfl
    · cases rv with
      | tup ha hv => exact ⟨_, _, rfl, .inr ⟨SqT.of (bh _ _ ha), k _ B H (Gr.refl bh) (.tup ha hv)⟩⟩
    · cases rv with
      | lst ha hv => exact ⟨_, _, rfl, .inl ⟨SqL.of (bh _ _ ha), fun l hl => k _ _ _ (Gr.new bh hl) (.tup upd_same (hv.mono (same_new (bh.free hl))))⟩⟩) (by decide) (by decide) hs (fun _ => rfl)
theorem je_list {d : Dt} (hm : S.mg "list" = none) (ha : JE S e ρ d) (hd : sq d l) (hg : S.sc.names.lookup ("list" : Str) = some .globalImplicit := by rfl) (hs : ∀ env, starEach [e] env = (false, eval e env) :: starEach [] env := by intro _; rfl) :
    JE S (.Call (.Name "list" p) [e] [] pos) ρ (.lst l) :=
  je_callTy (r := fun xs H Q => ∃ p ys, xs = [.ref p] ∧ (SqL S.K H p ys ∨ SqT S.K H p ys) ∧ ∀ l, H l = none → Q (.ref l) (upd H l (.lst ys))) (fun X h => by have := call_list_of (X := X); rw [h.K] at this; exact this) hg hm (by decide +kernel) (ja1 ha hs) (fun B H vs Q bh r k => by
    obtain ⟨v, rfl, rv⟩ := rp1 r
    obtain ⟨a, us, rfl, hv, q⟩ := sq_rd (K := S.K) bh rv hd
    exact ⟨a, us, rfl, q, fun l hl => k _ _ _ (Gr.new bh hl) (.lst upd_same (hv.mono (same_new (bh.free hl))))⟩) (by decide) (by decide) hs (fun _ => rfl)
theorem rgV_nats (n : Nat) : rgV 0 (n : Int) = ((List.range n).map fun (k : Nat) => (k : Int)).map V.int := by
  unfold rgV
  rw [List.map_map]
  have e : ((n : Int) - 0).toNat = n := by omega
  rw [e]
  refine List.map_congr_left fun i _ => ?_
  show V.int (0 + (i : Int)) = V.int (i : Int)
  rw [Int.zero_add]
theorem prg1 {X : Cx} {a : Expr} {p pos : Pos} (h : CtxOk S X) (hg : S.sc.names.lookup ("range" : Str) = some .globalImplicit) (hm : S.mg "range" = none) (na : ∀ env, starEach [a] env = (false, eval a env) :: starEach [] env) : PRg X (.Call (.Name "range" p) [a] [] pos) (tRg1 (wE S a)) :=
  prg_1 (show X.env.scope.names.lookup ("range" : Str) = _ by rw [h.sc]; exact hg) (by rw [h.mg]; exact hm) (wE_ok h) (na _)
theorem je_tupRange {n : Nat} {a : Expr} {p2 pos2 : Pos} (hm : S.mg "tuple" = none) (hm2 : S.mg "range" = none) (ha : JE S a ρ (.n n)) (hn : n ≤ 10000) (hg : S.sc.names.lookup ("tuple" : Str) = some .globalImplicit := by rfl) (hg2 : S.sc.names.lookup ("range" : Str) = some .globalImplicit := by rfl)
    (na : ∀ env, starEach [a] env = (false, eval a env) :: starEach [] env := by intro _; rfl) : JE S (.Call (.Name "tuple" p) [.Call (.Name "range" p2) [a] [] pos2] [] pos) ρ (.T (List.range n)) :=
  je_of (fun X h => pe_tupRg h.calm (show X.env.scope.names.lookup ("tuple" : Str) = _ by rw [h.sc]; exact hg) (by rw [h.mg]; exact hm) (prg1 h hg2 hm2 na)) fun B σ H E Q k => ha B σ H E _ fun x B1 H1 g1 r1 => by
    cases r1
    refine ⟨(n : Int), rfl, RgOk.of_le (by omega) (by omega) (by omega) (by omega), fun q hq => ?_⟩
    refine k _ _ _ (g1.trans (Gr.new g1.bh hq)) (.tup (xs := ((List.range n).map fun (k : Nat) => (k : Int)).map V.int) ?_ (RpAll.ofNats _))
    rw [rgV_nats, upd_same]
theorem je_listRange {n : Nat} {a : Expr} {p2 pos2 : Pos} (hm : S.mg "list" = none) (hm2 : S.mg "range" = none) (ha : JE S a ρ (.n n)) (hn : n ≤ 10000) (hg : S.sc.names.lookup ("list" : Str) = some .globalImplicit := by rfl) (hg2 : S.sc.names.lookup ("range" : Str) = some .globalImplicit := by rfl)
    (na : ∀ env, starEach [a] env = (false, eval a env) :: starEach [] env := by intro _; rfl) : JE S (.Call (.Name "list" p) [.Call (.Name "range" p2) [a] [] pos2] [] pos) ρ (.L (List.range n)) :=
  je_of (fun X h => pe_listRg h.calm (show X.env.scope.names.lookup ("list" : Str) = _ by rw [h.sc]; exact hg) (by rw [h.mg]; exact hm) (prg1 h hg2 hm2 na)) fun B σ H E Q k => ha B σ H E _ fun x B1 H1 g1 r1 => by
    cases r1
    refine ⟨(n : Int), rfl, RgOk.of_le (by omega) (by omega) (by omega) (by omega), fun q hq => ?_⟩
    refine k _ _ _ (g1.trans (Gr.new g1.bh hq)) (.lst (xs := ((List.range n).map fun (k : Nat) => (k : Int)).map V.int) ?_ (RpAll.ofNats _))
    rw [rgV_nats, upd_same]
/-- sum, min, max of a list of ints -/
theorem sum_nats : ∀ xs : List Nat, (xs.map fun (k : Nat) => (k : Int)).sum = (xs.sum : Nat)
  | [] => rfl
  | x :: xs => by
    have ih := sum_nats xs
    rw [List.map_cons, List.sum_cons, List.sum_cons, ih]
    omega
theorem je_sum {xs : List Nat} (hm : S.mg "sum" = none) (ha : JE S e ρ (.L xs)) (hg : S.sc.names.lookup ("sum" : Str) = some .globalImplicit := by rfl) (hs : ∀ env, starEach [e] env = (false, eval e env) :: starEach [] env := by intro _; rfl) :
    JE S (.Call (.Name "sum" p) [e] [] pos) ρ (.n xs.sum) :=
  je_callB (r := rSum S.K) (fun X h => by have := cr_sum (X := X) h.calm; rw [h.K] at this; exact this) hg hm (by decide +kernel) (ja1 ha hs) (fun B H vs Q bh r k => by
    obtain ⟨v, rfl, rv⟩ := rp1 r
    cases rv with
    | lst ha hv =>
      rw [hv.nats] at ha
      exact ⟨_, _, rfl, SqL.of (bh _ _ ha), by rw [sum_nats]; exact k _ B H (Gr.refl bh) (.int _)⟩) (by decide) (by decide) hs (fun _ => rfl)
def IsMin (m : Nat) (xs : List Nat) : Prop := m ∈ xs ∧ ∀ y ∈ xs, m ≤ y
def IsMax (m : Nat) (xs : List Nat) : Prop := m ∈ xs ∧ ∀ y ∈ xs, y ≤ m
theorem je_min {xs : List Nat} {m : Nat} (hm : S.mg "min" = none) (ha : JE S e ρ (.L xs)) (hx : IsMin m xs) (hg : S.sc.names.lookup ("min" : Str) = some .globalImplicit := by rfl) (hs : ∀ env, starEach [e] env = (false, eval e env) :: starEach [] env := by intro _; rfl) :
    JE S (.Call (.Name "min" p) [e] [] pos) ρ (.n m) :=
  je_callB (r := rMin S.K) (fun X h => by have := cr_min (X := X) h.calm; rw [h.K] at this; exact this) hg hm (by decide +kernel) (ja1 ha hs) (fun B H vs Q bh r k => by
    obtain ⟨v, rfl, rv⟩ := rp1 r
    cases rv with
    | lst ha hv =>
      rw [hv.nats] at ha
      refine ⟨_, _, rfl, SqL.of (bh _ _ ha), ?_, fun z hz hle => ?_⟩
      · rw [List.length_map]; exact List.length_pos_of_mem hx.1
      · obtain ⟨y, hy, rfl⟩ := List.mem_map.mp hz
        have h1 := hle m (List.mem_map.mpr ⟨m, hx.1, rfl⟩)
        have h2 := hx.2 y hy
        have e : y = m := by omega
        rw [e]
        exact k _ B H (Gr.refl bh) (.int _)) (by decide) (by decide) hs (fun _ => rfl)
theorem je_max {xs : List Nat} {m : Nat} (hm : S.mg "max" = none) (ha : JE S e ρ (.L xs)) (hx : IsMax m xs) (hg : S.sc.names.lookup ("max" : Str) = some .globalImplicit := by rfl) (hs : ∀ env, starEach [e] env = (false, eval e env) :: starEach [] env := by intro _; rfl) :
    JE S (.Call (.Name "max" p) [e] [] pos) ρ (.n m) :=
  je_callB (r := rMax S.K) (fun X h => by have := cr_max (X := X) h.calm; rw [h.K] at this; exact this) hg hm (by decide +kernel) (ja1 ha hs) (fun B H vs Q bh r k => by
    obtain ⟨v, rfl, rv⟩ := rp1 r
    cases rv with
    | lst ha hv =>
      rw [hv.nats] at ha
      refine ⟨_, _, rfl, SqL.of (bh _ _ ha), ?_, fun z hz hle => ?_⟩
      · rw [List.length_map]; exact List.length_pos_of_mem hx.1
      · obtain ⟨y, hy, rfl⟩ := List.mem_map.mp hz
        have h1 := hle m (List.mem_map.mpr ⟨m, hx.1, rfl⟩)
        have h2 := hx.2 y hy
        have e : y = m := by omega
        rw [e]
        exact k _ B H (Gr.refl bh) (.int _)) (by decide) (by decide) hs (fun _ => rfl)
theorem je_all {bs : List Bool} (hm : S.mg "all" = none) (ha : JE S e ρ (.LB bs)) (hg : S.sc.names.lookup ("all" : Str) = some .globalImplicit := by rfl) (hs : ∀ env, starEach [e] env = (false, eval e env) :: starEach [] env := by intro _; rfl) :
    JE S (.Call (.Name "all" p) [e] [] pos) ρ (.bl (bs.all id)) :=
  je_callB (r := rAll S.K) (fun X h => by have := cr_all (X := X) h.calm; rw [h.K] at this; exact this) hg hm (by decide +kernel) (ja1 ha hs) (fun B H vs Q bh r k => by
    obtain ⟨v, rfl, rv⟩ := rp1 r
    cases rv with
    | lst ha hv =>
      rw [hv.bools] at ha
      exact ⟨_, _, rfl, SqL.of (bh _ _ ha), k _ B H (Gr.refl bh) (.bl _)⟩) (by decide) (by decide) hs (fun _ => rfl)
theorem je_any {bs : List Bool} (hm : S.mg "any" = none) (ha : JE S e ρ (.LB bs)) (hg : S.sc.names.lookup ("any" : Str) = some .globalImplicit := by rfl) (hs : ∀ env, starEach [e] env = (false, eval e env) :: starEach [] env := by intro _; rfl) :
    JE S (.Call (.Name "any" p) [e] [] pos) ρ (.bl (bs.any id)) :=
  je_callB (r := rAny S.K) (fun X h => by have := cr_any (X := X) h.calm; rw [h.K] at this; exact this) hg hm (by decide +kernel) (ja1 ha hs) (fun B H vs Q bh r k => by
    obtain ⟨v, rfl, rv⟩ := rp1 r
    cases rv with
    | lst ha hv =>
      rw [hv.bools] at ha
      exact ⟨_, _, rfl, SqL.of (bh _ _ ha), k _ B H (Gr.refl bh) (.bl _)⟩) (by decide) (by decide) hs (fun _ => rfl)
/-- sorted of a list of ints -/
def IsSort (ys xs : List Int) : Prop := ys.Perm xs ∧ ys.Pairwise (· ≤ ·)
theorem sort_uniq : ∀ {xs ys : List Int}, xs.Perm ys → xs.Pairwise (· ≤ ·) → ys.Pairwise (· ≤ ·) → xs = ys := fun {xs ys} h h1 h2 => h.eq_of_pairwise (fun a b _ _ hab hba => Int.le_antisymm hab hba) h1 h2
theorem je_sortedL {xs ys : List Int} (hm : S.mg "sorted" = none) (ha : JE S e ρ (.LI xs)) (hx : IsSort ys xs) (hg : S.sc.names.lookup ("sorted" : Str) = some .globalImplicit := by rfl) (hs : ∀ env, starEach [e] env = (false, eval e env) :: starEach [] env := by intro _; rfl) :
    JE S (.Call (.Name "sorted" p) [e] [] pos) ρ (.LI ys) :=
  je_callB (r := rSortedI S.K) (fun X h => by have := cr_sortedI (X := X); rw [h.K] at this; exact this) hg hm (by decide +kernel) (ja1 ha hs) (fun B H vs Q bh r k => by
    obtain ⟨v, rfl, rv⟩ := rp1 r
    cases rv with
    | lst ha hv =>
      rw [hv.ints] at ha
      refine ⟨_, _, rfl, SqL.of (bh _ _ ha), fun ns' q hp ho hq => ?_⟩
      have e : ns' = ys := sort_uniq (hp.trans hx.1.symm) ho hx.2
      rw [e]
      exact k _ _ _ (Gr.new bh hq) (.lst upd_same (RpAll.ofInts _))) (by decide) (by decide) hs (fun _ => rfl)
theorem je_intOf {i : Int} (hm : S.mg "int" = none) (ha : JE S e ρ (.int i)) (hg : S.sc.names.lookup ("int" : Str) = some .globalImplicit := by rfl) (hs : ∀ env, starEach [e] env = (false, eval e env) :: starEach [] env := by intro _; rfl) :
    JE S (.Call (.Name "int" p) [e] [] pos) ρ (.int i) :=
  je_callTy (r := fun xs H Q => (∃ i, xs = [.int i] ∧ Q (.int i) H) ∨ ∃ k, xs = [.bl k] ∧ Q (.int (if k then 1 else 0)) H) (fun X h => call_int1) hg hm (by decide +kernel) (ja1 ha hs) (fun B H vs Q bh r k => by
    obtain ⟨v, rfl, rv⟩ := rp1 r
    cases rv
    exact .inl ⟨_, rfl, k _ B H (Gr.refl bh) (.int _)⟩) (by decide) (by decide) hs (fun _ => rfl)
/-- min of two ints -/
theorem je_min2 {i j : Int} (hm : S.mg "min" = none) (ha : JE S e1 ρ (.int i)) (hb : JE S e2 ρ (.int j)) (hg : S.sc.names.lookup ("min" : Str) = some .globalImplicit := by rfl) (hs : ∀ env, starEach [e1, e2] env = (false, eval e1 env) :: starEach [e2] env := by intro _; rfl)
    (hs2 : ∀ env, starEach [e2] env = (false, eval e2 env) :: starEach [] env := by intro _; rfl) (hpl : ∀ env, (backTo pos (starEach [e2] env)).any (·.1) = false := by intro _; rfl) :
    JE S (.Call (.Name "min" p) [e1, e2] [] pos) ρ (.int (if j < i then j else i)) :=
  je_callB (r := fun xs H Q => ∃ i j, xs = [.int i, .int j] ∧ Q (.int (if j < i then j else i)) H) (fun X h => call_min2 h.calm) hg hm (by decide +kernel) (ja_cons ha (ja1 hb hs2) hs) (fun B H vs Q bh r k => by
    cases r with
    | cons r1 t =>
      obtain ⟨v, rfl, r2⟩ := rp1 t
      cases r1; cases r2
      exact ⟨_, _, rfl, k _ B H (Gr.refl bh) (.int _)⟩) (by decide) (by decide) hs hpl
/-! ### subscripts, slices -/
theorem je_ix {d0 d : Dt} {k : Nat} (ha : JE S e1 ρ d0) (hd : sq d0 l) (hb : JE S e2 ρ (.n k)) (hk : l[k]? = some d) (hs : PlainIx e2 := by intro _ _; rfl) : JE S (.Subscript e1 e2 pos) ρ d :=
  je_of (t := tOp (rIx S.K) (wE S e1) (wE S e2)) (fun X h => by have := pe_ix (X := X) (pos := pos) (hr := ix_seq) (wE_ok (e := e1) h) (wE_ok (e := e2) h) hs; rw [h.K] at this; exact this) (ed_op ha hb fun B H v u Q bh r1 r2 q => by
    cases r2
    rcases hd with rfl | rfl
    · cases r1 with
      | tup ha hv =>
        obtain ⟨w, e, r⟩ := hv.get hk
        exact .inr (.inl ⟨_, _, _, w, rfl, rfl, SqT.of (bh _ _ ha), atI_nat e, q _ B H (Gr.refl bh) r⟩)
    · cases r1 with
      | lst ha hv =>
        obtain ⟨w, e, r⟩ := hv.get hk
        exact .inl ⟨_, _, _, w, rfl, rfl, SqL.of (bh _ _ ha), atI_nat e, q _ B H (Gr.refl bh) r⟩)
end
end My

/-! # Fw4 -/
namespace My
open PySem L2
/-! ### slots stored, wiped -/
theorem get_set {α : Type} {l : List α} {i j : Nat} {x y : α} (h : (l.set i x)[j]? = some y) : (j = i ∧ y = x ∧ i < l.length) ∨ (j ≠ i ∧ l[j]? = some y) := by
  by_cases e : j = i
  · subst e
    by_cases hl : j < l.length
    · rw [List.getElem?_set_self hl] at h
      exact .inl ⟨rfl, (Option.some.inj h).symm, hl⟩
    · rw [List.getElem?_eq_none (by simpa using hl)] at h
      cases h
  · rw [List.getElem?_set_ne (Ne.symm e)] at h
    exact .inr ⟨e, h⟩
theorem SEnv.set {C : Addr} {B H : Hp} {σ : L2.St} {ρ : List Sl} {x : V} {s : Sl} {i : Nat} (E : SEnv C B σ H ρ) (h : SlOk C B H (some (some x)) s) (hs : ∀ ds, s ≠ .o ds) : SEnv C B (σ.set i (some x)) H (ρ.set i s) := by
  refine ⟨E.bh, fun j t e => ?_, fun j k ds es a hjk hj hk aj ak => ?_, by rw [List.length_set, List.length_set, E.len]⟩
  · rcases get_set e with ⟨rfl, rfl, hl⟩ | ⟨hj, e'⟩
    · rw [List.getElem?_set_self (by rw [E.len]; exact hl)]
      exact h
    · rw [List.getElem?_set_ne (Ne.symm hj)]
      exact E.sl j t e'
  · rcases get_set hj with ⟨rfl, e, _⟩ | ⟨h1, hj'⟩
    · exact hs _ e.symm
    · rcases get_set hk with ⟨rfl, e, _⟩ | ⟨h2, hk'⟩
      · exact hs _ e.symm
      · rw [List.getElem?_set_ne (Ne.symm h1)] at aj
        rw [List.getElem?_set_ne (Ne.symm h2)] at ak
        exact E.dj j k ds es a hjk hj' hk' aj ak
theorem EnvS.set {C : Addr} {B0 H0 B H : Hp} {σ : L2.St} {ρ : List Sl} {x : V} {d : Dt} {i : Nat} (E : EnvS C B0 H0 B σ H ρ) (r : Rp C B x d) : EnvS C B0 H0 B (σ.set i (some x)) H (ρ.set i (.v d)) := by
  refine ⟨E.e.set ⟨x, rfl, r⟩ (fun _ z => by cases z), E.g, fun j ds a h1 h2 => ?_⟩
  rcases get_set h1 with ⟨_, e, _⟩ | ⟨hj, h1'⟩
  · cases e
  · rw [List.getElem?_set_ne (Ne.symm hj)] at h2
    exact E.own j ds a h1' h2
def wipeR (ρ : List Sl) : List Nat → List Sl
  | [] => ρ
  | v :: vs => (wipeR ρ vs).set v .un
theorem SEnv.wipe1 {C : Addr} {B H : Hp} {σ : L2.St} {ρ : List Sl} {i : Nat} (E : SEnv C B σ H ρ) : SEnv C B (σ.set i none) H (ρ.set i .un) := by
  refine ⟨E.bh, fun j t e => ?_, fun j k ds es a hjk hj hk aj ak => ?_, by rw [List.length_set, List.length_set, E.len]⟩
  · rcases get_set e with ⟨rfl, rfl, hl⟩ | ⟨hj, e'⟩
    · trivial
    · rw [List.getElem?_set_ne (Ne.symm hj)]
      exact E.sl j t e'
  · rcases get_set hj with ⟨rfl, e, _⟩ | ⟨h1, hj'⟩
    · cases e
    · rcases get_set hk with ⟨rfl, e, _⟩ | ⟨h2, hk'⟩
      · cases e
      · rw [List.getElem?_set_ne (Ne.symm h1)] at aj
        rw [List.getElem?_set_ne (Ne.symm h2)] at ak
        exact E.dj j k ds es a hjk hj' hk' aj ak
theorem SEnv.wipe {C : Addr} {B H : Hp} {σ : L2.St} {ρ : List Sl} (E : SEnv C B σ H ρ) : ∀ vs : List Nat, SEnv C B (L2.wipe σ vs) H (wipeR ρ vs)
  | [] => E
  | v :: vs => (E.wipe vs).wipe1
theorem wipe_in {σ : L2.St} {i : Nat} : ∀ {vs : List Nat}, i ∈ vs → i < σ.length → (L2.wipe σ vs)[i]? = some none
  | v :: vs, h, hl => by
    show ((L2.wipe σ vs).set v none)[i]? = some none
    by_cases e : i = v
    · subst e
      rw [List.getElem?_set_self (by rw [wipe_length]; exact hl)]
    · rw [List.getElem?_set_ne (Ne.symm e)]
      rcases List.mem_cons.mp h with h | h
      · exact absurd h e
      · exact wipe_in h hl
theorem wipe_eq {σ σ' : L2.St} {vs : List Nat} (h : ∀ i, i ∉ vs → σ'[i]? = (L2.wipe σ vs)[i]?) (hl : σ'.length = (L2.wipe σ vs).length) : L2.wipe σ' vs = L2.wipe σ vs := by
  apply List.ext_getElem?
  intro i
  by_cases hi : i ∈ vs
  · by_cases hlt : i < σ.length
    · rw [wipe_in hi hlt, wipe_in hi (by rw [hl, wipe_length]; exact hlt)]
    · rw [List.getElem?_eq_none (by rw [wipe_length, hl, wipe_length]; omega), List.getElem?_eq_none (by rw [wipe_length]; omega)]
  · rw [wipe_out hi, h i hi]
/-! ### targets -/
/-- what a target does to the slots: js are the places stored -/
def TGD (C : Addr) (g : TG) (ρ : List Sl) (d : Dt) (ρ2 : List Sl) (js : List Nat) : Prop :=
  ∀ B σ H, SEnv C B σ H ρ → ∀ (x : V) (Q : L2.St → Hp → Prop), Rp C B x d → (∀ σ', SEnv C B σ' H ρ2 → (∀ i, i ∉ js → σ'[i]? = σ[i]?) → σ'.length = σ.length → Q σ' H) → g x σ H Q
def OwnSub (ρ2 ρ : List Sl) (js : List Nat) : Prop := ∀ (i : Nat) (ds : List Dt), ρ2[i]? = some (.o ds) → ρ[i]? = some (.o ds) ∧ i ∉ js
structure JTg (S : SC) (tg : Expr) (ρ : List Sl) (d : Dt) (ρ2 : List Sl) (js : List Nat) : Prop where
  g : TGD S.C (wG S tg) ρ d ρ2 js
  own : OwnSub ρ2 ρ js
section
variable {S : SC} {ρ ρ' : List Sl} {d d' : Dt} {b b' : Bool} {ds l : List Dt} {N N' N1 : List Sl → Prop} {R R' : Dt → Prop} {BK CT : List Sl → Prop} {e e1 e2 : Expr} {pos p : Pos} {es : List Expr}
def Lc (S : SC) (i : Nat) (x : Str) : Prop := S.N[i]? = some x ∧ Loc S.sc x ∧ (S.fn x = true ∨ S.sc.names.lookup x = some .local)
theorem pgn {X : Cx} {i : Nat} {x : Str} (h : CtxOk S X) (hx : Lc S i x) : PG X (.Name x pos) (gName i) :=
  pg_name (by rw [h.N]; exact h.nd) (by rw [h.N]; exact hx.1) (by rw [h.sc]; exact hx.2.1) (by rw [h.fn, h.sc]; exact hx.2.2)
theorem jg_name (i : Nat) {x : Str} (hx : Lc S i x := by first | exact ⟨rfl, .inl rfl, .inr rfl⟩ | exact ⟨rfl, .inr rfl, .inl rfl⟩) : JTg S (.Name x pos) ρ d (ρ.set i (.v d)) [i] where
  g := fun B σ H E x Q r k => ⟨gName i, fun X h => pgn h hx, k _ (E.set (s := .v d) ⟨x, rfl, r⟩ (fun _ z => by cases z)) (fun j hj => List.getElem?_set_ne (fun z => hj (by simp [z]))) (List.length_set ..)⟩
  own := fun j ds h => by
    rcases get_set h with ⟨_, e, _⟩ | ⟨hj, h'⟩
    · cases e
    · exact ⟨h', by simpa using hj⟩
/-- a, b = a pair -/
theorem jg_pair (i j : Nat) {x y : Str} {px py : Pos} {k1 : Nat} {d1 d2 : Dt} (hx : Lc S i x := by first | exact ⟨rfl, .inl rfl, .inr rfl⟩ | exact ⟨rfl, .inr rfl, .inl rfl⟩) (hy : Lc S j y := by first | exact ⟨rfl, .inl rfl, .inr rfl⟩ | exact ⟨rfl, .inr rfl, .inl rfl⟩) :
    JTg S (.Tuple [.Name x px, .Name y py] k1 pos) ρ (.tup [d1, d2]) ((ρ.set i (.v d1)).set j (.v d2)) [i, j] where
  g := fun B σ H E x Q r k => by
    cases r with
    | @tup a vs _ ha hv =>
      cases hv with
      | @cons v1 _ _ _ r1 t =>
        obtain ⟨v2, rfl, r2⟩ := rp1 t
        refine ⟨gTup S.K 2 (gCons (gName i) (gCons (gName j) gNil)), fun X h => ?_, a, [v1, v2], rfl, SqT.of (E.bh _ _ ha), rfl, v1, [v2], rfl, v2, [], rfl, rfl, ?_⟩
        · have := pg_tup (X := X) (k := k1) (pos := pos) (n := 2) h.calm (pgs_cons (pgn (pos := px) h hx) (pgs_cons (pgn (pos := py) h hy) pgs_nil))
          rw [h.K] at this
          exact this
        · refine k _ ((E.set (s := .v d1) ⟨v1, rfl, r1⟩ (fun _ z => by cases z)).set (s := .v d2) ⟨v2, rfl, r2⟩ (fun _ z => by cases z)) (fun m hm => ?_) (by rw [List.length_set, List.length_set])
          have hm' : m ≠ i ∧ m ≠ j := by simpa using hm
          rw [List.getElem?_set_ne (Ne.symm hm'.2), List.getElem?_set_ne (Ne.symm hm'.1)]
  own := fun m ds h => by
    rcases get_set h with ⟨_, e, _⟩ | ⟨hj, h'⟩
    · cases e
    · rcases get_set h' with ⟨_, e, _⟩ | ⟨hi, h''⟩
      · cases e
      · exact ⟨h'', by simp [hi, hj]⟩
theorem EnvS.tg {C : Addr} {B0 H0 B H : Hp} {σ σ' : L2.St} {ρ ρ2 : List Sl} {js : List Nat} (E : EnvS C B0 H0 B σ H ρ) (E2 : SEnv C B σ' H ρ2) (hs : ∀ i, i ∉ js → σ'[i]? = σ[i]?) (ho : OwnSub ρ2 ρ js) : EnvS C B0 H0 B σ' H ρ2 :=
  ⟨E2, E.g, fun i ds a h1 h2 => by
    obtain ⟨h3, h4⟩ := ho i ds h1
    rw [hs i h4] at h2
    exact E.own i ds a h3 h2⟩

/-! ### iterators -/
theorem itl_of {C : Addr} {K : PySem.W.Frag} {B1 : Hp} {a : Addr} {vs : List V} (ha : B1 a = some (.lst vs)) (hv : RpAll C B1 vs ds) : ItOf C (Itl K a) B1 ds where
  go := fun i H hi e => by
    obtain ⟨v, h1, _⟩ := hv.get (i := i) (d := ds[i]) (by simp [hi])
    exact ⟨vs, v, SqL.of (e _ _ ha), h1⟩
  stop := fun H e => ⟨vs, SqL.of (e _ _ ha), by rw [hv.length]; exact Nat.le_refl _⟩
  yld := fun i B2 H2 x H' hi e1 e2 y => by
    obtain ⟨rfl, y⟩ := y
    obtain ⟨v, h1, r⟩ := hv.get (i := i) (d := ds[i]) (by simp [hi])
    have h2 := y vs (SqL.of (e2 _ _ (e1 _ _ ha)))
    rw [h1] at h2
    cases h2
    exact ⟨B2, Gr.refl e2, r.mono e1⟩
theorem itt_of {C : Addr} {K : PySem.W.Frag} {B1 : Hp} {a : Addr} {vs : List V} (ha : B1 a = some (.tup vs)) (hv : RpAll C B1 vs ds) : ItOf C (Itt K a) B1 ds where
  go := fun i H hi e => by
    obtain ⟨v, h1, _⟩ := hv.get (i := i) (d := ds[i]) (by simp [hi])
    exact ⟨vs, v, SqT.of (e _ _ ha), h1⟩
  stop := fun H e => ⟨vs, SqT.of (e _ _ ha), by rw [hv.length]; exact Nat.le_refl _⟩
  yld := fun i B2 H2 x H' hi e1 e2 y => by
    obtain ⟨rfl, y⟩ := y
    obtain ⟨v, h1, r⟩ := hv.get (i := i) (d := ds[i]) (by simp [hi])
    have h2 := y vs (SqT.of (e2 _ _ (e1 _ _ ha)))
    rw [h1] at h2
    cases h2
    exact ⟨B2, Gr.refl e2, r.mono e1⟩
theorem itr_of {C : Addr} {B1 : Hp} {lo n : Nat} : ItOf C (Itr (lo : Nat) n) B1 ((List.range n).map fun k => .n (lo + k)) where
  go := fun i H hi _ => by
    have : i < n := by simpa using hi
    exact this
  stop := fun H _ => by
    show n ≤ _
    simp
  yld := fun i B2 H2 x H' hi e1 e2 y => by
    obtain ⟨rfl, rfl⟩ := y
    refine ⟨B2, Gr.refl e2, ?_⟩
    have e : ((List.range n).map fun k => Dt.n (lo + k))[i] = Dt.int ((lo : Int) + (i : Int)) := by
      simp [Dt.n]
    rw [e]
    exact .int _
variable {tg iter : Expr}
theorem ji_seq {d : Dt} (h : JE S iter ρ d) (hd : sq d ds) : JI S tg iter ρ ds := by
  rcases hd with rfl | rfl
  · exact ji_of (t := iTup S.K (wE S iter)) (fun X hx => by have := pi_tup (X := X) (tg := tg) (wE_ok (e := iter) hx); rw [hx.K] at this; exact this) fun B σ H E Rr k => h B σ H E _ fun x B1 H1 g1 r1 => by
      cases r1 with
      | @tup a vs _ ha hv => exact ⟨a, rfl, ⟨vs, SqT.of (g1.bh _ _ ha)⟩, k _ B1 H1 g1 (itt_of ha hv)⟩
  · exact ji_of (t := iList S.K (wE S iter)) (fun X hx => by have := pi_list (X := X) (tg := tg) (wE_ok (e := iter) hx); rw [hx.K] at this; exact this) fun B σ H E Rr k => h B σ H E _ fun x B1 H1 g1 r1 => by
      cases r1 with
      | @lst a vs _ ha hv => exact ⟨a, rfl, ⟨vs, SqL.of (g1.bh _ _ ha)⟩, k _ B1 H1 g1 (itl_of ha hv)⟩
theorem ji_range {n : Nat} (hm : S.mg "range" = none) (h : JE S e ρ (.n n)) (hn : n ≤ 10000) (hg : S.sc.names.lookup ("range" : Str) = some .globalImplicit := by rfl) (hs : ∀ env, starEach [e] env = (false, eval e env) :: starEach [] env := by intro _; rfl) :
    JI S tg (.Call (.Name "range" p) [e] [] pos) ρ ((List.range n).map Dt.n) :=
  ji_of (fun X hx => pi_range1 (show X.env.scope.names.lookup ("range" : Str) = _ by rw [hx.sc]; exact hg) (by rw [hx.mg]; exact hm) (wA_ok hx) (hs _)) fun B σ H E Rr k => ja1 h hs B σ H E _ fun xs B1 H1 g1 r1 => by
    obtain ⟨v, rfl, rv⟩ := rp1 r1
    cases rv
    refine ⟨(n : Int), rfl, by omega, by omega, ?_⟩
    have z := itr_of (C := S.C) (B1 := B1) (lo := 0) (n := n)
    have e1 : ((List.range n).map fun k => Dt.n (0 + k)) = (List.range n).map Dt.n := List.map_congr_left fun i _ => by rw [Nat.zero_add]
    rw [e1] at z
    exact k _ B1 H1 g1 z
theorem ji_range2 {a n : Nat} (hm : S.mg "range" = none) (h1 : JE S e1 ρ (.n a)) (h2 : JE S e2 ρ (.n n)) (hn : n ≤ 10000) (ha : a ≤ 10000) (hg : S.sc.names.lookup ("range" : Str) = some .globalImplicit := by rfl) (hs : ∀ env, starEach [e1, e2] env = (false, eval e1 env) :: starEach [e2] env := by intro _; rfl)
    (hs2 : ∀ env, starEach [e2] env = (false, eval e2 env) :: starEach [] env := by intro _; rfl) :
    JI S tg (.Call (.Name "range" p) [e1, e2] [] pos) ρ ((List.range (n - a)).map fun k => Dt.n (a + k)) :=
  ji_of (fun X hx => pi_range2 (show X.env.scope.names.lookup ("range" : Str) = _ by rw [hx.sc]; exact hg) (by rw [hx.mg]; exact hm) (wA_ok hx) (by rw [hs, hs2]; rfl) (hs2 _)) fun B σ H E Rr k => ja_cons h1 (ja1 h2 hs2) hs B σ H E _ fun xs B1 H1 g1 r1 => by
    cases r1 with
    | cons ra rt =>
      obtain ⟨v, rfl, rv⟩ := rp1 rt
      cases ra; cases rv
      refine ⟨(a : Int), (n : Int), rfl, ⟨by omega, by omega, by omega, by omega⟩, ?_⟩
      have e2 : ((n : Int) - (a : Int)).toNat = n - a := by omega
      rw [e2]
      exact k _ B1 H1 g1 itr_of

/-! ### list comprehensions -/
theorem jts_nil : JTs S [] ρ true := jts_of (fun _ _ => pts_nil) fun B σ H E Q k => k B H (Gr.refl E.bh)
theorem jts_one (h : JT S e ρ b) : JTs S [e] ρ b := jts_of (fun X hx => pts_one (wT_ok hx)) h
theorem take_succ {α : Type} {xs : List α} {i : Nat} {x : α} (h : xs[i]? = some x) : xs.take (i + 1) = xs.take i ++ [x] := by
  rw [List.take_add_one, h]
  rfl
/-- the reading of a comprehension, one clause -/
theorem ed_lc {α : Type} {C : Addr} (xs : List α) (enc : α → Dt) (f : α → Bool) (g : α → Dt) {vs js : List Nat} {wi : TI} {tg : TG} {tt : TT} {te : TE} (hi : ID C wi ρ (xs.map enc)) (hjs : ∀ i ∈ js, i ∈ vs) (ρi : α → List Sl)
    (hg : ∀ x ∈ xs, TGD C tg (wipeR ρ vs) (enc x) (ρi x) js) (ht : ∀ x ∈ xs, TD C tt (ρi x) (f x)) (he : ∀ x ∈ xs, f x = true → ED C te (ρi x) (g x)) (hl : xs.length ≤ 10000) : ED C (tLc wi tg tt te vs) ρ (.lst ((xs.filter f).map g)) := by
  intro B σ H E Q k
  refine hi B σ H E _ fun J B1 H1 g1 it => fun D hD => ?_
  have hn : (xs.map enc).length = xs.length := List.length_map ..
  refine ⟨fun i m H => m = xs.length - i ∧ i ≤ xs.length ∧ ∃ B', Gr B1 H1 B' (fun a => if a = D then none else H a) ∧ B' D = none ∧ ∃ ys, H D = some (.lst ys) ∧ ys.length ≤ i ∧ RpAll C B' ys (((xs.take i).filter f).map g), ⟨xs.length, by simp, Nat.zero_le _, B1, ?_, g1.bh.free hD, [], upd_same, Nat.le_refl _, .nil⟩, ?_⟩
  · have e : (fun a => if a = D then none else upd H1 D (.lst []) a) = H1 := by
      funext a
      by_cases ha : a = D
      · rw [if_pos ha, ha, hD]
      · rw [if_neg ha, upd_ne ha]
    rw [e]
    exact Gr.refl g1.bh
  · rintro i m H2 ⟨rfl, hi', B', gr, hBD, ys, hys, hyl, ry⟩
    have sB : Same B' H2 := fun a o q => by
      have := gr.bh a o q
      by_cases ha : a = D
      · rw [if_pos ha] at this; cases this
      · rw [if_neg ha] at this; exact this
    have sB1 : Same B1 H2 := gr.b.trans sB
    by_cases hlt : i < xs.length
    · have hx : xs[i]? = some xs[i] := by simp [hlt]
      generalize hxe : xs[i] = x at hx
      have hxm : x ∈ xs := by rw [← hxe]; exact List.getElem_mem hlt
      refine .inr ⟨it.go i H2 (by rw [hn]; exact hlt) sB1, fun H => ∃ B', Gr B1 H1 B' (fun a => if a = D then none else H a) ∧ B' D = none ∧ ∃ ys, H D = some (.lst ys) ∧ ys.length ≤ i + 1 ∧ RpAll C B' ys (((xs.take (i + 1)).filter f).map g), fun H' q => ⟨xs.length - (i + 1), by omega, rfl, hlt, q⟩, fun v H3 y => ?_⟩
      obtain ⟨B3, gr3, rx⟩ := it.yld i B' H2 v H3 (by rw [hn]; exact hlt) gr.b sB y
      have ex : (xs.map enc)[i] = enc x := by simp [hxe]
      rw [ex] at rx
      -- the environment in the block
      have E3 : SEnv C B3 σ H3 ρ := by
        have g13 : Gr B H B3 H3 := by
          refine ⟨g1.b.trans (gr.b.trans gr3.b), fun a o q => gr3.h _ _ ?_, gr3.bh, fun a h1 h2 => ?_⟩
          · have := gr.h _ _ (g1.h _ _ q)
            by_cases ha : a = D
            · rw [if_pos ha] at this; cases this
            · rw [if_neg ha] at this; exact this
          · have h3 := g1.fr a h1 h2
            have hH1 : H1 a ≠ none := fun z => h1 (g1.h.free z)
            have h4 := gr.fr a hH1 h3
            have hH2 : H2 a ≠ none := fun z => by
              cases e : H1 a with
              | none => exact hH1 e
              | some o =>
                have := gr.h a o e
                by_cases ha : a = D
                · rw [if_pos ha] at this; cases this
                · rw [if_neg ha, z] at this; cases this
            exact gr3.fr a hH2 h4
        exact E.grow g13
      refine hg x hxm B3 _ H3 (E3.wipe vs) v _ rx fun σ2 E4 hs hl2 => ⟨wipe_eq (fun j hj => hs j fun z => hj (hjs j z)) hl2, ?_⟩
      have hDH2 : H2 D ≠ none := by rw [hys]; intro z; cases z
      have step : ∀ {B4 H4 : Hp}, Gr B3 H3 B4 H4 → Gr B1 H1 B4 (fun a => if a = D then none else H4 a) ∧ B4 D = none ∧ H4 D = some (.lst ys) ∧ RpAll C B4 ys (((xs.take i).filter f).map g) := fun {B4 H4} g4 => by
        have g24 := gr3.trans g4
        have hD4 : B4 D = none := g24.fr D hDH2 hBD
        refine ⟨⟨gr.b.trans g24.b, fun a o q => ?_, fun a o q => ?_, fun a h1 h2 => ?_⟩, hD4, g24.h _ _ hys, ry.mono g24.b⟩
        · have ha : a ≠ D := fun z => by rw [z, hD] at q; cases q
          rw [if_neg ha]
          have := gr.h a o q
          rw [if_neg ha] at this
          exact g24.h _ _ this
        · have ha : a ≠ D := fun z => by rw [z, hD4] at q; cases q
          rw [if_neg ha]
          exact g24.bh a o q
        · have h3 := gr.fr a h1 h2
          refine g24.fr a (fun z => ?_) h3
          cases e : H1 a with
          | none => exact h1 e
          | some o =>
            have := gr.h a o e
            by_cases ha : a = D
            · rw [if_pos ha] at this; cases this
            · rw [if_neg ha, z] at this; cases this
      refine ht x hxm B3 σ2 H3 E4 _ fun B4 H4 g4 => ?_
      cases hf : f x with
      | true =>
        show te σ2 H4 _
        refine he x hxm hf B4 σ2 H4 (E4.grow g4) _ fun w B5 H5 g5 r5 => ?_
        obtain ⟨p1, p2, p3, p4⟩ := step (g4.trans g5)
        refine ⟨ys, p3, by rw [sizeLine_eq]; omega, B5, ?_, p2, ys ++ [w], upd_same, by rw [List.length_append]; simp; omega, ?_⟩
        · have e : (fun a => if a = D then none else upd H5 D (.lst (ys ++ [w])) a) = fun a => if a = D then none else H5 a := by
            funext a
            by_cases ha : a = D
            · rw [if_pos ha, if_pos ha]
            · rw [if_neg ha, if_neg ha, upd_ne ha]
          rw [e]
          exact p1
        · rw [take_succ hx, List.filter_append, List.map_append]
          refine p4.append ?_
          rw [List.filter_cons, if_pos hf]
          exact .cons r5 .nil
      | false =>
        show ∃ B', _
        obtain ⟨p1, p2, p3, p4⟩ := step g4
        refine ⟨B4, p1, p2, ys, p3, by omega, ?_⟩
        rw [take_succ hx, List.filter_append, List.map_append, List.filter_cons, if_neg (by rw [hf]; decide)]
        simpa using p4
    · have e : i = xs.length := by omega
      subst e
      refine .inl ⟨?_, ?_⟩
      · have := it.stop H2 sB1
        rw [hn] at this
        exact this
      · rw [List.take_length] at ry
        have hDH1 : H1 D = none := hD
        refine k (.ref D) (upd B' D (.lst ys)) H2 (g1.trans ⟨gr.b.trans (same_new hBD), fun a o q => ?_, fun a o q => ?_, fun a h1 h2 => ?_⟩) (.lst upd_same (ry.mono (same_new hBD)))
        · have := gr.h a o q
          by_cases ha : a = D
          · rw [if_pos ha] at this; cases this
          · rw [if_neg ha] at this; exact this
        · by_cases ha : a = D
          · subst ha
            rw [upd_same] at q
            rw [hys]
            exact q
          · rw [upd_ne ha] at q
            exact sB a o q
        · have ha : a ≠ D := fun z => h1 (by rw [z]; exact hD)
          rw [upd_ne ha]
          exact gr.fr a h1 h2
variable {scope : Scope} {ifs : List Expr} {elt : Expr} {tge : Expr}
theorem je_lc {α : Type} (xs : List α) (enc : α → Dt) (f : α → Bool) (g : α → Dt) (own : List (Str × Nat)) {js : List Nat} (hi : JI S tge iter ρ (xs.map enc)) (ok : BlkOk S.N S.sc scope own) (hjs : ∀ i ∈ js, i ∈ own.map (·.2)) (ρi : α → List Sl)
    (hg : ∀ x ∈ xs, JTg (S.blk scope) tge (wipeR ρ (own.map (·.2))) (enc x) (ρi x) js) (ht : ∀ x ∈ xs, JTs (S.blk scope) ifs (ρi x) (f x)) (he : ∀ x ∈ xs, f x = true → JE (S.blk scope) elt (ρi x) (g x)) (hl : xs.length ≤ 10000)
    (hs : ∀ env x, foldedSetIterable iter env x = pure x := by intro _ _; rfl) : JE S (.ListComp elt [⟨tge, iter, ifs, 0⟩] scope pos) ρ (.lst ((xs.filter f).map g)) :=
  je_of (t := tLc (wI S tge iter) (wG (S.blk scope) tge) (wTs (S.blk scope) ifs) (wE (S.blk scope) elt) (own.map (·.2)))
    (fun X h => pe_lc h.calm (by rw [h.N]; exact h.nd) (wI_ok h) (by rw [h.N, h.sc]; exact ok) (fun s H C cl fp => wG_ok (h.blk scope s H C cl fp)) (fun s H C cl fp => wTs_ok (h.blk scope s H C cl fp)) (fun s H C cl fp => wE_ok (h.blk scope s H C cl fp)) (hs _))
    (ed_lc xs enc f g hi hjs ρi (fun x hx => (hg x hx).g) ht he hl)

/-! ### statements -/
theorem jb_nil (h : N ρ) : JB S [] ρ N R BK CT := jb_of (fun _ _ => pss_nil) fun B0 H0 D B σ H E k1 _ _ _ => k1 B σ H ρ h (Same.refl _) E
theorem jb_cons {st : Stmt} {rest : List Stmt} (h1 : JS S st ρ N1 R BK CT) (h2 : ∀ ρ1, N1 ρ1 → JB S rest ρ1 N R BK CT) : JB S (st :: rest) ρ N R BK CT :=
  jb_of (fun X h => pss_cons (wS_ok h) (wB_ok h)) fun B0 H0 D B σ H E k1 k2 k3 k4 => h1 B0 H0 { D with nx := wB S rest D } B σ H E
    (fun B' σ' H' ρ' n e E' => h2 ρ' n B0 H0 D B' σ' H' E' (fun B2 σ2 H2 ρ2 n2 e2 E2 => k1 B2 σ2 H2 ρ2 n2 (e.trans e2) E2) k2 (fun B2 σ2 H2 ρ2 n2 e2 E2 => k3 B2 σ2 H2 ρ2 n2 (e.trans e2) E2) (fun B2 σ2 H2 ρ2 n2 e2 E2 => k4 B2 σ2 H2 ρ2 n2 (e.trans e2) E2)) k2 k3 k4
theorem jb_one {st : Stmt} (h1 : JS S st ρ N R BK CT) : JB S [st] ρ N R BK CT := jb_of (fun X h => pss_one (wS_ok h)) h1
/-- straight on -/
theorem jb_then {st : Stmt} {rest : List Stmt} (h1 : JS S st ρ (fun z => z = ρ') R BK CT) (h2 : JB S rest ρ' N R BK CT) : JB S (st :: rest) ρ N R BK CT := jb_cons h1 fun _ e => e ▸ h2
theorem sd_set {te : TE} {i : Nat} {C : Addr} (h : ED C te ρ d) (hn : N (ρ.set i (.v d))) : SD C (tAsg te (gName i)) ρ N R BK CT := fun B0 H0 D B σ H E k1 _ _ _ =>
  h B σ H E.e _ fun x B1 H1 g1 r1 => k1 B1 _ H1 _ hn g1.b ((E.grow g1).set r1)
theorem js_set (i : Nat) {x : Str} {pos' : Pos} (h : JE S e ρ d) (hx : Lc S i x := by first | exact ⟨rfl, .inl rfl, .inr rfl⟩ | exact ⟨rfl, .inr rfl, .inl rfl⟩) (hs : ∀ env, swapsWith e (some (.Name x pos')) pos.line env = pure false := by intro _; rfl) :
    JS S (.Assign [.Name x pos'] e pos) ρ (fun z => z = ρ.set i (.v d)) R BK CT :=
  js_of (fun X hc => ps_set (by rw [hc.N]; exact hc.nd) (by rw [hc.N]; exact hx.1) (by rw [hc.sc]; exact hx.2.1) (wE_ok hc) (hs _) (by rw [hc.fn, hc.sc]; exact hx.2.2)) (sd_set h rfl)
theorem js_setLc {α : Type} (i : Nat) {y : Str} {py spos : Pos} (xs : List α) (enc : α → Dt) (f : α → Bool) (g : α → Dt) (own : List (Str × Nat)) {js : List Nat} (hi : JI S tge iter ρ (xs.map enc)) (ok : BlkOk S.N S.sc scope own) (hjs : ∀ i ∈ js, i ∈ own.map (·.2)) (ρi : α → List Sl)
    (hg : ∀ x ∈ xs, JTg (S.blk scope) tge (wipeR ρ (own.map (·.2))) (enc x) (ρi x) js) (ht : ∀ x ∈ xs, JTs (S.blk scope) ifs (ρi x) (f x)) (he : ∀ x ∈ xs, f x = true → JE (S.blk scope) elt (ρi x) (g x)) (hl : xs.length ≤ 10000)
    (hy : S.N[i]? = some y := by rfl) (hyl : S.sc.names.lookup y = some .local := by rfl) (hk : S.sc.kind = .function := by rfl) (hln : (py.line == pos.line) = true := by rfl) (hnot : (scope.names.any fun (n, k) => n == y && (k == .local || k == .cell)) = false := by decide +kernel)
    (hs : ∀ env x, foldedSetIterable iter env x = pure x := by intro _ _; rfl) : JS S (.Assign [.Name y py] (.ListComp elt [⟨tge, iter, ifs, 0⟩] scope pos) spos) ρ (fun z => z = ρ.set i (.v (.lst ((xs.filter f).map g)))) R BK CT :=
  js_of (t := tAsg (tLc (wI S tge iter) (wG (S.blk scope) tge) (wTs (S.blk scope) ifs) (wE (S.blk scope) elt) (own.map (·.2))) (gName i))
    (fun X h => ps_setLc h.calm (by rw [h.N]; exact h.nd) (by rw [h.N]; exact hy) (by rw [h.sc]; exact hyl) (sw_true (by rw [h.sc]; exact hk) (by rw [h.sc]; exact hyl) hln hnot) (wI_ok h) (by rw [h.N, h.sc]; exact ok) (fun s H C cl fp => wG_ok (h.blk scope s H C cl fp)) (fun s H C cl fp => wTs_ok (h.blk scope s H C cl fp)) (fun s H C cl fp => wE_ok (h.blk scope s H C cl fp)) (hs _))
    (sd_set (ed_lc xs enc f g hi hjs ρi (fun x hx => (hg x hx).g) ht he hl) rfl)
theorem js_ret (h : JE S e ρ d) (hr : R d) : JS S (.Return (some e) pos) ρ N R BK CT :=
  js_of (fun X hc => ps_ret (wE_ok hc)) fun B0 H0 D B σ H E _ k2 _ _ => h B σ H E.e _ fun x B1 H1 g1 r1 => k2 x B1 H1 d hr (E.g.trans g1) r1
theorem js_pass (h : N ρ) : JS S (.Pass pos) ρ N R BK CT := js_of (fun _ _ => ps_pass) fun B0 H0 D B σ H E k1 _ _ _ => k1 B σ H ρ h (Same.refl _) E
theorem js_drop (h : JE S e ρ d) (hn : N ρ) (hs : ∀ env, swapsWith e none pos.line env = pure false := by intro _; rfl) : JS S (.Expr e pos) ρ N R BK CT :=
  js_of (fun X hc => ps_expr (wE_ok hc) (hs _)) fun B0 H0 D B σ H E k1 _ _ _ => h B σ H E.e _ fun x B1 H1 g1 r1 => k1 B1 σ H1 ρ hn g1.b (E.grow g1)
theorem js_if {c : Expr} {s1 s2 : List Stmt} (hc : JT S c ρ b) (h1 : b = true → JB S s1 ρ N R BK CT) (h2 : b = false → JB S s2 ρ N R BK CT) : JS S (.If c s1 s2 pos) ρ N R BK CT :=
  js_of (fun X h => ps_if (wT_ok h) (wB_ok h) (wB_ok h)) fun B0 H0 D B σ H E k1 k2 k3 k4 => hc B σ H E.e _ fun B' H' g => by
    cases b with
    | true => exact h1 rfl B0 H0 D B' σ H' (E.grow g) (fun B2 σ2 H2 ρ2 n2 e2 E2 => k1 B2 σ2 H2 ρ2 n2 (g.b.trans e2) E2) k2 (fun B2 σ2 H2 ρ2 n2 e2 E2 => k3 B2 σ2 H2 ρ2 n2 (g.b.trans e2) E2) (fun B2 σ2 H2 ρ2 n2 e2 E2 => k4 B2 σ2 H2 ρ2 n2 (g.b.trans e2) E2)
    | false => exact h2 rfl B0 H0 D B' σ H' (E.grow g) (fun B2 σ2 H2 ρ2 n2 e2 E2 => k1 B2 σ2 H2 ρ2 n2 (g.b.trans e2) E2) k2 (fun B2 σ2 H2 ρ2 n2 e2 E2 => k3 B2 σ2 H2 ρ2 n2 (g.b.trans e2) E2) (fun B2 σ2 H2 ρ2 n2 e2 E2 => k4 B2 σ2 H2 ρ2 n2 (g.b.trans e2) E2)
/-- if without else whose body leaves (returns or raises) when it is entered -/
theorem jb_guard {c : Expr} {s1 rest : List Stmt} (hc : JT S c ρ b) (h1 : b = true → JB S s1 ρ N R BK CT) (h2 : b = false → JB S rest ρ N R BK CT) (hx : b = true → ∀ N', JB S s1 ρ N' R BK CT) : JB S (.If c s1 [] pos :: rest) ρ N R BK CT :=
  jb_cons (N1 := fun z => z = ρ ∧ b = false) (js_if hc (fun hb => hx hb _) fun hb => jb_nil ⟨rfl, hb⟩) fun _ ⟨e, hb⟩ => e ▸ h2 hb
/-- a test that is not met -/
theorem jb_skip {c : Expr} {s1 rest : List Stmt} (hc : JT S c ρ false) (h2 : JB S rest ρ N R BK CT) : JB S (.If c s1 [] pos :: rest) ρ N R BK CT :=
  jb_then (js_if hc (fun hb => by cases hb) fun _ => jb_nil rfl) h2
/-- .. whose body returns if met -/
theorem jb_ifret {c : Expr} {s1 rest : List Stmt} (hc : JT S c ρ b) (h1 : b = true → ∀ N' : List Sl → Prop, JB S s1 ρ N' R BK CT) (h2 : b = false → JB S rest ρ N R BK CT) : JB S (.If c s1 [] pos :: rest) ρ N R BK CT :=
  jb_cons (N1 := fun z => z = ρ ∧ b = false) (js_if hc (fun hb => h1 hb _) fun hb => jb_nil ⟨rfl, hb⟩) fun _ ⟨e, hb⟩ => e ▸ h2 hb
theorem js_for {α : Type} {body : List Stmt} (xs : List α) (enc : α → Dt) (hi : JI S tge iter ρ (xs.map enc)) (inv : Nat → List Sl → Prop) (h0 : inv 0 ρ)
    (hb : ∀ i x ρ', xs[i]? = some x → inv i ρ' → ∃ ρ2 js, JTg S tge ρ' (enc x) ρ2 js ∧ JB S body ρ2 (inv (i + 1)) R N (inv (i + 1))) (hN : ∀ ρ', inv xs.length ρ' → N ρ') (hs : ∀ env x, foldedSetIterable iter env x = pure x := by intro _ _; rfl) :
    JS S (.For tge iter body [] pos) ρ N R BK CT :=
  js_of (t := tFor (wI S tge iter) (wG S tge) (wB S body)) (fun X h => ps_for (by rw [h.xe]; exact PassesOwn.never) h.calm (wI_ok h) (wG_ok h) (wB_ok h) (hs _)) fun B0 H0 D B σ H E k1 k2 _ _ => hi B σ H E.e _ fun J B1 H1 g1 it => by
    have hn : (xs.map enc).length = xs.length := List.length_map ..
    refine ⟨fun i m σ H => m = xs.length - i ∧ i ≤ xs.length ∧ ∃ ρ' B', inv i ρ' ∧ Same B1 B' ∧ EnvS S.C B0 H0 B' σ H ρ', ⟨xs.length, by simp, Nat.zero_le _, ρ, B1, h0, Same.refl _, E.grow g1⟩, ?_⟩
    rintro i m σ' H' ⟨rfl, hi', ρ', B', iv, sb, E'⟩
    by_cases hlt : i < xs.length
    · have hx : xs[i]? = some xs[i] := by simp [hlt]
      obtain ⟨ρ2, js, hg, hbd⟩ := hb i xs[i] ρ' hx iv
      refine .inr ⟨it.go i H' (by rw [hn]; exact hlt) (sb.trans E'.e.bh), fun σ H => ∃ ρ' B', inv (i + 1) ρ' ∧ Same B1 B' ∧ EnvS S.C B0 H0 B' σ H ρ', fun σ2 H2 q => ⟨xs.length - (i + 1), by omega, rfl, hlt, q⟩, fun v H2 y => ?_⟩
      obtain ⟨B2, gr, rx⟩ := it.yld i B' H' v H2 (by rw [hn]; exact hlt) sb E'.e.bh y
      have ex : (xs.map enc)[i] = enc xs[i] := by simp
      rw [ex] at rx
      have E2 := E'.grow gr
      refine hg.g B2 σ' H2 E2.e v _ rx fun σ2 E3 hs2 _ => ?_
      have E4 := E2.tg E3 hs2 hg.own
      refine hbd B0 H0 _ B2 σ2 H2 E4 (fun B5 σ5 H5 ρ5 n5 e5 E5 => ?_) k2 (fun B5 σ5 H5 ρ5 n5 e5 E5 => k1 B5 σ5 H5 ρ5 n5 (g1.b.trans (sb.trans (gr.b.trans e5))) E5) (fun B5 σ5 H5 ρ5 n5 e5 E5 => ?_)
      · exact ⟨ρ5, B5, n5, sb.trans (gr.b.trans e5), E5⟩
      · exact ⟨ρ5, B5, n5, sb.trans (gr.b.trans e5), E5⟩
    · have e : i = xs.length := by omega
      subst e
      have st := it.stop H' (sb.trans E'.e.bh)
      rw [hn] at st
      exact .inl ⟨st, k1 B' σ' H' ρ' (hN ρ' iv) (g1.b.trans sb) E'⟩
end
end My

/-! # Fw5 -/
namespace My
open PySem L2
section
variable {S : SC} {ρ ρ' : List Sl} {d d' : Dt} {b b' : Bool} {ds l : List Dt} {N N' N1 : List Sl → Prop} {R R' : Dt → Prop} {BK CT : List Sl → Prop} {e e1 e2 : Expr} {pos p : Pos} {es : List Expr}
/-! ### lists of one's own -/
theorem EnvS.own_new {C : Addr} {B0 H0 B H : Hp} {σ : L2.St} {ρ : List Sl} {i : Nat} {q : Addr} {xs : List V} (E : EnvS C B0 H0 B σ H ρ) (hq : H q = none) (r : RpAll C B xs ds) :
    EnvS C B0 H0 B (σ.set i (some (.ref q))) (upd H q (.lst xs)) (ρ.set i (.o ds)) := by
  have g := Gr.newH (o := .lst xs) E.e.bh hq
  have E2 := E.grow g
  have hB : B q = none := E.e.bh.free hq
  refine ⟨⟨E2.e.bh, fun j t e => ?_, fun j k es1 es2 a hjk hj hk aj ak => ?_, by rw [List.length_set, List.length_set, E.e.len]⟩, E2.g, fun j es1 a h1 h2 => ?_⟩
  · rcases get_set e with ⟨rfl, rfl, hl⟩ | ⟨hj, e'⟩
    · rw [List.getElem?_set_self (by rw [E.e.len]; exact hl)]
      exact ⟨q, xs, rfl, hB, upd_same, r⟩
    · rw [List.getElem?_set_ne (Ne.symm hj)]
      exact E2.e.sl j t e'
  · have old : ∀ (m : Nat) (es1 : List Dt), ρ[m]? = some (Sl.o es1) → σ[m]? = some (some (V.ref q)) → False := fun m es1 h1 h2 => by
      obtain ⟨a, xs', e1, _, e3, _⟩ := E.e.sl m _ h1
      rw [h2] at e1
      cases e1
      rw [hq] at e3
      cases e3
    rcases get_set hj with ⟨rfl, e, hl⟩ | ⟨h1, hj'⟩
    · rcases get_set hk with ⟨rfl, e, _⟩ | ⟨h2, hk'⟩
      · exact hjk rfl
      · rw [List.getElem?_set_self (by rw [E.e.len]; exact hl)] at aj
        cases aj
        rw [List.getElem?_set_ne (Ne.symm h2)] at ak
        exact old k es2 hk' ak
    · rcases get_set hk with ⟨rfl, e, hl⟩ | ⟨h2, hk'⟩
      · rw [List.getElem?_set_self (by rw [E.e.len]; exact hl)] at ak
        cases ak
        rw [List.getElem?_set_ne (Ne.symm h1)] at aj
        exact old j es1 hj' aj
      · rw [List.getElem?_set_ne (Ne.symm h1)] at aj
        rw [List.getElem?_set_ne (Ne.symm h2)] at ak
        exact E.e.dj j k es1 es2 a hjk hj' hk' aj ak
  · rcases get_set h1 with ⟨rfl, e, hl⟩ | ⟨hj, h1'⟩
    · rw [List.getElem?_set_self (by rw [E.e.len]; exact hl)] at h2
      cases h2
      exact E.g.h.free hq
    · rw [List.getElem?_set_ne (Ne.symm hj)] at h2
      exact E.own j es1 a h1' h2
theorem js_own (i : Nat) {x : Str} {pos' pl : Pos} (h : JA S es ρ ds) (hl : ds.length ≤ 10000 := by decide) (hx : Lc S i x := by first | exact ⟨rfl, .inl rfl, .inr rfl⟩ | exact ⟨rfl, .inr rfl, .inl rfl⟩) :
    JS S (.Assign [.Name x pos'] (.List es pl) pos) ρ (fun z => z = ρ.set i (.o ds)) R BK CT :=
  js_of (t := tAsg (tLst (wA S es)) (gName i)) (fun X hc => ps_set (by rw [hc.N]; exact hc.nd) (by rw [hc.N]; exact hx.1) (by rw [hc.sc]; exact hx.2.1) (pe_lst (wA_ok hc)) rfl (by rw [hc.fn, hc.sc]; exact hx.2.2)) fun B0 H0 D B σ H E k1 _ _ _ =>
    h B σ H E.e _ fun xs B1 H1 g1 r1 => ⟨szl (by rw [r1.length]; exact hl), fun q hq => k1 B1 _ _ _ rfl g1.b ((E.grow g1).own_new hq r1)⟩
/-- the list at a slot of one's own is changed -/
theorem EnvS.own_upd {C : Addr} {B0 H0 B H : Hp} {σ : L2.St} {ρ : List Sl} {i : Nat} {q : Addr} {xs : List V} {ds' : List Dt} (E : EnvS C B0 H0 B σ H ρ) (hi : ρ[i]? = some (.o ds)) (hq : σ[i]? = some (some (.ref q))) (r : RpAll C B xs ds') :
    EnvS C B0 H0 B σ (upd H q (.lst xs)) (ρ.set i (.o ds')) := by
  obtain ⟨a, ys, e1, hB, hH, _⟩ := E.e.sl i _ hi
  rw [hq] at e1
  cases e1
  have hil : i < ρ.length := (List.getElem?_eq_some_iff.mp hi).1
  have H0q : H0 q = none := E.own i ds q hi hq
  refine ⟨⟨fun a o h => ?_, fun j t e => ?_, fun j k es1 es2 a hjk hj hk aj ak => ?_, by rw [List.length_set, E.e.len]⟩, ⟨E.g.b, fun a o h => ?_, fun a o h => ?_, E.g.fr⟩, fun j es1 a h1 h2 => ?_⟩
  · have : a ≠ q := fun z => by rw [z, hB] at h; cases h
    rw [upd_ne this]
    exact E.e.bh a o h
  · rcases get_set e with ⟨rfl, rfl, hl⟩ | ⟨hj, e'⟩
    · exact ⟨q, xs, hq, hB, upd_same, r⟩
    · have h := E.e.sl j t e'
      cases t with
      | un => trivial
      | v dd => exact h
      | w x => exact h
      | k x P => exact h
      | o es1 =>
        obtain ⟨a, zs, f1, f2, f3, f4⟩ := h
        have : a ≠ q := fun z => E.e.dj j i es1 ds a hj e' hi f1 (by rw [z]; exact hq)
        exact ⟨a, zs, f1, f2, by rw [upd_ne this]; exact f3, f4⟩
  · have look : ∀ (m : Nat) (es : List Dt), (ρ.set i (Sl.o ds'))[m]? = some (Sl.o es) → ∃ es' : List Dt, ρ[m]? = some (Sl.o es') := fun m es h => by
      rcases get_set h with ⟨rfl, _, _⟩ | ⟨_, h'⟩
      · exact ⟨_, hi⟩
      · exact ⟨_, h'⟩
    obtain ⟨f1, hj'⟩ := look j es1 hj
    obtain ⟨f2, hk'⟩ := look k es2 hk
    exact E.e.dj j k f1 f2 a hjk hj' hk' aj ak
  · have : a ≠ q := fun z => by rw [z, H0q] at h; cases h
    rw [upd_ne this]
    exact E.g.h a o h
  · have : a ≠ q := fun z => by rw [z, hB] at h; cases h
    rw [upd_ne this]
    exact E.g.bh a o h
  · rcases get_set h1 with ⟨rfl, _, _⟩ | ⟨_, h1'⟩
    · rw [hq] at h2
      cases h2
      exact H0q
    · exact E.own j es1 a h1' h2
theorem js_app (i : Nat) {x : Str} {p1 apos cpos : Pos} (hi : ρ[i]? = some (.o l)) (h : JE S e ρ d) (hl : l.length ≤ 10000) (hN : S.N[i]? = some x := by rfl) (hv : Vis S.sc x := by first | exact Or.inl rfl | exact Or.inr (Or.inl rfl) | exact Or.inr (Or.inr rfl))
    (hd : (x == ("__debug__" : Str)) = false := by decide) (hcd : (x == ("__classdict__" : Str)) = false := by decide) (hline : (apos.endLine == cpos.line) = true := by rfl) (hs : ∀ env, starEach [e] env = (false, eval e env) :: starEach [] env := by intro _; rfl) :
    JS S (.Expr (.Call (.Attribute (.Name x p1) ("append" : Str) apos) [e] [] cpos) pos) ρ (fun z => z = ρ.set i (.o (l ++ [d]))) R BK CT :=
  js_of (t := tDrop (tBM S.K "list" rAppend (tVar i) (wA S [e]))) (fun X hc => ps_expr (by
      have := pe_bm (X := X) (cpos := cpos) (apos := apos) PySem.F.plainAttrs_list PySem.F.slot_list_append PySem.F.type_list_append mt_append (pe_var (i := i) (pos := p1) (by rw [hc.N]; exact hN) (by rw [hc.sc]; exact hv) hd hcd) (wA_ok (es := [e]) hc) rfl (by rw [hs]; rfl) hline (hs _) rfl
      rw [hc.K] at this
      exact this) rfl) fun B0 H0 D B σ H E k1 _ _ _ => by
    obtain ⟨q, xs, e1, e2, e3, e4⟩ := E.e.sl i _ hi
    refine ⟨.ref q, e1, .inl ⟨rfl, _, SqL.of e3⟩, ja1 h hs B σ H E.e _ fun vs B1 H1 g1 r1 => ?_⟩
    obtain ⟨v, rfl, rv⟩ := rp1 r1
    have e5 := g1.h _ _ e3
    refine ⟨q, xs, v, rfl, rfl, e5, by rw [e4.length, sizeLine_eq]; omega, k1 B1 σ _ _ rfl g1.b ((E.grow g1).own_upd hi e1 ((e4.mono g1.b).append (.cons rv .nil)))⟩
/-- one's own list, given out -/
theorem EnvS.freeze {C : Addr} {B0 H0 B H : Hp} {σ : L2.St} {ρ : List Sl} {i : Nat} (E : EnvS C B0 H0 B σ H ρ) (hi : ρ[i]? = some (.o ds)) : ∃ B', Same B B' ∧ EnvS C B0 H0 B' σ H (ρ.set i (.v (.lst ds))) := by
  obtain ⟨q, xs, e1, hB, hH, r⟩ := E.e.sl i _ hi
  have H0q : H0 q = none := E.own i ds q hi e1
  have sB : Same B (upd B q (.lst xs)) := same_new hB
  refine ⟨upd B q (.lst xs), sB, ⟨fun a o h => ?_, fun j t e => ?_, fun j k es1 es2 a hjk hj hk aj ak => ?_, by rw [List.length_set, E.e.len]⟩, ⟨E.g.b.trans sB, E.g.h, fun a o h => ?_, fun a h1 h2 => ?_⟩, fun j es1 a h1 h2 => ?_⟩
  · by_cases ha : a = q
    · subst ha
      rw [upd_same] at h
      rw [hH]; exact h
    · rw [upd_ne ha] at h
      exact E.e.bh a o h
  · rcases get_set e with ⟨rfl, rfl, hl⟩ | ⟨hj, e'⟩
    · exact ⟨.ref q, e1, .lst upd_same (r.mono sB)⟩
    · have h := E.e.sl j t e'
      cases t with
      | un => trivial
      | v dd => obtain ⟨x, f1, f2⟩ := h; exact ⟨x, f1, f2.mono sB⟩
      | w x => exact h
      | k x P => exact ⟨h.1, fun H2 e2 => h.2 H2 (sB.trans e2)⟩
      | o es1 =>
        obtain ⟨a, zs, f1, f2, f3, f4⟩ := h
        have : a ≠ q := fun z => E.e.dj j i es1 ds a hj e' hi f1 (by rw [z]; exact e1)
        exact ⟨a, zs, f1, by rw [upd_ne this]; exact f2, f3, f4.mono sB⟩
  · rcases get_set hj with ⟨_, e, _⟩ | ⟨_, hj'⟩
    · cases e
    · rcases get_set hk with ⟨_, e, _⟩ | ⟨_, hk'⟩
      · cases e
      · exact E.e.dj j k es1 es2 a hjk hj' hk' aj ak
  · by_cases ha : a = q
    · subst ha
      rw [upd_same] at h
      rw [hH]; exact h
    · rw [upd_ne ha] at h
      exact E.e.bh a o h
  · have ha : a ≠ q := fun z => h1 (by rw [z]; exact H0q)
    rw [upd_ne ha]
    exact E.g.fr a h1 h2
  · rcases get_set h1 with ⟨_, e, _⟩ | ⟨_, h1'⟩
    · cases e
    · exact E.own j es1 a h1' h2
theorem jb_freeze (i : Nat) {st : List Stmt} (hi : ρ[i]? = some (.o ds)) (h : JB S st (ρ.set i (.v (.lst ds))) N R BK CT) : JB S st ρ N R BK CT := fun B0 H0 D B σ H E k1 k2 k3 k4 => by
  obtain ⟨B', sB, E'⟩ := E.freeze hi
  exact h B0 H0 D B' σ H E' (fun B2 σ2 H2 ρ2 n2 e2 E2 => k1 B2 σ2 H2 ρ2 n2 (sB.trans e2) E2) k2 (fun B2 σ2 H2 ρ2 n2 e2 E2 => k3 B2 σ2 H2 ρ2 n2 (sB.trans e2) E2) (fun B2 σ2 H2 ρ2 n2 e2 E2 => k4 B2 σ2 H2 ρ2 n2 (sB.trans e2) E2)
/-- len of one's own list -/
theorem je_lenO (i : Nat) {x : Str} {px : Pos} (hm : S.mg "len" = none) (hi : ρ[i]? = some (.o l)) (hN : S.N[i]? = some x := by rfl) (hv : Vis S.sc x := by first | exact Or.inl rfl | exact Or.inr (Or.inl rfl) | exact Or.inr (Or.inr rfl))
    (hg : S.sc.names.lookup ("len" : Str) = some .globalImplicit := by rfl) (hd : (x == ("__debug__" : Str)) = false := by decide) (hcd : (x == ("__classdict__" : Str)) = false := by decide) : JE S (.Call (.Name "len" p) [.Name x px] [] pos) ρ (.n l.length) :=
  je_of (t := tCB (fun xs H Q => ∃ p ys, xs = [.ref p] ∧ (SqL S.K H p ys ∨ SqT S.K H p ys) ∧ Q (.int ys.length) H) (tCons (tVar i) tNil))
    (fun X hc => by
      have h0 := call_len_seq (X := X)
      rw [hc.K] at h0
      exact pe_callB h0 (show X.env.scope.names.lookup ("len" : Str) = _ by rw [hc.sc]; exact hg) (by rw [hc.mg]; exact hm) PySem.boot_len (pa_cons (pe_var (i := i) (by rw [hc.N]; exact hN) (by rw [hc.sc]; exact hv) hd hcd) pa_nil)) fun B σ H E Q k => by
    obtain ⟨q, xs, e1, e2, e3, e4⟩ := E.sl i _ hi
    exact ⟨.ref q, e1, q, xs, rfl, .inl (SqL.of e3), by rw [e4.length]; exact k _ B H (Gr.refl E.bh) (.int _)⟩
/-- an item of one's own list -/
theorem je_ixO (i : Nat) {x : Str} {px : Pos} {k : Nat} (hi : ρ[i]? = some (.o l)) (hb : JE S e2 ρ (.n k)) (hk : l[k]? = some d) (hN : S.N[i]? = some x := by rfl) (hv : Vis S.sc x := by first | exact Or.inl rfl | exact Or.inr (Or.inl rfl) | exact Or.inr (Or.inr rfl))
    (hs : PlainIx e2 := by intro _ _; rfl) (hd : (x == ("__debug__" : Str)) = false := by decide) (hcd : (x == ("__classdict__" : Str)) = false := by decide) : JE S (.Subscript (.Name x px) e2 pos) ρ d :=
  je_of (t := tOp (rIxL S.K) (tVar i) (wE S e2)) (fun X h => by have := pe_ix (X := X) (pos := pos) (hr := ix_list) (pe_var (i := i) (x := x) (pos := px) (by rw [h.N]; exact hN) (by rw [h.sc]; exact hv) hd hcd) (wE_ok (e := e2) h) hs; rw [h.K] at this; exact this) fun B σ H E Q q => by
    obtain ⟨a, xs, e1, e2, e3, e4⟩ := E.sl i _ hi
    refine ⟨.ref a, e1, hb B σ H E _ fun v B1 H1 g1 r1 => ?_⟩
    cases r1
    obtain ⟨w, e, r⟩ := e4.get hk
    exact ⟨a, xs, _, w, rfl, rfl, SqL.of (g1.h _ _ e3), atI_nat e, q _ B1 H1 g1 (r.mono g1.b)⟩
/-- the last item of one's own list -/
theorem je_lastO (i : Nat) {x : Str} {px : Pos} {l0 : List Dt} (hi : ρ[i]? = some (.o (l0 ++ [d]))) (hb : JE S e2 ρ (.int (-1))) (hN : S.N[i]? = some x := by rfl) (hv : Vis S.sc x := by first | exact Or.inl rfl | exact Or.inr (Or.inl rfl) | exact Or.inr (Or.inr rfl))
    (hs : PlainIx e2 := by intro _ _; rfl) (hd : (x == ("__debug__" : Str)) = false := by decide) (hcd : (x == ("__classdict__" : Str)) = false := by decide) : JE S (.Subscript (.Name x px) e2 pos) ρ d :=
  je_of (t := tOp (rIxL S.K) (tVar i) (wE S e2)) (fun X h => by have := pe_ix (X := X) (pos := pos) (hr := ix_list) (pe_var (i := i) (x := x) (pos := px) (by rw [h.N]; exact hN) (by rw [h.sc]; exact hv) hd hcd) (wE_ok (e := e2) h) hs; rw [h.K] at this; exact this) fun B σ H E Q q => by
    obtain ⟨a, xs, e1, e2, e3, e4⟩ := E.sl i _ hi
    refine ⟨.ref a, e1, hb B σ H E _ fun v B1 H1 g1 r1 => ?_⟩
    cases r1
    have hlen := e4.length
    obtain ⟨w, e, r⟩ := e4.get (i := l0.length) (d := d) (by simp)
    have hxs : xs = xs.take l0.length ++ [w] := by
      have h1 : xs.length = l0.length + 1 := by rw [hlen]; simp
      apply List.ext_getElem?
      intro j
      by_cases hj : j < l0.length
      · rw [List.getElem?_append_left (by rw [List.length_take]; omega), List.getElem?_take_of_lt hj]
      · by_cases hj2 : j = l0.length
        · subst hj2
          have h3 : (xs.take l0.length).length = l0.length := by rw [List.length_take]; omega
          rw [List.getElem?_append_right (by omega), h3, Nat.sub_self, e]
          rfl
        · rw [List.getElem?_eq_none (by omega), List.getElem?_eq_none (by rw [List.length_append, List.length_take]; simp; omega)]
    refine ⟨a, xs, -1, w, rfl, rfl, SqL.of (g1.h _ _ e3), ?_, q _ B1 H1 g1 (r.mono g1.b)⟩
    rw [hxs]
    exact atI_last _ w
/-- an int in one's own list of ints -/
theorem je_inO (i : Nat) {x : Str} {px : Pos} {k : Nat} {xs : List Nat} (hi : ρ[i]? = some (.o (xs.map Dt.n))) (ha : JE S e1 ρ (.n k)) (hN : S.N[i]? = some x := by rfl) (hv : Vis S.sc x := by first | exact Or.inl rfl | exact Or.inr (Or.inl rfl) | exact Or.inr (Or.inr rfl))
    (hd : (x == ("__debug__" : Str)) = false := by decide) (hcd : (x == ("__classdict__" : Str)) = false := by decide) : JT S (.Compare e1 [.In] [.Name x px] pos) ρ (decide (k ∈ xs)) :=
  jt_of (t := tTest (tOp (rIn S.K false) (wE S e1) (tVar i))) (fun X h => by
    have h0 := op_in_seq (X := X)
    rw [h.K] at h0
    exact pt_cmpR h0 (wE_ok h) (pe_var (i := i) (by rw [h.N]; exact hN) (by rw [h.sc]; exact hv) hd hcd) rfl) fun B σ H E Q q => ha B σ H E _ fun v B1 H1 g1 r1 => by
    cases r1
    obtain ⟨a, vs, e1, e2, e3, e4⟩ := E.sl i _ hi
    rw [e4.nats] at e3
    refine ⟨.ref a, e1, a, _, rfl, .inl (SqL.of (g1.h _ _ e3)), rfl, flat_ints _, decide (k ∈ xs), ?_, q B1 H1 g1⟩
    show V.bl (inV (.int (k : Int)) _) = _
    rw [inV_ints, mem_nats]

/-! ### defs and their promises -/
def spD (C : Addr) (Rel : List Dt → Dt → Prop) : Sp := fun vs H Q _ => ∃ B ds d, Same B H ∧ RpAll C B vs ds ∧ Rel ds d ∧ ∀ x B' H', Gr B H B' H' → Rp C B' x d → Q x H'
structure Callee (G : Gx) (x : Str) (k : Nat) (ps : List Str) (Rel : List Dt → Dt → Prop) : Prop where
  ex : ∃ f fd, FnOk G.P G.w G.K G.mg G.base CX0 k f fd ps (spD G.C Rel) ∧ G.mg x = some (.ref f) ∧ PySem.W.keepIn G.K (.ref f) = true ∧ Binds G.K fd ps []
structure DefAt (G : Gx) (x qual : Str) (st : Stmt) : Prop where
  ex : ∃ f fd, Fun G.K x qual st f fd ∧ G.mg x = some (.ref f)
abbrev scD (G : Gx) (st : Stmt) (N : List Str) (k : Nat) : SC := { toGx := G, N := N, sc := defScope st, fn := fun _ => true, k := k }
def rho0 (N : List Str) (ds : List Dt) : List Sl := ds.map Sl.v ++ List.replicate (N.length - ds.length) .un
theorem getElem?_start {N : List Str} {vs : List V} {i : Nat} : (L2.start N vs)[i]? = if i < vs.length then (vs[i]?).map some else if i < N.length then some none else none := by
  unfold L2.start
  by_cases h : i < vs.length
  · rw [if_pos h, List.getElem?_append_left (by simpa using h), List.getElem?_map]
  · rw [if_neg h, List.getElem?_append_right (by simpa using Nat.le_of_not_lt h), List.getElem?_replicate]
    simp only [List.length_map]
    by_cases h2 : i < N.length
    · rw [if_pos h2, if_pos (by omega)]
    · rw [if_neg h2, if_neg (by omega)]
theorem env_start {C : Addr} {B H : Hp} {N : List Str} {vs : List V} {ds : List Dt} (bh : Same B H) (r : RpAll C B vs ds) (hl : ds.length ≤ N.length) : EnvS C B H B (L2.start N vs) H (rho0 N ds) := by
  have hlen := r.length
  have look : ∀ (i : Nat) (s : Sl), (rho0 N ds)[i]? = some s → s = Sl.un ∨ ∃ d, s = Sl.v d ∧ ds[i]? = some d := fun i s h => by
    unfold rho0 at h
    by_cases hi : i < ds.length
    · rw [List.getElem?_append_left (by simpa using hi), List.getElem?_map] at h
      cases e : ds[i]? with
      | none => rw [e] at h; cases h
      | some d => rw [e] at h; cases h; exact .inr ⟨d, rfl, rfl⟩
    · rw [List.getElem?_append_right (by simpa using Nat.le_of_not_lt hi), List.getElem?_replicate] at h
      split at h
      · cases h; exact .inl rfl
      · cases h
  refine ⟨⟨bh, fun i s h => ?_, fun i j es1 es2 a _ h1 _ _ _ => ?_, ?_⟩, Gr.refl bh, fun i es1 a h1 _ => ?_⟩
  · rcases look i s h with rfl | ⟨d, rfl, e⟩
    · trivial
    · obtain ⟨v, e2, rv⟩ := r.get e
      refine ⟨v, ?_, rv⟩
      rw [getElem?_start, if_pos ((List.getElem?_eq_some_iff.mp e2).1), e2]
      rfl
  · rcases look i _ h1 with z | ⟨d, z, _⟩ <;> cases z
  · unfold L2.start rho0
    rw [List.length_append, List.length_append, List.length_map, List.length_map, List.length_replicate, List.length_replicate, hlen]
  · rcases look i _ h1 with z | ⟨d, z, _⟩ <;> cases z
/-- THE RULE: a def keeps its promise -/
theorem fn_D {G : Gx} {x qual : Str} {st : Stmt} {f : Addr} {fd : FuncData} {Ns ps : List Str} {k : Nat} {Rel : List Dt → Dt → Prop} (F : Fun G.K x qual st f fd) (Sc : FnScope Ns ps (defScope st)) (hlen : ∀ ds d, Rel ds d → ds.length = ps.length)
    (body : ∀ ds d, Rel ds d → JB (scD G st Ns k) (defBody st) (rho0 Ns ds) (fun _ => d = .non) (fun z => z = d) (fun _ => False) (fun _ => False)) : FnOk G.P G.w G.K G.mg G.base CX0 (k + 1) f fd ps (spD G.C Rel) := by
  refine F.ok Sc (fun vs H Q E ⟨B, ds, d, _, r, rel, _⟩ => r.length.trans (hlen ds d rel)) (fun cdv A outer s H vs Q E hr ⟨B, ds, d, bh, r, rel, q⟩ => ?_)
  have hpl : ps.length ≤ Ns.length := by have := congrArg List.length Sc.pre; rw [List.length_take] at this; omega
  refine ⟨wB (scD G st Ns k) (defBody st), wB_ok ⟨rfl, rfl, rfl, rfl, rfl, rfl, rfl, rfl, rfl, Sc.nd, hr, rfl⟩, ?_⟩
  refine body ds d rel B H _ B _ H (env_start bh r (by rw [hlen ds d rel]; exact hpl)) (fun B' σ' H' ρ' hn _ E' => ?_) (fun y B' H' d' hd g r' => ?_) (fun _ _ _ _ h => h.elim) (fun _ _ _ _ h => h.elim)
  · subst hn
    exact q .non B' H' E'.g .non
  · subst hd
    exact q y B' H' g r'
theorem callee_of {G : Gx} {x : Str} {st : Stmt} {Ns ps : List Str} {k : Nat} {Rel : List Dt → Dt → Prop} (D : DefAt G x x st) (Sc : FnScope Ns ps (defScope st)) (hb : ∀ (kV doc pm : Value) (an : Option Addr) (cdv ct : Value) (us : List Value), us.length = ps.length → bindArgs (PySem.W.fnOf x x (defArgs st) (defBody st) (defScope st) .none kV doc pm an cdv ct) ⟨us, []⟩ = pure (ps.zip us))
    (hlen : ∀ ds d, Rel ds d → ds.length = ps.length)
    (body : ∀ ds d, Rel ds d → JB (scD G st Ns k) (defBody st) (rho0 Ns ds) (fun _ => d = .non) (fun z => z = d) (fun _ => False) (fun _ => False)) : Callee G x (k + 1) ps Rel := by
  obtain ⟨f, fd, F, hm⟩ := D.ex
  exact ⟨f, fd, fn_D F Sc hlen body, hm, F.kp, F.binds hb⟩
/-- f(e, ..) -/
theorem je_call {x : Str} {k : Nat} {ps : List Str} {Rel : List Dt → Dt → Prop} (c : Callee S.toGx x k ps Rel) (ha : JA S (e :: es) ρ ds) (hr : Rel ds d) (hk : k ≤ S.k := by exact Nat.le_of_ble_eq_true rfl) (hg : S.sc.names.lookup x = some .globalImplicit := by rfl) (hdb : (x == ("__debug__" : Str)) = false := by decide)
    (he : ∀ env, starEach (e :: es) env = (false, eval e env) :: starEach es env := by intro _; rfl) (hpl : ∀ env, (backTo pos (starEach es env)).any (·.1) = false := by intro _; rfl) : JE S (.Call (.Name x p) (e :: es) [] pos) ρ d := by
  obtain ⟨f, fd, F, hm, hkp, hb⟩ := c.ex
  refine je_of (t := tCall (spD S.C Rel) [] E0 (wA S (e :: es))) (fun X h => ?_) fun B σ H E Q q => ha B σ H E _ fun vs B1 H1 g1 r1 => ?_
  · have F' : FnOk X.prog X.w X.K X.mg X.base CX0 k f fd ps (spD S.C Rel) := by rw [h.prog, h.w, h.K, h.mg, h.base]; exact F
    exact pe_call F' (h.room.mono hk) (show X.env.scope.names.lookup x = _ by rw [h.sc]; exact hg) (by rw [h.mg]; exact hm) (by rw [h.K]; exact hkp) (by rw [h.K]; exact hb) .nil pass0 (wA_ok h) hdb (he _) (hpl _)
  · rw [List.append_nil]
    exact ⟨B1, ds, d, g1.bh, r1, hr, fun y B' H' g r => q y B' H' (g1.trans g) r⟩
end
end My

/-! # Lib1 -/
/-! sorted(t), t a tuple of ints: its items are gathered into a new list, which is put in order -/
namespace MyS
open PySem PyProof.Rows Srt SrtO
abbrev bareList : Obj := seqObj "list" #[] 0
/-- the heap behind the gathering of us -/
abbrev heapG (hp : Heap) (us : List Value) : Heap := (hp.push bareList).update hp.objs.size (Obj.mapSeq (· ++ us.toArray))
abbrev heapGL (hp : Heap) (us : List Value) : Heap := (heapG hp us).push (seqObj "list" us.toArray 0)
open PyProof.Rows Srt SrtO
section
variable {pr : Program} {wd : World} {Ar : Around} {Ex : Value → Shared → Prop} {st : Shared} {tp : Addr} {us : List Value}
theorem gather {Go : List Value → Shared → Prop} (isT : IsTup st.heap tp us.toArray) (fits : us.length ≤ sizeLine) (go : Go us { st with heap := heapG st.heap us }) : wpAny (model pr wd) Ar (collect (.ref tp)) Go Ex st := by
  obtain ⟨ob, obAt, obC, cnt, obD⟩ := isT
  have obAt' : (st.heap.push bareList).get? tp = some ob := Heap.get?_push_of_some _ obAt
  have newAt : (st.heap.push bareList).get? st.heap.objs.size = some bareList := Heap.get?_push_size _ rfl
  have room : ((#[] : Array Value) ++ us.toArray).size ≤ sizeLine + 1 := by
    rw [Array.size_append, List.size_toArray]
    exact Nat.le_trans (by simp) (Nat.le_succ_of_le fits)
  unfold collect
  refine wpAny_bind (wpAny_runValue (codeAny_builtin entry_proto_collect' (?_ : wpAny _ _ (do again (.builtin "list.__iadd__" ⟨[← newList [], .ref tp], []⟩)) _ _ st)))
  refine wpAny_bind (wpAny_newList (wpAny_pure ⟨Code.quiet_builtin _ (by decide +kernel), codeAny_builtin entry_list_iadd' (?_ : wpAny _ _ (Builtin.List.listExtendWith (.ref st.heap.objs.size) (.ref tp) (.ref st.heap.objs.size)) _ _ { st with heap := st.heap.push bareList })⟩))
  unfold Builtin.List.listExtendWith
  refine wpAny_bind (wpAny_typeOf (T := "tuple") ⟨ob, obAt', obC⟩ ?_)
  rw [if_pos (by rw [show (Value.type "tuple" == Value.type "tuple") = true from rfl]; simp)]
  refine wpAny_bind (listItems_at obAt' obD (wpAny_bind (listItems_at newAt rfl ?_)))
  rw [if_neg (by simp)]
  refine wpAny_bind (listUpdate_at newAt rfl (wpAny_pure ?_) (Nat.zero_le _) room)
  refine wpAny_bind (wpAny_load (get?_update_seq newAt _) (?_ : wpAny _ _ (pure ((#[] : Array Value) ++ us.toArray).toList) Go Ex _))
  rw [show ((#[] : Array Value) ++ us.toArray).toList = us by simp]
  exact wpAny_pure go
/-- sorted(t), the items of t ints -/
theorem sorted_tup {ns : List Int} {Go : Value → Shared → Prop} (isT : IsTup st.heap tp us.toArray) (allInts : IntsAre us ns) (fits : us.length ≤ sizeLine)
    (go : ∀ out : List Value, Srtd ltIv out → Stb ltIv out us → Go (.ref (st.heap.objs.size + 1)) { st with heap := sortedAll st.heap us out.toArray }) : wpAny (model pr wd) Ar (call (.builtin "sorted") [.ref tp]) Go Ex st := by
  have count : (heapG st.heap us).objs.size = st.heap.objs.size + 1 := (Heap.size_update ..).trans (size_push' ..)
  have copyAt : (heapGL st.heap us).get? (st.heap.objs.size + 1) = some (seqObj "list" us.toArray 0) := count ▸ Heap.get?_push_size (heapG st.heap us) rfl
  refine Calls.call_function_entry kind_sorted plain_sorted entry_sorted (args_sorted1 (.ref tp)) ?_
  unfold Builtin.«sorted»
  refine wpAny_bind (m := checkCount "sorted" 1 1 _) (wpAny_pure (wpAny_bind (gather isT fits (wpAny_bind (wpAny_newList (?_ : wpAny _ _ _ _ _ { st with heap := heapGL st.heap us }) fits)))))
  rw [count]
  exact wpAny_bind (wpAny_holding (wpAny_call_entry slot_list_sort ⟨_, copyAt, rfl⟩ entry_list_sort (list_sort_ord swo_int copyAt fits (fun two => ints_sortable allInts two) fun out up sb => ⟨_, rfl, wpAny_pure ⟨_, rfl, go out up sb⟩⟩) (args_list_sort _)))
end
end MyS
namespace MyS
open PySem L2
def rSortedT (K : PySem.W.Frag) : List V → Hp → VK → Prop := fun args hp Go => ∃ (tp : Addr) (ns : List Int), args = [V.ref tp] ∧ SqT K hp tp (ns.map V.int) ∧ ∀ (up : List Int) (ad : Addr), up.Perm ns → up.Pairwise (· ≤ ·) → hp ad = none → Go (.ref ad) (upd hp ad (.lst (up.map V.int)))
theorem cr_sortedT {X : Cx} : CallR X (.builtin "sorted") (rSortedT X.K) := fun pins st σ hp args us Go Iv rel ⟨tp, ns, ea, isT, go⟩ => by
  subst ea
  obtain ⟨its, items, tup, small⟩ := Iv.tuple isT
  rw [Vals.ref1 rel]
  refine sorted_tup tup items.ints (items.length ▸ small) fun out o1 o2 => ?_
  obtain ⟨q1, q2, q3⟩ := SrtO.ints_out items.ints o1 o2
  obtain ⟨ep, at_⟩ := PyProof.Rows.sortedAll_at st.heap its out.toArray
  have room : ((out.map SrtO.iv).map V.int).length ≤ sizeLine := by
    have := q2.length_eq
    rw [List.length_map] at small
    rw [List.length_map, this]
    exact small
  exact ⟨.ref _, upd hp _ (.lst ((out.map SrtO.iv).map V.int)), Iv.laid (t' := st.toks) (fun _ _ => PyProof.Rows.sortedAll_old) (Nat.le_succ _) ⟨room, out, ep, vals_of_ints q1, at_⟩, rfl, go _ _ q2 q3 (Iv.hok.fresh (Nat.le_succ _))⟩
end MyS

/-! # Lib2 -/
/-! enumerate(t), t a tuple, as what a for walks over -/
namespace MyE
open PySem PyProof.Rows
/-- the enumerate object over the iterator at p -/
abbrev enumObj (p : Addr) : Obj := { cls := .type "enumerate", data := .fields #[.none, .bool false, .ref p, rawInt 0, .none, .none] }
theorem enum_made {v : Value} {itr : Obj} {Cond : Heap → Prop} (B : Begins v itr Cond) :
    Meets (Builtin.«enumerate.__new__» ⟨[.type "enumerate", v], []⟩) (fun _ Rs st => Cond st.heap ∧ Rs (.ok (.ret (.ref (st.heap.push itr).objs.size))) { st with heap := (st.heap.push itr).push (enumObj st.heap.objs.size) }) :=
  .of_wp fun pr wd Ar Rs st ⟨cond, go⟩ => by
    cases st with
    | mk hp gn dr tk os =>
      have under := PySem.sub_enumerate
      have begun : ∀ {Ar' : Around} {Ex Go : Value → Shared → Prop}, Go (.ref hp.objs.size) ⟨hp.push itr, gn, dr, tk, os⟩ → wpAny (model pr wd) Ar' (pyIter v) Go Ex ⟨hp, gn, dr, tk, os⟩ := fun go' => B.iter pr wd _ _ ⟨hp, gn, dr, tk, os⟩ _ cond go'
      wp_walk using begun
      refine wpAny_stack_any fun _ => wpAny_pure ?_
      split
      · rename_i cl _ _ _ _ _
        cases (cl == Value.type "enumerate") <;> (wp_walk using begun; exact ⟨_, rfl, go⟩)
      · wp_walk using begun
        exact ⟨_, rfl, go⟩
theorem enum_called {pr : Program} {wd : World} {Ar : Around} {Ex Go : Value → Shared → Prop} {st : Shared} {v : Value} {itr : Obj} {Cond : Heap → Prop} (B : Begins v itr Cond) (cond : Cond st.heap)
    (go : ∀ hp2, IsEnum hp2 (st.heap.objs.size + 1) st.heap.objs.size 0 .none → hp2.get? st.heap.objs.size = some itr → (∀ b ob, st.heap.get? b = some ob → hp2.get? b = some ob) → Go (.ref (st.heap.objs.size + 1)) { st with heap := hp2 }) :
    wpAny (model pr wd) Ar (call (.type "enumerate") [v]) Go Ex st := by
  have count : (st.heap.push itr).objs.size = st.heap.objs.size + 1 := Heap.size_push ..
  have at1 : IsEnum ((st.heap.push itr).push (enumObj st.heap.objs.size)) (st.heap.objs.size + 1) st.heap.objs.size 0 .none := count ▸ Heap.get?_push_size (st.heap.push itr) (o := enumObj st.heap.objs.size) rfl
  have at0 : ((st.heap.push itr).push (enumObj st.heap.objs.size)).get? st.heap.objs.size = some itr := Heap.get?_push_of_some _ (Heap.get?_push_size _ B.free)
  refine callType_new F.called_enumerate (by decide) (F.typeCall_enumerate_1 v) (F.newCall_enumerate_1 v) (fun ob => F.args_object_init_2 ob v) F.entry_enumerate_new (enum_made B) ⟨cond, (?_ : _ ∧ _)⟩
  rw [count]
  exact ⟨⟨_, at1, rfl⟩, go _ at1 at0 fun b ob m => Heap.get?_push_of_some _ (Heap.get?_push_of_some _ m)⟩
end MyE
namespace L2
open PySem PyProof.Rows PySem.Spec
def IteT (K : PySem.W.Frag) (a : Addr) : It :=
  ⟨fun i H => ∃ (xs : List V) (x : V), SqT K H a xs ∧ xs[i]? = some x, fun i H v H' => ∃ T x, v = .ref T ∧ H T = none ∧ H' = upd H T (.tup [.int (i : Nat), x]) ∧ ∀ xs, SqT K H a xs → xs[i]? = some x, fun i H => ∃ xs : List V, SqT K H a xs ∧ xs.length ≤ i⟩
/-- the state of the walk before the turn i: the enumerate at en, over the tuple's iterator at ti -/
structure EnumSt (tp en ti : Addr) (i : Nat) (hp : Heap) : Prop where
  obj : ∃ last, IsEnum hp en ti ((i : Nat) : Int) last
  itr : hp.IsTupleIter ti tp i
  ne : en ≠ ti
  tt : tp ≠ ti
  te : tp ≠ en
theorem turn_enumT {P : Program} {w : World} {K : PySem.W.Frag} {elts : List Expr} {kk : Nat} {tpos : Pos} (tp en ti : Addr) : Turn P w K (.Tuple elts kk tpos) (IteT K tp) [en, ti] en (EnumSt tp en ti) where
  mem := List.mem_cons_self ..
  obj i hp S b hb := by
    rcases List.mem_cons.mp hb with rfl | hb
    · exact ⟨_, S.obj.choose_spec, fun _ z => nomatch z⟩
    · rw [List.mem_singleton.mp hb]
      obtain ⟨ob, obAt, _, dat⟩ := S.itr
      exact ⟨ob, obAt, fun _ z => by rw [dat] at z; cases z⟩
  keep i hp hp2 S same := ⟨⟨S.obj.choose, same en (by simp) _ S.obj.choose_spec⟩, S.itr.at fun ob m => same ti (by simp) ob m, S.ne, S.tt, S.te⟩
  item := by
    intro X eP ew eK calm i pins st σ H E Iv fpk S more
    subst eP ew eK
    obtain ⟨xs, x, isT, atI⟩ := more
    obtain ⟨last, enAt⟩ := S.obj
    obtain ⟨its, items, tup, _⟩ := Iv.tuple isT
    obtain ⟨u, uAt, ru⟩ := items.get atI
    have uAt' : its.toArray[i]? = some u := by simpa using uAt
    have lenE : en < st.heap.objs.size := Heap.lt_size enAt
    have lenI : ti < st.heap.objs.size := let ⟨_, m, _⟩ := S.itr; Heap.lt_size m
    have inside : i < its.toArray.size := (Array.getElem?_eq_some_iff.mp uAt').1
    refine wpAny_pyNext_enum_itemD (Draws.tuple (A := X.A.in1) (Iv.ok.hd calm) ti tp S.tt its.toArray) enAt ⟨S.itr, tup⟩ inside S.ne (by simp [S.ne, Ne.symm S.te, S.te]) fun u2 hp2 tk u2At enAt2 itr2 pairAt _ same => ?_
    obtain rfl : u2 = u := Option.some.inj (u2At.symm.trans uAt')
    refine ⟨_, rfl, wpAny_letOwnedTupleGo_enum (s := { st with heap := hp2, toks := tk + 1 }) enAt2 fun hp3 enAt3 only => ?_⟩
    have pairAt3 : hp3.get? st.heap.objs.size = some { cls := .type "tuple", data := .seq #[.int i tk, u2] } := (only.2 _ (Nat.ne_of_gt lenE)).trans pairAt
    have pairOk : ObjOk X.prog X.w (upd H st.heap.objs.size (.tup [.int (i : Nat), x])) hp3 st.heap.objs.size (.tup [.int (i : Nat), x]) := ⟨show 2 ≤ sizeLine by decide, [.int i tk, u2], .cons ⟨_, rfl⟩ (.cons ru .nil), ⟨_, pairAt3, rfl, _, rfl⟩⟩
    have others : ∀ b ob, b ∉ [en, ti] → st.heap.get? b = some ob → hp3.get? b = some ob := fun b ob m q => (only.2 b fun z => m (by simp [z])).trans (same b ob (fun z => m (by simp [z])) (fun z => m (by simp [z])) q)
    have Iv3 := Iv.turnedNew (ch := [en, ti]) (t' := tk + 1) others fpk (Nat.le_refl _) pairOk
    have next : ((i + 1 : Nat) : Int) = (i : Int) + 1 := by omega
    refine ⟨.ref st.heap.objs.size, _, Iv3, rfl, ⟨_, x, rfl, Iv.hok.fresh (Nat.le_refl _), rfl, fun ys isT2 => Iv.tuple_inj isT2 isT ▸ atI⟩, ⟨⟨u2, next ▸ enAt3⟩, itr2.1.at fun ob m => (only.2 ti (Ne.symm S.ne)).trans m, S.ne, S.tt, S.te⟩, fun b m => ?_⟩
    have low : b < st.heap.objs.size := by
      rcases List.mem_cons.mp m with rfl | m
      · exact lenE
      · exact List.mem_singleton.mp m ▸ lenI
    exact (upd_ne (Nat.ne_of_lt low)).trans (fpk b m).1
  done := by
    intro X eP ew eK calm i pins st σ H E Iv fpk S over
    subst eP ew eK
    obtain ⟨xs, isT, all⟩ := over
    obtain ⟨last, enAt⟩ := S.obj
    obtain ⟨its, items, tup, _⟩ := Iv.tuple isT
    obtain ⟨k0, k1, k2, k3, k4, k5⟩ := fpk ti (by simp)
    have count : its.toArray.size ≤ i := by
      have := items.length
      rw [List.size_toArray]
      omega
    refine wpAny_pyNext_enum_endD (P := fun _ _ => False) (St := fun _ hp => hp.IsTupleIter ti tp i ∧ hp.IsTuple tp its.toArray) (n := 0) (fp := [ti, tp]) ⟨fun _ _ q => let ⟨ob, m, _⟩ := q.1; ⟨ob, m⟩, fun _ _ _ q same => ⟨q.1.at fun ob m => same ti (by simp) ob m, q.2.at fun ob m => same tp (by simp) ob m⟩, fun _ _ _ _ z => (Nat.not_lt_zero _ z).elim, fun _ _ _ q hE => wpAny_nextOf_tuple_end (Iv.ok.hd calm) q.1 q.2 (Array.getElem?_eq_none count) hE⟩ enAt ⟨S.itr, tup⟩ fun hp2 but => ⟨rfl, Iv.turned (t' := st.toks) (fun b ob m q => but b ob m q) k0 k1 k3 k4 k5⟩
  self _ _ _ _ _ S go := let ⟨_, m⟩ := S.obj; wpAny_pyIter_enum m go
def iEnumT (K : PySem.W.Frag) (ta : TA) : TI := fun σ H R => ta σ H fun vs H1 => ∃ a xs, vs = [.ref a] ∧ SqT K H1 a xs ∧ R (IteT K a) H1
theorem pi_enumT {X : Cx} {e : Expr} {ta : TA} {p pos tpos : Pos} {elts : List Expr} {kk : Nat} (hg : Gl X "enumerate") (hm : X.mg "enumerate" = none) (ha : PA X [e] ta) (hs : starEach [e] X.env = [(false, eval e X.env)] := by rfl) :
    PI X (.Tuple elts kk tpos) (.Call (.Name "enumerate" p) [e] [] pos) (iEnumT X.K ta) :=
  ⟨fun pins st σ H R Iv h => Call_ (ld_blt Iv hg hm boot_enumerate (PyProof.Rows.callWith_type1 (thn (ha.run pos pins st σ H _ Iv h) fun us st1 ⟨vs, H1, I1, rv, tp, xs, ev, isT, go⟩ => by
    subst ev
    rw [Vals.ref1 rv]
    obtain ⟨its, _, tup, _⟩ := I1.tuple isT
    refine MyE.enum_called (begins_tuple tp its.toArray) tup fun hp2 enAt itAt same => wpAny_pyIter_enum enAt ?_
    have low : tp < st1.heap.objs.size := tup.lt
    refine ⟨st1.heap.objs.size + 1, [st1.heap.objs.size + 1, st1.heap.objs.size], _, _, H1, rfl, I1.kept (t' := st1.toks) same, turn_enumT tp (st1.heap.objs.size + 1) st1.heap.objs.size, ⟨⟨.none, enAt⟩, ⟨_, itAt, rfl, rfl⟩, Nat.succ_ne_self _, Nat.ne_of_lt low, Nat.ne_of_lt (Nat.lt_succ_of_lt low)⟩, fun b m => ?_, go⟩
    have high : st1.heap.objs.size ≤ b := by
      rcases List.mem_cons.mp m with rfl | m
      · exact Nat.le_succ _
      · exact Nat.le_of_eq (List.mem_singleton.mp m).symm
    exact I1.fpOk high (I1.hok.fresh high)) hs rfl))⟩
end L2

/-! # Lib3 -/
/-! zip(t, l), t a tuple, l a list, as what a for walks over -/
namespace L2
open PySem PyProof.Rows PySem.Spec
/-- the tuple at tp, the list at ls -/
def ItzM (K : PySem.W.Frag) (tp ls : Addr) : It where
  go i H := ∃ (xs ys : List V) (x y : V), SqT K H tp xs ∧ SqL K H ls ys ∧ xs[i]? = some x ∧ ys[i]? = some y
  yld i H v H' := ∃ T x y, v = .ref T ∧ H T = none ∧ H' = upd H T (.tup [x, y]) ∧ (∀ xs, SqT K H tp xs → xs[i]? = some x) ∧ ∀ ys, SqL K H ls ys → ys[i]? = some y
  stop i H := ∃ xs ys : List V, SqT K H tp xs ∧ SqL K H ls ys ∧ i ≤ xs.length ∧ i ≤ ys.length ∧ (i = xs.length ∨ i = ys.length)
/-- the five objects of the walk: the zip, its two inner tuples, the two iterators -/
structure Zp where
  (z ti to_ i1 i2 tp ls : Addr)
abbrev Zp.five (c : Zp) : List Addr := [c.z, c.ti, c.to_, c.i1, c.i2]
structure Zp.Apart (c : Zp) : Prop where
  sep : ZipSep2 c.z c.ti c.to_ c.i1 c.i2 [c.i1, c.tp] [c.i2, c.ls]
  tpi : c.tp ≠ c.i1
  lsi : c.ls ≠ c.i2
abbrev zpAt (n tp ls : Nat) : Zp := ⟨n + 4, n + 2, n + 3, n, n + 1, tp, ls⟩
theorem zpAt_apart {n tp ls : Nat} (h1 : tp < n) (h2 : ls < n) : (zpAt n tp ls).Apart := by
  have df : ∀ u v : Nat, u ≠ v → ¬ (u : Nat) = v := fun _ _ q => q
  have nin : ∀ u v w : Nat, u ≠ v → u ≠ w → (u : Addr) ∉ [(v : Addr), w] := fun u v w q1 q2 m => by
    rcases List.mem_cons.mp m with e | m
    · exact df u v q1 e
    · exact df u w q2 (List.mem_singleton.mp m)
  have key : ZipSep2 (n + 4 : Nat) (n + 2 : Nat) (n + 3 : Nat) n (n + 1 : Nat) [n, tp] [(n + 1 : Nat), ls] := ⟨df _ _ (by omega), df _ _ (by omega), df _ _ (by omega), df _ _ (by omega), List.mem_cons_self .., nin _ _ _ (by omega) (by omega), nin _ _ _ (by omega) (by omega), df _ _ (by omega), List.mem_cons_self .., nin _ _ _ (by omega) (by omega), nin _ _ _ (by omega) (by omega), nin _ _ _ (by omega) (by omega), nin _ _ _ (by omega) (by omega)⟩
  exact ⟨key, df tp n (by omega), df ls (n + 1) (by omega)⟩
/-- before the turn i -/
structure Zp.St (c : Zp) (i : Nat) (hp : Heap) : Prop where
  zip : IsZip hp c.z c.ti c.to_ .none
  its : IsTupOf2 hp c.ti (.ref c.i1) (.ref c.i2)
  last : ∃ x y, IsTupOf2 hp c.to_ x y
  one : hp.IsTupleIter c.i1 c.tp i
  two : hp.IsListIter c.i2 c.ls i
theorem Zp.mem5 {c : Zp} {b : Addr} (m : b ∈ c.five) : b = c.z ∨ b = c.ti ∨ b = c.to_ ∨ b = c.i1 ∨ b = c.i2 := by simpa using m
theorem turn_zipM {P : Program} {w : World} {K : PySem.W.Frag} {elts : List Expr} {kk : Nat} {tpos : Pos} {c : Zp} (A5 : c.Apart) : Turn P w K (.Tuple elts kk tpos) (ItzM K c.tp c.ls) c.five c.z c.St where
  mem := List.mem_cons_self ..
  obj i hp S b hb := by
    obtain ⟨x, y, lastAt⟩ := S.last
    obtain ⟨o1, at1, _, dat1⟩ := S.one
    obtain ⟨o2, at2, _, dat2⟩ := S.two
    rcases Zp.mem5 hb with rfl | rfl | rfl | rfl | rfl
    · exact ⟨_, S.zip, fun _ q => nomatch q⟩
    · exact ⟨_, S.its, fun _ q => nomatch q⟩
    · exact ⟨_, lastAt, fun _ q => nomatch q⟩
    · exact ⟨o1, at1, fun _ q => nomatch (dat1.symm.trans q)⟩
    · exact ⟨o2, at2, fun _ q => nomatch (dat2.symm.trans q)⟩
  keep i hp hp2 S same := by
    obtain ⟨x, y, lastAt⟩ := S.last
    exact ⟨same c.z (by simp) _ S.zip, same c.ti (by simp) _ S.its, ⟨x, y, same c.to_ (by simp) _ lastAt⟩, S.one.at fun ob m => same c.i1 (by simp) ob m, S.two.at fun ob m => same c.i2 (by simp) ob m⟩
  item := by
    intro X eP ew eK calm i pins st σ H E Iv fpk S more
    subst eP ew eK
    obtain ⟨xs, ys, x, y, isT, isL, atX, atY⟩ := more
    obtain ⟨x0, y0, lastAt⟩ := S.last
    obtain ⟨us, items, tup, _⟩ := Iv.tuple isT
    obtain ⟨vs, jtems, lst, _⟩ := Iv.list isL
    obtain ⟨u, uAt, ru⟩ := items.get atX
    obtain ⟨v, vAt, rv⟩ := jtems.get atY
    have uAt' : us.toArray[i]? = some u := by simpa using uAt
    have vAt' : vs.toArray[i]? = some v := by simpa using vAt
    refine wpAny_pyNext_zipD2_item A5.sep (Draws.tuple (A := X.A.in1) (Iv.ok.hd calm) c.i1 c.tp A5.tpi us.toArray) (Draws.list (A := X.A.in1) (Iv.ok.hd calm) c.i2 c.ls A5.lsi vs.toArray) S.zip S.its lastAt ⟨S.one, tup⟩ ⟨S.two, lst.isList⟩ (Array.getElem?_eq_some_iff.mp uAt').1 (Array.getElem?_eq_some_iff.mp vAt').1 fun u2 v2 hp2 tk u2At v2At zip2 last2 one2 two2 pairAt _ same => ?_
    obtain rfl : u2 = u := Option.some.inj ((show us.toArray[i]? = some u2 from u2At).symm.trans uAt')
    obtain rfl : v2 = v := Option.some.inj ((show vs.toArray[i]? = some v2 from v2At).symm.trans vAt')
    refine ⟨_, rfl, wpAny_letOwnedTupleGo_zip (s := { st with heap := hp2, toks := tk }) zip2 fun hp3 zip3 only => ?_⟩
    have zLow : c.z < st.heap.objs.size := Heap.lt_size S.zip
    have pairAt3 : hp3.get? st.heap.objs.size = some { cls := .type "tuple", data := .seq #[u2, v2] } := (only.2 _ (Nat.ne_of_gt zLow)).trans pairAt
    have pairOk : ObjOk X.prog X.w (upd H st.heap.objs.size (.tup [x, y])) hp3 st.heap.objs.size (.tup [x, y]) := ⟨show 2 ≤ sizeLine by decide, [u2, v2], .cons ru (.cons rv .nil), ⟨_, pairAt3, rfl, _, rfl⟩⟩
    have others : ∀ b ob, b ∉ c.five → st.heap.get? b = some ob → hp3.get? b = some ob := fun b ob m q => (only.2 b fun z => m (by simp [z])).trans (same b ob (fun z => m (by simp [z])) (fun z => m (by simp [z])) (fun z => m (by simp [z])) (fun z => m (by simp [z])) q)
    have Iv3 := Iv.turnedNew (ch := c.five) (t' := tk) others fpk (Nat.le_refl _) pairOk
    have S3 : c.St (i + 1) hp3 := ⟨zip3, (only.2 _ A5.sep.TIz).trans (same _ _ A5.sep.TIz A5.sep.TITO A5.sep.TIi1 A5.sep.TIi2 S.its), ⟨u2, v2, (only.2 _ A5.sep.TOz).trans last2⟩, one2.1.at fun ob m => (only.2 _ (Ne.symm A5.sep.zi1)).trans m, two2.1.at fun ob m => (only.2 _ (Ne.symm A5.sep.zi2)).trans m⟩
    refine ⟨.ref st.heap.objs.size, _, Iv3, rfl, ⟨_, x, y, rfl, Iv.hok.fresh (Nat.le_refl _), rfl, fun l isT2 => Iv.tuple_inj isT2 isT ▸ atX, fun l isL2 => Iv.list_inj isL2 isL ▸ atY⟩, S3, fun b m => (upd_ne (Nat.ne_of_lt ?_)).trans (fpk b m).1⟩
    obtain ⟨_, at1, _⟩ := S.one
    obtain ⟨_, at2, _⟩ := S.two
    rcases Zp.mem5 m with rfl | rfl | rfl | rfl | rfl
    · exact zLow
    · exact Heap.lt_size S.its
    · exact Heap.lt_size lastAt
    · exact Heap.lt_size at1
    · exact Heap.lt_size at2
  done := by
    intro X eP ew eK calm i pins st σ H E Iv fpk S over
    subst eP ew eK
    obtain ⟨xs, ys, isT, isL, b1, b2, b3⟩ := over
    obtain ⟨x0, y0, lastAt⟩ := S.last
    obtain ⟨us, items, tup, _⟩ := Iv.tuple isT
    obtain ⟨vs, jtems, lst, _⟩ := Iv.list isL
    have n1 := items.length
    have n2 := jtems.length
    exact wpAny_pyNext_zipD2_end A5.sep (Draws.tuple (A := X.A.in1) (Iv.ok.hd calm) c.i1 c.tp A5.tpi us.toArray) (Draws.list (A := X.A.in1) (Iv.ok.hd calm) c.i2 c.ls A5.lsi vs.toArray) S.zip S.its lastAt ⟨S.one, tup⟩ ⟨S.two, lst.isList⟩ (by simp; omega) (by simp; omega) (by simp; omega) fun hp2 tk same =>
      ⟨rfl, Iv.turnedL (t' := tk) (ch := c.five) (fun b ob m q => same b ob (fun z => m (by simp [z])) (fun z => m (by simp [z])) (fun z => m (by simp [z])) (fun z => m (by simp [z])) q) fpk⟩
  self _ _ _ _ _ S go := wpAny_pyIter_zip S.zip go
def iZipM (K : PySem.W.Frag) (ta : TA) : TI := fun σ H R => ta σ H fun vs H1 => ∃ a b xs ys, vs = [.ref a, .ref b] ∧ SqT K H1 a xs ∧ SqL K H1 b ys ∧ R (ItzM K a b) H1
theorem pi_zipM {X : Cx} {e e2 : Expr} {ta : TA} {p pos tpos : Pos} {elts : List Expr} {kk : Nat} (hg : Gl X "zip") (hm : X.mg "zip" = none) (ha : PA X [e, e2] ta) (hs : starEach [e, e2] X.env = (false, eval e X.env) :: starEach [e2] X.env := by rfl) (hpl : (backTo pos (starEach [e2] X.env)).any (·.1) = false := by rfl) :
    PI X (.Tuple elts kk tpos) (.Call (.Name "zip" p) [e, e2] [] pos) (iZipM X.K ta) :=
  ⟨fun pins st σ H R Iv h => Call_ (ld_blt Iv hg hm PyProof.Rows.boot_zip (PyProof.Rows.callWith_type1 (thn (ha.run pos pins st σ H _ Iv h) fun us st1 ⟨vs, H1, I1, rv, tp, ls, xs, ys, ev, isT, isL, go⟩ => by
    subst ev
    obtain ⟨u1, u2, rfl, rfl, rfl⟩ : ∃ u1 u2, us = [u1, u2] ∧ u1 = Value.ref tp ∧ u2 = Value.ref ls := by
      obtain ⟨u1, u2, e, r1, r2⟩ := vals2 rv
      exact ⟨u1, u2, e, r1, r2⟩
    obtain ⟨its, _, tup, _⟩ := I1.tuple isT
    obtain ⟨jts, _, lst, _⟩ := I1.list isL
    refine zip_begins2 (begins_tuple tp its.toArray) (begins_list ls jts.toArray) tup lst.isList fun hp2 zAt tiAt toAt oneAt twoAt _ same => wpAny_pyIter_zip zAt ?_
    refine ⟨st1.heap.objs.size + 4, (zpAt st1.heap.objs.size tp ls).five, _, _, H1, rfl, I1.kept (t' := st1.toks) same, turn_zipM (zpAt_apart tup.lt lst.lt), ⟨zAt, tiAt, ⟨_, _, toAt⟩, ⟨_, oneAt, rfl, rfl⟩, ⟨_, twoAt, rfl, rfl⟩⟩, fun b m => ?_, go⟩
    have high : st1.heap.objs.size ≤ b := by
      rcases Zp.mem5 m with rfl | rfl | rfl | rfl | rfl
      · exact Nat.le_add_right _ 4
      · exact Nat.le_add_right _ 2
      · exact Nat.le_add_right _ 3
      · exact Nat.le_refl _
      · exact Nat.le_add_right _ 1
    exact I1.fpOk high (I1.hok.fresh high)) hs hpl))⟩
end L2

/-! # Fw6 -/
namespace My
open PySem L2
section
variable {S : SC} {ρ ρ' : List Sl} {d d' : Dt} {b b' : Bool} {ds l : List Dt} {e e1 e2 : Expr} {pos p : Pos} {es : List Expr} {N N' N1 : List Sl → Prop} {R R' : Dt → Prop} {BK CT : List Sl → Prop}
/-! ### enumerate, zip -/
theorem zipIdx_get {α : Type} {xs : List α} {i : Nat} {x : α} (h : xs[i]? = some x) : xs.zipIdx[i]? = some (x, i) := by
  rw [List.getElem?_zipIdx, h]
  simp
theorem enum_of {C : Addr} {K : PySem.W.Frag} {J : It} {B1 : Hp} {vs : List V} (hJ : J = J) (hv : RpAll C B1 vs ds) (go : ∀ i H v, Same B1 H → vs[i]? = some v → J.go i H) (st : ∀ H, Same B1 H → J.stop vs.length H)
    (yl : ∀ i H x H', Same B1 H → J.yld i H x H' → ∃ T v, x = .ref T ∧ H T = none ∧ H' = upd H T (.tup [.int (i : Nat), v]) ∧ vs[i]? = some v) : ItOf C J B1 (ds.zipIdx.map fun q => .tup [.n q.2, q.1]) where
  go := fun i H hi e => by
    have hi' : i < ds.length := by simpa using hi
    obtain ⟨v, h1, _⟩ := hv.get (i := i) (d := ds[i]) (by simp [hi'])
    exact go i H v e h1
  stop := fun H e => by
    have := st H e
    rw [hv.length] at this
    simpa using this
  yld := fun i B2 H2 x H' hi e1 e2 y => by
    have hi' : i < ds.length := by simpa using hi
    obtain ⟨T, v, rfl, hT, rfl, hx⟩ := yl i H2 x H' (e1.trans e2) y
    obtain ⟨w, h1, r⟩ := hv.get (i := i) (d := ds[i]) (by simp [hi'])
    rw [hx] at h1
    cases h1
    refine ⟨upd B2 T (.tup [.int (i : Nat), v]), Gr.new e2 hT, ?_⟩
    have e : (ds.zipIdx.map fun q => Dt.tup [.n q.2, q.1])[i] = .tup [.n i, ds[i]] := by simp
    rw [e]
    exact .tup upd_same (.cons (.int _) (.cons (r.mono (e1.trans (same_new (e2.free hT)))) .nil))
theorem ji_enumD {d : Dt} {elts : List Expr} {kk : Nat} {tpos : Pos} (hm : S.mg "enumerate" = none) (h : JE S e ρ d) (hd : sq d ds) (hg : S.sc.names.lookup ("enumerate" : Str) = some .globalImplicit := by rfl) (hs : ∀ env, starEach [e] env = (false, eval e env) :: starEach [] env := by intro _; rfl) :
    JI S (.Tuple elts kk tpos) (.Call (.Name "enumerate" p) [e] [] pos) ρ (ds.zipIdx.map fun q => .tup [.n q.2, q.1]) := by
  rcases hd with rfl | rfl
  · exact ji_of (t := iEnumT S.K (wA S [e])) (fun X hx => by
      have := pi_enumT (X := X) (p := p) (pos := pos) (tpos := tpos) (elts := elts) (kk := kk) (show X.env.scope.names.lookup ("enumerate" : Str) = _ by rw [hx.sc]; exact hg) (by rw [hx.mg]; exact hm) (wA_ok (es := [e]) hx) (hs _)
      rw [hx.K] at this
      exact this) fun B σ H E Rr k => ja1 h hs B σ H E _ fun xs B1 H1 g1 r1 => by
      obtain ⟨v, rfl, rv⟩ := rp1 r1
      cases rv with
      | @tup a vs _ ha hv =>
        refine ⟨a, vs, rfl, SqT.of (g1.bh _ _ ha), k _ B1 H1 g1 (enum_of (K := S.K) rfl hv (fun i H v e h1 => ⟨vs, v, SqT.of (e _ _ ha), h1⟩) (fun H e => ⟨vs, SqT.of (e _ _ ha), Nat.le_refl _⟩) fun i H x H' e y => ?_)⟩
        obtain ⟨T, x', h1, h2, h3, h4⟩ := y
        exact ⟨T, x', h1, h2, h3, h4 vs (SqT.of (e _ _ ha))⟩
  · exact ji_of (t := iEnum S.K (wA S [e])) (fun X hx => by
      have := pi_enum (X := X) (p := p) (pos := pos) (tpos := tpos) (elts := elts) (kk := kk) (show X.env.scope.names.lookup ("enumerate" : Str) = _ by rw [hx.sc]; exact hg) (by rw [hx.mg]; exact hm) (wA_ok (es := [e]) hx) (hs _)
      rw [hx.K] at this
      exact this) fun B σ H E Rr k => ja1 h hs B σ H E _ fun xs B1 H1 g1 r1 => by
      obtain ⟨v, rfl, rv⟩ := rp1 r1
      cases rv with
      | @lst a vs _ ha hv =>
        refine ⟨a, vs, rfl, SqL.of (g1.bh _ _ ha), k _ B1 H1 g1 (enum_of (K := S.K) rfl hv (fun i H v e h1 => ⟨vs, v, SqL.of (e _ _ ha), h1⟩) (fun H e => ⟨vs, SqL.of (e _ _ ha), Nat.le_refl _⟩) fun i H x H' e y => ?_)⟩
        obtain ⟨T, x', h1, h2, h3, h4⟩ := y
        exact ⟨T, x', h1, h2, h3, h4 vs (SqL.of (e _ _ ha))⟩
theorem ji_enum {α : Type} (xs : List α) (enc : α → Dt) {d : Dt} {elts : List Expr} {kk : Nat} {tpos : Pos} (hm : S.mg "enumerate" = none) (h : JE S e ρ d) (hd : sq d (xs.map enc)) (hg : S.sc.names.lookup ("enumerate" : Str) = some .globalImplicit := by rfl) (hs : ∀ env, starEach [e] env = (false, eval e env) :: starEach [] env := by intro _; rfl) :
    JI S (.Tuple elts kk tpos) (.Call (.Name "enumerate" p) [e] [] pos) ρ (xs.zipIdx.map fun q => .tup [.n q.2, enc q.1]) := by
  have := ji_enumD (p := p) (pos := pos) (elts := elts) (kk := kk) (tpos := tpos) hm h hd hg hs
  rw [List.zipIdx_map, List.map_map] at this
  exact this
theorem zip_of {C : Addr} {K : PySem.W.Frag} {a c : Addr} {B1 : Hp} {vs us : List V} {es : List Dt} (ha : B1 a = some (.tup vs)) (hc : B1 c = some (.lst us)) (hv : RpAll C B1 vs ds) (hu : RpAll C B1 us es) : ItOf C (ItzM K a c) B1 ((ds.zip es).map fun q => .tup [q.1, q.2]) where
  go := fun i H hi e => by
    have hi' : i < ds.length ∧ i < es.length := by simp at hi; omega
    obtain ⟨v, h1, _⟩ := hv.get (i := i) (d := ds[i]'hi'.1) (by simp [hi'])
    obtain ⟨u, h2, _⟩ := hu.get (i := i) (d := es[i]'hi'.2) (by simp [hi'])
    exact ⟨vs, us, v, u, SqT.of (e _ _ ha), SqL.of (e _ _ hc), h1, h2⟩
  stop := fun H e => by
    have l1 := hv.length
    have l2 := hu.length
    exact ⟨vs, us, SqT.of (e _ _ ha), SqL.of (e _ _ hc), by simp; omega, by simp; omega, by simp; omega⟩
  yld := fun i B2 H2 x H' hi e1 e2 y => by
    have hi' : i < ds.length ∧ i < es.length := by simp at hi; omega
    obtain ⟨T, x1, x2, rfl, hT, rfl, y1, y2⟩ := y
    have q1 := y1 vs (SqT.of (e2 _ _ (e1 _ _ ha)))
    have q2 := y2 us (SqL.of (e2 _ _ (e1 _ _ hc)))
    obtain ⟨v, h1, r1⟩ := hv.get (i := i) (d := ds[i]'hi'.1) (by simp [hi'])
    obtain ⟨u, h2, r2⟩ := hu.get (i := i) (d := es[i]'hi'.2) (by simp [hi'])
    rw [q1] at h1
    rw [q2] at h2
    cases h1
    cases h2
    refine ⟨upd B2 T (.tup [x1, x2]), Gr.new e2 hT, ?_⟩
    have e : ((ds.zip es).map fun q => Dt.tup [q.1, q.2])[i] = .tup [ds[i]'hi'.1, es[i]'hi'.2] := by simp
    rw [e]
    have sm := e1.trans (same_new (o := .tup [x1, x2]) (e2.free hT))
    exact .tup upd_same (.cons (r1.mono sm) (.cons (r2.mono sm) .nil))
theorem ji_zip {α β : Type} (xs : List α) (ys : List β) (enc : α → Dt) (enc2 : β → Dt) {elts : List Expr} {kk : Nat} {tpos : Pos} (hm : S.mg "zip" = none) (h1 : JE S e1 ρ (.tup (xs.map enc))) (h2 : JE S e2 ρ (.lst (ys.map enc2))) (hg : S.sc.names.lookup ("zip" : Str) = some .globalImplicit := by rfl)
    (hs : ∀ env, starEach [e1, e2] env = (false, eval e1 env) :: starEach [e2] env := by intro _; rfl) (hs2 : ∀ env, starEach [e2] env = (false, eval e2 env) :: starEach [] env := by intro _; rfl) (hpl : ∀ env, (backTo pos (starEach [e2] env)).any (·.1) = false := by intro _; rfl) :
    JI S (.Tuple elts kk tpos) (.Call (.Name "zip" p) [e1, e2] [] pos) ρ ((xs.zip ys).map fun q => .tup [enc q.1, enc2 q.2]) := by
  have key : JI S (.Tuple elts kk tpos) (.Call (.Name "zip" p) [e1, e2] [] pos) ρ (((xs.map enc).zip (ys.map enc2)).map fun q => .tup [q.1, q.2]) :=
    ji_of (t := iZipM S.K (wA S [e1, e2])) (fun X hx => by
      have := pi_zipM (X := X) (p := p) (pos := pos) (tpos := tpos) (elts := elts) (kk := kk) (show X.env.scope.names.lookup ("zip" : Str) = _ by rw [hx.sc]; exact hg) (by rw [hx.mg]; exact hm) (wA_ok (es := [e1, e2]) hx) (hs _) (hpl _)
      rw [hx.K] at this
      exact this) fun B σ H E Rr k => ja_cons h1 (ja1 h2 hs2) hs B σ H E _ fun zs B1 H1 g1 r1 => by
      cases r1 with
      | cons ra rt =>
        obtain ⟨v, rfl, rv⟩ := rp1 rt
        cases ra with
        | @tup a vs _ ha hv =>
          cases rv with
          | @lst c us _ hc hu => exact ⟨a, c, vs, us, rfl, SqT.of (g1.bh _ _ ha), SqL.of (g1.bh _ _ hc), k _ B1 H1 g1 (zip_of ha hc hv hu)⟩
  rw [List.zip_map, List.map_map] at key
  exact key

/-! ### the state of a comprehension -/
structure CSt (C : Addr) (B1 H1 : Hp) (D : Addr) (acc : List Dt) (B' H2 : Hp) : Prop where
  gr : Gr B1 H1 B' (fun a => if a = D then none else H2 a)
  bd : B' D = none
  ex : ∃ ys, H2 D = some (.lst ys) ∧ RpAll C B' ys acc
  d1 : H1 D = none
section
variable {C : Addr} {B H B1 H1 B' H2 B4 H4 : Hp} {D : Addr} {acc : List Dt} {σ : L2.St}
theorem CSt.same (c : CSt C B1 H1 D acc B' H2) : Same B' H2 := fun a o q => by
  have := c.gr.bh a o q
  by_cases ha : a = D
  · rw [if_pos ha] at this; cases this
  · rw [if_neg ha] at this; exact this
theorem CSt.hd (c : CSt C B1 H1 D acc B' H2) : H2 D ≠ none := by
  obtain ⟨ys, h, _⟩ := c.ex
  rw [h]; intro z; cases z
theorem CSt.start (e : Same B1 H1) (hD : H1 D = none) : CSt C B1 H1 D [] B1 (upd H1 D (.lst [])) := by
  refine ⟨?_, e.free hD, ⟨[], upd_same, .nil⟩, hD⟩
  have e1 : (fun a => if a = D then none else upd H1 D (.lst []) a) = H1 := by
    funext a
    by_cases ha : a = D
    · rw [if_pos ha, ha, hD]
    · rw [if_neg ha, upd_ne ha]
  rw [e1]
  exact Gr.refl e
theorem CSt.keep (c : CSt C B1 H1 D acc B' H2) {a : Addr} (h : H1 a ≠ none) : H2 a ≠ none := fun z => by
  cases e : H1 a with
  | none => exact h e
  | some o =>
    have := c.gr.h a o e
    by_cases ha : a = D
    · rw [if_pos ha] at this; cases this
    · rw [if_neg ha, z] at this; cases this
theorem CSt.grow (c : CSt C B1 H1 D acc B' H2) (g : Gr B' H2 B4 H4) : CSt C B1 H1 D acc B4 H4 := by
  have hD4 : B4 D = none := g.fr D c.hd c.bd
  obtain ⟨ys, hy, ry⟩ := c.ex
  refine ⟨⟨c.gr.b.trans g.b, fun a o q => ?_, fun a o q => ?_, fun a h1 h2 => g.fr a (c.keep h1) (c.gr.fr a h1 h2)⟩, hD4, ⟨ys, g.h _ _ hy, ry.mono g.b⟩, c.d1⟩
  · have ha : a ≠ D := fun z => by rw [z, c.d1] at q; cases q
    rw [if_neg ha]
    have := c.gr.h a o q
    rw [if_neg ha] at this
    exact g.h _ _ this
  · have ha : a ≠ D := fun z => by rw [z, hD4] at q; cases q
    rw [if_neg ha]
    exact g.bh a o q
theorem CSt.app (c : CSt C B1 H1 D acc B' H2) {w : V} {d : Dt} (r : Rp C B' w d) : ∃ ys, H2 D = some (.lst ys) ∧ ys.length = acc.length ∧ CSt C B1 H1 D (acc ++ [d]) B' (upd H2 D (.lst (ys ++ [w]))) := by
  obtain ⟨ys, hy, ry⟩ := c.ex
  refine ⟨ys, hy, ry.length, ?_, c.bd, ⟨ys ++ [w], upd_same, ry.append (.cons r .nil)⟩, c.d1⟩
  have e : (fun a => if a = D then none else upd H2 D (.lst (ys ++ [w])) a) = fun a => if a = D then none else H2 a := by
    funext a
    by_cases ha : a = D
    · rw [if_pos ha, if_pos ha]
    · rw [if_neg ha, if_neg ha, upd_ne ha]
  rw [e]
  exact c.gr
theorem CSt.env (c : CSt C B1 H1 D acc B' H2) (E : SEnv C B σ H ρ) (g1 : Gr B H B1 H1) : SEnv C B' σ H2 ρ := by
  refine E.grow ⟨g1.b.trans c.gr.b, fun a o q => ?_, c.same, fun a h1 h2 => c.gr.fr a (fun z => h1 (g1.h.free z)) (g1.fr a h1 h2)⟩
  have := c.gr.h _ _ (g1.h _ _ q)
  by_cases ha : a = D
  · rw [if_pos ha] at this; cases this
  · rw [if_neg ha] at this; exact this
theorem CSt.fin (c : CSt C B1 H1 D acc B' H2) : ∃ B5, Gr B1 H1 B5 H2 ∧ Rp C B5 (.ref D) (.lst acc) := by
  obtain ⟨ys, hy, ry⟩ := c.ex
  refine ⟨upd B' D (.lst ys), ⟨c.gr.b.trans (same_new c.bd), fun a o q => ?_, fun a o q => ?_, fun a h1 h2 => ?_⟩, .lst upd_same (ry.mono (same_new c.bd))⟩
  · have := c.gr.h a o q
    by_cases ha : a = D
    · rw [if_pos ha] at this; cases this
    · rw [if_neg ha] at this; exact this
  · by_cases ha : a = D
    · subst ha
      rw [upd_same] at q
      rw [hy]
      exact q
    · rw [upd_ne ha] at q
      exact c.same a o q
  · have ha : a ≠ D := fun z => h1 (by rw [z]; exact c.d1)
    rw [upd_ne ha]
    exact c.gr.fr a h1 h2
end
theorem SEnv.noO {C : Addr} {B H B' H' : Hp} {σ : L2.St} {ρ : List Sl} (E : SEnv C B σ H ρ) (h : ∀ (i : Nat) (ds : List Dt), ρ[i]? ≠ some (.o ds)) (e : Same B B') (e2 : Same B' H') : SEnv C B' σ H' ρ := by
  refine ⟨e2, fun i s hs => ?_, E.dj, E.len⟩
  have q := E.sl i s hs
  cases s with
  | un => trivial
  | v d => obtain ⟨x, h1, r⟩ := q; exact ⟨x, h1, r.mono e⟩
  | w x => exact q
  | k x P => exact ⟨q.1, fun H2 e3 => q.2 H2 (e.trans e3)⟩
  | o ds => exact absurd hs (h i ds)
/-- one's own lists forgotten -/
def unO (ρ : List Sl) : List Sl := ρ.map fun s => match s with
  | .o _ => .un
  | s => s
theorem SEnv.unO {C : Addr} {B H : Hp} {σ : L2.St} {ρ : List Sl} (E : SEnv C B σ H ρ) : SEnv C B σ H (unO ρ) := by
  have look : ∀ (i : Nat) (s : Sl), (My.unO ρ)[i]? = some s → s = Sl.un ∨ (ρ[i]? = some s ∧ ∀ ds, s ≠ Sl.o ds) := fun i s h => by
    unfold My.unO at h
    rw [List.getElem?_map] at h
    cases e : ρ[i]? with
    | none => rw [e] at h; cases h
    | some t =>
      rw [e] at h
      have h' := Option.some.inj h
      cases t with
      | un => exact .inl h'.symm
      | v d => exact .inr ⟨by rw [← h'], fun ds z => by rw [← h'] at z; cases z⟩
      | w x => exact .inr ⟨by rw [← h'], fun ds z => by rw [← h'] at z; cases z⟩
      | k x P => exact .inr ⟨by rw [← h'], fun ds z => by rw [← h'] at z; cases z⟩
      | o ds => exact .inl h'.symm
  refine ⟨E.bh, fun i s h => ?_, fun i j ds es a _ h1 _ _ _ => ?_, by unfold My.unO; rw [List.length_map]; exact E.len⟩
  · rcases look i s h with rfl | ⟨h', _⟩
    · trivial
    · exact E.sl i s h'
  · rcases look i _ h1 with z | ⟨_, z⟩
    · cases z
    · exact absurd rfl (z ds)
theorem je_unO (h : JE S e (unO ρ) d) : JE S e ρ d := fun B σ H E Q k => h B σ H E.unO Q k
theorem unO_no (ρ : List Sl) : ∀ (i : Nat) (ds : List Dt), (unO ρ)[i]? ≠ some (.o ds) := fun i ds h => by
  unfold unO at h
  rw [List.getElem?_map] at h
  cases e : ρ[i]? with
  | none => rw [e] at h; cases h
  | some t =>
    rw [e] at h
    have h' := Option.some.inj h
    cases t <;> cases h'
/-- two clauses -/
theorem ed_lc2 {α β : Type} {C : Addr} (xs : List α) (enc : α → Dt) (f : α → Bool) (ys : α → List β) (enc2 : β → Dt) (f2 : α → β → Bool) (g : α → β → Dt) {vs vs1 js js1 : List Nat} {wi wi1 : TI} {tg tg1 : TG} {tt tt1 : TT} {te : TE} (hi : ID C wi ρ (xs.map enc)) (hjs : ∀ i ∈ js, i ∈ vs) (hjs1 : ∀ i ∈ js1, i ∈ vs1)
    (ρi : α → List Sl) (ρj : α → β → List Sl) (hno : ∀ x ∈ xs, ∀ (i : Nat) (ds : List Dt), (ρi x)[i]? ≠ some (.o ds))
    (hg : ∀ x ∈ xs, TGD C tg (wipeR ρ vs) (enc x) (ρi x) js) (ht : ∀ x ∈ xs, TD C tt (ρi x) (f x)) (hi1 : ∀ x ∈ xs, f x = true → ID C wi1 (ρi x) ((ys x).map enc2)) (hg1 : ∀ x ∈ xs, f x = true → ∀ y ∈ ys x, TGD C tg1 (wipeR (ρi x) vs1) (enc2 y) (ρj x y) js1)
    (ht1 : ∀ x ∈ xs, f x = true → ∀ y ∈ ys x, TD C tt1 (ρj x y) (f2 x y)) (he : ∀ x ∈ xs, f x = true → ∀ y ∈ ys x, f2 x y = true → ED C te (ρj x y) (g x y)) (hl : ((xs.filter f).flatMap ys).length ≤ 10000) :
    ED C (tLc2 wi tg tt wi1 tg1 tt1 te vs vs1) ρ (.lst ((xs.filter f).flatMap fun x => ((ys x).filter (f2 x)).map (g x))) := by
  intro B σ H E Q k
  refine hi B σ H E _ fun J B1 H1 g1 it => fun D hD => ?_
  have hn : (xs.map enc).length = xs.length := List.length_map ..
  generalize hG : (fun x => ((ys x).filter (f2 x)).map (g x)) = G
  have hGx : ∀ x, G x = ((ys x).filter (f2 x)).map (g x) := fun x => by rw [← hG]
  refine ⟨fun i m H => m = xs.length - i ∧ i ≤ xs.length ∧ ∃ B', CSt C B1 H1 D (((xs.take i).filter f).flatMap G) B' H, ⟨xs.length, by simp, Nat.zero_le _, B1, CSt.start g1.bh hD⟩, ?_⟩
  rintro i m H2 ⟨rfl, hi', B', cs⟩
  by_cases hlt : i < xs.length
  · have hx : xs[i]? = some xs[i] := by simp [hlt]
    generalize hxe : xs[i] = x at hx
    have hxm : x ∈ xs := by rw [← hxe]; exact List.getElem_mem hlt
    refine .inr ⟨it.go i H2 (by rw [hn]; exact hlt) (cs.gr.b.trans cs.same), fun H => ∃ B', CSt C B1 H1 D (((xs.take (i + 1)).filter f).flatMap G) B' H, fun H' q => ⟨xs.length - (i + 1), by omega, rfl, hlt, q⟩, fun v H3 y => ?_⟩
    obtain ⟨B3, gr3, rx⟩ := it.yld i B' H2 v H3 (by rw [hn]; exact hlt) cs.gr.b cs.same y
    have ex : (xs.map enc)[i] = enc x := by simp [hxe]
    rw [ex] at rx
    have cs3 := cs.grow gr3
    refine hg x hxm B3 _ H3 ((cs3.env E g1).wipe vs) v _ rx fun σ2 E4 hs hl2 => ⟨wipe_eq (fun j hj => hs j fun z => hj (hjs j z)) hl2, ?_⟩
    refine ht x hxm B3 σ2 H3 E4 _ fun B4 H4 g4 => ?_
    cases hf : f x with
    | false =>
      show ∃ B', _
      refine ⟨B4, ?_⟩
      rw [take_succ hx, List.filter_append, List.flatMap_append, List.filter_cons, if_neg (by rw [hf]; decide)]
      simpa using cs3.grow g4
    | true =>
      show wi1 σ2 H4 _
      have cs4 := cs3.grow g4
      have E5 := E4.grow g4
      refine hi1 x hxm hf B4 σ2 H4 E5 _ fun J1 B5 H5 g5 it1 => ?_
      have hn1 : ((ys x).map enc2).length = (ys x).length := List.length_map ..
      have cs5 := cs4.grow g5
      have hbound : ∀ j, j ≤ (ys x).length → (((xs.take i).filter f).flatMap G ++ (((ys x).take j).filter (f2 x)).map (g x)).length ≤ 10000 := fun j _ => by
        have h1 : (((xs.take i).filter f).flatMap G).length ≤ (((xs.take i).filter f).flatMap ys).length := by
          generalize (xs.take i).filter f = zs
          induction zs with
          | nil => exact Nat.le_refl _
          | cons z zs ih =>
            rw [List.flatMap_cons, List.flatMap_cons, List.length_append, List.length_append]
            have : (G z).length ≤ (ys z).length := by rw [hGx, List.length_map]; exact List.length_filter_le _ _
            omega
        have h2 : ((((ys x).take j).filter (f2 x)).map (g x)).length ≤ (ys x).length := by
          rw [List.length_map]
          have a := List.length_filter_le (f2 x) ((ys x).take j)
          have b : ((ys x).take j).length ≤ (ys x).length := by rw [List.length_take]; omega
          omega
        have h3 : ((xs.filter f).flatMap ys).length ≥ (((xs.take i).filter f).flatMap ys).length + (ys x).length := by
          have e : xs.filter f = (xs.take i).filter f ++ x :: (xs.drop (i + 1)).filter f := by
            have h4 : xs = xs.take i ++ x :: xs.drop (i + 1) := by
              rw [← hxe]
              simp
            have h5 := congrArg (List.filter f) h4
            rw [List.filter_append, List.filter_cons, if_pos hf] at h5
            exact h5
          rw [e, List.flatMap_append, List.flatMap_cons, List.length_append, List.length_append]
          omega
        rw [List.length_append]
        omega
      refine ⟨fun j m H => m = (ys x).length - j ∧ j ≤ (ys x).length ∧ ∃ B', Same B5 B' ∧ CSt C B1 H1 D (((xs.take i).filter f).flatMap G ++ (((ys x).take j).filter (f2 x)).map (g x)) B' H, ⟨(ys x).length, by simp, Nat.zero_le _, B5, Same.refl _, by simpa using cs5⟩, ?_⟩
      rintro j m H6 ⟨rfl, hj', B6, s56, cs6⟩
      have E6 : SEnv C B6 σ2 H6 (ρi x) := E5.noO (hno x hxm) (g5.b.trans s56) cs6.same
      by_cases hlt1 : j < (ys x).length
      · have hy : (ys x)[j]? = some (ys x)[j] := by simp [hlt1]
        generalize hye : (ys x)[j] = z at hy
        have hym : z ∈ ys x := by rw [← hye]; exact List.getElem_mem hlt1
        refine .inr ⟨it1.go j H6 (by rw [hn1]; exact hlt1) (s56.trans cs6.same), fun H => ∃ B', Same B5 B' ∧ CSt C B1 H1 D (((xs.take i).filter f).flatMap G ++ (((ys x).take (j + 1)).filter (f2 x)).map (g x)) B' H, fun H' q => ⟨(ys x).length - (j + 1), by omega, rfl, hlt1, q⟩, fun v1 H7 y1 => ?_⟩
        obtain ⟨B7, gr7, rz⟩ := it1.yld j B6 H6 v1 H7 (by rw [hn1]; exact hlt1) s56 cs6.same y1
        have ez : ((ys x).map enc2)[j] = enc2 z := by simp [hye]
        rw [ez] at rz
        have cs7 := cs6.grow gr7
        refine hg1 x hxm hf z hym B7 _ H7 ((E6.grow gr7).wipe vs1) v1 _ rz fun σ3 E8 hs8 hl8 => ⟨wipe_eq (fun j hj => hs8 j fun z => hj (hjs1 j z)) hl8, ?_⟩
        refine ht1 x hxm hf z hym B7 σ3 H7 E8 _ fun B8 H8 g8 => ?_
        have cs8 := cs7.grow g8
        cases hf2 : f2 x z with
        | true =>
          show te σ3 H8 _
          refine he x hxm hf z hym hf2 B8 σ3 H8 (E8.grow g8) _ fun w B9 H9 g9 r9 => ?_
          obtain ⟨zs, q1, q2, q3⟩ := (cs8.grow g9).app r9
          refine ⟨zs, q1, ?_, B9, s56.trans (gr7.b.trans (g8.b.trans g9.b)), ?_⟩
          · rw [q2, sizeLine_eq]
            have := hbound j (by omega)
            omega
          · rw [take_succ hy, List.filter_append, List.map_append, List.filter_cons, if_pos hf2, ← List.append_assoc]
            exact q3
        | false =>
          show ∃ B', _
          refine ⟨B8, s56.trans (gr7.b.trans g8.b), ?_⟩
          rw [take_succ hy, List.filter_append, List.map_append, List.filter_cons, if_neg (by rw [hf2]; decide)]
          simpa using cs8
      · have e : j = (ys x).length := by omega
        subst e
        refine .inl ⟨?_, B6, ?_⟩
        · have := it1.stop H6 (s56.trans cs6.same)
          rw [hn1] at this
          exact this
        · rw [List.take_length] at cs6
          rw [take_succ hx, List.filter_append, List.flatMap_append, List.filter_cons, if_pos hf, List.filter_nil, List.flatMap_cons, List.flatMap_nil, List.append_nil, hGx]
          exact cs6
  · have e : i = xs.length := by omega
    subst e
    refine .inl ⟨?_, ?_⟩
    · have := it.stop H2 (cs.gr.b.trans cs.same)
      rw [hn] at this
      exact this
    · rw [List.take_length] at cs
      obtain ⟨B5, g5, r5⟩ := cs.fin
      exact k (.ref D) B5 H2 (g1.trans g5) (by rw [hG]; exact r5)
variable {scope : Scope} {ifs ifs1 : List Expr} {elt : Expr} {tge tge1 iter iter1 : Expr}
theorem je_lc2 {α β : Type} (xs : List α) (enc : α → Dt) (f : α → Bool) (ys : α → List β) (enc2 : β → Dt) (f2 : α → β → Bool) (g : α → β → Dt) (own : List (Str × Nat)) (vs1 : List Nat) {js js1 : List Nat} (hi : JI S tge iter ρ (xs.map enc)) (ok : BlkOk S.N S.sc scope own) (hv : ∀ i ∈ vs1, i ∈ own.map (·.2)) (hjs : ∀ i ∈ js, i ∈ own.map (·.2)) (hjs1 : ∀ i ∈ js1, i ∈ vs1)
    (ρi : α → List Sl) (ρj : α → β → List Sl) (hno : ∀ x ∈ xs, ∀ (i : Nat) (ds : List Dt), (ρi x)[i]? ≠ some (.o ds))
    (hg : ∀ x ∈ xs, JTg (S.blk scope) tge (wipeR ρ (own.map (·.2))) (enc x) (ρi x) js) (ht : ∀ x ∈ xs, JTs (S.blk scope) ifs (ρi x) (f x)) (hi1 : ∀ x ∈ xs, f x = true → JI (S.blk scope) tge1 iter1 (ρi x) ((ys x).map enc2)) (hg1 : ∀ x ∈ xs, f x = true → ∀ y ∈ ys x, JTg (S.blk scope) tge1 (wipeR (ρi x) vs1) (enc2 y) (ρj x y) js1)
    (ht1 : ∀ x ∈ xs, f x = true → ∀ y ∈ ys x, JTs (S.blk scope) ifs1 (ρj x y) (f2 x y)) (he : ∀ x ∈ xs, f x = true → ∀ y ∈ ys x, f2 x y = true → JE (S.blk scope) elt (ρj x y) (g x y)) (hl : ((xs.filter f).flatMap ys).length ≤ 10000)
    (hs : ∀ env x, foldedSetIterable iter env x = pure x := by intro _ _; rfl) (hs1 : ∀ env x, foldedSetIterable iter1 env x = pure x := by intro _ _; rfl) :
    JE S (.ListComp elt [⟨tge, iter, ifs, 0⟩, ⟨tge1, iter1, ifs1, 0⟩] scope pos) ρ (.lst ((xs.filter f).flatMap fun x => ((ys x).filter (f2 x)).map (g x))) :=
  je_of (t := tLc2 (wI S tge iter) (wG (S.blk scope) tge) (wTs (S.blk scope) ifs) (wI (S.blk scope) tge1 iter1) (wG (S.blk scope) tge1) (wTs (S.blk scope) ifs1) (wE (S.blk scope) elt) (own.map (·.2)) vs1)
    (fun X h => pe_lc2 h.calm (by rw [h.N]; exact h.nd) (wI_ok h) (by rw [h.N, h.sc]; exact ok) hv (fun s H C cl fp => wG_ok (h.blk scope s H C cl fp)) (fun s H C cl fp => wTs_ok (h.blk scope s H C cl fp)) (fun s H C cl fp => wI_ok (h.blk scope s H C cl fp)) (fun s H C cl fp => wG_ok (h.blk scope s H C cl fp)) (fun s H C cl fp => wTs_ok (h.blk scope s H C cl fp)) (fun s H C cl fp => wE_ok (h.blk scope s H C cl fp)) (hs _) (fun env x => hs1 env x))
    (ed_lc2 xs enc f ys enc2 f2 g hi hjs hjs1 ρi ρj hno (fun x hx => (hg x hx).g) ht hi1 (fun x hx hf y hy => (hg1 x hx hf y hy).g) ht1 he hl)
theorem js_setLc2 {α β : Type} (i : Nat) {y : Str} {py spos : Pos} (xs : List α) (enc : α → Dt) (f : α → Bool) (ys : α → List β) (enc2 : β → Dt) (f2 : α → β → Bool) (g : α → β → Dt) (own : List (Str × Nat)) (vs1 : List Nat) {js js1 : List Nat} (hi : JI S tge iter (unO ρ) (xs.map enc)) (ok : BlkOk S.N S.sc scope own) (hv : ∀ i ∈ vs1, i ∈ own.map (·.2)) (hjs : ∀ i ∈ js, i ∈ own.map (·.2)) (hjs1 : ∀ i ∈ js1, i ∈ vs1)
    (ρi : α → List Sl) (ρj : α → β → List Sl) (hno : ∀ x ∈ xs, ∀ (i : Nat) (ds : List Dt), (ρi x)[i]? ≠ some (.o ds))
    (hg : ∀ x ∈ xs, JTg (S.blk scope) tge (wipeR (unO ρ) (own.map (·.2))) (enc x) (ρi x) js) (ht : ∀ x ∈ xs, JTs (S.blk scope) ifs (ρi x) (f x)) (hi1 : ∀ x ∈ xs, f x = true → JI (S.blk scope) tge1 iter1 (ρi x) ((ys x).map enc2)) (hg1 : ∀ x ∈ xs, f x = true → ∀ y ∈ ys x, JTg (S.blk scope) tge1 (wipeR (ρi x) vs1) (enc2 y) (ρj x y) js1)
    (ht1 : ∀ x ∈ xs, f x = true → ∀ y ∈ ys x, JTs (S.blk scope) ifs1 (ρj x y) (f2 x y)) (he : ∀ x ∈ xs, f x = true → ∀ y ∈ ys x, f2 x y = true → JE (S.blk scope) elt (ρj x y) (g x y)) (hl : ((xs.filter f).flatMap ys).length ≤ 10000)
    (hy : S.N[i]? = some y := by rfl) (hyl : S.sc.names.lookup y = some .local := by rfl) (hk : S.sc.kind = .function := by rfl) (hln : (py.line == pos.line) = true := by rfl) (hnot : (scope.names.any fun (n, k) => n == y && (k == .local || k == .cell)) = false := by decide +kernel)
    (hs : ∀ env x, foldedSetIterable iter env x = pure x := by intro _ _; rfl) (hs1 : ∀ env x, foldedSetIterable iter1 env x = pure x := by intro _ _; rfl) :
    JS S (.Assign [.Name y py] (.ListComp elt [⟨tge, iter, ifs, 0⟩, ⟨tge1, iter1, ifs1, 0⟩] scope pos) spos) ρ (fun z => z = ρ.set i (.v (.lst ((xs.filter f).flatMap fun x => ((ys x).filter (f2 x)).map (g x))))) R BK CT :=
  js_of (t := tAsg (tLc2 (wI S tge iter) (wG (S.blk scope) tge) (wTs (S.blk scope) ifs) (wI (S.blk scope) tge1 iter1) (wG (S.blk scope) tge1) (wTs (S.blk scope) ifs1) (wE (S.blk scope) elt) (own.map (·.2)) vs1) (gName i))
    (fun X h => ps_setLc2 h.calm (by rw [h.N]; exact h.nd) (by rw [h.N]; exact hy) (by rw [h.sc]; exact hyl) (sw_true (by rw [h.sc]; exact hk) (by rw [h.sc]; exact hyl) hln hnot) (wI_ok h) (by rw [h.N, h.sc]; exact ok) hv (fun s H C cl fp => wG_ok (h.blk scope s H C cl fp)) (fun s H C cl fp => wTs_ok (h.blk scope s H C cl fp)) (fun s H C cl fp => wI_ok (h.blk scope s H C cl fp)) (fun s H C cl fp => wG_ok (h.blk scope s H C cl fp)) (fun s H C cl fp => wTs_ok (h.blk scope s H C cl fp)) (fun s H C cl fp => wE_ok (h.blk scope s H C cl fp)) (hs _) (fun env x => hs1 env x))
    (sd_set (fun B σ H E Q k => ed_lc2 xs enc f ys enc2 f2 g hi hjs hjs1 ρi ρj hno (fun x hx => (hg x hx).g) ht hi1 (fun x hx hf y hy => (hg1 x hx hf y hy).g) ht1 he hl B σ H E.unO Q k) rfl)
/-! ### sorted of a tuple; slices; + -/
theorem je_sortedT {xs ys : List Nat} (hm : S.mg "sorted" = none) (ha : JE S e ρ (.T xs)) (hx : ys.Perm xs) (ho : ys.Pairwise (· ≤ ·)) (hg : S.sc.names.lookup ("sorted" : Str) = some .globalImplicit := by rfl) (hs : ∀ env, starEach [e] env = (false, eval e env) :: starEach [] env := by intro _; rfl) :
    JE S (.Call (.Name "sorted" p) [e] [] pos) ρ (.L ys) :=
  je_callB (r := MyS.rSortedT S.K) (fun X h => by have := MyS.cr_sortedT (X := X); rw [h.K] at this; exact this) hg hm (by decide +kernel) (ja1 ha hs) (fun B H vs Q bh r k => by
    obtain ⟨v, rfl, rv⟩ := rp1 r
    cases rv with
    | tup ha hv =>
      rw [hv.nats] at ha
      refine ⟨_, _, rfl, SqT.of (bh _ _ ha), fun ns' q hp ho' hq => ?_⟩
      have e : ns' = ys.map fun (k : Nat) => (k : Int) := sort_uniq (hp.trans (hx.map _).symm) ho' (List.pairwise_map.mpr (ho.imp fun h => by omega))
      rw [e]
      exact k _ _ _ (Gr.new bh hq) (.lst upd_same (RpAll.ofNats _))) (by decide) (by decide) hs (fun _ => rfl)
theorem je_sortedN {xs ys : List Nat} (hm : S.mg "sorted" = none) (ha : JE S e ρ (.L xs)) (hx : ys.Perm xs) (ho : ys.Pairwise (· ≤ ·)) (hg : S.sc.names.lookup ("sorted" : Str) = some .globalImplicit := by rfl) (hs : ∀ env, starEach [e] env = (false, eval e env) :: starEach [] env := by intro _; rfl) :
    JE S (.Call (.Name "sorted" p) [e] [] pos) ρ (.L ys) := by
  have e1 : ∀ zs : List Nat, Dt.L zs = Dt.LI (zs.map fun (k : Nat) => (k : Int)) := fun zs => by
    show Dt.lst _ = Dt.lst _
    rw [List.map_map]
    rfl
  rw [e1 ys]
  rw [e1 xs] at ha
  exact je_sortedL hm ha ⟨hx.map _, List.pairwise_map.mpr (ho.imp fun h => by omega)⟩ hg hs
/-- l[1:] of a tuple, l[:-1], of a list -/
theorem rp_take {C : Addr} {B : Hp} : ∀ {vs : List V} {ds : List Dt} (n : Nat), RpAll C B vs ds → RpAll C B (vs.take n) (ds.take n)
  | _, _, 0, _ => by rw [List.take_zero, List.take_zero]; exact .nil
  | _, _, n + 1, .nil => .nil
  | _, _, n + 1, .cons h t => .cons h (rp_take n t)
theorem rp_drop {C : Addr} {B : Hp} : ∀ {vs : List V} {ds : List Dt} (n : Nat), RpAll C B vs ds → RpAll C B (vs.drop n) (ds.drop n)
  | _, _, 0, h => h
  | _, _, n + 1, .nil => .nil
  | _, _, n + 1, .cons _ t => rp_drop n t
def cutD (l : List Dt) (lo hi : Option Int) : List Dt := (l.drop (HT.sIx l.length 0 lo)).take (HT.sIx l.length l.length hi - HT.sIx l.length 0 lo)
theorem je_sliceL {lo hi : Option Expr} {i j : Option Int} {p2 : Pos} {tl th : TO} (ha : JE S e ρ (.lst l)) (hl : ∀ X, CtxOk S X → PO X lo tl) (hh : ∀ X, CtxOk S X → PO X hi th) (dl : ∀ σ H Q, Q i H → tl σ H Q) (dh : ∀ σ H Q, Q j H → th σ H Q) : JE S (.Subscript e (.Slice lo hi none p2) pos) ρ (.lst (cutD l i j)) :=
  je_of (t := L2.tSl (rSlL S.K) (wE S e) tl th) (fun X h => by have := pe_slice (X := X) (pos := pos) (p2 := p2) sl_list (wE_ok (e := e) h) (hl X h) (hh X h); rw [h.K] at this; exact this) fun B σ H E Q k => ha B σ H E _ fun x B1 H1 g1 r1 => by
    cases r1 with
    | @lst a vs _ hb hv =>
      refine dl _ _ _ (dh _ _ _ ⟨a, vs, rfl, SqL.of (g1.bh _ _ hb), fun q hq => k _ _ _ (g1.trans (Gr.new g1.bh hq)) (.lst upd_same ?_)⟩)
      unfold cutV cutD
      rw [← hv.length]
      exact rp_take _ (rp_drop _ (hv.mono (same_new (g1.bh.free hq))))
theorem po_i {X : Cx} {i : Int} {j pos} : PO X (some (.Constant (.int i) j pos)) (tPart (tC (.int i))) := po_some pe_int
theorem po_neg {X : Cx} {i : Int} {j pos pos2} : PO X (some (.UnaryOp .USub (.Constant (.int i) j pos) pos2)) (tPart (tUn (rU fun i => .int (-i)) (tC (.int i)))) := po_some (pe_un un_neg pe_int)
/-- e[1:] of a list -/
theorem je_tailL {p2 pc : Pos} {jc} {x : Dt} {l0 : List Dt} (ha : JE S e ρ (.lst (x :: l0))) : JE S (.Subscript e (.Slice (some (.Constant (.int 1) jc pc)) none none p2) pos) ρ (.lst l0) := by
  have := je_sliceL (pos := pos) (p2 := p2) (i := some 1) (j := none) ha (fun X _ => po_i (j := jc) (pos := pc)) (fun X _ => po_none) (fun _ _ _ q => ⟨1, rfl, q⟩) (fun _ _ _ q => q)
  have e : cutD (x :: l0) (some 1) none = l0 := by
    unfold cutD
    have e1 : HT.sIx (x :: l0).length 0 (some 1) = 1 := by
      have := HT.sIx_nat (x :: l0).length 0 1
      rw [show ((1 : Nat) : Int) = 1 from rfl] at this
      rw [this, List.length_cons]
      omega
    rw [e1, HT.sIx_none, List.drop_one, List.tail_cons, List.length_cons]
    simp
  rw [e] at this
  exact this
/-- e[1:] of a tuple of one item or more -/
theorem je_tailT {p2 pc : Pos} {jc} {x : Dt} {l0 : List Dt} (ha : JE S e ρ (.tup (x :: l0))) : JE S (.Subscript e (.Slice (some (.Constant (.int 1) jc pc)) none none p2) pos) ρ (.tup l0) :=
  je_of (t := L2.tSl (rSlA S.K) (wE S e) (tPart (tC (.int 1))) tNoPart) (fun X h => by have := pe_slice (X := X) (pos := pos) (p2 := p2) (lo := some (.Constant (.int 1) jc pc)) (hi := none) sl_tupA (wE_ok (e := e) h) po_i po_none; rw [h.K] at this; exact this) fun B σ H E Q k => ha B σ H E _ fun x' B1 H1 g1 r1 => by
    cases r1 with
    | @tup a vs _ hb hv =>
      refine ⟨1, rfl, a, vs, rfl, SqT.of (g1.bh _ _ hb), ?_⟩
      have e1 : HT.sIx vs.length 0 (some 1) = 1 := by
        have := HT.sIx_nat vs.length 0 1
        rw [show ((1 : Nat) : Int) = 1 from rfl] at this
        rw [this, hv.length, List.length_cons]
        omega
      have hlen : vs.length = l0.length + 1 := by rw [hv.length, List.length_cons]
      refine ⟨fun z => ?_, fun _ q hq => k _ _ _ (g1.trans (Gr.new g1.bh hq)) (.tup upd_same ?_)⟩
      · have z1 := z.1
        rw [e1] at z1
        cases z1
      · have e2 : cutV vs (some 1) none = vs.drop 1 := by
          unfold cutV
          rw [e1, HT.sIx_none]
          exact List.take_of_length_le (by rw [List.length_drop]; exact Nat.le_refl _)
        rw [e2]
        exact rp_drop 1 (hv.mono (same_new (g1.bh.free hq)))
/-- e[:-1] of a list -/
theorem je_initL {p2 pc pd : Pos} {jc} (ha : JE S e ρ (.lst l)) : JE S (.Subscript e (.Slice none (some (.UnaryOp .USub (.Constant (.int 1) jc pc) pd)) none p2) pos) ρ (.lst l.dropLast) := by
  have := je_sliceL (pos := pos) (p2 := p2) (i := none) (j := some (-1)) ha (fun X _ => po_none) (fun X _ => po_neg (i := 1) (j := jc) (pos := pc) (pos2 := pd)) (fun _ _ _ q => q) (fun _ _ _ q => ⟨1, rfl, -1, rfl, q⟩)
  have e : cutD l none (some (-1)) = l.dropLast := by
    unfold cutD
    have e1 : HT.sIx l.length l.length (some (-1)) = l.length - 1 := by
      unfold HT.sIx
      simp only []
      split <;> omega
    rw [e1, HT.sIx_none, List.drop_zero, Nat.sub_zero, List.dropLast_eq_take]
  rw [e] at this
  exact this
theorem je_catL {l2 : List Dt} (ha : JE S e1 ρ (.lst l)) (hb : JE S e2 ρ (.lst l2)) (hl : l.length + l2.length ≤ 10000) : JE S (.BinOp e1 .Add e2 pos) ρ (.lst (l ++ l2)) :=
  je_of (fun X h => pe_op op_cat (wE_ok h) (wE_ok h)) (ed_op ha hb fun B H v u Q bh r1 r2 k => by
    cases r1 with
    | lst h1 v1 =>
      cases r2 with
      | lst h2 v2 => exact ⟨_, _, _, _, rfl, rfl, bh _ _ h1, bh _ _ h2, by rw [v1.length, v2.length]; exact szl hl, fun q hq => k _ _ _ (Gr.new bh hq) (.lst upd_same ((v1.append v2).mono (same_new (bh.free hq))))⟩)
theorem je_catT {l2 : List Dt} (ha : JE S e1 ρ (.tup l)) (hb : JE S e2 ρ (.tup l2)) (hl : l.length + l2.length ≤ 10000) : JE S (.BinOp e1 .Add e2 pos) ρ (.tup (l ++ l2)) :=
  je_of (t := tOp (rCatA S.K) (wE S e1) (wE S e2)) (fun X h => by have := pe_op (X := X) (pos := pos) op_catA (wE_ok (e := e1) h) (wE_ok (e := e2) h); rw [h.K] at this; exact this) (ed_op ha hb fun B H v u Q bh r1 r2 k => by
    cases r1 with
    | @tup a vs _ h1 v1 =>
      cases r2 with
      | @tup c us _ h2 v2 =>
        refine ⟨a, c, vs, us, rfl, rfl, SqT.of (bh _ _ h1), SqT.of (bh _ _ h2), by rw [v1.length, v2.length]; exact szl hl, fun z => ?_, fun _ z => ?_, fun _ _ q hq => k _ _ _ (Gr.new bh hq) (.tup upd_same ((v1.append v2).mono (same_new (bh.free hq))))⟩
        · subst z
          cases v1
          exact k _ B H (Gr.refl bh) (.tup h2 v2)
        · subst z
          cases v2
          refine k _ B H (Gr.refl bh) ?_
          rw [List.append_nil]
          exact .tup h1 v1)
/-! ### isinstance of built-in kinds -/
def tyD : Dt → String
  | .non => "NoneType"
  | .bl _ => "bool"
  | .int _ => "int"
  | .str _ => "str"
  | .lst _ => "list"
  | .tup _ => "tuple"
  | _ => "object"
def tyOk : Dt → Bool
  | .bl _ => true
  | .int _ => true
  | .lst _ => true
  | .tup _ => true
  | .non => true
  | _ => false
theorem tyX_of {C : Addr} {K : PySem.W.Frag} {B H : Hp} {v : V} {d : Dt} (bh : Same B H) (r : Rp C B v d) (h : tyOk d = true) : TyX K H v (.type (tyD d)) := by
  cases r with
  | non => exact .base .non
  | bl b => exact .base (.bl b)
  | int i => exact .base (.int i)
  | str x => cases h
  | lst ha _ => exact .base (.lst (bh _ _ ha))
  | tup ha _ => exact .base (.tup (bh _ _ ha))
  | rk => cases h
  | cl => cases h
  | rng => cases h
/-- isinstance(e, T), T a built-in class by its name -/
theorem je_isi {x : Dt} {T : Str} {Tn : String} {pt : Pos} (hm : S.mg "isinstance" = none) (hT : S.mg T = none) (ha : JE S e ρ x) (hk : tyOk x = true) (hb : kitB (tyD x) Tn = some b) (hv : bootBuiltins T = some (.type Tn)) (hn : T ≠ "__name__" := by decide) (hd : (T == ("__debug__" : Str)) = false := by decide)
    (hg : S.sc.names.lookup ("isinstance" : Str) = some .globalImplicit := by rfl) (hgT : S.sc.names.lookup T = some .globalImplicit := by rfl) (hs : ∀ env, starEach [e, .Name T pt] env = (false, eval e env) :: starEach [.Name T pt] env := by intro _; rfl) :
    JE S (.Call (.Name "isinstance" p) [e, .Name T pt] [] pos) ρ (.bl b) :=
  je_of (t := tCB (rIsi S.K) (tCons (wE S e) (tCons (tC (.ty Tn)) tNil))) (fun X h => by
      have h0 := call_isi (X := X)
      rw [h.K] at h0
      exact pe_callB h0 (show X.env.scope.names.lookup ("isinstance" : Str) = _ by rw [h.sc]; exact hg) (by rw [h.mg]; exact hm) (by decide +kernel) (pa_cons (wE_ok h) (pa_cons (pe_bltn (v := .ty Tn) (show X.env.scope.names.lookup T = _ by rw [h.sc]; exact hgT) (by rw [h.mg]; exact hT) hv rfl hn hd) pa_nil) (hs _)) (by decide) (by decide) (hs _) rfl) fun B σ H E Q k => ha B σ H E _ fun v B1 H1 g1 r1 =>
    ⟨v, .ty Tn, .type (tyD x), .type Tn, b, rfl, .ty Tn, tyX_of g1.bh r1 hk, kit_ty hb, k _ B1 H1 g1 (.bl b)⟩
/-- isinstance(e, (list, tuple)) -/
theorem je_isi2 {x : Dt} {T U : Str} {Tn Un : String} {pt pu ptup : Pos} {kt : Nat} (hm : S.mg "isinstance" = none) (hT : S.mg T = none) (hU : S.mg U = none) (ha : JE S e ρ x) (hk : tyOk x = true) {b1 b2 : Bool} (hb1 : kitB (tyD x) Tn = some b1) (hb2 : kitB (tyD x) Un = some b2) (hv : bootBuiltins T = some (.type Tn)) (hv2 : bootBuiltins U = some (.type Un))
    (hn : T ≠ "__name__" := by decide) (hd : (T == ("__debug__" : Str)) = false := by decide) (hn2 : U ≠ "__name__" := by decide) (hd2 : (U == ("__debug__" : Str)) = false := by decide)
    (hg : S.sc.names.lookup ("isinstance" : Str) = some .globalImplicit := by rfl) (hgT : S.sc.names.lookup T = some .globalImplicit := by rfl) (hgU : S.sc.names.lookup U = some .globalImplicit := by rfl) (hs : ∀ env, starEach [e, .Tuple [.Name T pt, .Name U pu] kt ptup] env = (false, eval e env) :: starEach [.Tuple [.Name T pt, .Name U pu] kt ptup] env := by intro _; rfl) :
    JE S (.Call (.Name "isinstance" p) [e, .Tuple [.Name T pt, .Name U pu] kt ptup] [] pos) ρ (.bl (b1 || b2)) :=
  je_of (t := tCB (rIsiT S.K) (tCons (wE S e) (tCons (tTup (tCons (tC (.ty Tn)) (tCons (tC (.ty Un)) tNil))) tNil))) (fun X h => by
      have h0 := call_isiT (X := X)
      rw [h.K] at h0
      exact pe_callB h0 (show X.env.scope.names.lookup ("isinstance" : Str) = _ by rw [h.sc]; exact hg) (by rw [h.mg]; exact hm) (by decide +kernel) (pa_cons (wE_ok h) (pa_cons (pe_tup (pa_cons (pe_bltn (v := .ty Tn) (show X.env.scope.names.lookup T = _ by rw [h.sc]; exact hgT) (by rw [h.mg]; exact hT) hv rfl hn hd) (pa_cons (pe_bltn (v := .ty Un) (show X.env.scope.names.lookup U = _ by rw [h.sc]; exact hgU) (by rw [h.mg]; exact hU) hv2 rfl hn2 hd2) pa_nil))) pa_nil) (hs _)) (by decide) (by decide) (hs _) rfl) fun B σ H E Q k => ha B σ H E _ fun v B1 H1 g1 r1 => by
    refine ⟨szl (show 2 ≤ 10000 by decide), fun q hq => ?_⟩
    have gn := Gr.newH (o := .tup [.ty Tn, .ty Un]) g1.bh hq
    have key : PySem.W.kitAny S.K (.type (tyD x)) [.type Tn, .type Un] = some (b1 || b2) := by
      refine kitAny_cons (kit_ty hb1) (fun z => ?_) (fun z => by rw [z]; rfl)
      rw [z, Bool.false_or]
      exact kitAny_cons (kit_ty hb2) (fun z => by rw [z]; exact kitAny_nil) (fun z => z)
    exact ⟨v, q, [.ty Tn, .ty Un], .type (tyD x), [.type Tn, .type Un], _, rfl, upd_same, .cons (.ty Tn) (.cons (.ty Un) .nil), tyX_of gn.bh r1 hk, key, k _ B1 _ (g1.trans gn) (.bl _)⟩
end
end My

/-! # Fw7 -/
namespace My
open PySem L2
section
variable {S : SC} {ρ ρ' : List Sl} {d d' : Dt} {b b' : Bool} {ds l : List Dt} {e e1 e2 : Expr} {pos p : Pos} {es : List Expr} {N N' N1 : List Sl → Prop} {R R' : Dt → Prop} {BK CT : List Sl → Prop}
variable {scope : Scope} {elt c iter : Expr} {x y : Str} {px py pt : Pos} {kt : Nat}
theorem filt_true {α : Type} (xs : List α) : (xs.filter fun _ => true) = xs := List.filter_eq_self.mpr fun _ _ => rfl
/-- [elt for x in iter] -/
theorem je_lcM {α : Type} (i : Nat) (xs : List α) (enc : α → Dt) (g : α → Dt) (hi : JI S (.Name x px) iter ρ (xs.map enc)) (he : ∀ z ∈ xs, JE (S.blk scope) elt ((wipeR ρ [i]).set i (.v (enc z))) (g z)) (hl : xs.length ≤ 10000)
    (ok : blkC S.N S.sc scope [(x, i)] = true := by rfl) (hx : Lc (S.blk scope) i x := by first | exact ⟨rfl, .inl rfl, .inr rfl⟩ | exact ⟨rfl, .inr rfl, .inl rfl⟩) (hs : ∀ env x, foldedSetIterable iter env x = pure x := by intro _ _; rfl) :
    JE S (.ListComp elt [⟨.Name x px, iter, [], 0⟩] scope pos) ρ (.lst (xs.map g)) :=
  je_is (je_lc xs enc (fun _ => true) g [(x, i)] (js := [i]) hi (blkOk_by ok) (fun j h => h) (fun z => (wipeR ρ [i]).set i (.v (enc z))) (fun z _ => jg_name i hx) (fun _ _ => jts_nil) (fun z hz _ => he z hz) hl hs) (by rw [filt_true])
/-- [elt for x in iter if c] -/
theorem je_lcF {α : Type} (i : Nat) (xs : List α) (enc : α → Dt) (f : α → Bool) (g : α → Dt) (hi : JI S (.Name x px) iter ρ (xs.map enc)) (hc : ∀ z ∈ xs, JT (S.blk scope) c ((wipeR ρ [i]).set i (.v (enc z))) (f z)) (he : ∀ z ∈ xs, f z = true → JE (S.blk scope) elt ((wipeR ρ [i]).set i (.v (enc z))) (g z)) (hl : xs.length ≤ 10000)
    (ok : blkC S.N S.sc scope [(x, i)] = true := by rfl) (hx : Lc (S.blk scope) i x := by first | exact ⟨rfl, .inl rfl, .inr rfl⟩ | exact ⟨rfl, .inr rfl, .inl rfl⟩) (hs : ∀ env x, foldedSetIterable iter env x = pure x := by intro _ _; rfl) :
    JE S (.ListComp elt [⟨.Name x px, iter, [c], 0⟩] scope pos) ρ (.lst ((xs.filter f).map g)) :=
  je_lc xs enc f g [(x, i)] (js := [i]) hi (blkOk_by ok) (fun j h => h) (fun z => (wipeR ρ [i]).set i (.v (enc z))) (fun z _ => jg_name i hx) (fun z hz => jts_one (hc z hz)) he hl hs
/-- [elt for x, y in iter], the pairs (e1, e2) -/
theorem je_lcM2 {α : Type} (i j : Nat) (xs : List α) (enc1 enc2 : α → Dt) (g : α → Dt) (hi : JI S (.Tuple [.Name x px, .Name y py] kt pt) iter ρ (xs.map fun z => .tup [enc1 z, enc2 z])) (he : ∀ z ∈ xs, JE (S.blk scope) elt (((wipeR ρ [i, j]).set i (.v (enc1 z))).set j (.v (enc2 z))) (g z)) (hl : xs.length ≤ 10000)
    (ok : blkC S.N S.sc scope [(x, i), (y, j)] = true := by rfl) (hx : Lc (S.blk scope) i x := by first | exact ⟨rfl, .inl rfl, .inr rfl⟩ | exact ⟨rfl, .inr rfl, .inl rfl⟩) (hy : Lc (S.blk scope) j y := by first | exact ⟨rfl, .inl rfl, .inr rfl⟩ | exact ⟨rfl, .inr rfl, .inl rfl⟩) (hs : ∀ env x, foldedSetIterable iter env x = pure x := by intro _ _; rfl) :
    JE S (.ListComp elt [⟨.Tuple [.Name x px, .Name y py] kt pt, iter, [], 0⟩] scope pos) ρ (.lst (xs.map g)) :=
  je_is (je_lc xs (fun z => .tup [enc1 z, enc2 z]) (fun _ => true) g [(x, i), (y, j)] (js := [i, j]) hi (blkOk_by ok) (fun j h => h) (fun z => ((wipeR ρ [i, j]).set i (.v (enc1 z))).set j (.v (enc2 z))) (fun z _ => jg_pair i j hx hy) (fun _ _ => jts_nil) (fun z hz _ => he z hz) hl hs) (by rw [filt_true])
theorem je_lcF2 {α : Type} (i j : Nat) (xs : List α) (enc1 enc2 : α → Dt) (f : α → Bool) (g : α → Dt) (hi : JI S (.Tuple [.Name x px, .Name y py] kt pt) iter ρ (xs.map fun z => .tup [enc1 z, enc2 z])) (hc : ∀ z ∈ xs, JT (S.blk scope) c (((wipeR ρ [i, j]).set i (.v (enc1 z))).set j (.v (enc2 z))) (f z)) (he : ∀ z ∈ xs, f z = true → JE (S.blk scope) elt (((wipeR ρ [i, j]).set i (.v (enc1 z))).set j (.v (enc2 z))) (g z)) (hl : xs.length ≤ 10000)
    (ok : blkC S.N S.sc scope [(x, i), (y, j)] = true := by rfl) (hx : Lc (S.blk scope) i x := by first | exact ⟨rfl, .inl rfl, .inr rfl⟩ | exact ⟨rfl, .inr rfl, .inl rfl⟩) (hy : Lc (S.blk scope) j y := by first | exact ⟨rfl, .inl rfl, .inr rfl⟩ | exact ⟨rfl, .inr rfl, .inl rfl⟩) (hs : ∀ env x, foldedSetIterable iter env x = pure x := by intro _ _; rfl) :
    JE S (.ListComp elt [⟨.Tuple [.Name x px, .Name y py] kt pt, iter, [c], 0⟩] scope pos) ρ (.lst ((xs.filter f).map g)) :=
  je_lc xs (fun z => .tup [enc1 z, enc2 z]) f g [(x, i), (y, j)] (js := [i, j]) hi (blkOk_by ok) (fun j h => h) (fun z => ((wipeR ρ [i, j]).set i (.v (enc1 z))).set j (.v (enc2 z))) (fun z _ => jg_pair i j hx hy) (fun z hz => jts_one (hc z hz)) he hl hs
/-- v = [elt for x in iter] -/
theorem js_setM {α : Type} (k i : Nat) {v : Str} {pv spos : Pos} (xs : List α) (enc : α → Dt) (g : α → Dt) (hi : JI S (.Name x px) iter ρ (xs.map enc)) (he : ∀ z ∈ xs, JE (S.blk scope) elt ((wipeR ρ [i]).set i (.v (enc z))) (g z)) (hl : xs.length ≤ 10000)
    (ok : blkC S.N S.sc scope [(x, i)] = true := by rfl) (hx : Lc (S.blk scope) i x := by first | exact ⟨rfl, .inl rfl, .inr rfl⟩ | exact ⟨rfl, .inr rfl, .inl rfl⟩)
    (hy : S.N[k]? = some v := by rfl) (hyl : S.sc.names.lookup v = some .local := by rfl) (hk : S.sc.kind = .function := by rfl) (hln : (pv.line == pos.line) = true := by rfl) (hnot : (scope.names.any fun (n, k) => n == v && (k == .local || k == .cell)) = false := by rfl)
    (hs : ∀ env x, foldedSetIterable iter env x = pure x := by intro _ _; rfl) :
    JS S (.Assign [.Name v pv] (.ListComp elt [⟨.Name x px, iter, [], 0⟩] scope pos) spos) ρ (fun z => z = ρ.set k (.v (.lst (xs.map g)))) R BK CT :=
  SD.imp (js_setLc k xs enc (fun _ => true) g [(x, i)] (js := [i]) hi (blkOk_by ok) (fun j h => h) (fun z => (wipeR ρ [i]).set i (.v (enc z))) (fun z _ => jg_name i hx) (fun _ _ => jts_nil) (fun z hz _ => he z hz) hl hy hyl hk hln hnot hs) (fun z e => by rw [e, filt_true]) (fun _ h => h)
theorem js_setF {α : Type} (k i : Nat) {v : Str} {pv spos : Pos} (xs : List α) (enc : α → Dt) (f : α → Bool) (g : α → Dt) (hi : JI S (.Name x px) iter ρ (xs.map enc)) (hc : ∀ z ∈ xs, JT (S.blk scope) c ((wipeR ρ [i]).set i (.v (enc z))) (f z)) (he : ∀ z ∈ xs, f z = true → JE (S.blk scope) elt ((wipeR ρ [i]).set i (.v (enc z))) (g z)) (hl : xs.length ≤ 10000)
    (ok : blkC S.N S.sc scope [(x, i)] = true := by rfl) (hx : Lc (S.blk scope) i x := by first | exact ⟨rfl, .inl rfl, .inr rfl⟩ | exact ⟨rfl, .inr rfl, .inl rfl⟩)
    (hy : S.N[k]? = some v := by rfl) (hyl : S.sc.names.lookup v = some .local := by rfl) (hk : S.sc.kind = .function := by rfl) (hln : (pv.line == pos.line) = true := by rfl) (hnot : (scope.names.any fun (n, k) => n == v && (k == .local || k == .cell)) = false := by rfl)
    (hs : ∀ env x, foldedSetIterable iter env x = pure x := by intro _ _; rfl) :
    JS S (.Assign [.Name v pv] (.ListComp elt [⟨.Name x px, iter, [c], 0⟩] scope pos) spos) ρ (fun z => z = ρ.set k (.v (.lst ((xs.filter f).map g)))) R BK CT :=
  js_setLc k xs enc f g [(x, i)] (js := [i]) hi (blkOk_by ok) (fun j h => h) (fun z => (wipeR ρ [i]).set i (.v (enc z))) (fun z _ => jg_name i hx) (fun z hz => jts_one (hc z hz)) he hl hy hyl hk hln hnot hs
/-- for x in iter -/
theorem js_forN {α : Type} {body : List Stmt} (i : Nat) (xs : List α) (enc : α → Dt) (hi : JI S (.Name x px) iter ρ (xs.map enc)) (inv : Nat → List Sl → Prop) (h0 : inv 0 ρ)
    (hb : ∀ k z ρ', xs[k]? = some z → inv k ρ' → JB S body (ρ'.set i (.v (enc z))) (inv (k + 1)) R N (inv (k + 1))) (hN : ∀ ρ', inv xs.length ρ' → N ρ') (hx : Lc S i x := by first | exact ⟨rfl, .inl rfl, .inr rfl⟩ | exact ⟨rfl, .inr rfl, .inl rfl⟩) (hs : ∀ env x, foldedSetIterable iter env x = pure x := by intro _ _; rfl) :
    JS S (.For (.Name x px) iter body [] pos) ρ N R BK CT :=
  js_for xs enc hi inv h0 (fun k z ρ' hz iv => ⟨_, _, jg_name i hx, hb k z ρ' hz iv⟩) hN hs
theorem js_forP {α : Type} {body : List Stmt} (i j : Nat) (xs : List α) (enc1 enc2 : α → Dt) (hi : JI S (.Tuple [.Name x px, .Name y py] kt pt) iter ρ (xs.map fun z => .tup [enc1 z, enc2 z])) (inv : Nat → List Sl → Prop) (h0 : inv 0 ρ)
    (hb : ∀ k z ρ', xs[k]? = some z → inv k ρ' → JB S body ((ρ'.set i (.v (enc1 z))).set j (.v (enc2 z))) (inv (k + 1)) R N (inv (k + 1))) (hN : ∀ ρ', inv xs.length ρ' → N ρ') (hx : Lc S i x := by first | exact ⟨rfl, .inl rfl, .inr rfl⟩ | exact ⟨rfl, .inr rfl, .inl rfl⟩) (hy : Lc S j y := by first | exact ⟨rfl, .inl rfl, .inr rfl⟩ | exact ⟨rfl, .inr rfl, .inl rfl⟩) (hs : ∀ env x, foldedSetIterable iter env x = pure x := by intro _ _; rfl) :
    JS S (.For (.Tuple [.Name x px, .Name y py] kt pt) iter body [] pos) ρ N R BK CT :=
  js_for xs (fun z => .tup [enc1 z, enc2 z]) hi inv h0 (fun k z ρ' hz iv => ⟨_, _, jg_pair i j hx hy, hb k z ρ' hz iv⟩) hN hs

/-! ### the class Rank -/
structure RkF (G : Gx) : Prop where
  mg : G.mg "Rank" = some (.ref G.C)
  cls : SlX.SCls G.K G.C
  sW : ∃ q, SlX.Slot1 G.K G.C "worlds" q 2
  sC : ∃ q, SlX.Slot1 G.K G.C "cells" q 0
  sL : ∃ q, SlX.Slot1 G.K G.C "levels" q 1
  isi : SlX.SIsi G.K G.C
theorem rk_slt {C : Addr} {B H : Hp} {v : V} {L : List Nat} (bh : Same B H) (r : Rp C B v (.rk L)) : ∃ a dx c l, v = .ref a ∧ SlX.Slt H a C dx [some (.ref c), some (.ref l), some (.int (L.length : Nat))] ∧ Rp C B (.ref c) (Dt.TT (cellsOf L)) ∧ Rp C B (.ref l) (Dt.T L) := by
  cases r with
  | @rk a dx c l _ h1 h2 h3 h4 => exact ⟨a, dx, c, l, rfl, .inr ⟨bh _ _ h1, bh _ _ h2⟩, h3, h4⟩
theorem je_worlds {L : List Nat} (F : RkF S.toGx) (h : JE S e ρ (.rk L)) (hb : ∀ env, attributeBase e "worlds" env (eval e env) = eval e env := by intro _; rfl) : JE S (.Attribute e "worlds" pos) ρ (.n L.length) :=
  je_of (t := SlX.tSl S.K (wE S e) "worlds") (fun X hx => by have := SlX.pe_sl (X := X) (f := "worlds") (pos := pos) (wE_ok (e := e) hx) (hb _); rw [hx.K] at this; exact this) fun B σ H E Q k => h B σ H E _ fun v B1 H1 g1 r1 => by
    obtain ⟨a, dx, c, l, rfl, hs, rc, rl⟩ := rk_slt g1.bh r1
    obtain ⟨q, sq⟩ := F.sW
    exact ⟨a, S.C, dx, q, _, 2, _, rfl, hs, F.cls, sq, rfl, k _ B1 H1 g1 (.int _)⟩
theorem je_cells {L : List Nat} (F : RkF S.toGx) (h : JE S e ρ (.rk L)) (hb : ∀ env, attributeBase e "cells" env (eval e env) = eval e env := by intro _; rfl) : JE S (.Attribute e "cells" pos) ρ (.TT (cellsOf L)) :=
  je_of (t := SlX.tSl S.K (wE S e) "cells") (fun X hx => by have := SlX.pe_sl (X := X) (f := "cells") (pos := pos) (wE_ok (e := e) hx) (hb _); rw [hx.K] at this; exact this) fun B σ H E Q k => h B σ H E _ fun v B1 H1 g1 r1 => by
    obtain ⟨a, dx, c, l, rfl, hs, rc, rl⟩ := rk_slt g1.bh r1
    obtain ⟨q, sq⟩ := F.sC
    exact ⟨a, S.C, dx, q, _, 0, _, rfl, hs, F.cls, sq, rfl, k _ B1 H1 g1 rc⟩
theorem je_levels {L : List Nat} (F : RkF S.toGx) (h : JE S e ρ (.rk L)) (hb : ∀ env, attributeBase e "levels" env (eval e env) = eval e env := by intro _; rfl) : JE S (.Attribute e "levels" pos) ρ (.T L) :=
  je_of (t := SlX.tSl S.K (wE S e) "levels") (fun X hx => by have := SlX.pe_sl (X := X) (f := "levels") (pos := pos) (wE_ok (e := e) hx) (hb _); rw [hx.K] at this; exact this) fun B σ H E Q k => h B σ H E _ fun v B1 H1 g1 r1 => by
    obtain ⟨a, dx, c, l, rfl, hs, rc, rl⟩ := rk_slt g1.bh r1
    obtain ⟨q, sq⟩ := F.sL
    exact ⟨a, S.C, dx, q, _, 1, _, rfl, hs, F.cls, sq, rfl, k _ B1 H1 g1 rl⟩
/-- a def told by what it promises of positional values (methods) -/
def CalR (G : Gx) (k : Nat) (f : Addr) (Rel : List Dt → Dt → Prop) : Prop := FnR G.P G.w G.K G.mg G.base CX0 k f (spD G.C Rel)
structure PropAt (G : Gx) (f : Str) (k : Nat) (Rel : List Dt → Dt → Prop) : Prop where
  ex : ∃ q g, PySem.W.findIn G.K (.ref G.C) f = some (some (.ref q)) ∧ PySem.W.specialIn G.K (.ref q) "__get__" = some (some (.builtin "property.__get__")) ∧ PySem.W.takesIn G.K (.ref q) = some true ∧ (∃ rest, PySem.W.recIn G.K q "property" = some (.ref g :: rest)) ∧ CalR G k g Rel
theorem je_prop {f : Str} {L : List Nat} {k : Nat} {Rel : List Dt → Dt → Prop} (F : RkF S.toGx) (c : PropAt S.toGx f k Rel) (h : JE S e ρ (.rk L)) (hr : Rel [.rk L] d) (hk : k + 1 ≤ S.k := by exact Nat.le_of_ble_eq_true rfl) (hb : ∀ env, attributeBase e f env (eval e env) = eval e env := by intro _; rfl) : JE S (.Attribute e f pos) ρ d := by
  obtain ⟨q, g, h1, h2, h3, h4, h5⟩ := c.ex
  refine je_of (t := SlX.tPropSl S.C (spD S.C Rel) E0 (wE S e)) (fun X hx => ?_) fun B σ H E Q kq => h B σ H E _ fun v B1 H1 g1 r1 => ?_
  · have F' : FnR X.prog X.w X.K X.mg X.base CX0 k g (spD S.C Rel) := by rw [hx.prog, hx.w, hx.K, hx.mg, hx.base]; exact h5
    exact SlX.pe_propSl (wE_ok hx) (by rw [hx.K]; exact F.cls) (by rw [hx.K]; exact h1) (by rw [hx.K]; exact h2) (by rw [hx.K]; exact h3) (by rw [hx.K]; exact h4) F' (hx.room.mono hk) (fun _ _ _ _ z => z) (hb _)
  · obtain ⟨a, dx, c', l, rfl, hs, rc, rl⟩ := rk_slt g1.bh r1
    exact ⟨a, dx, _, rfl, hs, B1, [.rk L], d, g1.bh, .cons r1 .nil, hr, fun y B' H' g' r => kq y B' H' (g1.trans g') r⟩
/-- x == y of two ranks, by Rank.__eq__ -/
structure EqAtR (G : Gx) (k : Nat) (Rel : List Dt → Dt → Prop) : Prop where
  ex : ∃ g, PySem.W.findIn G.K (.ref G.C) (cmpInfo .Eq).2.1 = some (some (.ref g)) ∧ PySem.W.isFn G.K (.ref g) = true ∧ CalR G k g Rel
theorem jt_eqR {L M : List Nat} {k : Nat} {Rel : List Dt → Dt → Prop} (F : RkF S.toGx) (c : EqAtR S.toGx k Rel) (h1 : JE S e1 ρ (.rk L)) (h2 : JE S e2 ρ (.rk M)) (hr : Rel [.rk L, .rk M] (.bl b)) (hk : k ≤ S.k := by exact Nat.le_of_ble_eq_true rfl) : JT S (.Compare e1 [.Eq] [e2] pos) ρ b := by
  obtain ⟨g, q1, q2, q3⟩ := c.ex
  refine jt_cmpR (r := SlX.rOwn S.K S.C (spD S.C Rel) E0) (fun X hx => ?_) h1 h2 (nomark _) fun B H v u Q bh r1 r2 kq => ?_
  · have F' : FnR X.prog X.w X.K X.mg X.base CX0 k g (spD S.C Rel) := by rw [hx.prog, hx.w, hx.K, hx.mg, hx.base]; exact q3
    have := SlX.op_own (X := X) (op := .Eq) (C := S.C) (g := g) (fun _ _ => rfl) (by rw [hx.K]; exact q1) (by rw [hx.K]; exact q2) F' (hx.room.mono hk) pass0
    rw [hx.K] at this
    exact this
  · obtain ⟨a, dx, c1, l1, rfl, hs1, _, _⟩ := rk_slt bh r1
    obtain ⟨a2, dx2, c2, l2, rfl, hs2, _, _⟩ := rk_slt bh r2
    refine ⟨a, dx, _, a2, S.C, dx2, _, rfl, rfl, hs1, hs2, ?_, B, [.rk L, .rk M], .bl b, bh, .cons r1 (.cons r2 .nil), hr, fun y B' H' g' r => kq y B' H' g' r⟩
    unfold PySem.W.notFirst
    simp
/-- isinstance(x, Rank) -/
theorem je_isiR {L : List Nat} {pt : Pos} (F : RkF S.toGx) (hm : S.mg "isinstance" = none) (h : JE S e ρ (.rk L)) (hg : S.sc.names.lookup ("isinstance" : Str) = some .globalImplicit := by rfl) (hgT : S.sc.names.lookup ("Rank" : Str) = some .globalImplicit := by rfl)
    (hs : ∀ env, starEach [e, .Name "Rank" pt] env = (false, eval e env) :: starEach [.Name "Rank" pt] env := by intro _; rfl) : JE S (.Call (.Name "isinstance" p) [e, .Name "Rank" pt] [] pos) ρ (.bl true) :=
  je_of (t := tCB (SlX.rIsiSl S.K (.ref S.C)) (tCons (wE S e) (tCons (tC (.ref S.C)) tNil))) (fun X hx => by
      have h0 := SlX.call_isiSl (X := X) (.ref S.C)
      rw [hx.K] at h0
      exact pe_callB h0 (show X.env.scope.names.lookup ("isinstance" : Str) = _ by rw [hx.sc]; exact hg) (by rw [hx.mg]; exact hm) (by decide +kernel) (pa_cons (wE_ok hx) (pa_cons (pe_glob (v := .ref S.C) (u := .ref S.C) (show X.env.scope.names.lookup ("Rank" : Str) = _ by rw [hx.sc]; exact hgT) (by rw [hx.mg]; exact F.mg) rfl) pa_nil) (hs _)) (by decide) (by decide) (hs _) rfl) fun B σ H E Q k => h B σ H E _ fun v B1 H1 g1 r1 => by
    obtain ⟨a, dx, c, l, rfl, hs', _, _⟩ := rk_slt g1.bh r1
    refine ⟨a, S.C, dx, _, .ref S.C, true, rfl, rfl, fun w z => z, hs', F.cls, F.isi, ?_, k _ B1 H1 g1 (.bl true)⟩
    unfold PySem.W.kitOne
    rw [if_pos (by simp)]
end
end My

/-! # Rk1 -/
namespace L2
open PySem PySem.Spec PyProof.Rows
section
variable {X : Cx}
theorem cr_range1 : CallR X (.type "range") (fun vs H Q => ∃ j, vs = [V.int j] ∧ ∀ p, H p = none → Q (.ref p) (upd H p (.rng 0 j))) := by
  rintro pins st σ H _ us Go Iv rel ⟨j, rfl, go⟩
  obtain ⟨u, rfl, tk, rfl⟩ := vals1 rel
  exact call_range_1 ⟨.ref st.heap.objs.size, upd H st.heap.objs.size (.rng 0 j), Iv.laid (fun b ob m => Heap.get?_push_of_some _ m) (Nat.le_refl _) ⟨_, _, _, Heap.get?_push_size _ rfl⟩, rfl, go _ (Iv.hok.fresh (Nat.le_refl _))⟩
theorem cr_lenRng : CallR X (.builtin "len") (fun xs H Q => ∃ p n, xs = [.ref p] ∧ H p = some (.rng 0 (n : Nat)) ∧ n ≤ 10000 ∧ Q (.int (n : Nat)) H) := by
  rintro pins st σ H _ us Go Iv rel ⟨p, n, rfl, at_, hn, go⟩
  obtain ⟨u, rfl, rfl⟩ := vals1 rel
  obtain ⟨t1, t2, t3, obj⟩ := Iv.hok p _ at_
  refine call_len_range (n := n) obj ?_ (by omega) ⟨.int n, H, Iv.tok _, ⟨_, rfl⟩, go⟩
  have := rangeSize_nat 0 (n : Int)
  rw [this]
  omega
/-- a range object, walked -/
def iRngV (te : TE) : TI := fun σ H R => te σ H fun x H1 => ∃ a n, x = .ref a ∧ H1 a = some (.rng 0 (n : Nat)) ∧ n ≤ 10000 ∧ R (Itr 0 n) H1
theorem pi_rngV {tg e : Expr} {te : TE} (he : PE X e te) : PI X tg e (iRngV te) := by
  refine ⟨fun pins st σ H R Iv h => thn (he.run pins st σ H _ Iv h) fun u st1 ⟨x, H1, I1, rx, a, n, ex, at_, hn, go⟩ => ?_⟩
  subst ex
  cases rx
  obtain ⟨t1, t2, t3, obj⟩ := I1.hok a _ at_
  have step : Builtin.Range.rangeSize 0 n 1 = ((n : Nat) : Int) - ((0 : Nat) : Int) := by rw [rangeSize_one]; split <;> omega
  have last : st1.heap.objs.size ≤ st1.heap.objs.size := Nat.le_refl _
  refine wpAny_pyIter_range obj (small_one (by omega) (by omega) (by omega) (by omega)) ⟨st1.heap.objs.size, [st1.heap.objs.size], _, _, H1, rfl, I1.kept (t' := st1.toks) fun b ob m => Heap.get?_push_of_some _ m, turn_range _ 0 n, (?_ : IsRangeIter _ _ ((0 : Int) + ((0 : Nat) : Int) * 1) (((n : Nat) : Int) - ((0 : Nat) : Int)) 1), fun b m => List.mem_singleton.mp m ▸ I1.fpOk last (I1.hok.fresh last), go⟩
  rw [show (0 : Int) + ((0 : Nat) : Int) * 1 = 0 by simp, ← step]
  exact Heap.get?_push_size _ rfl
end
end L2

/-! # D0 -/
namespace My
open PySem L2
def top (i : Nat) : Stmt := PySem.Challenge.pw_newsbooks_k78_whole_levels_and_sinks_rea.main.body.getD i (.Pass ⟨0, 0, 0, 0⟩)
/-- the built-in names that the module does not bind -/
structure Bt (G : Gx) : Prop where
  isi : G.mg "isinstance" = none
  int : G.mg "int" = none
  bool : G.mg "bool" = none
  list : G.mg "list" = none
  tuple : G.mg "tuple" = none
  len : G.mg "len" = none
  sorted : G.mg "sorted" = none
  range : G.mg "range" = none
  enum : G.mg "enumerate" = none
  zip : G.mg "zip" = none
  set : G.mg "set" = none
  sum : G.mg "sum" = none
  min : G.mg "min" = none
  max : G.mg "max" = none
  all : G.mg "all" = none
  any : G.mg "any" = none
theorem map_bl {α : Type} (xs : List α) (f : α → Bool) : (xs.filter fun _ => true).map (fun x => Dt.bl (f x)) = (xs.map f).map Dt.bl := by
  rw [List.filter_eq_self.mpr (fun _ _ => rfl), List.map_map]
  rfl
variable {G : Gx}
theorem sc_inside : FnScope ["one", "other", "x"] ["one", "other"] (defScope (top 19)) := ⟨rfl, rfl, rfl, by decide +kernel, rfl, by decide +kernel, by decide +kernel⟩
def RInside (ds : List Dt) (d : Dt) : Prop := ∃ a b : List Nat, ds = [.T a, .T b] ∧ a.length ≤ 100 ∧ d = .bl (a.all fun x => decide (x ∈ b))
theorem ok_inside (Z : Bt G) (D : DefAt G "inside" "inside" (top 19)) : Callee G "inside" 1 ["one", "other"] RInside := by
  refine callee_of D sc_inside (fun _ _ _ _ _ _ us hl => match us, hl with | [_, _], _ => rfl) (fun ds d ⟨_, _, e, _⟩ => by rw [e]; rfl) fun ds d ⟨a, b, e, hl, ed⟩ => ?_
  subst e ed
  show JB _ _ [.v (.T a), .v (.T b), .un] _ _ _ _
  refine jb_one (js_ret (je_is (je_all Z.all (je_is (je_lc a Dt.n (fun _ => true) (fun x => .bl (decide (x ∈ b))) [("x", 2)] (js := [2]) (ji_seq (je_var 0) (.inl rfl)) (blkOk_by (Eq.refl true)) (by decide) (fun x => [.v (.T a), .v (.T b), .v (.n x)])
    (fun x _ => jg_name 2) (fun _ _ => jts_nil) (fun x _ _ => je_in (je_var 2) (je_var 1) (.inl rfl)) (by omega)) (congrArg Dt.lst (map_bl a _)))) ?_) rfl)
  rw [List.all_map]
  rfl
end My

/-! # Rk2 -/
namespace My
open PySem L2
section
variable {S : SC} {ρ ρ' : List Sl} {d d' : Dt} {b b' : Bool} {ds l : List Dt} {e e1 e2 tg : Expr} {pos p : Pos} {es : List Expr}
theorem je_rangeV {n : Nat} (hm : S.mg "range" = none) (ha : JE S e ρ (.n n)) (hg : S.sc.names.lookup ("range" : Str) = some .globalImplicit := by rfl) (hs : ∀ env, starEach [e] env = (false, eval e env) :: starEach [] env := by intro _; rfl) : JE S (.Call (.Name "range" p) [e] [] pos) ρ (.rng n) :=
  je_callTy (r := fun vs H Q => ∃ j, vs = [V.int j] ∧ ∀ p, H p = none → Q (.ref p) (upd H p (.rng 0 j))) (fun X h => cr_range1) hg hm (by decide +kernel) (ja1 ha hs) (fun B H vs Q bh r k => by
    obtain ⟨v, rfl, rv⟩ := rp1 r
    cases rv
    exact ⟨_, rfl, fun q hq => k _ _ _ (Gr.new bh hq) (.rng upd_same)⟩) (by decide) (by decide) hs (fun _ => rfl)
theorem je_lenRng {n : Nat} (hm : S.mg "len" = none) (ha : JE S e ρ (.rng n)) (hn : n ≤ 10000) (hg : S.sc.names.lookup ("len" : Str) = some .globalImplicit := by rfl) (hs : ∀ env, starEach [e] env = (false, eval e env) :: starEach [] env := by intro _; rfl) : JE S (.Call (.Name "len" p) [e] [] pos) ρ (.n n) :=
  je_callB (r := fun xs H Q => ∃ p n, xs = [.ref p] ∧ H p = some (.rng 0 (n : Nat)) ∧ n ≤ 10000 ∧ Q (.int (n : Nat)) H) (fun X h => cr_lenRng) hg hm PySem.boot_len (ja1 ha hs) (fun B H vs Q bh r k => by
    obtain ⟨v, rfl, rv⟩ := rp1 r
    cases rv with
    | rng h => exact ⟨_, n, rfl, bh _ _ h, hn, k _ B H (Gr.refl bh) (.int _)⟩) (by decide) (by decide) hs (fun _ => rfl)
theorem ji_rng {n : Nat} (ha : JE S e ρ (.rng n)) (hn : n ≤ 10000) : JI S tg e ρ ((List.range n).map Dt.n) :=
  ji_of (t := iRngV (wE S e)) (fun X h => pi_rngV (wE_ok h)) fun B σ H E Rr k => ha B σ H E _ fun v B1 H1 g1 r1 => by
    cases r1 with
    | rng h =>
      refine ⟨_, n, rfl, g1.bh _ _ h, hn, ?_⟩
      have z := itr_of (C := S.C) (B1 := B1) (lo := 0) (n := n)
      have e1 : ((List.range n).map fun k => Dt.n (0 + k)) = (List.range n).map Dt.n := List.map_congr_left fun i _ => by rw [Nat.zero_add]
      rw [e1] at z
      exact k _ B1 H1 g1 z
/-- a new Rank -/
def spInit (C : Addr) (Rel : List Dt → List Nat → Prop) : Sp := fun vs H Q _ => ∃ (a dx : Addr) (ws : List V) (B : Hp) (ds : List Dt) (L : List Nat), vs = .ref a :: ws ∧ H a = some (.ins C dx []) ∧ H dx = some (.own a) ∧ dx ≠ a ∧ B a = none ∧ B dx = none ∧ Same B H ∧ RpAll C B ws ds ∧ Rel ds L ∧
  ∀ B' H', Same B B' → (∀ p o, p ≠ a → p ≠ dx → H p = some o → H' p = some o) → Same B' H' → (∀ p, H p ≠ none → B p = none → p ≠ a → p ≠ dx → B' p = none) → Rp C B' (.ref a) (.rk L) → Q .non H'
structure MkAt (G : Gx) (k : Nat) (Rel : List Dt → List Nat → Prop) : Prop where
  ex : ∃ f fd ps, Mk G.K G.C f ∧ FnOk G.P G.w G.K G.mg G.base CX0 k f fd ps (spInit G.C Rel) ∧ Binds G.K fd ps []
theorem ed_make {C : Addr} {ta : TA} {Rel : List Dt → List Nat → Prop} {L : List Nat} (ha : AD C ta ρ ds) (hr : Rel ds L) : ED C (tMake C (spInit C Rel) [] E0 ta) ρ (.rk L) := fun B σ H E Q k => ha B σ H E _ fun vs B1 H1 g1 r1 x dx hx hd ne => by
  rw [List.append_nil]
  have g2 : Gr B1 H1 B1 (upd (upd H1 dx (.own x)) x (.ins C dx [])) := by
    have ga := Gr.newH (o := .own x) g1.bh hd
    exact ga.trans (Gr.newH ga.bh (by rw [upd_ne (Ne.symm ne)]; exact hx))
  refine ⟨x, dx, vs, B1, ds, L, rfl, upd_same, by rw [upd_ne ne, upd_same], ne, g1.bh.free hx, g1.bh.free hd, g2.bh, r1, hr, fun B' H' s1 s2 s3 s4 r' => ⟨rfl, k _ B' H' (g1.trans ⟨s1, fun p o h => ?_, s3, fun p h1 h2 => ?_⟩) r'⟩⟩
  · have h1 : p ≠ x := ne_of_none h hx
    have h2 : p ≠ dx := ne_of_none h hd
    exact s2 p o h1 h2 (by rw [upd_ne h1, upd_ne h2]; exact h)
  · have q1 : p ≠ x := fun z => h1 (by rw [z]; exact hx)
    have q2 : p ≠ dx := fun z => h1 (by rw [z]; exact hd)
    exact s4 p (by rw [upd_ne q1, upd_ne q2]; exact h1) h2 q1 q2
/-- Rank(e, ..) -/
theorem je_make {k : Nat} {L : List Nat} {Rel : List Dt → List Nat → Prop} (F : RkF S.toGx) (M : MkAt S.toGx k Rel) (ha : JA S (e :: es) ρ ds) (hr : Rel ds L) (hk : k + 1 ≤ S.k := by exact Nat.le_of_ble_eq_true rfl) (hg : S.sc.names.lookup ("Rank" : Str) = some .globalImplicit := by rfl)
    (he : ∀ env, starEach (e :: es) env = (false, eval e env) :: starEach es env := by intro _; rfl) (hpl : ∀ env, (backTo pos (starEach es env)).any (·.1) = false := by intro _; rfl) : JE S (.Call (.Name "Rank" p) (e :: es) [] pos) ρ (.rk L) := by
  obtain ⟨f, fd, ps, hM, hF, hb⟩ := M.ex
  refine je_of (t := tMake S.C (spInit S.C Rel) [] E0 (wA S (e :: es))) (fun X h => ?_) (ed_make ha hr)
  have F' : FnOk X.prog X.w X.K X.mg X.base CX0 k f fd ps (spInit S.C Rel) := by rw [h.prog, h.w, h.K, h.mg, h.base]; exact hF
  exact pe_make (by rw [h.K]; exact hM) F' (h.room.mono hk) (show X.env.scope.names.lookup ("Rank" : Str) = _ by rw [h.sc]; exact hg) (by rw [h.mg]; exact F.mg) (by rw [h.K]; exact hb) .nil pass0 (wA_ok h) (by decide) (he _) (hpl _)
end
end My

/-! # M1 -/
namespace My
/-! ### plain law: dense lists of levels -/
def lv (L : List Nat) (w : Nat) : Nat := L.getD w 0
structure Dn (L : List Nat) : Prop where
  pos : 0 < L.length
  dn : ∀ w, w < L.length → ∀ v, v < lv L w → ∃ u, u < L.length ∧ lv L u = v
structure Den (M : List Nat) (n : Nat) (lt : Nat → Nat → Prop) : Prop where
  len : M.length = n
  dn : Dn M
  ord : ∀ u w, u < n → w < n → (lv M u < lv M w ↔ lt u w)
theorem Dn.den {L : List Nat} (h : Dn L) : Den L L.length fun u w => lv L u < lv L w := ⟨rfl, h, fun _ _ _ _ => Iff.rfl⟩
theorem ext_lv {L M : List Nat} (hl : L.length = M.length) (h : ∀ w, w < L.length → lv L w = lv M w) : L = M := by
  apply List.ext_getElem hl
  intro i h1 h2
  have := h i h1
  simpa [lv, List.getD_eq_getElem?_getD, List.getElem?_eq_getElem h1, List.getElem?_eq_getElem h2] using this
theorem dn_uniq {L M : List Nat} (hl : L.length = M.length) (h1 : Dn L) (h2 : Dn M) (h : ∀ u w, u < L.length → w < L.length → (lv L u < lv L w ↔ lv M u < lv M w)) : L = M := by
  refine ext_lv hl ?_
  have key : ∀ k w, w < L.length → lv L w = k → lv M w = k := by
    intro k
    induction k using Nat.strongRecOn with
    | _ k ih =>
      intro w hw hk
      rcases Nat.lt_trichotomy (lv M w) k with c | c | c
      · obtain ⟨u, hu, e⟩ := h1.dn w hw (lv M w) (by rw [hk]; exact c)
        have e2 := ih (lv M w) c u hu e
        have := (h u w hu hw).mp (by rw [e, hk]; exact c)
        omega
      · exact c
      · obtain ⟨u, hu, e⟩ := h2.dn w (by rw [← hl]; exact hw) k c
        rw [← hl] at hu
        have e2 := (h u w hu hw).mpr (by rw [e]; exact c)
        have e3 := ih (lv L u) (by rw [← hk]; exact e2) u hu rfl
        omega
  intro w hw
  exact (key _ w hw rfl).symm
theorem Den.uniq {L M : List Nat} {n : Nat} {lt lt' : Nat → Nat → Prop} (h1 : Den L n lt) (h2 : Den M n lt') (h : ∀ u w, u < n → w < n → (lt u w ↔ lt' u w)) : L = M := by
  refine dn_uniq (h1.len.trans h2.len.symm) h1.dn h2.dn fun u w hu hw => ?_
  rw [h1.len] at hu hw
  rw [h1.ord u w hu hw, h2.ord u w hu hw, h u w hu hw]
theorem Den.congr {L : List Nat} {n : Nat} {lt lt' : Nat → Nat → Prop} (h1 : Den L n lt) (h : ∀ u w, u < n → w < n → (lt u w ↔ lt' u w)) : Den L n lt' :=
  ⟨h1.len, h1.dn, fun u w hu hw => (h1.ord u w hu hw).trans (h u w hu hw)⟩

/-! ### the dense list of keys -/
def cnt (ns : List Nat) : Nat → Nat
  | 0 => 0
  | x + 1 => if ns.contains x then cnt ns x + 1 else cnt ns x
def dnN (ns : List Nat) : List Nat := ns.map (cnt ns)
theorem cnt_mono (ns : List Nat) {x y : Nat} (h : x ≤ y) : cnt ns x ≤ cnt ns y := by
  induction h with
  | refl => exact Nat.le_refl _
  | step _ ih =>
    refine Nat.le_trans ih ?_
    simp only [cnt]
    split <;> omega
theorem cnt_lt {ns : List Nat} {x y : Nat} (hx : x ∈ ns) (h : x < y) : cnt ns x < cnt ns y := by
  have h1 : cnt ns (x + 1) = cnt ns x + 1 := by simp [cnt, hx]
  have := cnt_mono ns (show x + 1 ≤ y from h)
  omega
theorem cnt_iff {ns : List Nat} {x y : Nat} (hx : x ∈ ns) (hy : y ∈ ns) : cnt ns x < cnt ns y ↔ x < y :=
  ⟨fun h => by
    rcases Nat.lt_or_ge x y with c | c
    · exact c
    · have := cnt_mono ns c
      omega, cnt_lt hx⟩
theorem cnt_dn (ns : List Nat) : ∀ x v, v < cnt ns x → ∃ y, y ∈ ns ∧ y < x ∧ cnt ns y = v
  | 0, v, h => by simp [cnt] at h
  | x + 1, v, h => by
    by_cases hx : x ∈ ns
    · have e : cnt ns (x + 1) = cnt ns x + 1 := by simp [cnt, hx]
      rw [e] at h
      by_cases hv : v = cnt ns x
      · exact ⟨x, hx, by omega, hv.symm⟩
      · obtain ⟨y, h1, h2, h3⟩ := cnt_dn ns x v (by omega)
        exact ⟨y, h1, by omega, h3⟩
    · have e : cnt ns (x + 1) = cnt ns x := by simp [cnt, hx]
      rw [e] at h
      obtain ⟨y, h1, h2, h3⟩ := cnt_dn ns x v h
      exact ⟨y, h1, by omega, h3⟩
theorem lv_mem {L : List Nat} {w : Nat} (h : w < L.length) : lv L w ∈ L := by
  simp [lv, List.getD_eq_getElem?_getD, List.getElem?_eq_getElem h]
theorem mem_lv {L : List Nat} {v : Nat} (h : v ∈ L) : ∃ w, w < L.length ∧ lv L w = v := by
  obtain ⟨i, hi, e⟩ := List.getElem_of_mem h
  exact ⟨i, hi, by simp [lv, List.getD_eq_getElem?_getD, List.getElem?_eq_getElem hi, e]⟩
theorem lv_map {f : Nat → Nat} {L : List Nat} {w : Nat} (h : w < L.length) : lv (L.map f) w = f (lv L w) := by
  simp [lv, List.getD_eq_getElem?_getD, List.getElem?_eq_getElem h]
theorem lv_mapR {f : Nat → Nat} {n w : Nat} (h : w < n) : lv ((List.range n).map f) w = f w := by
  simp [lv, List.getD_eq_getElem?_getD, List.getElem?_range h]
theorem dnN_den {ns : List Nat} (h : 0 < ns.length) : Den (dnN ns) ns.length fun u w => lv ns u < lv ns w := by
  refine ⟨by simp [dnN], ⟨by simpa [dnN] using h, fun w hw v hv => ?_⟩, fun u w hu hw => ?_⟩
  · have hw' : w < ns.length := by simpa [dnN] using hw
    rw [show lv (dnN ns) w = cnt ns (lv ns w) from lv_map hw'] at hv
    obtain ⟨y, h1, _, h3⟩ := cnt_dn ns _ _ hv
    obtain ⟨u, hu, e⟩ := mem_lv h1
    exact ⟨u, by simpa [dnN] using hu, by rw [show lv (dnN ns) u = cnt ns (lv ns u) from lv_map hu, e]; exact h3⟩
  · rw [show lv (dnN ns) u = cnt ns (lv ns u) from lv_map hu, show lv (dnN ns) w = cnt ns (lv ns w) from lv_map hw]
    exact cnt_iff (lv_mem hu) (lv_mem hw)
/-- the dense list of a key -/
def dnF (n : Nat) (f : Nat → Nat) : List Nat := dnN ((List.range n).map f)
theorem dnF_den {n : Nat} {f : Nat → Nat} (h : 0 < n) : Den (dnF n f) n fun u w => f u < f w := by
  have := dnN_den (ns := (List.range n).map f) (by simpa using h)
  rw [show ((List.range n).map f).length = n by simp] at this
  exact this.congr fun u w hu hw => by rw [lv_mapR hu, lv_mapR hw]

/-! ### the merged rank, the turns -/
def mkey (L : List Nat) (p : Nat → Bool) (w : Nat) : Nat := if p w then 0 else lv L w + 1
def mrg (L : List Nat) (p : Nat → Bool) : List Nat := dnF L.length (mkey L p)
theorem mrg_den {L : List Nat} {p : Nat → Bool} (h : 0 < L.length) : Den (mrg L p) L.length fun u w => mkey L p u < mkey L p w := dnF_den h
theorem mrg_congr {L : List Nat} {p q : Nat → Bool} (h : ∀ w, w < L.length → p w = q w) : mrg L p = mrg L q := by
  unfold mrg dnF
  congr 1
  refine List.map_congr_left fun w hw => ?_
  unfold mkey
  rw [h w (List.mem_range.mp hw)]
def heldB (L : List Nat) (w : Nat) : Bool := lv L w == 0
theorem mrg_held {L : List Nat} (h : Dn L) : mrg L (heldB L) = L :=
  (mrg_den h.pos).uniq h.den fun u w hu hw => by
    unfold mkey heldB
    by_cases c : lv L u = 0 <;> by_cases d : lv L w = 0 <;> simp [c, d] <;> omega
theorem Dn.zero {L : List Nat} (h : Dn L) : ∃ w, w < L.length ∧ lv L w = 0 := by
  by_cases c : lv L 0 = 0
  · exact ⟨0, h.pos, c⟩
  · exact h.dn 0 h.pos 0 (by omega)
/-- the first cell of a merged rank -/
theorem held_mrg {L : List Nat} {p : Nat → Bool} (hd : Dn L) (hp : ∃ w, w < L.length ∧ p w = true) {w : Nat} (hw : w < L.length) : heldB (mrg L p) w = p w := by
  have D := mrg_den (p := p) hd.pos
  obtain ⟨x, hx, px⟩ := hp
  obtain ⟨z, hz, ez⟩ := D.dn.zero
  rw [D.len] at hz
  unfold heldB
  cases e : p w with
  | true =>
    simp only [beq_iff_eq]
    have := (D.ord z w hz hw)
    rw [ez] at this
    have h2 : ¬ mkey L p z < mkey L p w := by unfold mkey; rw [e]; simp
    have : ¬ 0 < lv (mrg L p) w := fun c => h2 (this.mp c)
    omega
  | false =>
    simp only [beq_eq_false_iff_ne]
    have := (D.ord x w hx hw).mpr (by unfold mkey; rw [e, px]; simp)
    omega
theorem mrg_mrg {L : List Nat} {p q : Nat → Bool} (hd : Dn L) (h : ∀ w, w < L.length → p w = true → q w = true) : mrg (mrg L p) q = mrg L q := by
  have D := mrg_den (p := p) hd.pos
  have D2 := mrg_den (p := q) (by rw [D.len]; exact hd.pos : 0 < (mrg L p).length)
  rw [D.len] at D2
  refine D2.uniq (mrg_den hd.pos) fun u w hu hw => ?_
  have := D.ord u w hu hw
  have hu' := h u hu
  have hw' := h w hw
  unfold mkey at this ⊢
  cases eu : q u <;> cases ew : q w <;> simp
  · rw [eu] at hu'
    rw [ew] at hw'
    have pu : p u = false := by cases e : p u <;> simp [e] at hu' ⊢
    have pw : p w = false := by cases e : p w <;> simp [e] at hw' ⊢
    rw [pu, pw] at this
    simpa using this
end My

/-! # M2 -/
namespace My
/-! ### cells -/
theorem lt_ncells {M : List Nat} {v : Nat} (h : v ∈ M) : v < ncells M := by
  unfold ncells
  induction M with
  | nil => cases h
  | cons a t ih =>
    simp only [List.foldr_cons]
    rcases List.mem_cons.mp h with rfl | h
    · omega
    · have := ih h
      omega
theorem ncells_le {M : List Nat} {c : Nat} (h : ∀ v ∈ M, v < c) : ncells M ≤ c := by
  unfold ncells
  induction M with
  | nil => simp
  | cons a t ih =>
    simp only [List.foldr_cons]
    have h1 := h a (List.mem_cons_self)
    have h2 := ih fun v hv => h v (List.mem_cons_of_mem _ hv)
    omega
theorem lv_lt {L : List Nat} {w : Nat} (h : w < L.length) : lv L w < ncells L := lt_ncells (lv_mem h)
theorem mem_cell {L : List Nat} {c w : Nat} : w ∈ cell L c ↔ w < L.length ∧ lv L w = c := by
  unfold cell
  rw [List.mem_filter, List.mem_range]
  show _ ∧ (lv L w == c) = true ↔ _
  rw [beq_iff_eq]
theorem Dn.npos {L : List Nat} (h : Dn L) : 0 < ncells L := Nat.lt_of_le_of_lt (Nat.zero_le _) (lv_lt h.pos)
theorem cellsOf_len (L : List Nat) : (cellsOf L).length = ncells L := by simp [cellsOf]
theorem cellsOf_get {L : List Nat} {k : Nat} (h : k < ncells L) : (cellsOf L)[k]? = some (cell L k) := by
  simp [cellsOf, List.getElem?_range h]
theorem cellsOf_inj {L M : List Nat} (hl : L.length = M.length) (h : cellsOf L = cellsOf M) : L = M := by
  refine ext_lv hl fun w hw => ?_
  have hk := lv_lt hw
  have e1 := cellsOf_get hk
  have hk2 : lv L w < ncells M := by rw [← cellsOf_len M, ← h, cellsOf_len]; exact hk
  have e2 := cellsOf_get hk2
  rw [h, e2] at e1
  have e3 : cell M (lv L w) = cell L (lv L w) := by simpa using e1
  have : w ∈ cell M (lv L w) := by rw [e3]; exact mem_cell.mpr ⟨hw, rfl⟩
  exact (mem_cell.mp this).2.symm
theorem cellsOf_cons {L : List Nat} (h : Dn L) : cellsOf L = cell L 0 :: (List.range (ncells L - 1)).map fun i => cell L (i + 1) := by
  have hp := h.npos
  unfold cellsOf
  rw [show ncells L = ncells L - 1 + 1 by omega, List.range_succ_eq_map]
  simp [List.map_map, Function.comp_def]
abbrev ne0 (c : List Nat) : Bool := !c.isEmpty
theorem filter_nil {α : Type} {p : α → Bool} {xs : List α} (h : ∀ x ∈ xs, p x = false) : xs.filter p = [] := by
  rw [List.filter_eq_nil_iff]
  intro x hx
  rw [h x hx]
  simp
theorem cells_dn {ns : List Nat} (K : Nat) : (((List.range K).map fun k => (List.range ns.length).filter fun w => lv ns w == k).filter ne0) = (List.range (cnt ns K)).map (cell (dnN ns)) := by
  induction K with
  | zero => simp [cnt]
  | succ K ih =>
    rw [List.range_succ, List.map_append, List.filter_append, ih]
    by_cases hK : K ∈ ns
    · have e : cnt ns (K + 1) = cnt ns K + 1 := by simp [cnt, hK]
      rw [e, List.range_succ, List.map_append]
      congr 1
      obtain ⟨u, hu, eu⟩ := mem_lv hK
      have hne : ((List.range ns.length).filter fun w => lv ns w == K) ≠ [] := by
        intro z
        have : u ∈ ((List.range ns.length).filter fun w => lv ns w == K) := List.mem_filter.mpr ⟨List.mem_range.mpr hu, by simp [eu]⟩
        rw [z] at this
        cases this
      have : ((List.range ns.length).filter fun w => lv ns w == K) = cell (dnN ns) (cnt ns K) := by
        unfold cell
        rw [show (dnN ns).length = ns.length by simp [dnN]]
        refine List.filter_congr fun w hw => ?_
        have hw := List.mem_range.mp hw
        show (lv ns w == K) = (lv (dnN ns) w == cnt ns K)
        rw [show lv (dnN ns) w = cnt ns (lv ns w) from lv_map hw]
        have m := lv_mem hw
        rw [Bool.eq_iff_iff, beq_iff_eq, beq_iff_eq]
        refine ⟨fun h => by rw [h], fun h => ?_⟩
        rcases Nat.lt_trichotomy (lv ns w) K with c | c | c
        · have := cnt_lt m c; omega
        · exact c
        · have := cnt_lt hK c; omega
      simp only [List.map_cons, List.map_nil]
      rw [List.filter_cons_of_pos (by simpa [ne0] using hne), this]
      rfl
    · have e : cnt ns (K + 1) = cnt ns K := by simp [cnt, hK]
      rw [e]
      have : ((List.range ns.length).filter fun w => lv ns w == K) = [] := filter_nil fun w hw => by
        have hw := List.mem_range.mp hw
        rw [beq_eq_false_iff_ne]
        intro z
        exact hK (z ▸ lv_mem hw)
      simp [this, ne0]
theorem ncells_dn {ns : List Nat} {K : Nat} (h : ∀ v ∈ ns, v < K) : ncells (dnN ns) = cnt ns K := by
  apply Nat.le_antisymm
  · refine ncells_le fun v hv => ?_
    obtain ⟨x, hx, rfl⟩ := List.mem_map.mp hv
    exact cnt_lt hx (h x hx)
  · by_cases c : cnt ns K = 0
    · omega
    · obtain ⟨y, h1, _, h3⟩ := cnt_dn ns K (cnt ns K - 1) (by omega)
      have : cnt ns y ∈ dnN ns := List.mem_map.mpr ⟨y, h1, rfl⟩
      have := lt_ncells this
      omega
theorem cells_dnN {ns : List Nat} {K : Nat} (h : ∀ v ∈ ns, v < K) : cellsOf (dnN ns) = (((List.range K).map fun k => (List.range ns.length).filter fun w => lv ns w == k).filter ne0) := by
  rw [cells_dn]
  unfold cellsOf
  rw [ncells_dn h]
theorem cells_dnF {n : Nat} {f : Nat → Nat} {K : Nat} (h : ∀ w, w < n → f w < K) : cellsOf (dnF n f) = (((List.range K).map fun k => (List.range n).filter fun w => f w == k).filter ne0) := by
  unfold dnF
  rw [cells_dnN (K := K) (fun v hv => by obtain ⟨w, hw, rfl⟩ := List.mem_map.mp hv; exact h w (List.mem_range.mp hw))]
  congr 1
  refine List.map_congr_left fun k _ => ?_
  rw [show ((List.range n).map f).length = n by simp]
  refine List.filter_congr fun w hw => ?_
  rw [lv_mapR (List.mem_range.mp hw)]
def sel (n : Nat) (p : Nat → Bool) : List Nat := (List.range n).filter p
theorem cells_mrg {L : List Nat} {p : Nat → Bool} (hp : ∃ w, w < L.length ∧ p w = true) : cellsOf (mrg L p) = sel L.length p :: (((cellsOf L).map fun c => c.filter fun w => !p w).filter ne0) := by
  unfold mrg
  rw [cells_dnF (K := ncells L + 1) (fun w hw => by
    have := lv_lt hw
    unfold mkey
    split <;> omega)]
  rw [List.range_succ_eq_map]
  simp only [List.map_cons, List.map_map]
  have e0 : ((List.range L.length).filter fun w => mkey L p w == 0) = sel L.length p := by
    unfold sel
    refine List.filter_congr fun w hw => ?_
    unfold mkey
    cases p w <;> simp
  obtain ⟨w, hw, pw⟩ := hp
  have hne : ne0 (sel L.length p) = true := by
    have : w ∈ sel L.length p := List.mem_filter.mpr ⟨List.mem_range.mpr hw, pw⟩
    cases e : sel L.length p with
    | nil => rw [e] at this; cases this
    | cons => rfl
  rw [e0, List.filter_cons_of_pos hne]
  congr 2
  unfold cellsOf
  rw [List.map_map]
  refine List.map_congr_left fun k _ => ?_
  show ((List.range L.length).filter fun w => mkey L p w == k + 1) = (cell L k).filter fun w => !p w
  unfold cell
  rw [List.filter_filter]
  refine List.filter_congr fun w hw => ?_
  show _ = (!p w && (lv L w == k))
  unfold mkey
  cases p w <;> simp
theorem cell0 (G : List Nat) : cell G 0 = sel G.length (heldB G) := rfl
theorem joined_iff {L G : List Nat} (hl : L.length = G.length) (hL : Dn L) (hG : Dn G) : (((cellsOf L).map fun c => c.filter fun w => !heldB G w).filter ne0) = (cellsOf G).tail ↔ mrg L (heldB G) = G := by
  obtain ⟨z, hz, ez⟩ := hG.zero
  have e := cells_mrg (L := L) (p := heldB G) ⟨z, by rw [hl]; exact hz, by simp [heldB, ez]⟩
  have e2 : cellsOf G = cell G 0 :: (cellsOf G).tail := by rw [cellsOf_cons hG]; rfl
  constructor
  · intro h
    refine cellsOf_inj (by rw [(mrg_den hL.pos).len, hl]) ?_
    rw [e, e2, h, hl]
    rfl
  · intro h
    rw [h] at e
    rw [e]
    rfl
/-- the order test of the law -/
theorem order_iff {L G : List Nat} (hl : L.length = G.length) (hL : Dn L) (hG : Dn G) : (∀ u w, u < L.length → w < L.length → heldB G u = false → heldB G w = false → (lv L u < lv L w ↔ lv G u < lv G w)) ↔ mrg L (heldB G) = G := by
  constructor
  · intro h
    refine (mrg_den hL.pos).uniq (lt' := fun u w => lv G u < lv G w) (by rw [hl]; exact hG.den) fun u w hu hw => ?_
    have := h u w hu hw
    unfold mkey
    cases eu : heldB G u <;> cases ew : heldB G w <;> simp [eu, ew] at this ⊢
    · exact this
    · have : lv G w = 0 := by simpa [heldB] using ew
      omega
    · have h1 : lv G u = 0 := by simpa [heldB] using eu
      have h2 : lv G w ≠ 0 := by simpa [heldB] using ew
      omega
    · have h1 : lv G u = 0 := by simpa [heldB] using eu
      have h2 : lv G w = 0 := by simpa [heldB] using ew
      omega
  · intro h u w hu hw eu ew
    have := (mrg_den (p := heldB G) hL.pos).ord u w hu hw
    rw [h] at this
    rw [this]
    unfold mkey
    rw [eu, ew]
    simp
end My

/-! # M3 -/
namespace My
/-! ### the turns -/
def comp (n : Nat) (c : List Nat) : List Nat := (List.range n).filter fun w => !c.contains w
def minL : List Nat → Nat
  | [] => 0
  | x :: xs => xs.foldl (fun a b => if b < a then b else a) x
theorem foldl_min : ∀ (xs : List Nat) (x : Nat), (xs.foldl (fun a b => if b < a then b else a) x) ∈ x :: xs ∧ ∀ y ∈ x :: xs, (xs.foldl (fun a b => if b < a then b else a) x) ≤ y
  | [], x => by simp
  | z :: zs, x => by
    obtain ⟨h1, h2⟩ := foldl_min zs (if z < x then z else x)
    simp only [List.foldl_cons]
    constructor
    · rcases List.mem_cons.mp h1 with e | e
      · rw [e]; split <;> simp
      · exact List.mem_cons_of_mem _ (List.mem_cons_of_mem _ e)
    · intro y hy
      have h3 := h2 _ List.mem_cons_self
      rcases List.mem_cons.mp hy with rfl | hy
      · split at h3 <;> split <;> omega
      · rcases List.mem_cons.mp hy with rfl | hy
        · split at h3 <;> split <;> omega
        · exact h2 y (List.mem_cons_of_mem _ hy)
theorem minL_mem {xs : List Nat} (h : xs ≠ []) : minL xs ∈ xs ∧ ∀ y ∈ xs, minL xs ≤ y := by
  cases xs with
  | nil => exact (h rfl).elim
  | cons x xs => exact foldl_min xs x
def lowOut (L lot : List Nat) : Nat := minL ((comp L.length lot).map (lv L))
def hIn (L lot : List Nat) : Bool := (cell L 0).all fun w => lot.contains w
def turnL (L lot : List Nat) : List Nat := if hIn L lot then mrg L (fun w => heldB L w || (!lot.contains w && lv L w == lowOut L lot)) else L
def turnS (L lot : List Nat) : List Nat := if hIn L lot then mrg L (fun w => decide (lv L w ≤ lowOut L lot)) else L
def dkey (L lot : List Nat) (w : Nat) : Nat := (if lot.contains w then 0 else 1) * (L.length + 1) + lv L w
def turnD (L lot : List Nat) : List Nat := dnF L.length (dkey L lot)
theorem mem_comp {n w : Nat} {c : List Nat} : w ∈ comp n c ↔ w < n ∧ w ∉ c := by
  unfold comp
  rw [List.mem_filter, List.mem_range]
  simp
theorem hIn_iff {L lot : List Nat} : hIn L lot = true ↔ ∀ w, w < L.length → lv L w = 0 → w ∈ lot := by
  unfold hIn
  rw [List.all_eq_true]
  constructor
  · intro h w hw e
    simpa using h w (mem_cell.mpr ⟨hw, e⟩)
  · intro h w hw
    obtain ⟨h1, h2⟩ := mem_cell.mp hw
    simpa using h w h1 h2
theorem turnL_dn {L lot : List Nat} (h : Dn L) : Dn (turnL L lot) ∧ (turnL L lot).length = L.length := by
  unfold turnL
  split
  · exact ⟨(mrg_den h.pos).dn, (mrg_den h.pos).len⟩
  · exact ⟨h, rfl⟩
theorem turnS_dn {L lot : List Nat} (h : Dn L) : Dn (turnS L lot) ∧ (turnS L lot).length = L.length := by
  unfold turnS
  split
  · exact ⟨(mrg_den h.pos).dn, (mrg_den h.pos).len⟩
  · exact ⟨h, rfl⟩
theorem turnD_den {L lot : List Nat} (h : 0 < L.length) : Den (turnD L lot) L.length fun u w => dkey L lot u < dkey L lot w := dnF_den h

/-! ### the row of level deeds -/
def parts (L : List Nat) (p : Nat → Bool) : List (List Nat) := ((cellsOf L).tail.map fun c => c.filter p).filter ne0
def lrow (L G : List Nat) : Option (List (List Nat)) := if (cell L 0).all (heldB G) && mrg L (heldB G) == G then some ((parts L (heldB G)).map (comp L.length)) else none
def qB (L : List Nat) (p : Nat → Bool) (c w : Nat) : Bool := heldB L w || (p w && decide (lv L w < c))
theorem mem_cf {L : List Nat} {c w : Nat} {p : Nat → Bool} : w ∈ (cell L c).filter p ↔ (w < L.length ∧ lv L w = c) ∧ p w = true := by rw [List.mem_filter, mem_cell]
theorem comp_mem {n w : Nat} {c : List Nat} (h : w < n) : w ∈ comp n c ↔ w ∉ c := by rw [mem_comp]; simp [h]
theorem comp_comp {n : Nat} {c : List Nat} : comp n (comp n c) = (List.range n).filter fun w => c.contains w := by
  show (List.range n).filter _ = _
  refine List.filter_congr fun w hw => ?_
  rw [Bool.eq_iff_iff, Bool.not_eq_true', Bool.eq_false_iff, ne_eq, List.contains_iff_mem, comp_mem (List.mem_range.mp hw), List.contains_iff_mem, Decidable.not_not]
theorem sel_cf (L : List Nat) (p : Nat → Bool) (c : Nat) : (cell L c).filter p = (List.range L.length).filter fun w => ((cell L c).filter p).contains w := by
  conv => lhs; unfold cell
  rw [List.filter_filter]
  refine List.filter_congr fun w hw => ?_
  rw [Bool.eq_iff_iff, List.contains_iff_mem, mem_cf]
  simp only [Bool.and_eq_true]
  constructor
  · rintro ⟨a, b⟩; exact ⟨⟨List.mem_range.mp hw, beq_iff_eq.mp b⟩, a⟩
  · rintro ⟨⟨_, b⟩, c⟩; exact ⟨c, beq_iff_eq.mpr b⟩
theorem level_step {L : List Nat} {p : Nat → Bool} {c : Nat} (hd : Dn L) (hc : 0 < c) (hn : (cell L c).filter p ≠ []) : turnL (mrg L (qB L p c)) (comp L.length ((cell L c).filter p)) = mrg L (qB L p (c + 1)) := by
  have D := mrg_den (p := qB L p c) hd.pos
  obtain ⟨z, hz, ez⟩ := hd.zero
  have hq : ∃ w, w < L.length ∧ qB L p c w = true := ⟨z, hz, by simp [qB, heldB, ez]⟩
  have hh : ∀ w, w < L.length → heldB (mrg L (qB L p c)) w = qB L p c w := fun w hw => held_mrg hd hq hw
  have hin : hIn (mrg L (qB L p c)) (comp L.length ((cell L c).filter p)) = true := by
    rw [hIn_iff]
    intro w hw e
    rw [D.len] at hw
    have h1 := hh w hw
    rw [show heldB (mrg L (qB L p c)) w = true by simp [heldB, e]] at h1
    rw [comp_mem hw, mem_cf]
    rintro ⟨⟨_, e2⟩, _⟩
    unfold qB heldB at h1
    simp [e2] at h1
    omega
  unfold turnL
  rw [hin, if_pos rfl]
  have hcomp : comp (mrg L (qB L p c)).length (comp L.length ((cell L c).filter p)) = (cell L c).filter p := by
    rw [D.len, comp_comp]
    exact (sel_cf L p c).symm
  have same : ∀ u w, u ∈ (cell L c).filter p → w ∈ (cell L c).filter p → lv (mrg L (qB L p c)) u = lv (mrg L (qB L p c)) w := by
    intro u w hu hw
    obtain ⟨⟨u1, u2⟩, u3⟩ := mem_cf.mp hu
    obtain ⟨⟨w1, w2⟩, w3⟩ := mem_cf.mp hw
    have k : mkey L (qB L p c) u = mkey L (qB L p c) w := by simp [mkey, qB, heldB, u2, w2, u3, w3]
    have a := D.ord u w u1 w1
    have b := D.ord w u w1 u1
    rw [k] at a b
    have : ¬ lv (mrg L (qB L p c)) u < lv (mrg L (qB L p c)) w := fun z => Nat.lt_irrefl _ (a.mp z)
    have : ¬ lv (mrg L (qB L p c)) w < lv (mrg L (qB L p c)) u := fun z => Nat.lt_irrefl _ (b.mp z)
    omega
  have low : ∀ w, w ∈ (cell L c).filter p → lv (mrg L (qB L p c)) w = lowOut (mrg L (qB L p c)) (comp L.length ((cell L c).filter p)) := by
    intro w hw
    unfold lowOut
    rw [hcomp]
    have hne : ((cell L c).filter p).map (lv (mrg L (qB L p c))) ≠ [] := by simpa using hn
    obtain ⟨u, hu, e⟩ := List.mem_map.mp (minL_mem hne).1
    rw [← e]
    exact same w u hw hu
  rw [mrg_congr (q := qB L p (c + 1)) ?_]
  · exact mrg_mrg hd fun w hw h => by
      unfold qB at h ⊢
      cases a : heldB L w <;> cases b : p w <;> simp [a, b] at h ⊢
      omega
  · intro w hw
    rw [D.len] at hw
    rw [hh w hw]
    by_cases hm : w ∈ (cell L c).filter p
    · have hl := low w hm
      obtain ⟨⟨_, u2⟩, u3⟩ := mem_cf.mp hm
      have : (comp L.length ((cell L c).filter p)).contains w = false := by
        rw [Bool.eq_false_iff, ne_eq, List.contains_iff_mem, comp_mem hw]
        exact fun z => z hm
      rw [this, hl]
      simp [qB, u2, u3]
    · have : (comp L.length ((cell L c).filter p)).contains w = true := by
        rw [List.contains_iff_mem, comp_mem hw]
        exact hm
      rw [this]
      rw [mem_cf] at hm
      unfold qB
      cases a : p w <;> simp [a] at hm ⊢
      have := hm hw
      rw [Bool.eq_iff_iff]
      simp
      cases heldB L w <;> simp
      omega
theorem level_fold {L : List Nat} {p : Nat → Bool} (hd : Dn L) : ∀ m, m < ncells L → (((List.range m).map fun i => (cell L (i + 1)).filter p).filter ne0).foldl (fun now part => turnL now (comp L.length part)) L = mrg L (qB L p (m + 1))
  | 0, _ => by
    show L = _
    have : mrg L (qB L p 1) = mrg L (heldB L) := mrg_congr fun w hw => by
      unfold qB heldB
      cases p w <;> simp
    rw [this, mrg_held hd]
  | m + 1, h => by
    have ih := level_fold (p := p) hd m (by omega)
    rw [List.range_succ, List.map_append, List.filter_append, List.foldl_append, ih]
    by_cases c : (cell L (m + 1)).filter p = []
    · simp only [List.map_cons, List.map_nil, c]
      show mrg L (qB L p (m + 1)) = mrg L (qB L p (m + 1 + 1))
      refine mrg_congr fun w hw => ?_
      have hm : w ∉ (cell L (m + 1)).filter p := by rw [c]; simp
      rw [mem_cf] at hm
      unfold qB
      cases a : p w <;> simp [a] at hm ⊢
      have := hm hw
      rw [Bool.eq_iff_iff]
      simp
      cases heldB L w <;> simp
      omega
    · have hne : ne0 ((cell L (m + 1)).filter p) = true := by
        cases e : (cell L (m + 1)).filter p with
        | nil => exact (c e).elim
        | cons => rfl
      simp only [List.map_cons, List.map_nil]
      rw [List.filter_cons_of_pos hne]
      show turnL (mrg L (qB L p (m + 1))) (comp L.length ((cell L (m + 1)).filter p)) = _
      exact level_step hd (by omega) c
theorem parts_eq {L : List Nat} {p : Nat → Bool} (hd : Dn L) : parts L p = ((List.range (ncells L - 1)).map fun i => (cell L (i + 1)).filter p).filter ne0 := by
  unfold parts
  rw [cellsOf_cons hd, List.tail_cons, List.map_map]
  rfl
theorem row_fold {L G : List Nat} {row : List (List Nat)} (hl : L.length = G.length) (hL : Dn L) (h : lrow L G = some row) : row.foldl turnL L = G := by
  unfold lrow at h
  split at h
  · rename_i hc
    rw [Bool.and_eq_true] at hc
    obtain ⟨h1, h2⟩ := hc
    have e : (parts L (heldB G)).map (comp L.length) = row := by simpa using h
    subst e
    rw [List.foldl_map, parts_eq hL, level_fold hL (ncells L - 1) (by have := hL.npos; omega)]
    have e : mrg L (qB L (heldB G) (ncells L - 1 + 1)) = mrg L (heldB G) := mrg_congr fun w hw => by
      have hlt := lv_lt hw
      unfold qB
      cases a : heldB L w
      · simp only [Bool.false_or]
        cases heldB G w <;> simp
        omega
      · have : w ∈ cell L 0 := mem_cell.mpr ⟨hw, by simpa [heldB] using a⟩
        have := List.all_eq_true.mp h1 w this
        rw [this]; rfl
    rw [e]
    exact beq_iff_eq.mp h2
  · cases h
end My

/-! # M4 -/
namespace My
/-! ### sinking to the flat rank -/
def sinkLot (L G : List Nat) : Option (List Nat) := if L == G then some [] else ((List.range L.length).find? fun x => turnS L (comp L.length [x]) == G).map fun x => comp L.length [x]
def flat (n : Nat) : List Nat := List.replicate n 0
theorem lv_flat (n w : Nat) : lv (flat n) w = 0 := by
  unfold lv flat
  rw [List.getD_eq_getElem?_getD, List.getElem?_replicate]
  split <;> rfl
theorem flat_den {n : Nat} (h : 0 < n) : Den (flat n) n fun _ _ => False :=
  ⟨by simp [flat], ⟨by simpa [flat] using h, fun w _ v hv => by rw [lv_flat] at hv; omega⟩, fun u w _ _ => by rw [lv_flat, lv_flat]; simp⟩
theorem max_mem : ∀ {M : List Nat}, M ≠ [] → ∃ v, v ∈ M ∧ v + 1 = ncells M
  | [], h => (h rfl).elim
  | a :: t, _ => by
    by_cases ht : t = []
    · subst ht
      exact ⟨a, by simp, by simp [ncells]⟩
    · obtain ⟨v, hv, e⟩ := max_mem ht
      unfold ncells at e ⊢
      simp only [List.foldr_cons]
      by_cases c : a ≤ v
      · exact ⟨v, List.mem_cons_of_mem _ hv, by omega⟩
      · exact ⟨a, List.mem_cons_self, by omega⟩
theorem comp_one {n x : Nat} (h : x < n) : x ∈ comp n (comp n [x]) ∧ ∀ y, y ∈ comp n (comp n [x]) → y = x := by
  constructor
  · rw [comp_mem h, comp_mem h]; simp
  · intro y hy
    have hy1 := (mem_comp.mp hy).1
    rw [comp_mem hy1, comp_mem hy1] at hy
    simpa using hy
theorem lowOut_one {L : List Nat} {x : Nat} (h : x < L.length) : lowOut L (comp L.length [x]) = lv L x := by
  unfold lowOut
  obtain ⟨h1, h2⟩ := comp_one h
  have hne : (comp L.length (comp L.length [x])).map (lv L) ≠ [] := by
    intro z
    have : lv L x ∈ (comp L.length (comp L.length [x])).map (lv L) := List.mem_map.mpr ⟨x, h1, rfl⟩
    rw [z] at this
    cases this
  obtain ⟨u, hu, e⟩ := List.mem_map.mp (minL_mem hne).1
  rw [← e, h2 u hu]
theorem hIn_nil {L : List Nat} (h : Dn L) : hIn L [] = false := by
  obtain ⟨z, hz, e⟩ := h.zero
  rw [Bool.eq_false_iff, ne_eq, hIn_iff]
  intro q
  exact absurd (q z hz e) (by simp)
theorem sink_flat {L : List Nat} (h : Dn L) : ∃ lot, sinkLot L (flat L.length) = some lot ∧ turnS L lot = flat L.length := by
  unfold sinkLot
  by_cases c : L = flat L.length
  · refine ⟨[], by rw [if_pos (beq_iff_eq.mpr c)], ?_⟩
    unfold turnS
    rw [hIn_nil h]
    exact c
  · rw [if_neg (fun z => c (beq_iff_eq.mp z))]
    obtain ⟨v, hv, e⟩ := max_mem (M := L) (fun z => by have := h.pos; rw [z] at this; exact absurd this (by decide))
    obtain ⟨x, hx, ex⟩ := mem_lv hv
    have hx0 : lv L x ≠ 0 := by
      intro z
      refine c (ext_lv (by simp [flat]) fun w hw => ?_)
      rw [lv_flat]
      have := lv_lt hw
      omega
    have hin : hIn L (comp L.length [x]) = true := by
      rw [hIn_iff]
      intro w hw e2
      rw [comp_mem hw]
      simp
      rintro rfl
      exact hx0 e2
    have ht : turnS L (comp L.length [x]) = flat L.length := by
      unfold turnS
      rw [hin, if_pos rfl, lowOut_one hx]
      refine (mrg_den h.pos).uniq (flat_den h.pos) fun u w hu hw => ?_
      have h1 := lv_lt hu
      have h2 := lv_lt hw
      unfold mkey
      have d1 : decide (lv L u ≤ lv L x) = true := by simp; omega
      have d2 : decide (lv L w ≤ lv L x) = true := by simp; omega
      simp only [d1, d2]
      simp
    cases e3 : (List.range L.length).find? fun x => turnS L (comp L.length [x]) == flat L.length with
    | none =>
      have := List.find?_eq_none.mp e3 x (List.mem_range.mpr hx)
      rw [ht] at this
      simp at this
    | some y =>
      exact ⟨comp L.length [y], rfl, by simpa using List.find?_some e3⟩
theorem sinkLot_ok {L G lot : List Nat} (h : Dn L) (e : sinkLot L G = some lot) : hIn L lot = true → comp L.length lot ≠ [] := by
  unfold sinkLot at e
  split at e
  · cases e
    rw [hIn_nil h]
    intro z; cases z
  · cases e2 : (List.range L.length).find? fun x => turnS L (comp L.length [x]) == G with
    | none => rw [e2] at e; cases e
    | some y =>
      rw [e2] at e
      cases e
      intro _ z
      have := (comp_one (List.mem_range.mp (List.mem_of_find?_eq_some e2))).1
      rw [z] at this
      cases this

/-! ### leading to any rank from the flat one -/
theorem nodup_le {xs : List Nat} : ∀ {ys : List Nat}, xs.Nodup → (∀ x ∈ xs, x ∈ ys) → xs.length ≤ ys.length := by
  induction xs with
  | nil => intro ys _ _; simp
  | cons x xs ih =>
    intro ys hn hs
    have hx := hs x List.mem_cons_self
    have h2 := List.nodup_cons.mp hn
    have := ih (ys := ys.erase x) h2.2 fun y hy => (List.mem_erase_of_ne (show y ≠ x from fun z => h2.1 (by rw [← z]; exact hy))).mpr (hs y (List.mem_cons_of_mem _ hy))
    rw [List.length_erase_of_mem hx] at this
    have : 0 < ys.length := List.length_pos_of_mem hx
    simp only [List.length_cons]
    omega
theorem Dn.lt_len {M : List Nat} (h : Dn M) {w : Nat} (hw : w < M.length) : lv M w < M.length := by
  have := nodup_le (xs := List.range (lv M w + 1)) (ys := M) List.nodup_range fun x hx => by
    have hx := List.mem_range.mp hx
    by_cases c : x = lv M w
    · rw [c]; exact lv_mem hw
    · obtain ⟨u, hu, e⟩ := h.dn w hw x (by omega)
      rw [← e]; exact lv_mem hu
  rw [List.length_range] at this
  omega
theorem Dn.ncells_le {M : List Nat} (h : Dn M) : ncells M ≤ M.length := My.ncells_le fun v hv => by
  obtain ⟨w, hw, e⟩ := mem_lv hv
  rw [← e]
  exact h.lt_len hw
def leadLot (G : List Nat) (j : Nat) : List Nat := sel G.length fun w => lv G w / 2 ^ j % 2 == 0
theorem leads {G : List Nat} (hG : 0 < G.length) : ∀ t, Den (((List.range t).map (leadLot G)).foldl turnD (flat G.length)) G.length fun u w => lv G u % 2 ^ t < lv G w % 2 ^ t
  | 0 => (flat_den hG).congr fun u w _ _ => by simp [Nat.mod_one]
  | t + 1 => by
    have ih := leads hG t
    rw [List.range_succ, List.map_append, List.foldl_append]
    generalize ((List.range t).map (leadLot G)).foldl turnD (flat G.length) = now at ih ⊢
    show Den (turnD now (leadLot G t)) _ _
    have D := turnD_den (L := now) (lot := leadLot G t) (by rw [ih.len]; exact hG)
    rw [ih.len] at D
    refine D.congr fun u w hu hw => ?_
    have bu := ih.dn.lt_len (by rw [ih.len]; exact hu : u < now.length)
    have bw := ih.dn.lt_len (by rw [ih.len]; exact hw : w < now.length)
    rw [ih.len] at bu bw
    have o := ih.ord u w hu hw
    have cu : ∀ w, w < G.length → (leadLot G t).contains w = (lv G w / 2 ^ t % 2 == 0) := fun w hw => by
      rw [Bool.eq_iff_iff, List.contains_iff_mem, leadLot, sel, List.mem_filter, List.mem_range]
      simp [hw]
    unfold dkey
    rw [cu u hu, cu w hw, ih.len, Nat.mod_pow_succ, Nat.mod_pow_succ]
    have pu : lv G u % 2 ^ t < 2 ^ t := Nat.mod_lt _ (Nat.two_pow_pos t)
    have pw : lv G w % 2 ^ t < 2 ^ t := Nat.mod_lt _ (Nat.two_pow_pos t)
    rcases Nat.mod_two_eq_zero_or_one (lv G u / 2 ^ t) with a | a <;> rcases Nat.mod_two_eq_zero_or_one (lv G w / 2 ^ t) with b | b <;> simp [a, b] <;> omega
theorem leads_end {G : List Nat} {t : Nat} (hG : Dn G) (h : ncells G ≤ 2 ^ t) : ((List.range t).map (leadLot G)).foldl turnD (flat G.length) = G :=
  (leads hG.pos t).uniq hG.den fun u w hu hw => by
    have h1 := lv_lt hu
    have h2 := lv_lt hw
    rw [Nat.mod_eq_of_lt (by omega), Nat.mod_eq_of_lt (by omega)]
theorem leadLot_ne {G : List Nat} (hG : Dn G) (j : Nat) : leadLot G j ≠ [] := by
  obtain ⟨z, hz, e⟩ := hG.zero
  intro q
  have : z ∈ leadLot G j := List.mem_filter.mpr ⟨List.mem_range.mpr hz, by rw [e]; simp⟩
  rw [q] at this
  cases this
/-- the number of lead deeds -/
def tz (k : Nat) : Nat := if k ≤ 1 then 0 else if k ≤ 2 then 1 else if k ≤ 4 then 2 else if k ≤ 8 then 3 else 4
theorem tz_le {k : Nat} (h : k ≤ 16) : k ≤ 2 ^ tz k := by
  unfold tz
  split
  · simpa
  split
  · simpa
  split
  · simpa
  split
  · simpa
  · simpa
end My

/-! # M5 -/
namespace My
/-! ### all goals on few worlds -/
def lots : Nat → List (List Nat)
  | 1 => [[], [0]]
  | 2 => [[], [0], [1], [0, 1]]
  | 3 => [[], [0], [1], [2], [0, 1], [0, 2], [1, 2], [0, 1, 2]]
  | 4 => [[], [0], [1], [2], [3], [0, 1], [0, 2], [0, 3], [1, 2], [1, 3], [2, 3], [0, 1, 2], [0, 1, 3], [0, 2, 3], [1, 2, 3], [0, 1, 2, 3]]
  | _ => [[]]
def bin (turn : List Nat → List Nat → List Nat) (at_ : Nat) (st : List (List Nat) × List Nat) (lot : List Nat) : List (List Nat) × List Nat :=
  if st.1.contains (turn (st.1.getD at_ []) lot) then st else (st.1 ++ [turn (st.1.getD at_ []) lot], st.2 ++ [st.2.getD at_ 0 + 1])
def bout (turn : List Nat → List Nat → List Nat) (ls : List (List Nat)) (st : List (List Nat) × List Nat) (at_ : Nat) : List (List Nat) × List Nat :=
  if at_ < st.1.length then ls.foldl (bin turn at_) st else st
def reach (turn : List Nat → List Nat → List Nat) (L : List Nat) : List (List Nat) × List Nat := (List.range 80).foldl (bout turn (lots L.length).dropLast) ([L], [0])
def longer (L : List Nat) : List (List Nat) := (List.range (ncells L)).map (fun a => L ++ [a]) ++ (List.range (ncells L + 1)).map fun a => L.map (fun l => if a ≤ l then l + 1 else l) ++ [a]
def ranks : Nat → List (List Nat)
  | 0 => [[0]]
  | 1 => [[0]]
  | n + 1 => (ranks n).flatMap longer
def chkG (lvd : List (List Nat) × List Nat) (sk : List (List Nat)) (L G : List Nat) : Bool :=
  (lvd.1.contains G == (lrow L G).isSome) && (match lrow L G with | none => true | some row => lvd.2.getD (lvd.1.idxOf G) 0 == row.length) && (sk.contains G == (sinkLot L G).isSome)
def chkL (L : List Nat) : Bool :=
  (fun lvd sk => (ranks L.length).all (chkG lvd sk L)) (reach turnL L) (reach turnS L).1
def dnB (L : List Nat) : Bool := decide (0 < L.length) && (List.range L.length).all fun w => (List.range (lv L w)).all fun v => L.contains v
theorem dnB_iff {L : List Nat} : dnB L = true ↔ Dn L := by
  unfold dnB
  rw [Bool.and_eq_true, decide_eq_true_iff, List.all_eq_true]
  constructor
  · rintro ⟨h1, h2⟩
    refine ⟨h1, fun w hw v hv => ?_⟩
    have := List.all_eq_true.mp (h2 w (List.mem_range.mpr hw)) v (List.mem_range.mpr hv)
    exact mem_lv (List.contains_iff_mem.mp this)
  · intro h
    refine ⟨h.pos, fun w hw => List.all_eq_true.mpr fun v hv => ?_⟩
    obtain ⟨u, hu, e⟩ := h.dn w (List.mem_range.mp hw) v (List.mem_range.mp hv)
    exact List.contains_iff_mem.mpr (e ▸ lv_mem hu)
def allL (m : Nat) : Nat → List (List Nat)
  | 0 => [[]]
  | n + 1 => (allL m n).flatMap fun t => (List.range m).map fun a => a :: t
theorem mem_allL {m : Nat} : ∀ {L : List Nat}, (∀ v ∈ L, v < m) → L ∈ allL m L.length
  | [], _ => by simp [allL]
  | a :: t, h => List.mem_flatMap.mpr ⟨t, mem_allL fun v hv => h v (List.mem_cons_of_mem _ hv), List.mem_map.mpr ⟨a, List.mem_range.mpr (h a List.mem_cons_self), rfl⟩⟩
theorem Dn.all {L : List Nat} (h : Dn L) : L ∈ allL L.length L.length := mem_allL fun v hv => by
  obtain ⟨w, hw, e⟩ := mem_lv hv
  rw [← e]
  exact h.lt_len hw
theorem ranks1 : (ranks 1).all (fun G => dnB G && G.length == 1) = true := by decide +kernel
theorem ranks2 : (ranks 2).all (fun G => dnB G && G.length == 2) = true := by decide +kernel
theorem ranks3 : (ranks 3).all (fun G => dnB G && G.length == 3) = true := by decide +kernel
theorem ranks4 : (ranks 4).all (fun G => dnB G && G.length == 4) = true := by decide +kernel
theorem chk1 : (allL 1 1).all (fun L => !dnB L || chkL L) = true := by decide +kernel
theorem chk2 : (allL 2 2).all (fun L => !dnB L || chkL L) = true := by decide +kernel
theorem chk3 : (allL 3 3).all (fun L => !dnB L || chkL L) = true := by decide +kernel
end My

/-! # M6 -/
namespace My
theorem chk4 : (allL 4 4).all (fun L => !dnB L || chkL L) = true := by decide +kernel
end My

/-! # M7 -/
namespace My
theorem chk_all {L : List Nat} (h : Dn L) (hl : L.length ≤ 4) : chkL L = true := by
  have m := h.all
  have d := dnB_iff.mpr h
  have p := h.pos
  have key : (allL L.length L.length).all (fun L => !dnB L || chkL L) = true := by
    rcases (by omega : L.length = 1 ∨ L.length = 2 ∨ L.length = 3 ∨ L.length = 4) with e | e | e | e <;> rw [e]
    · exact chk1
    · exact chk2
    · exact chk3
    · exact chk4
  have := List.all_eq_true.mp key L m
  rw [d] at this
  simpa using this
theorem ranks_ok {n : Nat} (h1 : 1 ≤ n) (h4 : n ≤ 4) {G : List Nat} (h : G ∈ ranks n) : Dn G ∧ G.length = n := by
  have key : (ranks n).all (fun G => dnB G && G.length == n) = true := by
    rcases (by omega : n = 1 ∨ n = 2 ∨ n = 3 ∨ n = 4) with rfl | rfl | rfl | rfl
    · exact ranks1
    · exact ranks2
    · exact ranks3
    · exact ranks4
  have := List.all_eq_true.mp key G h
  rw [Bool.and_eq_true] at this
  exact ⟨dnB_iff.mp this.1, beq_iff_eq.mp this.2⟩
theorem chk_goal {L G : List Nat} (h : Dn L) (hl : L.length ≤ 4) (hG : G ∈ ranks L.length) : chkG (reach turnL L) (reach turnS L).1 L G = true :=
  List.all_eq_true.mp (chk_all h hl) G hG
end My

/-! # M8 -/
namespace My
theorem mem_ncells {L : List Nat} (h : Dn L) {v : Nat} : v ∈ L ↔ v < ncells L := by
  constructor
  · exact lt_ncells
  · intro hv
    obtain ⟨m, hm, e⟩ := max_mem (M := L) (fun z => by have := h.pos; rw [z] at this; exact absurd this (by decide))
    by_cases c : v = m
    · rw [c]; exact hm
    · obtain ⟨w, hw, ew⟩ := mem_lv hm
      obtain ⟨u, hu, eu⟩ := h.dn w hw v (by omega)
      rw [← eu]
      exact lv_mem hu
theorem zipIdx_lv (L : List Nat) : L.zipIdx = (List.range L.length).map fun i => (lv L i, i) := by
  apply List.ext_getElem
  · simp
  · intro i h1 h2
    have hi : i < L.length := by simpa using h1
    simp [lv, List.getD_eq_getElem?_getD, List.getElem?_eq_getElem hi]
theorem zipIdx_cells (L : List Nat) : (cellsOf L).zipIdx = (List.range (ncells L)).map fun i => (cell L i, i) := by
  apply List.ext_getElem
  · simp [cellsOf]
  · intro i h1 h2
    simp [cellsOf]
theorem range_one : ∀ {n c : Nat}, c < n → ((List.range n).filter fun i => i == c) = [c]
  | 0, _, h => by omega
  | n + 1, c, h => by
    rw [List.range_succ, List.filter_append]
    by_cases e : c = n
    · subst e
      rw [filter_nil (fun x hx => by have := List.mem_range.mp hx; simp; omega)]
      simp
    · rw [range_one (by omega)]
      have : (n == c) = false := by simp; omega
      simp [this]
theorem lev_of {L : List Nat} {x : Nat} (hx : x < L.length) : (((cellsOf L).zipIdx.filter fun q => decide (x ∈ q.1)).map fun q => q.2) = [lv L x] := by
  rw [zipIdx_cells, List.filter_map, List.map_map]
  have : ((fun q : List Nat × Nat => decide (x ∈ q.1)) ∘ fun i => (cell L i, i)) = fun i => (i == lv L x) := by
    funext i
    simp only [Function.comp]
    rw [Bool.eq_iff_iff, decide_eq_true_iff, mem_cell, beq_iff_eq]
    constructor
    · rintro ⟨_, e⟩; exact e.symm
    · intro e; exact ⟨hx, e.symm⟩
  rw [this, range_one (lv_lt hx)]
  rfl
theorem cell_zip (L : List Nat) (c : Nat) : ((L.zipIdx.filter fun q => decide (q.1 = c)).map fun q => q.2) = cell L c := by
  rw [zipIdx_lv, List.filter_map, List.map_map]
  unfold cell
  have : ((fun q : Nat × Nat => decide (q.1 = c)) ∘ fun i => (lv L i, i)) = fun i => (L.getD i 0 == c) := by
    funext i
    show decide (lv L i = c) = (lv L i == c)
    rw [Bool.eq_iff_iff]; simp
  rw [this]
  show ((List.range L.length).filter _).map (fun i => i) = _
  rw [List.map_id']
structure CS (cs : List (List Nat)) (n : Nat) : Prop where
  ne : cs ≠ []
  ce : ∀ c ∈ cs, c ≠ [] ∧ c.Pairwise (· < ·)
  pm : cs.flatten.Perm (List.range n)
  n12 : n ≤ 12
theorem CS.nd {cs : List (List Nat)} {n : Nat} (h : CS cs n) : cs.flatten.Nodup := h.pm.nodup_iff.mpr List.nodup_range
theorem CS.lt {cs : List (List Nat)} {n x : Nat} (h : CS cs n) (hx : x ∈ cs.flatten) : x < n := List.mem_range.mp (h.pm.mem_iff.mp hx)
theorem CS.len {cs : List (List Nat)} {n : Nat} (h : CS cs n) : cs.flatten.length = n := by rw [h.pm.length_eq, List.length_range]
theorem CS.lenc : ∀ {cs : List (List Nat)}, (∀ c ∈ cs, c ≠ []) → cs.length ≤ cs.flatten.length
  | [], _ => by simp
  | c :: cs, h => by
    have := CS.lenc (cs := cs) fun d hd => h d (List.mem_cons_of_mem _ hd)
    have h2 := h c List.mem_cons_self
    have : 0 < c.length := List.length_pos_iff.mpr h2
    simp only [List.flatten_cons, List.length_append, List.length_cons]
    omega
theorem CS.clen {cs : List (List Nat)} {n : Nat} (h : CS cs n) : cs.length ≤ 12 := by
  have := CS.lenc (cs := cs) fun c hc => (h.ce c hc).1
  rw [h.len] at this
  have := h.n12
  omega
theorem flat_le {c : List Nat} : ∀ {cs : List (List Nat)}, c ∈ cs → c.length ≤ cs.flatten.length
  | d :: cs, h => by
    simp only [List.flatten_cons, List.length_append]
    rcases List.mem_cons.mp h with rfl | h
    · omega
    · have := flat_le h
      omega
theorem CS.cl {cs : List (List Nat)} {n : Nat} (h : CS cs n) {c : List Nat} (hc : c ∈ cs) : c.length ≤ 12 := by
  have := flat_le hc
  rw [h.len] at this
  have := h.n12
  omega
theorem cells_perm (L : List Nat) : ∀ k, ((List.range k).map (cell L)).flatten.Perm ((List.range L.length).filter fun w => decide (lv L w < k))
  | 0 => by
    rw [filter_nil (fun x _ => by simp)]
    exact List.Perm.refl _
  | k + 1 => by
    rw [List.range_succ, List.map_append, List.flatten_append]
    have ih := cells_perm L k
    have e := List.filter_append_perm (fun w => decide (lv L w < k)) ((List.range L.length).filter fun w => decide (lv L w < k + 1))
    rw [List.filter_filter, List.filter_filter] at e
    have e1 : ((List.range L.length).filter fun w => decide (lv L w < k) && decide (lv L w < k + 1)) = (List.range L.length).filter fun w => decide (lv L w < k) := List.filter_congr fun w _ => by
      rw [Bool.eq_iff_iff]; simp; omega
    have e2 : ((List.range L.length).filter fun w => !decide (lv L w < k) && decide (lv L w < k + 1)) = cell L k := by
      unfold cell
      refine List.filter_congr fun w _ => ?_
      show _ = (lv L w == k)
      rw [Bool.eq_iff_iff]; simp; omega
    rw [e1, e2] at e
    simp only [List.map_cons, List.map_nil, List.flatten_cons, List.flatten_nil, List.append_nil]
    exact (ih.append_right _).trans e
theorem cell_up (L : List Nat) (c : Nat) : (cell L c).Pairwise (· < ·) := List.pairwise_lt_range.filter _
theorem cs_of {L : List Nat} (h : Dn L) (h12 : L.length ≤ 12) : CS (cellsOf L) L.length where
  ne := by rw [cellsOf_cons h]; exact List.cons_ne_nil _ _
  ce := fun c hc => by
    obtain ⟨k, hk, rfl⟩ := List.mem_map.mp hc
    refine ⟨?_, cell_up L k⟩
    obtain ⟨w, hw, e⟩ := mem_lv ((mem_ncells h).mpr (List.mem_range.mp hk))
    intro z
    have : w ∈ cell L k := mem_cell.mpr ⟨hw, e⟩
    rw [z] at this
    cases this
  pm := by
    have := cells_perm L (ncells L)
    rw [List.filter_eq_self.mpr (fun w hw => by have := lv_lt (List.mem_range.mp hw); simpa using this)] at this
    exact this
  n12 := h12
theorem flat_cells {n : Nat} (h : 0 < n) : cellsOf (flat n) = [List.range n] := by
  have e : ncells (flat n) = 1 := by
    apply Nat.le_antisymm
    · exact ncells_le fun v hv => by have := List.eq_of_mem_replicate hv; omega
    · exact (flat_den h).dn.npos
  have e2 : cell (flat n) 0 = List.range n := by
    unfold cell
    rw [show (flat n).length = n by simp [flat]]
    refine List.filter_eq_self.mpr fun w _ => ?_
    show (lv (flat n) w == 0) = true
    rw [lv_flat]
    rfl
  unfold cellsOf
  rw [e]
  show [cell (flat n) 0] = _
  rw [e2]
end My

/-! # M9 -/
namespace My
open PySem
theorem cells_permP (L : List Nat) (P : Nat → Bool) : ∀ k, (((List.range k).filter P).map (cell L)).flatten.Perm ((List.range L.length).filter fun w => decide (lv L w < k) && P (lv L w))
  | 0 => by
    rw [filter_nil (xs := List.range L.length) (fun x _ => by simp)]
    exact List.Perm.refl _
  | k + 1 => by
    rw [List.range_succ, List.filter_append, List.map_append, List.flatten_append]
    have ih := cells_permP L P k
    by_cases hP : P k = true
    · have e := List.filter_append_perm (fun w => decide (lv L w < k)) ((List.range L.length).filter fun w => decide (lv L w < k + 1) && P (lv L w))
      rw [List.filter_filter, List.filter_filter] at e
      have e1 : ((List.range L.length).filter fun w => decide (lv L w < k) && (decide (lv L w < k + 1) && P (lv L w))) = (List.range L.length).filter fun w => decide (lv L w < k) && P (lv L w) := List.filter_congr fun w _ => by
        rw [Bool.eq_iff_iff]
        simp only [Bool.and_eq_true, decide_eq_true_eq]
        constructor
        · rintro ⟨a, _, c⟩; exact ⟨a, c⟩
        · rintro ⟨a, c⟩; exact ⟨a, by omega, c⟩
      have e2 : ((List.range L.length).filter fun w => !decide (lv L w < k) && (decide (lv L w < k + 1) && P (lv L w))) = cell L k := by
        unfold cell
        refine List.filter_congr fun w _ => ?_
        show _ = (lv L w == k)
        rw [Bool.eq_iff_iff]
        simp only [Bool.and_eq_true, decide_eq_true_eq, Bool.not_eq_true', decide_eq_false_iff_not, beq_iff_eq]
        constructor
        · rintro ⟨a, b, _⟩; omega
        · intro a; rw [a]; exact ⟨by omega, by omega, hP⟩
      rw [e1, e2] at e
      rw [List.filter_cons_of_pos hP]
      simp only [List.filter_nil, List.map_cons, List.map_nil, List.flatten_cons, List.flatten_nil, List.append_nil]
      exact (ih.append_right _).trans e
    · have e1 : ((List.range L.length).filter fun w => decide (lv L w < k + 1) && P (lv L w)) = (List.range L.length).filter fun w => decide (lv L w < k) && P (lv L w) := List.filter_congr fun w _ => by
        rw [Bool.eq_iff_iff]
        simp only [Bool.and_eq_true, decide_eq_true_eq]
        constructor
        · rintro ⟨a, c⟩
          refine ⟨?_, c⟩
          by_cases h : lv L w = k
          · rw [h] at c; exact absurd c hP
          · omega
        · rintro ⟨a, c⟩; exact ⟨by omega, c⟩
      rw [e1, List.filter_cons_of_neg hP]
      simp only [List.filter_nil, List.map_nil, List.flatten_nil, List.append_nil]
      exact ih
theorem lead_perm (G : List Nat) (j : Nat) : ((((cellsOf G).zip (List.range (ncells G))).filter fun q => q.2 / 2 ^ j % 2 == 0).flatMap fun q => q.1).Perm (leadLot G j) := by
  have e : (cellsOf G).zip (List.range (ncells G)) = (List.range (ncells G)).map fun i => (cell G i, i) := by
    unfold cellsOf
    apply List.ext_getElem
    · simp
    · intro i h1 h2
      simp
  rw [e, List.filter_map, List.flatMap_map]
  have := cells_permP G (fun i => i / 2 ^ j % 2 == 0) (ncells G)
  have e2 : ((List.range G.length).filter fun w => decide (lv G w < ncells G) && (lv G w / 2 ^ j % 2 == 0)) = leadLot G j := by
    unfold leadLot sel
    refine List.filter_congr fun w hw => ?_
    have := lv_lt (List.mem_range.mp hw)
    simp [this]
  rw [e2] at this
  exact this
theorem bit_lem (i j : Nat) : decide (Builtin.bitAnd ((i : Int) / 2 ^ ((j : Int)).toNat) 1 = 0) = (i / 2 ^ j % 2 == 0) := by
  have h := Bits.bitAnd_mask (x := (i : Int) / 2 ^ ((j : Int)).toNat) 1 (Int.ediv_nonneg (by omega) (Int.le_of_lt (Int.pow_pos (by decide))))
  rw [show ((2 : Int) ^ 1 - 1) = 1 by decide] at h
  rw [h]
  have e : ((i : Int) / 2 ^ ((j : Int)).toNat) % 2 ^ 1 = ((i / 2 ^ j % 2 : Nat) : Int) := by
    rw [Int.toNat_natCast]
    simp
  rw [e, Bool.eq_iff_iff]
  simp only [decide_eq_true_eq, beq_iff_eq]
  omega
theorem find_first {p : Nat → Bool} {n k : Nat} (hk : k < n) (hp : p k = true) (h : ∀ x, x < k → p x = false) : (List.range n).find? p = some k := by
  rw [List.find?_eq_some_iff_getElem]
  refine ⟨hp, k, by simpa using hk, by simp, fun j hj => ?_⟩
  simp [h j hj]
theorem sel_contains {n w : Nat} {p : Nat → Bool} (h : w < n) : (sel n p).contains w = p w := by
  rw [Bool.eq_iff_iff, List.contains_iff_mem, sel, List.mem_filter, List.mem_range]
  simp [h]
theorem mem_sel {n w : Nat} {p : Nat → Bool} : w ∈ sel n p ↔ w < n ∧ p w = true := by
  unfold sel
  rw [List.mem_filter, List.mem_range]
theorem lowOut_min {L lot : List Nat} (h : comp L.length lot ≠ []) : lowOut L lot ∈ (comp L.length lot).map (lv L) ∧ ∀ y ∈ (comp L.length lot).map (lv L), lowOut L lot ≤ y :=
  minL_mem (by simpa using h)
theorem comp_ne {n : Nat} {xs : List Nat} (hn : xs.Nodup) (hx : ∀ y ∈ xs, y < n) (hl : xs.length ≠ n) : comp n xs ≠ [] := by
  intro z
  have h2 : ∀ y ∈ List.range n, y ∈ xs := fun y hy => by
    have hy := List.mem_range.mp hy
    by_cases c : y ∈ xs
    · exact c
    · have : y ∈ comp n xs := mem_comp.mpr ⟨hy, c⟩
      rw [z] at this
      cases this
  have a := nodup_le (xs := List.range n) (ys := xs) List.nodup_range h2
  have b := nodup_le (xs := xs) (ys := List.range n) hn fun y hy => List.mem_range.mpr (hx y hy)
  rw [List.length_range] at a b
  omega
def jp (L G : List Nat) : Option (List (List Nat)) := if (cell L 0).all (heldB G) && mrg L (heldB G) == G then some (parts L (heldB G)) else none
theorem lrow_jp (L G : List Nat) : lrow L G = (jp L G).map fun ps => ps.map (comp L.length) := by
  unfold lrow jp
  split <;> rfl
theorem parts_filter {p : Nat → Bool} (cs : List (List Nat)) : (cs.filter fun c => ne0 (c.filter p)).map (fun c => c.filter p) = (cs.map fun c => c.filter p).filter ne0 := by
  rw [List.filter_map]
  rfl
end My

/-! # Lib4 -/
/-! sorted(set(a list of ints)) -/
namespace My
open PySem PyProof.Rows L2
/-- a set as set.__new__ leaves it -/
abbrev bareSet (wd : World) : Obj := { cls := .type "set", dict := none, data := .set #[] 0 (.fresh 0 0 (!wd.params.followText "set-order")) }
/-- set(l), l a list of the ints ns -/
theorem set_of_list {pr : Program} {wd : World} {Ar : Around} {Ex Go : Value → Shared → Prop} {st : Shared} {l : Addr} {its : Array Value} (ns : List Int) (calm : Ar.handled = none) (hl : st.heap.IsList l its) (hi : IntsAre its.toList ns) (small : ns.length + 1 < scanBound)
    (go : ∀ (hp : Heap) (tk c : Nat), SetR wd hp st.heap.objs.size (fun j => decide (j ∈ ns)) c → c ≤ ns.length → (∀ b ob, st.heap.get? b = some ob → hp.get? b = some ob) → Go (.ref st.heap.objs.size) { st with heap := hp, toks := tk }) :
    wpAny (model pr wd) Ar (call (.type "set") [.ref l]) Go Ex st := by
  -- the class is called: __new__ lays the bare set, then __init__ fills it
  obtain ⟨top, more, chain⟩ := F.called_set.mro
  have isMade := F.called_set.made
  have under := F.called_set.sub
  have other := F.called_set.notType
  have able := F.called_set.canCreate
  have checked := F.typeCall_set_1 (.ref l)
  have seek := F.called_set.init.lookup
  have bound := F.called_set.init.bind (.ref st.heap.objs.size)
  have atN : (st.heap.push (bareSet wd)).get? st.heap.objs.size = some (bareSet wd) := Heap.get?_push_size _ rfl
  have typN : Shared.TypeIs { st with heap := st.heap.push (bareSet wd) } (.ref st.heap.objs.size) "set" := ⟨_, atN, rfl⟩
  refine wpAny_call (codeAny_of_tree (?_ : wpAny _ _ (callAny (.type "set") ⟨[.ref l], []⟩) _ _ st))
  refine wpAny_pure ⟨Code.quiet_builtin _ (by decide +kernel), codeAny_builtin (b := Builtin.«type.__call__») F.entry_type_call ?_⟩
  rw [Around.under_plain (weight_type_call_type "set" [Value.ref l] []) rfl]
  repeat (any_goals first | assumption | wp_step)
  refine codeAny_mono (code_set_led1 (.ref l) (E := Ex) (Q₁ := fun ob s' => ob = .ref st.heap.objs.size ∧ s' = { st with heap := st.heap.push (bareSet wd) }) ⟨rfl, rfl⟩) fun back s' hback => ?_
  rcases back with er | (_ | _ | _ | nv)
  all_goals first | exact hback | exact hback.elim | skip
  obtain ⟨rfl, rfl⟩ := hback
  repeat (any_goals first | assumption | wp_step)
  refine codeAny_mono (codeAny_call_builtin (R := wants (fun r s2 => r = .none ∧ Go (.ref st.heap.objs.size) s2) Ex) F.called_set.init.plain F.entry_set_init (check_set_init_1 typN ?_)) fun back2 s2 hback2 => ?_
  rotate_left
  · rcases back2 with er | (_ | _ | _ | nv)
    all_goals first | exact hback2 | exact hback2.elim | skip
    obtain ⟨rfl, done⟩ := hback2
    repeat (any_goals first | assumption | wp_step)
  have many : its.size = ns.length := by have := IntsAre.length hi; rwa [Array.length_toList] at this
  obtain ⟨⟨c0, d0, dat0, sl0⟩, lAt, lC, en, lD⟩ := hl
  simp only at lC lD
  subst lC lD
  have lAt' : (st.heap.push (bareSet wd)).get? l = some _ := Heap.get?_push_of_some _ lAt
  have kindS := F.sub_list_set
  have kindF := F.sub_list_frozenset
  have kindD : (Value.type "list" == Value.type "dict") = false := rfl
  have isL : (st.heap.push (bareSet wd)).IsList l its := ⟨_, lAt', rfl, en, rfl⟩
  have below : l < st.heap.objs.size := Heap.lt_size lAt
  have grown : (st.heap.push (bareSet wd)).objs.size = st.heap.objs.size + 1 := Heap.size_push ..
  have apart : l ≠ (st.heap.push (bareSet wd)).objs.size := by rw [grown]; exact Nat.ne_of_lt (Nat.lt_succ_of_lt below)
  have quiet : Ar.in1.in1.in1.handled = none := by simp [calm]
  unfold Builtin.«set.__init__» noKeywords Builtin.Frozenset.updateFrom
  generalize keep : pyIter = walkOver
  wp_walk
  subst keep
  refine wpAny_pyIter_list isL (wpAny_bind (wpAny_runValue ?_))
  refine set_update_ints (n := its.size) ((Walks.list quiet _ l apart its).toS) st.heap.objs.size ?out ns many small ?val (its.size - 0) 0 _ (by omega) (Nat.zero_le _) ⟨⟨_, Heap.get?_push_size _ rfl, rfl, rfl⟩, isL.push _⟩ ?beg ?fin
  case out =>
    rw [grown]
    intro m
    rcases List.mem_cons.mp m with z | z
    · exact absurd z (Nat.ne_of_lt (Nat.lt_succ_self _))
    · exact absurd (List.mem_singleton.mp z) (Nat.ne_of_gt below)
  case val =>
    intro i v hv
    have hin : i < ns.length := many ▸ (Array.getElem?_eq_some_iff.mp hv).1
    obtain ⟨tk, ev⟩ := PyProof.Rows.IntsAre.int_at hi i v ((Array.getElem?_toList ..).trans hv)
    exact ⟨ns[i], tk, List.getElem?_eq_getElem hin, by rw [ev, List.getD_eq_getElem?_getD, List.getElem?_eq_getElem hin]; rfl⟩
  case beg => exact ⟨0, Nat.le_refl 0, setR_new_at (Heap.get?_push_of_some _ atN)⟩
  case fin =>
    rintro ⟨hp, gn, dr, tk, os⟩ c mv le R
    have eg : gn = st.gens := mv.gens
    have ed : dr = st.drawn := mv.drawn
    have eo : os = st.os := mv.os
    subst eg ed eo
    refine wpAny_pure (wpAny_pure ⟨rfl, go hp tk c R (many ▸ le) fun b ob hb => ?_⟩)
    have lb : b < st.heap.objs.size := Heap.lt_size hb
    refine mv.heap b ob (fun m => ?_) (Heap.get?_push_of_some _ (Heap.get?_push_of_some _ hb))
    rcases List.mem_cons.mp m with z | z
    · exact absurd z (Nat.ne_of_lt lb)
    · exact absurd ((List.mem_singleton.mp z).trans grown) (Nat.ne_of_lt (Nat.lt_succ_of_lt lb))
end My
namespace L2
open PySem PyProof.Rows
section
variable {X : Cx}
def rSetOfL (K : PySem.W.Frag) (w : World) : List V → Hp → VK → Prop := fun xs H Q => ∃ (l : Addr) (ns : List Int), xs = [V.ref l] ∧ SqL K H l (ns.map V.int) ∧ ns.length < 64 ∧ ∀ a c, H a = none → c ≤ ns.length → Q (.ref a) (upd H a (SetO w a (fun j => decide (j ∈ ns)) c))
theorem cr_setOfL (hc : X.calm = true) : CallR X (.type "set") (rSetOfL X.K X.w) := fun pins st σ H args us Go Iv rel ⟨l, ns, ea, isL, few, go⟩ => by
  subst ea
  obtain ⟨its, items, lst, _⟩ := Iv.list isL
  rw [Vals.ref1 rel]
  have newA : H st.heap.objs.size = none := Iv.hok.fresh (Nat.le_refl _)
  exact My.set_of_list (pr := X.prog) (wd := X.w) ns (Iv.ok.hd hc) lst.isList (show IntsAre its.toArray.toList ns from ints_of_vals items) (by unfold scanBound; omega) fun hp tk c R le same => ⟨.ref st.heap.objs.size, upd H st.heap.objs.size (SetO X.w st.heap.objs.size (fun j => decide (j ∈ ns)) c), Iv.laid (t' := tk) same (Nat.le_refl _) (setO_new R), rfl, go _ c newA le⟩
end
end L2
namespace My
open PySem L2
theorem strict_eq : ∀ {xs ys : List Int}, xs.Pairwise (· < ·) → ys.Pairwise (· < ·) → (∀ k, k ∈ xs ↔ k ∈ ys) → xs = ys
  | [], [], _, _, _ => rfl
  | [], y :: ys, _, _, h => by have := (h y).mpr (by simp); cases this
  | x :: xs, [], _, _, h => by have := (h x).mp (by simp); cases this
  | x :: xs, y :: ys, hx, hy, h => by
    obtain ⟨x1, x2⟩ := List.pairwise_cons.mp hx
    obtain ⟨y1, y2⟩ := List.pairwise_cons.mp hy
    have e : x = y := by
      rcases List.mem_cons.mp ((h x).mp (by simp)) with e | e
      · exact e
      · rcases List.mem_cons.mp ((h y).mpr (by simp)) with e' | e'
        · exact e'.symm
        · have := x1 y e'
          have := y1 x e
          omega
    subst e
    rw [strict_eq x2 y2 fun k => ?_]
    have hk := h k
    simp only [List.mem_cons] at hk
    constructor
    · intro m
      rcases hk.mp (.inr m) with e | e
      · subst e; exact absurd (x1 k m) (by omega)
      · exact e
    · intro m
      rcases hk.mpr (.inr m) with e | e
      · subst e; exact absurd (y1 k m) (by omega)
      · exact e
section
variable {S : SC} {ρ : List Sl} {e : Expr} {pos p : Pos}
/-- sorted(set(e)), e a list of ints -/
theorem je_sortedSet {xs ys : List Int} {p2 pos2 : Pos} (hm : S.mg "sorted" = none) (hm2 : S.mg "set" = none) (ha : JE S e ρ (.LI xs)) (hl : xs.length < 64) (ho : ys.Pairwise (· < ·)) (hx : ∀ k, k ∈ ys ↔ k ∈ xs) (hg : S.sc.names.lookup ("sorted" : Str) = some .globalImplicit := by rfl) (hg2 : S.sc.names.lookup ("set" : Str) = some .globalImplicit := by rfl)
    (hs : ∀ env, starEach [e] env = (false, eval e env) :: starEach [] env := by intro _; rfl) :
    JE S (.Call (.Name "sorted" p) [.Call (.Name "set" p2) [e] [] pos2] [] pos) ρ (.LI ys) :=
  je_of (t := tCB (rSortedSet S.w) (tCons (tCB (rSetOfL S.K S.w) (wA S [e])) tNil)) (fun X h => by
    have h1 : CallR X (.builtin "sorted") (rSortedSet S.w) := by have := cr_sortedSet h.calm; rw [h.w] at this; exact this
    have h2 : CallR X (.type "set") (rSetOfL S.K S.w) := by have := cr_setOfL h.calm; rw [h.w, h.K] at this; exact this
    exact pe_callB h1 (show X.env.scope.names.lookup ("sorted" : Str) = _ by rw [h.sc]; exact hg) (by rw [h.mg]; exact hm) (by decide +kernel) (pa_cons (pe_callTy h2 (show X.env.scope.names.lookup ("set" : Str) = _ by rw [h.sc]; exact hg2) (by rw [h.mg]; exact hm2) (by decide +kernel) (wA_ok h) (by decide) (by decide) (hs _) rfl) pa_nil) (by decide) (by decide)) fun B σ H E Q k => by
    refine ja1 ha hs B σ H E _ fun vs B1 H1 g1 r1 => ?_
    obtain ⟨v, rfl, rv⟩ := rp1 r1
    cases rv with
    | @lst a vs ds h1 h2 =>
      have e0 := h2.ints
      subst e0
      refine ⟨a, xs, rfl, SqL.of (g1.bh _ _ h1), hl, fun a c hn hc => ?_⟩
      refine ⟨a, _, c, rfl, upd_same, by omega, fun ns q hp hk _ hq => ?_⟩
      have e1 : ns = ys := strict_eq hp ho fun k => by rw [hk k, hx k]; simp
      subst e1
      have ga := Gr.newH (o := SetO S.w a (fun j => decide (j ∈ xs)) c) g1.bh hn
      have gb := Gr.new (o := .lst (ns.map V.int)) ga.bh hq
      exact k _ _ _ (g1.trans (ga.trans gb)) (.lst upd_same (RpAll.ofInts ns))
end
end My

/-! # Kw -/
namespace My
open PySem L2
section
variable {S : SC} {ρ ρ' : List Sl} {d d' : Dt} {b b' : Bool} {ds l : List Dt} {e e1 e2 ek : Expr} {pos p kpos : Pos} {es : List Expr}
/-! ### defaults, keywords -/
/-- x(..) with the data dd filled up behind -/
structure CalleeD (G : Gx) (x : Str) (k : Nat) (ps : List Str) (dd : List Dt) (Rel : List Dt → Dt → Prop) : Prop where
  ex : ∃ f fd vals dvs, FnOk G.P G.w G.K G.mg G.base CX0 k f fd ps (spD G.C Rel) ∧ G.mg x = some (.ref f) ∧ PySem.W.keepIn G.K (.ref f) = true ∧ Binds G.K fd ps vals ∧ Vals dvs vals ∧ ∀ B, RpAll G.C B dvs dd
theorem je_callD {x : Str} {k : Nat} {ps : List Str} {dd : List Dt} {Rel : List Dt → Dt → Prop} (c : CalleeD S.toGx x k ps dd Rel) (ha : JA S (e :: es) ρ ds) (hr : Rel (ds ++ dd) d) (hk : k ≤ S.k := by exact Nat.le_of_ble_eq_true rfl) (hg : S.sc.names.lookup x = some .globalImplicit := by rfl) (hdb : (x == ("__debug__" : Str)) = false := by decide)
    (he : ∀ env, starEach (e :: es) env = (false, eval e env) :: starEach es env := by intro _; rfl) (hpl : ∀ env, (backTo pos (starEach es env)).any (·.1) = false := by intro _; rfl) : JE S (.Call (.Name x p) (e :: es) [] pos) ρ d := by
  obtain ⟨f, fd, vals, dvs, F, hm, hkp, hb, hv, hd⟩ := c.ex
  refine je_of (t := tCall (spD S.C Rel) dvs E0 (wA S (e :: es))) (fun X h => ?_) fun B σ H E Q q => ha B σ H E _ fun vs B1 H1 g1 r1 => ?_
  · have F' : FnOk X.prog X.w X.K X.mg X.base CX0 k f fd ps (spD S.C Rel) := by rw [h.prog, h.w, h.K, h.mg, h.base]; exact F
    exact pe_call F' (h.room.mono hk) (show X.env.scope.names.lookup x = _ by rw [h.sc]; exact hg) (by rw [h.mg]; exact hm) (by rw [h.K]; exact hkp) (by rw [h.K]; exact hb) hv pass0 (wA_ok h) hdb (he _) (hpl _)
  · exact ⟨B1, ds ++ dd, d, g1.bh, r1.append (hd B1), hr, fun y B' H' g r => q y B' H' (g1.trans g) r⟩
/-- x(.., kw = ..): n places, one keyword, that stands last in ps -/
structure CalleeK (G : Gx) (x : Str) (k : Nat) (ps : List Str) (n : Nat) (kw : Str) (Rel : List Dt → Dt → Prop) : Prop where
  ex : ∃ f fd, FnOk G.P G.w G.K G.mg G.base CX0 k f fd ps (spD G.C Rel) ∧ G.mg x = some (.ref f) ∧ PySem.W.keepIn G.K (.ref f) = true ∧ KBn G.K fd ps n [kw] (fun us ws => us ++ ws) (fun us ws => us ++ ws)
theorem je_callK {x kw : Str} {k n : Nat} {ps : List Str} {dk : Dt} {Rel : List Dt → Dt → Prop} (c : CalleeK S.toGx x k ps n kw Rel) (ha : JA S (e :: es) ρ ds) (hkd : JE S ek ρ dk) (hn : ds.length = n) (hr : Rel (ds ++ [dk]) d) (hk : k ≤ S.k := by exact Nat.le_of_ble_eq_true rfl) (hg : S.sc.names.lookup x = some .globalImplicit := by rfl)
    (hall : ∀ env, (backToKw pos (keywordEach [⟨some kw, ek, kpos⟩] env)).all (·.1.isSome) = true := by intro _; rfl) (hks : ∀ env, (backToKw pos (keywordEach [⟨some kw, ek, kpos⟩] env)).filterMap (·.1) = [kw] := by intro _; rfl) (hdb : (x == ("__debug__" : Str)) = false := by decide)
    (he : ∀ env, starEach (e :: es) env = (false, eval e env) :: starEach es env := by intro _; rfl) (hpl : ∀ env, ((backTo pos (starEach (e :: es) env)).any (·.1) || (backToKw pos (keywordEach [⟨some kw, ek, kpos⟩] env)).any (·.1.isNone)) = false := by intro _; rfl) : JE S (.Call (.Name x p) (e :: es) [⟨some kw, ek, kpos⟩] pos) ρ d := by
  obtain ⟨f, fd, F, hm, hkp, hb⟩ := c.ex
  refine je_of (t := tCallN n ([kw] : List Str).length (spD S.C Rel) (fun us ws => us ++ ws) E0 (wA S (e :: es)) (tCons (wE S ek) tNil)) (fun X h => ?_) fun B σ H E Q q => ha B σ H E _ fun vs B1 H1 g1 r1 => hkd B1 σ H1 (E.grow g1) _ fun v B2 H2 g2 r2 => ?_
  · have F' : FnOk X.prog X.w X.K X.mg X.base CX0 k f fd ps (spD S.C Rel) := by rw [h.prog, h.w, h.K, h.mg, h.base]; exact F
    exact pe_callN F' (h.room.mono hk) (show X.env.scope.names.lookup x = _ by rw [h.sc]; exact hg) (by rw [h.mg]; exact hm) (by rw [h.K]; exact hkp) (by rw [h.K]; exact hb) pass0 (wA_ok h) (pk_cons (wE_ok h) pk_nil) (hall _) (hks _) hdb (he _) (hpl _)
  · exact ⟨by rw [r1.length]; exact hn, rfl, B2, ds ++ [dk], d, g2.bh, (r1.mono g2.b).append (.cons r2 .nil), hr, fun y B' H' g r => q y B' H' ((g1.trans g2).trans g) r⟩
/-! ### a word in a tuple of words that the top has laid -/
structure WordsAt (G : Gx) (x : Str) (ws : List Str) : Prop where
  ex : ∃ a, G.mg x = some (.ref a) ∧ ∀ H, SqT G.K H a (ws.map V.str)
theorem inV_strs (w : Str) : ∀ ws : List Str, inV (.str w) (ws.map V.str) = decide (w ∈ ws)
  | [] => rfl
  | x :: xs => by
    have ih := inV_strs w xs
    unfold inV at ih ⊢
    rw [List.map_cons, List.any_cons, ih]
    have e : eqV (.str x) (.str w) = decide (x = w) := by
      show (x == w) = _
      rw [Bool.eq_iff_iff]; simp
    rw [e]
    by_cases c : x = w
    · subst c; simp
    · have c2 : ¬ w = x := fun z => c z.symm
      simp [c, c2]
theorem flat_strs : ∀ ws : List Str, (ws.map V.str).all flatV = true
  | [] => rfl
  | x :: xs => by
    show (true && (xs.map V.str).all flatV) = true
    rw [flat_strs xs]
    rfl
theorem words_ed {C : Addr} {neg : Bool} {K : PySem.W.Frag} {te : TE} {w : Str} {ws : List Str} {a : Addr} (ha : ED C te ρ (.str w)) (hS : ∀ H, SqT K H a (ws.map V.str)) : ED C (tOp (rIn K neg) te (tC (.ref a))) ρ (.bl (if neg then !decide (w ∈ ws) else decide (w ∈ ws))) := fun B σ H E Q k =>
  ha B σ H E _ fun v B1 H1 g1 r1 => by
    cases r1
    refine ⟨a, _, rfl, .inr (hS H1), rfl, flat_strs ws, ?_⟩
    rw [inV_strs]
    exact k _ B1 H1 g1 (.bl _)
theorem jt_inW {x : Str} {w : Str} {ws : List Str} {pw : Pos} (c : WordsAt S.toGx x ws) (ha : JE S e1 ρ (.str w)) (hg : S.sc.names.lookup x = some .globalImplicit := by rfl) (hdb : (x == ("__debug__" : Str)) = false := by decide) : JT S (.Compare e1 [.In] [.Name x pw] pos) ρ (decide (w ∈ ws)) := by
  obtain ⟨a, hm, hS⟩ := c.ex
  exact jt_of (t := tTest (tOp (rIn S.K false) (wE S e1) (tC (.ref a)))) (fun X h => by
    have h0 := op_in_seq (X := X)
    rw [h.K] at h0
    exact pt_cmpR h0 (wE_ok h) (pe_glob (v := .ref a) (u := .ref a) (show X.env.scope.names.lookup x = _ by rw [h.sc]; exact hg) (by rw [h.mg]; exact hm) rfl hdb) rfl) (td_test (words_ed (neg := false) ha hS))
theorem je_inW {x : Str} {w : Str} {ws : List Str} {pw : Pos} (c : WordsAt S.toGx x ws) (ha : JE S e1 ρ (.str w)) (hg : S.sc.names.lookup x = some .globalImplicit := by rfl) (hdb : (x == ("__debug__" : Str)) = false := by decide) : JE S (.Compare e1 [.In] [.Name x pw] pos) ρ (.bl (decide (w ∈ ws))) := by
  obtain ⟨a, hm, hS⟩ := c.ex
  exact je_of (t := tOp (rIn S.K false) (wE S e1) (tC (.ref a))) (fun X h => by
    have h0 := op_in_seq (X := X)
    rw [h.K] at h0
    exact pe_cmpR h0 (wE_ok h) (pe_glob (v := .ref a) (u := .ref a) (show X.env.scope.names.lookup x = _ by rw [h.sc]; exact hg) (by rw [h.mg]; exact hm) rfl hdb) rfl) (words_ed (neg := false) ha hS)
theorem jt_ninW {x : Str} {w : Str} {ws : List Str} {pw : Pos} (c : WordsAt S.toGx x ws) (ha : JE S e1 ρ (.str w)) (hg : S.sc.names.lookup x = some .globalImplicit := by rfl) (hdb : (x == ("__debug__" : Str)) = false := by decide) : JT S (.Compare e1 [.NotIn] [.Name x pw] pos) ρ (!decide (w ∈ ws)) := by
  obtain ⟨a, hm, hS⟩ := c.ex
  exact jt_of (t := tTest (tOp (rIn S.K true) (wE S e1) (tC (.ref a)))) (fun X h => by
    have h0 := op_notIn_seq (X := X)
    rw [h.K] at h0
    exact pt_cmpR h0 (wE_ok h) (pe_glob (v := .ref a) (u := .ref a) (show X.env.scope.names.lookup x = _ by rw [h.sc]; exact hg) (by rw [h.mg]; exact hm) rfl hdb) rfl) (td_test (words_ed (neg := true) ha hS))
/-! ### class methods, the class by a local name -/
structure CMetAt (G : Gx) (m : Str) (k : Nat) (Rel : List Dt → Dt → Prop) : Prop where
  ex : ∃ mc p g, ClX.CRead G.K G.C mc ∧ ClX.CMet G.K G.C mc m p g ∧ CalR G k g Rel
/-- Rank.m(e, ..) -/
theorem je_cmeth {pl : Env → Sem Bool} {m : Str} {k : Nat} {Rel : List Dt → Dt → Prop} {pn apos : Pos} (F : RkF S.toGx) (c : CMetAt S.toGx m k Rel) (ha : JA S (e :: es) ρ ds) (hr : Rel (.cl :: ds) d) (hk : k ≤ S.k := by exact Nat.le_of_ble_eq_true rfl) (hg : S.sc.names.lookup ("Rank" : Str) = some .globalImplicit := by rfl)
    (hst : ∀ env, starEach (e :: es) env = (false, eval e env) :: starEach es env := by intro _; rfl) (hpl : ∀ env, (backTo pos (starEach es env)).any (·.1) = false := by intro _; rfl)
    (ht : ∀ env, eval (.Call (.Attribute (.Name "Rank" pn) m apos) (e :: es) [] pos) env = (do
      let ov ← eval (.Name "Rank" pn) env
      standAt apos.atName
      let (f, first) ← holding [ov] (getMethod ov m (pl env))
      callWith pos f first (backTo pos (starEach (e :: es) env)) (backToKw pos (keywordEach [] env))) := by intro _; rfl) : JE S (.Call (.Attribute (.Name "Rank" pn) m apos) (e :: es) [] pos) ρ d := by
  obtain ⟨mc, q, g, h1, h2, h3⟩ := c.ex
  refine je_of (t := ClX.tCMeth S.C (spD S.C Rel) E0 (tC (.ref S.C)) (wA S (e :: es))) (fun X h => ?_) fun B σ H E Q kq => ⟨rfl, ha B σ H E _ fun vs B1 H1 g1 r1 => ?_⟩
  · have F' : FnR X.prog X.w X.K X.mg X.base CX0 k g (spD S.C Rel) := by rw [h.prog, h.w, h.K, h.mg, h.base]; exact h3
    exact ClX.pe_cmeth (mc := mc) (p := q) (g := g) (pl := pl X.env) (pe_glob (v := .ref S.C) (u := .ref S.C) (show X.env.scope.names.lookup ("Rank" : Str) = _ by rw [h.sc]; exact hg) (by rw [h.mg]; exact F.mg) rfl (by decide)) (by rw [h.K]; exact h1) (by rw [h.K]; exact h2) F' (h.room.mono hk) pass0 (wA_ok h) (hst _) (hpl _) (ht _)
  · exact ⟨B1, .cl :: ds, d, g1.bh, .cons .cl r1, hr, fun y B' H' gg r => kq y B' H' (g1.trans gg) r⟩
end
end My
namespace L2
open PySem PySem.Spec PyProof.Rows
def tMakeL (i : Nat) (C : Addr) (sp : Sp) (E : XK) (t : TA) : TE := fun σ H Q => σ[i]? = some (some (.ref C)) ∧ tMake C sp [] E t σ H Q
theorem pe_makeL {X : Cx} {CX : CXT} {k i : Nat} {f C : Addr} {fd : FuncData} {ps : List Str} {sp : Sp} {E : XK} {x : Str} {p pos : Pos} {e : Expr} {es : List Expr} {t : TA} (M : Mk X.K C f) (F : FnOk X.prog X.w X.K X.mg X.base CX k f fd ps sp) (hr : Room (k + 1) X.A) (hN : X.N[i]? = some x) (hv : Vis X.env.scope x) (hb : Binds X.K fd ps []) (hx : Passes CX X E) (ha : PA X (e :: es) t)
    (hdb : (x == ("__debug__" : Str)) = false := by decide) (hcd : (x == ("__classdict__" : Str)) = false := by decide)
    (he : starEach (e :: es) X.env = (false, eval e X.env) :: starEach es X.env := by rfl) (hpl : (backTo pos (starEach es X.env)).any (·.1) = false := by rfl) : PE X (.Call (.Name x p) (e :: es) [] pos) (tMakeL i C sp E t) := by
  refine ⟨fun pins s σ H Q I h => ?_⟩
  obtain ⟨hs, ht⟩ := h
  refine wpAny_Call_Name_kw (thn ((pe_var (pos := p) hN hv hdb hcd).run pins s σ H (fun v H1 => v = .ref C ∧ H1 = H) I ⟨.ref C, hs, rfl, rfl⟩) fun u s1 ⟨v, H1, I1, r1, q1⟩ => ?_)
  obtain ⟨rfl, rfl⟩ := q1
  cases r1
  refine PySem.W.callWith_K (h₀ := X.base) I1.ok.mod.kin M.kp (thn (ha.run pos pins s1 σ _ _ I1 ht) fun us s2 ⟨vs, H2, I2, r, q⟩ => ⟨I2.kIn, ?_⟩) he hpl
  exact run_make M F hr hb .nil hx I2 r q
end L2
namespace My
open PySem L2
section
variable {S : SC} {ρ ρ' : List Sl} {d d' : Dt} {b b' : Bool} {ds l : List Dt} {e e1 e2 ek : Expr} {pos p kpos : Pos} {es : List Expr}
/-- cls(e, ..), cls a local name that holds the class -/
theorem je_makeL (i : Nat) {x : Str} {k : Nat} {L : List Nat} {Rel : List Dt → List Nat → Prop} (M : MkAt S.toGx k Rel) (ha : JA S (e :: es) ρ ds) (hr : Rel ds L) (hk : k + 1 ≤ S.k := by exact Nat.le_of_ble_eq_true rfl) (hN : S.N[i]? = some x := by rfl) (hv : Vis S.sc x := by first | exact Or.inl rfl | exact Or.inr (Or.inl rfl) | exact Or.inr (Or.inr rfl)) (hl : ρ[i]? = some (.v .cl) := by rfl)
    (hdb : (x == ("__debug__" : Str)) = false := by decide) (hcd : (x == ("__classdict__" : Str)) = false := by decide) (he : ∀ env, starEach (e :: es) env = (false, eval e env) :: starEach es env := by intro _; rfl) (hpl : ∀ env, (backTo pos (starEach es env)).any (·.1) = false := by intro _; rfl) : JE S (.Call (.Name x p) (e :: es) [] pos) ρ (.rk L) := by
  obtain ⟨f, fd, ps, hM, hF, hb⟩ := M.ex
  refine je_of (t := tMakeL i S.C (spInit S.C Rel) E0 (wA S (e :: es))) (fun X h => ?_) fun B σ H E Q kq => ⟨?_, ed_make ha hr B σ H E Q kq⟩
  · have F' : FnOk X.prog X.w X.K X.mg X.base CX0 k f fd ps (spInit S.C Rel) := by rw [h.prog, h.w, h.K, h.mg, h.base]; exact hF
    exact pe_makeL (by rw [h.K]; exact hM) F' (h.room.mono hk) (by rw [h.N]; exact hN) (by rw [h.sc]; exact hv) (by rw [h.K]; exact hb) pass0 (wA_ok h) hdb hcd (he _) (hpl _)
  · obtain ⟨v, e1, r⟩ := E.sl i _ hl
    cases r
    exact e1
end
end My

/-! # D1 -/
namespace My
open PySem L2
variable {G : Gx}
def b1 (kV doc pm : Value) (an : Option Addr) (cdv ct : Value) : True := trivial
theorem sc_whole : FnScope ["value"] ["value"] (defScope (top 9)) := ⟨rfl, rfl, rfl, by decide +kernel, rfl, by decide +kernel, by decide +kernel⟩
def RWhole (ds : List Dt) (d : Dt) : Prop := ∃ i : Int, ds = [.int i] ∧ d = .bl true
theorem ok_whole (Z : Bt G) (D : DefAt G "whole_number" "whole_number" (top 9)) : Callee G "whole_number" 1 ["value"] RWhole := by
  refine callee_of D sc_whole (fun _ _ _ _ _ _ us hl => match us, hl with | [_], _ => rfl) (fun ds d ⟨_, e, _⟩ => by rw [e]; rfl) fun ds d ⟨i, e, ed⟩ => ?_
  subst e ed
  show JB _ _ [.v (.int i)] _ _ _ _
  exact jb_one (js_ret (je_and (je_isi (Tn := "int") (b := true) Z.isi Z.int (je_var 0) rfl (by rfl) (by decide +kernel)) fun _ => je_one (je_not (je_isi (Tn := "bool") (b := false) Z.isi Z.bool (je_var 0) rfl (by rfl) (by decide +kernel)))) rfl)
theorem sc_isrow : FnScope ["value"] ["value"] (defScope (top 10)) := ⟨rfl, rfl, rfl, by decide +kernel, rfl, by decide +kernel, by decide +kernel⟩
def RRow (ds : List Dt) (d : Dt) : Prop := ∃ (x : Dt) (l : List Dt), ds = [x] ∧ sq x l ∧ d = .bl true
theorem ok_isrow (Z : Bt G) (D : DefAt G "is_row" "is_row" (top 10)) : Callee G "is_row" 1 ["value"] RRow := by
  refine callee_of D sc_isrow (fun _ _ _ _ _ _ us hl => match us, hl with | [_], _ => rfl) (fun ds d ⟨_, _, e, _⟩ => by rw [e]; rfl) fun ds d ⟨x, l, e, hx, ed⟩ => ?_
  subst e ed
  show JB _ _ [.v x] _ _ _ _
  rcases hx with rfl | rfl
  · exact jb_one (js_ret (je_isi2 (Tn := "list") (Un := "tuple") (b1 := false) (b2 := true) Z.isi Z.list Z.tuple (je_var 0) rfl (by rfl) (by rfl) (by decide +kernel) (by decide +kernel)) rfl)
  · exact jb_one (js_ret (je_isi2 (Tn := "list") (Un := "tuple") (b1 := true) (b2 := false) Z.isi Z.list Z.tuple (je_var 0) rfl (by rfl) (by rfl) (by decide +kernel) (by decide +kernel)) rfl)
theorem sc_check : FnScope ["worlds"] ["worlds"] (defScope (top 11)) := ⟨rfl, rfl, rfl, by decide +kernel, rfl, by decide +kernel, by decide +kernel⟩
def RCheck (ds : List Dt) (d : Dt) : Prop := ∃ n : Nat, ds = [.n n] ∧ 1 ≤ n ∧ n ≤ 12 ∧ d = .non
theorem ok_check (Z : Bt G) (cW : Callee G "whole_number" 1 ["value"] RWhole) (D : DefAt G "check_worlds" "check_worlds" (top 11)) : Callee G "check_worlds" 2 ["worlds"] RCheck := by
  refine callee_of D sc_check (fun _ _ _ _ _ _ us hl => match us, hl with | [_], _ => rfl) (fun ds d ⟨_, e, _⟩ => by rw [e]; rfl) fun ds d ⟨n, e, h1, h2, ed⟩ => ?_
  subst e ed
  show JB _ _ [.v (.n n)] _ _ _ _
  refine jb_skip (jt_is (jt_w (jw_or (jt_not (jt_val (je_call cW (ja_cons (je_var 0) ja_nil) ⟨_, rfl, rfl⟩))) fun _ => jw_or (jt_lt (je_var 0) je_int) fun _ => jw_or1 (jt_gt (je_var 0) je_int))) ?_) (jb_nil rfl)
  simp
  omega
theorem sc_isworld : FnScope ["value", "worlds"] ["value", "worlds"] (defScope (top 12)) := ⟨rfl, rfl, rfl, by decide +kernel, rfl, by decide +kernel, by decide +kernel⟩
def RIsW (ds : List Dt) (d : Dt) : Prop := ∃ x n : Nat, ds = [.n x, .n n] ∧ d = .bl (decide (x < n))
theorem ok_isworld (Z : Bt G) (cW : Callee G "whole_number" 1 ["value"] RWhole) (D : DefAt G "is_world" "is_world" (top 12)) : Callee G "is_world" 2 ["value", "worlds"] RIsW := by
  refine callee_of D sc_isworld (fun _ _ _ _ _ _ us hl => match us, hl with | [_, _], _ => rfl) (fun ds d ⟨_, _, e, _⟩ => by rw [e]; rfl) fun ds d ⟨x, n, e, ed⟩ => ?_
  subst e ed
  show JB _ _ [.v (.n x), .v (.n n)] _ _ _ _
  refine jb_one (js_ret (je_is (je_and (je_call cW (ja_cons (je_var 0) ja_nil) ⟨_, rfl, rfl⟩) fun _ => je_one (je_leLt je_int (je_var 0) (je_var 1))) ?_) rfl)
  simp
theorem sc_strange : FnScope ["row", "worlds", "seen", "place", "value"] ["row", "worlds"] (defScope (top 13)) := ⟨rfl, rfl, rfl, by decide +kernel, rfl, by decide +kernel, by decide +kernel⟩
def RStr (ds : List Dt) (d : Dt) : Prop := ∃ (x : Dt) (xs : List Nat) (n : Nat), ds = [x, .n n] ∧ seqOf x xs ∧ xs.Nodup ∧ (∀ y ∈ xs, y < n) ∧ xs.length ≤ 100 ∧ d = .non
theorem seq_sq {x : Dt} {xs : List Nat} (h : seqOf x xs) : sq x (xs.map Dt.n) := h
theorem ok_strange (Z : Bt G) (cI : Callee G "is_world" 2 ["value", "worlds"] RIsW) (D : DefAt G "first_stranger" "first_stranger" (top 13)) : Callee G "first_stranger" 3 ["row", "worlds"] RStr := by
  refine callee_of D sc_strange (fun _ _ _ _ _ _ us hl => match us, hl with | [_, _], _ => rfl) (fun ds d ⟨_, _, _, e, _⟩ => by rw [e]; rfl) fun ds d ⟨x, xs, n, e, hs, hn, hb, hl, ed⟩ => ?_
  subst e ed
  show JB _ _ [.v x, .v (.n n), .un, .un, .un] _ _ _ _
  refine jb_then (js_own 2 ja_nil) ?_
  refine jb_cons (js_forP 3 4 xs.zipIdx (fun q => .n q.2) (fun q => .n q.1) (ji_enum xs Dt.n Z.enum (je_var 0) (seq_sq hs)) (fun k r => ∃ s3 s4, r = [.v x, .v (.n n), .o ((xs.take k).map Dt.n), s3, s4]) ⟨.un, .un, rfl⟩ ?_ (N := fun r => ∃ s3 s4, r = [.v x, .v (.n n), .o (xs.map Dt.n), s3, s4]) (fun r ⟨s3, s4, e⟩ => ⟨s3, s4, by rw [e, List.length_zipIdx, List.take_length]⟩)) ?_
  · rintro k ⟨y, j⟩ r hk ⟨s3, s4, rfl⟩
    have hy : xs[k]? = some y := by
      rw [List.getElem?_zipIdx] at hk
      cases e : xs[k]? with
      | none => rw [e] at hk; cases hk
      | some z => rw [e] at hk; cases hk; rfl
    show JB _ _ [.v x, .v (.n n), .o ((xs.take k).map Dt.n), .v (.n j), .v (.n y)] _ _ _ _
    have hyn : y < n := hb y (List.mem_of_getElem? hy)
    have hfresh : y ∉ xs.take k := fun z => by
      obtain ⟨i, hi, e⟩ := List.getElem_of_mem z
      rw [List.length_take] at hi
      rw [List.getElem_take] at e
      have h2 := (List.getElem?_eq_some_iff.mp hy)
      obtain ⟨hk2, e2⟩ := h2
      exact List.pairwise_iff_getElem.mp hn i k (by omega) hk2 (by omega) (e.trans e2.symm)
    refine jb_skip (jt_is (jt_w (jw_or (jt_not (jt_val (je_call cI (ja_cons (je_var 4) (ja_cons (je_var 1) ja_nil)) ⟨y, n, rfl, rfl⟩))) fun _ => jw_or1 (je_inO 2 rfl (je_var 4)))) ?_) (jb_one (SD.imp (js_app 2 rfl (je_var 4) (by rw [List.length_map, List.length_take]; omega)) (fun z e => ?_) fun _ h => h))
    · simp [hyn, hfresh]
    · exact ⟨.v (.n j), .v (.n y), e.trans (by rw [take_succ hy, List.map_append]; rfl)⟩
  · rintro r ⟨s3, s4, rfl⟩
    exact jb_one (js_ret je_non rfl)
end My

/-! # D2 -/
namespace My
open PySem L2
variable {G : Gx}
/-- the rule for a def with keyword-only defaults -/
theorem fn_DD {x qual : Str} {st : Stmt} {f : Addr} {fd : FuncData} {Ns ps : List Str} {k : Nat} {dvs : List V} {kws : List (Str × V)} {Rel : List Dt → Dt → Prop} (F : FunD G.K x qual (defArgs st) (defBody st) (defScope st) dvs kws f fd) (Sc : FnScope Ns ps (defScope st)) (hlen : ∀ ds d, Rel ds d → ds.length = ps.length)
    (body : ∀ ds d, Rel ds d → JB (scD G st Ns k) (defBody st) (rho0 Ns ds) (fun _ => d = .non) (fun z => z = d) (fun _ => False) (fun _ => False)) : FnOk G.P G.w G.K G.mg G.base CX0 (k + 1) f fd ps (spD G.C Rel) := by
  refine F.ok Sc (fun vs H Q E ⟨B, ds, d, _, r, rel, _⟩ => r.length.trans (hlen ds d rel)) (fun cdv A outer s H vs Q E hr ⟨B, ds, d, bh, r, rel, q⟩ => ?_)
  have hpl : ps.length ≤ Ns.length := by have := congrArg List.length Sc.pre; rw [List.length_take] at this; omega
  refine ⟨wB (scD G st Ns k) (defBody st), PSs.nox (wB_ok ⟨rfl, rfl, rfl, rfl, rfl, rfl, rfl, rfl, rfl, Sc.nd, hr, rfl⟩), ?_⟩
  refine body ds d rel B H _ B _ H (env_start bh r (by rw [hlen ds d rel]; exact hpl)) (fun B' σ' H' ρ' hn _ E' => ?_) (fun y B' H' d' hd g r' => ?_) (fun _ _ _ _ h => h.elim) (fun _ _ _ _ h => h.elim)
  · subst hn
    exact q .non B' H' E'.g .non
  · subst hd
    exact q y B' H' g r'
theorem sc_lot : FnScope ["lot", "worlds", "empty", "place"] ["lot", "worlds", "empty"] (defScope (top 14)) := ⟨rfl, rfl, rfl, by decide +kernel, rfl, by decide +kernel, by decide +kernel⟩
structure Asc (xs : List Nat) (n : Nat) : Prop where
  up : xs.Pairwise (· < ·)
  lt : ∀ y ∈ xs, y < n
  n1 : 1 ≤ n
  n12 : n ≤ 12
theorem Asc.nd {xs : List Nat} {n : Nat} (h : Asc xs n) : xs.Nodup := h.up.imp fun hh => Nat.ne_of_lt hh
theorem Asc.le {xs : List Nat} {n : Nat} (h : Asc xs n) : xs.Pairwise (· ≤ ·) := h.up.imp fun hh => Nat.le_of_lt hh
theorem Asc.len {xs : List Nat} {n : Nat} (h : Asc xs n) : xs.length ≤ n := by
  have := nodup_le (xs := xs) (ys := List.range n) h.nd fun y hy => List.mem_range.mpr (h.lt y hy)
  simpa using this
theorem Asc.filter {xs : List Nat} {n : Nat} (h : Asc xs n) (p : Nat → Bool) : Asc (xs.filter p) n := ⟨h.up.filter p, fun y hy => h.lt y (List.mem_filter.mp hy).1, h.n1, h.n12⟩
theorem Asc.range {n : Nat} (h1 : 1 ≤ n) (h2 : n ≤ 12) : Asc (List.range n) n := ⟨List.pairwise_lt_range, fun y hy => List.mem_range.mp hy, h1, h2⟩
theorem Asc.comp {n : Nat} (h1 : 1 ≤ n) (h2 : n ≤ 12) (c : List Nat) : Asc (comp n c) n := (Asc.range h1 h2).filter _
def RLot (ds : List Dt) (d : Dt) : Prop := ∃ (x : Dt) (xs : List Nat) (n : Nat), ds = [x, .n n, .bl true] ∧ seqOf x xs ∧ Asc xs n ∧ d = .T xs
theorem fn_lot {f : Addr} {fd : FuncData} {dvs : List V} {kws : List (Str × V)} (Z : Bt G) (cC : Callee G "check_worlds" 2 ["worlds"] RCheck) (cR : Callee G "is_row" 1 ["value"] RRow) (cF : Callee G "first_stranger" 3 ["row", "worlds"] RStr)
    (F : FunD G.K "lot_of" "lot_of" (defArgs (top 14)) (defBody (top 14)) (defScope (top 14)) dvs kws f fd) : FnOk G.P G.w G.K G.mg G.base CX0 4 f fd ["lot", "worlds", "empty"] (spD G.C RLot) := by
  refine fn_DD F sc_lot (fun ds d ⟨_, _, _, e, _⟩ => by rw [e]; rfl) fun ds d ⟨x, xs, n, e, hs, hA, ed⟩ => ?_
  subst e ed
  show JB _ _ [.v x, .v (.n n), .v (.bl true), .un] _ _ _ _
  have hl := hA.len
  have h12 := hA.n12
  refine jb_then (js_drop (je_call cC (ja_cons (je_var 1) ja_nil) ⟨n, rfl, hA.n1, hA.n12, rfl⟩) rfl) ?_
  refine jb_skip (jt_is (jt_not (jt_val (je_call cR (ja_cons (je_var 0) ja_nil) ⟨x, xs.map Dt.n, rfl, hs, rfl⟩))) rfl) ?_
  refine jb_then (js_set 3 (je_call cF (ja_cons (je_var 0) (ja_cons (je_var 1) ja_nil)) ⟨x, xs, n, rfl, hs, hA.nd, hA.lt, by omega, rfl⟩)) ?_
  refine jb_skip (jt_is (jt_notN (je_var 3)) rfl) ?_
  refine jb_skip (jt_is (jt_w (jw_and (jt_not (jt_tru (je_var 0) hs)) fun _ => jw_and1 (jt_not (jt_val (je_var 2))))) (by simp)) ?_
  rcases hs with rfl | rfl
  · exact jb_one (js_ret (je_tuple Z.tuple (je_sortedT (ys := xs) Z.sorted (je_var 0) (List.Perm.refl _) hA.le) (.inr rfl)) rfl)
  · exact jb_one (js_ret (je_tuple Z.tuple (je_sortedN (ys := xs) Z.sorted (je_var 0) (List.Perm.refl _) hA.le) (.inr rfl)) rfl)
theorem sc_every : FnScope ["worlds"] ["worlds"] (defScope (top 15)) := ⟨rfl, rfl, rfl, by decide +kernel, rfl, by decide +kernel, by decide +kernel⟩
def REvery (ds : List Dt) (d : Dt) : Prop := ∃ n : Nat, ds = [.n n] ∧ 1 ≤ n ∧ n ≤ 12 ∧ d = .T (List.range n)
theorem ok_every (Z : Bt G) (cC : Callee G "check_worlds" 2 ["worlds"] RCheck) (D : DefAt G "every" "every" (top 15)) : Callee G "every" 3 ["worlds"] REvery := by
  refine callee_of D sc_every (fun _ _ _ _ _ _ us hl => match us, hl with | [_], _ => rfl) (fun ds d ⟨_, e, _⟩ => by rw [e]; rfl) fun ds d ⟨n, e, h1, h2, ed⟩ => ?_
  subst e ed
  show JB _ _ [.v (.n n)] _ _ _ _
  refine jb_then (js_drop (je_call cC (ja_cons (je_var 0) ja_nil) ⟨n, rfl, h1, h2, rfl⟩) rfl) ?_
  exact jb_one (js_ret (je_tupRange Z.tuple Z.range (je_var 0) (by omega)) rfl)
theorem sc_rest : FnScope ["lot", "worlds", "told", "x"] ["lot", "worlds"] (defScope (top 16)) := ⟨rfl, rfl, rfl, by decide +kernel, rfl, by decide +kernel, by decide +kernel⟩
def RRest (ds : List Dt) (d : Dt) : Prop := ∃ (xs : List Nat) (n : Nat), ds = [.T xs, .n n] ∧ Asc xs n ∧ d = .T (comp n xs)
abbrev LotD (G : Gx) : Prop := CalleeD G "lot_of" 4 ["lot", "worlds", "empty"] [.bl true] RLot
abbrev LotK (G : Gx) : Prop := CalleeK G "lot_of" 4 ["lot", "worlds", "empty"] 2 "empty" RLot
theorem filt_congr {xs : List Nat} {p q : Nat → Bool} (h : ∀ x, p x = q x) : (xs.filter p).map Dt.n = (xs.filter q).map Dt.n := by
  rw [show p = q from funext h]
theorem ok_rest (Z : Bt G) (cL : LotD G) (D : DefAt G "rest_of" "rest_of" (top 16)) : Callee G "rest_of" 5 ["lot", "worlds"] RRest := by
  refine callee_of D sc_rest (fun _ _ _ _ _ _ us hl => match us, hl with | [_, _], _ => rfl) (fun ds d ⟨_, _, e, _⟩ => by rw [e]; rfl) fun ds d ⟨xs, n, e, hA, ed⟩ => ?_
  subst e ed
  show JB _ _ [.v (.T xs), .v (.n n), .un, .un] _ _ _ _
  have h12 := hA.n12
  refine jb_then (js_set 2 (je_callD cL (ja_cons (je_var 0) (ja_cons (je_var 1) ja_nil)) ⟨_, xs, n, rfl, .inl rfl, hA, rfl⟩)) ?_
  refine jb_one (js_ret (je_is (je_tuple Z.tuple (je_lcF 3 (List.range n) Dt.n (fun x => !decide (x ∈ xs)) Dt.n (ji_range Z.range (je_var 1) (by omega)) (fun x _ => jt_nin (je_var 3) (je_var 2) (.inl rfl)) (fun x _ _ => je_var 3) (by rw [List.length_range]; omega)) (.inr rfl)) ?_) rfl)
  exact congrArg Dt.tup (filt_congr fun x => by simp)
theorem sc_common : FnScope ["one", "other", "x"] ["one", "other"] (defScope (top 17)) := ⟨rfl, rfl, rfl, by decide +kernel, rfl, by decide +kernel, by decide +kernel⟩
def RCommon (ds : List Dt) (d : Dt) : Prop := ∃ (xs ys : List Nat), ds = [.T xs, .T ys] ∧ xs.Pairwise (· ≤ ·) ∧ xs.length ≤ 100 ∧ d = .T (xs.filter fun w => ys.contains w)
theorem ok_common (Z : Bt G) (D : DefAt G "common" "common" (top 17)) : Callee G "common" 1 ["one", "other"] RCommon := by
  refine callee_of D sc_common (fun _ _ _ _ _ _ us hl => match us, hl with | [_, _], _ => rfl) (fun ds d ⟨_, _, e, _⟩ => by rw [e]; rfl) fun ds d ⟨xs, ys, e, ho, hl, ed⟩ => ?_
  subst e ed
  show JB _ _ [.v (.T xs), .v (.T ys), .un] _ _ _ _
  refine jb_one (js_ret (je_is (je_tuple Z.tuple (je_lcF 2 xs Dt.n (fun x => decide (x ∈ ys)) Dt.n (ji_seq (je_sortedT (ys := xs) Z.sorted (je_var 0) (List.Perm.refl _) ho) (.inr rfl)) (fun x _ => jt_in (je_var 2) (je_var 1) (.inl rfl)) (fun x _ _ => je_var 2) (by omega)) (.inr rfl)) ?_) rfl)
  exact congrArg Dt.tup (filt_congr fun x => by simp)
theorem sc_minus : FnScope ["one", "other", "x"] ["one", "other"] (defScope (top 18)) := ⟨rfl, rfl, rfl, by decide +kernel, rfl, by decide +kernel, by decide +kernel⟩
def RMinus (ds : List Dt) (d : Dt) : Prop := ∃ (xs ys : List Nat), ds = [.T xs, .T ys] ∧ xs.Pairwise (· ≤ ·) ∧ xs.length ≤ 100 ∧ d = .T (xs.filter fun w => !ys.contains w)
theorem ok_minus (Z : Bt G) (D : DefAt G "minus" "minus" (top 18)) : Callee G "minus" 1 ["one", "other"] RMinus := by
  refine callee_of D sc_minus (fun _ _ _ _ _ _ us hl => match us, hl with | [_, _], _ => rfl) (fun ds d ⟨_, _, e, _⟩ => by rw [e]; rfl) fun ds d ⟨xs, ys, e, ho, hl, ed⟩ => ?_
  subst e ed
  show JB _ _ [.v (.T xs), .v (.T ys), .un] _ _ _ _
  refine jb_one (js_ret (je_is (je_tuple Z.tuple (je_lcF 2 xs Dt.n (fun x => !decide (x ∈ ys)) Dt.n (ji_seq (je_sortedT (ys := xs) Z.sorted (je_var 0) (List.Perm.refl _) ho) (.inr rfl)) (fun x _ => jt_nin (je_var 2) (je_var 1) (.inl rfl)) (fun x _ _ => je_var 2) (by omega)) (.inr rfl)) ?_) rfl)
  exact congrArg Dt.tup (filt_congr fun x => by simp)
theorem sc_meets : FnScope ["one", "other", "x"] ["one", "other"] (defScope (top 20)) := ⟨rfl, rfl, rfl, by decide +kernel, rfl, by decide +kernel, by decide +kernel⟩
def RMeets (ds : List Dt) (d : Dt) : Prop := ∃ (xs ys : List Nat), ds = [.T xs, .T ys] ∧ xs.length ≤ 100 ∧ d = .bl (ne0 (xs.filter fun w => ys.contains w))
theorem ok_meets (Z : Bt G) (D : DefAt G "meets" "meets" (top 20)) : Callee G "meets" 1 ["one", "other"] RMeets := by
  refine callee_of D sc_meets (fun _ _ _ _ _ _ us hl => match us, hl with | [_, _], _ => rfl) (fun ds d ⟨_, _, e, _⟩ => by rw [e]; rfl) fun ds d ⟨xs, ys, e, hl, ed⟩ => ?_
  subst e ed
  show JB _ _ [.v (.T xs), .v (.T ys), .un] _ _ _ _
  refine jb_one (js_ret (je_is (je_any Z.any (je_is (je_lcM 2 xs Dt.n (fun x => .bl (decide (x ∈ ys))) (ji_seq (je_var 0) (.inl rfl)) (fun x _ => je_in (je_var 2) (je_var 1) (.inl rfl)) (by omega)) (congrArg Dt.lst (show _ = (xs.map fun x => decide (x ∈ ys)).map Dt.bl by rw [List.map_map]; rfl)))) ?_) rfl)
  congr 1
  rw [List.any_map, Bool.eq_iff_iff, List.any_eq_true]
  simp only [Function.comp, id, decide_eq_true_eq]
  unfold ne0
  constructor
  · rintro ⟨x, h1, h2⟩
    have : x ∈ xs.filter fun w => ys.contains w := List.mem_filter.mpr ⟨h1, by simpa using h2⟩
    cases e : xs.filter fun w => ys.contains w with
    | nil => rw [e] at this; cases this
    | cons => rfl
  · intro h
    cases e : xs.filter fun w => ys.contains w with
    | nil => rw [e] at h; cases h
    | cons x t =>
      have : x ∈ xs.filter fun w => ys.contains w := by rw [e]; simp
      obtain ⟨h1, h2⟩ := List.mem_filter.mp this
      exact ⟨x, h1, by simpa using h2⟩
end My

/-! # D3 -/
namespace My
open PySem L2
variable {G : Gx}
theorem sc_told : FnScope ["cells", "seen", "place", "cell", "x"] ["cells"] (defScope (top 22)) := ⟨rfl, rfl, rfl, by decide +kernel, rfl, by decide +kernel, by decide +kernel⟩
def RTold (ds : List Dt) (d : Dt) : Prop := ∃ (x : Dt) (cs : List (List Nat)) (n : Nat), ds = [x] ∧ sq x (cs.map Dt.T) ∧ CS cs n ∧ d = .TT cs
theorem pos_zip {α : Type} {xs : List α} {k j : Nat} {y : α} (h : xs.zipIdx[k]? = some (y, j)) : xs[k]? = some y ∧ j = k := by
  rw [List.getElem?_zipIdx] at h
  cases e : xs[k]? with
  | none => rw [e] at h; cases h
  | some z => rw [e] at h; simp at h; exact ⟨by rw [h.1], h.2.symm⟩
theorem flat_at {cs : List (List Nat)} {k : Nat} {c : List Nat} (h : cs[k]? = some c) : cs.flatten = (cs.take k).flatten ++ (c ++ (cs.drop (k + 1)).flatten) := by
  have e : cs = cs.take k ++ (c :: cs.drop (k + 1)) := by
    obtain ⟨hk, e⟩ := List.getElem?_eq_some_iff.mp h
    rw [← e, ← List.drop_eq_getElem_cons hk, List.take_append_drop]
  conv => lhs; rw [e]
  rw [List.flatten_append, List.flatten_cons]
theorem nd_fresh {a b c : List Nat} {x : Nat} (h : (a ++ (x :: b) ++ c).Nodup) : x ∉ a := by
  intro z
  rw [List.append_assoc] at h
  have := (List.nodup_append.mp h).2.2 x z x (by simp)
  exact this rfl
theorem ok_told (Z : Bt G) (cR : Callee G "is_row" 1 ["value"] RRow) (cI : Callee G "is_world" 2 ["value", "worlds"] RIsW) (D : DefAt G "cells_told" "cells_told" (top 22)) : Callee G "cells_told" 3 ["cells"] RTold := by
  refine callee_of D sc_told (fun _ _ _ _ _ _ us hl => match us, hl with | [_], _ => rfl) (fun ds d ⟨_, _, _, e, _⟩ => by rw [e]; rfl) fun ds d ⟨x, cs, n, e, hs, hC, ed⟩ => ?_
  subst e ed
  show JB _ _ [.v x, .un, .un, .un, .un] _ _ _ _
  have hne : (cs.map Dt.T).isEmpty = false := by
    have := hC.ne
    cases cs with
    | nil => exact (this rfl).elim
    | cons => rfl
  refine jb_skip (jt_is (jt_w (jw_or (jt_not (jt_val (je_call cR (ja_cons (je_var 0) ja_nil) ⟨x, cs.map Dt.T, rfl, hs, rfl⟩))) fun _ => jw_or1 (jt_not (jt_tru (je_var 0) hs)))) (by rw [hne]; rfl)) ?_
  refine jb_then (js_own 1 ja_nil) ?_
  refine jb_cons (js_forP 2 3 cs.zipIdx (fun q => .n q.2) (fun q => .T q.1) (ji_enum cs Dt.T Z.enum (je_var 0) hs) (fun k r => ∃ s2 s3 s4, r = [.v x, .o (((cs.take k).flatten).map Dt.n), s2, s3, s4]) ⟨.un, .un, .un, rfl⟩ ?_ (N := fun r => ∃ s2 s3 s4, r = [.v x, .o (cs.flatten.map Dt.n), s2, s3, s4]) (fun r ⟨s2, s3, s4, e⟩ => ⟨s2, s3, s4, by rw [e, List.length_zipIdx, List.take_length]⟩)) ?_
  · rintro k ⟨c, j⟩ r hk ⟨s2, s3, s4, rfl⟩
    obtain ⟨hc, rfl⟩ := pos_zip hk
    have hm := List.mem_of_getElem? hc
    obtain ⟨hcne, hcup⟩ := hC.ce c hm
    have hfl := flat_at hc
    have hcl := hC.cl hm
    have hlen := hC.len
    have hn12 := hC.n12
    show JB _ _ [.v x, .o (((cs.take j).flatten).map Dt.n), .v (.n j), .v (.T c), s4] _ _ _ _
    have hce : (c.map Dt.n).isEmpty = false := by
      cases c with
      | nil => exact (hcne rfl).elim
      | cons => rfl
    refine jb_skip (jt_is (jt_w (jw_or (jt_not (jt_val (je_call cR (ja_cons (je_var 3) ja_nil) ⟨.T c, c.map Dt.n, rfl, .inl rfl, rfl⟩))) fun _ => jw_or1 (jt_not (jt_tru (je_var 3) (.inl rfl))))) (by rw [hce]; rfl)) ?_
    refine jb_one (js_forN 4 c Dt.n (ji_seq (je_var 3) (.inl rfl)) (fun i r => ∃ s4, r = [.v x, .o (((cs.take j).flatten ++ c.take i).map Dt.n), .v (.n j), .v (.T c), s4]) ⟨s4, by rw [List.take_zero, List.append_nil]⟩ ?_ ?_)
    · rintro i y r hy ⟨s4, rfl⟩
      show JB _ _ [.v x, .o (((cs.take j).flatten ++ c.take i).map Dt.n), .v (.n j), .v (.T c), .v (.n y)] _ _ _ _
      have hym : y ∈ cs.flatten := by
        rw [hfl]
        exact List.mem_append_right _ (List.mem_append_left _ (List.mem_of_getElem? hy))
      have hyn := hC.lt hym
      have hfresh : y ∉ (cs.take j).flatten ++ c.take i := by
        have hnd := hC.nd
        have e : c = c.take i ++ (y :: c.drop (i + 1)) := by
          obtain ⟨hi, e⟩ := List.getElem?_eq_some_iff.mp hy
          rw [← e, ← List.drop_eq_getElem_cons hi, List.take_append_drop]
        rw [hfl] at hnd
        have e3 : (cs.take j).flatten ++ (c ++ (cs.drop (j + 1)).flatten) = ((cs.take j).flatten ++ c.take i) ++ (y :: c.drop (i + 1)) ++ (cs.drop (j + 1)).flatten := by
          conv => lhs; rw [e]
          simp [List.append_assoc]
        rw [e3] at hnd
        exact nd_fresh hnd
      have hsz : ((cs.take j).flatten ++ c.take i).length ≤ 100 := by
        have e4 := congrArg List.length hfl
        rw [List.length_append, List.length_append] at e4
        rw [List.length_append, List.length_take]
        omega
      refine jb_skip (jt_is (jt_w (jw_or (jt_not (jt_val (je_call cI (ja_cons (je_var 4) (ja_cons je_int ja_nil)) ⟨y, 12, rfl, rfl⟩))) fun _ => jw_or1 (je_inO 1 rfl (je_var 4)))) ?_) (jb_one (SD.imp (js_app 1 rfl (je_var 4) (by rw [List.length_map]; omega)) (fun z e => ?_) fun _ h => h))
      · have : decide (y < 12) = true := by simp; omega
        rw [this]
        simp only [Bool.not_true, Bool.false_or, decide_eq_false_iff_not]
        exact hfresh
      · exact ⟨.v (.n y), e.trans (by rw [take_succ hy, ← List.append_assoc, List.map_append (l₁ := (cs.take j).flatten ++ c.take i) (l₂ := [y])]; rfl)⟩
    · rintro r ⟨s4, rfl⟩
      refine ⟨.v (.n j), .v (.T c), s4, ?_⟩
      rw [List.take_length, take_succ hc, List.flatten_append, List.flatten_cons, List.flatten_nil, List.append_nil]
  · rintro r ⟨s2, s3, s4, rfl⟩
    refine jb_freeze 1 rfl ?_
    show JB _ _ [.v x, .v (.L cs.flatten), s2, s3, s4] _ _ _ _
    have hn12 := hC.n12
    refine jb_skip (jt_is (jt_neD (p := True) (je_sortedN (ys := List.range n) Z.sorted (je_var 1) hC.pm.symm (List.pairwise_lt_range.imp fun h => Nat.le_of_lt h)) (je_listRange (n := n) Z.list Z.range (je_is (je_len Z.len (je_var 1) (.inr rfl)) (by rw [List.length_map, hC.len])) (by omega)) (pln_L _) (pln_L _) (Nat.le_trans (dep_L _) (by omega)) (Nat.le_trans (dep_L _) (by omega)) (by simp)) (by simp)) ?_
    refine jb_one (js_ret (je_tuple Z.tuple (je_lcM 3 cs Dt.T Dt.T (ji_seq (je_var 0) hs) (fun c hc => ?_) (by have := hC.clen; omega)) (.inr rfl)) rfl)
    exact je_tuple Z.tuple (je_sortedT (ys := c) Z.sorted (je_var 3) (List.Perm.refl _) ((hC.ce c hc).2.imp fun h => Nat.le_of_lt h)) (.inr rfl)
theorem sc_by : FnScope ["marks", "found", "mark", "x", "other"] ["marks"] (defScope (top 23)) := ⟨rfl, rfl, rfl, by decide +kernel, rfl, by decide +kernel, by decide +kernel⟩
def RBy (ds : List Dt) (d : Dt) : Prop := ∃ L : List Nat, ds = [.L L] ∧ Dn L ∧ L.length ≤ 12 ∧ d = .TT (cellsOf L)
theorem ok_by (Z : Bt G) (D : DefAt G "cells_by" "cells_by" (top 23)) : Callee G "cells_by" 1 ["marks"] RBy := by
  refine callee_of D sc_by (fun _ _ _ _ _ _ us hl => match us, hl with | [_], _ => rfl) (fun ds d ⟨_, e, _⟩ => by rw [e]; rfl) fun ds d ⟨L, e, hL, h12, ed⟩ => ?_
  subst e ed
  have hnc := hL.ncells_le
  have eL : Dt.L L = Dt.LI (L.map fun (k : Nat) => (k : Int)) := congrArg Dt.lst (by rw [List.map_map]; rfl)
  show JB _ _ [.v (.L L), .un, .un, .un, .un] _ _ _ _
  refine jb_then (js_own 1 ja_nil) ?_
  refine jb_cons (js_forN 2 (List.range (ncells L)) Dt.n (ji_seq (je_is (je_sortedSet (ys := (List.range (ncells L)).map fun (k : Nat) => (k : Int)) Z.sorted Z.set (je_is (je_var 0) eL) (by rw [List.length_map]; omega) ?_ ?_) rfl) (.inr (congrArg Dt.lst (by rw [List.map_map]; rfl)))) (fun k r => ∃ s2, r = [.v (.L L), .o (((List.range k).map (cell L)).map Dt.T), s2, .un, .un]) ⟨.un, rfl⟩ ?_ (N := fun r => ∃ s2, r = [.v (.L L), .o ((cellsOf L).map Dt.T), s2, .un, .un]) (fun r ⟨s2, e⟩ => ⟨s2, by rw [e, List.length_range]; rfl⟩)) ?_
  · rw [List.pairwise_map]
    exact List.pairwise_lt_range.imp fun h => by omega
  · intro k
    simp only [List.mem_map, List.mem_range]
    constructor
    · rintro ⟨a, ha, rfl⟩
      exact ⟨a, (mem_ncells hL).mpr ha, rfl⟩
    · rintro ⟨a, ha, rfl⟩
      exact ⟨a, (mem_ncells hL).mp ha, rfl⟩
  · rintro k y r hk ⟨s2, rfl⟩
    have hk' := List.getElem?_eq_some_iff.mp hk
    obtain ⟨hk1, hk2⟩ := hk'
    rw [List.length_range] at hk1
    have e : y = k := by rw [← hk2, List.getElem_range]
    subst e
    show JB _ _ [.v (.L L), .o (((List.range y).map (cell L)).map Dt.T), .v (.n y), .un, .un] _ _ _ _
    refine jb_one (SD.imp (js_app 1 rfl (je_is (je_tuple Z.tuple (je_lcF2 3 4 L.zipIdx (fun q => .n q.2) (fun q => .n q.1) (fun q => decide (q.1 = y)) (fun q => .n q.2) (ji_enum L Dt.n Z.enum (je_var 0) (.inr rfl)) (fun q _ => jt_is (jt_eq (je_var 4) (je_var 2)) (decide_eq_decide.mpr (by omega))) (fun q _ _ => je_var 3) (by rw [List.length_zipIdx]; omega)) (.inr rfl)) (d' := .T (cell L y)) ?_) (by simp; omega)) (fun z e => ?_) fun _ h => h)
    · show Dt.tup _ = Dt.tup _
      rw [← cell_zip, List.map_map]
      rfl
    · exact ⟨.v (.n y), e.trans (by rw [List.range_succ, List.map_append, List.map_append]; rfl)⟩
  · rintro r ⟨s2, rfl⟩
    refine jb_freeze 1 rfl ?_
    exact jb_one (js_ret (je_tuple Z.tuple (je_var 1) (.inr rfl)) rfl)
end My

/-! # D4 -/
namespace My
open PySem L2
variable {G : Gx}
def mth (i : Nat) : Stmt := inClass (top 24) i
theorem sn_ne {o : HO} : some o ≠ none := fun z => by cases z
/-! ### the making of a Rank -/
/-- what has come of the heap since the start: the object a and its dict dx may change -/
structure ISt (a dx : Addr) (B H B' H' : Hp) : Prop where
  sb : Same B B'
  bh : Same B' H'
  hh : ∀ p o, p ≠ a → p ≠ dx → H p = some o → H' p = some o
  fr : ∀ p, H p ≠ none → B p = none → B' p = none
  ka : H' a ≠ none
  kd : H' dx ≠ none
theorem ISt.keep {a dx : Addr} {B H B' H' : Hp} (I : ISt a dx B H B' H') {p : Addr} (h : H p ≠ none) : H' p ≠ none := by
  by_cases pa : p = a
  · rw [pa]; exact I.ka
  · by_cases pd : p = dx
    · rw [pd]; exact I.kd
    · cases e : H p with
      | none => exact (h e).elim
      | some o => rw [I.hh p o pa pd e]; exact sn_ne
theorem ISt.grow {a dx : Addr} {B H B' H' B2 H2 : Hp} (I : ISt a dx B H B' H') (g : Gr B' H' B2 H2) : ISt a dx B H B2 H2 :=
  ⟨I.sb.trans g.b, g.bh, fun p o h1 h2 h3 => g.h p o (I.hh p o h1 h2 h3), fun p h1 h2 => g.fr p (I.keep h1) (I.fr p h1 h2),
    by cases e : H' a with
      | none => exact (I.ka e).elim
      | some o => rw [g.h a o e]; exact sn_ne,
    by cases e : H' dx with
      | none => exact (I.kd e).elim
      | some o => rw [g.h dx o e]; exact sn_ne⟩
theorem slH_same {a C dx : Addr} {vs : List (Option V)} {B H : Hp} (e : Same B H) (ha : B a = none) (hd : B dx = none) : Same B (SlX.slH H a C dx vs) := fun p o h => by
  have h1 : p ≠ a := fun z => by rw [z, ha] at h; cases h
  have h2 : p ≠ dx := fun z => by rw [z, hd] at h; cases h
  rw [SlX.slH_ne h1 h2]
  exact e p o h
theorem ISt.put {a dx C : Addr} {B H B' H' : Hp} {vs : List (Option V)} (I : ISt a dx B H B' H') (ne : dx ≠ a) (ha : B' a = none) (hd : B' dx = none) : ISt a dx B H B' (SlX.slH H' a C dx vs) :=
  ⟨I.sb, slH_same I.bh ha hd, fun p o h1 h2 h3 => by rw [SlX.slH_ne h1 h2]; exact I.hh p o h1 h2 h3, I.fr, by unfold SlX.slH; rw [upd_same]; exact sn_ne, by unfold SlX.slH; rw [upd_ne ne, upd_same]; exact sn_ne⟩
theorem senv_slH {C' a dx C : Addr} {vs : List (Option V)} {B H : Hp} {σ : L2.St} {ρ : List Sl} (E : SEnv C' B σ H ρ) (ho : ∀ (i : Nat) (ds : List Dt), ρ[i]? ≠ some (.o ds)) (ha : B a = none) (hd : B dx = none) : SEnv C' B σ (SlX.slH H a C dx vs) ρ :=
  E.noO ho (Same.refl _) (slH_same E.bh ha hd)
theorem senv_consW {C : Addr} {B H : Hp} {σ : L2.St} {ρ : List Sl} {v : V} (E : SEnv C B σ H ρ) : SEnv C B (some v :: σ) H (.w v :: ρ) := by
  refine ⟨E.bh, fun i s h => ?_, fun i j ds es a hij hi hj ai aj => ?_, congrArg Nat.succ E.len⟩
  · cases i with
    | zero => cases (show some (Sl.w v) = some s from h); rfl
    | succ i => exact E.sl i s h
  · cases i with
    | zero => cases (show some (Sl.w v) = some (Sl.o ds) from hi)
    | succ i =>
      cases j with
      | zero => cases (show some (Sl.w v) = some (Sl.o es) from hj)
      | succ j => exact E.dj i j ds es a (fun z => hij (congrArg Nat.succ z)) hi hj ai aj
theorem start_cons {x : Str} {N : List Str} {v : V} {ws : List V} : L2.start (x :: N) (v :: ws) = some v :: L2.start N ws := by
  unfold L2.start
  simp
theorem noO_of {ρ : List Sl} (h : ρ.all (fun s => match s with | .o _ => false | _ => true) = true) : ∀ (i : Nat) (ds : List Dt), ρ[i]? ≠ some (.o ds) := fun i ds e => by
  have := List.all_eq_true.mp h _ (List.mem_of_getElem? e)
  cases this
theorem sc_init : FnScope ["self", "cells", "told", "numbers", "cell", "x", "k"] ["self", "cells"] (defScope (mth 1)) := ⟨rfl, rfl, rfl, by decide +kernel, rfl, by decide +kernel, by decide +kernel⟩
def RMk (ds : List Dt) (L : List Nat) : Prop := ∃ x, ds = [x] ∧ sq x ((cellsOf L).map Dt.T) ∧ Dn L ∧ L.length ≤ 12
theorem ok_init {f : Addr} {fd : FuncData} (Z : Bt G) (F : RkF G) (cT : Callee G "cells_told" 3 ["cells"] RTold) (Fi : Fun G.K "__init__" "Rank.__init__" (mth 1) f fd) : FnOk G.P G.w G.K G.mg G.base CX0 4 f fd ["self", "cells"] (spInit G.C RMk) := by
  refine Fi.ok sc_init (fun vs H Q E h => ?_) (fun cdv A outer s H vs Q E hr h => ?_)
  · obtain ⟨a, dx, ws, B, ds, L, rfl, ha, hd, ne, Ba, Bd, bh, r, ⟨x, rfl, _⟩, q⟩ := h
    exact congrArg Nat.succ r.length
  · obtain ⟨a, dx, ws, B, ds, L, rfl, ha, hd, ne, Ba, Bd, bh, r, ⟨x, rfl, hx, hL, h12⟩, q⟩ := h
    have hC := cs_of hL h12
    obtain ⟨qW, sW⟩ := F.sW
    obtain ⟨qC, sC⟩ := F.sC
    obtain ⟨qL, sL⟩ := F.sL
    refine ⟨_, pss_cons (wS_ok (S := scD G (mth 1) ["self", "cells", "told", "numbers", "cell", "x", "k"] 3) ⟨rfl, rfl, rfl, rfl, rfl, rfl, rfl, rfl, rfl, sc_init.nd, hr, rfl⟩)
      (pss_cons (wS_ok (S := scD G (mth 1) ["self", "cells", "told", "numbers", "cell", "x", "k"] 3) ⟨rfl, rfl, rfl, rfl, rfl, rfl, rfl, rfl, rfl, sc_init.nd, hr, rfl⟩)
      (pss_cons (SlX.ps_sl (pv 0) (wE_ok (S := scD G (mth 1) ["self", "cells", "told", "numbers", "cell", "x", "k"] 3) ⟨rfl, rfl, rfl, rfl, rfl, rfl, rfl, rfl, rfl, sc_init.nd, hr, rfl⟩))
      (pss_cons (SlX.ps_sl (pv 0) (wE_ok (S := scD G (mth 1) ["self", "cells", "told", "numbers", "cell", "x", "k"] 3) ⟨rfl, rfl, rfl, rfl, rfl, rfl, rfl, rfl, rfl, sc_init.nd, hr, rfl⟩))
      (pss_one (SlX.ps_sl (pv 0) (wE_ok (S := scD G (mth 1) ["self", "cells", "told", "numbers", "cell", "x", "k"] 3) ⟨rfl, rfl, rfl, rfl, rfl, rfl, rfl, rfl, rfl, sc_init.nd, hr, rfl⟩)))))), ?_⟩
    have E0 : EnvS G.C B H B (L2.start ["self", "cells", "told", "numbers", "cell", "x", "k"] (.ref a :: ws)) H [.w (.ref a), .v x, .un, .un, .un, .un, .un] := by
      have := (env_start (C := G.C) (N := ["cells", "told", "numbers", "cell", "x", "k"]) bh r (by simp)).e
      rw [start_cons]
      have z := senv_consW (v := .ref a) this
      refine ⟨z, Gr.refl bh, fun i ds p h1 _ => ?_⟩
      exact (noO_of (ρ := [.w (.ref a), .v x, .un, .un, .un, .un, .un]) rfl i ds h1).elim
    refine (js_set (R := fun _ => False) (BK := fun _ => False) (CT := fun _ => False) (S := scD G (mth 1) ["self", "cells", "told", "numbers", "cell", "x", "k"] 3) 2 (je_call cT (ja_cons (je_var 1) ja_nil) ⟨x, cellsOf L, L.length, rfl, hx, hC, rfl⟩)) B H _ B _ H E0 (fun B1 σ1 H1 ρ1 e1 s1 E1 => ?_) (fun _ _ _ _ h => h.elim) (fun _ _ _ _ h => h.elim) (fun _ _ _ _ h => h.elim)
    subst e1
    have hsum : (cellsOf L).flatten.length = L.length := hC.len
    refine (js_set (R := fun _ => False) (BK := fun _ => False) (CT := fun _ => False) (S := scD G (mth 1) ["self", "cells", "told", "numbers", "cell", "x", "k"] 3) 3 (je_rangeV (n := L.length) Z.range (je_is (je_sum (xs := (cellsOf L).map List.length) Z.sum (je_is (je_lcM 4 (cellsOf L) Dt.T (fun c => .n c.length) (ji_seq (je_var 2) (.inl rfl)) (fun c _ => je_is (je_len Z.len (je_var 4) (.inl rfl)) (by rw [List.length_map])) (by have := hC.clen; omega)) (congrArg Dt.lst (by rw [List.map_map]; rfl)))) (by rw [← List.length_flatten, hsum])))) B H _ B1 σ1 H1 E1 (fun B2 σ2 H2 ρ2 e2 s2 E2 => ?_) (fun _ _ _ _ h => h.elim) (fun _ _ _ _ h => h.elim) (fun _ _ _ _ h => h.elim)
    subst e2
    have E2' : SEnv G.C B2 σ2 H2 [.w (.ref a), .v x, .v (.TT (cellsOf L)), .v (.rng L.length), .un, .un, .un] := E2.e
    have I2 : ISt a dx B H B2 H2 := ⟨E2.g.b, E2.g.bh, fun p o _ _ h => E2.g.h p o h, E2.g.fr, by rw [E2.g.h _ _ ha]; exact sn_ne, by rw [E2.g.h _ _ hd]; exact sn_ne⟩
    have an : H a ≠ none := by rw [ha]; exact sn_ne
    have dn : H dx ≠ none := by rw [hd]; exact sn_ne
    -- self.worlds = len(numbers)
    refine (je_lenRng (S := scD G (mth 1) ["self", "cells", "told", "numbers", "cell", "x", "k"] 3) (n := L.length) Z.len (je_var 3) (by omega)) B2 σ2 H2 E2' _ fun y B3 H3 g3 r3 => ?_
    cases r3
    have I3 := I2.grow g3
    have E3 := E2'.grow g3
    refine ⟨.ref a, E3.sl 0 _ rfl, a, G.C, dx, qW, [], 2, rfl, .inl ⟨g3.h _ _ (E2.g.h _ _ ha), rfl⟩, F.cls, sW, ?_⟩
    have I4 := I3.put (C := G.C) (vs := SlX.putS 2 (.int (L.length : Nat)) []) ne (I3.fr a an Ba) (I3.fr dx dn Bd)
    have E4 := senv_slH (C := G.C) (vs := SlX.putS 2 (.int (L.length : Nat)) []) E3 (noO_of rfl) (I3.fr a an Ba) (I3.fr dx dn Bd)
    -- self.cells = told
    refine (je_var (S := scD G (mth 1) ["self", "cells", "told", "numbers", "cell", "x", "k"] 3) 2) B3 σ2 _ E4 _ fun y B5 H5 g5 r5 => ?_
    have I5 := I4.grow g5
    have E5 := E4.grow g5
    obtain ⟨pc, xc, rfl⟩ : ∃ pc, ∃ xc : True, y = .ref pc := by
      cases r5 with
      | tup h1 h2 => exact ⟨_, trivial, rfl⟩
    have s5 : SlX.Slt H5 a G.C dx (SlX.putS 2 (.int (L.length : Nat)) []) := by
      refine .inr ⟨g5.h _ _ upd_same, g5.h _ _ ?_⟩
      unfold SlX.slH
      rw [upd_ne ne, upd_same]
    refine ⟨.ref a, E5.sl 0 _ rfl, a, G.C, dx, qC, _, 0, rfl, s5, F.cls, sC, ?_⟩
    have I6 := I5.put (C := G.C) (vs := SlX.putS 0 (.ref pc) (SlX.putS 2 (.int (L.length : Nat)) [])) ne (I5.fr a an Ba) (I5.fr dx dn Bd)
    have E6 := senv_slH (C := G.C) (vs := SlX.putS 0 (.ref pc) (SlX.putS 2 (.int (L.length : Nat)) [])) E5 (noO_of rfl) (I5.fr a an Ba) (I5.fr dx dn Bd)
    -- self.levels = ..
    have lvq : ∀ z, z ∈ List.range L.length → ((((cellsOf L).zipIdx.filter fun q => decide (z ∈ q.1)).map fun q => Dt.n q.2)[0]?) = some (Dt.n (lv L z)) := fun z hz => by
      have hz := List.mem_range.mp hz
      have := lev_of hz
      have e : (((cellsOf L).zipIdx.filter fun q => decide (z ∈ q.1)).map fun q => Dt.n q.2) = [Dt.n (lv L z)] := by
        have := congrArg (List.map Dt.n) this
        rw [List.map_map] at this
        exact this
      rw [e]
      rfl
    have lvL : Dt.tup ((List.range L.length).map fun z => Dt.n (lv L z)) = Dt.T L := by
      show Dt.tup _ = Dt.tup _
      congr 1
      apply List.ext_getElem
      · simp
      · intro i h1 h2
        have hi : i < L.length := by simpa using h1
        simp [lv, List.getD_eq_getElem?_getD, List.getElem?_eq_getElem hi]
    refine (je_is (S := scD G (mth 1) ["self", "cells", "told", "numbers", "cell", "x", "k"] 3) (ρ := [.w (.ref a), .v x, .v (.TT (cellsOf L)), .v (.rng L.length), .un, .un, .un]) (je_tuple Z.tuple (je_lcM 5 (List.range L.length) Dt.n (fun z => .n (lv L z)) (ji_rng (je_var 3) (by omega)) (fun z hz => je_ix (k := 0) (je_lcF2 6 4 (cellsOf L).zipIdx (fun q => .n q.2) (fun q => .T q.1) (fun q => decide (z ∈ q.1)) (fun q => .n q.2) (ji_enum (cellsOf L) Dt.T Z.enum (je_var 2) (.inl rfl)) (fun q _ => jt_in (je_var 5) (je_var 4) (.inl rfl)) (fun q _ _ => je_var 6) (by rw [List.length_zipIdx]; have := hC.clen; omega)) (.inr rfl) je_int (lvq z hz)) (by rw [List.length_range]; omega)) (.inr rfl)) lvL) B5 σ2 _ E6 _ fun y B7 H7 g7 r7 => ?_
    have I7 := I6.grow g7
    have E7 := E6.grow g7
    obtain ⟨pl, xl, rfl⟩ : ∃ pl, ∃ xl : True, y = .ref pl := by
      cases r7 with
      | tup h1 h2 => exact ⟨_, trivial, rfl⟩
    have s7 : SlX.Slt H7 a G.C dx (SlX.putS 0 (.ref pc) (SlX.putS 2 (.int (L.length : Nat)) [])) := by
      refine .inr ⟨g7.h _ _ upd_same, g7.h _ _ ?_⟩
      unfold SlX.slH
      rw [upd_ne ne, upd_same]
    refine ⟨.ref a, E7.sl 0 _ rfl, a, G.C, dx, qL, _, 1, rfl, s7, F.cls, sL, ?_⟩
    have I8 := I7.put (C := G.C) (vs := SlX.putS 1 (.ref pl) (SlX.putS 0 (.ref pc) (SlX.putS 2 (.int (L.length : Nat)) []))) ne (I7.fr a an Ba) (I7.fr dx dn Bd)
    have b7a := I7.fr a an Ba
    have b7d := I7.fr dx dn Bd
    have sB : Same B7 (upd (upd B7 dx (.xd [])) a (SlX.SlO a G.C dx [some (.ref pc), some (.ref pl), some (.int (L.length : Nat))])) :=
      (same_new (o := .xd []) b7d).trans (same_new (by rw [upd_ne (Ne.symm ne)]; exact b7a))
    refine q (upd (upd B7 dx (.xd [])) a (SlX.SlO a G.C dx [some (.ref pc), some (.ref pl), some (.int (L.length : Nat))])) _ (I7.sb.trans sB) I8.hh (fun p o h => ?_) (fun p h1 h2 h3 h4 => ?_) ?_
    · by_cases pa : p = a
      · subst pa
        rw [upd_same] at h
        unfold SlX.slH
        rw [upd_same]
        exact h
      · rw [upd_ne pa] at h
        by_cases pd : p = dx
        · subst pd
          rw [upd_same] at h
          unfold SlX.slH
          rw [upd_ne pa, upd_same]
          exact h
        · rw [upd_ne pd] at h
          exact I8.bh p o h
    · rw [upd_ne h3, upd_ne h4]
      exact I7.fr p h1 h2
    · exact .rk (dx := dx) (c := pc) (l := pl) upd_same (by rw [upd_ne ne, upd_same]) ((r5.mono g7.b).mono sB) (r7.mono sB)
end My

/-! # Rl -/
namespace My
open PySem L2
section
variable {S : SC} {ρ ρ' : List Sl} {d d' : Dt} {b b' : Bool} {ds l : List Dt} {e e1 e2 : Expr} {pos p : Pos} {es : List Expr} {N : List Sl → Prop} {R : Dt → Prop} {BK CT : List Sl → Prop}
variable {scope : Scope} {elt c iter iter1 : Expr} {x y z : Str} {px py pz pt : Pos} {kt : Nat}
def NoO (ρ : List Sl) : Prop := ∀ (i : Nat) (ds : List Dt), ρ[i]? ≠ some (.o ds)
theorem NoO.set {i : Nat} {s : Sl} (h : NoO ρ) (hs : ∀ ds, s ≠ .o ds) : NoO (ρ.set i s) := fun j ds e => by
  rcases get_set e with ⟨_, e2, _⟩ | ⟨_, e'⟩
  · exact hs ds e2.symm
  · exact h j ds e'
theorem NoO.wipe (h : NoO ρ) : ∀ vs : List Nat, NoO (wipeR ρ vs)
  | [] => h
  | v :: vs => (h.wipe vs).set fun ds z => by cases z
theorem je_lcNN {α β : Type} (i j : Nat) (xs : List α) (enc : α → Dt) (ys : α → List β) (enc2 : β → Dt) (g : α → β → Dt) (hn : NoO ρ) (hi : JI S (.Name x px) iter ρ (xs.map enc)) (hi1 : ∀ z ∈ xs, JI (S.blk scope) (.Name y py) iter1 ((wipeR ρ [i, j]).set i (.v (enc z))) ((ys z).map enc2))
    (he : ∀ z ∈ xs, ∀ w ∈ ys z, JE (S.blk scope) elt ((wipeR ((wipeR ρ [i, j]).set i (.v (enc z))) [j]).set j (.v (enc2 w))) (g z w)) (hl : (xs.flatMap ys).length ≤ 10000)
    (ok : blkC S.N S.sc scope [(x, i), (y, j)] = true := by rfl) (hx : Lc (S.blk scope) i x := by first | exact ⟨rfl, .inl rfl, .inr rfl⟩ | exact ⟨rfl, .inr rfl, .inl rfl⟩) (hy : Lc (S.blk scope) j y := by first | exact ⟨rfl, .inl rfl, .inr rfl⟩ | exact ⟨rfl, .inr rfl, .inl rfl⟩)
    (hs : ∀ env x, foldedSetIterable iter env x = pure x := by intro _ _; rfl) (hs1 : ∀ env x, foldedSetIterable iter1 env x = pure x := by intro _ _; rfl) :
    JE S (.ListComp elt [⟨.Name x px, iter, [], 0⟩, ⟨.Name y py, iter1, [], 0⟩] scope pos) ρ (.lst (xs.flatMap fun z => (ys z).map (g z))) :=
  je_is (je_lc2 xs enc (fun _ => true) ys enc2 (fun _ _ => true) g [(x, i), (y, j)] [j] (js := [i]) (js1 := [j]) hi (blkOk_by ok) (by simp) (by simp) (by simp) (fun z => (wipeR ρ [i, j]).set i (.v (enc z))) (fun z w => (wipeR ((wipeR ρ [i, j]).set i (.v (enc z))) [j]).set j (.v (enc2 w)))
    (fun z _ => (hn.wipe _).set fun ds q => by cases q) (fun z _ => jg_name i hx) (fun _ _ => jts_nil) (fun z hz _ => hi1 z hz) (fun z _ _ w _ => jg_name j hy) (fun _ _ _ _ _ => jts_nil) (fun z hz _ w hw _ => he z hz w hw) (by rw [filt_true]; exact hl) hs hs1) (by simp only [filt_true])
/-- v = [elt for x, y in iter if c for z in iter1] -/
theorem js_setP2 {α β : Type} (k i j m : Nat) {v : Str} {pv spos : Pos} (xs : List α) (enc1 enc2 : α → Dt) (f : α → Bool) (ys : α → List β) (enc3 : β → Dt) (g : α → β → Dt) (hi : JI S (.Tuple [.Name x px, .Name y py] kt pt) iter (unO ρ) (xs.map fun q => .tup [enc1 q, enc2 q]))
    (hc : ∀ q ∈ xs, JT (S.blk scope) c (((wipeR (unO ρ) [i, j, m]).set i (.v (enc1 q))).set j (.v (enc2 q))) (f q))
    (hi1 : ∀ q ∈ xs, f q = true → JI (S.blk scope) (.Name z pz) iter1 (((wipeR (unO ρ) [i, j, m]).set i (.v (enc1 q))).set j (.v (enc2 q))) ((ys q).map enc3))
    (he : ∀ q ∈ xs, f q = true → ∀ w ∈ ys q, JE (S.blk scope) elt ((wipeR (((wipeR (unO ρ) [i, j, m]).set i (.v (enc1 q))).set j (.v (enc2 q))) [m]).set m (.v (enc3 w))) (g q w)) (hl : ((xs.filter f).flatMap ys).length ≤ 10000)
    (ok : blkC S.N S.sc scope [(x, i), (y, j), (z, m)] = true := by rfl) (hx : Lc (S.blk scope) i x := by first | exact ⟨rfl, .inl rfl, .inr rfl⟩ | exact ⟨rfl, .inr rfl, .inl rfl⟩) (hy : Lc (S.blk scope) j y := by first | exact ⟨rfl, .inl rfl, .inr rfl⟩ | exact ⟨rfl, .inr rfl, .inl rfl⟩) (hz : Lc (S.blk scope) m z := by first | exact ⟨rfl, .inl rfl, .inr rfl⟩ | exact ⟨rfl, .inr rfl, .inl rfl⟩)
    (hyk : S.N[k]? = some v := by rfl) (hyl : S.sc.names.lookup v = some .local := by rfl) (hk : S.sc.kind = .function := by rfl) (hln : (pv.line == pos.line) = true := by rfl) (hnot : (scope.names.any fun (n, k) => n == v && (k == .local || k == .cell)) = false := by rfl)
    (hs : ∀ env x, foldedSetIterable iter env x = pure x := by intro _ _; rfl) (hs1 : ∀ env x, foldedSetIterable iter1 env x = pure x := by intro _ _; rfl) :
    JS S (.Assign [.Name v pv] (.ListComp elt [⟨.Tuple [.Name x px, .Name y py] kt pt, iter, [c], 0⟩, ⟨.Name z pz, iter1, [], 0⟩] scope pos) spos) ρ (fun q => q = ρ.set k (.v (.lst ((xs.filter f).flatMap fun q => (ys q).map (g q))))) R BK CT :=
  SD.imp (js_setLc2 k xs (fun q => .tup [enc1 q, enc2 q]) f ys enc3 (fun _ _ => true) g [(x, i), (y, j), (z, m)] [m] (js := [i, j]) (js1 := [m]) hi (blkOk_by ok) (by simp) (by simp) (by simp) (fun q => ((wipeR (unO ρ) [i, j, m]).set i (.v (enc1 q))).set j (.v (enc2 q))) (fun q w => (wipeR (((wipeR (unO ρ) [i, j, m]).set i (.v (enc1 q))).set j (.v (enc2 q))) [m]).set m (.v (enc3 w)))
    (fun q _ => ((NoO.wipe (unO_no ρ) _).set fun ds q => by cases q).set fun ds q => by cases q) (fun q _ => jg_pair i j hx hy) (fun q hq => jts_one (hc q hq)) (fun q hq hf => hi1 q hq hf) (fun q _ _ w _ => jg_name m hz) (fun _ _ _ _ _ => jts_nil) (fun q hq hf w hw _ => he q hq hf w hw) hl hyk hyl hk hln hnot hs hs1) (fun q e => by simpa only [filt_true] using e) (fun _ h => h)
/-- the last item of a list that is given -/
theorem je_last {l0 : List Dt} (ha : JE S e1 ρ (.lst (l0 ++ [d]))) (hb : JE S e2 ρ (.int (-1))) (hs : PlainIx e2 := by intro _ _; rfl) : JE S (.Subscript e1 e2 pos) ρ d :=
  je_of (t := tOp (rIxL S.K) (wE S e1) (wE S e2)) (fun X h => by have := pe_ix (X := X) (pos := pos) (hr := ix_list) (wE_ok (e := e1) h) (wE_ok (e := e2) h) hs; rw [h.K] at this; exact this) fun B σ H E Q q => ha B σ H E _ fun u B1 H1 g1 r1 => hb B1 σ H1 (E.grow g1) _ fun v B2 H2 g2 r2 => by
    cases r2
    cases r1 with
    | @lst a xs ds h1 h2 =>
      obtain ⟨w, e, r⟩ := h2.get (i := l0.length) (d := d) (by simp)
      have hlen := h2.length
      have hxs : xs = xs.take l0.length ++ [w] := by
        have h3 : xs.length = l0.length + 1 := by rw [hlen]; simp
        apply List.ext_getElem?
        intro j
        by_cases hj : j < l0.length
        · rw [List.getElem?_append_left (by rw [List.length_take]; omega), List.getElem?_take_of_lt hj]
        · by_cases hj2 : j = l0.length
          · subst hj2
            have h4 : (xs.take l0.length).length = l0.length := by rw [List.length_take]; omega
            rw [List.getElem?_append_right (by omega), h4, Nat.sub_self, e]
            rfl
          · rw [List.getElem?_eq_none (by omega), List.getElem?_eq_none (by rw [List.length_append, List.length_take]; simp; omega)]
      refine ⟨a, xs, -1, w, rfl, rfl, SqL.of (g2.h _ _ (g1.bh _ _ h1)), ?_, q _ B2 H2 (g1.trans g2) (r.mono g2.b)⟩
      rw [hxs]
      exact atI_last _ w
/-- e.bit_length() -/
theorem je_bits {i : Int} {n : Nat} {apos : Pos} (ha : JE S e ρ (.int i)) (hn : Builtin.Int.intBits i = n) (hb : ∀ env, attributeBase e "bit_length" env (eval e env) = eval e env := by intro _; rfl) (hl : (apos.endLine == pos.line) = true := by rfl) : JE S (.Call (.Attribute e "bit_length" apos) [] [] pos) ρ (.n n) :=
  je_of (t := tBits (wE S e)) (fun X h => pe_bits (wE_ok h) (hb _) hl) fun B σ H E Q k => ha B σ H E _ fun v B1 H1 g1 r1 => by
    cases r1
    exact ⟨i, rfl, by rw [hn]; exact k _ B1 H1 g1 (.int _)⟩
end
end My

/-! # D5 -/
namespace My
open PySem L2
variable {G : Gx}
theorem calR_of {x qual : Str} {st : Stmt} {f : Addr} {fd : FuncData} {Ns ps : List Str} {k : Nat} {Rel : List Dt → Dt → Prop} (F : Fun G.K x qual st f fd) (Sc : FnScope Ns ps (defScope st)) (hb : ∀ (kV doc pm : Value) (an : Option Addr) (cdv ct : Value) (us : List Value), us.length = ps.length → bindArgs (PySem.W.fnOf x qual (defArgs st) (defBody st) (defScope st) .none kV doc pm an cdv ct) ⟨us, []⟩ = pure (ps.zip us))
    (hlen : ∀ ds d, Rel ds d → ds.length = ps.length)
    (body : ∀ ds d, Rel ds d → JB (scD G st Ns k) (defBody st) (rho0 Ns ds) (fun _ => d = .non) (fun z => z = d) (fun _ => False) (fun _ => False)) : CalR G (k + 1) f Rel :=
  ((fn_D F Sc hlen body).raw (F.binds hb) .nil).imp fun vs H Q E h => by rw [List.append_nil]; exact h
abbrev MkR (G : Gx) : Prop := MkAt G 4 RMk
theorem mk_of {f : Addr} {fd : FuncData} (Z : Bt G) (F : RkF G) (cT : Callee G "cells_told" 3 ["cells"] RTold) (M : Mk G.K G.C f) (Fi : Fun G.K "__init__" "Rank.__init__" (mth 1) f fd) : MkR G :=
  ⟨f, fd, ["self", "cells"], M, ok_init Z F cT Fi, Fi.binds fun _ _ _ _ _ _ us hl => match us, hl with | [_, _], _ => rfl⟩
theorem sc_flat : FnScope ["cls", "worlds"] ["cls", "worlds"] (defScope (mth 2)) := ⟨rfl, rfl, rfl, by decide +kernel, rfl, by decide +kernel, by decide +kernel⟩
def RFlat (ds : List Dt) (d : Dt) : Prop := ∃ n : Nat, ds = [.cl, .n n] ∧ 1 ≤ n ∧ n ≤ 12 ∧ d = .rk (flat n)
theorem ok_flat {f : Addr} {fd : FuncData} (M : MkR G) (cE : Callee G "every" 3 ["worlds"] REvery) (Ff : Fun G.K "flat" "Rank.flat" (mth 2) f fd) : CalR G 6 f RFlat := by
  refine calR_of Ff sc_flat (fun _ _ _ _ _ _ us hl => match us, hl with | [_, _], _ => rfl) (fun ds d ⟨_, e, _⟩ => by rw [e]; rfl) fun ds d ⟨n, e, h1, h2, ed⟩ => ?_
  subst e ed
  show JB _ _ [.v .cl, .v (.n n)] _ _ _ _
  exact jb_one (js_ret (je_makeL 0 M (ja_cons (je_tup (ja_cons (je_call cE (ja_cons (je_var 1) ja_nil) ⟨n, rfl, h1, h2, rfl⟩) ja_nil) (Nat.le_of_ble_eq_true rfl)) ja_nil) ⟨_, rfl, .inl (by rw [flat_cells h1]; rfl), (flat_den h1).dn, by simpa [flat] using h2⟩) rfl)
theorem sc_oflev : FnScope ["cls", "numbers", "number"] ["cls", "numbers"] (defScope (mth 4)) := ⟨rfl, rfl, rfl, by decide +kernel, rfl, by decide +kernel, by decide +kernel⟩
def ROf (ds : List Dt) (d : Dt) : Prop := ∃ L : List Nat, ds = [.cl, .L L] ∧ Dn L ∧ L.length ≤ 12 ∧ d = .rk L
theorem ok_oflev {f : Addr} {fd : FuncData} (Z : Bt G) (M : MkR G) (cR : Callee G "is_row" 1 ["value"] RRow) (cW : Callee G "whole_number" 1 ["value"] RWhole) (cB : Callee G "cells_by" 1 ["marks"] RBy) (Ff : Fun G.K "of_levels" "Rank.of_levels" (mth 4) f fd) : CalR G 6 f ROf := by
  refine calR_of Ff sc_oflev (fun _ _ _ _ _ _ us hl => match us, hl with | [_, _], _ => rfl) (fun ds d ⟨_, e, _⟩ => by rw [e]; rfl) fun ds d ⟨L, e, hL, h12, ed⟩ => ?_
  subst e ed
  have hp := hL.pos
  show JB _ _ [.v .cl, .v (.L L), .un] _ _ _ _
  refine jb_skip (jt_is (jt_w (jw_or (jt_not (jt_val (je_call cR (ja_cons (je_var 1) ja_nil) ⟨_, _, rfl, .inr rfl, rfl⟩))) fun _ => jw_or1 (jt_not (jt_leLe je_int (je_len Z.len (je_var 1) (.inr rfl)) je_int)))) ?_) ?_
  · rw [List.length_map]
    simp
    omega
  refine jb_skip (jt_is (jt_not (jt_val (je_all Z.all (je_is (je_lcM 2 L Dt.n (fun _ => .bl true) (ji_seq (je_var 1) (.inr rfl)) (fun x _ => je_call cW (ja_cons (je_var 2) ja_nil) ⟨_, rfl, rfl⟩) (by omega)) (show _ = Dt.LB (L.map fun _ => true) from congrArg Dt.lst (by rw [List.map_map]; rfl)))))) ?_) ?_
  · simp
  exact jb_one (js_ret (je_makeL 0 M (ja_cons (je_call cB (ja_cons (je_var 1) ja_nil) ⟨L, rfl, hL, h12, rfl⟩) ja_nil) ⟨_, rfl, .inl rfl, hL, h12⟩) rfl)
theorem sc_held : FnScope ["self"] ["self"] (defScope (mth 6)) := ⟨rfl, rfl, rfl, by decide +kernel, rfl, by decide +kernel, by decide +kernel⟩
def RHeld (ds : List Dt) (d : Dt) : Prop := ∃ L : List Nat, ds = [.rk L] ∧ Dn L ∧ d = .T (cell L 0)
theorem ok_held {f : Addr} {fd : FuncData} (F : RkF G) (Ff : Fun G.K "held" "Rank.held" (mth 6) f fd) : CalR G 1 f RHeld := by
  refine calR_of Ff sc_held (fun _ _ _ _ _ _ us hl => match us, hl with | [_], _ => rfl) (fun ds d ⟨_, e, _⟩ => by rw [e]; rfl) fun ds d ⟨L, e, hL, ed⟩ => ?_
  subst e ed
  show JB _ _ [.v (.rk L)] _ _ _ _
  exact jb_one (js_ret (je_ix (k := 0) (je_cells F (je_var 0)) (.inl rfl) je_int (by rw [cellsOf_cons hL]; rfl)) rfl)
theorem sc_eq : FnScope ["self", "other"] ["self", "other"] (defScope (mth 14)) := ⟨rfl, rfl, rfl, by decide +kernel, rfl, by decide +kernel, by decide +kernel⟩
def REq (ds : List Dt) (d : Dt) : Prop := ∃ L M : List Nat, ds = [.rk L, .rk M] ∧ L.length = M.length ∧ d = .bl (L == M)
theorem ok_eq {f : Addr} {fd : FuncData} (Z : Bt G) (F : RkF G) (Ff : Fun G.K "__eq__" "Rank.__eq__" (mth 14) f fd) : CalR G 1 f REq := by
  refine calR_of Ff sc_eq (fun _ _ _ _ _ _ us hl => match us, hl with | [_, _], _ => rfl) (fun ds d ⟨_, _, e, _⟩ => by rw [e]; rfl) fun ds d ⟨L, M, e, hl, ed⟩ => ?_
  subst e ed
  show JB _ _ [.v (.rk L), .v (.rk M)] _ _ _ _
  refine jb_one (js_ret (je_is (je_and (je_isiR F Z.isi (je_var 1)) fun _ => je_one (je_eqD (p := L = M) (je_cells F (je_var 0)) (je_cells F (je_var 1)) (pln_TT _) (pln_TT _) (Nat.le_trans (dep_TT _) (by omega)) (Nat.le_trans (dep_TT _) (by omega)) ?_)) ?_) rfl)
  · rw [TT_iff]
    exact ⟨fun h => cellsOf_inj hl h, fun h => by rw [h]⟩
  · congr 1
    rw [Bool.true_and, Bool.eq_iff_iff]
    simp
/-! ### products, lead rows -/
theorem sc_same : FnScope ["one", "other"] ["one", "other"] (defScope (top 26)) := ⟨rfl, rfl, rfl, by decide +kernel, rfl, by decide +kernel, by decide +kernel⟩
def RSame (ds : List Dt) (d : Dt) : Prop := ∃ L M : List Nat, ds = [.rk L, .rk M] ∧ L.length = M.length ∧ d = .non
theorem ok_same (F : RkF G) (D : DefAt G "check_same_worlds" "check_same_worlds" (top 26)) : Callee G "check_same_worlds" 1 ["one", "other"] RSame := by
  refine callee_of D sc_same (fun _ _ _ _ _ _ us hl => match us, hl with | [_, _], _ => rfl) (fun ds d ⟨_, _, e, _⟩ => by rw [e]; rfl) fun ds d ⟨L, M, e, hl, ed⟩ => ?_
  subst e ed
  show JB _ _ [.v (.rk L), .v (.rk M)] _ _ _ _
  exact jb_skip (jt_is (jt_ne (je_worlds F (je_var 0)) (je_worlds F (je_var 1))) (by rw [hl]; simp)) (jb_nil rfl)
theorem sc_finer : FnScope ["one", "other", "cell", "x"] ["one", "other"] (defScope (top 27)) := ⟨rfl, rfl, rfl, by decide +kernel, rfl, by decide +kernel, by decide +kernel⟩
def RFiner (ds : List Dt) (d : Dt) : Prop := ∃ L : List Nat, ds = [.rk L, .rk (flat L.length)] ∧ Dn L ∧ L.length ≤ 12 ∧ d = .bl true
theorem flat_get {n i : Nat} (h : i < n) : ((flat n).map Dt.n)[i]? = some (.n 0) := by
  unfold flat
  rw [List.getElem?_map, List.getElem?_replicate, if_pos h]
  rfl
theorem cell_first {L : List Nat} {c : List Nat} (h : Dn L) (h12 : L.length ≤ 12) (hc : c ∈ cellsOf L) : ∃ z t, c = z :: t ∧ z < L.length := by
  have hC := cs_of h h12
  cases e : c with
  | nil => exact ((hC.ce c hc).1 e).elim
  | cons z t => exact ⟨z, t, rfl, hC.lt (List.mem_flatten.mpr ⟨c, hc, by rw [e]; simp⟩)⟩
theorem cell_lt {L : List Nat} {c : List Nat} {x : Nat} (h : Dn L) (h12 : L.length ≤ 12) (hc : c ∈ cellsOf L) (hx : x ∈ c) : x < L.length := (cs_of h h12).lt (List.mem_flatten.mpr ⟨c, hc, hx⟩)
theorem ok_finer (Z : Bt G) (F : RkF G) (cS : Callee G "check_same_worlds" 1 ["one", "other"] RSame) (D : DefAt G "finer" "finer" (top 27)) : Callee G "finer" 2 ["one", "other"] RFiner := by
  refine callee_of D sc_finer (fun _ _ _ _ _ _ us hl => match us, hl with | [_, _], _ => rfl) (fun ds d ⟨_, e, _⟩ => by rw [e]; rfl) fun ds d ⟨L, e, hL, h12, ed⟩ => ?_
  subst e ed
  show JB _ _ [.v (.rk L), .v (.rk (flat L.length)), .un, .un] _ _ _ _
  refine jb_then (js_drop (je_call cS (ja_cons (je_var 0) (ja_cons (je_var 1) ja_nil)) ⟨L, flat L.length, rfl, by simp [flat], rfl⟩) rfl) ?_
  refine jb_one (js_ret (je_is (je_all Z.all (bs := (cellsOf L).flatMap fun c => c.map fun _ => true) (je_is (je_lcNN 2 3 (cellsOf L) Dt.T (fun c => c) Dt.n (fun _ _ => .bl true) (noO_of rfl) (ji_seq (je_cells F (je_var 0)) (.inl rfl)) (fun c _ => ji_seq (je_var 2) (.inl rfl)) (fun c hc w hw => ?_) ?_) ?_)) ?_) rfl)
  · obtain ⟨z, t, ec, hz⟩ := cell_first hL h12 hc
    have hwl := cell_lt hL h12 hc hw
    exact je_is (je_eq (je_ix (je_levels F (je_var 1)) (.inl rfl) (je_var 3) (flat_get hwl)) (je_ix (je_levels F (je_var 1)) (.inl rfl) (je_ix (k := 0) (je_var 2) (.inl rfl) je_int (by rw [ec]; rfl)) (flat_get hz))) (by simp)
  · have := (cs_of hL h12).len
    rw [show (cellsOf L).flatMap (fun c => c) = (cellsOf L).flatten by rw [List.flatMap_def, List.map_id']]
    omega
  · show Dt.lst _ = Dt.lst _
    rw [List.map_flatMap]
    simp only [List.map_map]
    rfl
  · congr 1
    rw [List.all_eq_true]
    intro b hb
    obtain ⟨c, _, h2⟩ := List.mem_flatMap.mp hb
    obtain ⟨_, _, e⟩ := List.mem_map.mp h2
    exact e.symm
theorem sc_halving : FnScope ["number"] ["number"] (defScope (top 29)) := ⟨rfl, rfl, rfl, by decide +kernel, rfl, by decide +kernel, by decide +kernel⟩
def RHalv (ds : List Dt) (d : Dt) : Prop := ∃ k : Nat, ds = [.n k] ∧ 1 ≤ k ∧ k ≤ 12 ∧ d = .n (tz k)
theorem bits_tz {k : Nat} (h1 : 1 ≤ k) (h2 : k ≤ 12) : Builtin.Int.intBits ((k : Int) - 1) = tz k := by
  match k, h1, h2 with
  | 1, _, _ => decide +kernel
  | 2, _, _ => decide +kernel
  | 3, _, _ => decide +kernel
  | 4, _, _ => decide +kernel
  | 5, _, _ => decide +kernel
  | 6, _, _ => decide +kernel
  | 7, _, _ => decide +kernel
  | 8, _, _ => decide +kernel
  | 9, _, _ => decide +kernel
  | 10, _, _ => decide +kernel
  | 11, _, _ => decide +kernel
  | 12, _, _ => decide +kernel
  | k + 13, _, h => exact absurd h (by omega)
theorem ok_halving (cW : Callee G "whole_number" 1 ["value"] RWhole) (D : DefAt G "halving" "halving" (top 29)) : Callee G "halving" 2 ["number"] RHalv := by
  refine callee_of D sc_halving (fun _ _ _ _ _ _ us hl => match us, hl with | [_], _ => rfl) (fun ds d ⟨_, e, _⟩ => by rw [e]; rfl) fun ds d ⟨k, e, h1, h2, ed⟩ => ?_
  subst e ed
  show JB _ _ [.v (.n k)] _ _ _ _
  refine jb_skip (jt_is (jt_w (jw_or (jt_not (jt_val (je_call cW (ja_cons (je_var 0) ja_nil) ⟨_, rfl, rfl⟩))) fun _ => jw_or1 (jt_lt (je_var 0) je_int))) ?_) ?_
  · simp
    omega
  · exact jb_one (js_ret (je_bits (je_sub (je_var 0) je_int) (bits_tz h1 h2)) rfl)
theorem sc_lies : FnScope ["rank", "goal", "cell"] ["rank", "goal"] (defScope (top 30)) := ⟨rfl, rfl, rfl, by decide +kernel, rfl, by decide +kernel, by decide +kernel⟩
def RLies (ds : List Dt) (d : Dt) : Prop := ∃ L : List Nat, ds = [.rk (flat L.length), .rk L] ∧ Dn L ∧ L.length ≤ 12 ∧ d = .L (flat (ncells L))
theorem ok_lies (F : RkF G) (cF : Callee G "finer" 2 ["one", "other"] RFiner) (D : DefAt G "lies_at" "lies_at" (top 30)) : Callee G "lies_at" 3 ["rank", "goal"] RLies := by
  refine callee_of D sc_lies (fun _ _ _ _ _ _ us hl => match us, hl with | [_, _], _ => rfl) (fun ds d ⟨_, e, _⟩ => by rw [e]; rfl) fun ds d ⟨L, e, hL, h12, ed⟩ => ?_
  subst e ed
  have hfl : (flat L.length).length = L.length := by simp [flat]
  show JB _ _ [.v (.rk (flat L.length)), .v (.rk L), .un] _ _ _ _
  refine jb_skip (jt_is (jt_ne (je_worlds F (je_var 1)) (je_worlds F (je_var 0))) (by rw [hfl]; simp)) ?_
  refine jb_skip (jt_is (jt_not (jt_val (je_call cF (ja_cons (je_var 1) (ja_cons (je_var 0) ja_nil)) ⟨L, rfl, hL, h12, rfl⟩))) rfl) ?_
  refine jb_one (js_ret (je_is (je_lcM 2 (cellsOf L) Dt.T (fun _ => .n 0) (ji_seq (je_cells F (je_var 1)) (.inl rfl)) (fun c hc => ?_) (by have := (cs_of hL h12).clen; omega)) ?_) rfl)
  · obtain ⟨z, t, ec, hz⟩ := cell_first hL h12 hc
    exact je_ix (je_levels F (je_var 0)) (.inl rfl) (je_ix (k := 0) (je_var 2) (.inl rfl) je_int (by rw [ec]; rfl)) (flat_get hz)
  · show Dt.lst _ = Dt.lst _
    unfold flat
    rw [List.map_const', List.map_replicate, cellsOf_len]
theorem sc_numb : FnScope ["lies", "numbers", "at", "down"] ["lies"] (defScope (top 31)) := ⟨rfl, rfl, rfl, by decide +kernel, rfl, by decide +kernel, by decide +kernel⟩
def RNumb (ds : List Dt) (d : Dt) : Prop := ∃ k : Nat, ds = [.L (flat k)] ∧ 1 ≤ k ∧ k ≤ 12 ∧ d = .L (List.range k)
theorem ok_numb (Z : Bt G) (D : DefAt G "cell_numbers" "cell_numbers" (top 31)) : Callee G "cell_numbers" 1 ["lies"] RNumb := by
  refine callee_of D sc_numb (fun _ _ _ _ _ _ us hl => match us, hl with | [_], _ => rfl) (fun ds d ⟨_, e, _⟩ => by rw [e]; rfl) fun ds d ⟨k, e, h1, h2, ed⟩ => ?_
  subst e ed
  show JB _ _ [.v (.L (flat k)), .un, .un, .un] _ _ _ _
  refine jb_then (js_own 1 (ja_cons je_int ja_nil)) ?_
  have hlen : ((flat k).map Dt.n).length = k := by simp [flat]
  refine jb_cons (js_forN 2 (List.range (k - 1)) (fun i => Dt.n (1 + i)) (ji_range2 (a := 1) (n := k) Z.range je_int (je_is (je_len Z.len (je_var 0) (.inr rfl)) (by rw [hlen])) (by omega) (by omega)) (fun i r => ∃ s2 s3, r = [.v (.L (flat k)), .o ((List.range (i + 1)).map Dt.n), s2, s3]) ⟨.un, .un, rfl⟩ ?_ (N := fun r => ∃ s2 s3, r = [.v (.L (flat k)), .o ((List.range k).map Dt.n), s2, s3]) (fun r ⟨s2, s3, e⟩ => ⟨s2, s3, by rw [e, List.length_range, show k - 1 + 1 = k by omega]⟩)) ?_
  · rintro i y r hk ⟨s2, s3, rfl⟩
    obtain ⟨hi, hy⟩ := List.getElem?_eq_some_iff.mp hk
    rw [List.length_range] at hi
    have e : y = i := by rw [← hy, List.getElem_range]
    subst e
    show JB _ _ [.v (.L (flat k)), .o ((List.range (y + 1)).map Dt.n), .v (.n (1 + y)), s3] _ _ _ _
    refine jb_then (js_set 3 (je_is (je_ge (je_ix (k := y) (je_var 0) (.inr rfl) (je_is (je_sub (je_var 2) je_int) (by show Dt.int _ = Dt.int _; congr 1; omega)) (flat_get (by omega))) (je_ix (je_var 0) (.inr rfl) (je_var 2) (flat_get (by omega)))) (d' := .bl true) (by simp))) ?_
    refine jb_one (SD.imp (js_app 1 rfl (je_add (je_lastO (l0 := (List.range y).map Dt.n) (d := .n y) 1 (by rw [List.range_succ, List.map_append]; rfl) (je_neg je_int)) (je_if (jt_val (je_var 3)) (fun _ => je_int) fun h => by cases h)) (by simp; omega)) (fun z e => ⟨.v (.n (1 + y)), .v (.bl true), e.trans ?_⟩) fun _ h => h)
    rw [List.range_succ (n := y + 1), List.map_append]
    rfl
  · rintro r ⟨s2, s3, rfl⟩
    refine jb_freeze 1 rfl ?_
    exact jb_one (js_ret (je_var 1) rfl)
end My

/-! # D6 -/
namespace My
open PySem L2
variable {G : Gx}
theorem sc_lead : FnScope ["rank", "goal", "lies", "numbers", "news", "digit", "lot", "x", "cell", "number"] ["rank", "goal"] (defScope (top 32)) := ⟨rfl, rfl, rfl, by decide +kernel, rfl, by decide +kernel, by decide +kernel⟩
def RLead (ds : List Dt) (d : Dt) : Prop := ∃ L : List Nat, ds = [.rk (flat L.length), .rk L] ∧ Dn L ∧ L.length ≤ 12 ∧ d = .TT ((List.range (tz (ncells L))).map (leadLot L))
theorem zip_mem {L : List Nat} {q : List Nat × Nat} (h : q ∈ (cellsOf L).zip (List.range (ncells L))) : q.1 ∈ cellsOf L := (List.of_mem_zip h).1
theorem tz_le4 (k : Nat) : tz k ≤ 4 := by
  unfold tz
  repeat' split
  all_goals omega
theorem ok_lead (Z : Bt G) (F : RkF G) (cL : Callee G "lies_at" 3 ["rank", "goal"] RLies) (cN : Callee G "cell_numbers" 1 ["lies"] RNumb) (cH : Callee G "halving" 2 ["number"] RHalv) (D : DefAt G "lead_row" "lead_row" (top 32)) : Callee G "lead_row" 4 ["rank", "goal"] RLead := by
  refine callee_of D sc_lead (fun _ _ _ _ _ _ us hl => match us, hl with | [_, _], _ => rfl) (fun ds d ⟨_, e, _⟩ => by rw [e]; rfl) fun ds d ⟨L, e, hL, h12, ed⟩ => ?_
  subst e ed
  have hk1 := hL.npos
  have hk2 := hL.ncells_le
  have hC := cs_of hL h12
  show JB _ _ [.v (.rk (flat L.length)), .v (.rk L), .un, .un, .un, .un, .un, .un, .un, .un] _ _ _ _
  refine jb_then (js_set 2 (je_call cL (ja_cons (je_var 0) (ja_cons (je_var 1) ja_nil)) ⟨L, rfl, hL, h12, rfl⟩)) ?_
  refine jb_skip (jt_is (jt_isN (je_var 2)) rfl) ?_
  refine jb_then (js_set 3 (je_call cN (ja_cons (je_var 2) ja_nil) ⟨ncells L, rfl, hk1, by omega, rfl⟩)) ?_
  refine jb_then (js_own 4 ja_nil) ?_
  have hlast : Dt.L (List.range (ncells L)) = .lst ((List.range (ncells L - 1)).map Dt.n ++ [.n (ncells L - 1)]) := by
    have : List.range (ncells L) = List.range (ncells L - 1) ++ [ncells L - 1] := by
      rw [← List.range_succ, show (ncells L - 1).succ = ncells L by omega]
    show Dt.lst _ = _
    rw [this, List.map_append]
    rfl
  refine jb_cons (js_forN 5 (List.range (tz (ncells L))) Dt.n (ji_range Z.range (je_call cH (ja_cons (je_is (je_add je_int (je_last (je_is (je_var 3) hlast) (je_neg je_int))) (d' := .n (ncells L)) (by show Dt.int _ = Dt.int _; congr 1; omega)) ja_nil) ⟨ncells L, rfl, hk1, by omega, rfl⟩) (by have := tz_le4 (ncells L); omega))
    (fun i r => ∃ s5 s6, r = [.v (.rk (flat L.length)), .v (.rk L), .v (.L (flat (ncells L))), .v (.L (List.range (ncells L))), .o (((List.range i).map (leadLot L)).map Dt.T), s5, s6, .un, .un, .un]) ⟨.un, .un, rfl⟩ ?_ (N := fun r => ∃ s5 s6, r = [.v (.rk (flat L.length)), .v (.rk L), .v (.L (flat (ncells L))), .v (.L (List.range (ncells L))), .o (((List.range (tz (ncells L))).map (leadLot L)).map Dt.T), s5, s6, .un, .un, .un])
    (fun r ⟨s5, s6, e⟩ => ⟨s5, s6, by rw [e, List.length_range]⟩)) ?_
  · rintro i y r hk ⟨s5, s6, rfl⟩
    obtain ⟨hi, hy⟩ := List.getElem?_eq_some_iff.mp hk
    rw [List.length_range] at hi
    have e : y = i := by rw [← hy, List.getElem_range]
    subst e
    have hy4 := tz_le4 (ncells L)
    show JB _ _ [.v (.rk (flat L.length)), .v (.rk L), .v (.L (flat (ncells L))), .v (.L (List.range (ncells L))), .o (((List.range y).map (leadLot L)).map Dt.T), .v (.n y), s6, .un, .un, .un] _ _ _ _
    have hsz : ((((cellsOf L).zip (List.range (ncells L))).filter fun q => q.2 / 2 ^ y % 2 == 0).flatMap fun q => q.1).length ≤ 12 := by
      have := (lead_perm L y).length_eq
      have h2 : (leadLot L y).length ≤ (List.range L.length).length := List.length_filter_le _ _
      rw [List.length_range] at h2
      omega
    refine jb_then (js_setP2 6 8 9 7 ((cellsOf L).zip (List.range (ncells L))) (fun q => .T q.1) (fun q => .n q.2) (fun q => q.2 / 2 ^ y % 2 == 0) (fun q => q.1) Dt.n (fun _ x => .n x) (ji_zip (cellsOf L) (List.range (ncells L)) Dt.T Dt.n Z.zip (je_cells F (je_var 1)) (je_var 3)) (fun q _ => jt_is (jt_eq (je_band (je_shr (je_var 9) (je_var 5) (by omega)) je_int) je_int) (bit_lem q.2 y)) (fun q _ _ => ji_seq (je_var 8) (.inl rfl)) (fun q _ _ w _ => je_var 7) (by omega)) ?_
    refine jb_one (SD.imp (js_app 4 rfl (je_tuple Z.tuple (je_sortedN (ys := leadLot L y) (xs := ((((cellsOf L).zip (List.range (ncells L))).filter fun q => q.2 / 2 ^ y % 2 == 0).flatMap fun q => q.1)) Z.sorted (je_is (je_var 6) (congrArg Dt.lst (by rw [List.map_flatMap]))) (lead_perm L y).symm ((List.pairwise_lt_range.filter _).imp fun h => Nat.le_of_lt h)) (.inr rfl)) (by simp; omega)) (fun z e => ⟨.v (.n y), .v (.lst ((((cellsOf L).zip (List.range (ncells L))).filter fun q => q.2 / 2 ^ y % 2 == 0).flatMap fun q => q.1.map fun x => Dt.n x)), e.trans ?_⟩) fun _ h => h)
    rw [List.range_succ, List.map_append, List.map_append]
    rfl
  · rintro r ⟨s5, s6, rfl⟩
    refine jb_freeze 4 rfl ?_
    exact jb_one (js_ret (je_tuple Z.tuple (je_var 4) (.inr rfl)) rfl)
theorem sc_fewact : FnScope ["rank"] ["rank"] (defScope (top 33)) := ⟨rfl, rfl, rfl, by decide +kernel, rfl, by decide +kernel, by decide +kernel⟩
def RFewA (ds : List Dt) (d : Dt) : Prop := ∃ L : List Nat, ds = [.rk L] ∧ Dn L ∧ L.length ≤ 12 ∧ d = .n (tz (ncells L))
theorem ok_fewact (Z : Bt G) (F : RkF G) (cH : Callee G "halving" 2 ["number"] RHalv) (D : DefAt G "fewest_act" "fewest_act" (top 33)) : Callee G "fewest_act" 3 ["rank"] RFewA := by
  refine callee_of D sc_fewact (fun _ _ _ _ _ _ us hl => match us, hl with | [_], _ => rfl) (fun ds d ⟨_, e, _⟩ => by rw [e]; rfl) fun ds d ⟨L, e, hL, h12, ed⟩ => ?_
  subst e ed
  have hk1 := hL.npos
  have hk2 := hL.ncells_le
  show JB _ _ [.v (.rk L)] _ _ _ _
  exact jb_one (js_ret (je_call cH (ja_cons (je_is (je_len Z.len (je_cells F (je_var 0)) (.inl rfl)) (by rw [List.length_map, cellsOf_len])) ja_nil) ⟨ncells L, rfl, hk1, by omega, rfl⟩) rfl)
abbrev FlatM (G : Gx) : Prop := CMetAt G "flat" 6 RFlat
abbrev OfM (G : Gx) : Prop := CMetAt G "of_levels" 6 ROf
abbrev HeldP (G : Gx) : Prop := PropAt G "held" 1 RHeld
abbrev EqR (G : Gx) : Prop := EqAtR G 1 REq
theorem sc_actrow : FnScope ["rank"] ["rank"] (defScope (top 34)) := ⟨rfl, rfl, rfl, by decide +kernel, rfl, by decide +kernel, by decide +kernel⟩
def RActR (ds : List Dt) (d : Dt) : Prop := ∃ L : List Nat, ds = [.rk L] ∧ Dn L ∧ L.length ≤ 12 ∧ d = .TT ((List.range (tz (ncells L))).map (leadLot L))
theorem ok_actrow (F : RkF G) (cf : FlatM G) (cL : Callee G "lead_row" 4 ["rank", "goal"] RLead) (D : DefAt G "act_row" "act_row" (top 34)) : Callee G "act_row" 7 ["rank"] RActR := by
  refine callee_of D sc_actrow (fun _ _ _ _ _ _ us hl => match us, hl with | [_], _ => rfl) (fun ds d ⟨_, e, _⟩ => by rw [e]; rfl) fun ds d ⟨L, e, hL, h12, ed⟩ => ?_
  subst e ed
  show JB _ _ [.v (.rk L)] _ _ _ _
  exact jb_one (js_ret (je_call cL (ja_cons (je_cmeth F cf (ja_cons (je_worlds F (je_var 0)) ja_nil) ⟨L.length, rfl, hL.pos, h12, rfl⟩) (ja_cons (je_var 0) ja_nil)) ⟨L, rfl, hL, h12, rfl⟩) rfl)
/-! ### turning -/
theorem sc_deed : FnScope ["word", "lot", "worlds", "told"] ["word", "lot", "worlds"] (defScope (top 38)) := ⟨rfl, rfl, rfl, by decide +kernel, rfl, by decide +kernel, by decide +kernel⟩
def RDeed (ds : List Dt) (d : Dt) : Prop := ∃ (xs : List Nat) (n : Nat), ds = [.str "sink", .T xs, .n n] ∧ Asc xs n ∧ xs.length ≠ n ∧ d = .T xs
def dw : List Str := ["lead", "push", "lean", "level", "sink", "ask"]
def gw : List Str := ["level", "sink"]
theorem ok_deed (Z : Bt G) (cC : Callee G "check_worlds" 2 ["worlds"] RCheck) (cL : LotK G) (wD : WordsAt G "DEED_WORDS" dw) (wG : WordsAt G "GIVE_WORDS" gw) (D : DefAt G "lot_of_deed" "lot_of_deed" (top 38)) : Callee G "lot_of_deed" 5 ["word", "lot", "worlds"] RDeed := by
  refine callee_of D sc_deed (fun _ _ _ _ _ _ us hl => match us, hl with | [_, _, _], _ => rfl) (fun ds d ⟨_, _, e, _⟩ => by rw [e]; rfl) fun ds d ⟨xs, n, e, hA, hne, ed⟩ => ?_
  subst e ed
  show JB _ _ [.v (.str "sink"), .v (.T xs), .v (.n n), .un] _ _ _ _
  refine jb_then (js_drop (je_call cC (ja_cons (je_var 2) ja_nil) ⟨n, rfl, hA.n1, hA.n12, rfl⟩) rfl) ?_
  refine jb_skip (jt_is (jt_ninW wD (je_var 0)) (by decide +kernel)) ?_
  have hg : decide (("sink" : Str) ∈ gw) = true := by decide +kernel
  refine jb_then (js_set 3 (je_callK cL (ja_cons (je_var 1) (ja_cons (je_var 2) ja_nil)) (je_inW wG (je_var 0)) rfl ⟨_, xs, n, by rw [hg]; rfl, .inl rfl, hA, rfl⟩)) ?_
  refine jb_skip (jt_is (jt_w (jw_and (jt_inW wG (je_var 0)) fun _ => jw_and1 (jt_eq (je_len Z.len (je_var 3) (.inl rfl)) (je_var 2)))) ?_) ?_
  · rw [hg, List.length_map]
    simp
    omega
  · exact jb_one (js_ret (je_var 3) rfl)
theorem sc_with : FnScope ["rank", "first", "behind", "cell"] ["rank", "first"] (defScope (top 39)) := ⟨rfl, rfl, rfl, by decide +kernel, rfl, by decide +kernel, by decide +kernel⟩
def RWith (ds : List Dt) (d : Dt) : Prop := ∃ (L : List Nat) (p : Nat → Bool), ds = [.rk L, .T (sel L.length p)] ∧ Dn L ∧ L.length ≤ 12 ∧ (∃ w, w < L.length ∧ p w = true) ∧ d = .rk (mrg L p)
theorem minus_cell {L : List Nat} {p : Nat → Bool} {c : List Nat} (h : Dn L) (h12 : L.length ≤ 12) (hc : c ∈ cellsOf L) : (c.filter fun w => !(sel L.length p).contains w) = c.filter fun w => !p w :=
  List.filter_congr fun w hw => by rw [sel_contains (cell_lt h h12 hc hw)]
theorem cell_asc {L : List Nat} {c : List Nat} (h : Dn L) (h12 : L.length ≤ 12) (hc : c ∈ cellsOf L) : Asc c L.length := ⟨((cs_of h h12).ce c hc).2, fun y hy => cell_lt h h12 hc hy, h.pos, h12⟩
theorem ne0_tru (c : List Nat) : (!(c.map Dt.n).isEmpty) = ne0 c := by cases c <;> rfl
theorem ok_with (Z : Bt G) (F : RkF G) (M : MkR G) (cM : Callee G "minus" 1 ["one", "other"] RMinus) (D : DefAt G "with_first" "with_first" (top 39)) : Callee G "with_first" 6 ["rank", "first"] RWith := by
  refine callee_of D sc_with (fun _ _ _ _ _ _ us hl => match us, hl with | [_, _], _ => rfl) (fun ds d ⟨_, _, e, _⟩ => by rw [e]; rfl) fun ds d ⟨L, p, e, hL, h12, hp, ed⟩ => ?_
  subst e ed
  have hC := cs_of hL h12
  have hcl := hC.clen
  show JB _ _ [.v (.rk L), .v (.T (sel L.length p)), .un, .un] _ _ _ _
  refine jb_then (js_setM 2 3 (cellsOf L) Dt.T (fun c => .T (c.filter fun w => !p w)) (ji_seq (je_cells F (je_var 0)) (.inl rfl)) (fun c hc => je_call cM (ja_cons (je_var 3) (ja_cons (je_var 1) ja_nil)) ⟨c, sel L.length p, rfl, (cell_asc hL h12 hc).le, by have := (cell_asc hL h12 hc).len; omega, by rw [minus_cell hL h12 hc]⟩) (by omega)) ?_
  refine jb_one (js_ret (je_make F M (ja_cons (je_catL (je_lst (ja_cons (je_var 1) ja_nil) (Nat.le_of_ble_eq_true rfl)) (je_lcF 3 ((cellsOf L).map fun c => c.filter fun w => !p w) Dt.T ne0 Dt.T (ji_seq (je_var 2) (.inr (congrArg Dt.lst (by rw [List.map_map]; rfl)))) (fun c _ => jt_is (jt_tru (je_var 3) (.inl rfl)) (ne0_tru c)) (fun c _ _ => je_var 3) (by rw [List.length_map]; omega)) ?_) ja_nil) ⟨_, rfl, .inr ?_, (mrg_den hL.pos).dn, by rw [(mrg_den hL.pos).len]; exact h12⟩) rfl)
  · have : ((((cellsOf L).map fun c => c.filter fun w => !p w).filter ne0).map Dt.T).length ≤ 12 := by
      rw [List.length_map]
      exact Nat.le_trans (List.length_filter_le _ _) (by rw [List.length_map]; exact hcl)
    simp only [List.length_cons, List.length_nil]
    omega
  · rw [cells_mrg hp]
    rfl
theorem sc_sunk : FnScope ["rank", "lot", "told", "edge", "x", "level"] ["rank", "lot"] (defScope (top 40)) := ⟨rfl, rfl, rfl, by decide +kernel, rfl, by decide +kernel, by decide +kernel⟩
def RSunk (ds : List Dt) (d : Dt) : Prop := ∃ L lot : List Nat, ds = [.rk L, .T lot] ∧ Dn L ∧ Asc lot L.length ∧ lot.length ≠ L.length ∧ d = .rk (turnS L lot)
abbrev InsC (G : Gx) : Prop := Callee G "inside" 1 ["one", "other"] RInside
theorem hIn_eq (L lot : List Nat) : ((cell L 0).all fun x => decide (x ∈ lot)) = hIn L lot := by
  unfold hIn
  congr 1
  funext x
  rw [Bool.eq_iff_iff, List.contains_iff_mem]
  simp
theorem cell0_le {L : List Nat} (c : Nat) : (cell L c).length ≤ L.length := by
  have := List.length_filter_le (fun w => L.getD w 0 == c) (List.range L.length)
  rw [List.length_range] at this
  exact this
theorem lev_get {L : List Nat} {x : Nat} (h : x < L.length) : (L.map Dt.n)[x]? = some (.n (lv L x)) := by
  rw [List.getElem?_map, List.getElem?_eq_getElem h]
  simp [lv, List.getD_eq_getElem?_getD, List.getElem?_eq_getElem h]
theorem ok_sunk (Z : Bt G) (F : RkF G) (cH : HeldP G) (cD : Callee G "lot_of_deed" 5 ["word", "lot", "worlds"] RDeed) (cI : InsC G) (cR : Callee G "rest_of" 5 ["lot", "worlds"] RRest) (cW : Callee G "with_first" 6 ["rank", "first"] RWith) (D : DefAt G "sunk" "sunk" (top 40)) : Callee G "sunk" 7 ["rank", "lot"] RSunk := by
  refine callee_of D sc_sunk (fun _ _ _ _ _ _ us hl => match us, hl with | [_, _], _ => rfl) (fun ds d ⟨_, _, e, _⟩ => by rw [e]; rfl) fun ds d ⟨L, lot, e, hL, hA, hne, ed⟩ => ?_
  subst e ed
  have h12 := hA.n12
  show JB _ _ [.v (.rk L), .v (.T lot), .un, .un, .un, .un] _ _ _ _
  refine jb_then (js_set 2 (je_call cD (ja_cons je_str (ja_cons (je_var 1) (ja_cons (je_worlds F (je_var 0)) ja_nil))) ⟨lot, L.length, rfl, hA, hne, rfl⟩)) ?_
  refine jb_ifret (jt_not (jt_val (je_call cI (ja_cons (je_prop F cH (je_var 0) ⟨L, rfl, hL, rfl⟩) (ja_cons (je_var 2) ja_nil)) ⟨cell L 0, lot, rfl, by have := cell0_le (L := L) 0; omega, rfl⟩))) (fun hb N' => ?_) fun hb => ?_
  · rw [hIn_eq] at hb
    refine jb_one (js_ret (je_var 0) ?_)
    unfold turnS
    rw [if_neg (by simpa using hb)]
  · rw [hIn_eq] at hb
    have hin : hIn L lot = true := by simpa using hb
    have hcn := comp_ne hA.nd hA.lt hne
    obtain ⟨m1, m2⟩ := lowOut_min hcn
    refine jb_then (js_set 3 (je_min (xs := (comp L.length lot).map (lv L)) Z.min (je_is (je_lcM 4 (comp L.length lot) Dt.n (fun x => .n (lv L x)) (ji_seq (je_call cR (ja_cons (je_var 2) (ja_cons (je_worlds F (je_var 0)) ja_nil)) ⟨lot, L.length, rfl, hA, rfl⟩) (.inl rfl)) (fun x hx => je_ix (je_levels F (je_var 0)) (.inl rfl) (je_var 4) (lev_get (mem_comp.mp hx).1)) (by have := (Asc.comp hL.pos h12 lot).len; omega)) (congrArg Dt.lst (by rw [List.map_map]; rfl))) ⟨m1, m2⟩)) ?_
    have hsel : ((L.zipIdx.filter fun q => decide (q.1 ≤ lowOut L lot)).map fun q => Dt.n q.2) = (sel L.length fun w => decide (lv L w ≤ lowOut L lot)).map Dt.n := by
      rw [zipIdx_lv, List.filter_map, List.map_map]
      rfl
    obtain ⟨z, hz, ez⟩ := hL.zero
    refine jb_one (js_ret (je_is (je_call cW (ja_cons (je_var 0) (ja_cons (je_is (je_tuple Z.tuple (je_lcF2 4 5 L.zipIdx (fun q => .n q.2) (fun q => .n q.1) (fun q => decide (q.1 ≤ lowOut L lot)) (fun q => .n q.2) (ji_enum L Dt.n Z.enum (je_levels F (je_var 0)) (.inl rfl)) (fun q _ => jt_is (jt_le (je_var 5) (je_var 3)) (decide_eq_decide.mpr (by omega))) (fun q _ _ => je_var 4) (by rw [List.length_zipIdx]; omega)) (.inr rfl)) (congrArg Dt.tup hsel)) ja_nil)) ⟨L, fun w => decide (lv L w ≤ lowOut L lot), rfl, hL, h12, ⟨z, hz, by simp [ez]⟩, rfl⟩) ?_) rfl)
    unfold turnS
    rw [if_pos hin]
end My

/-! # D7 -/
namespace My
open PySem L2
variable {G : Gx}
/-- two dense ranks on the same worlds -/
structure Two (L M : List Nat) : Prop where
  l : Dn L
  m : Dn M
  len : L.length = M.length
  n12 : L.length ≤ 12
def oLT : Option (List (List Nat)) → Dt
  | none => .non
  | some xs => .LT xs
def oTT : Option (List (List Nat)) → Dt
  | none => .non
  | some xs => .TT xs
def oN : Option (List (List Nat)) → Dt
  | none => .non
  | some xs => .n xs.length
def oT : Option (List Nat) → Dt
  | none => .non
  | some xs => .T xs
theorem sc_join : FnScope ["rank", "goal", "first", "rest", "cell"] ["rank", "goal"] (defScope (top 42)) := ⟨rfl, rfl, rfl, by decide +kernel, rfl, by decide +kernel, by decide +kernel⟩
def RJoin (ds : List Dt) (d : Dt) : Prop := ∃ L M : List Nat, ds = [.rk L, .rk M] ∧ Two L M ∧ d = oLT (jp L M)
theorem heldIn (L M : List Nat) (hl : L.length = M.length) : ((cell L 0).all fun x => decide (x ∈ cell M 0)) = (cell L 0).all (heldB M) := by
  rw [Bool.eq_iff_iff, List.all_eq_true, List.all_eq_true]
  have key : ∀ x, x ∈ cell L 0 → (decide (x ∈ cell M 0) = true ↔ heldB M x = true) := fun x hx => by
    have hx1 := (mem_cell.mp hx).1
    rw [decide_eq_true_iff, mem_cell, heldB, beq_iff_eq]
    constructor
    · rintro ⟨_, e⟩; exact e
    · intro e; exact ⟨by rw [← hl]; exact hx1, e⟩
  exact ⟨fun h x hx => (key x hx).mp (h x hx), fun h x hx => (key x hx).mpr (h x hx)⟩
theorem ok_join (Z : Bt G) (F : RkF G) (cH : HeldP G) (cM : Callee G "minus" 1 ["one", "other"] RMinus) (cC : Callee G "common" 1 ["one", "other"] RCommon) (cI : InsC G) (cT : Callee G "meets" 1 ["one", "other"] RMeets) (D : DefAt G "joined_parts" "joined_parts" (top 42)) : Callee G "joined_parts" 3 ["rank", "goal"] RJoin := by
  refine callee_of D sc_join (fun _ _ _ _ _ _ us hl => match us, hl with | [_, _], _ => rfl) (fun ds d ⟨_, _, e, _⟩ => by rw [e]; rfl) fun ds d ⟨L, M, e, ⟨hL, hM, hl, h12⟩, ed⟩ => ?_
  subst e ed
  have hC := cs_of hL h12
  have hcl := hC.clen
  have cc : ∀ c ∈ cellsOf L, ∀ w ∈ c, (cell M 0).contains w = heldB M w := fun c hc w hw => by
    rw [cell0, sel_contains (by rw [← hl]; exact cell_lt hL h12 hc hw)]
  have htl : ∀ c ∈ (cellsOf L).tail, c ∈ cellsOf L := fun c hc => List.mem_of_mem_tail hc
  have hcons : cellsOf L = cell L 0 :: (cellsOf L).tail := by rw [cellsOf_cons hL]; rfl
  have hconsM : cellsOf M = cell M 0 :: (cellsOf M).tail := by rw [cellsOf_cons hM]; rfl
  show JB _ _ [.v (.rk L), .v (.rk M), .un, .un, .un] _ _ _ _
  refine jb_skip (jt_is (jt_ne (je_worlds F (je_var 1)) (je_worlds F (je_var 0))) (by rw [hl]; simp)) ?_
  refine jb_then (js_set 2 (je_prop F cH (je_var 1) ⟨M, rfl, hM, rfl⟩)) ?_
  refine jb_then (js_setM 3 4 (cellsOf L) Dt.T (fun c => .T (c.filter fun w => !heldB M w)) (ji_seq (je_cells F (je_var 0)) (.inl rfl)) (fun c hc => je_call cM (ja_cons (je_var 4) (ja_cons (je_var 2) ja_nil)) ⟨c, cell M 0, rfl, (cell_asc hL h12 hc).le, by have := (cell_asc hL h12 hc).len; omega, congrArg Dt.T (List.filter_congr fun w hw => by rw [cc c hc w hw])⟩) (by omega)) ?_
  have hin := heldIn L M hl
  refine jb_ifret (jt_w (jw_or (jt_not (jt_val (je_call cI (ja_cons (je_prop F cH (je_var 0) ⟨L, rfl, hL, rfl⟩) (ja_cons (je_var 2) ja_nil)) ⟨cell L 0, cell M 0, rfl, by have := cell0_le (L := L) 0; omega, rfl⟩))) fun _ => jw_or1 (jt_neD (p := mrg L (heldB M) = M) (je_lcF 4 ((cellsOf L).map fun c => c.filter fun w => !heldB M w) Dt.T ne0 Dt.T (ji_seq (je_var 3) (.inr (congrArg Dt.lst (by rw [List.map_map]; rfl)))) (fun c _ => jt_is (jt_tru (je_var 4) (.inl rfl)) (ne0_tru c)) (fun c _ _ => je_var 4) (by rw [List.length_map]; omega)) (je_list Z.list (je_tailT (x := .T (cell M 0)) (l0 := (cellsOf M).tail.map Dt.T) (je_is (je_cells F (je_var 1)) (by rw [hconsM]; rfl))) (.inl rfl)) (pln_LT _) (pln_LT _) (Nat.le_trans (dep_LT _) (by omega)) (Nat.le_trans (dep_LT _) (by omega)) ?_))) (fun hb N' => ?_) fun hb => ?_
  · show Dt.LT _ = Dt.LT _ ↔ _
    rw [LT_iff]
    exact joined_iff hl hL hM
  · refine jb_one (js_ret je_non ?_)
    rw [hin] at hb
    unfold jp
    rw [if_neg]
    · rfl
    · intro z
      rw [Bool.and_eq_true] at z
      rw [z.1, show mrg L (heldB M) = M from beq_iff_eq.mp z.2] at hb
      simp at hb
  · have hy : jp L M = some (parts L (heldB M)) := by
      rw [hin] at hb
      unfold jp
      rw [if_pos]
      rw [Bool.or_eq_false_iff] at hb
      rw [Bool.and_eq_true]
      exact ⟨by simpa using hb.1, by simpa using hb.2⟩
    have hconsD : Dt.TT (cellsOf L) = .tup (.T (cell L 0) :: (cellsOf L).tail.map Dt.T) := by
      conv => lhs; rw [hcons]
      rfl
    refine jb_one (js_ret (je_is (je_lcF 4 (cellsOf L).tail Dt.T (fun c => ne0 (c.filter (heldB M))) (fun c => .T (c.filter (heldB M))) (ji_seq (je_tailT (x := .T (cell L 0)) (l0 := (cellsOf L).tail.map Dt.T) (je_is (je_cells F (je_var 0)) hconsD)) (.inl rfl)) (fun c hc => jt_is (jt_val (je_call cT (ja_cons (je_var 4) (ja_cons (je_var 2) ja_nil)) ⟨c, cell M 0, rfl, by have := (cell_asc hL h12 (htl c hc)).len; omega, rfl⟩)) ?_) (fun c hc _ => je_is (je_call cC (ja_cons (je_var 4) (ja_cons (je_var 2) ja_nil)) ⟨c, cell M 0, rfl, (cell_asc hL h12 (htl c hc)).le, by have := (cell_asc hL h12 (htl c hc)).len; omega, rfl⟩) ?_) ?_) ?_) rfl)
    · rw [List.filter_congr fun w hw => cc c (htl c hc) w hw]
    · rw [List.filter_congr fun w hw => cc c (htl c hc) w hw]
    · rw [List.length_tail]
      omega
    · rw [hy]
      show Dt.lst _ = Dt.lst _
      unfold parts
      rw [← parts_filter, List.map_map]
      rfl
theorem sc_few : FnScope ["rank", "goal", "parts"] ["rank", "goal"] (defScope (top 43)) := ⟨rfl, rfl, rfl, by decide +kernel, rfl, by decide +kernel, by decide +kernel⟩
def RFew (ds : List Dt) (d : Dt) : Prop := ∃ L M : List Nat, ds = [.rk L, .rk M] ∧ Two L M ∧ d = oN (lrow L M)
theorem ok_few (Z : Bt G) (cJ : Callee G "joined_parts" 3 ["rank", "goal"] RJoin) (D : DefAt G "fewest_levels" "fewest_levels" (top 43)) : Callee G "fewest_levels" 4 ["rank", "goal"] RFew := by
  refine callee_of D sc_few (fun _ _ _ _ _ _ us hl => match us, hl with | [_, _], _ => rfl) (fun ds d ⟨_, _, e, _⟩ => by rw [e]; rfl) fun ds d ⟨L, M, e, hT, ed⟩ => ?_
  subst e ed
  show JB _ _ [.v (.rk L), .v (.rk M), .un] _ _ _ _
  refine jb_then (js_set 2 (je_call cJ (ja_cons (je_var 0) (ja_cons (je_var 1) ja_nil)) ⟨L, M, rfl, hT, rfl⟩)) ?_
  rw [lrow_jp]
  cases e : jp L M with
  | none => exact jb_one (js_ret (je_if (jt_isN (je_var 2)) (fun _ => je_non) fun h => by cases h) rfl)
  | some ps => exact jb_one (js_ret (je_if (jt_isN (je_var 2)) (fun h => by cases h) fun _ => je_is (je_len Z.len (je_var 2) (.inr rfl)) (by rw [List.length_map]; show _ = Dt.n (ps.map _).length; rw [List.length_map])) rfl)
theorem sc_lrow : FnScope ["rank", "goal", "parts", "part"] ["rank", "goal"] (defScope (top 44)) := ⟨rfl, rfl, rfl, by decide +kernel, rfl, by decide +kernel, by decide +kernel⟩
def RLrow (ds : List Dt) (d : Dt) : Prop := ∃ L M : List Nat, ds = [.rk L, .rk M] ∧ Two L M ∧ d = oTT (lrow L M)
theorem parts_asc {L M : List Nat} {ps : List (List Nat)} (hT : Two L M) (e : jp L M = some ps) {c : List Nat} (hc : c ∈ ps) : Asc c L.length := by
  unfold jp at e
  split at e
  · cases e
    have := (List.mem_filter.mp hc).1
    obtain ⟨c0, h0, rfl⟩ := List.mem_map.mp this
    exact (cell_asc hT.l hT.n12 (List.mem_of_mem_tail h0)).filter _
  · cases e
theorem parts_len {L M : List Nat} {ps : List (List Nat)} (hT : Two L M) (e : jp L M = some ps) : ps.length ≤ 12 := by
  unfold jp at e
  split at e
  · cases e
    have h1 := List.length_filter_le ne0 ((cellsOf L).tail.map fun c => c.filter (heldB M))
    rw [List.length_map, List.length_tail] at h1
    have := (cs_of hT.l hT.n12).clen
    unfold parts
    omega
  · cases e
theorem ok_lrow (Z : Bt G) (F : RkF G) (cJ : Callee G "joined_parts" 3 ["rank", "goal"] RJoin) (cR : Callee G "rest_of" 5 ["lot", "worlds"] RRest) (D : DefAt G "level_row" "level_row" (top 44)) : Callee G "level_row" 6 ["rank", "goal"] RLrow := by
  refine callee_of D sc_lrow (fun _ _ _ _ _ _ us hl => match us, hl with | [_, _], _ => rfl) (fun ds d ⟨_, _, e, _⟩ => by rw [e]; rfl) fun ds d ⟨L, M, e, hT, ed⟩ => ?_
  subst e ed
  show JB _ _ [.v (.rk L), .v (.rk M), .un, .un] _ _ _ _
  refine jb_then (js_set 2 (je_call cJ (ja_cons (je_var 0) (ja_cons (je_var 1) ja_nil)) ⟨L, M, rfl, hT, rfl⟩)) ?_
  rw [lrow_jp]
  cases e : jp L M with
  | none => exact jb_one (js_ret (je_if (jt_isN (je_var 2)) (fun _ => je_non) fun h => by cases h) rfl)
  | some ps =>
    have hlen := parts_len hT e
    exact jb_one (js_ret (je_if (jt_isN (je_var 2)) (fun h => by cases h) fun _ => je_is (je_tuple Z.tuple (je_lcM 3 ps Dt.T (fun c => .T (comp L.length c)) (ji_seq (je_var 2) (.inr rfl)) (fun c hc => je_call cR (ja_cons (je_var 3) (ja_cons (je_worlds F (je_var 0)) ja_nil)) ⟨c, L.length, rfl, parts_asc hT e hc, rfl⟩) (by omega)) (.inr rfl)) (by show _ = Dt.tup ((ps.map _).map Dt.T); rw [List.map_map]; rfl)) rfl)
theorem sc_one : FnScope ["rank", "goal", "x", "lot"] ["rank", "goal"] (defScope (top 45)) := ⟨rfl, rfl, rfl, by decide +kernel, rfl, by decide +kernel, by decide +kernel⟩
def ROne (ds : List Dt) (d : Dt) : Prop := ∃ L M : List Nat, ds = [.rk L, .rk M] ∧ Two L M ∧ d = oT (sinkLot L M)
theorem asc_one {n x : Nat} (h : x < n) (h12 : n ≤ 12) : Asc [x] n := ⟨List.pairwise_singleton _ _, fun y hy => by rw [List.mem_singleton.mp hy]; exact h, by omega, h12⟩
theorem comp_one_len {n x : Nat} (h : x < n) : (comp n [x]).length ≠ n := by
  intro z
  have h1 : (comp n [x] ++ [x]).Nodup := by
    rw [List.nodup_append]
    refine ⟨List.nodup_range.filter _, by simp, fun a ha b hb => ?_⟩
    rw [List.mem_singleton.mp hb]
    rintro rfl
    exact (mem_comp.mp ha).2 (by simp)
  have := nodup_le (ys := List.range n) h1 fun y hy => by
    rcases List.mem_append.mp hy with hy | hy
    · exact List.mem_range.mpr (mem_comp.mp hy).1
    · rw [List.mem_singleton.mp hy]; exact List.mem_range.mpr h
  rw [List.length_append, List.length_range, z] at this
  simp only [List.length_cons, List.length_nil] at this
  omega
theorem ok_one (Z : Bt G) (F : RkF G) (cE : EqR G) (cR : Callee G "rest_of" 5 ["lot", "worlds"] RRest) (cS : Callee G "sunk" 7 ["rank", "lot"] RSunk) (D : DefAt G "one_sink" "one_sink" (top 45)) : Callee G "one_sink" 8 ["rank", "goal"] ROne := by
  refine callee_of D sc_one (fun _ _ _ _ _ _ us hl => match us, hl with | [_, _], _ => rfl) (fun ds d ⟨_, _, e, _⟩ => by rw [e]; rfl) fun ds d ⟨L, M, e, ⟨hL, hM, hl, h12⟩, ed⟩ => ?_
  subst e ed
  show JB _ _ [.v (.rk L), .v (.rk M), .un, .un] _ _ _ _
  refine jb_skip (jt_is (jt_ne (je_worlds F (je_var 1)) (je_worlds F (je_var 0))) (by rw [hl]; simp)) ?_
  refine jb_ifret (jt_eqR F cE (je_var 0) (je_var 1) ⟨L, M, rfl, hl, rfl⟩) (fun hb N' => ?_) fun hb => ?_
  · refine jb_one (js_ret (je_tup ja_nil) ?_)
    unfold sinkLot
    rw [if_pos hb]
    rfl
  · have hsl : sinkLot L M = ((List.range L.length).find? fun x => turnS L (comp L.length [x]) == M).map fun x => comp L.length [x] := by
      unfold sinkLot
      rw [if_neg (by rw [hb]; simp)]
    rw [hsl]
    refine jb_cons (js_forN 2 (List.range L.length) Dt.n (ji_range Z.range (je_worlds F (je_var 0)) (by omega)) (fun k r => (∀ x, x < k → (turnS L (comp L.length [x]) == M) = false) ∧ ∃ s2 s3, r = [.v (.rk L), .v (.rk M), s2, s3]) ⟨fun x hx => by omega, .un, .un, rfl⟩ ?_ (N := fun r => (∀ x, x < L.length → (turnS L (comp L.length [x]) == M) = false) ∧ ∃ s2 s3, r = [.v (.rk L), .v (.rk M), s2, s3]) (fun r h => by rw [List.length_range] at h; exact h)) ?_
    · rintro k y r hk ⟨hbefore, s2, s3, rfl⟩
      obtain ⟨hi, hy⟩ := List.getElem?_eq_some_iff.mp hk
      rw [List.length_range] at hi
      have e : y = k := by rw [← hy, List.getElem_range]
      subst e
      show JB _ _ [.v (.rk L), .v (.rk M), .v (.n y), s3] _ _ _ _
      refine jb_then (js_set 3 (je_call cR (ja_cons (je_tup (ja_cons (je_var 2) ja_nil) (Nat.le_of_ble_eq_true rfl)) (ja_cons (je_worlds F (je_var 0)) ja_nil)) ⟨[y], L.length, rfl, asc_one hi h12, rfl⟩)) ?_
      have hA := Asc.comp hL.pos h12 [y]
      have hlen := (turnS_dn (lot := comp L.length [y]) hL).2
      refine jb_ifret (jt_eqR F cE (je_call cS (ja_cons (je_var 0) (ja_cons (je_var 3) ja_nil)) ⟨L, comp L.length [y], rfl, hL, hA, comp_one_len hi, rfl⟩) (je_var 1) ⟨_, M, rfl, by rw [hlen, hl], rfl⟩) (fun hb2 N' => ?_) fun hb2 => ?_
      · refine jb_one (js_ret (je_var 3) ?_)
        rw [find_first (p := fun x => turnS L (comp L.length [x]) == M) hi hb2 hbefore]
        rfl
      · refine jb_nil ⟨fun x hx => ?_, .v (.n y), .v (.T (comp L.length [y])), rfl⟩
        by_cases c : x = y
        · rw [c]; exact hb2
        · exact hbefore x (by omega)
    · rintro r ⟨hno, s2, s3, rfl⟩
      refine jb_one (js_ret je_non ?_)
      rw [List.find?_eq_none.mpr fun x hx => by rw [hno x (List.mem_range.mp hx)]; simp]
      rfl
theorem sc_fbs : FnScope ["rank"] ["rank"] (defScope (top 46)) := ⟨rfl, rfl, rfl, by decide +kernel, rfl, by decide +kernel, by decide +kernel⟩
def RFbs (ds : List Dt) (d : Dt) : Prop := ∃ L : List Nat, ds = [.rk L] ∧ Dn L ∧ L.length ≤ 12 ∧ d = oT (sinkLot L (flat L.length))
theorem ok_fbs (F : RkF G) (cf : FlatM G) (cO : Callee G "one_sink" 8 ["rank", "goal"] ROne) (D : DefAt G "flat_by_sink" "flat_by_sink" (top 46)) : Callee G "flat_by_sink" 9 ["rank"] RFbs := by
  refine callee_of D sc_fbs (fun _ _ _ _ _ _ us hl => match us, hl with | [_], _ => rfl) (fun ds d ⟨_, e, _⟩ => by rw [e]; rfl) fun ds d ⟨L, e, hL, h12, ed⟩ => ?_
  subst e ed
  show JB _ _ [.v (.rk L)] _ _ _ _
  exact jb_one (js_ret (je_call cO (ja_cons (je_var 0) (ja_cons (je_cmeth F cf (ja_cons (je_worlds F (je_var 0)) ja_nil) ⟨L.length, rfl, hL.pos, h12, rfl⟩) ja_nil)) ⟨L, flat L.length, rfl, ⟨hL, (flat_den hL.pos).dn, by simp [flat], h12⟩, rfl⟩) rfl)
end My

/-! # L0 -/
namespace My
open PySem L2
section
variable {S : SC} {ρ ρ' : List Sl} {d d' : Dt} {b b' : Bool} {ds l : List Dt} {e e1 e2 : Expr} {pos p : Pos} {es : List Expr} {N : List Sl → Prop} {R : Dt → Prop} {BK CT : List Sl → Prop}
theorem eqV_int (i j : Int) : eqV (.int i) (.int j) = decide (i = j) := by
  show (i == j) = _
  rw [Bool.eq_iff_iff]; simp
/-- e1.index(e2), ints -/
theorem je_index {U : List Int} {v : Int} {j : Nat} {apos cpos : Pos} (ha : JE S e1 ρ (.LI U)) (hb : JE S e2 ρ (.int v)) (hj : U[j]? = some v) (hno : ∀ m, m < j → U[m]? ≠ some v)
    (hs : ∀ env, starEach [e2] env = (false, eval e2 env) :: starEach [] env := by intro _; rfl) (hbase : ∀ env, attributeBase e1 "index" env (eval e1 env) = eval e1 env := by intro _; rfl) (hline : (apos.endLine == cpos.line) = true := by rfl) :
    JE S (.Call (.Attribute e1 ("index" : Str) apos) [e2] [] cpos) ρ (.n j) :=
  je_of (t := tBM S.K "list" (rIndex S.K) (wE S e1) (wA S [e2])) (fun X hc => by
      have := pe_bm (X := X) (cpos := cpos) (apos := apos) PySem.F.plainAttrs_list PySem.F.slot_list_index PySem.F.type_list_index mt_index (wE_ok (e := e1) hc) (wA_ok (es := [e2]) hc) (hbase _) (by rw [hs]; rfl) hline (hs _) rfl
      rw [hc.K] at this
      exact this) fun B σ H E Q k => ha B σ H E _ fun x B1 H1 g1 r1 => by
    cases r1 with
    | @lst a xs ds h1 h2 =>
      have e0 := h2.ints
      subst e0
      refine ⟨.inl ⟨rfl, _, SqL.of (g1.bh _ _ h1)⟩, ja1 hb hs B1 σ H1 (E.grow g1) _ fun vs B2 H2 g2 r2 => ?_⟩
      obtain ⟨y, rfl, ry⟩ := rp1 r2
      cases ry
      refine ⟨a, _, .int v, j, .int v, rfl, rfl, SqL.of (g2.h _ _ (g1.bh _ _ h1)), rfl, flat_ints U, by rw [List.getElem?_map, hj]; rfl, by rw [eqV_int]; simp, fun m z' hm hz => ?_, k _ B2 H2 (g1.trans g2) (.int _)⟩
      rw [List.getElem?_map] at hz
      cases em : U[m]? with
      | none => rw [em] at hz; cases hz
      | some z =>
        rw [em] at hz
        cases hz
        rw [eqV_int]
        simp only [decide_eq_false_iff_not]
        rintro rfl
        exact hno m hm em
/-! ### lists of lists -/
theorem un65 {k : Nat} {A : Around} (h : Room k A) : A.units + 65 < cLine := by have := h.un; omega
theorem toPyAll_get : ∀ (l : List Dt) (j : Nat), (toPyAll l)[j]? = (l[j]?).map toPy
  | [], j => by simp [toPyAll]
  | d :: ds, 0 => by simp [toPyAll]
  | d :: ds, j + 1 => by
    have := toPyAll_get ds j
    simpa [toPyAll] using this
theorem eqvL (x y : List Nat) : PyData.eqv (toPy (.L x)) (toPy (.L y)) = decide (x = y) := eqv_dec (pln_L _) (pln_L _) L_iff
theorem ed_in {C : Addr} {K : PySem.W.Frag} {neg : Bool} {r : R2} {t1 t2 : TE} {x : List Nat} {xss : List (List Nat)} (hr : ∀ u v H Q, (∃ d ds, Dp K H u d ∧ Dp K H v (.list ds) ∧ SeqAt.shaped d = true ∧ SeqAt.shaped (.list ds) = true ∧ Q (.bl (if neg then !(ds.any fun z => PyData.eqv z d) else ds.any fun z => PyData.eqv z d)) H) → r u v H Q)
    (ha : ED C t1 ρ (.L x)) (hb : ED C t2 ρ (.LL xss)) : ED C (tOp r t1 t2) ρ (.bl (if neg then !decide (x ∈ xss) else decide (x ∈ xss))) := fun B σ H E Q k => ha B σ H E _ fun u B1 H1 g1 r1 => hb B1 σ H1 (E.grow g1) _ fun v B2 H2 g2 r2 =>
  hr _ _ _ _ ⟨toPy (.L x), toPyAll (xss.map Dt.L), rp_dp g2.bh (r1.mono g2.b) (pln_L _), by have := rp_dp (K := K) g2.bh r2 (pln_LL _); simpa [toPy] using this, shaped_of (pln_L _) (Nat.le_trans (dep_L _) (by omega)), by have := shaped_of (pln_LL xss) (Nat.le_trans (dep_LL _) (by omega)); simpa [toPy] using this, by rw [memLL]; exact k _ B2 H2 (g1.trans g2) (.bl _)⟩
theorem je_inLL {x : List Nat} {xss : List (List Nat)} (ha : JE S e1 ρ (.L x)) (hb : JE S e2 ρ (.LL xss)) (hm : behindInMarks .In e2 = false := by rfl) : JE S (.Compare e1 [.In] [e2] pos) ρ (.bl (decide (x ∈ xss))) :=
  je_of (t := tOp (rInD S.K) (wE S e1) (wE S e2)) (fun X h => by
    have h0 := op_inD (X := X) (un65 h.room)
    rw [h.K] at h0
    exact pe_cmpR h0 (wE_ok h) (wE_ok h) hm) (ed_in (neg := false) (fun _ _ _ _ q => q) ha hb)
theorem jt_inLL {x : List Nat} {xss : List (List Nat)} (ha : JE S e1 ρ (.L x)) (hb : JE S e2 ρ (.LL xss)) (hm : behindInMarks .In e2 = false := by rfl) : JT S (.Compare e1 [.In] [e2] pos) ρ (decide (x ∈ xss)) :=
  jt_of (t := tTest (tOp (rInD S.K) (wE S e1) (wE S e2))) (fun X h => by
    have h0 := op_inD (X := X) (un65 h.room)
    rw [h.K] at h0
    exact pt_cmpR h0 (wE_ok h) (wE_ok h) hm) (td_test (ed_in (neg := false) (fun _ _ _ _ q => q) ha hb))
/-- .. not in one's own list of lists -/
theorem jt_ninLLO (i : Nat) {y : Str} {px : Pos} {x : List Nat} {xss : List (List Nat)} (hi : ρ[i]? = some (.o (xss.map Dt.L))) (ha : JE S e1 ρ (.L x)) (hN : S.N[i]? = some y := by rfl) (hv : Vis S.sc y := by first | exact Or.inl rfl | exact Or.inr (Or.inl rfl) | exact Or.inr (Or.inr rfl))
    (hd : (y == ("__debug__" : Str)) = false := by decide) (hcd : (y == ("__classdict__" : Str)) = false := by decide) : JT S (.Compare e1 [.NotIn] [.Name y px] pos) ρ (!decide (x ∈ xss)) :=
  jt_of (t := tTest (tOp (rNotInD S.K) (wE S e1) (tVar i))) (fun X h => by
    have h0 := op_notInD (X := X) (un65 h.room)
    rw [h.K] at h0
    exact pt_cmpR h0 (wE_ok h) (pe_var (i := i) (by rw [h.N]; exact hN) (by rw [h.sc]; exact hv) hd hcd) rfl) (td_test (b := !decide (x ∈ xss)) fun B σ H E Q k => ha B σ H E _ fun u B1 H1 g1 r1 => by
    obtain ⟨q, xs, f1, f2, f3, f4⟩ := E.sl i _ hi
    have hB1 : B1 q = none := g1.fr q (by rw [f3]; intro z; cases z) f2
    have hH1 := g1.h _ _ f3
    have sB : Same B1 (upd B1 q (.lst xs)) := same_new hB1
    have bh2 : Same (upd B1 q (.lst xs)) H1 := fun a o h => by
      by_cases ha : a = q
      · subst ha; rw [upd_same] at h; rw [hH1]; exact h
      · rw [upd_ne ha] at h; exact g1.bh a o h
    have rl : Rp S.C (upd B1 q (.lst xs)) (.ref q) (.LL xss) := .lst upd_same ((f4.mono g1.b).mono sB)
    refine ⟨.ref q, f1, toPy (.L x), toPyAll (xss.map Dt.L), rp_dp g1.bh r1 (pln_L _), by have := rp_dp (K := S.K) bh2 rl (pln_LL _); simpa [toPy] using this, shaped_of (pln_L _) (Nat.le_trans (dep_L _) (by omega)), by have := shaped_of (pln_LL xss) (Nat.le_trans (dep_LL _) (by omega)); simpa [toPy] using this, ?_⟩
    rw [memLL]
    exact k _ B1 H1 g1 (.bl _))
/-- e1.index(e2), lists of ints -/
theorem je_indexLL {x : List Nat} {xss : List (List Nat)} {j : Nat} {apos cpos : Pos} (ha : JE S e1 ρ (.LL xss)) (hb : JE S e2 ρ (.L x)) (hj : xss[j]? = some x) (hno : ∀ m, m < j → xss[m]? ≠ some x)
    (hs : ∀ env, starEach [e2] env = (false, eval e2 env) :: starEach [] env := by intro _; rfl) (hbase : ∀ env, attributeBase e1 "index" env (eval e1 env) = eval e1 env := by intro _; rfl) (hline : (apos.endLine == cpos.line) = true := by rfl) :
    JE S (.Call (.Attribute e1 ("index" : Str) apos) [e2] [] cpos) ρ (.n j) :=
  je_of (t := tBM S.K "list" (rIndexD S.K) (wE S e1) (wA S [e2])) (fun X hc => by
      have := pe_bm (X := X) (cpos := cpos) (apos := apos) PySem.F.plainAttrs_list PySem.F.slot_list_index PySem.F.type_list_index (mt_indexD (un65 hc.room)) (wE_ok (e := e1) hc) (wA_ok (es := [e2]) hc) (hbase _) (by rw [hs]; rfl) hline (hs _) rfl
      rw [hc.K] at this
      exact this) fun B σ H E Q k => ha B σ H E _ fun u B1 H1 g1 r1 => by
    have r1' := r1
    cases r1 with
    | @lst a xs ds h1 h2 =>
      refine ⟨.inl ⟨rfl, _, SqL.of (g1.bh _ _ h1)⟩, ja1 hb hs B1 σ H1 (E.grow g1) _ fun vs B2 H2 g2 r2 => ?_⟩
      obtain ⟨y, rfl, ry⟩ := rp1 r2
      refine ⟨a, y, toPy (.L x), toPyAll (xss.map Dt.L), j, toPy (.L x), rfl, rfl, by have := rp_dp (K := S.K) g2.bh (r1'.mono g2.b) (pln_LL _); simpa [toPy] using this, rp_dp g2.bh ry (pln_L _), by have := shaped_of (pln_LL xss) (Nat.le_trans (dep_LL _) (by omega)); simpa [toPy] using this, shaped_of (pln_L _) (Nat.le_trans (dep_L _) (by omega)), ?_, by rw [eqvL]; simp, fun m z' hm hz => ?_, k _ B2 H2 (g1.trans g2) (.int _)⟩
      · rw [toPyAll_get, List.getElem?_map, hj]
        rfl
      · rw [toPyAll_get, List.getElem?_map] at hz
        cases em : xss[m]? with
        | none => rw [em] at hz; cases hz
        | some z =>
          rw [em] at hz
          cases hz
          rw [eqvL]
          simp only [decide_eq_false_iff_not]
          rintro rfl
          exact hno m hm em
end
end My

/-! # Srt1 -/
/-! sorted(a list of tuples of one length) -/
namespace TS
open PySem PyProof.Rows
/-- sorted(l), l a list of one item: nothing is compared -/
theorem sorted_lone {pr : Program} {wd : World} {Ar : Around} {Ex Go : Value → Shared → Prop} {st : Shared} {l : Addr} {one : Value} (isL : st.heap.IsList l #[one]) (go : ∀ out : Array Value, out.toList.Perm [one] → Go (.ref (st.heap.objs.size + 1)) { st with heap := sortedAll st.heap [one] out }) :
    wpAny (model pr wd) Ar (call (.builtin "sorted") [.ref l]) Go Ex st := by
  have fits : ([one] : List Value).length ≤ sizeLine := by rw [sizeLine_eq]; exact Nat.le_of_ble_eq_true rfl
  have count : ((st.heap.push (seqObj "list" #[] 0)).update st.heap.objs.size (Obj.mapSeq (· ++ [one].toArray))).objs.size = st.heap.objs.size + 1 := (Heap.size_update ..).trans (size_push' ..)
  have copyAt : (((st.heap.push (seqObj "list" #[] 0)).update st.heap.objs.size (Obj.mapSeq (· ++ [one].toArray))).push (seqObj "list" [one].toArray 0)).get? (st.heap.objs.size + 1) = some (seqObj "list" [one].toArray 0) := count ▸ Heap.get?_push_size _ rfl
  refine Calls.call_function_entry kind_sorted plain_sorted entry_sorted (args_sorted1 (.ref l)) ?_
  unfold Builtin.«sorted»
  refine wpAny_bind (m := checkCount "sorted" 1 1 _) (wpAny_pure (wpAny_bind (collect_list isL (wpAny_bind (wpAny_newList (?_ : wpAny _ _ _ _ _ { st with heap := ((st.heap.push (seqObj "list" #[] 0)).update st.heap.objs.size (Obj.mapSeq (· ++ [one].toArray))).push (seqObj "list" [one].toArray 0) }) fits)) fits)))
  rw [count]
  refine wpAny_bind (wpAny_holding (wpAny_call_entry slot_list_sort ⟨_, copyAt, rfl⟩ entry_list_sort (SK.plain_sort (r := fun _ => 0) (vs := [one]) copyAt (Nat.le_of_ble_eq_true rfl) (fun two _ _ => absurd two (by simp)) fun ps out e1 e2 e3 => ?_) (args_list_sort _)))
  exact ⟨_, rfl, wpAny_pure ⟨_, rfl, go out (out_rank (r := fun _ => 0) e1 e2 e3).1⟩⟩
end TS
namespace L2
open PySem PySem.Spec PyProof.Rows
section
variable {X : Cx}
def rSort1 (K : PySem.W.Frag) : List V → Hp → VK → Prop := fun vs H Q => ∃ (a t : Addr), vs = [V.ref a] ∧ SqL K H a [V.ref t] ∧ ∀ p : Addr, H p = none → Q (.ref p) (upd H p (.lst [V.ref t]))
theorem cr_sort1 : CallR X (.builtin "sorted") (rSort1 X.K) := fun pins st σ H args us Go Iv rel ⟨a, t, ea, isL, go⟩ => by
  subst ea
  obtain ⟨its, items, lst, _⟩ := Iv.list isL
  rw [Vals.ref1 rel]
  obtain ⟨u, e, ru⟩ := vals1 items
  cases ru
  subst e
  refine TS.sorted_lone (one := .ref t) lst.isList fun out o1 => ?_
  obtain rfl : out = #[Value.ref t] := Array.toList_inj.mp (List.perm_singleton.mp o1)
  obtain ⟨ep, at_⟩ := PyProof.Rows.sortedAll_at st.heap [Value.ref t] #[Value.ref t]
  exact ⟨.ref _, upd H (st.heap.objs.size + 1) (.lst [V.ref t]), Iv.laid (t' := st.toks) (fun _ _ => PyProof.Rows.sortedAll_old) (Nat.le_succ _) ⟨by rw [sizeLine_eq]; exact Nat.le_of_ble_eq_true rfl, [Value.ref t], ep, .cons (show RelV (.ref t) (.ref t) from rfl) .nil, at_⟩, rfl, go _ (Iv.hok.fresh (Nat.le_succ _))⟩
end
end L2
namespace My
open PySem L2
theorem RpAll.perm {C : Addr} {B : Hp} {vs us : List V} (h : us.Perm vs) : ∀ {ds : List Dt}, RpAll C B vs ds → ∃ es, es.Perm ds ∧ RpAll C B us es := by
  induction h with
  | nil => intro ds r; exact ⟨ds, List.Perm.refl _, r⟩
  | cons x _ ih =>
    intro ds r
    cases r with
    | cons a t =>
      obtain ⟨es, p, q⟩ := ih t
      exact ⟨_ :: es, p.cons _, .cons a q⟩
  | swap x y l =>
    intro ds r
    cases r with
    | cons a t =>
      cases t with
      | cons b t =>
        exact ⟨_ :: _ :: _, List.Perm.swap _ _ _, .cons b (.cons a t)⟩
  | trans _ _ ih1 ih2 =>
    intro ds r
    obtain ⟨es, p, q⟩ := ih2 r
    obtain ⟨fs, p2, q2⟩ := ih1 q
    exact ⟨fs, p2.trans p, q2⟩
abbrev castL (xs : List Nat) : List Int := xs.map fun (k : Nat) => (k : Int)
/-- a permutation in order is THE one in order -/
theorem code_uniq {f : List Nat → Int} : ∀ {xs ys : List (List Nat)}, xs.Perm ys → xs.Pairwise (fun x y => f x ≤ f y) → ys.Pairwise (fun x y => f x < f y) → xs = ys
  | [], ys, p, _, _ => (List.nil_perm.mp p).symm
  | x :: xs, [], p, _, _ => by have := p.length_eq; simp at this
  | x :: xs, y :: ys, p, hx, hy => by
    obtain ⟨x1, x2⟩ := List.pairwise_cons.mp hx
    obtain ⟨y1, y2⟩ := List.pairwise_cons.mp hy
    have e : x = y := by
      have a : x ∈ y :: ys := p.mem_iff.mp List.mem_cons_self
      rcases List.mem_cons.mp a with a | a
      · exact a
      · have b : y ∈ x :: xs := p.mem_iff.mpr List.mem_cons_self
        rcases List.mem_cons.mp b with b | b
        · exact b.symm
        · have := x1 y b
          have := y1 x a
          omega
    subst e
    rw [code_uniq ((List.perm_cons _).mp p) x2 y2]
section
variable {S : SC} {ρ : List Sl} {e : Expr} {pos p : Pos}
theorem je_sortTT {xs ys : List (List Nat)} {dl Bd : Nat} (hm : S.mg "sorted" = none) (ha : JE S e ρ (.LT xs)) (hd : 1 ≤ dl) (hl : ∀ x ∈ xs, x.length = dl) (hb : ∀ x ∈ xs, ∀ k ∈ x, k < Bd) (h64 : xs.length < 64) (hp : ys.Perm xs) (ho : ys.Pairwise fun x y => TS.code (Bd : Int) (castL x) < TS.code (Bd : Int) (castL y))
    (hg : S.sc.names.lookup ("sorted" : Str) = some .globalImplicit := by rfl) (hs : ∀ env, starEach [e] env = (false, eval e env) :: starEach [] env := by intro _; rfl) : JE S (.Call (.Name "sorted" p) [e] [] pos) ρ (.LT ys) :=
  je_callB (r := rSortU S.K dl (Bd : Int)) (fun X h => by have := cr_sortT (X := X) (d := dl) (B := (Bd : Int)) hd; rw [h.K] at this; exact this) hg hm (by decide +kernel) (ja1 ha hs) (fun B H vs Q bh r k => by
    obtain ⟨v, rfl, rv⟩ := rp1 r
    cases rv with
    | @lst a us ds h1 h2 =>
      have key : ∀ {vs : List V} {zs : List (List Nat)}, RpAll S.C B vs (zs.map Dt.T) → ∀ (i : Nat) (x : V), vs[i]? = some x → ∃ z, zs[i]? = some z ∧ TupI S.K H x (castL z) := fun {vs zs} hh i x hx => by
        obtain ⟨d, e1, e2⟩ := hh.getV hx
        rw [List.getElem?_map] at e1
        cases ez : zs[i]? with
        | none => rw [ez] at e1; cases e1
        | some z =>
          rw [ez] at e1
          cases e1
          cases e2 with
          | @tup b ws _ g1 g2 =>
            exact ⟨z, rfl, b, rfl, SqT.of (bh _ _ (by rw [g1, g2.nats]))⟩
      refine ⟨a, us, rfl, SqL.of (bh _ _ h1), by rw [h2.length, List.length_map]; exact h64, fun x hx => ?_, fun os q hperm hord hq => ?_⟩
      · obtain ⟨i, hi, ei⟩ := List.getElem_of_mem hx
        obtain ⟨z, hz, ht⟩ := key h2 i x (by rw [List.getElem?_eq_getElem hi, ei])
        have hz' := List.mem_of_getElem? hz
        refine ⟨castL z, ht, by rw [List.length_map]; exact hl z hz', fun m hmm => ?_⟩
        obtain ⟨k, hk, rfl⟩ := List.mem_map.mp hmm
        have := hb z hz' k hk
        omega
      · obtain ⟨es, p1, p2⟩ := h2.perm hperm
        have hes : ∃ zs : List (List Nat), es = zs.map Dt.T ∧ zs.Perm xs := by
          have : ∀ {es ds : List Dt}, es.Perm ds → ∀ xs : List (List Nat), ds = xs.map Dt.T → ∃ zs : List (List Nat), es = zs.map Dt.T ∧ zs.Perm xs := by
            intro es ds hp
            induction hp with
            | nil => intro xs e; exact ⟨xs, e, List.Perm.refl _⟩
            | cons d _ ih =>
              intro xs e
              cases xs with
              | nil => cases e
              | cons x xs =>
                cases e
                obtain ⟨zs, a, b⟩ := ih xs rfl
                exact ⟨x :: zs, by rw [a]; rfl, b.cons _⟩
            | swap d1 d2 l =>
              intro xs e
              match xs, e with
              | [], e => cases e
              | [_], e => cases e
              | x :: y :: xs, e =>
                cases e
                exact ⟨y :: x :: xs, rfl, List.Perm.swap _ _ _⟩
            | trans _ _ ih1 ih2 =>
              intro xs e
              obtain ⟨zs, a, b⟩ := ih2 xs e
              obtain ⟨ws, a2, b2⟩ := ih1 zs a
              exact ⟨ws, a2, b2.trans b⟩
          exact this p1 xs rfl
        obtain ⟨zs, rfl, pz⟩ := hes
        have ez : zs = ys := by
          refine code_uniq (f := fun x => TS.code (Bd : Int) (castL x)) (pz.trans hp.symm) ?_ ho
          rw [List.pairwise_iff_getElem]
          intro i j hi hj hij
          have hlo : os.length = zs.length := by rw [p2.length, List.length_map]
          have := List.pairwise_iff_getElem.mp hord i j (by omega) (by omega) hij
          obtain ⟨z1, e1, t1⟩ := key p2 i os[i] (by rw [List.getElem?_eq_getElem (by omega)])
          obtain ⟨z2, e2, t2⟩ := key p2 j os[j] (by rw [List.getElem?_eq_getElem (by omega)])
          rw [List.getElem?_eq_getElem hi] at e1
          rw [List.getElem?_eq_getElem hj] at e2
          cases e1
          cases e2
          exact this _ _ t1 t2
        subst ez
        have g := Gr.new (o := .lst os) bh hq
        exact k _ _ _ g (.lst upd_same (p2.mono g.b))) (by decide) (by decide) hs (fun _ => rfl)
theorem je_sortT1 {x : List Nat} (hm : S.mg "sorted" = none) (ha : JE S e ρ (.LT [x]))
    (hg : S.sc.names.lookup ("sorted" : Str) = some .globalImplicit := by rfl) (hs : ∀ env, starEach [e] env = (false, eval e env) :: starEach [] env := by intro _; rfl) : JE S (.Call (.Name "sorted" p) [e] [] pos) ρ (.LT [x]) :=
  je_callB (r := rSort1 S.K) (fun X h => by have := cr_sort1 (X := X); rw [h.K] at this; exact this) hg hm (by decide +kernel) (ja1 ha hs) (fun B H vs Q bh r k => by
    obtain ⟨v, rfl, rv⟩ := rp1 r
    cases rv with
    | @lst a us ds h1 h2 =>
      obtain ⟨w, rfl, rw1⟩ := rp1 h2
      obtain ⟨t, rfl⟩ : ∃ t, w = .ref t := by
        cases rw1 with
        | tup _ _ => exact ⟨_, rfl⟩
      refine ⟨a, t, rfl, SqL.of (bh _ _ h1), fun q hq => ?_⟩
      have g := Gr.new (o := .lst [V.ref t]) bh hq
      exact k _ _ _ g (.lst upd_same (.cons (rw1.mono g.b) .nil))) (by decide) (by decide) hs (fun _ => rfl)
end
end My

/-! # L1 -/
namespace My
open PySem L2
variable {G : Gx}
theorem sc_lint : FnScope ["_law_value"] ["_law_value"] (defScope (top 50)) := ⟨rfl, rfl, rfl, by decide +kernel, rfl, by decide +kernel, by decide +kernel⟩
theorem ok_lint (Z : Bt G) (D : DefAt G "_law_int" "_law_int" (top 50)) : Callee G "_law_int" 1 ["_law_value"] RWhole := by
  refine callee_of D sc_lint (fun _ _ _ _ _ _ us hl => match us, hl with | [_], _ => rfl) (fun ds d ⟨_, e, _⟩ => by rw [e]; rfl) fun ds d ⟨i, e, ed⟩ => ?_
  subst e ed
  show JB _ _ [.v (.int i)] _ _ _ _
  exact jb_one (js_ret (je_and (je_isi (Tn := "int") (b := true) Z.isi Z.int (je_var 0) rfl (by rfl) (by decide +kernel)) fun _ => je_one (je_not (je_isi (Tn := "bool") (b := false) Z.isi Z.bool (je_var 0) rfl (by rfl) (by decide +kernel)))) rfl)
theorem sc_lkind : FnScope ["_law_value", "_law_worlds", "_law_last", "_law_world"] ["_law_value", "_law_worlds"] (defScope (top 51)) := ⟨rfl, rfl, rfl, by decide +kernel, rfl, by decide +kernel, by decide +kernel⟩
def RKind (ds : List Dt) (d : Dt) : Prop := ∃ (xs : List Nat) (n : Nat), ds = [.T xs, .n n] ∧ Asc xs n ∧ d = .bl true
theorem ok_lkind (Z : Bt G) (cI : Callee G "_law_int" 1 ["_law_value"] RWhole) (D : DefAt G "_law_lot_kind" "_law_lot_kind" (top 51)) : Callee G "_law_lot_kind" 2 ["_law_value", "_law_worlds"] RKind := by
  refine callee_of D sc_lkind (fun _ _ _ _ _ _ us hl => match us, hl with | [_, _], _ => rfl) (fun ds d ⟨_, _, e, _⟩ => by rw [e]; rfl) fun ds d ⟨xs, n, e, hA, ed⟩ => ?_
  subst e ed
  show JB _ _ [.v (.T xs), .v (.n n), .un, .un] _ _ _ _
  refine jb_skip (jt_is (jt_not (jt_val (je_isi (Tn := "tuple") (b := true) Z.isi Z.tuple (je_var 0) rfl (by rfl) (by decide +kernel)))) rfl) ?_
  refine jb_then (js_set 2 (je_neg je_int)) ?_
  refine jb_cons (js_forN 3 xs Dt.n (ji_seq (je_var 0) (.inl rfl)) (fun k r => ∃ (v : Int) (s3 : Sl), (∀ y ∈ xs.drop k, v < (y : Int)) ∧ r = [.v (.T xs), .v (.n n), .v (.int v), s3]) ⟨-1, .un, fun y _ => by omega, rfl⟩ ?_ (N := fun r => ∃ (v : Int) (s3 : Sl), r = [.v (.T xs), .v (.n n), .v (.int v), s3]) (fun r ⟨v, s3, _, e⟩ => ⟨v, s3, e⟩)) ?_
  · rintro k y r hk ⟨v, s3, hv, rfl⟩
    show JB _ _ [.v (.T xs), .v (.n n), .v (.int v), .v (.n y)] _ _ _ _
    obtain ⟨hk1, hk2⟩ := List.getElem?_eq_some_iff.mp hk
    have hd : xs.drop k = y :: xs.drop (k + 1) := by rw [List.drop_eq_getElem_cons hk1, hk2]
    have hvy := hv y (by rw [hd]; simp)
    have hyn := hA.lt y (List.mem_of_getElem? hk)
    refine jb_skip (jt_is (jt_w (jw_or (jt_not (jt_val (je_call cI (ja_cons (je_var 3) ja_nil) ⟨_, rfl, rfl⟩))) fun _ => jw_or (jt_le (je_var 3) (je_var 2)) fun _ => jw_or1 (jt_ge (je_var 3) (je_var 1)))) ?_) ?_
    · simp
      omega
    · refine jb_one (SD.imp (js_set 2 (je_var 3)) (fun z e => ⟨y, .v (.n y), fun w hw => ?_, e⟩) fun _ h => h)
      have hup := hA.up.drop (i := k)
      rw [hd] at hup
      have := (List.pairwise_cons.mp hup).1 w hw
      omega
  · rintro r ⟨v, s3, rfl⟩
    exact jb_one (js_ret je_bl rfl)
theorem sc_lrest : FnScope ["_law_lot_here", "_law_worlds", "_law_world"] ["_law_lot_here", "_law_worlds"] (defScope (top 54)) := ⟨rfl, rfl, rfl, by decide +kernel, rfl, by decide +kernel, by decide +kernel⟩
def RLRest (ds : List Dt) (d : Dt) : Prop := ∃ (xs : List Nat) (n : Nat), ds = [.T xs, .n n] ∧ n ≤ 12 ∧ d = .T (comp n xs)
theorem ok_lrest (Z : Bt G) (D : DefAt G "_law_rest" "_law_rest" (top 54)) : Callee G "_law_rest" 1 ["_law_lot_here", "_law_worlds"] RLRest := by
  refine callee_of D sc_lrest (fun _ _ _ _ _ _ us hl => match us, hl with | [_, _], _ => rfl) (fun ds d ⟨_, _, e, _⟩ => by rw [e]; rfl) fun ds d ⟨xs, n, e, h12, ed⟩ => ?_
  subst e ed
  show JB _ _ [.v (.T xs), .v (.n n), .un] _ _ _ _
  refine jb_one (js_ret (je_is (je_tuple Z.tuple (je_lcF 2 (List.range n) Dt.n (fun x => !decide (x ∈ xs)) Dt.n (ji_range Z.range (je_var 1) (by omega)) (fun x _ => jt_nin (je_var 2) (je_var 0) (.inl rfl)) (fun x _ _ => je_var 2) (by rw [List.length_range]; omega)) (.inr rfl)) ?_) rfl)
  exact congrArg Dt.tup (filt_congr fun x => by simp)
theorem sc_lcommon : FnScope ["_law_one", "_law_other", "_law_world"] ["_law_one", "_law_other"] (defScope (top 55)) := ⟨rfl, rfl, rfl, by decide +kernel, rfl, by decide +kernel, by decide +kernel⟩
def RLCommon (ds : List Dt) (d : Dt) : Prop := ∃ (xs ys : List Nat), ds = [.T xs, .T ys] ∧ xs.length ≤ 100 ∧ d = .T (xs.filter fun w => ys.contains w)
theorem ok_lcommon (Z : Bt G) (D : DefAt G "_law_common" "_law_common" (top 55)) : Callee G "_law_common" 1 ["_law_one", "_law_other"] RLCommon := by
  refine callee_of D sc_lcommon (fun _ _ _ _ _ _ us hl => match us, hl with | [_, _], _ => rfl) (fun ds d ⟨_, _, e, _⟩ => by rw [e]; rfl) fun ds d ⟨xs, ys, e, hl, ed⟩ => ?_
  subst e ed
  show JB _ _ [.v (.T xs), .v (.T ys), .un] _ _ _ _
  refine jb_one (js_ret (je_is (je_tuple Z.tuple (je_lcF 2 xs Dt.n (fun x => decide (x ∈ ys)) Dt.n (ji_seq (je_var 0) (.inl rfl)) (fun x _ => jt_in (je_var 2) (je_var 1) (.inl rfl)) (fun x _ _ => je_var 2) (by omega)) (.inr rfl)) ?_) rfl)
  exact congrArg Dt.tup (filt_congr fun x => by simp)
theorem sc_lplus : FnScope ["_law_one", "_law_other", "_law_world"] ["_law_one", "_law_other"] (defScope (top 56)) := ⟨rfl, rfl, rfl, by decide +kernel, rfl, by decide +kernel, by decide +kernel⟩
def RPlus (ds : List Dt) (d : Dt) : Prop := ∃ (n : Nat) (p q : Nat → Bool), ds = [.T (sel n p), .T (sel n q)] ∧ n ≤ 12 ∧ d = .T (sel n fun w => p w || q w)
theorem sel_len (n : Nat) (p : Nat → Bool) : (sel n p).length ≤ n := by
  have := List.length_filter_le p (List.range n)
  rw [List.length_range] at this
  exact this
theorem plus_perm (n : Nat) (p q : Nat → Bool) : (sel n fun w => p w || q w).Perm (sel n p ++ (sel n q).filter fun w => !decide (w ∈ sel n p)) := by
  have e := List.filter_append_perm p (sel n fun w => p w || q w)
  have e1 : (sel n fun w => p w || q w).filter p = sel n p := by
    unfold sel
    rw [List.filter_filter]
    refine List.filter_congr fun w _ => ?_
    cases p w <;> simp
  have e2 : ((sel n fun w => p w || q w).filter fun w => !p w) = (sel n q).filter fun w => !decide (w ∈ sel n p) := by
    unfold sel
    rw [List.filter_filter, List.filter_filter]
    refine List.filter_congr fun w hw => ?_
    have hw := List.mem_range.mp hw
    have : decide (w ∈ (List.range n).filter p) = p w := by
      rw [Bool.eq_iff_iff, decide_eq_true_iff, List.mem_filter, List.mem_range]
      simp [hw]
    rw [this]
    cases p w <;> simp
  rw [e1, e2] at e
  exact e.symm
theorem ok_lplus (Z : Bt G) (D : DefAt G "_law_plus" "_law_plus" (top 56)) : Callee G "_law_plus" 1 ["_law_one", "_law_other"] RPlus := by
  refine callee_of D sc_lplus (fun _ _ _ _ _ _ us hl => match us, hl with | [_, _], _ => rfl) (fun ds d ⟨_, _, _, e, _⟩ => by rw [e]; rfl) fun ds d ⟨n, p, q, e, h12, ed⟩ => ?_
  subst e ed
  have l1 := sel_len n p
  have l2 := sel_len n q
  show JB _ _ [.v (.T (sel n p)), .v (.T (sel n q)), .un] _ _ _ _
  refine jb_one (js_ret (je_tuple Z.tuple (je_sortedN (xs := sel n p ++ (sel n q).filter fun w => !decide (w ∈ sel n p)) (ys := sel n fun w => p w || q w) Z.sorted (je_is (je_catL (je_list Z.list (je_var 0) (.inl rfl)) (je_lcF 2 (sel n q) Dt.n (fun x => !decide (x ∈ sel n p)) Dt.n (ji_seq (je_var 1) (.inl rfl)) (fun x _ => jt_nin (je_var 2) (je_var 0) (.inl rfl)) (fun x _ _ => je_var 2) (by omega)) ?_) (congrArg Dt.lst (by rw [List.map_append]))) (plus_perm n p q) ((List.pairwise_lt_range.filter _).imp fun h => Nat.le_of_lt h)) (.inr rfl)) rfl)
  have := List.length_filter_le (fun w => !decide (w ∈ sel n p)) (sel n q)
  rw [List.length_map, List.length_map]
  omega
theorem sc_linside : FnScope ["_law_one", "_law_other", "_law_world"] ["_law_one", "_law_other"] (defScope (top 57)) := ⟨rfl, rfl, rfl, by decide +kernel, rfl, by decide +kernel, by decide +kernel⟩
def RLIn (ds : List Dt) (d : Dt) : Prop := ∃ (xs ys : List Nat), ds = [.T xs, .T ys] ∧ xs.length ≤ 100 ∧ d = .bl (xs.all fun w => ys.contains w)
theorem ok_linside (Z : Bt G) (D : DefAt G "_law_inside" "_law_inside" (top 57)) : Callee G "_law_inside" 1 ["_law_one", "_law_other"] RLIn := by
  refine callee_of D sc_linside (fun _ _ _ _ _ _ us hl => match us, hl with | [_, _], _ => rfl) (fun ds d ⟨_, _, e, _⟩ => by rw [e]; rfl) fun ds d ⟨xs, ys, e, hl, ed⟩ => ?_
  subst e ed
  show JB _ _ [.v (.T xs), .v (.T ys), .un] _ _ _ _
  refine jb_one (js_ret (je_is (je_eq (je_len Z.len (je_lcF 2 xs Dt.n (fun x => !decide (x ∈ ys)) Dt.n (ji_seq (je_var 0) (.inl rfl)) (fun x _ => jt_nin (je_var 2) (je_var 1) (.inl rfl)) (fun x _ _ => je_var 2) (by omega)) (.inr rfl)) je_int) ?_) rfl)
  congr 1
  rw [Bool.eq_iff_iff, decide_eq_true_iff, List.length_map, List.all_eq_true]
  constructor
  · intro h w hw
    have h0 : (xs.filter fun x => !decide (x ∈ ys)).length = 0 := by omega
    have h1 := List.filter_eq_nil_iff.mp (List.length_eq_zero_iff.mp h0) w hw
    simpa using h1
  · intro h
    have : (xs.filter fun x => !decide (x ∈ ys)) = [] := List.filter_eq_nil_iff.mpr fun w hw => by
      have := h w hw
      simpa using this
    rw [this]
    rfl
theorem sc_lheld : FnScope ["_law_levels", "_law_world"] ["_law_levels"] (defScope (top 62)) := ⟨rfl, rfl, rfl, by decide +kernel, rfl, by decide +kernel, by decide +kernel⟩
def RLHeld (ds : List Dt) (d : Dt) : Prop := ∃ L : List Nat, ds = [.L L] ∧ L.length ≤ 12 ∧ d = .T (sel L.length (heldB L))
theorem ok_lheld (Z : Bt G) (D : DefAt G "_law_held" "_law_held" (top 62)) : Callee G "_law_held" 1 ["_law_levels"] RLHeld := by
  refine callee_of D sc_lheld (fun _ _ _ _ _ _ us hl => match us, hl with | [_], _ => rfl) (fun ds d ⟨_, e, _⟩ => by rw [e]; rfl) fun ds d ⟨L, e, h12, ed⟩ => ?_
  subst e ed
  show JB _ _ [.v (.L L), .un] _ _ _ _
  refine jb_one (js_ret (je_is (je_tuple Z.tuple (je_lcF 1 (List.range L.length) Dt.n (heldB L) Dt.n (ji_range Z.range (je_is (je_len Z.len (je_var 0) (.inr rfl)) (by rw [List.length_map])) (by omega)) (fun x hx => jt_is (jt_eq (je_ix (je_var 0) (.inr rfl) (je_var 1) (lev_get (List.mem_range.mp hx))) je_int) ?_) (fun x _ _ => je_var 1) (by rw [List.length_range]; omega)) (.inr rfl)) rfl) rfl)
  unfold heldB
  rw [Bool.eq_iff_iff, decide_eq_true_iff, beq_iff_eq]
  omega
theorem sc_lcells : FnScope ["_law_levels", "_law_cells_here", "_law_level", "_law_world"] ["_law_levels"] (defScope (top 60)) := ⟨rfl, rfl, rfl, by decide +kernel, rfl, by decide +kernel, by decide +kernel⟩
def RLCells (ds : List Dt) (d : Dt) : Prop := ∃ L : List Nat, ds = [.L L] ∧ Dn L ∧ L.length ≤ 12 ∧ d = .TT (cellsOf L)
theorem max_of {L : List Nat} (h : Dn L) : IsMax (ncells L - 1) L := by
  have hp := h.npos
  exact ⟨(mem_ncells h).mpr (by omega), fun y hy => by have := lt_ncells hy; omega⟩
theorem ok_lcells (Z : Bt G) (D : DefAt G "_law_cells" "_law_cells" (top 60)) : Callee G "_law_cells" 1 ["_law_levels"] RLCells := by
  refine callee_of D sc_lcells (fun _ _ _ _ _ _ us hl => match us, hl with | [_], _ => rfl) (fun ds d ⟨_, e, _⟩ => by rw [e]; rfl) fun ds d ⟨L, e, hL, h12, ed⟩ => ?_
  subst e ed
  have hp := hL.npos
  have hnc := hL.ncells_le
  show JB _ _ [.v (.L L), .un, .un, .un] _ _ _ _
  refine jb_then (js_own 1 ja_nil) ?_
  refine jb_cons (js_forN 2 (List.range (ncells L)) Dt.n (ji_range Z.range (je_is (je_add (je_max Z.max (je_var 0) (max_of hL)) je_int) (d' := .n (ncells L)) (by show Dt.int _ = Dt.int _; congr 1; omega)) (by omega)) (fun k r => ∃ s2, r = [.v (.L L), .o (((List.range k).map (cell L)).map Dt.T), s2, .un]) ⟨.un, rfl⟩ ?_ (N := fun r => ∃ s2, r = [.v (.L L), .o ((cellsOf L).map Dt.T), s2, .un]) (fun r ⟨s2, e⟩ => ⟨s2, by rw [e, List.length_range]; rfl⟩)) ?_
  · rintro k y r hk ⟨s2, rfl⟩
    obtain ⟨hk1, hk2⟩ := List.getElem?_eq_some_iff.mp hk
    rw [List.length_range] at hk1
    have e : y = k := by rw [← hk2, List.getElem_range]
    subst e
    show JB _ _ [.v (.L L), .o (((List.range y).map (cell L)).map Dt.T), .v (.n y), .un] _ _ _ _
    refine jb_one (SD.imp (js_app 1 rfl (je_tuple Z.tuple (je_lcF 3 (List.range L.length) Dt.n (fun w => L.getD w 0 == y) Dt.n (ji_range Z.range (je_is (je_len Z.len (je_var 0) (.inr rfl)) (by rw [List.length_map])) (by omega)) (fun x hx => jt_is (jt_eq (je_ix (je_var 0) (.inr rfl) (je_var 3) (lev_get (List.mem_range.mp hx))) (je_var 2)) ?_) (fun q _ _ => je_var 3) (by rw [List.length_range]; omega)) (.inr rfl)) (by simp; omega)) (fun z e => ?_) fun _ h => h)
    · show decide ((lv L x : Int) = (y : Int)) = (lv L x == y)
      rw [Bool.eq_iff_iff, decide_eq_true_iff, beq_iff_eq]
      omega
    · exact ⟨.v (.n y), e.trans (by rw [List.range_succ, List.map_append, List.map_append]; rfl)⟩
  · rintro r ⟨s2, rfl⟩
    refine jb_freeze 1 rfl ?_
    exact jb_one (js_ret (je_tuple Z.tuple (je_var 1) (.inr rfl)) rfl)
theorem sc_lbest : FnScope ["_law_levels", "_law_lot_here", "_law_least", "_law_world"] ["_law_levels", "_law_lot_here"] (defScope (top 61)) := ⟨rfl, rfl, rfl, by decide +kernel, rfl, by decide +kernel, by decide +kernel⟩
def RLBest (ds : List Dt) (d : Dt) : Prop := ∃ (L lot : List Nat), ds = [.L L, .T lot] ∧ lot ≠ [] ∧ (∀ x ∈ lot, x < L.length) ∧ lot.length ≤ 100 ∧ d = .T (lot.filter fun w => lv L w == minL (lot.map (lv L)))
theorem ok_lbest (Z : Bt G) (D : DefAt G "_law_best" "_law_best" (top 61)) : Callee G "_law_best" 1 ["_law_levels", "_law_lot_here"] RLBest := by
  refine callee_of D sc_lbest (fun _ _ _ _ _ _ us hl => match us, hl with | [_, _], _ => rfl) (fun ds d ⟨_, _, e, _⟩ => by rw [e]; rfl) fun ds d ⟨L, lot, e, hne, hlt, hl, ed⟩ => ?_
  subst e ed
  obtain ⟨m1, m2⟩ := minL_mem (xs := lot.map (lv L)) (by simpa using hne)
  show JB _ _ [.v (.L L), .v (.T lot), .un, .un] _ _ _ _
  refine jb_then (js_set 2 (je_min (xs := lot.map (lv L)) Z.min (je_is (je_lcM 3 lot Dt.n (fun x => .n (lv L x)) (ji_seq (je_var 1) (.inl rfl)) (fun x hx => je_ix (je_var 0) (.inr rfl) (je_var 3) (lev_get (hlt x hx))) (by omega)) (congrArg Dt.lst (by rw [List.map_map]; rfl))) ⟨m1, m2⟩)) ?_
  refine jb_one (js_ret (je_is (je_tuple Z.tuple (je_lcF 3 lot Dt.n (fun w => lv L w == minL (lot.map (lv L))) Dt.n (ji_seq (je_var 1) (.inl rfl)) (fun x hx => jt_is (jt_eq (je_ix (je_var 0) (.inr rfl) (je_var 3) (lev_get (hlt x hx))) (je_var 2)) ?_) (fun x _ _ => je_var 3) (by omega)) (.inr rfl)) rfl) rfl)
  rw [Bool.eq_iff_iff, decide_eq_true_iff, beq_iff_eq]
  omega
end My

/-! # L2a -/
namespace My
open PySem L2
variable {G : Gx}
/-! ### a sorted list of ints -/
def insI (x : Int) : List Int → List Int
  | [] => [x]
  | y :: ys => if x ≤ y then x :: y :: ys else y :: insI x ys
def srtI : List Int → List Int
  | [] => []
  | x :: xs => insI x (srtI xs)
theorem insI_perm (x : Int) : ∀ ys, (insI x ys).Perm (x :: ys)
  | [] => List.Perm.refl _
  | y :: ys => by
    unfold insI
    split
    · exact List.Perm.refl _
    · exact ((insI_perm x ys).cons y).trans (List.Perm.swap x y ys)
theorem insI_ord (x : Int) : ∀ ys, ys.Pairwise (· ≤ ·) → (insI x ys).Pairwise (· ≤ ·)
  | [], _ => List.pairwise_singleton _ _
  | y :: ys, h => by
    obtain ⟨h1, h2⟩ := List.pairwise_cons.mp h
    unfold insI
    split
    · rename_i c
      refine List.pairwise_cons.mpr ⟨fun z hz => ?_, h⟩
      rcases List.mem_cons.mp hz with rfl | hz
      · exact c
      · have := h1 z hz
        omega
    · rename_i c
      refine List.pairwise_cons.mpr ⟨fun z hz => ?_, insI_ord x ys h2⟩
      rcases List.mem_cons.mp ((insI_perm x ys).mem_iff.mp hz) with rfl | hz
      · omega
      · exact h1 z hz
theorem srtI_ok : ∀ xs, IsSort (srtI xs) xs
  | [] => ⟨List.Perm.refl _, List.Pairwise.nil⟩
  | x :: xs => by
    obtain ⟨a, b⟩ := srtI_ok xs
    exact ⟨(insI_perm x (srtI xs)).trans (a.cons x), insI_ord x _ b⟩
/-! ### dense -/
abbrev li (ns : List Int) (w : Nat) : Int := ns.getD w 0
theorem den_of_index {U ns : List Int} (h0 : ns ≠ []) (hu : U.Pairwise (· < ·)) (hm : ∀ v, v ∈ U ↔ v ∈ ns) : Den (ns.map fun v => U.idxOf v) ns.length fun u w => li ns u < li ns w := by
  have hmem : ∀ w, w < ns.length → li ns w ∈ U := fun w hw => (hm _).mpr (by simp [li, List.getD_eq_getElem?_getD, List.getElem?_eq_getElem hw])
  have hix : ∀ v, v ∈ U → ∃ h : U.idxOf v < U.length, U[U.idxOf v] = v := fun v hv => ⟨List.idxOf_lt_length_of_mem hv, List.getElem_idxOf _⟩
  have hlv : ∀ w, w < ns.length → lv (ns.map fun v => U.idxOf v) w = U.idxOf (li ns w) := fun w hw => by
    simp [lv, li, List.getD_eq_getElem?_getD, List.getElem?_eq_getElem hw]
  have hlt : ∀ a b, a ∈ U → b ∈ U → (U.idxOf a < U.idxOf b ↔ a < b) := fun a b ha hb => by
    obtain ⟨i1, e1⟩ := hix a ha
    obtain ⟨i2, e2⟩ := hix b hb
    have mono : ∀ i j (hi : i < U.length) (hj : j < U.length), i < j → U[i] < U[j] := fun i j hi hj hij => List.pairwise_iff_getElem.mp hu i j hi hj hij
    constructor
    · intro h
      have := mono _ _ i1 i2 h
      rw [e1, e2] at this
      exact this
    · intro h
      rcases Nat.lt_trichotomy (U.idxOf a) (U.idxOf b) with c | c | c
      · exact c
      · have : U[U.idxOf a] = U[U.idxOf b] := by simp only [c]
        rw [e1, e2] at this
        omega
      · have := mono _ _ i2 i1 c
        rw [e1, e2] at this
        omega
  refine ⟨by simp, ⟨by simpa using List.length_pos_iff.mpr h0, fun w hw v hv => ?_⟩, fun u w hu1 hw1 => ?_⟩
  · have hw' : w < ns.length := by simpa using hw
    rw [hlv w hw'] at hv
    have hvU : v < U.length := Nat.lt_trans hv (hix _ (hmem w hw')).1
    have hvm : U[v] ∈ ns := (hm _).mp (List.getElem_mem hvU)
    obtain ⟨u, hu2, e⟩ := List.getElem_of_mem hvm
    refine ⟨u, by simpa using hu2, ?_⟩
    rw [hlv u hu2]
    have e3 : li ns u = U[v] := by simp [li, List.getD_eq_getElem?_getD, List.getElem?_eq_getElem hu2, e]
    rw [e3]
    obtain ⟨i1, e1⟩ := hix U[v] (List.getElem_mem hvU)
    rcases Nat.lt_trichotomy (U.idxOf U[v]) v with c | c | c
    · have := List.pairwise_iff_getElem.mp hu _ _ i1 hvU c
      rw [e1] at this
      omega
    · exact c
    · have := List.pairwise_iff_getElem.mp hu _ _ hvU i1 c
      rw [e1] at this
      omega
  · rw [hlv u hu1, hlv w hw1]
    exact hlt _ _ (hmem u hu1) (hmem w hw1)
theorem sc_ldense : FnScope ["_law_numbers", "_law_unlike", "_law_number"] ["_law_numbers"] (defScope (top 58)) := ⟨rfl, rfl, rfl, by decide +kernel, rfl, by decide +kernel, by decide +kernel⟩
def RDense (ds : List Dt) (d : Dt) : Prop := ∃ (ns : List Int) (M : List Nat), ds = [.LI ns] ∧ ns ≠ [] ∧ ns.length ≤ 12 ∧ Den M ns.length (fun u w => li ns u < li ns w) ∧ d = .L M
theorem last_cases {α : Type} (U : List α) : U = [] ∨ ∃ U0 z, U = U0 ++ [z] := by
  rcases List.eq_nil_or_concat U with h | ⟨U0, z, h⟩
  · exact .inl h
  · exact .inr ⟨U0, z, by rw [h, List.concat_eq_append]⟩
theorem ok_ldense (Z : Bt G) (D : DefAt G "_law_dense" "_law_dense" (top 58)) : Callee G "_law_dense" 1 ["_law_numbers"] RDense := by
  refine callee_of D sc_ldense (fun _ _ _ _ _ _ us hl => match us, hl with | [_], _ => rfl) (fun ds d ⟨_, _, e, _⟩ => by rw [e]; rfl) fun ds d ⟨ns, M, e, h0, h12, hM, ed⟩ => ?_
  subst e ed
  obtain ⟨sp, so⟩ := srtI_ok ns
  have slen := sp.length_eq
  show JB _ _ [.v (.LI ns), .un, .un] _ _ _ _
  refine jb_then (js_own 1 ja_nil) ?_
  refine jb_cons (js_forN 2 (srtI ns) Dt.int (ji_seq (je_sortedL Z.sorted (je_var 0) (srtI_ok ns)) (.inr rfl)) (fun k r => ∃ (U : List Int) (s2 : Sl), U.Pairwise (· < ·) ∧ (∀ v, v ∈ U ↔ v ∈ (srtI ns).take k) ∧ U.length ≤ k ∧ r = [.v (.LI ns), .o (U.map Dt.int), s2]) ⟨[], .un, List.Pairwise.nil, fun v => by simp, Nat.zero_le _, rfl⟩ ?_ (N := fun r => ∃ (U : List Int) (s2 : Sl), U.Pairwise (· < ·) ∧ (∀ v, v ∈ U ↔ v ∈ ns) ∧ r = [.v (.LI ns), .o (U.map Dt.int), s2]) (fun r ⟨U, s2, a, b, _, c⟩ => ⟨U, s2, a, fun v => by rw [b v, List.take_length]; exact sp.mem_iff, c⟩)) ?_
  · rintro k y r hk ⟨U, s2, hu, hm, hlen, rfl⟩
    show JB _ _ [.v (.LI ns), .o (U.map Dt.int), .v (.int y)] _ _ _ _
    obtain ⟨hk1, hk2⟩ := List.getElem?_eq_some_iff.mp hk
    have hle : ∀ v ∈ U, v ≤ y := fun v hv => by
      obtain ⟨i, hi, e⟩ := List.getElem_of_mem ((hm v).mp hv)
      rw [List.length_take] at hi
      rw [List.getElem_take] at e
      have := List.pairwise_iff_getElem.mp so i k (by omega) hk1 (by omega)
      rw [e, hk2] at this
      exact this
    have hnew : ∀ v, v ∈ (srtI ns).take (k + 1) ↔ v ∈ U ∨ v = y := fun v => by
      rw [take_succ hk, List.mem_append, hm v, List.mem_singleton]
    have papp : (∀ v ∈ U, v ≠ y) → (U ++ [y]).Pairwise (· < ·) := fun hne => by
      rw [List.pairwise_append]
      refine ⟨hu, List.pairwise_singleton _ _, fun a ha b hb => ?_⟩
      rw [List.mem_singleton.mp hb]
      have := hle a ha
      have := hne a ha
      omega
    have hkl : k < 12 := by omega
    rcases last_cases U with rfl | ⟨U0, z, rfl⟩
    · refine jb_one (js_if (jt_is (b' := true) (jt_w (jw_or (c := false) (jt_eq (je_lenO 1 Z.len rfl) je_int) (fun h => by simp at h))) (by simp)) (fun _ => ?_) (fun h => by cases h))
      exact jb_one (SD.imp (js_app 1 rfl (je_var 2) (by rw [List.length_map]; omega)) (fun zz e => ⟨[] ++ [y], .v (.int y), papp (fun v hv => by cases hv), fun v => by rw [hnew v, List.mem_append, List.mem_singleton], by rw [List.length_append, List.length_singleton]; omega, e.trans (by rw [List.map_append (l₁ := [])]; rfl)⟩) fun _ h => h)
    · by_cases c : z = y
      · subst c
        refine jb_one (js_if (jt_is (b' := false) (jt_w (jw_or (jt_eq (je_lenO 1 Z.len rfl) je_int) (fun _ => jw_or1 (jt_ne (je_lastO (l0 := U0.map Dt.int) 1 (by rw [List.map_append]; rfl) (je_neg je_int)) (je_var 2))))) (by simp; omega)) (fun h => by cases h) (fun _ => ?_))
        refine jb_nil ⟨U0 ++ [z], .v (.int z), hu, fun v => ?_, by omega, rfl⟩
        rw [hnew v]
        constructor
        · exact .inl
        · rintro (h | rfl)
          · exact h
          · simp
      · have hne : ∀ v ∈ U0 ++ [z], v ≠ y := fun v hv => by
          rcases List.mem_append.mp hv with hv' | hv'
          · have := (List.pairwise_append.mp hu).2.2 v hv' z (by simp)
            have := hle z (by simp)
            omega
          · rw [List.mem_singleton.mp hv']
            exact c
        refine jb_one (js_if (jt_is (b' := true) (jt_w (jw_or (jt_eq (je_lenO 1 Z.len rfl) je_int) (fun _ => jw_or1 (jt_ne (je_lastO (l0 := U0.map Dt.int) 1 (by rw [List.map_append]; rfl) (je_neg je_int)) (je_var 2))))) (by simp [c])) (fun _ => ?_) (fun h => by cases h))
        exact jb_one (SD.imp (js_app 1 rfl (je_var 2) (by rw [List.length_map]; omega)) (fun zz e => ⟨(U0 ++ [z]) ++ [y], .v (.int y), papp hne, fun v => by rw [hnew v, List.mem_append, List.mem_singleton], by rw [List.length_append, List.length_singleton]; omega, e.trans (by rw [List.map_append (l₁ := U0 ++ [z])]; rfl)⟩) fun _ h => h)
  · rintro r ⟨U, s2, hu, hm, rfl⟩
    refine jb_freeze 1 rfl ?_
    show JB _ _ [.v (.LI ns), .v (.LI U), s2] _ _ _ _
    refine jb_one (js_ret (je_is (je_lcM 2 ns Dt.int (fun v => .n (U.idxOf v)) (ji_seq (je_var 0) (.inr rfl)) (fun v hv => ?_) (by omega)) ?_) rfl)
    · have hvU := (hm v).mpr hv
      refine je_index (U := U) (v := v) (je_var 1) (je_var 2) ?_ fun m hm1 hm2 => ?_
      · rw [List.getElem?_eq_getElem (List.idxOf_lt_length_of_mem hvU), List.getElem_idxOf]
      · obtain ⟨h1, h2⟩ := List.getElem?_eq_some_iff.mp hm2
        have := List.pairwise_iff_getElem.mp hu _ _ h1 (List.idxOf_lt_length_of_mem hvU) hm1
        rw [h2, List.getElem_idxOf] at this
        omega
    · have : ns.map (fun v => U.idxOf v) = M := (den_of_index h0 hu hm).uniq hM fun _ _ _ _ => Iff.rfl
      rw [← this]
      show Dt.lst _ = Dt.lst _
      rw [List.map_map]
      rfl
end My

/-! # L2b -/
namespace My
open PySem L2
variable {G : Gx}
abbrev DenC (G : Gx) : Prop := Callee G "_law_dense" 1 ["_law_numbers"] RDense
theorem li_mapR {f : Nat → Int} {n w : Nat} (h : w < n) : li ((List.range n).map f) w = f w := by
  simp [li, List.getD_eq_getElem?_getD, List.getElem?_range h]
theorem sc_lprod : FnScope ["_law_one", "_law_other", "_law_size", "_law_world"] ["_law_one", "_law_other"] (defScope (top 63)) := ⟨rfl, rfl, rfl, by decide +kernel, rfl, by decide +kernel, by decide +kernel⟩
def RProd (ds : List Dt) (d : Dt) : Prop := ∃ (A B M : List Nat), ds = [.L A, .L B] ∧ 0 < A.length ∧ A.length ≤ 12 ∧ A.length = B.length ∧ (∀ x ∈ A, x ≤ 12) ∧ Den M A.length (fun u w => lv A u * (A.length + 1) + lv B u < lv A w * (A.length + 1) + lv B w) ∧ d = .L M
theorem cmul_small {i j : Nat} (hi : i ≤ 100) (hj : j ≤ 100) : CMul (i : Int) (j : Int) := by
  have e : (2 : Int) ^ 64 = 18446744073709551616 := by decide
  unfold CMul
  rw [e]
  left
  omega
theorem ok_lprod (Z : Bt G) (cD : DenC G) (D : DefAt G "_law_product" "_law_product" (top 63)) : Callee G "_law_product" 2 ["_law_one", "_law_other"] RProd := by
  refine callee_of D sc_lprod (fun _ _ _ _ _ _ us hl => match us, hl with | [_, _], _ => rfl) (fun ds d ⟨_, _, _, e, _⟩ => by rw [e]; rfl) fun ds d ⟨A, B, M, e, hp, h12, hl, hA, hM, ed⟩ => ?_
  subst e ed
  show JB _ _ [.v (.L A), .v (.L B), .un, .un] _ _ _ _
  have hlen : (A.map Dt.n).length = A.length := List.length_map _
  refine jb_then (js_set 2 (je_is (je_add (je_len Z.len (je_var 0) (.inr rfl)) je_int) (d' := .n (A.length + 1)) (by rw [hlen]; rfl))) ?_
  refine jb_one (js_ret (je_call cD (ja_cons (je_is (je_lcM 3 (List.range A.length) Dt.n (fun w => .n (lv A w * (A.length + 1) + lv B w)) (ji_range Z.range (je_is (je_len Z.len (je_var 0) (.inr rfl)) (by rw [hlen])) (by omega)) (fun w hw => ?_) (by rw [List.length_range]; omega)) (d' := .LI ((List.range A.length).map fun w => ((lv A w * (A.length + 1) + lv B w : Nat) : Int))) ?_) ja_nil) ⟨_, M, rfl, ?_, ?_, ?_, rfl⟩) rfl)
  · have hw := List.mem_range.mp hw
    exact je_is (je_add (je_mul (je_ix (je_var 0) (.inr rfl) (je_var 3) (lev_get hw)) (je_var 2) (cmul_small (by have := hA _ (lv_mem hw); omega) (by omega))) (je_ix (je_var 1) (.inr rfl) (je_var 3) (lev_get (by omega)))) (by show Dt.int _ = Dt.int _; congr 1)
  · show Dt.lst _ = Dt.lst _
    rw [List.map_map]
    rfl
  · intro z
    have := congrArg List.length z
    rw [List.length_map, List.length_range, List.length_nil] at this
    omega
  · simp
    omega
  · rw [show ((List.range A.length).map fun w => ((lv A w * (A.length + 1) + lv B w : Nat) : Int)).length = A.length by simp]
    refine hM.congr fun u w hu hw => ?_
    rw [li_mapR hu, li_mapR hw]
    omega
theorem sc_lturn : FnScope ["_law_levels", "_law_word", "_law_lot_here", "_law_worlds", "_law_away", "_law_best_here", "_law_numbers", "_law_first", "_law_bound", "_law_world", "_law_level", "_law_at"] ["_law_levels", "_law_word", "_law_lot_here"] (defScope (top 64)) := ⟨rfl, rfl, rfl, by decide +kernel, rfl, by decide +kernel, by decide +kernel⟩
def RTurn (ds : List Dt) (d : Dt) : Prop := ∃ (L lot : List Nat) (w : Str), ds = [.L L, .str w, .T lot] ∧ Dn L ∧ L.length ≤ 12 ∧ lot.length ≤ 100 ∧ ((w = "lead" ∧ d = .L (turnD L lot)) ∨ ((hIn L lot = true → comp L.length lot ≠ []) ∧ ((w = "level" ∧ d = .L (turnL L lot)) ∨ (w = "sink" ∧ d = .L (turnS L lot)))))
theorem hIn_sel (L lot : List Nat) : ((sel L.length (heldB L)).all fun w => lot.contains w) = hIn L lot := rfl
theorem comp_len (n : Nat) (c : List Nat) : (comp n c).length ≤ n := by
  have := List.length_filter_le (fun w => !c.contains w) (List.range n)
  rw [List.length_range] at this
  exact this
/-- the numbers that the law makes dense -/
def mnum (L : List Nat) (p : Nat → Bool) (w : Nat) : Int := if p w then -1 else (lv L w : Int)
theorem mnum_den {L : List Nat} {p : Nat → Bool} (h : Dn L) : Den (mrg L p) ((List.range L.length).map (mnum L p)).length fun u w => li ((List.range L.length).map (mnum L p)) u < li ((List.range L.length).map (mnum L p)) w := by
  rw [show ((List.range L.length).map (mnum L p)).length = L.length by simp]
  refine (mrg_den h.pos).congr fun u w hu hw => ?_
  rw [li_mapR hu, li_mapR hw]
  unfold mkey mnum
  cases p u <;> cases p w <;> simp <;> omega
theorem ok_lturn (Z : Bt G) (cH : Callee G "_law_held" 1 ["_law_levels"] RLHeld) (cI : Callee G "_law_inside" 1 ["_law_one", "_law_other"] RLIn) (cB : Callee G "_law_best" 1 ["_law_levels", "_law_lot_here"] RLBest) (cR : Callee G "_law_rest" 1 ["_law_lot_here", "_law_worlds"] RLRest) (cP : Callee G "_law_plus" 1 ["_law_one", "_law_other"] RPlus)
    (cD : DenC G) (cX : Callee G "_law_product" 2 ["_law_one", "_law_other"] RProd) (D : DefAt G "_law_turn" "_law_turn" (top 64)) : Callee G "_law_turn" 3 ["_law_levels", "_law_word", "_law_lot_here"] RTurn := by
  refine callee_of D sc_lturn (fun _ _ _ _ _ _ us hl => match us, hl with | [_, _, _], _ => rfl) (fun ds d ⟨_, _, _, e, _⟩ => by rw [e]; rfl) fun ds d ⟨L, lot, w, e, hL, h12, hlot, hh⟩ => ?_
  subst e
  have hp := hL.pos
  have hlen : (L.map Dt.n).length = L.length := List.length_map _
  show JB _ _ [.v (.L L), .v (.str w), .v (.T lot), .un, .un, .un, .un, .un, .un, .un, .un, .un] _ _ _ _
  refine jb_then (js_set 3 (je_is (je_len Z.len (je_var 0) (.inr rfl)) (d' := .n L.length) (by rw [hlen]))) ?_
  rcases hh with ⟨rfl, ed⟩ | ⟨hcn, hh⟩
  · subst ed
    have hM := turnD_den (L := L) (lot := lot) hp
    refine jb_ifret (jt_is (jt_eqS (je_var 1) je_str) (b' := true) (by decide +kernel)) (fun _ N' => ?_) (fun h => by cases h)
    refine jb_then (js_setM 4 9 (List.range L.length) Dt.n (fun x => .n (if lot.contains x then 0 else 1)) (ji_range Z.range (je_var 3) (by omega)) (fun x _ => je_if (jt_in (je_var 9) (je_var 2) (.inl rfl)) (fun hb => je_is je_int (by rw [if_pos (by simpa using hb)]; rfl)) (fun hb => je_is je_int (by rw [if_neg (by simpa using hb)]; rfl))) (by rw [List.length_range]; omega)) ?_
    refine jb_one (js_ret (je_call cX (ja_cons (je_is (je_var 4) (d' := .L ((List.range L.length).map fun x => if lot.contains x then 0 else 1)) (congrArg Dt.lst (by rw [List.map_map]; rfl))) (ja_cons (je_var 0) ja_nil)) ⟨_, L, _, rfl, by simpa using hp, by simpa using h12, by simp, fun x hx => ?_, ?_, rfl⟩) rfl)
    · obtain ⟨y, _, rfl⟩ := List.mem_map.mp hx
      split <;> omega
    · rw [show ((List.range L.length).map fun x => if lot.contains x then 0 else 1).length = L.length by simp]
      refine hM.congr fun u v hu hv => ?_
      rw [lv_mapR hu, lv_mapR hv]
      rfl
  · refine jb_skip (jt_is (jt_eqS (je_var 1) je_str) (b' := false) (by rcases hh with ⟨rfl, _⟩ | ⟨rfl, _⟩ <;> decide +kernel)) ?_
    refine jb_skip (jt_is (jt_w (jw_or (jt_eqS (je_var 1) je_str) fun _ => jw_or1 (jt_eqS (je_var 1) je_str))) (b' := false) (by rcases hh with ⟨rfl, _⟩ | ⟨rfl, _⟩ <;> decide +kernel)) ?_
    refine jb_ifret (jt_is (jt_w (jw_or (jt_eqS (je_var 1) je_str) fun _ => jw_or1 (jt_eqS (je_var 1) je_str))) (b' := true) (by rcases hh with ⟨rfl, _⟩ | ⟨rfl, _⟩ <;> decide +kernel)) (fun _ N' => ?_) (fun h => by cases h)
    have sl := sel_len L.length (heldB L)
    refine jb_ifret (jt_not (jt_val (je_call cI (ja_cons (je_call cH (ja_cons (je_var 0) ja_nil) ⟨L, rfl, h12, rfl⟩) (ja_cons (je_var 2) ja_nil)) ⟨_, lot, rfl, by omega, rfl⟩))) (fun hb N' => ?_) fun hb => ?_
    · rw [hIn_sel] at hb
      have hf : hIn L lot = false := by simpa using hb
      refine jb_one (js_ret (je_list Z.list (je_var 0) (.inr rfl)) ?_)
      rcases hh with ⟨_, rfl⟩ | ⟨_, rfl⟩
      · unfold turnL; rw [if_neg (by rw [hf]; simp)]
      · unfold turnS; rw [if_neg (by rw [hf]; simp)]
    · rw [hIn_sel] at hb
      have hin : hIn L lot = true := by simpa using hb
      have hne := hcn hin
      have hcl := comp_len L.length lot
      have hbest : ((comp L.length lot).filter fun w => lv L w == minL ((comp L.length lot).map (lv L))) = sel L.length fun w => (lv L w == lowOut L lot) && !lot.contains w := by
        unfold comp sel
        rw [List.filter_filter]
        rfl
      refine jb_then (js_set 5 (je_is (je_call cB (ja_cons (je_var 0) (ja_cons (je_call cR (ja_cons (je_var 2) (ja_cons (je_var 3) ja_nil)) ⟨lot, L.length, rfl, h12, rfl⟩) ja_nil)) ⟨L, comp L.length lot, rfl, hne, fun x hx => (mem_comp.mp hx).1, by omega, rfl⟩) (congrArg Dt.T hbest))) ?_
      refine jb_then (js_set 7 (je_call cP (ja_cons (je_call cH (ja_cons (je_var 0) ja_nil) ⟨L, rfl, h12, rfl⟩) (ja_cons (je_var 5) ja_nil)) ⟨L.length, heldB L, _, rfl, h12, rfl⟩)) ?_
      have fin : ∀ (p : Nat → Bool) (ρ : List Sl), ρ[0]? = some (.v (.L L)) → True := fun _ _ _ => trivial
      rcases hh with ⟨rfl, rfl⟩ | ⟨rfl, rfl⟩
      · refine jb_skip (jt_is (jt_eqS (je_var 1) je_str) (b' := false) (by decide +kernel)) ?_
        refine jb_one (js_ret (je_call cD (ja_cons (je_is (je_lcM 11 (List.range L.length) Dt.n (fun w => .int (mnum L (fun w => heldB L w || ((lv L w == lowOut L lot) && !lot.contains w)) w)) (ji_range Z.range (je_var 3) (by omega)) (fun w hw => je_if (jt_in (je_var 11) (je_var 7) (.inl rfl)) (fun hb => je_is (je_neg je_int) ?_) (fun hb => je_is (je_ix (je_var 0) (.inr rfl) (je_var 11) (lev_get (List.mem_range.mp hw))) ?_)) (by rw [List.length_range]; omega)) (d' := .LI ((List.range L.length).map (mnum L (fun w => heldB L w || ((lv L w == lowOut L lot) && !lot.contains w))))) (congrArg Dt.lst (by rw [List.map_map]; rfl))) ja_nil) ⟨_, _, rfl, ?_, ?_, mnum_den hL, rfl⟩) ?_)
        · have hm := (mem_sel.mp (of_decide_eq_true hb)).2
          unfold mnum
          rw [if_pos hm]
        · have hm : ¬ ((heldB L w || ((lv L w == lowOut L lot) && !lot.contains w)) = true) := fun z => of_decide_eq_false hb (mem_sel.mpr ⟨List.mem_range.mp hw, z⟩)
          unfold mnum
          rw [if_neg hm]
        · intro z
          have := congrArg List.length z
          rw [List.length_map, List.length_range, List.length_nil] at this
          omega
        · simpa using h12
        · unfold turnL
          rw [if_pos hin]
          exact congrArg Dt.L (mrg_congr fun w _ => by rw [Bool.and_comm])
      · obtain ⟨z0, t0, eb⟩ : ∃ z0 t0, (sel L.length fun w => (lv L w == lowOut L lot) && !lot.contains w) = z0 :: t0 := by
          obtain ⟨m1, _⟩ := lowOut_min hne
          obtain ⟨u, hu, eu⟩ := List.mem_map.mp m1
          have hu2 := mem_comp.mp hu
          have : u ∈ sel L.length fun w => (lv L w == lowOut L lot) && !lot.contains w := mem_sel.mpr ⟨hu2.1, by simp [eu, hu2.2]⟩
          cases e : sel L.length fun w => (lv L w == lowOut L lot) && !lot.contains w with
          | nil => rw [e] at this; cases this
          | cons a b => exact ⟨a, b, rfl⟩
        have hz0 : z0 < L.length ∧ lv L z0 = lowOut L lot := by
          have : z0 ∈ sel L.length fun w => (lv L w == lowOut L lot) && !lot.contains w := by rw [eb]; simp
          obtain ⟨a, b⟩ := mem_sel.mp this
          rw [Bool.and_eq_true] at b
          exact ⟨a, beq_iff_eq.mp b.1⟩
        refine jb_cons (N1 := fun r => r = [.v (.L L), .v (.str "sink"), .v (.T lot), .v (.n L.length), .un, .v (.T (sel L.length fun w => (lv L w == lowOut L lot) && !lot.contains w)), .un, .v (.T (sel L.length fun w => decide (lv L w ≤ lowOut L lot))), .v (.n (lowOut L lot)), .un, .un, .un]) (js_if (jt_is (jt_eqS (je_var 1) je_str) (b' := true) (by decide +kernel)) (fun _ => ?_) (fun h => by cases h)) fun r er => ?_
        · refine jb_then (js_set 8 (je_is (je_ix (je_var 0) (.inr rfl) (je_ix (k := 0) (je_var 5) (.inl rfl) je_int (d := .n z0) (by rw [eb]; rfl)) (lev_get hz0.1)) (d' := .n (lowOut L lot)) (by rw [hz0.2]))) ?_
          refine jb_one (SD.imp (js_set 7 (je_is (je_tuple Z.tuple (je_lcF 11 (List.range L.length) Dt.n (fun w => decide (lv L w ≤ lowOut L lot)) Dt.n (ji_range Z.range (je_var 3) (by omega)) (fun x hx => jt_is (jt_le (je_ix (je_var 0) (.inr rfl) (je_var 11) (lev_get (List.mem_range.mp hx))) (je_var 8)) (decide_eq_decide.mpr (by omega))) (fun x _ _ => je_var 11) (by rw [List.length_range]; omega)) (.inr rfl)) (d' := .T (sel L.length fun w => decide (lv L w ≤ lowOut L lot))) rfl)) (fun r e => e) fun _ h => h)
        · subst er
          refine jb_one (js_ret (je_call cD (ja_cons (je_is (je_lcM 11 (List.range L.length) Dt.n (fun w => .int (mnum L (fun w => decide (lv L w ≤ lowOut L lot)) w)) (ji_range Z.range (je_var 3) (by omega)) (fun w hw => je_if (jt_in (je_var 11) (je_var 7) (.inl rfl)) (fun hb => je_is (je_neg je_int) ?_) (fun hb => je_is (je_ix (je_var 0) (.inr rfl) (je_var 11) (lev_get (List.mem_range.mp hw))) ?_)) (by rw [List.length_range]; omega)) (d' := .LI ((List.range L.length).map (mnum L (fun w => decide (lv L w ≤ lowOut L lot))))) (congrArg Dt.lst (by rw [List.map_map]; rfl))) ja_nil) ⟨_, _, rfl, ?_, ?_, mnum_den hL, rfl⟩) ?_)
          · have hm := (mem_sel.mp (of_decide_eq_true hb)).2
            unfold mnum
            rw [if_pos hm]
          · have hm : ¬ (decide (lv L w ≤ lowOut L lot) = true) := fun z => of_decide_eq_false hb (mem_sel.mpr ⟨List.mem_range.mp hw, z⟩)
            unfold mnum
            rw [if_neg hm]
          · intro z
            have := congrArg List.length z
            rw [List.length_map, List.length_range, List.length_nil] at this
            omega
          · simpa using h12
          · unfold turnS
            rw [if_pos hin]
end My

/-! # L3a -/
namespace My
open PySem L2
variable {G : Gx}
def lotsRaw : Nat → List (List Nat)
  | 0 => [[]]
  | k + 1 => lotsRaw k ++ (lotsRaw k).map (· ++ [k])
def lotsBy (n s : Nat) : List (List Nat) := (lots n).filter fun x => x.length == s
def rawBy (n s : Nat) : List (List Nat) := (lotsRaw n).filter fun x => x.length == s
def lotsOk (n : Nat) : Bool :=
  ((List.range (n + 1)).flatMap (lotsBy n) == lots n) && (rawBy n 0 == [[]]) && (lotsBy n 0 == [[]]) && ((lotsRaw n).all fun x => x.all fun k => decide (k < 4)) && decide ((lotsRaw n).length ≤ 16) &&
  ((List.range (n + 1)).all fun s => (lotsBy n s).isPerm (rawBy n s) && decide ((lotsBy n s).Pairwise fun x y => TS.code ((4 : Nat) : Int) (castL x) < TS.code ((4 : Nat) : Int) (castL y))) &&
  ((lots n).dropLast.all fun x => ne0 (comp n x) && decide (x.length ≤ 100)) && decide ((lots n).length ≤ 16)
theorem lots_ok {n : Nat} (h1 : 1 ≤ n) (h4 : n ≤ 4) : lotsOk n = true := by
  rcases (by omega : n = 1 ∨ n = 2 ∨ n = 3 ∨ n = 4) with rfl | rfl | rfl | rfl <;> decide +kernel
theorem sc_llots : FnScope ["_law_worlds", "_law_lots_here", "_law_world", "_law_order", "_law_size", "_law_lot_here"] ["_law_worlds"] (defScope (top 52)) := ⟨rfl, rfl, rfl, by decide +kernel, rfl, by decide +kernel, by decide +kernel⟩
def RLots (ds : List Dt) (d : Dt) : Prop := ∃ n : Nat, ds = [.n n] ∧ 1 ≤ n ∧ n ≤ 4 ∧ d = .LT (lots n)
theorem raw_len : ∀ k, (lotsRaw k).length = 2 ^ k
  | 0 => rfl
  | k + 1 => by
    simp only [lotsRaw, List.length_append, List.length_map, raw_len k]
    omega
theorem ok_llots (Z : Bt G) (D : DefAt G "_law_lots" "_law_lots" (top 52)) : Callee G "_law_lots" 1 ["_law_worlds"] RLots := by
  refine callee_of D sc_llots (fun _ _ _ _ _ _ us hl => match us, hl with | [_], _ => rfl) (fun ds d ⟨_, e, _⟩ => by rw [e]; rfl) fun ds d ⟨n, e, h1, h4, ed⟩ => ?_
  subst e ed
  have hok := lots_ok h1 h4
  unfold lotsOk at hok
  simp only [Bool.and_eq_true] at hok
  obtain ⟨⟨⟨⟨⟨⟨⟨o1, o2⟩, o3⟩, o4⟩, o5⟩, o6⟩, o7⟩, o8⟩ := hok
  have o5 := of_decide_eq_true o5
  show JB _ _ [.v (.n n), .un, .un, .un, .un, .un] _ _ _ _
  refine jb_then (js_set 1 (je_is (je_lst (ja_cons (je_tup ja_nil) ja_nil) (Nat.le_of_ble_eq_true rfl)) (d' := .LT (lotsRaw 0)) rfl)) ?_
  refine jb_cons (js_forN 2 (List.range n) Dt.n (ji_range Z.range (je_var 0) (by omega)) (fun k r => ∃ s2, r = [.v (.n n), .v (.LT (lotsRaw k)), s2, .un, .un, .un]) ⟨.un, rfl⟩ ?_ (N := fun r => ∃ s2, r = [.v (.n n), .v (.LT (lotsRaw n)), s2, .un, .un, .un]) (fun r ⟨s2, e⟩ => ⟨s2, by rw [e, List.length_range]⟩)) ?_
  · rintro k y r hk ⟨s2, rfl⟩
    obtain ⟨hk1, hk2⟩ := List.getElem?_eq_some_iff.mp hk
    rw [List.length_range] at hk1
    have e : y = k := by rw [← hk2, List.getElem_range]
    subst e
    have hl : (lotsRaw y).length ≤ 16 := by
      rw [raw_len]
      exact Nat.le_trans (Nat.pow_le_pow_right (by decide) (show y ≤ 4 by omega)) (by decide)
    show JB _ _ [.v (.n n), .v (.LT (lotsRaw y)), .v (.n y), .un, .un, .un] _ _ _ _
    refine jb_one (SD.imp (js_set 1 (je_catL (je_var 1) (je_lcM 5 (lotsRaw y) Dt.T (fun x => .T (x ++ [y])) (ji_seq (je_var 1) (.inr rfl)) (fun x hx => je_is (je_catT (je_var 5) (je_tup (ja_cons (je_var 2) ja_nil) (Nat.le_of_ble_eq_true rfl)) ?_) ?_) (by omega)) (by rw [List.length_map, List.length_map]; omega))) (fun z e => ⟨.v (.n y), e.trans ?_⟩) fun _ h => h)
    · have : x.length ≤ y := by
        have : ∀ k (x : List Nat), x ∈ lotsRaw k → x.length ≤ k := fun k => by
          induction k with
          | zero => intro x hx; rw [List.mem_singleton.mp hx]; simp
          | succ k ih =>
            intro x hx
            rcases List.mem_append.mp hx with hx | hx
            · have := ih x hx; omega
            · obtain ⟨z, hz, rfl⟩ := List.mem_map.mp hx
              have := ih z hz
              rw [List.length_append, List.length_singleton]
              omega
        exact this y x hx
      rw [List.length_map, List.length_singleton]
      omega
    · show Dt.tup _ = Dt.tup _
      rw [List.map_append]
      rfl
    · have e3 : Dt.LT (lotsRaw (y + 1)) = .lst ((lotsRaw y).map Dt.T ++ (lotsRaw y).map fun x => .T (x ++ [y])) := by
        show Dt.lst ((lotsRaw y ++ (lotsRaw y).map (· ++ [y])).map Dt.T) = _
        rw [List.map_append, List.map_map]
        rfl
      rw [e3]
      rfl
  · rintro r ⟨s2, rfl⟩
    refine jb_then (js_set 3 (je_is (je_lst ja_nil) (d' := .LT []) rfl)) ?_
    refine jb_cons (js_forN 4 (List.range (n + 1)) Dt.n (ji_range Z.range (je_is (je_add (je_var 0) je_int) (d' := .n (n + 1)) (by rfl)) (by omega)) (fun k r => ∃ s4, r = [.v (.n n), .v (.LT (lotsRaw n)), s2, .v (.LT ((List.range k).flatMap (lotsBy n))), s4, .un]) ⟨.un, rfl⟩ ?_ (N := fun r => ∃ s4, r = [.v (.n n), .v (.LT (lotsRaw n)), s2, .v (.LT (lots n)), s4, .un]) (fun r ⟨s4, e⟩ => ⟨s4, by rw [e, List.length_range, show (List.range (n + 1)).flatMap (lotsBy n) = lots n from beq_iff_eq.mp o1]⟩)) ?_
    · rintro k y r hk ⟨s4, rfl⟩
      obtain ⟨hk1, hk2⟩ := List.getElem?_eq_some_iff.mp hk
      rw [List.length_range] at hk1
      have e : y = k := by rw [← hk2, List.getElem_range]
      subst e
      have hperm := List.all_eq_true.mp o6 y (List.mem_range.mpr hk1)
      rw [Bool.and_eq_true] at hperm
      have p1 : (lotsBy n y).Perm (rawBy n y) := List.isPerm_iff.mp hperm.1
      have p2 := of_decide_eq_true hperm.2
      have hr : (rawBy n y).length ≤ 16 := Nat.le_trans (List.length_filter_le _ _) o5
      have hsz : ((List.range y).flatMap (lotsBy n)).length ≤ 100 := by
        have : ∀ m, ((List.range m).flatMap (lotsBy n)).length ≤ m * 16 := fun m => by
          induction m with
          | zero => simp
          | succ m ih =>
            rw [List.range_succ, List.flatMap_append, List.length_append]
            have : ([m].flatMap (lotsBy n)).length ≤ 16 := by
              rw [List.flatMap_cons, List.flatMap_nil, List.append_nil]
              exact Nat.le_trans (List.length_filter_le _ _) (of_decide_eq_true o8)
            omega
        have := this y
        omega
      have hby : (lotsBy n y).length ≤ 16 := by rw [p1.length_eq]; exact hr
      show JB _ _ [.v (.n n), .v (.LT (lotsRaw n)), s2, .v (.LT ((List.range y).flatMap (lotsBy n))), .v (.n y), .un] _ _ _ _
      refine jb_one (SD.imp (js_set 3 (je_catL (l2 := (lotsBy n y).map Dt.T) (je_var 3) ?_ (by rw [List.length_map, List.length_map]; omega))) (fun z e => ⟨.v (.n y), e.trans ?_⟩) fun _ h => h)
      · by_cases hy0 : y = 0
        · subst hy0
          have e1 : lotsBy n 0 = [[]] := beq_iff_eq.mp o3
          have e2 : rawBy n 0 = [[]] := beq_iff_eq.mp o2
          rw [e1]
          refine je_sortT1 Z.sorted (je_is (je_lcF 5 (lotsRaw n) Dt.T (fun x => x.length == 0) Dt.T (ji_seq (je_var 1) (.inr rfl)) (fun x _ => jt_is (jt_eq (je_len Z.len (je_var 5) (.inl rfl)) (je_var 4)) ?_) (fun x _ _ => je_var 5) (by omega)) (show Dt.LT (rawBy n 0) = _ by rw [e2]))
          rw [List.length_map, Bool.eq_iff_iff, decide_eq_true_iff, beq_iff_eq]
          omega
        · refine je_sortTT (dl := y) (Bd := 4) (xs := rawBy n y) (ys := lotsBy n y) Z.sorted (je_is (je_lcF 5 (lotsRaw n) Dt.T (fun x => x.length == y) Dt.T (ji_seq (je_var 1) (.inr rfl)) (fun x _ => jt_is (jt_eq (je_len Z.len (je_var 5) (.inl rfl)) (je_var 4)) ?_) (fun x _ _ => je_var 5) (by omega)) rfl) (by omega) (fun x hx => beq_iff_eq.mp (List.mem_filter.mp hx).2) (fun x hx k hk => ?_) (by omega) p1 p2
          · rw [List.length_map, Bool.eq_iff_iff, decide_eq_true_iff, beq_iff_eq]
            omega
          · exact of_decide_eq_true (List.all_eq_true.mp (List.all_eq_true.mp o4 x (List.mem_filter.mp hx).1) k hk)
      · have e4 : Dt.LT ((List.range (y + 1)).flatMap (lotsBy n)) = .lst (((List.range y).flatMap (lotsBy n)).map Dt.T ++ (lotsBy n y).map Dt.T) := by
          rw [List.range_succ, List.flatMap_append, List.flatMap_cons, List.flatMap_nil, List.append_nil, ← List.map_append]
        rw [e4]
        rfl
    · rintro r ⟨s4, rfl⟩
      exact jb_one (js_ret (je_var 3) rfl)
end My

/-! # L3b -/
namespace My
open PySem L2
variable {G : Gx}
theorem sc_lranks : FnScope ["_law_worlds", "_law_ranks_here", "_law_world", "_law_longer", "_law_levels", "_law_top", "_law_at", "_law_level"] ["_law_worlds"] (defScope (top 65)) := ⟨rfl, rfl, rfl, by decide +kernel, rfl, by decide +kernel, by decide +kernel⟩
def RRanks (ds : List Dt) (d : Dt) : Prop := ∃ n : Nat, ds = [.n n] ∧ 1 ≤ n ∧ n ≤ 4 ∧ d = .LL (ranks n)
theorem ranks_len {n : Nat} (h : n ≤ 4) : (ranks n).length ≤ 75 := by
  rcases (by omega : n = 0 ∨ n = 1 ∨ n = 2 ∨ n = 3 ∨ n = 4) with rfl | rfl | rfl | rfl | rfl <;> decide +kernel
theorem ranks_succ {k : Nat} : ranks (k + 2) = (ranks (k + 1)).flatMap longer := rfl
theorem flatMap_take_len {α β : Type} (f : α → List β) : ∀ (xs : List α) (i : Nat), ((xs.take i).flatMap f).length ≤ (xs.flatMap f).length
  | [], i => by simp
  | x :: xs, 0 => by simp
  | x :: xs, i + 1 => by
    have := flatMap_take_len f xs i
    simp only [List.take_succ_cons, List.flatMap_cons, List.length_append]
    omega
def up1 (L : List Nat) (a : Nat) : List Nat := L.map (fun l => if a ≤ l then l + 1 else l) ++ [a]
theorem longer_len (L : List Nat) : (longer L).length = 2 * ncells L + 1 := by
  unfold longer
  rw [List.length_append, List.length_map, List.length_map, List.length_range, List.length_range]
  omega
theorem map_snoc {α β : Type} (acc : List α) (f : Nat → α) (g : α → β) (a : Nat) : (acc ++ (List.range (a + 1)).map f).map g = (acc ++ (List.range a).map f).map g ++ [g (f a)] := by simp [List.range_succ]
theorem ok_lranks (Z : Bt G) (D : DefAt G "_law_ranks" "_law_ranks" (top 65)) : Callee G "_law_ranks" 1 ["_law_worlds"] RRanks := by
  refine callee_of D sc_lranks (fun _ _ _ _ _ _ us hl => match us, hl with | [_], _ => rfl) (fun ds d ⟨_, e, _⟩ => by rw [e]; rfl) fun ds d ⟨n, e, h1, h4, ed⟩ => ?_
  subst e ed
  show JB _ _ [.v (.n n), .un, .un, .un, .un, .un, .un, .un] _ _ _ _
  refine jb_then (js_set 1 (je_is (je_lst (ja_cons (je_lst (ja_cons je_int ja_nil) (Nat.le_of_ble_eq_true rfl)) ja_nil) (Nat.le_of_ble_eq_true rfl)) (d' := .LL (ranks 1)) rfl)) ?_
  refine jb_cons (js_forN 2 (List.range (n - 1)) (fun i => Dt.n (1 + i)) (ji_range2 (a := 1) (n := n) Z.range je_int (je_var 0) (by omega) (by omega)) (fun k r => ∃ s2 s3 s4 s5 s6 s7, r = [.v (.n n), .v (.LL (ranks (k + 1))), s2, s3, s4, s5, s6, s7]) ⟨.un, .un, .un, .un, .un, .un, rfl⟩ ?_ (N := fun r => ∃ s2 s3 s4 s5 s6 s7, r = [.v (.n n), .v (.LL (ranks n)), s2, s3, s4, s5, s6, s7]) (fun r ⟨s2, s3, s4, s5, s6, s7, e⟩ => ⟨s2, s3, s4, s5, s6, s7, by rw [e, List.length_range, show n - 1 + 1 = n by omega]⟩)) ?_
  · rintro k y r hk ⟨s2, s3, s4, s5, s6, s7, rfl⟩
    obtain ⟨hk1, hk2⟩ := List.getElem?_eq_some_iff.mp hk
    rw [List.length_range] at hk1
    have e : y = k := by rw [← hk2, List.getElem_range]
    subst e
    have hall := ranks_len (n := y + 2) (by omega)
    show JB _ _ [.v (.n n), .v (.LL (ranks (y + 1))), .v (.n (1 + y)), s3, s4, s5, s6, s7] _ _ _ _
    refine jb_then (js_own 3 ja_nil) ?_
    show JB _ _ [.v (.n n), .v (.LL (ranks (y + 1))), .v (.n (1 + y)), .o [], s4, s5, s6, s7] _ _ _ _
    refine jb_cons (js_forN 4 (ranks (y + 1)) Dt.L (ji_seq (je_list Z.list (je_var 1) (.inr rfl)) (.inr rfl)) (fun i r => ∃ s4 s5 s6 s7, r = [.v (.n n), .v (.LL (ranks (y + 1))), .v (.n (1 + y)), .o ((((ranks (y + 1)).take i).flatMap longer).map Dt.L), s4, s5, s6, s7]) ⟨s4, s5, s6, s7, rfl⟩ ?_ (N := fun r => ∃ s4 s5 s6 s7, r = [.v (.n n), .v (.LL (ranks (y + 1))), .v (.n (1 + y)), .o ((ranks (y + 2)).map Dt.L), s4, s5, s6, s7]) (fun r ⟨s4, s5, s6, s7, e⟩ => ⟨s4, s5, s6, s7, by rw [e, List.take_length, ranks_succ]⟩)) ?_
    · rintro i L r hi ⟨s4, s5, s6, s7, rfl⟩
      have hLm := List.mem_of_getElem? hi
      obtain ⟨hL, hLn⟩ := ranks_ok (n := y + 1) (by omega) (by omega) hLm
      have hnp := hL.npos
      have hnc := hL.ncells_le
      have hacc : (((ranks (y + 1)).take i).flatMap longer).length ≤ 75 := by
        have := flatMap_take_len longer (ranks (y + 1)) i
        rw [← ranks_succ] at this
        omega
      show JB _ _ [.v (.n n), .v (.LL (ranks (y + 1))), .v (.n (1 + y)), .o ((((ranks (y + 1)).take i).flatMap longer).map Dt.L), .v (.L L), s5, s6, s7] _ _ _ _
      generalize hA : ((ranks (y + 1)).take i).flatMap longer = acc at hacc
      refine jb_then (js_set 5 (je_max Z.max (je_var 4) (max_of hL))) ?_
      show JB _ _ [.v (.n n), .v (.LL (ranks (y + 1))), .v (.n (1 + y)), .o (acc.map Dt.L), .v (.L L), .v (.n (ncells L - 1)), s6, s7] _ _ _ _
      refine jb_cons (js_forN 6 (List.range (ncells L)) Dt.n (ji_range Z.range (je_is (je_add (je_var 5) je_int) (d' := .n (ncells L)) (by show Dt.int _ = Dt.int _; congr 1; omega)) (by omega)) (fun j r => ∃ s6, r = [.v (.n n), .v (.LL (ranks (y + 1))), .v (.n (1 + y)), .o ((acc ++ (List.range j).map fun a => L ++ [a]).map Dt.L), .v (.L L), .v (.n (ncells L - 1)), s6, s7]) ⟨s6, by rw [List.range_zero, List.map_nil, List.append_nil]⟩ ?_ (N := fun r => ∃ s6, r = [.v (.n n), .v (.LL (ranks (y + 1))), .v (.n (1 + y)), .o ((acc ++ (List.range (ncells L)).map fun a => L ++ [a]).map Dt.L), .v (.L L), .v (.n (ncells L - 1)), s6, s7]) (fun r ⟨s6, e⟩ => ⟨s6, by rw [e, List.length_range]⟩)) ?_
      · rintro j a r hj ⟨s6, rfl⟩
        obtain ⟨hj1, hj2⟩ := List.getElem?_eq_some_iff.mp hj
        rw [List.length_range] at hj1
        have e : a = j := by rw [← hj2, List.getElem_range]
        subst e
        show JB _ _ [.v (.n n), .v (.LL (ranks (y + 1))), .v (.n (1 + y)), .o ((acc ++ (List.range a).map fun a => L ++ [a]).map Dt.L), .v (.L L), .v (.n (ncells L - 1)), .v (.n a), s7] _ _ _ _
        refine jb_one (SD.imp (js_app 3 rfl (je_is (je_catL (je_var 4) (je_lst (ja_cons (je_var 6) ja_nil) (Nat.le_of_ble_eq_true rfl)) (by rw [List.length_map, List.length_singleton]; omega)) (d' := .L (L ++ [a])) (by show Dt.lst _ = Dt.lst _; rw [List.map_append]; rfl)) (by rw [List.length_map, List.length_append, List.length_map, List.length_range]; omega)) (fun zz e => ⟨.v (.n a), e.trans ?_⟩) fun _ h => h)
        rw [map_snoc]
        rfl
      · rintro r ⟨s6, rfl⟩
        generalize hA2 : acc ++ (List.range (ncells L)).map (fun a => L ++ [a]) = acc2
        have hacc2 : acc2.length ≤ 80 := by rw [← hA2, List.length_append, List.length_map, List.length_range]; omega
        refine jb_one (js_forN 6 (List.range (ncells L + 1)) Dt.n (ji_range Z.range (je_is (je_add (je_var 5) je_int) (d' := .n (ncells L + 1)) (by show Dt.int _ = Dt.int _; congr 1; omega)) (by omega)) (fun j r => ∃ s6, r = [.v (.n n), .v (.LL (ranks (y + 1))), .v (.n (1 + y)), .o ((acc2 ++ (List.range j).map (up1 L)).map Dt.L), .v (.L L), .v (.n (ncells L - 1)), s6, s7]) ⟨s6, by rw [List.range_zero, List.map_nil, List.append_nil]⟩ ?_ (fun r ⟨s6, e⟩ => ⟨.v (.L L), .v (.n (ncells L - 1)), s6, s7, ?_⟩))
        · rintro j a r hj ⟨s6, rfl⟩
          obtain ⟨hj1, hj2⟩ := List.getElem?_eq_some_iff.mp hj
          rw [List.length_range] at hj1
          have e : a = j := by rw [← hj2, List.getElem_range]
          subst e
          show JB _ _ [.v (.n n), .v (.LL (ranks (y + 1))), .v (.n (1 + y)), .o ((acc2 ++ (List.range a).map (up1 L)).map Dt.L), .v (.L L), .v (.n (ncells L - 1)), .v (.n a), s7] _ _ _ _
          refine jb_one (SD.imp (js_app 3 rfl (je_is (je_catL (je_lcM 7 L Dt.n (fun l => .n (if a ≤ l then l + 1 else l)) (ji_seq (je_var 4) (.inr rfl)) (fun l _ => je_if (jt_ge (je_var 7) (je_var 6)) (fun hb => je_is (je_add (je_var 7) je_int) ?_) (fun hb => je_is (je_var 7) ?_)) (by omega)) (je_lst (ja_cons (je_var 6) ja_nil) (Nat.le_of_ble_eq_true rfl)) (by rw [List.length_map, List.length_singleton]; omega)) (d' := .L (up1 L a)) ?_) (by rw [List.length_map, List.length_append, List.length_map, List.length_range]; omega)) (fun zz e => ⟨.v (.n a), e.trans ?_⟩) fun _ h => h)
          · have hb := of_decide_eq_true hb
            rw [if_pos (by omega)]
            rfl
          · have hb := of_decide_eq_false hb
            rw [if_neg (by omega)]
          · show Dt.lst _ = Dt.lst _
            unfold up1
            rw [List.map_append, List.map_map]
            rfl
          · rw [map_snoc]
            rfl
        · rw [e, List.length_range, ← hA2, ← hA, take_succ hi, List.flatMap_append, List.flatMap_cons, List.flatMap_nil, List.append_nil, List.append_assoc]
          rfl
    · rintro r ⟨s4, s5, s6, s7, rfl⟩
      refine jb_freeze 3 rfl ?_
      exact jb_one (SD.imp (js_set 1 (je_list Z.list (je_var 3) (.inr rfl))) (fun zz e => ⟨.v (.n (1 + y)), .v (.LL (ranks (y + 2))), s4, s5, s6, s7, e⟩) fun _ h => h)
  · rintro r ⟨s2, s3, s4, s5, s6, s7, rfl⟩
    exact jb_one (js_ret (je_var 1) rfl)
/-! ### what is reached -/
theorem sc_lreach : FnScope ["_law_levels", "_law_word", "_law_worlds", "_law_lots_here", "_law_found", "_law_steps", "_law_at", "_law_lot_here", "_law_new"] ["_law_levels", "_law_word"] (defScope (top 66)) := ⟨rfl, rfl, rfl, by decide +kernel, rfl, by decide +kernel, by decide +kernel⟩
def RReach (ds : List Dt) (d : Dt) : Prop := ∃ (L : List Nat) (w : Str) (t : List Nat → List Nat → List Nat), ds = [.L L, .str w] ∧ Dn L ∧ L.length ≤ 4 ∧ ((w = "level" ∧ t = turnL) ∨ (w = "sink" ∧ t = turnS)) ∧ d = .tup [.LL (reach t L).1, .L (reach t L).2]
structure BSt (n m : Nat) (st : List (List Nat) × List Nat) : Prop where
  dn : ∀ F ∈ st.1, Dn F ∧ F.length = n
  len : st.1.length = st.2.length
  sz : st.1.length ≤ m
theorem reach_succ {α β : Type} (f : β → α → β) (b : β) {xs : List α} {i : Nat} {x : α} (h : xs[i]? = some x) : (xs.take (i + 1)).foldl f b = f ((xs.take i).foldl f b) x := by
  rw [take_succ h, List.foldl_append]
  rfl
abbrev TurnC (G : Gx) : Prop := Callee G "_law_turn" 3 ["_law_levels", "_law_word", "_law_lot_here"] RTurn
theorem getD_mem {st : List (List Nat)} {i : Nat} (h : i < st.length) : st.getD i [] ∈ st := by
  rw [List.getD_eq_getElem?_getD, List.getElem?_eq_getElem h]
  exact List.getElem_mem h
theorem ok_lreach (Z : Bt G) (cL : Callee G "_law_lots" 1 ["_law_worlds"] RLots) (cT : TurnC G) (D : DefAt G "_law_reached" "_law_reached" (top 66)) : Callee G "_law_reached" 4 ["_law_levels", "_law_word"] RReach := by
  refine callee_of D sc_lreach (fun _ _ _ _ _ _ us hl => match us, hl with | [_, _], _ => rfl) (fun ds d ⟨_, _, _, e, _⟩ => by rw [e]; rfl) fun ds d ⟨L, w, t, e, hL, h4, hw, ed⟩ => ?_
  subst e ed
  have hp := hL.pos
  have hok := lots_ok (n := L.length) hp h4
  unfold lotsOk at hok
  simp only [Bool.and_eq_true] at hok
  obtain ⟨⟨⟨⟨⟨⟨⟨o1, o2⟩, o3⟩, o4⟩, o5⟩, o6⟩, o7⟩, o8⟩ := hok
  have o8 := of_decide_eq_true o8
  have hlotlen : (lots L.length).dropLast.length ≤ 16 := by rw [List.length_dropLast]; omega
  have htd : ∀ (F lot : List Nat), Dn F → Dn (t F lot) ∧ (t F lot).length = F.length := fun F lot hF => by
    rcases hw with ⟨_, rfl⟩ | ⟨_, rfl⟩
    · exact turnL_dn hF
    · exact turnS_dn hF
  show JB _ _ [.v (.L L), .v (.str w), .un, .un, .un, .un, .un, .un, .un] _ _ _ _
  refine jb_then (js_set 2 (je_is (je_len Z.len (je_var 0) (.inr rfl)) (d' := .n L.length) (by rw [List.length_map]))) ?_
  refine jb_then (js_set 3 (je_is (je_initL (je_call cL (ja_cons (je_var 2) ja_nil) ⟨L.length, rfl, hp, h4, rfl⟩)) (d' := .LT (lots L.length).dropLast) (by show Dt.lst _ = Dt.lst _; rw [List.map_dropLast]))) ?_
  refine jb_then (js_own 4 (ja_cons (je_list Z.list (je_var 0) (.inr rfl)) ja_nil) (Nat.le_of_ble_eq_true rfl)) ?_
  refine jb_then (js_own 5 (ja_cons je_int ja_nil) (Nat.le_of_ble_eq_true rfl)) ?_
  refine jb_cons (js_forN 6 (List.range 80) Dt.n (ji_range (n := 80) Z.range je_int (by omega)) (fun k r => ∃ s6 s7 s8, BSt L.length (1 + 16 * k) ((List.range k).foldl (bout t (lots L.length).dropLast) ([L], [0])) ∧ r = [.v (.L L), .v (.str w), .v (.n L.length), .v (.LT (lots L.length).dropLast), .o ((((List.range k).foldl (bout t (lots L.length).dropLast) ([L], [0])).1).map Dt.L), .o ((((List.range k).foldl (bout t (lots L.length).dropLast) ([L], [0])).2).map Dt.n), s6, s7, s8])
    ⟨.un, .un, .un, ⟨fun F hF => by rw [List.mem_singleton.mp hF]; exact ⟨hL, rfl⟩, rfl, by simp⟩, rfl⟩ ?_ (N := fun r => ∃ s6 s7 s8, r = [.v (.L L), .v (.str w), .v (.n L.length), .v (.LT (lots L.length).dropLast), .o ((reach t L).1.map Dt.L), .o ((reach t L).2.map Dt.n), s6, s7, s8]) (fun r ⟨s6, s7, s8, _, e⟩ => ⟨s6, s7, s8, by rw [e, List.length_range]; rfl⟩)) ?_
  · rintro k y r hk ⟨s6, s7, s8, hst, rfl⟩
    obtain ⟨hk1, hk2⟩ := List.getElem?_eq_some_iff.mp hk
    rw [List.length_range] at hk1
    have e : y = k := by rw [← hk2, List.getElem_range]
    subst e
    generalize hS : (List.range y).foldl (bout t (lots L.length).dropLast) ([L], [0]) = st at hst
    have hnext : (List.range (y + 1)).foldl (bout t (lots L.length).dropLast) ([L], [0]) = bout t (lots L.length).dropLast st y := by
      rw [List.range_succ, List.foldl_append, hS]
      rfl
    rw [hnext]
    show JB _ _ [.v (.L L), .v (.str w), .v (.n L.length), .v (.LT (lots L.length).dropLast), .o (st.1.map Dt.L), .o (st.2.map Dt.n), .v (.n y), s7, s8] _ _ _ _
    by_cases hy : y < st.1.length
    · have hb : bout t (lots L.length).dropLast st y = (lots L.length).dropLast.foldl (bin t y) st := by unfold bout; rw [if_pos hy]
      rw [hb]
      refine jb_one (js_if (jt_is (jt_lt (je_var 6) (je_lenO 4 Z.len rfl)) (b' := true) (by rw [List.length_map]; simpa using hy)) (fun _ => ?_) (fun h => by cases h))
      refine jb_one (js_forN 7 (lots L.length).dropLast Dt.T (ji_seq (je_var 3) (.inr rfl)) (fun j r => ∃ s7 s8, (y < (((lots L.length).dropLast.take j).foldl (bin t y) st).1.length) ∧ BSt L.length (1 + 16 * y + j) (((lots L.length).dropLast.take j).foldl (bin t y) st) ∧ r = [.v (.L L), .v (.str w), .v (.n L.length), .v (.LT (lots L.length).dropLast), .o ((((lots L.length).dropLast.take j).foldl (bin t y) st).1.map Dt.L), .o ((((lots L.length).dropLast.take j).foldl (bin t y) st).2.map Dt.n), .v (.n y), s7, s8]) ⟨s7, s8, hy, hst, rfl⟩ ?_ (fun r ⟨s7, s8, _, hB, e⟩ => ⟨.v (.n y), s7, s8, ?_⟩))
      · rintro j lot r hj ⟨s7, s8, hy2, hB, rfl⟩
        have hjl := (List.getElem?_eq_some_iff.mp hj).1
        rw [reach_succ (bin t y) st hj]
        generalize ((lots L.length).dropLast.take j).foldl (bin t y) st = su at hy2 hB ⊢
        have hlm := List.all_eq_true.mp o7 lot (List.mem_of_getElem? hj)
        rw [Bool.and_eq_true] at hlm
        have hl100 := of_decide_eq_true hlm.2
        obtain ⟨hF, hFn⟩ := hB.dn _ (getD_mem hy2)
        obtain ⟨ht1, ht2⟩ := htd (su.1.getD y []) lot hF
        have hne : comp (su.1.getD y []).length lot ≠ [] := by
          rw [hFn]
          intro z
          have := hlm.1
          rw [z] at this
          cases this
        show JB _ _ [.v (.L L), .v (.str w), .v (.n L.length), .v (.LT (lots L.length).dropLast), .o (su.1.map Dt.L), .o (su.2.map Dt.n), .v (.n y), .v (.T lot), s8] _ _ _ _
        refine jb_then (js_set 8 (je_call cT (ja_cons (je_ixO (d := .L (su.1.getD y [])) 4 rfl (je_var 6) ?_) (ja_cons (je_var 1) (ja_cons (je_var 7) ja_nil))) (d := .L (t (su.1.getD y []) lot)) ⟨_, lot, w, rfl, hF, by omega, hl100, .inr ⟨fun _ => hne, ?_⟩⟩)) ?_
        · rw [List.getElem?_map, List.getElem?_eq_getElem hy2, List.getD_eq_getElem?_getD, List.getElem?_eq_getElem hy2]
          rfl
        · rcases hw with ⟨rfl, rfl⟩ | ⟨rfl, rfl⟩
          · exact .inl ⟨rfl, rfl⟩
          · exact .inr ⟨rfl, rfl⟩
        have hbin : bin t y su lot = if su.1.contains (t (su.1.getD y []) lot) then su else (su.1 ++ [t (su.1.getD y []) lot], su.2 ++ [su.2.getD y 0 + 1]) := rfl
        by_cases hc : t (su.1.getD y []) lot ∈ su.1
        · rw [hbin, if_pos (by simpa using hc)]
          refine jb_one (js_if (jt_is (jt_ninLLO 4 rfl (je_var 8)) (b' := false) (by rw [decide_eq_true hc]; rfl)) (fun h => by cases h) (fun _ => ?_))
          exact jb_nil ⟨.v (.T lot), .v (.L (t (su.1.getD y []) lot)), hy2, ⟨hB.dn, hB.len, by have := hB.sz; omega⟩, rfl⟩
        · rw [hbin, if_neg (by simpa using hc)]
          refine jb_one (js_if (jt_is (jt_ninLLO 4 rfl (je_var 8)) (b' := true) (by rw [decide_eq_false hc]; rfl)) (fun _ => ?_) (fun h => by cases h))
          have hsz := hB.sz
          have hlen := hB.len
          refine jb_then (js_app 4 rfl (je_var 8) (by rw [List.length_map]; omega)) ?_
          refine jb_one (SD.imp (js_app 5 rfl (je_add (je_ixO (d := .n (su.2.getD y 0)) 5 rfl (je_var 6) ?_) je_int) (by rw [List.length_map]; omega)) (fun zz e => ⟨.v (.T lot), .v (.L (t (su.1.getD y []) lot)), ?_, ⟨fun F hF2 => ?_, ?_, ?_⟩, e.trans ?_⟩) fun _ h => h)
          · have : y < su.2.length := by omega
            rw [List.getElem?_map, List.getElem?_eq_getElem this, List.getD_eq_getElem?_getD, List.getElem?_eq_getElem this]
            rfl
          · rw [List.length_append]; omega
          · rcases List.mem_append.mp hF2 with hF2 | hF2
            · exact hB.dn F hF2
            · rw [List.mem_singleton.mp hF2]
              exact ⟨ht1, by rw [ht2, hFn]⟩
          · simp only [List.length_append, List.length_singleton]; omega
          · simp only [List.length_append, List.length_singleton]; omega
          · rw [List.map_append, List.map_append]
            rfl
      · rw [List.take_length] at hB e
        exact ⟨⟨hB.dn, hB.len, by have := hB.sz; omega⟩, e⟩
    · have hb : bout t (lots L.length).dropLast st y = st := by unfold bout; rw [if_neg hy]
      rw [hb]
      refine jb_one (js_if (jt_is (jt_lt (je_var 6) (je_lenO 4 Z.len rfl)) (b' := false) (by rw [List.length_map]; simp; omega)) (fun h => by cases h) (fun _ => ?_))
      exact jb_nil ⟨.v (.n y), s7, s8, ⟨hst.dn, hst.len, by have := hst.sz; omega⟩, rfl⟩
  · rintro r ⟨s6, s7, s8, rfl⟩
    refine jb_freeze 4 rfl ?_
    refine jb_freeze 5 rfl ?_
    exact jb_one (js_ret (je_tup (ja_cons (je_var 4) (ja_cons (je_var 5) ja_nil)) (Nat.le_of_ble_eq_true rfl)) rfl)
end My

/-! # L3c -/
namespace My
open PySem L2
variable {G : Gx}
theorem sc_llrow : FnScope ["_law_levels", "_law_goal", "_law_worlds", "_law_first", "_law_rest_here", "_law_one", "_law_other", "_law_row", "_law_cell", "_law_part"] ["_law_levels", "_law_goal"] (defScope (top 67)) := ⟨rfl, rfl, rfl, by decide +kernel, rfl, by decide +kernel, by decide +kernel⟩
def RLL (ds : List Dt) (d : Dt) : Prop := ∃ L M : List Nat, ds = [.L L, .L M] ∧ Two L M ∧ d = oTT (lrow L M)
theorem comp_sel (n : Nat) (p : Nat → Bool) : comp n (sel n p) = sel n fun w => !p w := by
  unfold comp
  refine List.filter_congr fun w hw => ?_
  rw [sel_contains (List.mem_range.mp hw)]
theorem bool_ne {a b : Prop} [Decidable a] [Decidable b] : (!(decide a == decide b)) = true ↔ ¬ (a ↔ b) := by
  by_cases h1 : a <;> by_cases h2 : b <;> simp [h1, h2]
theorem heldIn2 (L M : List Nat) (hl : L.length = M.length) : ((sel L.length (heldB L)).all fun w => (sel M.length (heldB M)).contains w) = (cell L 0).all (heldB M) := by
  rw [Bool.eq_iff_iff, List.all_eq_true, List.all_eq_true]
  have key : ∀ x, x ∈ sel L.length (heldB L) → (sel M.length (heldB M)).contains x = heldB M x := fun x hx => sel_contains (by rw [← hl]; exact (mem_sel.mp hx).1)
  exact ⟨fun h x hx => by have := h x hx; rw [key x hx] at this; exact this, fun h x hx => by rw [key x hx]; exact h x hx⟩
theorem ok_llrow (Z : Bt G) (cH : Callee G "_law_held" 1 ["_law_levels"] RLHeld) (cI : Callee G "_law_inside" 1 ["_law_one", "_law_other"] RLIn) (cR : Callee G "_law_rest" 1 ["_law_lot_here", "_law_worlds"] RLRest) (cC : Callee G "_law_common" 1 ["_law_one", "_law_other"] RLCommon) (cL : Callee G "_law_cells" 1 ["_law_levels"] RLCells)
    (D : DefAt G "_law_level_row" "_law_level_row" (top 67)) : Callee G "_law_level_row" 2 ["_law_levels", "_law_goal"] RLL := by
  refine callee_of D sc_llrow (fun _ _ _ _ _ _ us hl => match us, hl with | [_, _], _ => rfl) (fun ds d ⟨_, _, e, _⟩ => by rw [e]; rfl) fun ds d ⟨L, M, e, ⟨hL, hM, hl, h12⟩, ed⟩ => ?_
  subst e ed
  have hord := order_iff hl hL hM
  have hC := cs_of hL h12
  have hcl := hC.clen
  have sl := sel_len L.length (heldB L)
  show JB _ _ [.v (.L L), .v (.L M), .un, .un, .un, .un, .un, .un, .un, .un] _ _ _ _
  refine jb_then (js_set 2 (je_is (je_len Z.len (je_var 0) (.inr rfl)) (d' := .n L.length) (by rw [List.length_map]))) ?_
  refine jb_then (js_set 3 (je_call cH (ja_cons (je_var 1) ja_nil) ⟨M, rfl, by omega, rfl⟩)) ?_
  refine jb_then (js_set 4 (je_is (je_call cR (ja_cons (je_var 3) (ja_cons (je_var 2) ja_nil)) ⟨_, L.length, rfl, h12, rfl⟩) (d' := .T (sel L.length fun w => !heldB M w)) (by rw [← hl, comp_sel]))) ?_
  refine jb_ifret (jt_not (jt_val (je_call cI (ja_cons (je_call cH (ja_cons (je_var 0) ja_nil) ⟨L, rfl, h12, rfl⟩) (ja_cons (je_var 3) ja_nil)) ⟨_, _, rfl, by omega, rfl⟩))) (fun hb N' => ?_) fun hb => ?_
  · rw [heldIn2 L M hl] at hb
    refine jb_one (js_ret je_non ?_)
    unfold lrow
    rw [if_neg]
    · rfl
    · rw [Bool.and_eq_true]
      rintro ⟨a, _⟩
      rw [a] at hb
      cases hb
  · rw [heldIn2 L M hl] at hb
    have hin : (cell L 0).all (heldB M) = true := by simpa using hb
    have hnone : ∀ u w, u < L.length → w < L.length → heldB M u = false → heldB M w = false → ¬ (lv L u < lv L w ↔ lv M u < lv M w) → oTT (lrow L M) = .non := fun u w hu hw h1 h2 h3 => by
      unfold lrow
      rw [if_neg]
      · rfl
      · rw [Bool.and_eq_true]
        rintro ⟨_, b⟩
        exact h3 (hord.mpr (beq_iff_eq.mp b) u w hu hw h1 h2)
    have hrl : (sel L.length fun w => !heldB M w).length ≤ L.length := sel_len _ _
    refine jb_cons (js_forN 5 (sel L.length fun w => !heldB M w) Dt.n (ji_seq (je_var 4) (.inl rfl)) (fun k r => ∃ s5 s6, (∀ u ∈ (sel L.length fun w => !heldB M w).take k, ∀ w ∈ sel L.length fun w => !heldB M w, (lv L u < lv L w ↔ lv M u < lv M w)) ∧ r = [.v (.L L), .v (.L M), .v (.n L.length), .v (.T (sel M.length (heldB M))), .v (.T (sel L.length fun w => !heldB M w)), s5, s6, .un, .un, .un]) ⟨.un, .un, (fun u hu => by rw [List.take_zero] at hu; cases hu), rfl⟩ ?_
      (N := fun r => ∃ s5 s6, (∀ u ∈ (sel L.length fun w => !heldB M w), ∀ w ∈ sel L.length fun w => !heldB M w, (lv L u < lv L w ↔ lv M u < lv M w)) ∧ r = [.v (.L L), .v (.L M), .v (.n L.length), .v (.T (sel M.length (heldB M))), .v (.T (sel L.length fun w => !heldB M w)), s5, s6, .un, .un, .un]) (fun r ⟨s5, s6, a, e⟩ => ⟨s5, s6, by rw [List.take_length] at a; exact a, e⟩)) ?_
    · rintro k u r hk ⟨s5, s6, hbef, rfl⟩
      have hum := mem_sel.mp (List.mem_of_getElem? hk)
      show JB _ _ [.v (.L L), .v (.L M), .v (.n L.length), .v (.T (sel M.length (heldB M))), .v (.T (sel L.length fun w => !heldB M w)), .v (.n u), s6, .un, .un, .un] _ _ _ _
      refine jb_one (js_forN 6 (sel L.length fun w => !heldB M w) Dt.n (ji_seq (je_var 4) (.inl rfl)) (fun j r => ∃ s6, (∀ w ∈ (sel L.length fun w => !heldB M w).take j, (lv L u < lv L w ↔ lv M u < lv M w)) ∧ r = [.v (.L L), .v (.L M), .v (.n L.length), .v (.T (sel M.length (heldB M))), .v (.T (sel L.length fun w => !heldB M w)), .v (.n u), s6, .un, .un, .un]) ⟨s6, (fun w hw => by rw [List.take_zero] at hw; cases hw), rfl⟩ ?_
        (fun r ⟨s6, a, e⟩ => ⟨.v (.n u), s6, fun u' hu' w hw => ?_, e⟩))
      · rintro j w r hj ⟨s6, hbef2, rfl⟩
        have hwm := mem_sel.mp (List.mem_of_getElem? hj)
        show JB _ _ [.v (.L L), .v (.L M), .v (.n L.length), .v (.T (sel M.length (heldB M))), .v (.T (sel L.length fun w => !heldB M w)), .v (.n u), .v (.n w), .un, .un, .un] _ _ _ _
        refine jb_ifret (jt_neB (je_lt (je_ix (je_var 0) (.inr rfl) (je_var 5) (lev_get hum.1)) (je_ix (je_var 0) (.inr rfl) (je_var 6) (lev_get hwm.1))) (je_lt (je_ix (je_var 1) (.inr rfl) (je_var 5) (lev_get (by omega))) (je_ix (je_var 1) (.inr rfl) (je_var 6) (lev_get (by omega))))) (fun hb N' => ?_) fun hb => ?_
        · refine jb_one (js_ret je_non ?_)
          refine (hnone u w hum.1 hwm.1 (by simpa using hum.2) (by simpa using hwm.2) fun z => ?_).symm
          exact bool_ne.mp hb (by omega)
        · refine jb_nil ⟨.v (.n w), fun w' hw' => ?_, rfl⟩
          rw [take_succ hj] at hw'
          rcases List.mem_append.mp hw' with h | h
          · exact hbef2 w' h
          · rw [List.mem_singleton.mp h]
            have : ¬ ¬ (((lv L u : Int) < lv L w) ↔ ((lv M u : Int) < lv M w)) := fun z => by rw [bool_ne.mpr z] at hb; cases hb
            have := Decidable.not_not.mp this
            omega
      · rw [take_succ hk] at hu'
        rw [List.take_length] at a
        rcases List.mem_append.mp hu' with h | h
        · exact hbef u' h w hw
        · rw [List.mem_singleton.mp h]
          exact a w hw
    · rintro r ⟨s5, s6, hall, rfl⟩
      have hmrg : mrg L (heldB M) = M := hord.mp fun u w hu hw h1 h2 => hall u (mem_sel.mpr ⟨hu, by simp [h1]⟩) w (mem_sel.mpr ⟨hw, by simp [h2]⟩)
      have hrow : lrow L M = some ((parts L (heldB M)).map (comp L.length)) := by
        unfold lrow
        rw [if_pos (by rw [Bool.and_eq_true]; exact ⟨hin, beq_iff_eq.mpr hmrg⟩)]
      refine jb_then (js_own 7 ja_nil) ?_
      have hcons : Dt.TT (cellsOf L) = .tup (.T (cell L 0) :: (cellsOf L).tail.map Dt.T) := by
        rw [show cellsOf L = cell L 0 :: (cellsOf L).tail by rw [cellsOf_cons hL]; rfl]
        rfl
      have htl : (cellsOf L).tail.length ≤ 12 := by rw [List.length_tail]; omega
      have hmk : ∀ c ∈ (cellsOf L).tail, (c.filter fun w => (sel M.length (heldB M)).contains w) = c.filter (heldB M) := fun c hc => List.filter_congr fun w hw => by
        rw [sel_contains (by rw [← hl]; exact cell_lt hL h12 (List.mem_of_mem_tail hc) hw)]
      refine jb_cons (js_forN 8 (cellsOf L).tail Dt.T (ji_seq (je_tailT (je_is (je_call cL (ja_cons (je_var 0) ja_nil) ⟨L, rfl, hL, h12, rfl⟩) hcons)) (.inl rfl)) (fun k r => ∃ s8 s9, r = [.v (.L L), .v (.L M), .v (.n L.length), .v (.T (sel M.length (heldB M))), .v (.T (sel L.length fun w => !heldB M w)), s5, s6, .o (((((((cellsOf L).tail.take k).map fun c => c.filter (heldB M)).filter ne0)).map (comp L.length)).map Dt.T), s8, s9]) ⟨.un, .un, rfl⟩ ?_
        (N := fun r => ∃ s8 s9, r = [.v (.L L), .v (.L M), .v (.n L.length), .v (.T (sel M.length (heldB M))), .v (.T (sel L.length fun w => !heldB M w)), s5, s6, .o (((parts L (heldB M)).map (comp L.length)).map Dt.T), s8, s9]) (fun r ⟨s8, s9, e⟩ => ⟨s8, s9, by rw [e, List.take_length]; rfl⟩)) ?_
      · rintro k c r hk ⟨s8, s9, rfl⟩
        have hcm := List.mem_of_getElem? hk
        have hclen := (cell_asc hL h12 (List.mem_of_mem_tail hcm)).len
        have hsz : ((((cellsOf L).tail.take k).map fun c => c.filter (heldB M)).filter ne0).length ≤ 12 := by
          refine Nat.le_trans (List.length_filter_le _ _) ?_
          rw [List.length_map, List.length_take]
          omega
        have hstep : (((cellsOf L).tail.take (k + 1)).map fun c => c.filter (heldB M)).filter ne0 = (((cellsOf L).tail.take k).map fun c => c.filter (heldB M)).filter ne0 ++ (if ne0 (c.filter (heldB M)) then [c.filter (heldB M)] else []) := by
          rw [take_succ hk, List.map_append, List.filter_append]
          congr 1
          simp only [List.map_cons, List.map_nil]
          by_cases h : ne0 (c.filter (heldB M)) = true
          · rw [if_pos h, List.filter_cons_of_pos h, List.filter_nil]
          · rw [if_neg h, List.filter_cons_of_neg h, List.filter_nil]
        rw [hstep]
        generalize (((cellsOf L).tail.take k).map fun c => c.filter (heldB M)).filter ne0 = acc at hsz ⊢
        show JB _ _ [.v (.L L), .v (.L M), .v (.n L.length), .v (.T (sel M.length (heldB M))), .v (.T (sel L.length fun w => !heldB M w)), s5, s6, .o ((acc.map (comp L.length)).map Dt.T), .v (.T c), s9] _ _ _ _
        refine jb_then (js_set 9 (je_is (je_call cC (ja_cons (je_var 8) (ja_cons (je_var 3) ja_nil)) ⟨c, sel M.length (heldB M), rfl, by omega, rfl⟩) (d' := .T (c.filter (heldB M))) (congrArg Dt.T (hmk c hcm)))) ?_
        by_cases h : ne0 (c.filter (heldB M)) = true
        · rw [if_pos h]
          refine jb_one (js_if (jt_is (jt_gt (je_len Z.len (je_var 9) (.inl rfl)) je_int) (b' := true) ?_) (fun _ => ?_) (fun h => by cases h))
          · rw [List.length_map, decide_eq_true_iff]
            have : (c.filter (heldB M)).length ≠ 0 := fun z => by rw [List.length_eq_zero_iff.mp z] at h; cases h
            omega
          · refine jb_one (SD.imp (js_app 7 rfl (je_call cR (ja_cons (je_var 9) (ja_cons (je_var 2) ja_nil)) ⟨_, L.length, rfl, h12, rfl⟩) (by rw [List.length_map, List.length_map]; omega)) (fun zz e => ⟨.v (.T c), .v (.T (c.filter (heldB M))), e.trans ?_⟩) fun _ h => h)
            rw [List.map_append, List.map_append]
            rfl
        · rw [if_neg h, List.append_nil]
          refine jb_one (js_if (jt_is (jt_gt (je_len Z.len (je_var 9) (.inl rfl)) je_int) (b' := false) ?_) (fun h => by cases h) (fun _ => jb_nil ⟨.v (.T c), .v (.T (c.filter (heldB M))), rfl⟩))
          rw [List.length_map, decide_eq_false_iff_not]
          have : c.filter (heldB M) = [] := by
            cases e : c.filter (heldB M) with
            | nil => rfl
            | cons a b => rw [e] at h; exact (h rfl).elim
          rw [this]
          simp
      · rintro r ⟨s8, s9, rfl⟩
        refine jb_freeze 7 rfl ?_
        exact jb_one (js_ret (je_tuple Z.tuple (je_var 7) (.inr rfl)) (by rw [hrow]; rfl))
theorem sc_lsink : FnScope ["_law_levels", "_law_goal", "_law_world", "_law_lot_here"] ["_law_levels", "_law_goal"] (defScope (top 68)) := ⟨rfl, rfl, rfl, by decide +kernel, rfl, by decide +kernel, by decide +kernel⟩
def RLS (ds : List Dt) (d : Dt) : Prop := ∃ L M : List Nat, ds = [.L L, .L M] ∧ Two L M ∧ d = oT (sinkLot L M)
theorem ok_lsink (Z : Bt G) (cR : Callee G "_law_rest" 1 ["_law_lot_here", "_law_worlds"] RLRest) (cT : TurnC G) (D : DefAt G "_law_sink_lot" "_law_sink_lot" (top 68)) : Callee G "_law_sink_lot" 4 ["_law_levels", "_law_goal"] RLS := by
  refine callee_of D sc_lsink (fun _ _ _ _ _ _ us hl => match us, hl with | [_, _], _ => rfl) (fun ds d ⟨_, _, e, _⟩ => by rw [e]; rfl) fun ds d ⟨L, M, e, ⟨hL, hM, hl, h12⟩, ed⟩ => ?_
  subst e ed
  have eqD : ∀ X Y : List Nat, (decide (X = Y)) = (X == Y) := fun X Y => by rw [Bool.eq_iff_iff]; simp
  have lenL : ∀ (S : SC) (e : Expr) (ρ : List Sl), JE S e ρ (.n (L.map Dt.n).length) → JE S e ρ (.n L.length) := fun S e ρ h => je_is h (by rw [List.length_map])
  show JB _ _ [.v (.L L), .v (.L M), .un, .un] _ _ _ _
  refine jb_ifret (jt_is (jt_eqD (p := L = M) (je_var 0) (je_var 1) (pln_L _) (pln_L _) (Nat.le_trans (dep_L _) (by omega)) (Nat.le_trans (dep_L _) (by omega)) L_iff) (eqD L M)) (fun hb N' => ?_) fun hb => ?_
  · refine jb_one (js_ret (je_tup ja_nil) ?_)
    unfold sinkLot
    rw [if_pos hb]
    rfl
  · have hsl : sinkLot L M = ((List.range L.length).find? fun x => turnS L (comp L.length [x]) == M).map fun x => comp L.length [x] := by
      unfold sinkLot
      rw [if_neg (by rw [hb]; simp)]
    rw [hsl]
    refine jb_cons (js_forN 2 (List.range L.length) Dt.n (ji_range Z.range (lenL _ _ _ (je_len Z.len (je_var 0) (.inr rfl))) (by omega)) (fun k r => (∀ x, x < k → (turnS L (comp L.length [x]) == M) = false) ∧ ∃ s2 s3, r = [.v (.L L), .v (.L M), s2, s3]) ⟨fun x hx => by omega, .un, .un, rfl⟩ ?_ (N := fun r => (∀ x, x < L.length → (turnS L (comp L.length [x]) == M) = false) ∧ ∃ s2 s3, r = [.v (.L L), .v (.L M), s2, s3]) (fun r h => by rw [List.length_range] at h; exact h)) ?_
    · rintro k y r hk ⟨hbefore, s2, s3, rfl⟩
      obtain ⟨hi, hy⟩ := List.getElem?_eq_some_iff.mp hk
      rw [List.length_range] at hi
      have e : y = k := by rw [← hy, List.getElem_range]
      subst e
      show JB _ _ [.v (.L L), .v (.L M), .v (.n y), s3] _ _ _ _
      refine jb_then (js_set 3 (je_call cR (ja_cons (je_is (je_tup (ja_cons (je_var 2) ja_nil) (Nat.le_of_ble_eq_true rfl)) (d' := .T [y]) rfl) (ja_cons (lenL _ _ _ (je_len Z.len (je_var 0) (.inr rfl))) ja_nil)) ⟨[y], L.length, rfl, h12, rfl⟩)) ?_
      have hcl := comp_len L.length [y]
      have hne : comp L.length (comp L.length [y]) ≠ [] := fun z => by
        have := (comp_one hi).1
        rw [z] at this
        cases this
      refine jb_ifret (jt_is (jt_eqD (p := turnS L (comp L.length [y]) = M) (je_call cT (ja_cons (je_var 0) (ja_cons je_str (ja_cons (je_var 3) ja_nil))) (d := .L (turnS L (comp L.length [y]))) ⟨L, comp L.length [y], "sink", rfl, hL, h12, by omega, .inr ⟨fun _ => hne, .inr ⟨rfl, rfl⟩⟩⟩) (je_var 1) (pln_L _) (pln_L _) (Nat.le_trans (dep_L _) (by omega)) (Nat.le_trans (dep_L _) (by omega)) L_iff) (eqD _ _)) (fun hb2 N' => ?_) fun hb2 => ?_
      · refine jb_one (js_ret (je_var 3) ?_)
        rw [find_first (p := fun x => turnS L (comp L.length [x]) == M) hi hb2 hbefore]
        rfl
      · refine jb_nil ⟨fun x hx => ?_, .v (.n y), .v (.T (comp L.length [y])), rfl⟩
        by_cases c : x = y
        · rw [c]; exact hb2
        · exact hbefore x (by omega)
    · rintro r ⟨hno, s2, s3, rfl⟩
      refine jb_one (js_ret je_non ?_)
      rw [List.find?_eq_none.mpr fun x hx => by rw [hno x (List.mem_range.mp hx)]; simp]
      rfl
end My

/-! # L4 -/
namespace My
open PySem L2
variable {G : Gx}
theorem pln_oTT (o : Option (List (List Nat))) : pln (oTT o) = true := by cases o <;> first | rfl | exact pln_TT _
theorem dep_oTT (o : Option (List (List Nat))) : dep (oTT o) ≤ 64 := by cases o <;> first | exact Nat.zero_le _ | exact Nat.le_trans (dep_TT _) (by omega)
theorem pln_oT (o : Option (List Nat)) : pln (oT o) = true := by cases o <;> first | rfl | exact pln_T _
theorem dep_oT (o : Option (List Nat)) : dep (oT o) ≤ 64 := by cases o <;> first | exact Nat.zero_le _ | exact Nat.le_trans (dep_T _) (by omega)
theorem row_lot {L M : List Nat} {row : List (List Nat)} (hT : Two L M) (e : lrow L M = some row) {lot : List Nat} (h : lot ∈ row) : comp L.length lot ≠ [] ∧ lot.length ≤ 12 := by
  rw [lrow_jp] at e
  cases ej : jp L M with
  | none => rw [ej] at e; cases e
  | some ps =>
    rw [ej] at e
    cases e
    obtain ⟨c, hc, rfl⟩ := List.mem_map.mp h
    have hA := parts_asc hT ej hc
    have h12 := hT.n12
    have hcl := comp_len L.length c
    refine ⟨?_, by omega⟩
    have hne : c ≠ [] := by
      unfold jp at ej
      split at ej
      · cases ej
        intro z
        have := (List.mem_filter.mp hc).2
        rw [z] at this
        cases this
      · cases ej
    cases ec : c with
    | nil => exact (hne ec).elim
    | cons x t =>
      have hx := hA.lt x (by rw [ec]; simp)
      intro z
      have : x ∈ comp L.length (comp L.length (x :: t)) := by rw [comp_mem hx, comp_mem hx]; simp
      rw [z] at this
      cases this
theorem foldL_dn {L : List Nat} : ∀ (xs : List (List Nat)) , Dn L → Dn (xs.foldl turnL L) ∧ (xs.foldl turnL L).length = L.length := by
  intro xs
  induction xs generalizing L with
  | nil => intro h; exact ⟨h, rfl⟩
  | cons x xs ih =>
    intro h
    obtain ⟨a, b⟩ := turnL_dn (lot := x) h
    obtain ⟨c, d⟩ := ih a
    exact ⟨c, d.trans b⟩
theorem sc_lask : FnScope ["_law_levels", "_law_goal", "_law_rank_here", "_law_wanted", "_law_row", "_law_told", "_law_number", "_law_now", "_law_lot_here"] ["_law_levels", "_law_goal"] (defScope (top 69)) := ⟨rfl, rfl, rfl, by decide +kernel, rfl, by decide +kernel, by decide +kernel⟩
def RAsk (ds : List Dt) (d : Dt) : Prop := ∃ L M : List Nat, ds = [.L L, .L M] ∧ Two L M ∧ d = .bl true
theorem ok_lask (Z : Bt G) (F : RkF G) (cO : OfM G) (cLR : Callee G "_law_level_row" 2 ["_law_levels", "_law_goal"] RLL) (cLS : Callee G "_law_sink_lot" 4 ["_law_levels", "_law_goal"] RLS) (cPR : Callee G "level_row" 6 ["rank", "goal"] RLrow) (cPF : Callee G "fewest_levels" 4 ["rank", "goal"] RFew) (cPS : Callee G "one_sink" 8 ["rank", "goal"] ROne)
    (cT : TurnC G) (cI : Callee G "_law_int" 1 ["_law_value"] RWhole) (D : DefAt G "_law_asked" "_law_asked" (top 69)) : Callee G "_law_asked" 9 ["_law_levels", "_law_goal"] RAsk := by
  refine callee_of D sc_lask (fun _ _ _ _ _ _ us hl => match us, hl with | [_, _], _ => rfl) (fun ds d ⟨_, _, e, _⟩ => by rw [e]; rfl) fun ds d ⟨L, M, e, hT, ed⟩ => ?_
  subst e ed
  have hL := hT.l
  have hM := hT.m
  have hl := hT.len
  have h12 := hT.n12
  show JB _ _ [.v (.L L), .v (.L M), .un, .un, .un, .un, .un, .un, .un] _ _ _ _
  refine jb_then (js_set 2 (je_cmeth F cO (ja_cons (je_var 0) ja_nil) ⟨L, rfl, hL, h12, rfl⟩)) ?_
  refine jb_then (js_set 3 (je_cmeth F cO (ja_cons (je_var 1) ja_nil) ⟨M, rfl, hM, by omega, rfl⟩)) ?_
  refine jb_then (js_set 4 (je_call cLR (ja_cons (je_var 0) (ja_cons (je_var 1) ja_nil)) ⟨L, M, rfl, hT, rfl⟩)) ?_
  refine jb_then (js_set 5 (je_call cPR (ja_cons (je_var 2) (ja_cons (je_var 3) ja_nil)) ⟨L, M, rfl, hT, rfl⟩)) ?_
  refine jb_then (js_set 6 (je_call cPF (ja_cons (je_var 2) (ja_cons (je_var 3) ja_nil)) ⟨L, M, rfl, hT, rfl⟩)) ?_
  refine jb_skip (jt_is (jt_w (jw_or (jt_neD (p := True) (je_var 5) (je_var 4) (pln_oTT _) (pln_oTT _) (dep_oTT _) (dep_oTT _) (by simp)) fun _ => jw_or1 (jt_neD (p := True) (je_call cPS (ja_cons (je_var 2) (ja_cons (je_var 3) ja_nil)) ⟨L, M, rfl, hT, rfl⟩) (je_call cLS (ja_cons (je_var 0) (ja_cons (je_var 1) ja_nil)) ⟨L, M, rfl, hT, rfl⟩) (pln_oT _) (pln_oT _) (dep_oT _) (dep_oT _) (by simp)))) (by simp)) ?_
  cases er : lrow L M with
  | none =>
    show JB _ _ [.v (.L L), .v (.L M), .v (.rk L), .v (.rk M), .v .non, .v .non, .v .non, .un, .un] _ _ _ _
    exact jb_ifret (jt_isN (je_var 4)) (fun _ N' => jb_one (js_ret (je_isN (je_var 6)) rfl)) (fun h => by cases h)
  | some row =>
    show JB _ _ [.v (.L L), .v (.L M), .v (.rk L), .v (.rk M), .v (.TT row), .v (.TT row), .v (.n row.length), .un, .un] _ _ _ _
    refine jb_skip (jt_is (jt_isN (je_var 4)) rfl) ?_
    refine jb_then (js_set 7 (je_list Z.list (je_var 0) (.inr rfl))) ?_
    refine jb_cons (js_forN 8 row Dt.T (ji_seq (je_var 5) (.inl rfl)) (fun k r => ∃ s8, r = [.v (.L L), .v (.L M), .v (.rk L), .v (.rk M), .v (.TT row), .v (.TT row), .v (.n row.length), .v (.L ((row.take k).foldl turnL L)), s8]) ⟨.un, rfl⟩ ?_ (N := fun r => ∃ s8, r = [.v (.L L), .v (.L M), .v (.rk L), .v (.rk M), .v (.TT row), .v (.TT row), .v (.n row.length), .v (.L M), s8]) (fun r ⟨s8, e⟩ => ⟨s8, by rw [e, List.take_length, row_fold hl hL er]⟩)) ?_
    · rintro k lot r hk ⟨s8, rfl⟩
      obtain ⟨h1, h2⟩ := row_lot hT er (List.mem_of_getElem? hk)
      obtain ⟨f1, f2⟩ := foldL_dn (L := L) (row.take k) hL
      show JB _ _ [.v (.L L), .v (.L M), .v (.rk L), .v (.rk M), .v (.TT row), .v (.TT row), .v (.n row.length), .v (.L ((row.take k).foldl turnL L)), .v (.T lot)] _ _ _ _
      refine jb_one (SD.imp (js_set 7 (je_call cT (ja_cons (je_var 7) (ja_cons je_str (ja_cons (je_var 8) ja_nil))) (d := .L (turnL ((row.take k).foldl turnL L) lot)) ⟨_, lot, "level", rfl, f1, by omega, by omega, .inr ⟨fun _ => by rw [f2]; exact h1, .inl ⟨rfl, rfl⟩⟩⟩)) (fun zz e => ⟨.v (.T lot), e.trans ?_⟩) fun _ h => h)
      rw [reach_succ turnL L hk]
      rfl
    · rintro r ⟨s8, rfl⟩
      refine jb_one (js_ret (je_is (je_and (je_call cI (ja_cons (je_var 6) ja_nil) ⟨_, rfl, rfl⟩) fun _ => je_and (je_eq (je_var 6) (je_len Z.len (je_var 4) (.inl rfl))) fun _ => je_one (je_eqD (p := True) (je_var 7) (je_var 1) (pln_L _) (pln_L _) (Nat.le_trans (dep_L _) (by omega)) (Nat.le_trans (dep_L _) (by omega)) (by simp))) ?_) rfl)
      simp
theorem bin_len {t : List Nat → List Nat → List Nat} {a : Nat} {st : List (List Nat) × List Nat} (h : st.1.length = st.2.length) (lot : List Nat) : (bin t a st lot).1.length = (bin t a st lot).2.length := by
  unfold bin
  split
  · exact h
  · simp only [List.length_append, List.length_singleton, h]
theorem foldl_inv {α β : Type} {f : β → α → β} {P : β → Prop} (hf : ∀ b a, P b → P (f b a)) : ∀ (xs : List α) (b : β), P b → P (xs.foldl f b)
  | [], b, h => h
  | x :: xs, b, h => foldl_inv hf xs (f b x) (hf b x h)
theorem reach_len (t : List Nat → List Nat → List Nat) (L : List Nat) : (reach t L).1.length = (reach t L).2.length := by
  unfold reach
  refine foldl_inv (P := fun st : List (List Nat) × List Nat => st.1.length = st.2.length) (fun st a h => ?_) _ _ rfl
  unfold bout
  split
  · exact foldl_inv (P := fun st : List (List Nat) × List Nat => st.1.length = st.2.length) (fun st lot h => bin_len h lot) _ _ h
  · exact h
theorem idx_first {x : List Nat} : ∀ {xs : List (List Nat)} {m : Nat}, m < xs.idxOf x → xs[m]? ≠ some x
  | [], m, _ => by simp
  | y :: ys, m, h => by
    rw [List.idxOf_cons] at h
    by_cases c : y = x
    · subst c
      simp at h
    · have hb : (y == x) = false := by rw [beq_eq_false_iff_ne]; exact c
      rw [hb] at h
      cases m with
      | zero => simp [c]
      | succ m =>
        have h' : m < ys.idxOf x := by simpa using h
        simpa using idx_first h'
theorem sc_lall : FnScope ["_law_levels", "_law_worlds", "_law_levelled", "_law_sunk_to", "_law_goal", "_law_row"] ["_law_levels"] (defScope (top 70)) := ⟨rfl, rfl, rfl, by decide +kernel, rfl, by decide +kernel, by decide +kernel⟩
def RAll (ds : List Dt) (d : Dt) : Prop := ∃ L : List Nat, ds = [.L L] ∧ Dn L ∧ L.length ≤ 4 ∧ d = .bl true
theorem isN_oTT (o : Option (List (List Nat))) : (!isN (oTT o)) = o.isSome := by cases o <;> rfl
theorem isN_oT (o : Option (List Nat)) : (!isN (oT o)) = o.isSome := by cases o <;> rfl
theorem dec_contains (x : List Nat) (xs : List (List Nat)) : decide (x ∈ xs) = xs.contains x := by rw [Bool.eq_iff_iff, List.contains_iff_mem]; simp
theorem ok_lall (Z : Bt G) (cR : Callee G "_law_reached" 4 ["_law_levels", "_law_word"] RReach) (cK : Callee G "_law_ranks" 1 ["_law_worlds"] RRanks) (cLR : Callee G "_law_level_row" 2 ["_law_levels", "_law_goal"] RLL) (cLS : Callee G "_law_sink_lot" 4 ["_law_levels", "_law_goal"] RLS) (cA : Callee G "_law_asked" 9 ["_law_levels", "_law_goal"] RAsk)
    (D : DefAt G "_law_all_goals" "_law_all_goals" (top 70)) : Callee G "_law_all_goals" 10 ["_law_levels"] RAll := by
  refine callee_of D sc_lall (fun _ _ _ _ _ _ us hl => match us, hl with | [_], _ => rfl) (fun ds d ⟨_, e, _⟩ => by rw [e]; rfl) fun ds d ⟨L, e, hL, h4, ed⟩ => ?_
  subst e ed
  have hp := hL.pos
  have hrl := reach_len turnL L
  show JB _ _ [.v (.L L), .un, .un, .un, .un, .un] _ _ _ _
  refine jb_then (js_set 1 (je_is (je_len Z.len (je_var 0) (.inr rfl)) (d' := .n L.length) (by rw [List.length_map]))) ?_
  refine jb_then (js_set 2 (je_call cR (ja_cons (je_var 0) (ja_cons je_str ja_nil)) ⟨L, "level", turnL, rfl, hL, h4, .inl ⟨rfl, rfl⟩, rfl⟩)) ?_
  refine jb_then (js_set 3 (je_ix (k := 0) (je_call cR (ja_cons (je_var 0) (ja_cons je_str ja_nil)) ⟨L, "sink", turnS, rfl, hL, h4, .inr ⟨rfl, rfl⟩, rfl⟩) (.inl rfl) je_int rfl)) ?_
  generalize hlv : reach turnL L = lvd at hrl
  generalize hsk : (reach turnS L).1 = sk
  show JB _ _ [.v (.L L), .v (.n L.length), .v (.tup [.LL lvd.1, .L lvd.2]), .v (.LL sk), .un, .un] _ _ _ _
  refine jb_cons (js_forN 4 (ranks L.length) Dt.L (ji_seq (je_call cK (ja_cons (je_var 1) ja_nil) ⟨L.length, rfl, hp, h4, rfl⟩) (.inr rfl)) (fun k r => ∃ s4 s5, r = [.v (.L L), .v (.n L.length), .v (.tup [.LL lvd.1, .L lvd.2]), .v (.LL sk), s4, s5]) ⟨.un, .un, rfl⟩ ?_ (N := fun r => ∃ s4 s5, r = [.v (.L L), .v (.n L.length), .v (.tup [.LL lvd.1, .L lvd.2]), .v (.LL sk), s4, s5]) (fun r h => h)) ?_
  · rintro k M r hk ⟨s4, s5, rfl⟩
    have hMm := List.mem_of_getElem? hk
    obtain ⟨hM, hMn⟩ := ranks_ok hp h4 hMm
    have hT : Two L M := ⟨hL, hM, hMn.symm, by omega⟩
    have hchk := chk_goal hL h4 hMm
    rw [hlv, hsk] at hchk
    unfold chkG at hchk
    rw [Bool.and_eq_true, Bool.and_eq_true] at hchk
    obtain ⟨⟨c1, c2⟩, c3⟩ := hchk
    have c1 := beq_iff_eq.mp c1
    have c3 := beq_iff_eq.mp c3
    show JB _ _ [.v (.L L), .v (.n L.length), .v (.tup [.LL lvd.1, .L lvd.2]), .v (.LL sk), .v (.L M), s5] _ _ _ _
    refine jb_then (js_set 5 (je_call cLR (ja_cons (je_var 0) (ja_cons (je_var 4) ja_nil)) ⟨L, M, rfl, hT, rfl⟩)) ?_
    refine jb_skip (jt_is (jt_w (jw_or (jt_neB (je_inLL (je_var 4) (je_ix (k := 0) (je_var 2) (.inl rfl) je_int rfl)) (je_notN (je_var 5))) fun _ => jw_or1 (jt_not (jt_val (je_call cA (ja_cons (je_var 0) (ja_cons (je_var 4) ja_nil)) ⟨L, M, rfl, hT, rfl⟩))))) (by rw [isN_oTT, dec_contains, c1]; simp)) ?_
    have last : ∀ {s : Stmt} {N2 : List Sl → Prop}, True := fun {_ _} => trivial
    cases er : lrow L M with
    | none =>
      show JB _ _ [.v (.L L), .v (.n L.length), .v (.tup [.LL lvd.1, .L lvd.2]), .v (.LL sk), .v (.L M), .v .non] _ _ _ _
      refine jb_skip (jt_is (jt_w (jw_and (c := false) (jt_notN (je_var 5)) (fun h => by cases h))) rfl) ?_
      refine jb_skip (jt_is (jt_neB (je_inLL (je_var 4) (je_var 3)) (je_notN (je_call cLS (ja_cons (je_var 0) (ja_cons (je_var 4) ja_nil)) ⟨L, M, rfl, hT, rfl⟩))) (by rw [isN_oT, dec_contains, c3]; simp)) ?_
      exact jb_nil ⟨_, _, rfl⟩
    | some row =>
      rw [er] at c1 c2
      have c2 : lvd.2.getD (lvd.1.idxOf M) 0 = row.length := beq_iff_eq.mp c2
      have hmem : M ∈ lvd.1 := by
        rw [← List.contains_iff_mem, c1]
        rfl
      have hix := List.idxOf_lt_length_of_mem hmem
      show JB _ _ [.v (.L L), .v (.n L.length), .v (.tup [.LL lvd.1, .L lvd.2]), .v (.LL sk), .v (.L M), .v (.TT row)] _ _ _ _
      refine jb_skip (jt_is (jt_w (jw_and (jt_notN (je_var 5)) fun _ => jw_and1 (jt_ne (i := (row.length : Int)) (je_ix (d := .n row.length) (k := lvd.1.idxOf M) (je_ix (k := 1) (je_var 2) (.inl rfl) je_int rfl) (.inr rfl) (je_indexLL (x := M) (xss := lvd.1) (je_ix (k := 0) (je_var 2) (.inl rfl) je_int rfl) (je_var 4) (by rw [List.getElem?_eq_getElem hix, List.getElem_idxOf]) fun m hm => ?_) ?_) (je_len Z.len (je_var 5) (.inl rfl))))) (by simp)) ?_
      · exact idx_first hm
      · have : lvd.1.idxOf M < lvd.2.length := by omega
        rw [List.getElem?_map, List.getElem?_eq_getElem this]
        rw [List.getD_eq_getElem?_getD, List.getElem?_eq_getElem this] at c2
        show some (Dt.n _) = some (Dt.n _)
        rw [show lvd.2[lvd.1.idxOf M] = row.length from c2]
      refine jb_skip (jt_is (jt_neB (je_inLL (je_var 4) (je_var 3)) (je_notN (je_call cLS (ja_cons (je_var 0) (ja_cons (je_var 4) ja_nil)) ⟨L, M, rfl, hT, rfl⟩))) (by rw [isN_oT, dec_contains, c3]; simp)) ?_
      exact jb_nil ⟨_, _, rfl⟩
  · rintro r ⟨s4, s5, rfl⟩
    exact jb_one (js_ret je_bl rfl)
end My

/-! # L5 -/
namespace My
open PySem L2
variable {G : Gx}
def it4 (c : Nat) : Nat → Nat × Nat
  | 0 => (0, 1)
  | k + 1 => if (it4 c k).2 < c then ((it4 c k).1 + 1, 2 * (it4 c k).2) else it4 c k
theorem it4_tz : ∀ c, c < 13 → (it4 c 4).1 = tz c := by decide +kernel
theorem cmul2 (j : Int) : CMul 2 j := by
  have e : (2 : Int) ^ 64 = 18446744073709551616 := by decide
  unfold CMul
  rw [e]
  left
  omega
theorem foldD_dn {n : Nat} (xs : List (List Nat)) (hn : 0 < n) : Dn (xs.foldl turnD (flat n)) ∧ (xs.foldl turnD (flat n)).length = n := by
  refine foldl_inv (P := fun F => Dn F ∧ F.length = n) (fun F lot h => ?_) xs _ ⟨(flat_den hn).dn, by simp [flat]⟩
  have := turnD_den (L := F) (lot := lot) (by rw [h.2]; exact hn)
  exact ⟨this.dn, this.len.trans h.2⟩
theorem sc_lany : FnScope ["_law_levels", "_law_goal", "_law_rank_here", "_law_flat", "_law_lot_here", "_law_row", "_law_many", "_law_least", "_law_power", "_law_turn_here", "_law_now", "_law_news", "_law_world"] ["_law_levels", "_law_goal"] (defScope (top 71)) := ⟨rfl, rfl, rfl, by decide +kernel, rfl, by decide +kernel, by decide +kernel⟩
theorem ok_lany (Z : Bt G) (F : RkF G) (cO : OfM G) (cS : Callee G "flat_by_sink" 9 ["rank"] RFbs) (cA : Callee G "act_row" 7 ["rank"] RActR) (cF : Callee G "fewest_act" 3 ["rank"] RFewA) (cLS : Callee G "_law_sink_lot" 4 ["_law_levels", "_law_goal"] RLS) (cI : Callee G "_law_int" 1 ["_law_value"] RWhole) (cT : TurnC G)
    (cK : Callee G "_law_lot_kind" 2 ["_law_value", "_law_worlds"] RKind) (D : DefAt G "_law_anywhere" "_law_anywhere" (top 71)) : Callee G "_law_anywhere" 10 ["_law_levels", "_law_goal"] RAsk := by
  refine callee_of D sc_lany (fun _ _ _ _ _ _ us hl => match us, hl with | [_, _], _ => rfl) (fun ds d ⟨_, _, e, _⟩ => by rw [e]; rfl) fun ds d ⟨L, M, e, hT, ed⟩ => ?_
  subst e ed
  have hL := hT.l
  have hM := hT.m
  have hl := hT.len
  have h12 := hT.n12
  have hp := hL.pos
  have hnc := hM.ncells_le
  have hnp := hM.npos
  have hfd := (flat_den hp).dn
  have hfl : (flat L.length).length = L.length := by simp [flat]
  have ht4 := tz_le4 (ncells M)
  obtain ⟨lot, hlot, hturn⟩ := sink_flat hL
  have hlok := sinkLot_ok hL hlot
  have hlotA : lot.length ≤ 100 := by
    unfold sinkLot at hlot
    split at hlot
    · cases hlot; simp
    · cases e2 : (List.range L.length).find? fun x => turnS L (comp L.length [x]) == flat L.length with
      | none => rw [e2] at hlot; cases hlot
      | some y =>
        rw [e2] at hlot
        cases hlot
        have := comp_len L.length [y]
        show (comp L.length [y]).length ≤ 100
        omega
  show JB _ _ [.v (.L L), .v (.L M), .un, .un, .un, .un, .un, .un, .un, .un, .un, .un, .un] _ _ _ _
  refine jb_then (js_set 2 (je_cmeth F cO (ja_cons (je_var 0) ja_nil) ⟨L, rfl, hL, h12, rfl⟩)) ?_
  refine jb_cons (SD.imp (js_setM 3 12 L Dt.n (fun _ => .n 0) (ji_seq (je_var 0) (.inr rfl)) (fun _ _ => je_int) (by omega)) (N' := fun z => z = [.v (.L L), .v (.L M), .v (.rk L), .v (.L (flat L.length)), .un, .un, .un, .un, .un, .un, .un, .un, .un]) (fun z e => e.trans ?_) fun _ h => h) fun r er => ?_
  · have : L.map (fun _ => Dt.n 0) = (flat L.length).map Dt.n := by
      unfold flat
      rw [List.map_const', List.map_replicate]
    rw [this]
    rfl
  subst er
  refine jb_then (js_set 4 (je_is (je_call cS (ja_cons (je_var 2) ja_nil) ⟨L, rfl, hL, h12, rfl⟩) (d' := .T lot) (by rw [hlot]; rfl))) ?_
  refine jb_then (js_set 5 (je_call cA (ja_cons (je_cmeth F cO (ja_cons (je_var 1) ja_nil) ⟨M, rfl, hM, by omega, rfl⟩) ja_nil) ⟨M, rfl, hM, by omega, rfl⟩)) ?_
  refine jb_then (js_set 6 (je_call cF (ja_cons (je_cmeth F cO (ja_cons (je_var 1) ja_nil) ⟨M, rfl, hM, by omega, rfl⟩) ja_nil) ⟨M, rfl, hM, by omega, rfl⟩)) ?_
  have hrowlen : (((List.range (tz (ncells M))).map (leadLot M)).map Dt.T).length = tz (ncells M) := by simp
  show JB _ _ [.v (.L L), .v (.L M), .v (.rk L), .v (.L (flat L.length)), .v (.T lot), .v (.TT ((List.range (tz (ncells M))).map (leadLot M))), .v (.n (tz (ncells M))), .un, .un, .un, .un, .un, .un] _ _ _ _
  refine jb_skip (jt_is (jt_w (jw_or (jt_neD (p := True) (je_var 4) (je_is (je_call cLS (ja_cons (je_var 0) (ja_cons (je_var 3) ja_nil)) ⟨L, flat L.length, rfl, ⟨hL, hfd, hfl.symm, h12⟩, rfl⟩) (d' := .T lot) (by rw [hlot]; rfl)) (pln_T _) (pln_T _) (Nat.le_trans (dep_T _) (by omega)) (Nat.le_trans (dep_T _) (by omega)) (by simp)) fun _ => jw_or (jt_not (jt_val (je_isi (Tn := "tuple") (b := true) Z.isi Z.tuple (je_var 5) rfl (by rfl) (by decide +kernel)))) fun _ => jw_or (jt_not (jt_val (je_call cI (ja_cons (je_var 6) ja_nil) ⟨_, rfl, rfl⟩))) fun _ => jw_or1 (jt_ne (je_var 6) (je_len Z.len (je_var 5) (.inl rfl))))) (by rw [hrowlen]; simp)) ?_
  refine jb_then (js_set 7 (je_int (i := 0))) ?_
  refine jb_then (js_set 8 (je_int (i := 1))) ?_
  refine jb_cons (js_forN 9 (List.range 4) Dt.n (ji_range (n := 4) Z.range je_int (by omega)) (fun k r => ∃ s9, r = [.v (.L L), .v (.L M), .v (.rk L), .v (.L (flat L.length)), .v (.T lot), .v (.TT ((List.range (tz (ncells M))).map (leadLot M))), .v (.n (tz (ncells M))), .v (.n (it4 (ncells M) k).1), .v (.n (it4 (ncells M) k).2), s9, .un, .un, .un]) ⟨.un, rfl⟩ ?_
    (N := fun r => ∃ s9 s8, r = [.v (.L L), .v (.L M), .v (.rk L), .v (.L (flat L.length)), .v (.T lot), .v (.TT ((List.range (tz (ncells M))).map (leadLot M))), .v (.n (tz (ncells M))), .v (.n (tz (ncells M))), s8, s9, .un, .un, .un]) (fun r ⟨s9, e⟩ => ⟨s9, .v (.n (it4 (ncells M) 4).2), by rw [e, List.length_range, it4_tz _ (by omega)]⟩)) ?_
  · rintro k y r hk ⟨s9, rfl⟩
    show JB _ _ [.v (.L L), .v (.L M), .v (.rk L), .v (.L (flat L.length)), .v (.T lot), .v (.TT ((List.range (tz (ncells M))).map (leadLot M))), .v (.n (tz (ncells M))), .v (.n (it4 (ncells M) k).1), .v (.n (it4 (ncells M) k).2), .v (.n y), .un, .un, .un] _ _ _ _
    have hst : it4 (ncells M) (k + 1) = if (it4 (ncells M) k).2 < ncells M then ((it4 (ncells M) k).1 + 1, 2 * (it4 (ncells M) k).2) else it4 (ncells M) k := rfl
    by_cases hc : (it4 (ncells M) k).2 < ncells M
    · rw [hst, if_pos hc]
      refine jb_one (js_if (jt_is (jt_lt (je_var 8) (je_add (je_max Z.max (je_var 1) (max_of hM)) je_int)) (b' := true) (by rw [decide_eq_true_iff]; omega)) (fun _ => ?_) (fun h => by cases h))
      refine jb_then (js_set 8 (je_is (je_mul je_int (je_var 8) (cmul2 _)) (d' := .n (2 * (it4 (ncells M) k).2)) (by show Dt.int _ = Dt.int _; congr 1))) ?_
      exact jb_one (SD.imp (js_set 7 (je_is (je_add (je_var 7) je_int) (d' := .n ((it4 (ncells M) k).1 + 1)) rfl)) (fun zz e => ⟨.v (.n y), e⟩) fun _ h => h)
    · rw [hst, if_neg hc]
      exact jb_one (js_if (jt_is (jt_lt (je_var 8) (je_add (je_max Z.max (je_var 1) (max_of hM)) je_int)) (b' := false) (by rw [decide_eq_false_iff_not]; omega)) (fun h => by cases h) (fun _ => jb_nil ⟨.v (.n y), rfl⟩))
  · rintro r ⟨s9, s8, rfl⟩
    refine jb_skip (jt_is (jt_ne (je_var 6) (je_var 7)) (by simp)) ?_
    refine jb_then (js_set 10 (je_is (je_call cT (ja_cons (je_var 0) (ja_cons je_str (ja_cons (je_var 4) ja_nil))) (d := .L (turnS L lot)) ⟨L, lot, "sink", rfl, hL, h12, hlotA, .inr ⟨hlok, .inr ⟨rfl, rfl⟩⟩⟩) (d' := .L (flat L.length)) (by rw [hturn]))) ?_
    refine jb_skip (jt_is (jt_neD (p := True) (je_var 10) (je_var 3) (pln_L _) (pln_L _) (Nat.le_trans (dep_L _) (by omega)) (Nat.le_trans (dep_L _) (by omega)) (by simp)) (by simp)) ?_
    refine jb_cons (js_forN 11 ((List.range (tz (ncells M))).map (leadLot M)) Dt.T (ji_seq (je_var 5) (.inl rfl)) (fun k r => ∃ s11, r = [.v (.L L), .v (.L M), .v (.rk L), .v (.L (flat L.length)), .v (.T lot), .v (.TT ((List.range (tz (ncells M))).map (leadLot M))), .v (.n (tz (ncells M))), .v (.n (tz (ncells M))), s8, s9, .v (.L ((((List.range (tz (ncells M))).map (leadLot M)).take k).foldl turnD (flat L.length))), s11, .un]) ⟨.un, rfl⟩ ?_
      (N := fun r => ∃ s11, r = [.v (.L L), .v (.L M), .v (.rk L), .v (.L (flat L.length)), .v (.T lot), .v (.TT ((List.range (tz (ncells M))).map (leadLot M))), .v (.n (tz (ncells M))), .v (.n (tz (ncells M))), s8, s9, .v (.L M), s11, .un]) (fun r ⟨s11, e⟩ => ⟨s11, by rw [e, List.take_length, hl, leads_end hM (tz_le (by omega))]⟩)) ?_
    · rintro k news r hk ⟨s11, rfl⟩
      obtain ⟨j, hj, ej⟩ := List.mem_map.mp (List.mem_of_getElem? hk)
      have hA : Asc news L.length := by
        rw [← ej, hl]
        exact ⟨List.pairwise_lt_range.filter _, fun y hy => (mem_sel.mp hy).1, hM.pos, by omega⟩
      have hne : news ≠ [] := by rw [← ej]; exact leadLot_ne hM j
      have hnl := hA.len
      have hfold := foldD_dn (n := L.length) (((List.range (tz (ncells M))).map (leadLot M)).take k) hp
      show JB _ _ [.v (.L L), .v (.L M), .v (.rk L), .v (.L (flat L.length)), .v (.T lot), .v (.TT ((List.range (tz (ncells M))).map (leadLot M))), .v (.n (tz (ncells M))), .v (.n (tz (ncells M))), s8, s9, .v (.L ((((List.range (tz (ncells M))).map (leadLot M)).take k).foldl turnD (flat L.length))), .v (.T news), .un] _ _ _ _
      refine jb_skip (jt_is (jt_w (jw_or (jt_not (jt_val (je_call cK (ja_cons (je_var 11) (ja_cons (je_is (je_len Z.len (je_var 0) (.inr rfl)) (d' := .n L.length) (by rw [List.length_map])) ja_nil)) ⟨news, L.length, rfl, hA, rfl⟩))) fun _ => jw_or1 (jt_eq (je_len Z.len (je_var 11) (.inl rfl)) je_int))) ?_) ?_
      · have : news.length ≠ 0 := fun z => hne (List.length_eq_zero_iff.mp z)
        rw [List.length_map]
        simp [hne]
      refine jb_one (SD.imp (js_set 10 (je_call cT (ja_cons (je_var 10) (ja_cons je_str (ja_cons (je_var 11) ja_nil))) (d := .L (turnD _ news)) ⟨_, news, "lead", rfl, hfold.1, by rw [hfold.2]; exact h12, by omega, .inl ⟨rfl, rfl⟩⟩)) (fun zz e => ⟨.v (.T news), e.trans ?_⟩) fun _ h => h)
      rw [reach_succ turnD (flat L.length) hk]
      rfl
    · rintro r ⟨s11, rfl⟩
      exact jb_one (js_ret (je_is (je_eqD (p := True) (je_var 10) (je_var 1) (pln_L _) (pln_L _) (Nat.le_trans (dep_L _) (by omega)) (Nat.le_trans (dep_L _) (by omega)) (by simp)) (by simp)) rfl)
end My

/-! # Dr1 -/
namespace My
open PySem L2
/-! ### the list of draws: one list that changes, at a -/
structure DrS (a : Addr) (B H : Hp) : Prop where
  ba : B a = none
  ex : ∃ ds : List Int, H a = some (.lst (ds.map V.int))
structure GrX (a : Addr) (B H B' H' : Hp) : Prop where
  b : Same B B'
  h : ∀ p o, p ≠ a → H p = some o → H' p = some o
  bh : Same B' H'
  fr : ∀ p, H p ≠ none → B p = none → B' p = none
theorem GrX.refl {a : Addr} {B H : Hp} (e : Same B H) : GrX a B H B H := ⟨Same.refl _, fun _ _ _ h => h, e, fun _ _ h => h⟩
theorem DrS.ne {a : Addr} {B H : Hp} (d : DrS a B H) : H a ≠ none := by
  obtain ⟨ds, e⟩ := d.ex
  rw [e]
  exact sn_ne
theorem GrX.keep {a : Addr} {B H B' H' : Hp} (g : GrX a B H B' H') (d : DrS a B' H') {p : Addr} (h : H p ≠ none) : H' p ≠ none := by
  by_cases c : p = a
  · rw [c]; exact d.ne
  · cases e : H p with
    | none => exact (h e).elim
    | some o => rw [g.h p o c e]; exact sn_ne
theorem GrX.trans {a : Addr} {B H B1 H1 B2 H2 : Hp} (x : GrX a B H B1 H1) (d : DrS a B1 H1) (y : GrX a B1 H1 B2 H2) : GrX a B H B2 H2 :=
  ⟨x.b.trans y.b, fun p o h1 h2 => y.h p o h1 (x.h p o h1 h2), y.bh, fun p h1 h2 => y.fr p (x.keep d h1) (x.fr p h1 h2)⟩
theorem GrX.of {a : Addr} {B H B' H' : Hp} (g : Gr B H B' H') : GrX a B H B' H' := ⟨g.b, fun p o _ h => g.h p o h, g.bh, g.fr⟩
theorem DrS.gr {a : Addr} {B H B' H' : Hp} (d : DrS a B H) (g : Gr B H B' H') : DrS a B' H' := by
  obtain ⟨ds, e⟩ := d.ex
  exact ⟨g.fr a (by rw [e]; exact sn_ne) d.ba, ds, g.h _ _ e⟩
theorem SEnv.grX {C a : Addr} {B H B' H' : Hp} {σ : L2.St} {ρ : List Sl} (E : SEnv C B σ H ρ) (hn : NoO ρ) (g : GrX a B H B' H') : SEnv C B' σ H' ρ := E.noO hn g.b g.bh
def YD (C a : Addr) (te : TE) (ρ : List Sl) (Post : Dt → Prop) : Prop := ∀ B σ H, SEnv C B σ H ρ → DrS a B H → ∀ Q : VK, (∀ x B' H' d, Post d → GrX a B H B' H' → DrS a B' H' → Rp C B' x d → Q x H') → te σ H Q
def YTD (C a : Addr) (tt : TT) (ρ : List Sl) (Pb : Bool → Prop) : Prop := ∀ B σ H, SEnv C B σ H ρ → DrS a B H → ∀ Q : Bool → Hp → Prop, (∀ b B' H', Pb b → GrX a B H B' H' → DrS a B' H' → Q b H') → tt σ H Q
def YAD (C a : Addr) (ta : TA) (ρ : List Sl) (Post : List Dt → Prop) : Prop := ∀ B σ H, SEnv C B σ H ρ → DrS a B H → ∀ Q : List V → Hp → Prop, (∀ xs B' H' ds, Post ds → GrX a B H B' H' → DrS a B' H' → RpAll C B' xs ds → Q xs H') → ta σ H Q
abbrev YE (S : SC) (a : Addr) (e : Expr) (ρ : List Sl) (Post : Dt → Prop) : Prop := YD S.C a (wE S e) ρ Post
abbrev YT (S : SC) (a : Addr) (e : Expr) (ρ : List Sl) (Pb : Bool → Prop) : Prop := YTD S.C a (wT S e) ρ Pb
abbrev YA (S : SC) (a : Addr) (es : List Expr) (ρ : List Sl) (Post : List Dt → Prop) : Prop := YAD S.C a (wA S es) ρ Post
section
variable {S : SC} {a : Addr} {ρ : List Sl} {d : Dt} {e e1 e2 : Expr} {es : List Expr} {pos p : Pos} {Post Post1 Post2 : Dt → Prop} {PA PA2 : List Dt → Prop} {Pb : Bool → Prop}
theorem ye_mk {t : TE} (h : ∀ X, CtxOk S X → PE X e t) (q : YD S.C a t ρ Post) : YE S a e ρ Post := fun B σ H E D Q k => ⟨t, h, q B σ H E D Q k⟩
theorem yt_mk {t : TT} (h : ∀ X, CtxOk S X → PT X e t) (q : YTD S.C a t ρ Pb) : YT S a e ρ Pb := fun B σ H E D Q k => ⟨t, h, q B σ H E D Q k⟩
theorem ya_mk {t : TA} (h : ∀ X, CtxOk S X → L2.PA X es t) (q : YAD S.C a t ρ PA) : YA S a es ρ PA := fun B σ H E D Q k => ⟨t, h, q B σ H E D Q k⟩
theorem ye_of (h : JE S e ρ d) : YE S a e ρ (fun z => z = d) := fun B σ H E D Q k => h B σ H E Q fun x B' H' g r => k x B' H' d rfl (GrX.of g) (D.gr g) r
theorem yt_of {b : Bool} (h : JT S e ρ b) : YT S a e ρ (fun z => z = b) := fun B σ H E D Q k => h B σ H E Q fun B' H' g => k b B' H' rfl (GrX.of g) (D.gr g)
theorem ye_imp (h : YE S a e ρ Post1) (q : ∀ d, Post1 d → Post d) : YE S a e ρ Post := fun B σ H E D Q k => h B σ H E D Q fun x B' H' d p => k x B' H' d (q d p)
theorem yt_imp {Pb' : Bool → Prop} (h : YT S a e ρ Pb) (q : ∀ d, Pb d → Pb' d) : YT S a e ρ Pb' := fun B σ H E D Q k => h B σ H E D Q fun b B' H' p => k b B' H' (q b p)
theorem ya_nil : YA S a [] ρ (fun z => z = []) := ya_mk (fun _ _ => pa_nil) fun B σ H E D Q k => k [] B H [] rfl (GrX.refl E.bh) D .nil
theorem ya_cons (hn : NoO ρ) (h1 : YE S a e ρ Post1) (h2 : YA S a es ρ PA) (hs : ∀ env, starEach (e :: es) env = (false, eval e env) :: starEach es env := by intro _; rfl) : YA S a (e :: es) ρ (fun z => ∃ d ds, z = d :: ds ∧ Post1 d ∧ PA ds) :=
  ya_mk (fun X h => pa_cons (wE_ok h) (wA_ok h) (hs _)) fun B σ H E D Q k => h1 B σ H E D _ fun x B1 H1 d p1 g1 D1 r1 => h2 B1 σ H1 (E.grX hn g1) D1 _ fun xs B2 H2 ds p2 g2 D2 r2 => k (x :: xs) B2 H2 (d :: ds) ⟨d, ds, rfl, p1, p2⟩ (g1.trans D1 g2) D2 (.cons (r1.mono g2.b) r2)
/-- f(e, ..) -/
theorem ye_call {x : Str} {k : Nat} {ps : List Str} {Rel : List Dt → Dt → Prop} (c : Callee S.toGx x k ps Rel) (ha : YA S a (e :: es) ρ PA) (hr : ∀ ds, PA ds → ∃ d, Rel ds d ∧ Post d) (hk : k ≤ S.k := by exact Nat.le_of_ble_eq_true rfl) (hg : S.sc.names.lookup x = some .globalImplicit := by rfl) (hdb : (x == ("__debug__" : Str)) = false := by decide)
    (he : ∀ env, starEach (e :: es) env = (false, eval e env) :: starEach es env := by intro _; rfl) (hpl : ∀ env, (backTo pos (starEach es env)).any (·.1) = false := by intro _; rfl) : YE S a (.Call (.Name x p) (e :: es) [] pos) ρ Post := by
  obtain ⟨f, fd, F, hm, hkp, hb⟩ := c.ex
  refine ye_mk (t := tCall (spD S.C Rel) [] E0 (wA S (e :: es))) (fun X h => ?_) fun B σ H E D Q q => ha B σ H E D _ fun vs B1 H1 ds p1 g1 D1 r1 => ?_
  · have F' : FnOk X.prog X.w X.K X.mg X.base CX0 k f fd ps (spD S.C Rel) := by rw [h.prog, h.w, h.K, h.mg, h.base]; exact F
    exact pe_call F' (h.room.mono hk) (show X.env.scope.names.lookup x = _ by rw [h.sc]; exact hg) (by rw [h.mg]; exact hm) (by rw [h.K]; exact hkp) (by rw [h.K]; exact hb) .nil pass0 (wA_ok h) hdb (he _) (hpl _)
  · obtain ⟨d, hd, pd⟩ := hr ds p1
    rw [List.append_nil]
    exact ⟨B1, ds, d, g1.bh, r1, hd, fun y B' H' g r => q y B' H' d pd (g1.trans D1 (GrX.of g)) (D1.gr g) r⟩
theorem ye_addL {i : Nat} {b : Nat} (hn : NoO ρ) (h1 : JE S e1 ρ (.n i)) (h2 : YE S a e2 ρ (fun z => ∃ r, r < b ∧ z = .n r)) : YE S a (.BinOp e1 .Add e2 pos) ρ (fun z => ∃ r, r < b ∧ z = .n (i + r)) :=
  ye_mk (fun X h => pe_op op_add (wE_ok h) (wE_ok h)) fun B σ H E D Q k => h1 B σ H E _ fun v B1 H1 g1 r1 => h2 B1 σ H1 (E.grow g1) (D.gr g1) _ fun u B2 H2 d p2 g2 D2 r2 => by
    obtain ⟨r, hr, rfl⟩ := p2
    cases r1
    cases r2
    exact ⟨_, _, rfl, rfl, k _ B2 H2 (.n (i + r)) ⟨r, hr, rfl⟩ ((GrX.of g1).trans (D.gr g1) g2) D2 (.int _)⟩
/-- e1 == i, e1 an int that is drawn -/
theorem yt_eqI {i : Int} {b : Nat} (hn : NoO ρ) (h1 : YE S a e1 ρ (fun z => ∃ r, r < b ∧ z = .n r)) (h2 : JE S e2 ρ (.int i)) : YT S a (.Compare e1 [.Eq] [e2] pos) ρ (fun _ => True) :=
  yt_mk (t := tTest (tOp rEq (wE S e1) (wE S e2))) (fun X h => pt_cmpR op_eq (wE_ok h) (wE_ok h) (nomark _)) fun B σ H E D Q k => h1 B σ H E D _ fun v B1 H1 d p1 g1 D1 r1 => h2 B1 σ H1 (E.grX hn g1) _ fun u B2 H2 g2 r2 => by
    obtain ⟨r, hr, rfl⟩ := p1
    cases r1
    cases r2
    exact ⟨rfl, ⟨_, rfl, k _ B2 H2 trivial (g1.trans D1 (GrX.of g2)) (D1.gr g2)⟩⟩
theorem yt_val {b : Bool} (h : YE S a e ρ (fun z => z = .bl b)) (he : ∀ (env : Env) whole, isTrue e env whole = (do let v ← whole; standAt e.pos; holding [v] (truthy v)) := by intro _ _; rfl) : YT S a e ρ (fun z => z = b) :=
  yt_mk (fun X h => pt_val (wE_ok h) (he X.env)) fun B σ H E D Q k => h B σ H E D _ fun x B' H' d p g D' r => by
    subst p
    cases r
    exact ⟨b, rfl, k b B' H' rfl g D'⟩
theorem yt_not {b : Bool} (h : YT S a e1 ρ (fun z => z = b)) : YT S a (.UnaryOp .Not e1 pos) ρ (fun z => z = !b) :=
  yt_mk (fun X hx => pt_not (wT_ok hx)) fun B σ H E D Q k => h B σ H E D _ fun b' B' H' p g D' => by
    subst p
    exact k _ B' H' rfl g D'
end
end My

/-! # Dr2 -/
namespace My
open PySem L2
variable {G : Gx}
/-! ### defs that take draws -/
def spX (C : Addr) (Pre : List Dt → Prop) (Post : List Dt → Dt → Prop) : Sp := fun vs H Q _ => ∃ (B : Hp) (a : Addr) (ws : List V) (ds : List Dt), vs = .ref a :: ws ∧ Same B H ∧ DrS a B H ∧ RpAll C B ws ds ∧ Pre ds ∧ ∀ x B' H' d, Post ds d → GrX a B H B' H' → DrS a B' H' → Rp C B' x d → Q x H'
structure CalleeX (G : Gx) (x : Str) (k : Nat) (ps : List Str) (Pre : List Dt → Prop) (Post : List Dt → Dt → Prop) : Prop where
  ex : ∃ f fd, FnOk G.P G.w G.K G.mg G.base CX0 k f fd ps (spX G.C Pre Post) ∧ G.mg x = some (.ref f) ∧ PySem.W.keepIn G.K (.ref f) = true ∧ Binds G.K fd ps []
section
variable {S : SC} {a : Addr} {ρ : List Sl} {d : Dt} {e e1 e2 : Expr} {es : List Expr} {pos p pn : Pos} {Post Post1 Post2 : Dt → Prop} {PA PA2 : List Dt → Prop} {Pb : Bool → Prop} {ds : List Dt}
/-- f(draws, e, ..), the draws by the name at the slot i -/
theorem ye_callX (i : Nat) {x y : Str} {k : Nat} {ps : List Str} {Pre : List Dt → Prop} {Post : List Dt → Dt → Prop} (c : CalleeX S.toGx x k ps Pre Post) (hi : ρ[i]? = some (.w (.ref a))) (ha : JA S es ρ ds) (hp : Pre ds) (hk : k ≤ S.k := by exact Nat.le_of_ble_eq_true rfl) (hg : S.sc.names.lookup x = some .globalImplicit := by rfl)
    (hN : S.N[i]? = some y := by rfl) (hv : Vis S.sc y := by first | exact Or.inl rfl | exact Or.inr (Or.inl rfl) | exact Or.inr (Or.inr rfl)) (hd : (y == ("__debug__" : Str)) = false := by decide) (hcd : (y == ("__classdict__" : Str)) = false := by decide) (hdb : (x == ("__debug__" : Str)) = false := by decide)
    (he : ∀ env, starEach (.Name y pn :: es) env = (false, eval (.Name y pn) env) :: starEach es env := by intro _; rfl) (hpl : ∀ env, (backTo pos (starEach es env)).any (·.1) = false := by intro _; rfl) : YE S a (.Call (.Name x p) (.Name y pn :: es) [] pos) ρ (Post ds) := by
  obtain ⟨f, fd, F, hm, hkp, hb⟩ := c.ex
  refine ye_mk (t := tCall (spX S.C Pre Post) [] E0 (tCons (tVar i) (wA S es))) (fun X h => ?_) fun B σ H E D Q q => ?_
  · have F' : FnOk X.prog X.w X.K X.mg X.base CX0 k f fd ps (spX S.C Pre Post) := by rw [h.prog, h.w, h.K, h.mg, h.base]; exact F
    exact pe_call F' (h.room.mono hk) (show X.env.scope.names.lookup x = _ by rw [h.sc]; exact hg) (by rw [h.mg]; exact hm) (by rw [h.K]; exact hkp) (by rw [h.K]; exact hb) .nil pass0 (pa_cons (pe_var (i := i) (by rw [h.N]; exact hN) (by rw [h.sc]; exact hv) hd hcd) (wA_ok h) (he _)) hdb (he _) (hpl _)
  · refine ⟨.ref a, E.sl i _ hi, ha B σ H E _ fun ws B1 H1 g1 r1 => ?_⟩
    show spX S.C Pre Post ((V.ref a :: ws) ++ []) H1 Q E0
    rw [List.append_nil]
    exact ⟨B1, a, ws, ds, rfl, g1.bh, D.gr g1, r1, hp, fun x B' H' d pd g D' r => q x B' H' d pd ((GrX.of g1).trans (D.gr g1) g) D' r⟩
end
/-- _law_take -/
theorem sc_ltake : FnScope ["_law_draws_here", "_law_bound"] ["_law_draws_here", "_law_bound"] (defScope (top 49)) := ⟨rfl, rfl, rfl, by decide +kernel, rfl, by decide +kernel, by decide +kernel⟩
def PTake (ds : List Dt) : Prop := ∃ b : Nat, ds = [.n b] ∧ 0 < b
def QTake (ds : List Dt) (d : Dt) : Prop := ∃ b : Nat, ds = [.n b] ∧ ∃ r, r < b ∧ d = .n r
abbrev TakeC (G : Gx) : Prop := CalleeX G "_law_take" 1 ["_law_draws_here", "_law_bound"] PTake QTake
theorem dl_ints : ∀ (ds : List Int), (ds.map V.int).dropLast = ds.dropLast.map V.int := fun ds => by rw [List.map_dropLast]
theorem ok_ltake (Z : Bt G) (D : DefAt G "_law_take" "_law_take" (top 49)) : TakeC G := by
  obtain ⟨f, fd, F, hm⟩ := D.ex
  refine ⟨f, fd, ?_, hm, F.kp, F.binds fun _ _ _ _ _ _ us hl => match us, hl with | [_, _], _ => rfl⟩
  refine F.ok sc_ltake (fun vs H Q E h => ?_) (fun cdv A outer s H vs Q E hr h => ?_)
  · obtain ⟨B, a, ws, ds, rfl, _, _, r, ⟨b, rfl, _⟩, _⟩ := h
    exact congrArg Nat.succ r.length
  · refine ⟨_, pss_cons (ps_if (pt_cmpR op_eq (pe_callB call_len_seq rfl Z.len PySem.boot_len (pa_cons (pv 0) pa_nil)) pe_int (nomark _)) (pss_one (ps_ret pe_int)) pss_nil)
      (pss_one (ps_ret (pe_op op_mod (pe_callTy (T := "int") call_int1 rfl Z.int (by decide +kernel) (pa_cons (pe_bm0 PySem.F.plainAttrs_list PySem.F.slot_list_pop PySem.F.type_list_pop mt_pop (pv 0)) pa_nil)) (pv 1)))), ?_⟩
    obtain ⟨B, a, ws, ds, rfl, bh, D, r, ⟨b, rfl, hb⟩, q⟩ := h
    obtain ⟨w, rfl, rw1⟩ := rp1 r
    cases rw1
    obtain ⟨xs, hx⟩ := D.ex
    refine ⟨.ref a, rfl, a, xs.map V.int, rfl, .inl (SqL.of hx), rfl, _, rfl, ?_⟩
    rcases last_cases xs with rfl | ⟨xs0, z, rfl⟩
    · rw [if_pos (show decide (V.int ((List.map V.int []).length : Nat) = V.int 0) = true from decide_eq_true rfl)]
      exact q (.int 0) B H (.n 0) ⟨b, rfl, 0, hb, rfl⟩ (GrX.refl bh) D (.int 0)
    · rw [if_neg (show ¬ decide (V.int ((List.map V.int (xs0 ++ [z])).length : Nat) = V.int 0) = true by simp; omega)]
      have e : (z % (b : Int)) = (((z % (b : Int)).toNat : Nat) : Int) := by
        have := Int.emod_nonneg z (show (b : Int) ≠ 0 by omega)
        omega
      have hlt : (z % (b : Int)).toNat < b := by
        have := Int.emod_lt_of_pos z (show (0 : Int) < b by omega)
        omega
      refine ⟨.ref a, rfl, .inl ⟨rfl, _, SqL.of hx⟩, a, _, .int z, rfl, rfl, hx, ?_, .inl ⟨z, rfl, .int (b : Int), rfl, z, b, rfl, rfl, by show (0 : Int) < b; omega, ?_⟩⟩
      · simp
      · show Q (.int (z % (b : Int))) _
        rw [e]
        have hxa : ∀ {p : Addr} {o : HO}, B p = some o → p ≠ a := fun {p o} hp z => by rw [z, D.ba] at hp; cases hp
        refine q _ B _ (.n (z % (b : Int)).toNat) ⟨b, rfl, _, hlt, rfl⟩ ⟨Same.refl _, fun p o h1 h2 => by rw [upd_ne h1]; exact h2, fun p o hp => by rw [upd_ne (hxa hp)]; exact bh p o hp, fun _ _ h => h⟩ ⟨D.ba, (xs0 ++ [z]).dropLast, by rw [upd_same, dl_ints]⟩ (.int _)
end My

/-! # Dr3 -/
namespace My
open PySem L2
variable {G : Gx}
abbrev ivs (ys : List Nat) : List V := (ys.map fun (k : Nat) => (k : Int)).map V.int
/-- a comprehension over range(n) that takes draws: a list of ints -/
theorem yd_lc {C a : Addr} {n : Nat} {ρ : List Sl} {vs js : List Nat} {wi : TI} {tg : TG} {tt : TT} {te : TE} (hn : NoO ρ) (hi : ID C wi ρ ((List.range n).map Dt.n)) (hjs : ∀ i ∈ js, i ∈ vs) (ρi : Nat → List Sl) (hg : ∀ x, x < n → TGD C tg (wipeR ρ vs) (.n x) (ρi x) js) (I : Nat → List Nat → Prop) (h0 : I 0 []) (hl : n ≤ 10000) (hI : ∀ i ys, I i ys → ys.length ≤ i)
    (step : ∀ x, x < n → ∀ ys, I x ys → ∀ B σ H, SEnv C B σ H (ρi x) → DrS a B H → ∀ (Nx : Hp → Prop) (K : V → Hp → Prop), (∀ B' H', I (x + 1) ys → GrX a B H B' H' → DrS a B' H' → Nx H') → (∀ (r : Nat) B' H', I (x + 1) (ys ++ [r]) → GrX a B H B' H' → DrS a B' H' → K (.int (r : Nat)) H') → tt σ H fun b H3 => if b = true then te σ H3 K else Nx H3) :
    YD C a (tLc wi tg tt te vs) ρ (fun d => ∃ ys, I n ys ∧ d = .L ys) := by
  intro B σ H E D Q k
  refine hi B σ H E _ fun J B1 H1 g1 it => fun Dl hD => ?_
  have D1 := D.gr g1
  have hDa : Dl ≠ a := fun z => D1.ne (by rw [← z]; exact hD)
  have hlen : ((List.range n).map Dt.n).length = n := by simp
  have hB1D : B1 Dl = none := g1.bh.free hD
  refine ⟨fun i m H => m = n - i ∧ i ≤ n ∧ ∃ ys, I i ys ∧ H Dl = some (.lst (ivs ys)) ∧ (∃ ds : List Int, H a = some (.lst (ds.map V.int))) ∧ ∀ p o, p ≠ a → p ≠ Dl → H1 p = some o → H p = some o, ⟨n, by simp, Nat.zero_le _, [], h0, upd_same, ?_, fun p o _ h2 h3 => by rw [upd_ne h2]; exact h3⟩, ?_⟩
  · obtain ⟨ds, e⟩ := D1.ex
    exact ⟨ds, by rw [upd_ne (Ne.symm hDa)]; exact e⟩
  · rintro i m H2 ⟨rfl, hi', ys, hIy, hys, hda, hk⟩
    have sB : Same B1 H2 := fun p o q => hk p o (fun z => by rw [z, D1.ba] at q; cases q) (fun z => by rw [z, hB1D] at q; cases q) (g1.bh p o q)
    by_cases hlt : i < n
    · refine .inr ⟨it.go i H2 (by rw [hlen]; exact hlt) sB, fun H => ∃ ys, I (i + 1) ys ∧ H Dl = some (.lst (ivs ys)) ∧ (∃ ds : List Int, H a = some (.lst (ds.map V.int))) ∧ ∀ p o, p ≠ a → p ≠ Dl → H1 p = some o → H p = some o, fun H' q => ⟨n - (i + 1), by omega, rfl, hlt, q⟩, fun v H3 y => ?_⟩
      obtain ⟨B3, gr3, rx⟩ := it.yld i B1 H2 v H3 (by rw [hlen]; exact hlt) (Same.refl _) sB y
      have ex : ((List.range n).map Dt.n)[i] = Dt.n i := by simp
      rw [ex] at rx
      have E3 : SEnv C B3 σ H3 ρ := E.noO hn (g1.b.trans gr3.b) gr3.bh
      have D3 : DrS a B3 H3 := by
        obtain ⟨ds, e⟩ := hda
        exact ⟨gr3.fr a (by rw [e]; exact sn_ne) D1.ba, ds, gr3.h _ _ e⟩
      have hD3 : H3 Dl = some (.lst (ivs ys)) := gr3.h _ _ hys
      refine hg i hlt B3 _ H3 (E3.wipe vs) v _ rx fun σ2 E4 hs hl2 => ⟨wipe_eq (fun j hj => hs j fun z => hj (hjs j z)) hl2, ?_⟩
      refine step i hlt ys hIy B3 σ2 H3 E4 D3 _ _ (fun B' H' iv g D' => ⟨ys, iv, g.h Dl _ hDa hD3, D'.ex, fun p o h1 h2 h3 => g.h p o h1 (gr3.h _ _ (hk p o h1 h2 h3))⟩) fun r B' H' iv g D' => ?_
      have hli := hI i ys hIy
      refine ⟨ivs ys, g.h Dl _ hDa hD3, by rw [sizeLine_eq]; simp only [List.length_map]; omega, ys ++ [r], iv, ?_, ?_, fun p o h1 h2 h3 => by rw [upd_ne h2]; exact g.h p o h1 (gr3.h _ _ (hk p o h1 h2 h3))⟩
      · rw [upd_same]
        simp
      · obtain ⟨ds, e⟩ := D'.ex
        exact ⟨ds, by rw [upd_ne (Ne.symm hDa)]; exact e⟩
    · have e : i = n := by omega
      subst e
      have st := it.stop H2 sB
      rw [hlen] at st
      have sN : Same B1 (upd B1 Dl (.lst (ivs ys))) := same_new hB1D
      have hHD : H Dl = none := g1.h.free hD
      refine .inl ⟨st, k (.ref Dl) (upd B1 Dl (.lst (ivs ys))) H2 (.L ys) ⟨ys, hIy, rfl⟩ ⟨g1.b.trans sN, fun p o h1 h2 => ?_, fun p o q => ?_, fun p h1 h2 => ?_⟩ ⟨by rw [upd_ne (Ne.symm hDa)]; exact D1.ba, hda⟩ (.lst upd_same (RpAll.ofNats ys))⟩
      · exact hk p o h1 (fun z => by rw [z, hHD] at h2; cases h2) (g1.h _ _ h2)
      · by_cases c : p = Dl
        · subst c
          rw [upd_same] at q
          rw [hys]
          exact q
        · rw [upd_ne c] at q
          exact sB p o q
      · have c : p ≠ Dl := fun z => h1 (by rw [z]; exact hHD)
        rw [upd_ne c]
        exact g1.fr p h1 h2
section
variable {S : SC} {a : Addr} {ρ : List Sl} {d : Dt} {e elt iter c : Expr} {pos p px : Pos} {scope : Scope} {x : Str}
/-- [elt for x in range(n)], elt an int that is drawn -/
theorem ye_lcE (i : Nat) {n b : Nat} (hn : NoO ρ) (hi : JI S (.Name x px) iter ρ ((List.range n).map Dt.n)) (hl : n ≤ 10000) (he : ∀ z, z < n → YE (S.blk scope) a elt ((wipeR ρ [i]).set i (.v (.n z))) (fun d => ∃ r, r < b ∧ d = .n r))
    (ok : blkC S.N S.sc scope [(x, i)] = true := by rfl) (hx : Lc (S.blk scope) i x := by first | exact ⟨rfl, .inl rfl, .inr rfl⟩ | exact ⟨rfl, .inr rfl, .inl rfl⟩) (hs : ∀ env x, foldedSetIterable iter env x = pure x := by intro _ _; rfl) :
    YE S a (.ListComp elt [⟨.Name x px, iter, [], 0⟩] scope pos) ρ (fun d => ∃ ys : List Nat, ys.length = n ∧ (∀ y ∈ ys, y < b) ∧ d = .L ys) :=
  ye_imp (ye_mk (t := tLc (wI S (.Name x px) iter) (wG (S.blk scope) (.Name x px)) (wTs (S.blk scope) []) (wE (S.blk scope) elt) ([(x, i)].map (·.2)))
    (fun X h => pe_lc h.calm (by rw [h.N]; exact h.nd) (wI_ok h) (by rw [h.N, h.sc]; exact blkOk_by ok) (fun s H C cl fp => wG_ok (h.blk scope s H C cl fp)) (fun s H C cl fp => wTs_ok (h.blk scope s H C cl fp)) (fun s H C cl fp => wE_ok (h.blk scope s H C cl fp)) (hs _))
    (yd_lc hn hi (js := [i]) (fun j h => h) (fun z => (wipeR ρ [i]).set i (.v (.n z))) (fun z _ => (jg_name i hx).g) (fun k ys => ys.length = k ∧ ∀ y ∈ ys, y < b) ⟨rfl, fun y hy => by cases hy⟩ hl (fun k ys h => Nat.le_of_eq h.1)
      fun z hz ys hys B σ H E D Nx K _ hK => (jts_nil (S := S.blk scope)) B σ H E _ fun B1 H1 g1 => by
        show wE (S.blk scope) elt σ H1 K
        refine he z hz B1 σ H1 (E.grow g1) (D.gr g1) K fun v B2 H2 d pd g2 D2 r2 => ?_
        obtain ⟨r, hr, rfl⟩ := pd
        cases r2
        refine hK r B2 H2 ⟨by rw [List.length_append, hys.1]; rfl, fun y hy => ?_⟩ ((GrX.of g1).trans (D.gr g1) g2) D2
        rcases List.mem_append.mp hy with hy | hy
        · exact hys.2 y hy
        · rw [List.mem_singleton.mp hy]; exact hr))
    fun d ⟨ys, ⟨h1, h2⟩, e⟩ => ⟨ys, h1, h2, e⟩
/-- [x for x in range(n) if c], c a drawn test -/
theorem ye_lcC (i : Nat) {n : Nat} (hn : NoO ρ) (hi : JI S (.Name x px) iter ρ ((List.range n).map Dt.n)) (hl : n ≤ 10000) (hc : ∀ z, z < n → YT (S.blk scope) a c ((wipeR ρ [i]).set i (.v (.n z))) (fun _ => True)) (he : ∀ z, z < n → JE (S.blk scope) elt ((wipeR ρ [i]).set i (.v (.n z))) (.n z)) (hni : ∀ z : Nat, NoO ((wipeR ρ [i]).set i (.v (.n z))))
    (ok : blkC S.N S.sc scope [(x, i)] = true := by rfl) (hx : Lc (S.blk scope) i x := by first | exact ⟨rfl, .inl rfl, .inr rfl⟩ | exact ⟨rfl, .inr rfl, .inl rfl⟩) (hs : ∀ env x, foldedSetIterable iter env x = pure x := by intro _ _; rfl) :
    YE S a (.ListComp elt [⟨.Name x px, iter, [c], 0⟩] scope pos) ρ (fun d => ∃ q : Nat → Bool, d = .L (sel n q)) :=
  ye_imp (ye_mk (t := tLc (wI S (.Name x px) iter) (wG (S.blk scope) (.Name x px)) (wTs (S.blk scope) [c]) (wE (S.blk scope) elt) ([(x, i)].map (·.2)))
    (fun X h => pe_lc h.calm (by rw [h.N]; exact h.nd) (wI_ok h) (by rw [h.N, h.sc]; exact blkOk_by ok) (fun s H C cl fp => wG_ok (h.blk scope s H C cl fp)) (fun s H C cl fp => wTs_ok (h.blk scope s H C cl fp)) (fun s H C cl fp => wE_ok (h.blk scope s H C cl fp)) (hs _))
    (yd_lc hn hi (js := [i]) (fun j h => h) (fun z => (wipeR ρ [i]).set i (.v (.n z))) (fun z _ => (jg_name i hx).g) (fun k ys => ∃ q : Nat → Bool, ys = sel k q) ⟨fun _ => false, rfl⟩ hl (fun k ys ⟨q, e⟩ => by rw [e]; exact sel_len k q)
      fun z hz ys hys B σ H E D Nx K hN hK => ⟨wTs (S.blk scope) [c], fun X h => wTs_ok h, by
        obtain ⟨q, rfl⟩ := hys
        have hstep : ∀ b : Bool, (sel (z + 1) fun w => if w = z then b else q w) = sel z q ++ (if b then [z] else []) := fun b => by
          unfold sel
          rw [List.range_succ, List.filter_append]
          congr 1
          · refine List.filter_congr fun w hw => ?_
            have := List.mem_range.mp hw
            rw [if_neg (by omega)]
          · cases b <;> simp
        refine ⟨wT (S.blk scope) c, fun X h => pts_one (wT_ok h), ?_⟩
        refine hc z hz B σ H E D _ fun b B1 H1 _ g1 D1 => ?_
        cases b with
        | false => exact hN B1 H1 ⟨fun w => if w = z then false else q w, by rw [hstep]; simp⟩ g1 D1
        | true =>
          show wE (S.blk scope) elt σ H1 K
          refine he z hz B1 σ H1 (E.grX (hni z) g1) K fun v B2 H2 g2 r2 => ?_
          cases r2
          exact hK z B2 H2 ⟨fun w => if w = z then true else q w, by rw [hstep]; rfl⟩ (g1.trans D1 (GrX.of g2)) (D1.gr g2)⟩))
    fun d ⟨ys, ⟨q, e1⟩, e⟩ => ⟨q, by rw [e, e1]⟩
theorem ye_tuple {Post : Dt → Prop} (hm : S.mg "tuple" = none) (ha : YE S a e ρ (fun d => ∃ ys : List Nat, Post (.T ys) ∧ d = .L ys)) (hg : S.sc.names.lookup ("tuple" : Str) = some .globalImplicit := by rfl) (hs : ∀ env, starEach [e] env = (false, eval e env) :: starEach [] env := by intro _; rfl) :
    YE S a (.Call (.Name "tuple" p) [e] [] pos) ρ Post :=
  ye_mk (t := tCB (fun xs H Q => ∃ p ys, xs = [V.ref p] ∧ ((SqL S.K H p ys ∧ ∀ l, H l = none → Q (.ref l) (upd H l (.tup ys))) ∨ (SqT S.K H p ys ∧ Q (.ref p) H))) (tCons (wE S e) tNil)) (fun X h => by
      have h0 := call_tuple_of (X := X)
      rw [h.K] at h0
      exact pe_callTy h0 (show X.env.scope.names.lookup ("tuple" : Str) = _ by rw [h.sc]; exact hg) (by rw [h.mg]; exact hm) (by decide +kernel) (pa_cons (wE_ok h) pa_nil (hs _)) (by decide) (by decide) (hs _) rfl) fun B σ H E D Q k => ha B σ H E D _ fun v B1 H1 d pd g1 D1 r1 => by
    obtain ⟨ys, hp, rfl⟩ := pd
    cases r1 with
    | @lst al xl _ h1 h2 =>
      refine ⟨_, _, rfl, .inl ⟨SqL.of (g1.bh _ _ h1), fun l hl => ?_⟩⟩
      have gn := Gr.new (o := .tup xl) g1.bh hl
      exact k _ _ _ (.T ys) hp (g1.trans D1 (GrX.of gn)) (D1.gr gn) (.tup upd_same (h2.mono (same_new (g1.bh.free hl))))
end
/-! ### the law's draws of ranks and lots -/
theorem fn_X {x qual : Str} {st : Stmt} {f : Addr} {fd : FuncData} {Ns ps : List Str} {k : Nat} {Pre : List Dt → Prop} {Post : List Dt → Dt → Prop} {e : Expr} {pos : Pos} (F : Fun G.K x qual st f fd) (Sc : FnScope Ns ps (defScope st)) (hlen : ∀ ds, Pre ds → ds.length + 1 = ps.length) (hb : defBody st = [.Return (some e) pos]) (x0 : Str) (N0 : List Str) (hN : Ns = x0 :: N0)
    (body : ∀ ds a, Pre ds → YE (scD G st Ns k) a e (.w (.ref a) :: rho0 N0 ds) (Post ds)) : FnOk G.P G.w G.K G.mg G.base CX0 (k + 1) f fd ps (spX G.C Pre Post) := by
  refine F.ok Sc (fun vs H Q E h => ?_) (fun cdv A outer s H vs Q E hr h => ?_)
  · obtain ⟨B, a, ws, ds, rfl, _, _, r, hp, _⟩ := h
    rw [← hlen ds hp, ← r.length]
    rfl
  · obtain ⟨B, a, ws, ds, rfl, bh, D, r, hp, q⟩ := h
    have hpl : ps.length ≤ Ns.length := by have := congrArg List.length Sc.pre; rw [List.length_take] at this; omega
    refine ⟨tRet (wE (scD G st Ns k) e), ?_, ?_⟩
    · rw [hb]
      exact pss_one (ps_ret (wE_ok ⟨rfl, rfl, rfl, rfl, rfl, rfl, rfl, rfl, rfl, Sc.nd, hr, rfl⟩))
    · subst hN
      have hl2 : ds.length ≤ N0.length := by
        have := hlen ds hp
        simp only [List.length_cons] at hpl
        omega
      have E0 := (env_start (C := G.C) (N := N0) bh r hl2).e
      have E1 := senv_consW (v := .ref a) E0
      rw [← start_cons (x := x0)] at E1
      exact body ds a hp B _ H E1 D _ fun v B' H' d pd g D' rr => q v B' H' d pd g D' rr
theorem sc_llot : FnScope ["_law_draws_here", "_law_worlds", "_law_world"] ["_law_draws_here", "_law_worlds"] (defScope (top 53)) := ⟨rfl, rfl, rfl, by decide +kernel, rfl, by decide +kernel, by decide +kernel⟩
def PN12 (ds : List Dt) : Prop := ∃ n : Nat, ds = [.n n] ∧ 1 ≤ n ∧ n ≤ 12
def QLot (ds : List Dt) (d : Dt) : Prop := ∃ n : Nat, ds = [.n n] ∧ ∃ q : Nat → Bool, d = .T (sel n q)
def QRank (ds : List Dt) (d : Dt) : Prop := ∃ n : Nat, ds = [.n n] ∧ ∃ L : List Nat, Dn L ∧ L.length = n ∧ d = .L L
theorem ok_llot (Z : Bt G) (cT : TakeC G) (D : DefAt G "_law_lot" "_law_lot" (top 53)) : CalleeX G "_law_lot" 2 ["_law_draws_here", "_law_worlds"] PN12 QLot := by
  obtain ⟨f, fd, F, hm⟩ := D.ex
  refine ⟨f, fd, fn_X F sc_llot (fun ds ⟨n, e, _⟩ => by rw [e]; rfl) rfl "_law_draws_here" ["_law_worlds", "_law_world"] rfl fun ds a ⟨n, e, h1, h2⟩ => ?_, hm, F.kp, F.binds fun _ _ _ _ _ _ us hl => match us, hl with | [_, _], _ => rfl⟩
  subst e
  show YE _ _ _ [.w (.ref a), .v (.n n), .un] _
  refine ye_tuple Z.tuple (ye_imp (ye_lcC 2 (n := n) (noO_of rfl) (ji_range Z.range (je_var 1) (by omega)) (by omega) (fun z hz => yt_eqI (b := 2) (i := 1) (noO_of rfl) (ye_imp (ye_callX 0 cT rfl (ja_cons je_int ja_nil) ⟨2, rfl, by omega⟩) fun d ⟨b, e, r, hr, ed⟩ => ?_) je_int) (fun z hz => je_var 2) fun z => noO_of rfl) fun d ⟨q, e⟩ => ⟨sel n q, ⟨n, rfl, q, rfl⟩, e⟩)
  have : b = 2 := by cases e; rfl
  subst this
  exact ⟨r, hr, ed⟩
theorem sc_lrank : FnScope ["_law_draws_here", "_law_worlds", "_law_world"] ["_law_draws_here", "_law_worlds"] (defScope (top 59)) := ⟨rfl, rfl, rfl, by decide +kernel, rfl, by decide +kernel, by decide +kernel⟩
theorem ok_lrank (Z : Bt G) (cT : TakeC G) (cD : DenC G) (D : DefAt G "_law_rank" "_law_rank" (top 59)) : CalleeX G "_law_rank" 2 ["_law_draws_here", "_law_worlds"] PN12 QRank := by
  obtain ⟨f, fd, F, hm⟩ := D.ex
  refine ⟨f, fd, fn_X F sc_lrank (fun ds ⟨n, e, _⟩ => by rw [e]; rfl) rfl "_law_draws_here" ["_law_worlds", "_law_world"] rfl fun ds a ⟨n, e, h1, h2⟩ => ?_, hm, F.kp, F.binds fun _ _ _ _ _ _ us hl => match us, hl with | [_, _], _ => rfl⟩
  subst e
  show YE _ _ _ [.w (.ref a), .v (.n n), .un] _
  refine ye_call cD (ya_cons (noO_of rfl) (ye_lcE 2 (n := n) (b := n) (noO_of rfl) (ji_range Z.range (je_var 1) (by omega)) (by omega) fun z hz => ye_imp (ye_callX 0 cT rfl (ja_cons (je_var 1) ja_nil) ⟨n, rfl, by omega⟩) fun d ⟨b, e, r, hr, ed⟩ => ?_) ya_nil) fun ds' ⟨d, ds2, e, ⟨ys, hy1, hy2, ed⟩, e2⟩ => ?_
  · have : b = n := by
      have := congrArg List.head? e
      simp only [List.head?_cons] at this
      exact (inj_n (Option.some.inj this)).symm
    subst this
    exact ⟨r, hr, ed⟩
  · subst e2 ed e
    have hd := dnN_den (ns := ys) (by omega)
    refine ⟨.L (dnN ys), ⟨ys.map fun (k : Nat) => (k : Int), dnN ys, by rw [show Dt.L ys = Dt.LI (ys.map fun (k : Nat) => (k : Int)) from congrArg Dt.lst (by rw [List.map_map]; rfl)], ?_, by rw [List.length_map]; omega, ?_, rfl⟩, n, rfl, dnN ys, hd.dn, by rw [hd.len, hy1], rfl⟩
    · intro z
      have := congrArg List.length z
      rw [List.length_map, List.length_nil] at this
      omega
    · rw [List.length_map]
      refine hd.congr fun u w hu hw => ?_
      have key : ∀ w, w < ys.length → li (ys.map fun (k : Nat) => (k : Int)) w = (lv ys w : Int) := fun w hw => by
        simp [li, lv, List.getD_eq_getElem?_getD, List.getElem?_eq_getElem hw]
      rw [key u hu, key w hw]
      omega
end My

/-! # Dr4 -/
namespace My
open PySem L2
variable {G : Gx}
section
variable {S : SC} {ρ : List Sl} {d : Dt} {e e1 e2 : Expr} {pos p px : Pos} {x : Str} {l : List Dt}
/-! ### a list that the caller holds -/
abbrev scr (S : SC) (a : Addr) (ns : List Int) : Sl := .k (.ref a) fun H => SqL S.K H a (ns.map V.int)
theorem je_lenK (i : Nat) {a : Addr} {ns : List Int} (hi : ρ[i]? = some (scr S a ns)) (hm : S.mg "len" = none) (hN : S.N[i]? = some x := by rfl) (hv : Vis S.sc x := by first | exact Or.inl rfl | exact Or.inr (Or.inl rfl) | exact Or.inr (Or.inr rfl)) (hg : S.sc.names.lookup ("len" : Str) = some .globalImplicit := by rfl)
    (hd : (x == ("__debug__" : Str)) = false := by decide) (hcd : (x == ("__classdict__" : Str)) = false := by decide) : JE S (.Call (.Name "len" p) [.Name x px] [] pos) ρ (.n ns.length) :=
  je_of (t := tCB (fun xs H Q => ∃ p ys, xs = [.ref p] ∧ (SqL S.K H p ys ∨ SqT S.K H p ys) ∧ Q (.int ys.length) H) (tCons (tVar i) tNil))
    (fun X hc => by
      have h0 := call_len_seq (X := X)
      rw [hc.K] at h0
      exact pe_callB h0 (show X.env.scope.names.lookup ("len" : Str) = _ by rw [hc.sc]; exact hg) (by rw [hc.mg]; exact hm) PySem.boot_len (pa_cons (pe_var (i := i) (by rw [hc.N]; exact hN) (by rw [hc.sc]; exact hv) hd hcd) pa_nil)) fun B σ H E Q k => by
    obtain ⟨e1, hP⟩ := E.sl i _ hi
    exact ⟨.ref a, e1, a, _, rfl, .inl (hP H E.bh), by rw [List.length_map]; exact k _ B H (Gr.refl E.bh) (.int _)⟩
theorem je_ixK (i : Nat) {a : Addr} {ns : List Int} {k : Nat} {v : Int} (hi : ρ[i]? = some (scr S a ns)) (hb : JE S e2 ρ (.n k)) (hk : ns[k]? = some v) (hN : S.N[i]? = some x := by rfl) (hv : Vis S.sc x := by first | exact Or.inl rfl | exact Or.inr (Or.inl rfl) | exact Or.inr (Or.inr rfl))
    (hs : PlainIx e2 := by intro _ _; rfl) (hd : (x == ("__debug__" : Str)) = false := by decide) (hcd : (x == ("__classdict__" : Str)) = false := by decide) : JE S (.Subscript (.Name x px) e2 pos) ρ (.int v) :=
  je_of (t := tOp (rIxL S.K) (tVar i) (wE S e2)) (fun X h => by have := pe_ix (X := X) (pos := pos) (hr := ix_list) (pe_var (i := i) (x := x) (pos := px) (by rw [h.N]; exact hN) (by rw [h.sc]; exact hv) hd hcd) (wE_ok (e := e2) h) hs; rw [h.K] at this; exact this) fun B σ H E Q q => by
    obtain ⟨e1, hP⟩ := E.sl i _ hi
    refine ⟨.ref a, e1, hb B σ H E _ fun v B1 H1 g1 r1 => ?_⟩
    cases r1
    exact ⟨a, ns.map V.int, _, .int _, rfl, rfl, hP H1 (g1.b.trans g1.bh), atI_nat (by rw [List.getElem?_map, hk]; rfl), q _ B1 H1 g1 (.int _)⟩
/-- e[::-1] -/
theorem je_revL {kk : Nat} {p1 p2 p3 : Pos} (ha : JE S e ρ (.lst l)) : JE S (.Subscript e (.Slice none none (some (.UnaryOp .USub (.Constant (.int 1) kk p1) p2)) p3) pos) ρ (.lst l.reverse) :=
  je_of (t := tRevL S.K (wE S e)) (fun X h => by have := pe_revL (X := X) (k := kk) (p1 := p1) (p2 := p2) (p3 := p3) (pos := pos) (wE_ok (e := e) h); rw [h.K] at this; exact this) fun B σ H E Q k => ha B σ H E _ fun v B1 H1 g1 r1 => by
    cases r1 with
    | @lst al xl _ h1 h2 =>
      refine ⟨al, xl, rfl, SqL.of (g1.bh _ _ h1), fun q hq => ?_⟩
      have gn := Gr.new (o := .lst xl.reverse) g1.bh hq
      have rv : ∀ {vs : List V} {ds : List Dt}, RpAll S.C B1 vs ds → RpAll S.C B1 vs.reverse ds.reverse := by
        intro vs ds h
        induction vs generalizing ds with
        | nil => cases h; exact .nil
        | cons v vs ih =>
          cases h with
          | cons r t =>
            rw [List.reverse_cons, List.reverse_cons]
            exact (ih t).append (.cons r .nil)
      exact k _ _ _ (g1.trans gn) (.lst upd_same ((rv h2).mono gn.b))
end
theorem cmulR {i j : Int} (h1 : -(2 ^ 40) < j) (h2 : j < 2 ^ 40) : CMul i j := by
  have e : (2 : Int) ^ 64 = 18446744073709551616 := by decide
  have e2 : (2 : Int) ^ 40 = 1099511627776 := by decide
  unfold CMul
  rw [e]
  rw [e2] at h1 h2
  right
  omega
theorem sc_ldraws : FnScope ["_law_script", "_law_draws_here", "_law_place", "_law_cell", "_law_turn_here", "_law_seed"] ["_law_script"] (defScope (top 48)) := ⟨rfl, rfl, rfl, by decide +kernel, rfl, by decide +kernel, by decide +kernel⟩
def spDraws (K : PySem.W.Frag) : Sp := fun vs H Q _ => ∃ (a : Addr) (ns : List Int), vs = [.ref a] ∧ SqL K H a (ns.map V.int) ∧ ∀ (p : Addr) (H' : Hp) (ys : List Int), H' p = some (.lst (ys.map V.int)) → Q (.ref p) H'
theorem sql_keep {K : PySem.W.Frag} {H H' : Hp} {a : Addr} {xs : List V} (h : SqL K H a xs) (e : ∀ o, H a = some o → H' a = some o) : SqL K H' a xs := by
  rcases h with (h | ⟨o, h⟩) | h
  · exact .inl (.inl (e _ h))
  · exact .inl (.inr ⟨o, e _ h⟩)
  · exact .inr h
theorem jb_draws (Z : Bt G) (a : Addr) (ns : List Int) : JB (scD G (top 48) ["_law_script", "_law_draws_here", "_law_place", "_law_cell", "_law_turn_here", "_law_seed"] 0) (defBody (top 48)) [scr (scD G (top 48) ["_law_script", "_law_draws_here", "_law_place", "_law_cell", "_law_turn_here", "_law_seed"] 0) a ns, .un, .un, .un, .un, .un] (fun _ => False) (fun d => ∃ ys : List Int, d = .LI ys) (fun _ => False) (fun _ => False) := by
  generalize hscr : scr (scD G (top 48) ["_law_script", "_law_draws_here", "_law_place", "_law_cell", "_law_turn_here", "_law_seed"] 0) a ns = s0
  refine jb_then (js_own 1 ja_nil) ?_
  show JB _ _ [s0, .o [], .un, .un, .un, .un] _ _ _ _
  have hmin : (Dt.int (if (63 : Int) < (ns.length : Int) then 63 else (ns.length : Int))) = .n (min ns.length 63) := by
    show Dt.int _ = Dt.int _
    congr 1
    split <;> omega
  refine jb_cons (js_forN 2 (List.range (min ns.length 63)) Dt.n (ji_range Z.range (je_is (je_min2 Z.min (je_lenK 0 (a := a) (ns := ns) (by rw [← hscr]; rfl) Z.len) je_int) hmin) (by omega)) (fun k r => ∃ (xs : List Int) (s2 s3 s4 s5 : Sl), xs.length ≤ 50 * k ∧ r = [s0, .o (xs.map Dt.int), s2, s3, s4, s5]) ⟨[], .un, .un, .un, .un, Nat.zero_le _, rfl⟩ ?_
    (N := fun r => ∃ (xs : List Int) (s2 s3 s4 s5 : Sl), r = [s0, .o (xs.map Dt.int), s2, s3, s4, s5]) (fun r ⟨xs, s2, s3, s4, s5, _, e⟩ => ⟨xs, s2, s3, s4, s5, e⟩)) ?_
  · rintro k y r hk ⟨xs, s2, s3, s4, s5, hx, rfl⟩
    obtain ⟨hk1, hk2⟩ := List.getElem?_eq_some_iff.mp hk
    rw [List.length_range] at hk1
    have e : y = k := by rw [← hk2, List.getElem_range]
    subst e
    have hyl : y < ns.length := by omega
    show JB _ _ [s0, .o (xs.map Dt.int), .v (.n y), s3, s4, s5] _ _ _ _
    refine jb_then (js_set 3 (je_intOf Z.int (je_ixK 0 (a := a) (ns := ns) (v := ns[y]) (by rw [← hscr]; rfl) (je_var 2) (List.getElem?_eq_getElem hyl)))) ?_
    generalize ns[y] = c0
    show JB _ _ [s0, .o (xs.map Dt.int), .v (.n y), .v (.int c0), s4, s5] _ _ _ _
    refine jb_cons (N1 := fun r => ∃ c : Int, r = [s0, .o (xs.map Dt.int), .v (.n y), .v (.int c), s4, s5]) (js_if (jt_lt (je_var 3) je_int) (fun _ => jb_one (SD.imp (js_set 3 (je_sub je_int (je_var 3))) (fun z e => ⟨_, e⟩) fun _ h => h)) (fun _ => jb_nil ⟨c0, rfl⟩)) ?_
    rintro r ⟨c, rfl⟩
    refine jb_one (js_if (jt_ge (je_var 3) (je_pow je_int je_int ⟨by decide, by decide, by decide⟩)) (fun _ => ?_) (fun _ => ?_))
    · refine jb_one (js_forN 4 (List.range 50) Dt.n (ji_range (n := 50) Z.range je_int (by omega)) (fun j r => ∃ (xs : List Int) (c : Int) (s4 : Sl), xs.length ≤ 50 * y + j ∧ r = [s0, .o (xs.map Dt.int), .v (.n y), .v (.int c), s4, s5]) ⟨xs, c, s4, hx, rfl⟩ ?_ (fun r ⟨xs, c, s4, h1, e⟩ => ⟨xs, .v (.n y), .v (.int c), s4, s5, by rw [List.length_range] at h1; omega, e⟩))
      rintro j t r hj ⟨xs, c, s4, h1, rfl⟩
      obtain ⟨hj1, _⟩ := List.getElem?_eq_some_iff.mp hj
      rw [List.length_range] at hj1
      show JB _ _ [s0, .o (xs.map Dt.int), .v (.n y), .v (.int c), .v (.n t), s5] _ _ _ _
      refine jb_one (js_if (jt_gt (je_var 3) je_int) (fun _ => ?_) (fun _ => jb_nil ⟨xs, c, .v (.n t), by omega, rfl⟩))
      refine jb_then (js_app 1 rfl (je_mod (je_intOf Z.int (je_var 3)) je_int (by decide)) (by rw [List.length_map]; omega)) ?_
      exact jb_one (SD.imp (js_set 3 (je_fdiv (je_var 3) je_int ⟨by decide, by decide⟩)) (fun z e => ⟨xs ++ [c % 30], _, .v (.n t), by rw [List.length_append, List.length_singleton]; omega, e.trans (by rw [List.map_append]; rfl)⟩) fun _ h => h)
    · refine jb_then (js_set 5 (je_mod (je_intOf Z.int (je_add (je_add (je_mul (je_var 3) je_int (cmulR (by decide) (by decide))) (je_mul (je_var 2) je_int (cmulR (by decide) (by decide)))) je_int)) je_int (by decide))) ?_
      generalize hs : (c * 48271 + (y : Int) * 6007 + 17) % 2147483629 = sd
      have hsd1 : 0 ≤ sd := by rw [← hs]; exact Int.emod_nonneg _ (by decide)
      have hsd2 : sd < 2147483629 := by rw [← hs]; exact Int.emod_lt_of_pos _ (by decide)
      show JB _ _ [s0, .o (xs.map Dt.int), .v (.n y), .v (.int c), s4, .v (.int sd)] _ _ _ _
      refine jb_one (js_forN 4 (List.range 6) Dt.n (ji_range (n := 6) Z.range je_int (by omega)) (fun j r => ∃ (xs : List Int) (sd : Int) (s4 : Sl), xs.length ≤ 50 * y + j ∧ 0 ≤ sd ∧ sd < 2147483629 ∧ r = [s0, .o (xs.map Dt.int), .v (.n y), .v (.int c), s4, .v (.int sd)]) ⟨xs, sd, s4, hx, hsd1, hsd2, rfl⟩ ?_ (fun r ⟨xs, sd, s4, h1, _, _, e⟩ => ⟨xs, .v (.n y), .v (.int c), s4, .v (.int sd), by rw [List.length_range] at h1; omega, e⟩))
      rintro j t r hj ⟨xs, sd, s4, h1, h2, h3, rfl⟩
      obtain ⟨hj1, _⟩ := List.getElem?_eq_some_iff.mp hj
      rw [List.length_range] at hj1
      show JB _ _ [s0, .o (xs.map Dt.int), .v (.n y), .v (.int c), .v (.n t), .v (.int sd)] _ _ _ _
      refine jb_then (js_set 5 (je_mod (je_intOf Z.int (je_add (je_add (je_add (je_mul (je_var 5) (je_var 5) (cmulR (Int.lt_of_lt_of_le (by decide) h2) (Int.lt_trans h3 (by decide)))) (je_mul (je_var 4) je_int (cmulR (by decide) (by decide)))) (je_mul (je_var 2) je_int (cmulR (by decide) (by decide)))) je_int)) je_int (by decide))) ?_
      generalize hs2 : (sd * sd + (t : Int) * 90001 + (y : Int) * 43 + 3) % 2147483587 = sd2
      have q1 : 0 ≤ sd2 := by rw [← hs2]; exact Int.emod_nonneg _ (by decide)
      have q2 : sd2 < 2147483629 := by rw [← hs2]; exact Int.lt_trans (Int.emod_lt_of_pos _ (by decide)) (by decide)
      show JB _ _ [s0, .o (xs.map Dt.int), .v (.n y), .v (.int c), .v (.n t), .v (.int sd2)] _ _ _ _
      exact jb_one (SD.imp (js_app 1 rfl (je_var 5) (by rw [List.length_map]; omega)) (fun z e => ⟨xs ++ [sd2], sd2, .v (.n t), by rw [List.length_append, List.length_singleton]; omega, q1, q2, e.trans (by rw [List.map_append]; rfl)⟩) fun _ h => h)
  · rintro r ⟨xs, s2, s3, s4, s5, rfl⟩
    refine jb_freeze 1 rfl ?_
    exact jb_one (js_ret (je_is (je_revL (je_var 1)) (d' := .LI xs.reverse) (by show Dt.lst _ = Dt.lst _; rw [List.map_reverse])) ⟨xs.reverse, rfl⟩)
theorem ok_ldraws {f : Addr} {fd : FuncData} (Z : Bt G) (F : Fun G.K "_law_draws" "_law_draws" (top 48) f fd) : FnOk G.P G.w G.K G.mg G.base CX0 1 f fd ["_law_script"] (spDraws G.K) := by
  refine F.ok sc_ldraws (fun vs H Q E h => ?_) (fun cdv A outer s H vs Q E hr h => ?_)
  · obtain ⟨a, ns, rfl, _⟩ := h
    rfl
  · obtain ⟨a, ns, rfl, hS, q⟩ := h
    refine ⟨wB (scD G (top 48) ["_law_script", "_law_draws_here", "_law_place", "_law_cell", "_law_turn_here", "_law_seed"] 0) (defBody (top 48)), wB_ok ⟨rfl, rfl, rfl, rfl, rfl, rfl, rfl, rfl, rfl, sc_ldraws.nd, hr, rfl⟩, ?_⟩
    have bh : Same (fun p => if p = a then H a else none : Hp) H := fun p o h => by
      by_cases c : p = a
      · subst c
        simpa using h
      · have : (if p = a then H a else none) = some o := h
        rw [if_neg c] at this
        cases this
    have hsl : ∀ H' : Hp, Same (fun p => if p = a then H a else none : Hp) H' → SqL G.K H' a (ns.map V.int) := fun H' e => sql_keep hS fun o ho => e a o (by show (if a = a then H a else none) = some o; rw [if_pos rfl]; exact ho)
    have E0 : EnvS G.C (fun p => if p = a then H a else none : Hp) H (fun p => if p = a then H a else none : Hp) (L2.start ["_law_script", "_law_draws_here", "_law_place", "_law_cell", "_law_turn_here", "_law_seed"] [.ref a]) H [scr (scD G (top 48) ["_law_script", "_law_draws_here", "_law_place", "_law_cell", "_law_turn_here", "_law_seed"] 0) a ns, .un, .un, .un, .un, .un] := by
      have ho : NoO [scr (scD G (top 48) ["_law_script", "_law_draws_here", "_law_place", "_law_cell", "_law_turn_here", "_law_seed"] 0) a ns, .un, .un, .un, .un, .un] := noO_of rfl
      refine ⟨⟨bh, fun i s hi => ?_, fun i j ds es p _ hi _ _ _ => (ho i ds hi).elim, rfl⟩, Gr.refl bh, fun i ds p hi _ => (ho i ds hi).elim⟩
      match i, hi with
      | 0, hi => cases hi; exact ⟨rfl, hsl⟩
      | 1, hi => cases hi; trivial
      | 2, hi => cases hi; trivial
      | 3, hi => cases hi; trivial
      | 4, hi => cases hi; trivial
      | 5, hi => cases hi; trivial
      | i + 6, hi => cases hi
    refine jb_draws Z a ns _ _ _ _ _ _ E0 (fun _ _ _ _ h => h.elim) (fun x B' H' d hd g r => ?_) (fun _ _ _ _ h => h.elim) (fun _ _ _ _ h => h.elim)
    obtain ⟨ys, rfl⟩ := hd
    cases r with
    | lst h1 h2 =>
      refine q _ H' ys ?_
      rw [← h2.ints]
      exact g.bh _ _ h1
end My

/-! # Lw -/
namespace My
open PySem L2
variable {G : Gx}
/-! ### the statements of the law, over its list of draws at a -/
def YSD (C a : Addr) (ts : TS) (ρ : List Sl) (N : List Sl → Prop) : Prop := ∀ (D : Ends) B σ H, SEnv C B σ H ρ → DrS a B H →
  (∀ B' σ' H' ρ', N ρ' → GrX a B H B' H' → SEnv C B' σ' H' ρ' → DrS a B' H' → D.nx σ' H') → (∀ H', D.rt (.bl true) H') → ts D σ H
abbrev YS (S : SC) (a : Addr) (st : Stmt) (ρ : List Sl) (N : List Sl → Prop) : Prop := YSD S.C a (wS S st) ρ N
abbrev YB (S : SC) (a : Addr) (st : List Stmt) (ρ : List Sl) (N : List Sl → Prop) : Prop := YSD S.C a (wB S st) ρ N
section
variable {S : SC} {a : Addr} {ρ ρ' : List Sl} {d : Dt} {e e1 e2 c iter : Expr} {es : List Expr} {st : Stmt} {rest s1 body : List Stmt} {pos p px : Pos} {x : Str} {N N1 : List Sl → Prop} {Post : Dt → Prop}
theorem yb_nil (h : N ρ) : YB S a [] ρ N := fun D B σ H E Dr k _ => ⟨tNext, fun _ _ => pss_nil, k B σ H ρ h (GrX.refl E.bh) E Dr⟩
theorem yb_cons (h1 : YS S a st ρ N1) (h2 : ∀ ρ1, N1 ρ1 → YB S a rest ρ1 N) : YB S a (st :: rest) ρ N := fun D B σ H E Dr k kr =>
  ⟨_, fun X h => pss_cons (wS_ok h) (wB_ok h), h1 { D with nx := wB S rest D } B σ H E Dr (fun B' σ' H' ρ' n g E' D' => h2 ρ' n D B' σ' H' E' D' (fun B2 σ2 H2 ρ2 n2 g2 E2 D2 => k B2 σ2 H2 ρ2 n2 (g.trans D' g2) E2 D2) kr) kr⟩
theorem yb_one (h1 : YS S a st ρ N) : YB S a [st] ρ N := fun D B σ H E Dr k kr => ⟨_, fun X h => pss_one (wS_ok h), h1 D B σ H E Dr k kr⟩
theorem ys_js (hn : NoO ρ) (h : JS S st ρ N (fun z => z = .bl true) (fun _ => False) (fun _ => False)) : YS S a st ρ N := fun D B σ H E Dr k kr =>
  h B H D B σ H ⟨E, Gr.refl E.bh, fun i ds p hi _ => (hn i ds hi).elim⟩ (fun B' σ' H' ρ' n _ E' => k B' σ' H' ρ' n (GrX.of E'.g) E'.e (Dr.gr E'.g)) (fun x B' H' d hd g r => by subst hd; cases r; exact kr H') (fun _ _ _ _ h => h.elim) (fun _ _ _ _ h => h.elim)
theorem ys_set (i : Nat) {pos' : Pos} (hn : NoO ρ) (h : YE S a e ρ Post) (hx : Lc S i x := by first | exact ⟨rfl, .inl rfl, .inr rfl⟩ | exact ⟨rfl, .inr rfl, .inl rfl⟩) (hs : ∀ env, swapsWith e (some (.Name x pos')) pos.line env = pure false := by intro _; rfl) :
    YS S a (.Assign [.Name x pos'] e pos) ρ (fun z => ∃ d, Post d ∧ z = ρ.set i (.v d)) := fun D B σ H E Dr k kr =>
  ⟨tAsg (wE S e) (gName i), fun X hc => ps_set (by rw [hc.N]; exact hc.nd) (by rw [hc.N]; exact hx.1) (by rw [hc.sc]; exact hx.2.1) (wE_ok hc) (hs _) (by rw [hc.fn, hc.sc]; exact hx.2.2), h B σ H E Dr _ fun v B1 H1 d pd g1 D1 r1 =>
    k B1 _ H1 _ ⟨d, pd, rfl⟩ g1 ((E.grX hn g1).set (s := .v d) ⟨v, rfl, r1⟩ (fun ds z => by cases z)) D1⟩
theorem ys_if {s2 : List Stmt} {Pb : Bool → Prop} (hn : NoO ρ) (hc : YT S a c ρ Pb) (h1 : Pb true → YB S a s1 ρ N) (h2 : Pb false → YB S a s2 ρ N) : YS S a (.If c s1 s2 pos) ρ N := fun D B σ H E Dr k kr =>
  ⟨_, fun X h => ps_if (wT_ok h) (wB_ok h) (wB_ok h), hc B σ H E Dr _ fun b B1 H1 pb g1 D1 => by
    cases b with
    | true => exact h1 pb D B1 σ H1 (E.grX hn g1) D1 (fun B2 σ2 H2 ρ2 n2 g2 E2 D2 => k B2 σ2 H2 ρ2 n2 (g1.trans D1 g2) E2 D2) kr
    | false => exact h2 pb D B1 σ H1 (E.grX hn g1) D1 (fun B2 σ2 H2 ρ2 n2 g2 E2 D2 => k B2 σ2 H2 ρ2 n2 (g1.trans D1 g2) E2 D2) kr⟩
theorem yb_skip (hn : NoO ρ) (hc : YT S a c ρ (fun b => b = false)) (h : YB S a rest ρ N) : YB S a (.If c s1 [] pos :: rest) ρ N :=
  yb_cons (N1 := fun z => z = ρ) (ys_if hn hc (fun h => by cases h) fun _ => yb_nil rfl) fun _ e => e ▸ h
theorem yb_jskip (hn : NoO ρ) (hc : JT S c ρ false) (h : YB S a rest ρ N) : YB S a (.If c s1 [] pos :: rest) ρ N := yb_skip hn (yt_of hc) h
theorem ys_for (i : Nat) {n : Nat} (hn : ∀ ρ, N ρ → NoO ρ) (hi : JI S (.Name x px) iter ρ ((List.range n).map Dt.n)) (h0 : N ρ) (hb : ∀ k ρ', k < n → N ρ' → YB S a body (ρ'.set i (.v (.n k))) N) (hx : Lc S i x := by first | exact ⟨rfl, .inl rfl, .inr rfl⟩ | exact ⟨rfl, .inr rfl, .inl rfl⟩) (hs : ∀ env x, foldedSetIterable iter env x = pure x := by intro _ _; rfl) :
    YS S a (.For (.Name x px) iter body [] pos) ρ N := fun D B σ H E Dr k kr =>
  ⟨tFor (wI S (.Name x px) iter) (wG S (.Name x px)) (wB S body), fun X h => ps_for (by rw [h.xe]; exact PassesOwn.never) h.calm (wI_ok h) (wG_ok h) (wB_ok h) (hs _), hi B σ H E _ fun J B1 H1 g1 it => by
    have hlen : ((List.range n).map Dt.n).length = n := by simp
    have D1 := Dr.gr g1
    refine ⟨fun i m σ H => m = n - i ∧ i ≤ n ∧ ∃ ρ' B', N ρ' ∧ GrX a B1 H1 B' H ∧ SEnv S.C B' σ H ρ' ∧ DrS a B' H, ⟨n, by simp, Nat.zero_le _, ρ, B1, h0, GrX.refl g1.bh, E.grow g1, D1⟩, ?_⟩
    rintro k0 m σ' H' ⟨rfl, hi', ρ', B', iv, gx, E', D'⟩
    by_cases hlt : k0 < n
    · refine .inr ⟨it.go k0 H' (by rw [hlen]; exact hlt) (gx.b.trans E'.bh), fun σ H => ∃ ρ' B', N ρ' ∧ GrX a B1 H1 B' H ∧ SEnv S.C B' σ H ρ' ∧ DrS a B' H, fun σ2 H2 q => ⟨n - (k0 + 1), by omega, rfl, hlt, q⟩, fun v H2 y => ?_⟩
      obtain ⟨B2, gr, rx⟩ := it.yld k0 B' H' v H2 (by rw [hlen]; exact hlt) gx.b E'.bh y
      have ex : ((List.range n).map Dt.n)[k0] = Dt.n k0 := by simp
      rw [ex] at rx
      have E2 := E'.grow gr
      have D2 := D'.gr gr
      refine (jg_name (S := S) (ρ := ρ') (d := .n k0) (pos := px) i hx).g B2 σ' H2 E2 v _ rx fun σ2 E3 _ _ => ?_
      refine hb k0 ρ' hlt iv _ B2 σ2 H2 E3 D2 (fun B5 σ5 H5 ρ5 n5 g5 E5 D5 => ?_) kr
      exact ⟨ρ5, B5, n5, (gx.trans D' (GrX.of gr)).trans D2 g5, E5, D5⟩
    · have e : k0 = n := by omega
      subst e
      have st := it.stop H' (gx.b.trans E'.bh)
      rw [hlen] at st
      exact .inl ⟨st, k B' σ' H' ρ' iv ((GrX.of g1).trans D1 gx) E' D'⟩⟩
end
/-! ### the law -/
def RRef (ds : List Dt) (d : Dt) : Prop := ∃ (r : Nat) (L M : List Nat), ds = [.n r, .rk L, .rk M] ∧ L.length ≠ M.length ∧ d = .n M.length
abbrev lawN : List Str := ["_law_script", "_law_draws_here", "_law_worlds", "_law_levels", "_law_first", "_law_goal", "_law_turn_here", "_law_door", "_law_at"]
theorem sc_law : FnScope lawN ["_law_script"] (defScope (top 73)) := ⟨rfl, rfl, rfl, by decide +kernel, rfl, by decide +kernel, by decide +kernel⟩
def spLaw (K : PySem.W.Frag) : Sp := fun vs H Q _ => ∃ (a : Addr) (ns : List Int), vs = [.ref a] ∧ SqL K H a (ns.map V.int) ∧ ns.length ≤ 63 ∧ ∀ H', Q (.bl true) H'
structure LawC (G : Gx) : Prop where
  take : TakeC G
  rank : CalleeX G "_law_rank" 2 ["_law_draws_here", "_law_worlds"] PN12 QRank
  lot : CalleeX G "_law_lot" 2 ["_law_draws_here", "_law_worlds"] PN12 QLot
  all : Callee G "_law_all_goals" 10 ["_law_levels"] RAll
  plus : Callee G "_law_plus" 1 ["_law_one", "_law_other"] RPlus
  held : Callee G "_law_held" 1 ["_law_levels"] RLHeld
  dense : DenC G
  prod : Callee G "_law_product" 2 ["_law_one", "_law_other"] RProd
  ask : Callee G "_law_asked" 9 ["_law_levels", "_law_goal"] RAsk
  any : Callee G "_law_anywhere" 10 ["_law_levels", "_law_goal"] RAsk
  ref : Callee G "_law_refused" 6 ["_law_door", "_law_rank_here", "_law_goal"] RRef
  ofl : OfM G
  flt : FlatM G
theorem take_post {b : Nat} {d : Dt} (h : QTake [.n b] d) : ∃ r, r < b ∧ d = .n r := by
  obtain ⟨b', e, r, hr, ed⟩ := h
  have := congrArg List.head? e
  simp only [List.head?_cons] at this
  have := inj_n (Option.some.inj this)
  exact ⟨r, by omega, ed⟩
theorem rank_post {n : Nat} {d : Dt} (h : QRank [.n n] d) : ∃ L : List Nat, Dn L ∧ L.length = n ∧ d = .L L := by
  obtain ⟨n', e, L, h1, h2, ed⟩ := h
  have := congrArg List.head? e
  simp only [List.head?_cons] at this
  have := inj_n (Option.some.inj this)
  exact ⟨L, h1, by omega, ed⟩
theorem lot_post {n : Nat} {d : Dt} (h : QLot [.n n] d) : ∃ q : Nat → Bool, d = .T (sel n q) := by
  obtain ⟨n', e, q, ed⟩ := h
  have := congrArg List.head? e
  simp only [List.head?_cons] at this
  have := inj_n (Option.some.inj this)
  exact ⟨q, by rw [this]; exact ed⟩
theorem yb_law (Z : Bt G) (F : RkF G) (c : LawC G) (a : Addr) : YB (scD G (top 73) lawN 12) a ((defBody (top 73)).drop 1) [.un, .w (.ref a), .un, .un, .un, .un, .un, .un, .un] (fun _ => False) := by
  have nw : ∀ {s2 s3 s4 s5 s6 s7 s8 : Sl}, NoO [s2, s3, s4, s5, s6, s7, s8] → NoO [.un, .w (.ref a), s2, s3, s4, s5, s6, s7, s8] := fun h i ds e => by
    match i, e with
    | 0, e => cases e
    | 1, e => cases e
    | i + 2, e => exact h i ds e
  refine yb_cons (ys_set 2 (noO_of rfl) (ye_addL (i := 1) (b := 3) (noO_of rfl) (je_is je_int (d' := .n 1) rfl) (ye_imp (ye_callX 1 c.take rfl (ja_cons je_int ja_nil) ⟨3, rfl, by omega⟩) fun d h => take_post h))) ?_
  rintro r ⟨d, ⟨r0, hr0, rfl⟩, rfl⟩
  show YB _ _ _ [.un, .w (.ref a), .v (.n (1 + r0)), .un, .un, .un, .un, .un, .un] _
  refine yb_cons (N1 := fun z => ∃ n : Nat, 1 ≤ n ∧ n ≤ 4 ∧ z = [.un, .w (.ref a), .v (.n n), .un, .un, .un, .un, .un, .un]) (ys_if (noO_of rfl) (yt_eqI (b := 6) (i := 5) (noO_of rfl) (ye_imp (ye_callX 1 c.take rfl (ja_cons je_int ja_nil) ⟨6, rfl, by omega⟩) fun d h => take_post h) je_int) (fun _ => yb_one (ys_js (noO_of rfl) (SD.imp (js_set 2 (je_is je_int (d' := .n 4) rfl)) (fun z e => ⟨4, by omega, by omega, e⟩) fun _ h => h))) (fun _ => yb_nil ⟨1 + r0, by omega, by omega, rfl⟩)) ?_
  rintro r ⟨n, hn1, hn4, rfl⟩
  refine yb_skip (noO_of rfl) (yt_not (b := true) (yt_val (b := true) (ye_call c.all (ya_cons (noO_of rfl) (ye_imp (ye_callX 1 c.rank rfl (ja_cons (je_var 2) ja_nil) ⟨n, rfl, hn1, by omega⟩) fun d h => rank_post h) ya_nil) fun ds h => ?_))) ?_
  · obtain ⟨d, ds', rfl, ⟨L, h1, h2, rfl⟩, rfl⟩ := h
    exact ⟨.bl true, ⟨L, rfl, h1, by omega, rfl⟩, rfl⟩
  refine yb_cons (ys_set 2 (noO_of rfl) (ye_addL (i := 4) (b := 5) (noO_of rfl) (je_is je_int (d' := .n 4) rfl) (ye_imp (ye_callX 1 c.take rfl (ja_cons je_int ja_nil) ⟨5, rfl, by omega⟩) fun d h => take_post h))) ?_
  rintro r ⟨d, ⟨r1, hr1, rfl⟩, rfl⟩
  generalize hw : 4 + r1 = w
  have hw4 : 4 ≤ w := by omega
  have hw8 : w ≤ 8 := by omega
  show YB _ _ _ [.un, .w (.ref a), .v (.n w), .un, .un, .un, .un, .un, .un] _
  refine yb_cons (ys_set 3 (noO_of rfl) (ye_imp (ye_callX 1 c.rank rfl (ja_cons (je_var 2) ja_nil) ⟨w, rfl, by omega, by omega⟩) fun d h => rank_post h)) ?_
  rintro r ⟨d, ⟨L, hL, hLn, rfl⟩, rfl⟩
  show YB _ _ _ [.un, .w (.ref a), .v (.n w), .v (.L L), .un, .un, .un, .un, .un] _
  refine yb_cons (ys_set 4 (noO_of rfl) (Post := fun d => ∃ q : Nat → Bool, d = .T (sel L.length fun z => heldB L z || q z)) (ye_call c.plus (ya_cons (noO_of rfl) (ye_of (je_call c.held (ja_cons (je_var 3) ja_nil) ⟨L, rfl, by omega, rfl⟩)) (ya_cons (noO_of rfl) (ye_imp (ye_callX 1 c.lot rfl (ja_cons (je_var 2) ja_nil) ⟨w, rfl, by omega, by omega⟩) fun d h => lot_post h) ya_nil)) fun ds h => ?_)) ?_
  · obtain ⟨d, ds', rfl, rfl, d2, ds2, rfl, ⟨q, rfl⟩, rfl⟩ := h
    exact ⟨_, ⟨L.length, heldB L, q, by rw [hLn], by omega, rfl⟩, q, rfl⟩
  rintro r ⟨d, ⟨q, rfl⟩, rfl⟩
  show YB _ _ _ [.un, .w (.ref a), .v (.n w), .v (.L L), .v (.T (sel L.length fun z => heldB L z || q z)), .un, .un, .un, .un] _
  refine yb_cons (ys_js (noO_of rfl) (js_set 5 (je_call c.dense (ja_cons (je_is (je_lcM 8 (List.range L.length) Dt.n (fun z => .int (mnum L (fun z => heldB L z || q z) z)) (ji_range Z.range (je_is (je_var 2) (d' := .n L.length) (by rw [hLn])) (by omega)) (fun z hz => je_if (jt_in (je_var 8) (je_var 4) (.inl rfl)) (fun hb => je_is (je_neg je_int) ?_) (fun hb => je_is (je_ix (je_var 3) (.inr rfl) (je_var 8) (lev_get (List.mem_range.mp hz))) ?_)) (by rw [List.length_range]; omega)) (d' := .LI ((List.range L.length).map (mnum L (fun z => heldB L z || q z)))) (congrArg Dt.lst (by rw [List.map_map]; rfl))) ja_nil) ⟨_, _, rfl, ?_, ?_, mnum_den hL, rfl⟩))) ?_
  · have hm := (mem_sel.mp (of_decide_eq_true hb)).2
    unfold mnum
    rw [if_pos hm]
  · have hm : ¬ ((heldB L z || q z) = true) := fun t => of_decide_eq_false hb (mem_sel.mpr ⟨List.mem_range.mp hz, t⟩)
    unfold mnum
    rw [if_neg hm]
  · intro z
    have := congrArg List.length z
    rw [List.length_map, List.length_range, List.length_nil] at this
    omega
  · rw [List.length_map, List.length_range]
    omega
  rintro r rfl
  have hG0 := mrg_den (L := L) (p := fun z => heldB L z || q z) hL.pos
  generalize hg0 : mrg L (fun z => heldB L z || q z) = G0 at hG0
  show YB _ _ _ [.un, .w (.ref a), .v (.n w), .v (.L L), .v (.T (sel L.length fun z => heldB L z || q z)), .v (.L G0), .un, .un, .un] _
  generalize (Dt.T (sel L.length fun z => heldB L z || q z)) = d4
  refine yb_cons (N1 := fun z => ∃ M : List Nat, Dn M ∧ M.length = w ∧ z = [.un, .w (.ref a), .v (.n w), .v (.L L), .v d4, .v (.L M), .un, .un, .un]) (ys_if (noO_of rfl) (yt_eqI (b := 3) (i := 2) (noO_of rfl) (ye_imp (ye_callX 1 c.take rfl (ja_cons je_int ja_nil) ⟨3, rfl, by omega⟩) fun d h => take_post h) je_int)
    (fun _ => yb_cons (ys_set 5 (noO_of rfl) (Post := fun d => ∃ M : List Nat, Dn M ∧ M.length = w ∧ d = .L M) (ye_call c.prod (ya_cons (noO_of rfl) (ye_of (je_var 5)) (ya_cons (noO_of rfl) (ye_imp (ye_callX 1 c.rank rfl (ja_cons (je_var 2) ja_nil) ⟨w, rfl, by omega, by omega⟩) fun d h => rank_post h) ya_nil)) fun ds h => ?_)) fun r hr => yb_nil ?_) (fun _ => yb_nil ⟨G0, hG0.dn, by rw [hG0.len, hLn], rfl⟩)) ?_
  · obtain ⟨d, ds', rfl, rfl, d2, ds2, rfl, ⟨L2, h21, h22, rfl⟩, rfl⟩ := h
    have hD := dnF_den (n := G0.length) (f := fun u => lv G0 u * (G0.length + 1) + lv L2 u) hG0.dn.pos
    exact ⟨_, ⟨G0, L2, _, rfl, hG0.dn.pos, by rw [hG0.len]; omega, by rw [hG0.len]; omega, fun x hx => by
      obtain ⟨u, hu, e⟩ := mem_lv hx
      have := hG0.dn.lt_len hu
      rw [hG0.len] at this
      omega, hD, rfl⟩, _, hD.dn, by rw [hD.len, hG0.len, hLn], rfl⟩
  · obtain ⟨d, ⟨M, h1, h2, rfl⟩, rfl⟩ := hr
    exact ⟨M, h1, h2, rfl⟩
  rintro r ⟨M, hM, hMn, rfl⟩
  have hT : Two L M := ⟨hL, hM, by omega, by omega⟩
  refine yb_jskip (noO_of rfl) (jt_is (jt_not (jt_val (je_call c.ask (ja_cons (je_var 3) (ja_cons (je_var 5) ja_nil)) ⟨L, M, rfl, hT, rfl⟩))) rfl) ?_
  have hNo : ∀ ρ : List Sl, (∃ s6 : Sl, (s6 = .un ∨ ∃ d, s6 = .v d) ∧ ρ = [.un, .w (.ref a), .v (.n w), .v (.L L), .v d4, .v (.L M), s6, .un, .un]) → NoO ρ := fun ρ h => by
    obtain ⟨s6, h6, rfl⟩ := h
    rcases h6 with rfl | ⟨d, rfl⟩ <;> exact noO_of rfl
  refine yb_cons (ys_for 6 (n := 2) (N := fun z => ∃ s6 : Sl, (s6 = .un ∨ ∃ d, s6 = .v d) ∧ z = [.un, .w (.ref a), .v (.n w), .v (.L L), .v d4, .v (.L M), s6, .un, .un]) hNo (ji_range Z.range (je_is je_int (d' := .n 2) rfl) (by omega)) ⟨.un, .inl rfl, rfl⟩ ?_) ?_
  · rintro k r hk ⟨s6, _, rfl⟩
    show YB _ _ _ [.un, .w (.ref a), .v (.n w), .v (.L L), .v d4, .v (.L M), .v (.n k), .un, .un] _
    refine yb_skip (noO_of rfl) (yt_not (b := true) (yt_val (b := true) (ye_call c.any (ya_cons (noO_of rfl) (ye_imp (ye_callX 1 c.rank rfl (ja_cons (je_var 2) ja_nil) ⟨w, rfl, by omega, by omega⟩) fun d h => rank_post h) (ya_cons (noO_of rfl) (ye_of (je_var 5)) ya_nil)) fun ds h => ?_))) (yb_nil ⟨.v (.n k), .inr ⟨_, rfl⟩, rfl⟩)
    obtain ⟨d, ds', rfl, ⟨L2, h21, h22, rfl⟩, d2, ds2, rfl, rfl, rfl⟩ := h
    exact ⟨.bl true, ⟨L2, M, rfl, ⟨h21, hM, by omega, by omega⟩, rfl⟩, rfl⟩
  · rintro r ⟨s6, h6, rfl⟩
    have hN6 : NoO [.un, .w (.ref a), .v (.n w), .v (.L L), .v d4, .v (.L M), s6, .un, .un] := hNo _ ⟨s6, h6, rfl⟩
    have hfw : (flat (w + 1)).length = w + 1 := by simp [flat]
    refine yb_cons (N1 := fun z => ∃ s7 : Sl, (s7 = .un ∨ ∃ d, s7 = .v d) ∧ z = [.un, .w (.ref a), .v (.n w), .v (.L L), .v d4, .v (.L M), s6, s7, .un]) (ys_js hN6 (js_forN 7 (List.range 3) Dt.n (ji_range Z.range (je_is je_int (d' := .n 3) rfl) (by omega)) (fun _ z => ∃ s7 : Sl, (s7 = .un ∨ ∃ d, s7 = .v d) ∧ z = [.un, .w (.ref a), .v (.n w), .v (.L L), .v d4, .v (.L M), s6, s7, .un]) ⟨.un, .inl rfl, rfl⟩ ?_ (fun _ h => h))) ?_
    · rintro k y r hk ⟨s7, _, rfl⟩
      show JB _ _ [.un, .w (.ref a), .v (.n w), .v (.L L), .v d4, .v (.L M), s6, .v (.n y), .un] _ _ _ _
      refine jb_skip (jt_is (jt_ne (i := ((w + 1 : Nat) : Int)) (j := ((w + 1 : Nat) : Int)) (je_is (je_call c.ref (ja_cons (je_var 7) (ja_cons (je_cmeth F c.ofl (ja_cons (je_var 3) ja_nil) ⟨L, rfl, hL, by omega, rfl⟩) (ja_cons (je_cmeth F c.flt (ja_cons (je_is (je_add (je_var 2) je_int) (d' := .n (w + 1)) rfl) ja_nil) ⟨w + 1, rfl, by omega, by omega, rfl⟩) ja_nil))) ⟨y, L, flat (w + 1), rfl, by rw [hfw]; omega, rfl⟩) (by rw [hfw])) (je_is (je_add (je_var 2) je_int) (d' := .n (w + 1)) rfl)) (by simp)) (jb_nil ⟨.v (.n y), .inr ⟨_, rfl⟩, rfl⟩)
    · rintro r ⟨s7, h7, rfl⟩
      have hN7 : NoO [.un, .w (.ref a), .v (.n w), .v (.L L), .v d4, .v (.L M), s6, s7, .un] := by
        rcases h6 with rfl | ⟨d, rfl⟩ <;> rcases h7 with rfl | ⟨d', rfl⟩ <;> exact noO_of rfl
      exact yb_one (ys_js hN7 (js_ret (je_call c.any (ja_cons (je_var 3) (ja_cons (je_var 5) ja_nil)) ⟨L, M, rfl, hT, rfl⟩) rfl))
theorem ok_law {f fd' : Addr} {fd fdd : FuncData} (Z : Bt G) (F : RkF G) (c : LawC G) (Fl : Fun G.K "law" "law" (top 73) f fd) (Fd : Fun G.K "_law_draws" "_law_draws" (top 48) fd' fdd) (gd : G.mg "_law_draws" = some (.ref fd')) : FnOk G.P G.w G.K G.mg G.base CX0 13 f fd ["_law_script"] (spLaw G.K) := by
  have FD := ok_ldraws Z Fd
  refine Fl.ok sc_law (fun vs H Q E h => ?_) (fun cdv A outer s H vs Q E hr h => ?_)
  · obtain ⟨a, ns, rfl, _⟩ := h
    rfl
  · obtain ⟨a, ns, rfl, hS, _, q⟩ := h
    refine ⟨_, pss_cons (ps_set (i := 1) sc_law.nd rfl (Or.inl rfl) (pe_call FD (hr.mono (by decide)) rfl gd Fd.kp (Fd.binds fun _ _ _ _ _ _ us hl => match us, hl with | [_], _ => rfl) .nil pass0 (pa_cons (pv 0) pa_nil))) (wB_ok (S := scD G (top 73) lawN 12) (es := (defBody (top 73)).drop 1) ⟨rfl, rfl, rfl, rfl, rfl, rfl, rfl, rfl, rfl, sc_law.nd, hr, rfl⟩), ?_⟩
    refine ⟨.ref a, rfl, a, ns, rfl, hS, fun p H' ys hp => ?_⟩
    have hn : NoO [.un, .w (.ref p), .un, .un, .un, .un, .un, .un, .un] := noO_of rfl
    have E0 : SEnv G.C (fun _ => none) ((L2.start lawN [.ref a]).set 1 (some (.ref p))) H' [.un, .w (.ref p), .un, .un, .un, .un, .un, .un, .un] := by
      refine ⟨(fun _ _ h => by cases h), fun i s hi => ?_, fun i j ds es p _ hi _ _ _ => (hn i ds hi).elim, rfl⟩
      match i, hi with
      | 0, hi => cases hi; trivial
      | 1, hi => cases hi; rfl
      | 2, hi => cases hi; trivial
      | 3, hi => cases hi; trivial
      | 4, hi => cases hi; trivial
      | 5, hi => cases hi; trivial
      | 6, hi => cases hi; trivial
      | 7, hi => cases hi; trivial
      | 8, hi => cases hi; trivial
      | i + 9, hi => cases hi
    exact yb_law Z F c p _ _ _ H' E0 ⟨rfl, ys, hp⟩ (fun _ _ _ _ h => h.elim) fun H2 => q H2
end My

/-! # Ex1 -/
/-! an own exception class over an own class over Exception, with its own __init__ -/
namespace PySem
namespace MyX
open PySem.W Builtin Builtin.ObjectAttr HandSPX
/-- the chain of such a class -/
abbrev line2 (C N : Addr) : List Value := .ref C :: .ref N :: ESX.exTail
theorem line2_ty (C N : Addr) (T : String) : (Value.ref N :: ESX.exTail).contains (.type T) = ESX.exTail.contains (.type T) := by rw [List.contains_cons]; rfl
theorem line2_obj (C N : Addr) : (line2 C N).contains (.type "object") = true := by rw [List.contains_cons, line2_ty C N "object", show ESX.exTail.contains (Value.type "object") = true by decide +kernel, Bool.or_true]
theorem line2_free (self : Value) (C N : Addr) : refuseLoop self "__setattr__" (line2 C N) = pure () := (refuseLoop_ref ..).trans ((refuseLoop_ref ..).trans (F.store_Exception.passes self))
section
variable {pr : Program} {wd : World} {Ar : Around} {Rs : Result → Shared → Prop} {hp : Heap} {gn : Array GenState} {dr : Drawn} {tk0 : Nat} {os : OsState}
/-- object.__setattr__ on an exception without a dict: a dict of one field -/
theorem first_field {K : Frag} {key : Str} {tk : Tok} {val : Value} {ex C N : Addr} {slots : Array Value} {info : ClassData} (kin : K.In hp) (exAt : hp.get? ex = some { cls := .ref C, data := .fields slots }) (cl : clsIn K C = some info) (ch : info.mro = line2 C N) (dic : info.hasDict = true) (bare : findIn K (.ref C) key = some none)
    (go : ∀ hp2 tk2 dx, (∀ b ob, b ≠ ex → hp.get? b = some ob → hp2.get? b = some ob) → hp.objs.size ≤ dx → dx ≠ ex → hp2.get? ex = some { cls := .ref C, dict := some dx, data := .fields slots } → hp2.Ns1 dx (fun y => if y = key then some val else none) → Rs (.ok (.ret .none)) ⟨hp2, gn, dr, tk2, os⟩) :
    codeAny (model pr wd) Ar (.call (.builtin "object.__setattr__") ⟨[.ref ex, .str key tk, val], []⟩) Rs ⟨hp, gn, dr, tk0, os⟩ := by
  have store := F.store_object
  have inst : InstAt hp ex { cls := .ref C, data := .fields slots } C none := ⟨exAt, rfl, rfl, trivial⟩
  have mroC : mroIn K C (.type "object") = some true := by
    unfold mroIn
    rw [cl, Option.bind_some, ch, if_neg (fun z : (line2 C N).isEmpty = true => Bool.noConfusion z), line2_obj]
  have isObj : Looks (model pr wd) hp (isInstance (.ref ex) (.type "object")) true := inst.type.andThen (looks_mroIn kin mroC)
  have getMro : Looks (model pr wd) hp (mroOf (.ref C)) info.mro := (looks_clsIn kin cl).andThen .now
  have noTaker : Looks (model pr wd) hp (storeTaker? none) none := .now
  have getCls : Looks (model pr wd) hp (classData C) info := looks_clsIn kin cl
  have fresh : ex ≠ hp.objs.size := Nat.ne_of_lt (Heap.lt_size exAt)
  refine codeAny_call_builtin store.slot.plain store.entry (@check_slot (model pr wd) _ _ ⟨hp, gn, dr, tk0, os⟩ "object.__setattr__" "object" "__setattr__" (.ref ex) [.str key tk, val] [] _ store.kind store.split isObj (store.args (.ref ex) (.str key tk) val) ?_)
  rw [osa_eq, refuse_eq]
  refine wpAny_bind (wpAny_bind (inst.type.at (wpAny_bind (getMro.at ?_))))
  rw [ch, line2_free]
  refine wpAny_pure (wpAny_bind (inst.type.at (wpAny_bind ((looks_findIn kin bare).at (wpAny_bind (noTaker.at (?_ : wpAny _ _ (storeInOwnDict (.ref ex) (.ref C) (.str key tk) key val false) _ _ _)))))))
  cases info with
  | mk a1 a2 a3 a4 a5 a6 a7 a8 a9 a10 a11 =>
    simp only at dic
    subst dic
    unfold storeInOwnDict ownDictForStores
    repeat (first | with_reducible refine store_in_new ?_ ?_ | with_reducible refine wpAny_loadPart_at exAt ?_ | with_reducible refine getCls.at ?_ | wp_step)
    · exact ⟨_, #[], _, (Heap.get?_update_ne _ _ _ _ (Ne.symm fresh)).trans (Heap.get?_push_at rfl rfl), rfl, fun _ m => absurd m (by simp), fun _ => rfl⟩
    · intro hp2 tk2 ns same
      have exAt2 : (hp.push { cls := .type "dict", data := .dict #[] }).get? ex = some { cls := .ref C, data := .fields slots } := Heap.get?_push_of_some _ exAt
      exact go hp2 tk2 hp.objs.size (fun b ob nb obAt => (same.2 b (Nat.ne_of_lt (Heap.lt_size obAt))).trans ((Heap.get?_update_ne _ _ _ _ nb).trans (Heap.get?_push_of_some _ obAt))) (Nat.le_refl _) (Ne.symm fresh) ((same.2 ex fresh).trans (Heap.get?_update_self _ exAt2 rfl)) ns
end
end MyX
end PySem
namespace My
open PySem PySem.Spec PyProof.Rows L2
/-- the facts of the class that a raise wants -/
structure OexX (K : PySem.W.Frag) (C : Addr) : Prop where
  cls : ∃ nm q N NN bs sn sub ab col dd m0 m1 m2 m3 m5, K.lookup C = some (excClassObj nm q C NN bs (.ref N :: PySem.ESX.exTail) true sn sub ab col dd m0 m1 m2 m3 m5 "Exception.__new__")
  sa : PySem.W.findIn K (.ref C) "__setattr__" = some (some (.builtin "object.__setattr__"))
  ex : PySem.W.subIn K (.ref C) (.type "BaseException") = some true
  ty : PySem.W.typeIn K (.ref C) = some (.type "type")
  kp : PySem.W.keepIn K (.ref C) = true
section
variable {X : Cx}
/-- the heap when the exception at a has got its dict at d -/
abbrev withDict (H : Hp) (a C d : Addr) (f : Str) (y : V) : Hp := upd (upd H d (exd d [(f, y)])) a (exo a C (some d))
theorem field_ok {pins : List (Addr × Obj)} {σ : L2.St} {H : Hp} {st : Shared} {a C : Addr} {f : Str} {y : V} {u : Value} {Go : Unit → Shared → Prop} {Ex : Value → Shared → Prop} {Ar : Around} (T : OexX X.K C) (Iv : Inv X pins σ H st) (atA : H a = some (exo a C none)) (bare : PySem.W.findIn X.K (.ref C) f = some none) (ry : RelV y u)
    (go : ∀ d st2, H d = none → d ≠ a → Inv X pins σ (withDict H a C d f y) st2 → Go () st2) : wpAny (model X.prog X.w) Ar (setAttr (.ref a) f u) Go Ex st := by
  obtain ⟨nm, q, N, NN, bs, sn, sub, ab, col, dd, m0, m1, m2, m3, m5, look⟩ := T.cls
  have info : PySem.W.clsIn X.K C = some { name := nm, bases := bs, mro := PySem.MyX.line2 C N, ns := NN, qualname := q, hasDict := true, slotNames := sn, subclasses := sub, abstract := ab, collection := col, hasDel := false } := by
    unfold PySem.W.clsIn
    rw [look] <;> rfl
  obtain ⟨args, exAt⟩ := exo_at Iv.hok atA
  cases st with
  | mk hp gn dr tk os =>
    refine PySem.W.set_plain Iv.kIn (od := none) ⟨exAt, rfl, rfl, trivial⟩ T.sa (PySem.MyX.first_field Iv.kIn exAt info rfl rfl bare fun hp2 tk2 d same big nd exAt2 ns => ?_)
    have freeD : H d = none := Iv.hok.fresh big
    have old : ∀ {b : Addr} {ob : Obj}, hp.get? b = some ob → b ≠ d := fun m => Nat.ne_of_lt (Nat.lt_of_lt_of_le (Heap.lt_size m) big)
    have notA : ∀ {b : Addr}, H b = none → b ≠ a := fun {b} n z => by rw [z, atA] at n; cases n
    -- what stands at neither a nor d
    have off : ∀ {b : Addr}, b ≠ a → b ≠ d → withDict H a C d f y b = H b := fun na nd' => (upd_ne na).trans (upd_ne nd')
    refine go d _ freeD nd (Iv.un (t' := tk2) ⟨fun b ob m n _ _ => same b ob (notA n) m, fun b ob m n _ _ => ⟨ob.slots, same b ob (notA n) m⟩, fun b ob m n _ => (off (notA n) (old m)).trans n, fun b ob m _ => ?_, fun b xs m => (off (at_ne atA m exo_tup) (ne_of_none m freeD)).trans m, fun b ob v m => (off (at_ne atA m exo_frz) (ne_of_none m freeD)).trans m, fun b ps m => ⟨#[], ?_⟩⟩ fun b ob m => ?_)
    · by_cases c : b = a
      · exact ⟨_, c ▸ exAt2⟩
      · exact ⟨ob, same b ob c m⟩
    · rw [Array.append_empty]
      exact (off (at_ne atA m exo_tbl) (ne_of_none m freeD)).trans m
    · by_cases c : b = a
      · rw [c] at m ⊢
        have m' := (upd_same (H := upd H d (exd d [(f, y)]))).symm.trans m
        cases m'
        exact exo_ok exAt2
      · by_cases c2 : b = d
        · rw [c2] at m ⊢
          have m' := ((upd_ne nd).trans upd_same).symm.trans m
          cases m'
          exact exd_ok ns (relO_put (fs := []) ry fun _ => trivial)
        · rw [off c c2] at m
          refine (Iv.hok b ob m).stay (fun e v he z => same e v ?_ z) (fun e he => (off (at_ne atA he exo_own) (ne_of_none he freeD)).trans he) fun e xs he => (off (at_ne atA he exo_tup) (ne_of_none he freeD)).trans he
          rcases he with he | he
          · exact he ▸ c
          · exact at_ne atA he exo_own
/-- self.f = e, self being made -/
def tOstX (K : PySem.W.Frag) (f : Str) (to te : TE) : TS := fun D σ H => te σ H fun y H1 => to σ H1 fun x H2 => ∃ a C : Addr, x = .ref a ∧ OexX K C ∧ PySem.W.findIn K (.ref C) f = some none ∧ H2 a = some (exo a C none) ∧ ∀ d, H2 d = none → d ≠ a → D.nx σ (withDict H2 a C d f y)
theorem ps_ostX {o e : Expr} {to te : TE} {f : Str} {p' pos : Pos} (ho : PE X o to) (he : PE X e te) (hs : swapsWith e (some (.Attribute o f p')) pos.line X.env = pure false := by rfl) : PS X (.Assign [.Attribute o f p'] e pos) (tOstX X.K f to te) :=
  ⟨fun pins st σ H D Iv h => plainObj_wpAny_Assign_Attribute (thn (he.run pins st σ H _ Iv h) fun v st1 ⟨y, H1, I1, ry, h1⟩ => thn (ho.run pins st1 σ H1 _ I1 h1) fun u st2 ⟨x, H2, I2, rx, a, C, ex, T, bare, atA, go⟩ => by
    subst ex
    cases rx
    exact field_ok T I2 atA bare ry fun d st3 fd nd J => ⟨σ, _, J, go d fd nd⟩) hs⟩
/-- C(e, ..), C's own __init__ keeping sp: the exception, made to be raised -/
theorem pmk_oexX {CX : CXT} {x : Str} {C fI : Addr} {k : Nat} {fd : FuncData} {ps : List Str} {sp : Sp} {dvals : List Value} {dvs : List V} {e : Expr} {es : List Expr} {ta : TA} {p pos : Pos} (T : OexX X.K C) (iC : PySem.W.findIn X.K (.ref C) "__init__" = some (some (.ref fI))) (tI : PySem.W.typeIn X.K (.ref fI) = some (.type "function"))
    (Fi : FnOk X.prog X.w X.K X.mg X.base CX k fI fd ps sp) (hr : Room (k + 1) X.A) (hb : Binds X.K fd ps dvals) (hd : Vals dvs dvals) (hx : Passes CX X fun _ _ _ => False) (hg : Gl X x) (hm : X.mg x = some (.ref C)) (ha : PA X (e :: es) ta)
    (hdb : (x == ("__debug__" : Str)) = false := by decide) (he : starEach (e :: es) X.env = (false, eval e X.env) :: starEach es X.env := by rfl) (hpl : (backTo pos (starEach es X.env)).any (·.1) = false := by rfl) : PMk X (.Call (.Name x p) (e :: es) [] pos) (tMkO C sp dvs ta) := fun pins st σ H Go Iv h => by
  obtain ⟨nm, q, N, NN, bs, sn, sub, ab, col, dd, m0, m1, m2, m3, m5, look⟩ := T.cls
  refine wpAny_Call_Name_kw (ld_glob Iv hg hm (PySem.W.callWith_K (h₀ := X.base) Iv.ok.mod.kin T.kp (thn (ha.run pos pins st σ H _ Iv h) fun us st1 ⟨vs, H1, I1, rv, few, go⟩ => ⟨I1.kIn, ?_⟩) he hpl) hdb)
  cases st1 with
  | mk hp gn dr tk os =>
    -- the argument tuple is laid at the end of the heap, the exception behind it
    have big : hp.objs.size ≤ hp.objs.size + 1 := Nat.le_succ _
    have freeX : H1 (hp.objs.size + 1) = none := I1.hok.fresh big
    have laid : ∀ b ob, hp.get? b = some ob → ((hp.push (PySem.W.kdv_tup us)).push (PySem.HandSPX.excO C hp.objs.size)).get? b = some ob := fun _ _ m => Heap.get?_push_of_some _ (Heap.get?_push_of_some _ m)
    have exAt : ((hp.push (PySem.W.kdv_tup us)).push (PySem.HandSPX.excO C hp.objs.size)).get? (hp.objs.size + 1) = some (PySem.HandSPX.excO C hp.objs.size) := by heap_get
    have I2 := I1.laid (t' := tk) laid big (exo_ok exAt)
    have call := go (hp.objs.size + 1) freeX
    have vals : Vals (V.ref (hp.objs.size + 1) :: (vs ++ dvs)) (Value.ref (hp.objs.size + 1) :: (us ++ dvals)) := .cons rfl (rv.append hd)
    have count : (Value.ref (hp.objs.size + 1) :: us ++ dvals).length = ps.length := vals.length.symm.trans (Fi.len _ _ _ _ call)
    have room : us.length ≤ sizeLine := Nat.le_trans (rv.length ▸ few) (by rw [sizeLine_eq]; decide)
    have same : ∀ Y : String, (Value.ref N :: PySem.ESX.exTail).contains (.type Y) = PySem.ESX.exTail.contains (.type Y) := PySem.MyX.line2_ty C N
    refine wpAny_call (PySem.HandSPX.call_own F.excBase_Exception same (I1.kIn _ _ look) (PySem.W.looks_findIn I1.kIn iC) (fun self => PySem.W.bind_fn I1.kIn self tI) room (codeAny_mono (Fi.run _ X.stack _ _ ⟨.ref (hp.objs.size + 1) :: us, []⟩ _ _ _ (fun _ _ _ => False) (hr.make C us []) (I2.env0.make C us []) (hb _ (.ref (hp.objs.size + 1) :: us) I2.kIn count) vals call) fun back st2 done => ?_))
    rcases back with er | (_ | _ | _ | rt)
    · exact hx pins σ _ _ er st2 I2 done
    · exact done.elim
    · exact done.elim
    · exact done.elim
    · obtain ⟨v, H2, osame, bare, un, ok, rr, ev, d, fs, atX, atD, freeD, q2⟩ := done
      subst ev
      exact ⟨rr, mk_end (raises_own T.ex T.ty) I1 big laid un ok osame bare atX atD freeD q2⟩
end
end My

/-! # Ex2 -/
namespace My
open PySem L2
variable {G : Gx}
abbrev owInit : Stmt := inClass (top 7) 0
structure OwF (G : Gx) (O fX : Addr) (fdX : FuncData) : Prop where
  T : OexX G.K O
  gO : G.mg "OtherWorlds" = some (.ref O)
  iC : PySem.W.findIn G.K (.ref O) "__init__" = some (some (.ref fX))
  tI : PySem.W.typeIn G.K (.ref fX) = some (.type "function")
  fn : Fun G.K "__init__" "OtherWorlds.__init__" owInit fX fdX
  noN : PySem.W.findIn G.K (.ref O) "worlds" = some none
  xf : XfC G.K O
  te : PySem.W.exmOne G.K (.ref O) (.ref O) = some true
def spOW (O : Addr) : Sp := fun vs H Q _ => ∃ (a : Addr) (v : V), vs = [.ref a, v] ∧ H a = some (exo a O none) ∧ ∀ d, H d = none → d ≠ a → Q .non (upd (upd H d (exd d [("worlds", v)])) a (exo a O (some d)))
theorem sc_ow : FnScope ["self", "worlds"] ["self", "worlds"] (defScope owInit) := ⟨rfl, rfl, rfl, by decide +kernel, rfl, by decide +kernel, by decide +kernel⟩
theorem ok_ow {O fX : Addr} {fdX : FuncData} (W : OwF G O fX fdX) : FnOk G.P G.w G.K G.mg G.base CX0 1 fX fdX ["self", "worlds"] (spOW O) := by
  refine W.fn.ok sc_ow (fun vs H Q E h => ?_) (fun cdv A outer s H vs Q E hr h => ?_)
  · obtain ⟨a, v, rfl, _⟩ := h
    rfl
  · obtain ⟨a, v, rfl, ha, q⟩ := h
    refine ⟨_, pss_one (ps_ostX (pv 0) (pv 1)), ?_⟩
    exact ⟨v, rfl, .ref a, rfl, a, O, rfl, W.T, W.noN, ha, fun d h1 h2 => q d h1 h2⟩
/-- the error that says how many worlds -/
def spJX (C O : Addr) : Sp := fun vs H _ E => ∃ (B : Hp) (L M : List Nat), Same B H ∧ RpAll C B vs [.rk L, .rk M] ∧ L.length ≠ M.length ∧ ∀ d H', Same H H' → H' d = some (.xd [("worlds", .int (M.length : Nat))]) → E (.ref O) (some d) H'
theorem vac {X : Cx} {ss : List Stmt} : PSs X ss (fun _ _ _ => False) := ⟨fun pins s σ H D I h => h.elim⟩
theorem ok_rx {O fX f : Addr} {fdX fd : FuncData} {x qual : Str} {st : Stmt} {Ns : List Str} (F : RkF G) (W : OwF G O fX fdX) (Ff : Fun G.K x qual st f fd) (Sc : FnScope Ns ["rank", "goal"] (defScope st)) {p1 p2 p3 p4 p5 p6 p7 p8 p9 p10 p11 : Pos} {rest : List Stmt} (x0 : Str)
    (hb : defBody st = .If (.Compare (.Attribute (.Name "goal" p1) "worlds" p2) [.NotEq] [.Attribute (.Name "rank" p3) "worlds" p4] p5) [.Raise (some (.Call (.Name "OtherWorlds" p6) [.Attribute (.Name "goal" p7) "worlds" p8] [] p9)) none p10] [] p11 :: rest)
    (h0 : Ns[0]? = some ("rank" : Str)) (h1 : Ns[1]? = some ("goal" : Str)) (v0 : Vis (defScope st) "rank") (v1 : Vis (defScope st) "goal") (g0 : (defScope st).names.lookup ("OtherWorlds" : Str) = some .globalImplicit) : FnOk G.P G.w G.K G.mg G.base (L2.CX G.P G.w) 3 f fd ["rank", "goal"] (spJX G.C O) := by
  refine Ff.okX Sc (fun vs H Q E h => ?_) (fun cdv A outer s H vs Q E hr h => ?_)
  · obtain ⟨B, L, M, _, r, _⟩ := h
    exact r.length
  · obtain ⟨B, L, M, bh, r, hne, q⟩ := h
    rw [hb]
    have bO : Binds G.K fdX ["self", "worlds"] [] := W.fn.binds fun _ _ _ _ _ _ us hl => match us, hl with | [_, _], _ => rfl
    refine ⟨_, pss_cons (ps_if (pt_cmpR op_ne (SlX.pe_sl (pe_var (i := 1) h1 v1)) (SlX.pe_sl (pe_var (i := 0) h0 v0)) (nomark _)) (pss_one (ps_raise rfl (takes_of rfl rfl rfl rfl) (pmk_oexX W.T W.iC W.tI (ok_ow W) hr bO .nil pass0 g0 W.gO (pa_cons (SlX.pe_sl (pe_var (i := 1) h1 v1)) pa_nil)))) pss_nil) vac, ?_⟩
    obtain ⟨qW, sW⟩ := F.sW
    cases r with
    | cons r0 t =>
      cases t with
      | cons r1 t =>
        cases t
        obtain ⟨a0, dx0, c0, l0, rfl, s0, _, _⟩ := rk_slt bh r0
        obtain ⟨a1, dx1, c1, l1, rfl, s1, _, _⟩ := rk_slt bh r1
        have e0 : (L2.start Ns [V.ref a0, V.ref a1])[0]? = some (some (.ref a0)) := by rw [getElem?_start]; rfl
        have e1 : (L2.start Ns [V.ref a0, V.ref a1])[1]? = some (some (.ref a1)) := by rw [getElem?_start]; rfl
        refine ⟨.ref a1, e1, a1, G.C, dx1, qW, _, 2, _, rfl, s1, F.cls, sW, rfl, .ref a0, e0, a0, G.C, dx0, qW, _, 2, _, rfl, s0, F.cls, sW, rfl, rfl, _, rfl, ?_⟩
        rw [show (!decide (V.int (M.length : Nat) = V.int (L.length : Nat))) = true by simp; omega]
        refine ⟨.ref a1, e1, a1, G.C, dx1, qW, _, 2, _, rfl, s1, F.cls, sW, rfl, by show 1 ≤ 1000; decide, fun a ha => ⟨a, _, rfl, upd_same, fun d hd hne2 => ?_⟩⟩
        have hHd : H d = none := by rw [upd_ne hne2] at hd; exact hd
        refine ⟨rfl, d, _, upd_same, by rw [upd_ne hne2, upd_same], hHd, q d _ (fun p o hp => ?_) upd_same⟩
        have pa : p ≠ a := ne_of_none hp ha
        have pd : p ≠ d := ne_of_none hp hHd
        rw [upd_ne pd, del_ne pa, upd_ne pa, upd_ne pd, upd_ne pa]
        exact hp
/-- a def that calls joined_parts -/
theorem ok_rx2 {O f fJ : Addr} {fd fdJ : FuncData} {x qual : Str} {st : Stmt} {Ns : List Str} (FJ : FnOk G.P G.w G.K G.mg G.base (L2.CX G.P G.w) 3 fJ fdJ ["rank", "goal"] (spJX G.C O)) (gJ : G.mg "joined_parts" = some (.ref fJ)) (kJ : PySem.W.keepIn G.K (.ref fJ) = true) (bJ : Binds G.K fdJ ["rank", "goal"] [])
    (Ff : Fun G.K x qual st f fd) (Sc : FnScope Ns ["rank", "goal"] (defScope st)) {p1 p2 p3 p4 p5 p6 : Pos} {rest : List Stmt}
    (hb : defBody st = .Assign [.Name "parts" p1] (.Call (.Name "joined_parts" p2) [.Name "rank" p3, .Name "goal" p4] [] p5) p6 :: rest)
    (h0 : Ns[0]? = some ("rank" : Str)) (h1 : Ns[1]? = some ("goal" : Str)) (h2 : Ns[2]? = some ("parts" : Str)) (v0 : Vis (defScope st) "rank") (v1 : Vis (defScope st) "goal") (v2 : Loc (defScope st) "parts") (g0 : (defScope st).names.lookup ("joined_parts" : Str) = some .globalImplicit) : FnOk G.P G.w G.K G.mg G.base (L2.CX G.P G.w) 4 f fd ["rank", "goal"] (spJX G.C O) := by
  refine Ff.okX Sc (fun vs H Q E h => ?_) (fun cdv A outer s H vs Q E hr h => ?_)
  · obtain ⟨B, L, M, _, r, _⟩ := h
    exact r.length
  · obtain ⟨B, L, M, bh, r, hne, q⟩ := h
    rw [hb]
    have tk : Takes (cxOf (L2.CX G.P G.w) G.P G.w G.K G.mg G.base Ns qual (defScope st) f cdv A outer s H E) (fun cls d _ H => E cls d H) := takes_of rfl rfl rfl rfl
    refine ⟨_, pss_cons (ps_set (i := 2) Sc.nd h2 v2 (by exact (pe_callS FJ hr g0 gJ kJ bJ (fun σ => passAt tk σ) (by exact (pa_cons (pe_var (i := 0) h0 v0) (pa_cons (pe_var (i := 1) h1 v1) pa_nil)))))) vac, ?_⟩
    have r' := r
    cases r with
    | cons r0 t =>
      cases t with
      | cons r1 t =>
        cases t
        refine ⟨_, by rw [getElem?_start]; rfl, _, by rw [getElem?_start]; rfl, B, L, M, bh, r', hne, fun d H' s hd => q d H' s hd⟩
end My

/-! # Ex3 -/
namespace My
open PySem L2
variable {G : Gx}
theorem sc_lref : FnScope ["_law_door", "_law_rank_here", "_law_goal", "_law_found", "error"] ["_law_door", "_law_rank_here", "_law_goal"] (defScope (top 72)) := ⟨rfl, rfl, rfl, by decide +kernel, rfl, by decide +kernel, by decide +kernel⟩
/-- a def over two ranks that raises where their worlds differ -/
structure RaiseAt (G : Gx) (O : Addr) (x : Str) : Prop where
  ex : ∃ k f fd, k ≤ 4 ∧ FnOk G.P G.w G.K G.mg G.base (L2.CX G.P G.w) k f fd ["rank", "goal"] (spJX G.C O) ∧ G.mg x = some (.ref f) ∧ PySem.W.keepIn G.K (.ref f) = true ∧ Binds G.K fd ["rank", "goal"] []
abbrev rCall (C O : Addr) (W : WX) : TS := tDrop (tCallS (spJX C O) (WE W) (tCons (tVar 1) (tCons (tVar 2) tNil)))
def rSuite (O : Addr) : Addr → Value → Option Addr → TS := fun a cls d => tAsg (tXf a cls d O "worlds" (tVar 4)) (gName 3)
abbrev rBody (C O : Addr) (W : WX) : TS := tIfS (tTest (tOp rEq (tVar 0) (tC (.int 0)))) (rCall C O W) (tIfS (tTest (tOp rEq (tVar 0) (tC (.int 1)))) (rCall C O W) (rCall C O W))
theorem ok_lref {O fX f : Addr} {fdX fd : FuncData} (W : OwF G O fX fdX) (r1 : RaiseAt G O "fewest_levels") (r2 : RaiseAt G O "level_row") (r3 : RaiseAt G O "one_sink") (Ff : Fun G.K "_law_refused" "_law_refused" (top 72) f fd) : FnOk G.P G.w G.K G.mg G.base CX0 6 f fd ["_law_door", "_law_rank_here", "_law_goal"] (spD G.C RRef) := by
  obtain ⟨j1, f1, fd1, l1, F1, g1, k1, b1⟩ := r1.ex
  obtain ⟨j2, f2, fd2, l2, F2, g2, k2, b2⟩ := r2.ex
  obtain ⟨j3, f3, fd3, l3, F3, g3, k3, b3⟩ := r3.ex
  refine Ff.ok sc_lref (fun vs H Q E h => ?_) (fun cdv A outer s H vs Q E hr h => ?_)
  · obtain ⟨B, ds, d, _, r, ⟨dr, L, M, rfl, _⟩, _⟩ := h
    exact r.length
  · obtain ⟨B, ds, d, bh, r, ⟨dr, L, M, rfl, hne, rfl⟩, q⟩ := h
    have h1 := hr.mono (show j1 ≤ 5 by omega)
    have h2 := hr.mono (show j2 ≤ 5 by omega)
    have h3 := hr.mono (show j3 ≤ 5 by omega)
    refine ⟨_, pss_cons (ps_set (i := 3) sc_lref.nd rfl (Or.inl rfl) pe_int) (pss_cons (ps_try_as (i := 4) (tb := fun W => rBody G.C O W) (ts := rSuite O) (Wout := fun _ _ _ _ => False) rfl rfl sc_lref.nd rfl rfl ⟨rfl, by decide, Or.inl W.gO⟩ takes0
        (fun Wx pn xe tk _ => pss_one (ps_if (pt_cmpR op_eq (pv 0) pe_int (nomark _)) (pss_one (ps_expr (by exact (pe_callS F1 h1 rfl g1 k1 b1 (fun σ => passAt tk σ) (by exact (pa_cons (pv 1) (pa_cons (pv 2) pa_nil)))))))
          (pss_one (ps_if (pt_cmpR op_eq (pv 0) pe_int (nomark _)) (pss_one (ps_expr (by exact (pe_callS F2 h2 rfl g2 k2 b2 (fun σ => passAt tk σ) (by exact (pa_cons (pv 1) (pa_cons (pv 2) pa_nil)))))))
            (pss_one (ps_expr (by exact (pe_callS F3 h3 rfl g3 k3 b3 (fun σ => passAt tk σ) (by exact (pa_cons (pv 1) (pa_cons (pv 2) pa_nil)))))))))))
        (fun a oe cls d pn hz hf => pss_one (ps_set (i := 3) sc_lref.nd rfl (Or.inl rfl) (by exact (pe_xf W.xf W.noN hz hf (pv 4)))))) (pss_one (ps_ret (pv 3)))), ?_⟩
    cases r with
    | cons r0 t =>
      cases r0
      cases t with
      | cons ra t =>
        cases t with
        | cons rb t =>
          cases t
          rename_i va vb
          have key : ∀ D' : Ends, (∀ (σ' : L2.St) (H' : Hp), σ'[3]? = some (some (V.int (M.length : Nat))) → Same H H' → D'.nx σ' H') → rCall G.C O (wAs G.K (.ref O) 4 (rSuite O) (fun _ _ _ _ => False) D') D' ((L2.start ["_law_door", "_law_rank_here", "_law_goal", "_law_found", "error"] [V.int (dr : Nat), va, vb]).set 3 (some (.int 0))) H := fun D' hD' => by
            refine ⟨va, rfl, vb, rfl, B, L, M, bh, .cons ra (.cons rb .nil), hne, fun d H' sH hd => ⟨true, W.te, fun _ a ha => ?_, fun h => by cases h⟩⟩
            exact ⟨.ref a, rfl, rfl, rfl, d, _, _, rfl, hd, rfl, hD' _ H' rfl sH⟩
          have fin : ∀ (σ' : L2.St) (H' : Hp), σ'[3]? = some (some (V.int (M.length : Nat))) → Same H H' → Q (.int (M.length : Nat)) H' := fun σ' H' _ sH => q _ B H' ⟨Same.refl _, sH, bh.trans sH, fun _ _ h => h⟩ (.int _)
          have fin2 : ∀ (σ' : L2.St) (H' : Hp), σ'[3]? = some (some (V.int (M.length : Nat))) → Same H H' → tRet (tVar 3) { nx := fun _ H' => Q .non H', rt := Q } σ' H' := fun σ' H' e sH => ⟨_, e, fin σ' H' e sH⟩
          refine ⟨_, rfl, rfl, _, rfl, ?_⟩
          cases decide (V.int (dr : Nat) = V.int 0) with
          | true => exact key _ fin2
          | false =>
            refine ⟨_, rfl, rfl, _, rfl, ?_⟩
            cases decide (V.int (dr : Nat) = V.int 1) with
            | true => exact key _ fin2
            | false => exact key _ fin2
theorem exm_own {K : PySem.W.Frag} {S : Addr} (h1 : PySem.W.subIn K (.ref S) (.type "BaseException") = some true) (h2 : PySem.W.isClsIn K S = true) (h3 : PySem.W.typeIn K (.ref S) = some (.type "type")) (h4 : PySem.W.subIn K (.ref S) (.ref S) = some true) : PySem.W.exmOne K (.ref S) (.ref S) = some true := by
  have h2' : (PySem.W.clsIn K S).isSome = true := h2
  show (if (PySem.W.subIn K (.ref S) (.type "BaseException") == some true) = true then (if ((PySem.W.clsIn K S).isSome && PySem.W.typeIn K (.ref S) == some (.type "type")) = true then PySem.W.subIn K (.ref S) (.ref S) else none) else none) = some true
  rw [if_pos (by rw [h1]; rfl), if_pos (by rw [h2', h3]; rfl)]
  exact h4
end My

/-! # End -/
namespace My
open PySem L2
theorem all_mk {l : PySem.W.OpenLaw} {w : World} {K : PySem.W.Frag} {h : Heap} {mg : Str → Option Value} {fa : Addr} (X : K.In h) (G0 : h.Ns mainGlobals mg) (hfa : mg "law" = some (.ref fa))
    {C q0 q1 q2 fI pF fF pO fO pH fH fE fLo dLo tDW tGW fd9 fd10 fd11 fd12 fd13 fd15 fd16 fd17 fd18 fd19 fd20 fd22 fd23 fd26 fd27 fd29 fd30 fd31 fd32 fd33 fd34 fd38 fd39 fd40 fd42 fd43 fd44 fd45 fd46 fd48 fd49 fd50 fd51 fd52 fd53 fd54 fd55 fd56 fd57 fd58 fd59 fd60 fd61 fd62 fd63 fd64 fd65 fd66 fd67 fd68 fd69 fd70 fd71 fd72 fd73 : Addr} {rF rO rH : List Value} {odI anI : Option Addr} {slI : Array (Option Value)} {ocI kVI dcI pmI cdI ctI : Value} {odF anF : Option Addr} {slF : Array (Option Value)} {ocF kVF dcF pmF cdF ctF : Value} {odO anO : Option Addr} {slO : Array (Option Value)} {ocO kVO dcO pmO cdO ctO : Value} {odH anH : Option Addr} {slH : Array (Option Value)} {ocH kVH dcH pmH cdH ctH : Value} {odE anE : Option Addr} {slE : Array (Option Value)} {ocE kVE dcE pmE cdE ctE : Value} {odd9 and9 : Option Addr} {sld9 : Array (Option Value)} {ocd9 kVd9 dcd9 pmd9 cdd9 ctd9 : Value} {odd10 and10 : Option Addr} {sld10 : Array (Option Value)} {ocd10 kVd10 dcd10 pmd10 cdd10 ctd10 : Value} {odd11 and11 : Option Addr} {sld11 : Array (Option Value)} {ocd11 kVd11 dcd11 pmd11 cdd11 ctd11 : Value} {odd12 and12 : Option Addr} {sld12 : Array (Option Value)} {ocd12 kVd12 dcd12 pmd12 cdd12 ctd12 : Value} {odd13 and13 : Option Addr} {sld13 : Array (Option Value)} {ocd13 kVd13 dcd13 pmd13 cdd13 ctd13 : Value} {odd15 and15 : Option Addr} {sld15 : Array (Option Value)} {ocd15 kVd15 dcd15 pmd15 cdd15 ctd15 : Value} {odd16 and16 : Option Addr} {sld16 : Array (Option Value)} {ocd16 kVd16 dcd16 pmd16 cdd16 ctd16 : Value} {odd17 and17 : Option Addr} {sld17 : Array (Option Value)} {ocd17 kVd17 dcd17 pmd17 cdd17 ctd17 : Value} {odd18 and18 : Option Addr} {sld18 : Array (Option Value)} {ocd18 kVd18 dcd18 pmd18 cdd18 ctd18 : Value} {odd19 and19 : Option Addr} {sld19 : Array (Option Value)} {ocd19 kVd19 dcd19 pmd19 cdd19 ctd19 : Value} {odd20 and20 : Option Addr} {sld20 : Array (Option Value)} {ocd20 kVd20 dcd20 pmd20 cdd20 ctd20 : Value} {odd22 and22 : Option Addr} {sld22 : Array (Option Value)} {ocd22 kVd22 dcd22 pmd22 cdd22 ctd22 : Value} {odd23 and23 : Option Addr} {sld23 : Array (Option Value)} {ocd23 kVd23 dcd23 pmd23 cdd23 ctd23 : Value} {odd26 and26 : Option Addr} {sld26 : Array (Option Value)} {ocd26 kVd26 dcd26 pmd26 cdd26 ctd26 : Value} {odd27 and27 : Option Addr} {sld27 : Array (Option Value)} {ocd27 kVd27 dcd27 pmd27 cdd27 ctd27 : Value} {odd29 and29 : Option Addr} {sld29 : Array (Option Value)} {ocd29 kVd29 dcd29 pmd29 cdd29 ctd29 : Value} {odd30 and30 : Option Addr} {sld30 : Array (Option Value)} {ocd30 kVd30 dcd30 pmd30 cdd30 ctd30 : Value} {odd31 and31 : Option Addr} {sld31 : Array (Option Value)} {ocd31 kVd31 dcd31 pmd31 cdd31 ctd31 : Value} {odd32 and32 : Option Addr} {sld32 : Array (Option Value)} {ocd32 kVd32 dcd32 pmd32 cdd32 ctd32 : Value} {odd33 and33 : Option Addr} {sld33 : Array (Option Value)} {ocd33 kVd33 dcd33 pmd33 cdd33 ctd33 : Value} {odd34 and34 : Option Addr} {sld34 : Array (Option Value)} {ocd34 kVd34 dcd34 pmd34 cdd34 ctd34 : Value} {odd38 and38 : Option Addr} {sld38 : Array (Option Value)} {ocd38 kVd38 dcd38 pmd38 cdd38 ctd38 : Value} {odd39 and39 : Option Addr} {sld39 : Array (Option Value)} {ocd39 kVd39 dcd39 pmd39 cdd39 ctd39 : Value} {odd40 and40 : Option Addr} {sld40 : Array (Option Value)} {ocd40 kVd40 dcd40 pmd40 cdd40 ctd40 : Value} {odd42 and42 : Option Addr} {sld42 : Array (Option Value)} {ocd42 kVd42 dcd42 pmd42 cdd42 ctd42 : Value} {odd43 and43 : Option Addr} {sld43 : Array (Option Value)} {ocd43 kVd43 dcd43 pmd43 cdd43 ctd43 : Value} {odd44 and44 : Option Addr} {sld44 : Array (Option Value)} {ocd44 kVd44 dcd44 pmd44 cdd44 ctd44 : Value} {odd45 and45 : Option Addr} {sld45 : Array (Option Value)} {ocd45 kVd45 dcd45 pmd45 cdd45 ctd45 : Value} {odd46 and46 : Option Addr} {sld46 : Array (Option Value)} {ocd46 kVd46 dcd46 pmd46 cdd46 ctd46 : Value} {odd48 and48 : Option Addr} {sld48 : Array (Option Value)} {ocd48 kVd48 dcd48 pmd48 cdd48 ctd48 : Value} {odd49 and49 : Option Addr} {sld49 : Array (Option Value)} {ocd49 kVd49 dcd49 pmd49 cdd49 ctd49 : Value} {odd50 and50 : Option Addr} {sld50 : Array (Option Value)} {ocd50 kVd50 dcd50 pmd50 cdd50 ctd50 : Value} {odd51 and51 : Option Addr} {sld51 : Array (Option Value)} {ocd51 kVd51 dcd51 pmd51 cdd51 ctd51 : Value} {odd52 and52 : Option Addr} {sld52 : Array (Option Value)} {ocd52 kVd52 dcd52 pmd52 cdd52 ctd52 : Value} {odd53 and53 : Option Addr} {sld53 : Array (Option Value)} {ocd53 kVd53 dcd53 pmd53 cdd53 ctd53 : Value} {odd54 and54 : Option Addr} {sld54 : Array (Option Value)} {ocd54 kVd54 dcd54 pmd54 cdd54 ctd54 : Value} {odd55 and55 : Option Addr} {sld55 : Array (Option Value)} {ocd55 kVd55 dcd55 pmd55 cdd55 ctd55 : Value} {odd56 and56 : Option Addr} {sld56 : Array (Option Value)} {ocd56 kVd56 dcd56 pmd56 cdd56 ctd56 : Value} {odd57 and57 : Option Addr} {sld57 : Array (Option Value)} {ocd57 kVd57 dcd57 pmd57 cdd57 ctd57 : Value} {odd58 and58 : Option Addr} {sld58 : Array (Option Value)} {ocd58 kVd58 dcd58 pmd58 cdd58 ctd58 : Value} {odd59 and59 : Option Addr} {sld59 : Array (Option Value)} {ocd59 kVd59 dcd59 pmd59 cdd59 ctd59 : Value} {odd60 and60 : Option Addr} {sld60 : Array (Option Value)} {ocd60 kVd60 dcd60 pmd60 cdd60 ctd60 : Value} {odd61 and61 : Option Addr} {sld61 : Array (Option Value)} {ocd61 kVd61 dcd61 pmd61 cdd61 ctd61 : Value} {odd62 and62 : Option Addr} {sld62 : Array (Option Value)} {ocd62 kVd62 dcd62 pmd62 cdd62 ctd62 : Value} {odd63 and63 : Option Addr} {sld63 : Array (Option Value)} {ocd63 kVd63 dcd63 pmd63 cdd63 ctd63 : Value} {odd64 and64 : Option Addr} {sld64 : Array (Option Value)} {ocd64 kVd64 dcd64 pmd64 cdd64 ctd64 : Value} {odd65 and65 : Option Addr} {sld65 : Array (Option Value)} {ocd65 kVd65 dcd65 pmd65 cdd65 ctd65 : Value} {odd66 and66 : Option Addr} {sld66 : Array (Option Value)} {ocd66 kVd66 dcd66 pmd66 cdd66 ctd66 : Value} {odd67 and67 : Option Addr} {sld67 : Array (Option Value)} {ocd67 kVd67 dcd67 pmd67 cdd67 ctd67 : Value} {odd68 and68 : Option Addr} {sld68 : Array (Option Value)} {ocd68 kVd68 dcd68 pmd68 cdd68 ctd68 : Value} {odd69 and69 : Option Addr} {sld69 : Array (Option Value)} {ocd69 kVd69 dcd69 pmd69 cdd69 ctd69 : Value} {odd70 and70 : Option Addr} {sld70 : Array (Option Value)} {ocd70 kVd70 dcd70 pmd70 cdd70 ctd70 : Value} {odd71 and71 : Option Addr} {sld71 : Array (Option Value)} {ocd71 kVd71 dcd71 pmd71 cdd71 ctd71 : Value} {odd72 and72 : Option Addr} {sld72 : Array (Option Value)} {ocd72 kVd72 dcd72 pmd72 cdd72 ctd72 : Value} {odd73 and73 : Option Addr} {sld73 : Array (Option Value)} {ocd73 kVd73 dcd73 pmd73 cdd73 ctd73 : Value} {odLo anLo odDW odGW : Option Addr} {slLo slDW slGW : Array (Option Value)} {ocLo dcLo pmLo cdLo ctLo : Value} {itDW itGW : Array Value} {nDW nGW : Nat} {xO xN xB fX : Addr} {odX anX : Option Addr} {slX : Array (Option Value)} {ocX kVX dcX pmX cdX ctX : Value} {nm q : Str} {bs : List Value} {sn : List Str} {sub : List Value} {ab : Bool} {col : Option Bool} {dd : Option Addr} {m0 m1 m2 m3 m5 : Option Value} 
    (aC : PySem.W.nsIn K mainGlobals "Rank" = some (some (.ref C)))
    (pg : PySem.W.plainGet K C Str.empty = true)
    (ic : PySem.W.isClsIn K C = true)
    (po : PySem.W.plainOver K C = true)
    (sa : PySem.W.findIn K (.ref C) "__setattr__" = some (some (.builtin "object.__setattr__")))
    (ca : PySem.W.findIn K (.ref C) "__class__" = some (some (.builtin "object.__class__")))
    (cn : PySem.W.specialIn K (.builtin "object.__class__") "__get__" = some (some (.builtin "getset_descriptor.__get__")))
    (ct : PySem.W.takesIn K (.builtin "object.__class__") = some true)
    (cm : PySem.W.mroIn K C (.type "object") = some true)
    (sat2 : PySem.W.findIn K (.ref C) "worlds" = some (some (.ref q2)))
    (sge2 : PySem.W.specialIn K (.ref q2) "__get__" = some (some (.builtin "member_descriptor.__get__")))
    (stk2 : PySem.W.takesIn K (.ref q2) = some true)
    (sty2 : PySem.W.typeIn K (.ref q2) = some (.type "member_descriptor"))
    (six2 : PySem.W.slotIn K q2 C = some 2)
    (sat0 : PySem.W.findIn K (.ref C) "cells" = some (some (.ref q0)))
    (sge0 : PySem.W.specialIn K (.ref q0) "__get__" = some (some (.builtin "member_descriptor.__get__")))
    (stk0 : PySem.W.takesIn K (.ref q0) = some true)
    (sty0 : PySem.W.typeIn K (.ref q0) = some (.type "member_descriptor"))
    (six0 : PySem.W.slotIn K q0 C = some 0)
    (sat1 : PySem.W.findIn K (.ref C) "levels" = some (some (.ref q1)))
    (sge1 : PySem.W.specialIn K (.ref q1) "__get__" = some (some (.builtin "member_descriptor.__get__")))
    (stk1 : PySem.W.takesIn K (.ref q1) = some true)
    (sty1 : PySem.W.typeIn K (.ref q1) = some (.type "member_descriptor"))
    (six1 : PySem.W.slotIn K q1 C = some 1)
    (mk : PySem.W.makesIn K C = true)
    (kc : PySem.W.keepIn K (.ref C) = true)
    (iat : PySem.W.findIn K (.ref C) "__init__" = some (some (.ref fI)))
    (ifn : PySem.W.isFn K (.ref fI) = true)
    (lI : K.lookup fI = some ⟨ocI, odI, .func (PySem.W.fnOf "__init__" "Rank.__init__" (defArgs (mth 1)) (defBody (mth 1)) (defScope (mth 1)) .none kVI dcI pmI anI cdI ctI), slI⟩)
    (cI : PySem.W.codeIn K cdI "Rank.__init__" = true)
    (kI : PySem.W.keepIn K (.ref fI) = true)
    (rd : PySem.W.readsIn K C (.type "type") = true)
    (ga : PySem.W.specialIn K (.ref C) "__getattribute__" = some (some (.builtin "type.__getattribute__")))
    (catF : PySem.W.findCls K (.ref C) (.type "type") "flat" = some (.get (.builtin "classmethod.__get__") (.ref pF) .none (.ref C)))
    (crcF : PySem.W.recIn K pF "classmethod" = some (.ref fF :: rF))
    (cfiF : PySem.W.fnIn K fF = true)
    (lF : K.lookup fF = some ⟨ocF, odF, .func (PySem.W.fnOf "flat" "Rank.flat" (defArgs (mth 2)) (defBody (mth 2)) (defScope (mth 2)) .none kVF dcF pmF anF cdF ctF), slF⟩)
    (cF : PySem.W.codeIn K cdF "Rank.flat" = true)
    (kF : PySem.W.keepIn K (.ref fF) = true)
    (catO : PySem.W.findCls K (.ref C) (.type "type") "of_levels" = some (.get (.builtin "classmethod.__get__") (.ref pO) .none (.ref C)))
    (crcO : PySem.W.recIn K pO "classmethod" = some (.ref fO :: rO))
    (cfiO : PySem.W.fnIn K fO = true)
    (lO : K.lookup fO = some ⟨ocO, odO, .func (PySem.W.fnOf "of_levels" "Rank.of_levels" (defArgs (mth 4)) (defBody (mth 4)) (defScope (mth 4)) .none kVO dcO pmO anO cdO ctO), slO⟩)
    (cO : PySem.W.codeIn K cdO "Rank.of_levels" = true)
    (kO : PySem.W.keepIn K (.ref fO) = true)
    (hat : PySem.W.findIn K (.ref C) "held" = some (some (.ref pH)))
    (hge : PySem.W.specialIn K (.ref pH) "__get__" = some (some (.builtin "property.__get__")))
    (htk : PySem.W.takesIn K (.ref pH) = some true)
    (hrc : PySem.W.recIn K pH "property" = some (.ref fH :: rH))
    (lH : K.lookup fH = some ⟨ocH, odH, .func (PySem.W.fnOf "held" "Rank.held" (defArgs (mth 6)) (defBody (mth 6)) (defScope (mth 6)) .none kVH dcH pmH anH cdH ctH), slH⟩)
    (cH : PySem.W.codeIn K cdH "Rank.held" = true)
    (kH : PySem.W.keepIn K (.ref fH) = true)
    (eat : PySem.W.findIn K (.ref C) "__eq__" = some (some (.ref fE)))
    (efn : PySem.W.isFn K (.ref fE) = true)
    (lE : K.lookup fE = some ⟨ocE, odE, .func (PySem.W.fnOf "__eq__" "Rank.__eq__" (defArgs (mth 14)) (defBody (mth 14)) (defScope (mth 14)) .none kVE dcE pmE anE cdE ctE), slE⟩)
    (cE : PySem.W.codeIn K cdE "Rank.__eq__" = true)
    (kE : PySem.W.keepIn K (.ref fE) = true)
    (aLo : PySem.W.nsIn K mainGlobals "lot_of" = some (some (.ref fLo)))
    (lLo : K.lookup fLo = some ⟨ocLo, odLo, .func (PySem.W.fnOf "lot_of" "lot_of" (defArgs (top 14)) (defBody (top 14)) (defScope (top 14)) .none (.ref dLo) dcLo pmLo anLo cdLo ctLo), slLo⟩)
    (cLo : PySem.W.codeIn K cdLo "lot_of" = true)
    (kLo : PySem.W.keepIn K (.ref fLo) = true)
    (nLo : PySem.W.nsIn K dLo "empty" = some (some (.bool true)))
    (aDW : PySem.W.nsIn K mainGlobals "DEED_WORDS" = some (some (.ref tDW)))
    (lDW : K.lookup tDW = some ⟨.type "tuple", odDW, .seq itDW nDW, slDW⟩)
    (aGW : PySem.W.nsIn K mainGlobals "GIVE_WORDS" = some (some (.ref tGW)))
    (lGW : K.lookup tGW = some ⟨.type "tuple", odGW, .seq itGW nGW, slGW⟩)
    (vDW : Vals (dw.map V.str) itDW.toList)
    (zDW : itDW.size ≤ sizeLine)
    (vGW : Vals (gw.map V.str) itGW.toList)
    (zGW : itGW.size ≤ sizeLine)
    (add9 : PySem.W.nsIn K mainGlobals "whole_number" = some (some (.ref fd9)))
    (ldd9 : K.lookup fd9 = some ⟨ocd9, odd9, .func (PySem.W.fnOf "whole_number" "whole_number" (defArgs (top 9)) (defBody (top 9)) (defScope (top 9)) .none kVd9 dcd9 pmd9 and9 cdd9 ctd9), sld9⟩)
    (cdd9' : PySem.W.codeIn K cdd9 "whole_number" = true)
    (kdd9 : PySem.W.keepIn K (.ref fd9) = true)
    (add10 : PySem.W.nsIn K mainGlobals "is_row" = some (some (.ref fd10)))
    (ldd10 : K.lookup fd10 = some ⟨ocd10, odd10, .func (PySem.W.fnOf "is_row" "is_row" (defArgs (top 10)) (defBody (top 10)) (defScope (top 10)) .none kVd10 dcd10 pmd10 and10 cdd10 ctd10), sld10⟩)
    (cdd10' : PySem.W.codeIn K cdd10 "is_row" = true)
    (kdd10 : PySem.W.keepIn K (.ref fd10) = true)
    (add11 : PySem.W.nsIn K mainGlobals "check_worlds" = some (some (.ref fd11)))
    (ldd11 : K.lookup fd11 = some ⟨ocd11, odd11, .func (PySem.W.fnOf "check_worlds" "check_worlds" (defArgs (top 11)) (defBody (top 11)) (defScope (top 11)) .none kVd11 dcd11 pmd11 and11 cdd11 ctd11), sld11⟩)
    (cdd11' : PySem.W.codeIn K cdd11 "check_worlds" = true)
    (kdd11 : PySem.W.keepIn K (.ref fd11) = true)
    (add12 : PySem.W.nsIn K mainGlobals "is_world" = some (some (.ref fd12)))
    (ldd12 : K.lookup fd12 = some ⟨ocd12, odd12, .func (PySem.W.fnOf "is_world" "is_world" (defArgs (top 12)) (defBody (top 12)) (defScope (top 12)) .none kVd12 dcd12 pmd12 and12 cdd12 ctd12), sld12⟩)
    (cdd12' : PySem.W.codeIn K cdd12 "is_world" = true)
    (kdd12 : PySem.W.keepIn K (.ref fd12) = true)
    (add13 : PySem.W.nsIn K mainGlobals "first_stranger" = some (some (.ref fd13)))
    (ldd13 : K.lookup fd13 = some ⟨ocd13, odd13, .func (PySem.W.fnOf "first_stranger" "first_stranger" (defArgs (top 13)) (defBody (top 13)) (defScope (top 13)) .none kVd13 dcd13 pmd13 and13 cdd13 ctd13), sld13⟩)
    (cdd13' : PySem.W.codeIn K cdd13 "first_stranger" = true)
    (kdd13 : PySem.W.keepIn K (.ref fd13) = true)
    (add15 : PySem.W.nsIn K mainGlobals "every" = some (some (.ref fd15)))
    (ldd15 : K.lookup fd15 = some ⟨ocd15, odd15, .func (PySem.W.fnOf "every" "every" (defArgs (top 15)) (defBody (top 15)) (defScope (top 15)) .none kVd15 dcd15 pmd15 and15 cdd15 ctd15), sld15⟩)
    (cdd15' : PySem.W.codeIn K cdd15 "every" = true)
    (kdd15 : PySem.W.keepIn K (.ref fd15) = true)
    (add16 : PySem.W.nsIn K mainGlobals "rest_of" = some (some (.ref fd16)))
    (ldd16 : K.lookup fd16 = some ⟨ocd16, odd16, .func (PySem.W.fnOf "rest_of" "rest_of" (defArgs (top 16)) (defBody (top 16)) (defScope (top 16)) .none kVd16 dcd16 pmd16 and16 cdd16 ctd16), sld16⟩)
    (cdd16' : PySem.W.codeIn K cdd16 "rest_of" = true)
    (kdd16 : PySem.W.keepIn K (.ref fd16) = true)
    (add17 : PySem.W.nsIn K mainGlobals "common" = some (some (.ref fd17)))
    (ldd17 : K.lookup fd17 = some ⟨ocd17, odd17, .func (PySem.W.fnOf "common" "common" (defArgs (top 17)) (defBody (top 17)) (defScope (top 17)) .none kVd17 dcd17 pmd17 and17 cdd17 ctd17), sld17⟩)
    (cdd17' : PySem.W.codeIn K cdd17 "common" = true)
    (kdd17 : PySem.W.keepIn K (.ref fd17) = true)
    (add18 : PySem.W.nsIn K mainGlobals "minus" = some (some (.ref fd18)))
    (ldd18 : K.lookup fd18 = some ⟨ocd18, odd18, .func (PySem.W.fnOf "minus" "minus" (defArgs (top 18)) (defBody (top 18)) (defScope (top 18)) .none kVd18 dcd18 pmd18 and18 cdd18 ctd18), sld18⟩)
    (cdd18' : PySem.W.codeIn K cdd18 "minus" = true)
    (kdd18 : PySem.W.keepIn K (.ref fd18) = true)
    (add19 : PySem.W.nsIn K mainGlobals "inside" = some (some (.ref fd19)))
    (ldd19 : K.lookup fd19 = some ⟨ocd19, odd19, .func (PySem.W.fnOf "inside" "inside" (defArgs (top 19)) (defBody (top 19)) (defScope (top 19)) .none kVd19 dcd19 pmd19 and19 cdd19 ctd19), sld19⟩)
    (cdd19' : PySem.W.codeIn K cdd19 "inside" = true)
    (kdd19 : PySem.W.keepIn K (.ref fd19) = true)
    (add20 : PySem.W.nsIn K mainGlobals "meets" = some (some (.ref fd20)))
    (ldd20 : K.lookup fd20 = some ⟨ocd20, odd20, .func (PySem.W.fnOf "meets" "meets" (defArgs (top 20)) (defBody (top 20)) (defScope (top 20)) .none kVd20 dcd20 pmd20 and20 cdd20 ctd20), sld20⟩)
    (cdd20' : PySem.W.codeIn K cdd20 "meets" = true)
    (kdd20 : PySem.W.keepIn K (.ref fd20) = true)
    (add22 : PySem.W.nsIn K mainGlobals "cells_told" = some (some (.ref fd22)))
    (ldd22 : K.lookup fd22 = some ⟨ocd22, odd22, .func (PySem.W.fnOf "cells_told" "cells_told" (defArgs (top 22)) (defBody (top 22)) (defScope (top 22)) .none kVd22 dcd22 pmd22 and22 cdd22 ctd22), sld22⟩)
    (cdd22' : PySem.W.codeIn K cdd22 "cells_told" = true)
    (kdd22 : PySem.W.keepIn K (.ref fd22) = true)
    (add23 : PySem.W.nsIn K mainGlobals "cells_by" = some (some (.ref fd23)))
    (ldd23 : K.lookup fd23 = some ⟨ocd23, odd23, .func (PySem.W.fnOf "cells_by" "cells_by" (defArgs (top 23)) (defBody (top 23)) (defScope (top 23)) .none kVd23 dcd23 pmd23 and23 cdd23 ctd23), sld23⟩)
    (cdd23' : PySem.W.codeIn K cdd23 "cells_by" = true)
    (kdd23 : PySem.W.keepIn K (.ref fd23) = true)
    (add26 : PySem.W.nsIn K mainGlobals "check_same_worlds" = some (some (.ref fd26)))
    (ldd26 : K.lookup fd26 = some ⟨ocd26, odd26, .func (PySem.W.fnOf "check_same_worlds" "check_same_worlds" (defArgs (top 26)) (defBody (top 26)) (defScope (top 26)) .none kVd26 dcd26 pmd26 and26 cdd26 ctd26), sld26⟩)
    (cdd26' : PySem.W.codeIn K cdd26 "check_same_worlds" = true)
    (kdd26 : PySem.W.keepIn K (.ref fd26) = true)
    (add27 : PySem.W.nsIn K mainGlobals "finer" = some (some (.ref fd27)))
    (ldd27 : K.lookup fd27 = some ⟨ocd27, odd27, .func (PySem.W.fnOf "finer" "finer" (defArgs (top 27)) (defBody (top 27)) (defScope (top 27)) .none kVd27 dcd27 pmd27 and27 cdd27 ctd27), sld27⟩)
    (cdd27' : PySem.W.codeIn K cdd27 "finer" = true)
    (kdd27 : PySem.W.keepIn K (.ref fd27) = true)
    (add29 : PySem.W.nsIn K mainGlobals "halving" = some (some (.ref fd29)))
    (ldd29 : K.lookup fd29 = some ⟨ocd29, odd29, .func (PySem.W.fnOf "halving" "halving" (defArgs (top 29)) (defBody (top 29)) (defScope (top 29)) .none kVd29 dcd29 pmd29 and29 cdd29 ctd29), sld29⟩)
    (cdd29' : PySem.W.codeIn K cdd29 "halving" = true)
    (kdd29 : PySem.W.keepIn K (.ref fd29) = true)
    (add30 : PySem.W.nsIn K mainGlobals "lies_at" = some (some (.ref fd30)))
    (ldd30 : K.lookup fd30 = some ⟨ocd30, odd30, .func (PySem.W.fnOf "lies_at" "lies_at" (defArgs (top 30)) (defBody (top 30)) (defScope (top 30)) .none kVd30 dcd30 pmd30 and30 cdd30 ctd30), sld30⟩)
    (cdd30' : PySem.W.codeIn K cdd30 "lies_at" = true)
    (kdd30 : PySem.W.keepIn K (.ref fd30) = true)
    (add31 : PySem.W.nsIn K mainGlobals "cell_numbers" = some (some (.ref fd31)))
    (ldd31 : K.lookup fd31 = some ⟨ocd31, odd31, .func (PySem.W.fnOf "cell_numbers" "cell_numbers" (defArgs (top 31)) (defBody (top 31)) (defScope (top 31)) .none kVd31 dcd31 pmd31 and31 cdd31 ctd31), sld31⟩)
    (cdd31' : PySem.W.codeIn K cdd31 "cell_numbers" = true)
    (kdd31 : PySem.W.keepIn K (.ref fd31) = true)
    (add32 : PySem.W.nsIn K mainGlobals "lead_row" = some (some (.ref fd32)))
    (ldd32 : K.lookup fd32 = some ⟨ocd32, odd32, .func (PySem.W.fnOf "lead_row" "lead_row" (defArgs (top 32)) (defBody (top 32)) (defScope (top 32)) .none kVd32 dcd32 pmd32 and32 cdd32 ctd32), sld32⟩)
    (cdd32' : PySem.W.codeIn K cdd32 "lead_row" = true)
    (kdd32 : PySem.W.keepIn K (.ref fd32) = true)
    (add33 : PySem.W.nsIn K mainGlobals "fewest_act" = some (some (.ref fd33)))
    (ldd33 : K.lookup fd33 = some ⟨ocd33, odd33, .func (PySem.W.fnOf "fewest_act" "fewest_act" (defArgs (top 33)) (defBody (top 33)) (defScope (top 33)) .none kVd33 dcd33 pmd33 and33 cdd33 ctd33), sld33⟩)
    (cdd33' : PySem.W.codeIn K cdd33 "fewest_act" = true)
    (kdd33 : PySem.W.keepIn K (.ref fd33) = true)
    (add34 : PySem.W.nsIn K mainGlobals "act_row" = some (some (.ref fd34)))
    (ldd34 : K.lookup fd34 = some ⟨ocd34, odd34, .func (PySem.W.fnOf "act_row" "act_row" (defArgs (top 34)) (defBody (top 34)) (defScope (top 34)) .none kVd34 dcd34 pmd34 and34 cdd34 ctd34), sld34⟩)
    (cdd34' : PySem.W.codeIn K cdd34 "act_row" = true)
    (kdd34 : PySem.W.keepIn K (.ref fd34) = true)
    (add38 : PySem.W.nsIn K mainGlobals "lot_of_deed" = some (some (.ref fd38)))
    (ldd38 : K.lookup fd38 = some ⟨ocd38, odd38, .func (PySem.W.fnOf "lot_of_deed" "lot_of_deed" (defArgs (top 38)) (defBody (top 38)) (defScope (top 38)) .none kVd38 dcd38 pmd38 and38 cdd38 ctd38), sld38⟩)
    (cdd38' : PySem.W.codeIn K cdd38 "lot_of_deed" = true)
    (kdd38 : PySem.W.keepIn K (.ref fd38) = true)
    (add39 : PySem.W.nsIn K mainGlobals "with_first" = some (some (.ref fd39)))
    (ldd39 : K.lookup fd39 = some ⟨ocd39, odd39, .func (PySem.W.fnOf "with_first" "with_first" (defArgs (top 39)) (defBody (top 39)) (defScope (top 39)) .none kVd39 dcd39 pmd39 and39 cdd39 ctd39), sld39⟩)
    (cdd39' : PySem.W.codeIn K cdd39 "with_first" = true)
    (kdd39 : PySem.W.keepIn K (.ref fd39) = true)
    (add40 : PySem.W.nsIn K mainGlobals "sunk" = some (some (.ref fd40)))
    (ldd40 : K.lookup fd40 = some ⟨ocd40, odd40, .func (PySem.W.fnOf "sunk" "sunk" (defArgs (top 40)) (defBody (top 40)) (defScope (top 40)) .none kVd40 dcd40 pmd40 and40 cdd40 ctd40), sld40⟩)
    (cdd40' : PySem.W.codeIn K cdd40 "sunk" = true)
    (kdd40 : PySem.W.keepIn K (.ref fd40) = true)
    (add42 : PySem.W.nsIn K mainGlobals "joined_parts" = some (some (.ref fd42)))
    (ldd42 : K.lookup fd42 = some ⟨ocd42, odd42, .func (PySem.W.fnOf "joined_parts" "joined_parts" (defArgs (top 42)) (defBody (top 42)) (defScope (top 42)) .none kVd42 dcd42 pmd42 and42 cdd42 ctd42), sld42⟩)
    (cdd42' : PySem.W.codeIn K cdd42 "joined_parts" = true)
    (kdd42 : PySem.W.keepIn K (.ref fd42) = true)
    (add43 : PySem.W.nsIn K mainGlobals "fewest_levels" = some (some (.ref fd43)))
    (ldd43 : K.lookup fd43 = some ⟨ocd43, odd43, .func (PySem.W.fnOf "fewest_levels" "fewest_levels" (defArgs (top 43)) (defBody (top 43)) (defScope (top 43)) .none kVd43 dcd43 pmd43 and43 cdd43 ctd43), sld43⟩)
    (cdd43' : PySem.W.codeIn K cdd43 "fewest_levels" = true)
    (kdd43 : PySem.W.keepIn K (.ref fd43) = true)
    (add44 : PySem.W.nsIn K mainGlobals "level_row" = some (some (.ref fd44)))
    (ldd44 : K.lookup fd44 = some ⟨ocd44, odd44, .func (PySem.W.fnOf "level_row" "level_row" (defArgs (top 44)) (defBody (top 44)) (defScope (top 44)) .none kVd44 dcd44 pmd44 and44 cdd44 ctd44), sld44⟩)
    (cdd44' : PySem.W.codeIn K cdd44 "level_row" = true)
    (kdd44 : PySem.W.keepIn K (.ref fd44) = true)
    (add45 : PySem.W.nsIn K mainGlobals "one_sink" = some (some (.ref fd45)))
    (ldd45 : K.lookup fd45 = some ⟨ocd45, odd45, .func (PySem.W.fnOf "one_sink" "one_sink" (defArgs (top 45)) (defBody (top 45)) (defScope (top 45)) .none kVd45 dcd45 pmd45 and45 cdd45 ctd45), sld45⟩)
    (cdd45' : PySem.W.codeIn K cdd45 "one_sink" = true)
    (kdd45 : PySem.W.keepIn K (.ref fd45) = true)
    (add46 : PySem.W.nsIn K mainGlobals "flat_by_sink" = some (some (.ref fd46)))
    (ldd46 : K.lookup fd46 = some ⟨ocd46, odd46, .func (PySem.W.fnOf "flat_by_sink" "flat_by_sink" (defArgs (top 46)) (defBody (top 46)) (defScope (top 46)) .none kVd46 dcd46 pmd46 and46 cdd46 ctd46), sld46⟩)
    (cdd46' : PySem.W.codeIn K cdd46 "flat_by_sink" = true)
    (kdd46 : PySem.W.keepIn K (.ref fd46) = true)
    (add48 : PySem.W.nsIn K mainGlobals "_law_draws" = some (some (.ref fd48)))
    (ldd48 : K.lookup fd48 = some ⟨ocd48, odd48, .func (PySem.W.fnOf "_law_draws" "_law_draws" (defArgs (top 48)) (defBody (top 48)) (defScope (top 48)) .none kVd48 dcd48 pmd48 and48 cdd48 ctd48), sld48⟩)
    (cdd48' : PySem.W.codeIn K cdd48 "_law_draws" = true)
    (kdd48 : PySem.W.keepIn K (.ref fd48) = true)
    (add49 : PySem.W.nsIn K mainGlobals "_law_take" = some (some (.ref fd49)))
    (ldd49 : K.lookup fd49 = some ⟨ocd49, odd49, .func (PySem.W.fnOf "_law_take" "_law_take" (defArgs (top 49)) (defBody (top 49)) (defScope (top 49)) .none kVd49 dcd49 pmd49 and49 cdd49 ctd49), sld49⟩)
    (cdd49' : PySem.W.codeIn K cdd49 "_law_take" = true)
    (kdd49 : PySem.W.keepIn K (.ref fd49) = true)
    (add50 : PySem.W.nsIn K mainGlobals "_law_int" = some (some (.ref fd50)))
    (ldd50 : K.lookup fd50 = some ⟨ocd50, odd50, .func (PySem.W.fnOf "_law_int" "_law_int" (defArgs (top 50)) (defBody (top 50)) (defScope (top 50)) .none kVd50 dcd50 pmd50 and50 cdd50 ctd50), sld50⟩)
    (cdd50' : PySem.W.codeIn K cdd50 "_law_int" = true)
    (kdd50 : PySem.W.keepIn K (.ref fd50) = true)
    (add51 : PySem.W.nsIn K mainGlobals "_law_lot_kind" = some (some (.ref fd51)))
    (ldd51 : K.lookup fd51 = some ⟨ocd51, odd51, .func (PySem.W.fnOf "_law_lot_kind" "_law_lot_kind" (defArgs (top 51)) (defBody (top 51)) (defScope (top 51)) .none kVd51 dcd51 pmd51 and51 cdd51 ctd51), sld51⟩)
    (cdd51' : PySem.W.codeIn K cdd51 "_law_lot_kind" = true)
    (kdd51 : PySem.W.keepIn K (.ref fd51) = true)
    (add52 : PySem.W.nsIn K mainGlobals "_law_lots" = some (some (.ref fd52)))
    (ldd52 : K.lookup fd52 = some ⟨ocd52, odd52, .func (PySem.W.fnOf "_law_lots" "_law_lots" (defArgs (top 52)) (defBody (top 52)) (defScope (top 52)) .none kVd52 dcd52 pmd52 and52 cdd52 ctd52), sld52⟩)
    (cdd52' : PySem.W.codeIn K cdd52 "_law_lots" = true)
    (kdd52 : PySem.W.keepIn K (.ref fd52) = true)
    (add53 : PySem.W.nsIn K mainGlobals "_law_lot" = some (some (.ref fd53)))
    (ldd53 : K.lookup fd53 = some ⟨ocd53, odd53, .func (PySem.W.fnOf "_law_lot" "_law_lot" (defArgs (top 53)) (defBody (top 53)) (defScope (top 53)) .none kVd53 dcd53 pmd53 and53 cdd53 ctd53), sld53⟩)
    (cdd53' : PySem.W.codeIn K cdd53 "_law_lot" = true)
    (kdd53 : PySem.W.keepIn K (.ref fd53) = true)
    (add54 : PySem.W.nsIn K mainGlobals "_law_rest" = some (some (.ref fd54)))
    (ldd54 : K.lookup fd54 = some ⟨ocd54, odd54, .func (PySem.W.fnOf "_law_rest" "_law_rest" (defArgs (top 54)) (defBody (top 54)) (defScope (top 54)) .none kVd54 dcd54 pmd54 and54 cdd54 ctd54), sld54⟩)
    (cdd54' : PySem.W.codeIn K cdd54 "_law_rest" = true)
    (kdd54 : PySem.W.keepIn K (.ref fd54) = true)
    (add55 : PySem.W.nsIn K mainGlobals "_law_common" = some (some (.ref fd55)))
    (ldd55 : K.lookup fd55 = some ⟨ocd55, odd55, .func (PySem.W.fnOf "_law_common" "_law_common" (defArgs (top 55)) (defBody (top 55)) (defScope (top 55)) .none kVd55 dcd55 pmd55 and55 cdd55 ctd55), sld55⟩)
    (cdd55' : PySem.W.codeIn K cdd55 "_law_common" = true)
    (kdd55 : PySem.W.keepIn K (.ref fd55) = true)
    (add56 : PySem.W.nsIn K mainGlobals "_law_plus" = some (some (.ref fd56)))
    (ldd56 : K.lookup fd56 = some ⟨ocd56, odd56, .func (PySem.W.fnOf "_law_plus" "_law_plus" (defArgs (top 56)) (defBody (top 56)) (defScope (top 56)) .none kVd56 dcd56 pmd56 and56 cdd56 ctd56), sld56⟩)
    (cdd56' : PySem.W.codeIn K cdd56 "_law_plus" = true)
    (kdd56 : PySem.W.keepIn K (.ref fd56) = true)
    (add57 : PySem.W.nsIn K mainGlobals "_law_inside" = some (some (.ref fd57)))
    (ldd57 : K.lookup fd57 = some ⟨ocd57, odd57, .func (PySem.W.fnOf "_law_inside" "_law_inside" (defArgs (top 57)) (defBody (top 57)) (defScope (top 57)) .none kVd57 dcd57 pmd57 and57 cdd57 ctd57), sld57⟩)
    (cdd57' : PySem.W.codeIn K cdd57 "_law_inside" = true)
    (kdd57 : PySem.W.keepIn K (.ref fd57) = true)
    (add58 : PySem.W.nsIn K mainGlobals "_law_dense" = some (some (.ref fd58)))
    (ldd58 : K.lookup fd58 = some ⟨ocd58, odd58, .func (PySem.W.fnOf "_law_dense" "_law_dense" (defArgs (top 58)) (defBody (top 58)) (defScope (top 58)) .none kVd58 dcd58 pmd58 and58 cdd58 ctd58), sld58⟩)
    (cdd58' : PySem.W.codeIn K cdd58 "_law_dense" = true)
    (kdd58 : PySem.W.keepIn K (.ref fd58) = true)
    (add59 : PySem.W.nsIn K mainGlobals "_law_rank" = some (some (.ref fd59)))
    (ldd59 : K.lookup fd59 = some ⟨ocd59, odd59, .func (PySem.W.fnOf "_law_rank" "_law_rank" (defArgs (top 59)) (defBody (top 59)) (defScope (top 59)) .none kVd59 dcd59 pmd59 and59 cdd59 ctd59), sld59⟩)
    (cdd59' : PySem.W.codeIn K cdd59 "_law_rank" = true)
    (kdd59 : PySem.W.keepIn K (.ref fd59) = true)
    (add60 : PySem.W.nsIn K mainGlobals "_law_cells" = some (some (.ref fd60)))
    (ldd60 : K.lookup fd60 = some ⟨ocd60, odd60, .func (PySem.W.fnOf "_law_cells" "_law_cells" (defArgs (top 60)) (defBody (top 60)) (defScope (top 60)) .none kVd60 dcd60 pmd60 and60 cdd60 ctd60), sld60⟩)
    (cdd60' : PySem.W.codeIn K cdd60 "_law_cells" = true)
    (kdd60 : PySem.W.keepIn K (.ref fd60) = true)
    (add61 : PySem.W.nsIn K mainGlobals "_law_best" = some (some (.ref fd61)))
    (ldd61 : K.lookup fd61 = some ⟨ocd61, odd61, .func (PySem.W.fnOf "_law_best" "_law_best" (defArgs (top 61)) (defBody (top 61)) (defScope (top 61)) .none kVd61 dcd61 pmd61 and61 cdd61 ctd61), sld61⟩)
    (cdd61' : PySem.W.codeIn K cdd61 "_law_best" = true)
    (kdd61 : PySem.W.keepIn K (.ref fd61) = true)
    (add62 : PySem.W.nsIn K mainGlobals "_law_held" = some (some (.ref fd62)))
    (ldd62 : K.lookup fd62 = some ⟨ocd62, odd62, .func (PySem.W.fnOf "_law_held" "_law_held" (defArgs (top 62)) (defBody (top 62)) (defScope (top 62)) .none kVd62 dcd62 pmd62 and62 cdd62 ctd62), sld62⟩)
    (cdd62' : PySem.W.codeIn K cdd62 "_law_held" = true)
    (kdd62 : PySem.W.keepIn K (.ref fd62) = true)
    (add63 : PySem.W.nsIn K mainGlobals "_law_product" = some (some (.ref fd63)))
    (ldd63 : K.lookup fd63 = some ⟨ocd63, odd63, .func (PySem.W.fnOf "_law_product" "_law_product" (defArgs (top 63)) (defBody (top 63)) (defScope (top 63)) .none kVd63 dcd63 pmd63 and63 cdd63 ctd63), sld63⟩)
    (cdd63' : PySem.W.codeIn K cdd63 "_law_product" = true)
    (kdd63 : PySem.W.keepIn K (.ref fd63) = true)
    (add64 : PySem.W.nsIn K mainGlobals "_law_turn" = some (some (.ref fd64)))
    (ldd64 : K.lookup fd64 = some ⟨ocd64, odd64, .func (PySem.W.fnOf "_law_turn" "_law_turn" (defArgs (top 64)) (defBody (top 64)) (defScope (top 64)) .none kVd64 dcd64 pmd64 and64 cdd64 ctd64), sld64⟩)
    (cdd64' : PySem.W.codeIn K cdd64 "_law_turn" = true)
    (kdd64 : PySem.W.keepIn K (.ref fd64) = true)
    (add65 : PySem.W.nsIn K mainGlobals "_law_ranks" = some (some (.ref fd65)))
    (ldd65 : K.lookup fd65 = some ⟨ocd65, odd65, .func (PySem.W.fnOf "_law_ranks" "_law_ranks" (defArgs (top 65)) (defBody (top 65)) (defScope (top 65)) .none kVd65 dcd65 pmd65 and65 cdd65 ctd65), sld65⟩)
    (cdd65' : PySem.W.codeIn K cdd65 "_law_ranks" = true)
    (kdd65 : PySem.W.keepIn K (.ref fd65) = true)
    (add66 : PySem.W.nsIn K mainGlobals "_law_reached" = some (some (.ref fd66)))
    (ldd66 : K.lookup fd66 = some ⟨ocd66, odd66, .func (PySem.W.fnOf "_law_reached" "_law_reached" (defArgs (top 66)) (defBody (top 66)) (defScope (top 66)) .none kVd66 dcd66 pmd66 and66 cdd66 ctd66), sld66⟩)
    (cdd66' : PySem.W.codeIn K cdd66 "_law_reached" = true)
    (kdd66 : PySem.W.keepIn K (.ref fd66) = true)
    (add67 : PySem.W.nsIn K mainGlobals "_law_level_row" = some (some (.ref fd67)))
    (ldd67 : K.lookup fd67 = some ⟨ocd67, odd67, .func (PySem.W.fnOf "_law_level_row" "_law_level_row" (defArgs (top 67)) (defBody (top 67)) (defScope (top 67)) .none kVd67 dcd67 pmd67 and67 cdd67 ctd67), sld67⟩)
    (cdd67' : PySem.W.codeIn K cdd67 "_law_level_row" = true)
    (kdd67 : PySem.W.keepIn K (.ref fd67) = true)
    (add68 : PySem.W.nsIn K mainGlobals "_law_sink_lot" = some (some (.ref fd68)))
    (ldd68 : K.lookup fd68 = some ⟨ocd68, odd68, .func (PySem.W.fnOf "_law_sink_lot" "_law_sink_lot" (defArgs (top 68)) (defBody (top 68)) (defScope (top 68)) .none kVd68 dcd68 pmd68 and68 cdd68 ctd68), sld68⟩)
    (cdd68' : PySem.W.codeIn K cdd68 "_law_sink_lot" = true)
    (kdd68 : PySem.W.keepIn K (.ref fd68) = true)
    (add69 : PySem.W.nsIn K mainGlobals "_law_asked" = some (some (.ref fd69)))
    (ldd69 : K.lookup fd69 = some ⟨ocd69, odd69, .func (PySem.W.fnOf "_law_asked" "_law_asked" (defArgs (top 69)) (defBody (top 69)) (defScope (top 69)) .none kVd69 dcd69 pmd69 and69 cdd69 ctd69), sld69⟩)
    (cdd69' : PySem.W.codeIn K cdd69 "_law_asked" = true)
    (kdd69 : PySem.W.keepIn K (.ref fd69) = true)
    (add70 : PySem.W.nsIn K mainGlobals "_law_all_goals" = some (some (.ref fd70)))
    (ldd70 : K.lookup fd70 = some ⟨ocd70, odd70, .func (PySem.W.fnOf "_law_all_goals" "_law_all_goals" (defArgs (top 70)) (defBody (top 70)) (defScope (top 70)) .none kVd70 dcd70 pmd70 and70 cdd70 ctd70), sld70⟩)
    (cdd70' : PySem.W.codeIn K cdd70 "_law_all_goals" = true)
    (kdd70 : PySem.W.keepIn K (.ref fd70) = true)
    (add71 : PySem.W.nsIn K mainGlobals "_law_anywhere" = some (some (.ref fd71)))
    (ldd71 : K.lookup fd71 = some ⟨ocd71, odd71, .func (PySem.W.fnOf "_law_anywhere" "_law_anywhere" (defArgs (top 71)) (defBody (top 71)) (defScope (top 71)) .none kVd71 dcd71 pmd71 and71 cdd71 ctd71), sld71⟩)
    (cdd71' : PySem.W.codeIn K cdd71 "_law_anywhere" = true)
    (kdd71 : PySem.W.keepIn K (.ref fd71) = true)
    (add72 : PySem.W.nsIn K mainGlobals "_law_refused" = some (some (.ref fd72)))
    (ldd72 : K.lookup fd72 = some ⟨ocd72, odd72, .func (PySem.W.fnOf "_law_refused" "_law_refused" (defArgs (top 72)) (defBody (top 72)) (defScope (top 72)) .none kVd72 dcd72 pmd72 and72 cdd72 ctd72), sld72⟩)
    (cdd72' : PySem.W.codeIn K cdd72 "_law_refused" = true)
    (kdd72 : PySem.W.keepIn K (.ref fd72) = true)
    (add73 : PySem.W.nsIn K mainGlobals "law" = some (some (.ref fd73)))
    (ldd73 : K.lookup fd73 = some ⟨ocd73, odd73, .func (PySem.W.fnOf "law" "law" (defArgs (top 73)) (defBody (top 73)) (defScope (top 73)) .none kVd73 dcd73 pmd73 and73 cdd73 ctd73), sld73⟩)
    (cdd73' : PySem.W.codeIn K cdd73 "law" = true)
    (kdd73 : PySem.W.keepIn K (.ref fd73) = true)
    (n_isi : PySem.W.nsIn K mainGlobals "isinstance" = some none)
    (n_int : PySem.W.nsIn K mainGlobals "int" = some none)
    (n_bool : PySem.W.nsIn K mainGlobals "bool" = some none)
    (n_list : PySem.W.nsIn K mainGlobals "list" = some none)
    (n_tuple : PySem.W.nsIn K mainGlobals "tuple" = some none)
    (n_len : PySem.W.nsIn K mainGlobals "len" = some none)
    (n_sorted : PySem.W.nsIn K mainGlobals "sorted" = some none)
    (n_range : PySem.W.nsIn K mainGlobals "range" = some none)
    (n_enum : PySem.W.nsIn K mainGlobals "enumerate" = some none)
    (n_zip : PySem.W.nsIn K mainGlobals "zip" = some none)
    (n_set : PySem.W.nsIn K mainGlobals "set" = some none)
    (n_sum : PySem.W.nsIn K mainGlobals "sum" = some none)
    (n_min : PySem.W.nsIn K mainGlobals "min" = some none)
    (n_max : PySem.W.nsIn K mainGlobals "max" = some none)
    (n_all : PySem.W.nsIn K mainGlobals "all" = some none)
    (n_any : PySem.W.nsIn K mainGlobals "any" = some none)
    (aOW : PySem.W.nsIn K mainGlobals "OtherWorlds" = some (some (.ref xO)))
    (lOW : K.lookup xO = some (excClassObj nm q xO xN bs [.ref xB, .type "Exception", .type "BaseException", .type "object"] true sn sub ab col dd m0 m1 m2 m3 m5 "Exception.__new__"))
    (osa : PySem.W.findIn K (.ref xO) "__setattr__" = some (some (.builtin "object.__setattr__")))
    (oex : PySem.W.subIn K (.ref xO) (.type "BaseException") = some true)
    (oty : PySem.W.typeIn K (.ref xO) = some (.type "type"))
    (okp : PySem.W.keepIn K (.ref xO) = true)
    (oin : PySem.W.findIn K (.ref xO) "__init__" = some (some (.ref fX)))
    (otf : PySem.W.typeIn K (.ref fX) = some (.type "function"))
    (lX : K.lookup fX = some ⟨ocX, odX, .func (PySem.W.fnOf "__init__" "OtherWorlds.__init__" (defArgs (owInit)) (defBody (owInit)) (defScope (owInit)) .none kVX dcX pmX anX cdX ctX), slX⟩)
    (cX : PySem.W.codeIn K cdX "OtherWorlds.__init__" = true)
    (kX : PySem.W.keepIn K (.ref fX) = true)
    (onw : PySem.W.findIn K (.ref xO) "worlds" = some none)
    (oga : PySem.W.findIn K (.ref xO) "__getattribute__" = some (some (.builtin "BaseException.__getattribute__")))
    (ogg : PySem.W.findIn K (.ref xO) "__getattr__" = some none)
    (ohd : PySem.W.hasDictIn K xO = true)
    (oic : PySem.W.isClsIn K xO = true)
    (oss : PySem.W.subIn K (.ref xO) (.ref xO) = some true) :
    ∃ fd : FuncData, (∀ (s : Shared) (v : Value), BindsTo s fd ⟨[v], []⟩ [("_law_script", v)]) ∧ ∀ base : Heap, K.In base → base.Ns mainGlobals mg → FnOk l.prog w K mg base CX0 13 fa fd ["_law_script"] (spLaw K) := by
  have e := hfa.symm.trans (PySem.W.mg_of X G0 add73)
  cases e
  refine ⟨PySem.W.fnOf "law" "law" (defArgs (top 73)) (defBody (top 73)) (defScope (top 73)) .none kVd73 dcd73 pmd73 and73 cdd73 ctd73, fun s v => .of_eq rfl, fun base KB GB => ?_⟩
  let G : Gx := ⟨l.prog, w, K, mg, base, C⟩
  have Z : Bt G := ⟨PySem.W.mg_none_of X G0 n_isi, PySem.W.mg_none_of X G0 n_int, PySem.W.mg_none_of X G0 n_bool, PySem.W.mg_none_of X G0 n_list, PySem.W.mg_none_of X G0 n_tuple, PySem.W.mg_none_of X G0 n_len, PySem.W.mg_none_of X G0 n_sorted, PySem.W.mg_none_of X G0 n_range, PySem.W.mg_none_of X G0 n_enum, PySem.W.mg_none_of X G0 n_zip, PySem.W.mg_none_of X G0 n_set, PySem.W.mg_none_of X G0 n_sum, PySem.W.mg_none_of X G0 n_min, PySem.W.mg_none_of X G0 n_max, PySem.W.mg_none_of X G0 n_all, PySem.W.mg_none_of X G0 n_any⟩
  have F : RkF G := ⟨PySem.W.mg_of X G0 aC, ⟨pg, ic, po, sa⟩, ⟨q2, sat2, sge2, stk2, sty2, six2, by decide⟩, ⟨q0, sat0, sge0, stk0, sty0, six0, by decide⟩, ⟨q1, sat1, sge1, stk1, sty1, six1, by decide⟩, ⟨ca, cn, ct, cm⟩⟩
  have D9 : DefAt G "whole_number" "whole_number" (top 9) := ⟨fd9, _, fun_mk (st := top 9) ldd9 cdd9' kdd9, PySem.W.mg_of X G0 add9⟩
  have D10 : DefAt G "is_row" "is_row" (top 10) := ⟨fd10, _, fun_mk (st := top 10) ldd10 cdd10' kdd10, PySem.W.mg_of X G0 add10⟩
  have D11 : DefAt G "check_worlds" "check_worlds" (top 11) := ⟨fd11, _, fun_mk (st := top 11) ldd11 cdd11' kdd11, PySem.W.mg_of X G0 add11⟩
  have D12 : DefAt G "is_world" "is_world" (top 12) := ⟨fd12, _, fun_mk (st := top 12) ldd12 cdd12' kdd12, PySem.W.mg_of X G0 add12⟩
  have D13 : DefAt G "first_stranger" "first_stranger" (top 13) := ⟨fd13, _, fun_mk (st := top 13) ldd13 cdd13' kdd13, PySem.W.mg_of X G0 add13⟩
  have D15 : DefAt G "every" "every" (top 15) := ⟨fd15, _, fun_mk (st := top 15) ldd15 cdd15' kdd15, PySem.W.mg_of X G0 add15⟩
  have D16 : DefAt G "rest_of" "rest_of" (top 16) := ⟨fd16, _, fun_mk (st := top 16) ldd16 cdd16' kdd16, PySem.W.mg_of X G0 add16⟩
  have D17 : DefAt G "common" "common" (top 17) := ⟨fd17, _, fun_mk (st := top 17) ldd17 cdd17' kdd17, PySem.W.mg_of X G0 add17⟩
  have D18 : DefAt G "minus" "minus" (top 18) := ⟨fd18, _, fun_mk (st := top 18) ldd18 cdd18' kdd18, PySem.W.mg_of X G0 add18⟩
  have D19 : DefAt G "inside" "inside" (top 19) := ⟨fd19, _, fun_mk (st := top 19) ldd19 cdd19' kdd19, PySem.W.mg_of X G0 add19⟩
  have D20 : DefAt G "meets" "meets" (top 20) := ⟨fd20, _, fun_mk (st := top 20) ldd20 cdd20' kdd20, PySem.W.mg_of X G0 add20⟩
  have D22 : DefAt G "cells_told" "cells_told" (top 22) := ⟨fd22, _, fun_mk (st := top 22) ldd22 cdd22' kdd22, PySem.W.mg_of X G0 add22⟩
  have D23 : DefAt G "cells_by" "cells_by" (top 23) := ⟨fd23, _, fun_mk (st := top 23) ldd23 cdd23' kdd23, PySem.W.mg_of X G0 add23⟩
  have D26 : DefAt G "check_same_worlds" "check_same_worlds" (top 26) := ⟨fd26, _, fun_mk (st := top 26) ldd26 cdd26' kdd26, PySem.W.mg_of X G0 add26⟩
  have D27 : DefAt G "finer" "finer" (top 27) := ⟨fd27, _, fun_mk (st := top 27) ldd27 cdd27' kdd27, PySem.W.mg_of X G0 add27⟩
  have D29 : DefAt G "halving" "halving" (top 29) := ⟨fd29, _, fun_mk (st := top 29) ldd29 cdd29' kdd29, PySem.W.mg_of X G0 add29⟩
  have D30 : DefAt G "lies_at" "lies_at" (top 30) := ⟨fd30, _, fun_mk (st := top 30) ldd30 cdd30' kdd30, PySem.W.mg_of X G0 add30⟩
  have D31 : DefAt G "cell_numbers" "cell_numbers" (top 31) := ⟨fd31, _, fun_mk (st := top 31) ldd31 cdd31' kdd31, PySem.W.mg_of X G0 add31⟩
  have D32 : DefAt G "lead_row" "lead_row" (top 32) := ⟨fd32, _, fun_mk (st := top 32) ldd32 cdd32' kdd32, PySem.W.mg_of X G0 add32⟩
  have D33 : DefAt G "fewest_act" "fewest_act" (top 33) := ⟨fd33, _, fun_mk (st := top 33) ldd33 cdd33' kdd33, PySem.W.mg_of X G0 add33⟩
  have D34 : DefAt G "act_row" "act_row" (top 34) := ⟨fd34, _, fun_mk (st := top 34) ldd34 cdd34' kdd34, PySem.W.mg_of X G0 add34⟩
  have D38 : DefAt G "lot_of_deed" "lot_of_deed" (top 38) := ⟨fd38, _, fun_mk (st := top 38) ldd38 cdd38' kdd38, PySem.W.mg_of X G0 add38⟩
  have D39 : DefAt G "with_first" "with_first" (top 39) := ⟨fd39, _, fun_mk (st := top 39) ldd39 cdd39' kdd39, PySem.W.mg_of X G0 add39⟩
  have D40 : DefAt G "sunk" "sunk" (top 40) := ⟨fd40, _, fun_mk (st := top 40) ldd40 cdd40' kdd40, PySem.W.mg_of X G0 add40⟩
  have D42 : DefAt G "joined_parts" "joined_parts" (top 42) := ⟨fd42, _, fun_mk (st := top 42) ldd42 cdd42' kdd42, PySem.W.mg_of X G0 add42⟩
  have D43 : DefAt G "fewest_levels" "fewest_levels" (top 43) := ⟨fd43, _, fun_mk (st := top 43) ldd43 cdd43' kdd43, PySem.W.mg_of X G0 add43⟩
  have D44 : DefAt G "level_row" "level_row" (top 44) := ⟨fd44, _, fun_mk (st := top 44) ldd44 cdd44' kdd44, PySem.W.mg_of X G0 add44⟩
  have D45 : DefAt G "one_sink" "one_sink" (top 45) := ⟨fd45, _, fun_mk (st := top 45) ldd45 cdd45' kdd45, PySem.W.mg_of X G0 add45⟩
  have D46 : DefAt G "flat_by_sink" "flat_by_sink" (top 46) := ⟨fd46, _, fun_mk (st := top 46) ldd46 cdd46' kdd46, PySem.W.mg_of X G0 add46⟩
  have D49 : DefAt G "_law_take" "_law_take" (top 49) := ⟨fd49, _, fun_mk (st := top 49) ldd49 cdd49' kdd49, PySem.W.mg_of X G0 add49⟩
  have D50 : DefAt G "_law_int" "_law_int" (top 50) := ⟨fd50, _, fun_mk (st := top 50) ldd50 cdd50' kdd50, PySem.W.mg_of X G0 add50⟩
  have D51 : DefAt G "_law_lot_kind" "_law_lot_kind" (top 51) := ⟨fd51, _, fun_mk (st := top 51) ldd51 cdd51' kdd51, PySem.W.mg_of X G0 add51⟩
  have D52 : DefAt G "_law_lots" "_law_lots" (top 52) := ⟨fd52, _, fun_mk (st := top 52) ldd52 cdd52' kdd52, PySem.W.mg_of X G0 add52⟩
  have D53 : DefAt G "_law_lot" "_law_lot" (top 53) := ⟨fd53, _, fun_mk (st := top 53) ldd53 cdd53' kdd53, PySem.W.mg_of X G0 add53⟩
  have D54 : DefAt G "_law_rest" "_law_rest" (top 54) := ⟨fd54, _, fun_mk (st := top 54) ldd54 cdd54' kdd54, PySem.W.mg_of X G0 add54⟩
  have D55 : DefAt G "_law_common" "_law_common" (top 55) := ⟨fd55, _, fun_mk (st := top 55) ldd55 cdd55' kdd55, PySem.W.mg_of X G0 add55⟩
  have D56 : DefAt G "_law_plus" "_law_plus" (top 56) := ⟨fd56, _, fun_mk (st := top 56) ldd56 cdd56' kdd56, PySem.W.mg_of X G0 add56⟩
  have D57 : DefAt G "_law_inside" "_law_inside" (top 57) := ⟨fd57, _, fun_mk (st := top 57) ldd57 cdd57' kdd57, PySem.W.mg_of X G0 add57⟩
  have D58 : DefAt G "_law_dense" "_law_dense" (top 58) := ⟨fd58, _, fun_mk (st := top 58) ldd58 cdd58' kdd58, PySem.W.mg_of X G0 add58⟩
  have D59 : DefAt G "_law_rank" "_law_rank" (top 59) := ⟨fd59, _, fun_mk (st := top 59) ldd59 cdd59' kdd59, PySem.W.mg_of X G0 add59⟩
  have D60 : DefAt G "_law_cells" "_law_cells" (top 60) := ⟨fd60, _, fun_mk (st := top 60) ldd60 cdd60' kdd60, PySem.W.mg_of X G0 add60⟩
  have D61 : DefAt G "_law_best" "_law_best" (top 61) := ⟨fd61, _, fun_mk (st := top 61) ldd61 cdd61' kdd61, PySem.W.mg_of X G0 add61⟩
  have D62 : DefAt G "_law_held" "_law_held" (top 62) := ⟨fd62, _, fun_mk (st := top 62) ldd62 cdd62' kdd62, PySem.W.mg_of X G0 add62⟩
  have D63 : DefAt G "_law_product" "_law_product" (top 63) := ⟨fd63, _, fun_mk (st := top 63) ldd63 cdd63' kdd63, PySem.W.mg_of X G0 add63⟩
  have D64 : DefAt G "_law_turn" "_law_turn" (top 64) := ⟨fd64, _, fun_mk (st := top 64) ldd64 cdd64' kdd64, PySem.W.mg_of X G0 add64⟩
  have D65 : DefAt G "_law_ranks" "_law_ranks" (top 65) := ⟨fd65, _, fun_mk (st := top 65) ldd65 cdd65' kdd65, PySem.W.mg_of X G0 add65⟩
  have D66 : DefAt G "_law_reached" "_law_reached" (top 66) := ⟨fd66, _, fun_mk (st := top 66) ldd66 cdd66' kdd66, PySem.W.mg_of X G0 add66⟩
  have D67 : DefAt G "_law_level_row" "_law_level_row" (top 67) := ⟨fd67, _, fun_mk (st := top 67) ldd67 cdd67' kdd67, PySem.W.mg_of X G0 add67⟩
  have D68 : DefAt G "_law_sink_lot" "_law_sink_lot" (top 68) := ⟨fd68, _, fun_mk (st := top 68) ldd68 cdd68' kdd68, PySem.W.mg_of X G0 add68⟩
  have D69 : DefAt G "_law_asked" "_law_asked" (top 69) := ⟨fd69, _, fun_mk (st := top 69) ldd69 cdd69' kdd69, PySem.W.mg_of X G0 add69⟩
  have D70 : DefAt G "_law_all_goals" "_law_all_goals" (top 70) := ⟨fd70, _, fun_mk (st := top 70) ldd70 cdd70' kdd70, PySem.W.mg_of X G0 add70⟩
  have D71 : DefAt G "_law_anywhere" "_law_anywhere" (top 71) := ⟨fd71, _, fun_mk (st := top 71) ldd71 cdd71' kdd71, PySem.W.mg_of X G0 add71⟩
  have D72 : DefAt G "_law_refused" "_law_refused" (top 72) := ⟨fd72, _, fun_mk (st := top 72) ldd72 cdd72' kdd72, PySem.W.mg_of X G0 add72⟩
  have cW := ok_whole Z D9
  have cR := ok_isrow Z D10
  have cC := ok_check Z cW D11
  have cIW := ok_isworld Z cW D12
  have cFS := ok_strange Z cIW D13
  have FL : FunD G.K "lot_of" "lot_of" (defArgs (top 14)) (defBody (top 14)) (defScope (top 14)) [] [("empty", .bl true)] fLo _ := ⟨⟨ocLo, odLo, .none, .ref dLo, dcLo, pmLo, anLo, cdLo, ctLo, slLo, rfl, lLo, cLo, .inl ⟨rfl, rfl⟩, .inr ⟨dLo, rfl, fun q hq => by rw [List.mem_singleton.mp hq]; exact ⟨_, nLo, rfl⟩⟩⟩, kLo⟩
  have fL := fn_lot Z cC cR cFS FL
  obtain ⟨dsL, vL, bL⟩ := FL.binds0 (ps := ["lot", "worlds", "empty"]) 2 (by simp) rfl fun D doc pm an cdv ct us ks h1 h2 => match us, ks, h1, h2 with | [_, _], [_], _, _ => ⟨_, _, _, _, _, _, rfl, rfl, rfl⟩
  have cLD : LotD G := ⟨fLo, _, dsL, [.bl true], fL, PySem.W.mg_of X G0 aLo, kLo, bL, vL, fun B => .cons (.bl true) .nil⟩
  have cLK : LotK G := ⟨fLo, _, fL, PySem.W.mg_of X G0 aLo, kLo, ⟨fun s us ws _ h1 h2 => match us, ws, h1, h2 with | [_, _], [_], _, _ => .of_eq rfl, fun r1 r2 => r1.append r2⟩⟩
  have cEv := ok_every Z cC D15
  have cRe := ok_rest Z cLD D16
  have cCo := ok_common Z D17
  have cMi := ok_minus Z D18
  have cIn := ok_inside Z D19
  have cMe := ok_meets Z D20
  have cTo := ok_told Z cR cIW D22
  have cBy := ok_by Z D23
  have FI := fun_mk (st := mth 1) lI cI kI
  have M : MkR G := mk_of Z F cTo ⟨mk, iat, ifn, kc⟩ FI
  have CR : ClX.CRead G.K G.C (.type "type") := ⟨rd, ga⟩
  have cFl : FlatM G := ⟨.type "type", pF, fF, CR, ⟨catF, ⟨rF, crcF⟩, cfiF⟩, ok_flat M cEv (fun_mk (st := mth 2) lF cF kF)⟩
  have cOf : OfM G := ⟨.type "type", pO, fO, CR, ⟨catO, ⟨rO, crcO⟩, cfiO⟩, ok_oflev Z M cR cW cBy (fun_mk (st := mth 4) lO cO kO)⟩
  have cHe : HeldP G := ⟨pH, fH, hat, hge, htk, ⟨rH, hrc⟩, ok_held F (fun_mk (st := mth 6) lH cH kH)⟩
  have cEq : EqR G := ⟨fE, eat, efn, ok_eq Z F (fun_mk (st := mth 14) lE cE kE)⟩
  have cSa := ok_same F D26
  have cFi := ok_finer Z F cSa D27
  have cHa := ok_halving cW D29
  have cLi := ok_lies F cFi D30
  have cNu := ok_numb Z D31
  have cLe := ok_lead Z F cLi cNu cHa D32
  have cFA := ok_fewact Z F cHa D33
  have cAR := ok_actrow F cFl cLe D34
  have wD : WordsAt G "DEED_WORDS" dw := ⟨tDW, PySem.W.mg_of X G0 aDW, fun H => .inr ⟨_, itDW, nDW, lDW, rfl, rfl, zDW, vDW⟩⟩
  have wG : WordsAt G "GIVE_WORDS" gw := ⟨tGW, PySem.W.mg_of X G0 aGW, fun H => .inr ⟨_, itGW, nGW, lGW, rfl, rfl, zGW, vGW⟩⟩
  have cDe := ok_deed Z cC cLK wD wG D38
  have cWi := ok_with Z F M cMi D39
  have cSu := ok_sunk Z F cHe cDe cIn cRe cWi D40
  have cJo := ok_join Z F cHe cMi cCo cIn cMe D42
  have cFe := ok_few Z cJo D43
  have cLr := ok_lrow Z F cJo cRe D44
  have cOn := ok_one Z F cEq cRe cSu D45
  have cFb := ok_fbs F cFl cOn D46
  have cTk := ok_ltake Z D49
  have lIn := ok_lint Z D50
  have lKi := ok_lkind Z lIn D51
  have lLo := ok_llots Z D52
  have lLt := ok_llot Z cTk D53
  have lRe := ok_lrest Z D54
  have lCo := ok_lcommon Z D55
  have lPl := ok_lplus Z D56
  have lIs := ok_linside Z D57
  have lDe := ok_ldense Z D58
  have lRk := ok_lrank Z cTk lDe D59
  have lCe := ok_lcells Z D60
  have lBe := ok_lbest Z D61
  have lHe := ok_lheld Z D62
  have lPr := ok_lprod Z lDe D63
  have lTu := ok_lturn Z lHe lIs lBe lRe lPl lDe lPr D64
  have lRa := ok_lranks Z D65
  have lRc := ok_lreach Z lLo lTu D66
  have lLr := ok_llrow Z lHe lIs lRe lCo lCe D67
  have lSk := ok_lsink Z lRe lTu D68
  have lAs := ok_lask Z F cOf lLr lSk cLr cFe cOn lTu lIn D69
  have lAl := ok_lall Z lRc lRa lLr lSk lAs D70
  have lAn := ok_lany Z F cOf cFb cAR cFA lSk lIn lTu lKi D71
  have OW : OwF G xO fX _ := ⟨⟨⟨nm, q, xB, xN, bs, sn, sub, ab, col, dd, m0, m1, m2, m3, m5, lOW⟩, osa, oex, oty, okp⟩, PySem.W.mg_of X G0 aOW, oin, otf, fun_mk (st := owInit) lX cX kX, onw, ⟨oga, ogg, oex, ohd⟩, exm_own oex oic oty oss⟩
  have F42 := fun_mk (st := top 42) ldd42 cdd42' kdd42
  have F43 := fun_mk (st := top 43) ldd43 cdd43' kdd43
  have F44 := fun_mk (st := top 44) ldd44 cdd44' kdd44
  have F45 := fun_mk (st := top 45) ldd45 cdd45' kdd45
  have F72 := fun_mk (st := top 72) ldd72 cdd72' kdd72
  have b42 : Binds G.K _ ["rank", "goal"] [] := F42.binds fun _ _ _ _ _ _ us hl => match us, hl with | [_, _], _ => rfl
  have b43 : Binds G.K _ ["rank", "goal"] [] := F43.binds fun _ _ _ _ _ _ us hl => match us, hl with | [_, _], _ => rfl
  have b44 : Binds G.K _ ["rank", "goal"] [] := F44.binds fun _ _ _ _ _ _ us hl => match us, hl with | [_, _], _ => rfl
  have b45 : Binds G.K _ ["rank", "goal"] [] := F45.binds fun _ _ _ _ _ _ us hl => match us, hl with | [_, _], _ => rfl
  have J42 := ok_rx (G := G) F OW F42 sc_join "" rfl rfl rfl (.inl rfl) (.inl rfl) rfl
  have J43 := ok_rx2 (G := G) J42 (PySem.W.mg_of X G0 add42) kdd42 b42 F43 sc_few rfl rfl rfl rfl (.inl rfl) (.inl rfl) (.inl rfl) rfl
  have J44 := ok_rx2 (G := G) J42 (PySem.W.mg_of X G0 add42) kdd42 b42 F44 sc_lrow rfl rfl rfl rfl (by first | exact .inl rfl | exact .inr (.inl rfl) | exact .inr (.inr rfl)) (by first | exact .inl rfl | exact .inr (.inl rfl) | exact .inr (.inr rfl)) (.inl rfl) rfl
  have J45 := ok_rx (G := G) F OW F45 sc_one "" rfl rfl rfl (.inl rfl) (.inl rfl) rfl
  have cRf : Callee G "_law_refused" 6 ["_law_door", "_law_rank_here", "_law_goal"] RRef := ⟨fd72, _, ok_lref OW ⟨_, _, _, Nat.le_refl 4, J43, PySem.W.mg_of X G0 add43, kdd43, b43⟩ ⟨_, _, _, Nat.le_refl 4, J44, PySem.W.mg_of X G0 add44, kdd44, b44⟩ ⟨_, _, _, (by decide : 3 ≤ 4), J45, PySem.W.mg_of X G0 add45, kdd45, b45⟩ F72, PySem.W.mg_of X G0 add72, kdd72, F72.binds fun _ _ _ _ _ _ us hl => match us, hl with | [_, _, _], _ => rfl⟩
  exact ok_law Z F ⟨cTk, lRk, lLt, lAl, lPl, lHe, lDe, lPr, lAs, lAn, cRf, cOf, cFl⟩ (fun_mk (st := top 73) ldd73 cdd73' kdd73) (fun_mk (st := top 48) ldd48 cdd48' kdd48) (PySem.W.mg_of X G0 add48)
theorem walk {l : PySem.W.OpenLaw} {q : Program} {loose : List Str} {XP : (Str → Option Value) → Heap → Prop} {YP : World → Heap → Prop} {d : DefRec} {K : Params → PySem.W.Frag} (hn : l.most = some 63) (hdf : d.params.defaults = [])
    (hY : ∀ (w : World) (h : Heap), YP w h → (K w.params).In h)
    (F : ∀ (w : World) (mg : Str → Option Value) (fa : Addr) (h : Heap), (K w.params).In h → h.Ns mainGlobals mg → mg d.name = some (.ref fa) →
      ∃ fd : FuncData, (∀ (s : Shared) (u : Value), BindsTo s fd ⟨[u], []⟩ [("_law_script", u)]) ∧ ∀ base : Heap, (K w.params).In base → base.Ns mainGlobals mg → FnOk l.prog w (K w.params) mg base CX0 13 fa fd ["_law_script"] (spLaw (K w.params))) :
    PySem.W.WalkO q loose XP YP l.row.toRowW d [] (fun f vs => PySem.call f vs) :=
  L2.walk_of (n := 63) (k := 13) (x := "_law_script") (CX := fun _ => CX0) (sp := fun w => spLaw (K w.params)) hn (by decide) hdf ⟨rfl, by decide, by decide⟩ hY F (fun _ _ a ns hl _ hS => ⟨a, ns, rfl, hS, hl, fun _ => rfl⟩) fun _ _ _ _ _ z => z
end My
open PySem PySem.W PyProof.Rows
set_option maxRecDepth 100000 in
set_option maxHeartbeats 0 in
theorem PySem.Challenge.cw_newsbooks_k78_whole_levels_and_sinks_rea_holds : PySem.Challenge.rw_newsbooks_k78_whole_levels_and_sinks_rea.Holds := by
  w_on; o_law; k_head; (case hw => w_witness2)
  k_fill
  refine My.walk (l := PySem.Challenge.rw_newsbooks_k78_whole_levels_and_sinks_rea) rfl rfl (fun w h Y => PySem.W.kIn_of Y) ?F
  case F =>
    intro w mg fa h KX G hmg
    refine' My.all_mk KX G hmg ?aC ?pg ?ic ?po ?sa ?ca ?cn ?ct ?cm ?sat2 ?sge2 ?stk2 ?sty2 ?six2 ?sat0 ?sge0 ?stk0 ?sty0 ?six0 ?sat1 ?sge1 ?stk1 ?sty1 ?six1 ?mk ?kc ?iat ?ifn ?lI ?cI ?kI ?rd ?ga ?catF ?crcF ?cfiF ?lF ?cF ?kF ?catO ?crcO ?cfiO ?lO ?cO ?kO ?hat ?hge ?htk ?hrc ?lH ?cH ?kH ?eat ?efn ?lE ?cE ?kE ?aLo ?lLo ?cLo ?kLo ?nLo ?aDW ?lDW ?aGW ?lGW ?vDW ?zDW ?vGW ?zGW ?add9 ?ldd9 ?cdd9' ?kdd9 ?add10 ?ldd10 ?cdd10' ?kdd10 ?add11 ?ldd11 ?cdd11' ?kdd11 ?add12 ?ldd12 ?cdd12' ?kdd12 ?add13 ?ldd13 ?cdd13' ?kdd13 ?add15 ?ldd15 ?cdd15' ?kdd15 ?add16 ?ldd16 ?cdd16' ?kdd16 ?add17 ?ldd17 ?cdd17' ?kdd17 ?add18 ?ldd18 ?cdd18' ?kdd18 ?add19 ?ldd19 ?cdd19' ?kdd19 ?add20 ?ldd20 ?cdd20' ?kdd20 ?add22 ?ldd22 ?cdd22' ?kdd22 ?add23 ?ldd23 ?cdd23' ?kdd23 ?add26 ?ldd26 ?cdd26' ?kdd26 ?add27 ?ldd27 ?cdd27' ?kdd27 ?add29 ?ldd29 ?cdd29' ?kdd29 ?add30 ?ldd30 ?cdd30' ?kdd30 ?add31 ?ldd31 ?cdd31' ?kdd31 ?add32 ?ldd32 ?cdd32' ?kdd32 ?add33 ?ldd33 ?cdd33' ?kdd33 ?add34 ?ldd34 ?cdd34' ?kdd34 ?add38 ?ldd38 ?cdd38' ?kdd38 ?add39 ?ldd39 ?cdd39' ?kdd39 ?add40 ?ldd40 ?cdd40' ?kdd40 ?add42 ?ldd42 ?cdd42' ?kdd42 ?add43 ?ldd43 ?cdd43' ?kdd43 ?add44 ?ldd44 ?cdd44' ?kdd44 ?add45 ?ldd45 ?cdd45' ?kdd45 ?add46 ?ldd46 ?cdd46' ?kdd46 ?add48 ?ldd48 ?cdd48' ?kdd48 ?add49 ?ldd49 ?cdd49' ?kdd49 ?add50 ?ldd50 ?cdd50' ?kdd50 ?add51 ?ldd51 ?cdd51' ?kdd51 ?add52 ?ldd52 ?cdd52' ?kdd52 ?add53 ?ldd53 ?cdd53' ?kdd53 ?add54 ?ldd54 ?cdd54' ?kdd54 ?add55 ?ldd55 ?cdd55' ?kdd55 ?add56 ?ldd56 ?cdd56' ?kdd56 ?add57 ?ldd57 ?cdd57' ?kdd57 ?add58 ?ldd58 ?cdd58' ?kdd58 ?add59 ?ldd59 ?cdd59' ?kdd59 ?add60 ?ldd60 ?cdd60' ?kdd60 ?add61 ?ldd61 ?cdd61' ?kdd61 ?add62 ?ldd62 ?cdd62' ?kdd62 ?add63 ?ldd63 ?cdd63' ?kdd63 ?add64 ?ldd64 ?cdd64' ?kdd64 ?add65 ?ldd65 ?cdd65' ?kdd65 ?add66 ?ldd66 ?cdd66' ?kdd66 ?add67 ?ldd67 ?cdd67' ?kdd67 ?add68 ?ldd68 ?cdd68' ?kdd68 ?add69 ?ldd69 ?cdd69' ?kdd69 ?add70 ?ldd70 ?cdd70' ?kdd70 ?add71 ?ldd71 ?cdd71' ?kdd71 ?add72 ?ldd72 ?cdd72' ?kdd72 ?add73 ?ldd73 ?cdd73' ?kdd73 ?n_isi ?n_int ?n_bool ?n_list ?n_tuple ?n_len ?n_sorted ?n_range ?n_enum ?n_zip ?n_set ?n_sum ?n_min ?n_max ?n_all ?n_any ?aOW ?lOW ?osa ?oex ?oty ?okp ?oin ?otf ?lX ?cX ?kX ?onw ?oga ?ogg ?ohd ?oic ?oss
    (case aC => k_is)
    (case pg => k_is)
    (case ic => k_is)
    (case po => k_is)
    (case sa => k_is)
    (case ca => k_is)
    (case cn => k_is)
    (case ct => k_is)
    (case cm => k_is)
    (case sat2 => k_is)
    (case sge2 => k_is)
    (case stk2 => k_is)
    (case sty2 => k_is)
    (case six2 => k_is)
    (case sat0 => k_is)
    (case sge0 => k_is)
    (case stk0 => k_is)
    (case sty0 => k_is)
    (case six0 => k_is)
    (case sat1 => k_is)
    (case sge1 => k_is)
    (case stk1 => k_is)
    (case sty1 => k_is)
    (case six1 => k_is)
    (case mk => k_is)
    (case kc => k_is)
    (case iat => k_is)
    (case ifn => k_is)
    (case lI => k_is)
    (case cI => k_is)
    (case kI => k_is)
    (case rd => k_is)
    (case ga => k_is)
    (case catF => k_is)
    (case crcF => k_is)
    (case cfiF => k_is)
    (case lF => k_is)
    (case cF => k_is)
    (case kF => k_is)
    (case catO => k_is)
    (case crcO => k_is)
    (case cfiO => k_is)
    (case lO => k_is)
    (case cO => k_is)
    (case kO => k_is)
    (case hat => k_is)
    (case hge => k_is)
    (case htk => k_is)
    (case hrc => k_is)
    (case lH => k_is)
    (case cH => k_is)
    (case kH => k_is)
    (case eat => k_is)
    (case efn => k_is)
    (case lE => k_is)
    (case cE => k_is)
    (case kE => k_is)
    (case aLo => k_is)
    (case lLo => k_is)
    (case cLo => k_is)
    (case kLo => k_is)
    (case nLo => k_is)
    (case aDW => k_is)
    (case lDW => k_is)
    (case aGW => k_is)
    (case lGW => k_is)
    (case vDW => first | exact .nil | (repeat (first | exact .nil | refine .cons ⟨_, rfl⟩ ?_)))
    (case zDW => rw [sizeLine_eq]; decide)
    (case vGW => first | exact .nil | (repeat (first | exact .nil | refine .cons ⟨_, rfl⟩ ?_)))
    (case zGW => rw [sizeLine_eq]; decide)
    (case add9 => k_is)
    (case ldd9 => k_is)
    (case cdd9' => k_is)
    (case kdd9 => k_is)
    (case add10 => k_is)
    (case ldd10 => k_is)
    (case cdd10' => k_is)
    (case kdd10 => k_is)
    (case add11 => k_is)
    (case ldd11 => k_is)
    (case cdd11' => k_is)
    (case kdd11 => k_is)
    (case add12 => k_is)
    (case ldd12 => k_is)
    (case cdd12' => k_is)
    (case kdd12 => k_is)
    (case add13 => k_is)
    (case ldd13 => k_is)
    (case cdd13' => k_is)
    (case kdd13 => k_is)
    (case add15 => k_is)
    (case ldd15 => k_is)
    (case cdd15' => k_is)
    (case kdd15 => k_is)
    (case add16 => k_is)
    (case ldd16 => k_is)
    (case cdd16' => k_is)
    (case kdd16 => k_is)
    (case add17 => k_is)
    (case ldd17 => k_is)
    (case cdd17' => k_is)
    (case kdd17 => k_is)
    (case add18 => k_is)
    (case ldd18 => k_is)
    (case cdd18' => k_is)
    (case kdd18 => k_is)
    (case add19 => k_is)
    (case ldd19 => k_is)
    (case cdd19' => k_is)
    (case kdd19 => k_is)
    (case add20 => k_is)
    (case ldd20 => k_is)
    (case cdd20' => k_is)
    (case kdd20 => k_is)
    (case add22 => k_is)
    (case ldd22 => k_is)
    (case cdd22' => k_is)
    (case kdd22 => k_is)
    (case add23 => k_is)
    (case ldd23 => k_is)
    (case cdd23' => k_is)
    (case kdd23 => k_is)
    (case add26 => k_is)
    (case ldd26 => k_is)
    (case cdd26' => k_is)
    (case kdd26 => k_is)
    (case add27 => k_is)
    (case ldd27 => k_is)
    (case cdd27' => k_is)
    (case kdd27 => k_is)
    (case add29 => k_is)
    (case ldd29 => k_is)
    (case cdd29' => k_is)
    (case kdd29 => k_is)
    (case add30 => k_is)
    (case ldd30 => k_is)
    (case cdd30' => k_is)
    (case kdd30 => k_is)
    (case add31 => k_is)
    (case ldd31 => k_is)
    (case cdd31' => k_is)
    (case kdd31 => k_is)
    (case add32 => k_is)
    (case ldd32 => k_is)
    (case cdd32' => k_is)
    (case kdd32 => k_is)
    (case add33 => k_is)
    (case ldd33 => k_is)
    (case cdd33' => k_is)
    (case kdd33 => k_is)
    (case add34 => k_is)
    (case ldd34 => k_is)
    (case cdd34' => k_is)
    (case kdd34 => k_is)
    (case add38 => k_is)
    (case ldd38 => k_is)
    (case cdd38' => k_is)
    (case kdd38 => k_is)
    (case add39 => k_is)
    (case ldd39 => k_is)
    (case cdd39' => k_is)
    (case kdd39 => k_is)
    (case add40 => k_is)
    (case ldd40 => k_is)
    (case cdd40' => k_is)
    (case kdd40 => k_is)
    (case add42 => k_is)
    (case ldd42 => k_is)
    (case cdd42' => k_is)
    (case kdd42 => k_is)
    (case add43 => k_is)
    (case ldd43 => k_is)
    (case cdd43' => k_is)
    (case kdd43 => k_is)
    (case add44 => k_is)
    (case ldd44 => k_is)
    (case cdd44' => k_is)
    (case kdd44 => k_is)
    (case add45 => k_is)
    (case ldd45 => k_is)
    (case cdd45' => k_is)
    (case kdd45 => k_is)
    (case add46 => k_is)
    (case ldd46 => k_is)
    (case cdd46' => k_is)
    (case kdd46 => k_is)
    (case add48 => k_is)
    (case ldd48 => k_is)
    (case cdd48' => k_is)
    (case kdd48 => k_is)
    (case add49 => k_is)
    (case ldd49 => k_is)
    (case cdd49' => k_is)
    (case kdd49 => k_is)
    (case add50 => k_is)
    (case ldd50 => k_is)
    (case cdd50' => k_is)
    (case kdd50 => k_is)
    (case add51 => k_is)
    (case ldd51 => k_is)
    (case cdd51' => k_is)
    (case kdd51 => k_is)
    (case add52 => k_is)
    (case ldd52 => k_is)
    (case cdd52' => k_is)
    (case kdd52 => k_is)
    (case add53 => k_is)
    (case ldd53 => k_is)
    (case cdd53' => k_is)
    (case kdd53 => k_is)
    (case add54 => k_is)
    (case ldd54 => k_is)
    (case cdd54' => k_is)
    (case kdd54 => k_is)
    (case add55 => k_is)
    (case ldd55 => k_is)
    (case cdd55' => k_is)
    (case kdd55 => k_is)
    (case add56 => k_is)
    (case ldd56 => k_is)
    (case cdd56' => k_is)
    (case kdd56 => k_is)
    (case add57 => k_is)
    (case ldd57 => k_is)
    (case cdd57' => k_is)
    (case kdd57 => k_is)
    (case add58 => k_is)
    (case ldd58 => k_is)
    (case cdd58' => k_is)
    (case kdd58 => k_is)
    (case add59 => k_is)
    (case ldd59 => k_is)
    (case cdd59' => k_is)
    (case kdd59 => k_is)
    (case add60 => k_is)
    (case ldd60 => k_is)
    (case cdd60' => k_is)
    (case kdd60 => k_is)
    (case add61 => k_is)
    (case ldd61 => k_is)
    (case cdd61' => k_is)
    (case kdd61 => k_is)
    (case add62 => k_is)
    (case ldd62 => k_is)
    (case cdd62' => k_is)
    (case kdd62 => k_is)
    (case add63 => k_is)
    (case ldd63 => k_is)
    (case cdd63' => k_is)
    (case kdd63 => k_is)
    (case add64 => k_is)
    (case ldd64 => k_is)
    (case cdd64' => k_is)
    (case kdd64 => k_is)
    (case add65 => k_is)
    (case ldd65 => k_is)
    (case cdd65' => k_is)
    (case kdd65 => k_is)
    (case add66 => k_is)
    (case ldd66 => k_is)
    (case cdd66' => k_is)
    (case kdd66 => k_is)
    (case add67 => k_is)
    (case ldd67 => k_is)
    (case cdd67' => k_is)
    (case kdd67 => k_is)
    (case add68 => k_is)
    (case ldd68 => k_is)
    (case cdd68' => k_is)
    (case kdd68 => k_is)
    (case add69 => k_is)
    (case ldd69 => k_is)
    (case cdd69' => k_is)
    (case kdd69 => k_is)
    (case add70 => k_is)
    (case ldd70 => k_is)
    (case cdd70' => k_is)
    (case kdd70 => k_is)
    (case add71 => k_is)
    (case ldd71 => k_is)
    (case cdd71' => k_is)
    (case kdd71 => k_is)
    (case add72 => k_is)
    (case ldd72 => k_is)
    (case cdd72' => k_is)
    (case kdd72 => k_is)
    (case add73 => k_is)
    (case ldd73 => k_is)
    (case cdd73' => k_is)
    (case kdd73 => k_is)
    (case n_isi => k_is)
    (case n_int => k_is)
    (case n_bool => k_is)
    (case n_list => k_is)
    (case n_tuple => k_is)
    (case n_len => k_is)
    (case n_sorted => k_is)
    (case n_range => k_is)
    (case n_enum => k_is)
    (case n_zip => k_is)
    (case n_set => k_is)
    (case n_sum => k_is)
    (case n_min => k_is)
    (case n_max => k_is)
    (case n_all => k_is)
    (case n_any => k_is)
    (case aOW => k_is)
    (case lOW => k_is)
    (case osa => k_is)
    (case oex => k_is)
    (case oty => k_is)
    (case okp => k_is)
    (case oin => k_is)
    (case otf => k_is)
    (case lX => k_is)
    (case cX => k_is)
    (case kX => k_is)
    (case onw => k_is)
    (case oga => k_is)
    (case ogg => k_is)
    (case ohd => k_is)
    (case oic => k_is)
    (case oss => k_is)
