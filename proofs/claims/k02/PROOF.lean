import PyProof.Rows.All
import Wide.All
import OpenK.AllK
import Wide.FinOn
import HandS.ForMost
import HandS.ExcOwn
import HandS.WordsExc
import HandS.TryMany
import HandS.Lambda
import HandS.TupAny
import HandS.TupMul
import HandS.Style
import HandS.IsInst
import HandS.Deep
import HandS.Wide
import HandS.Flow
import HandS.Text
import HandS.RaiseMore
import HandS.Walk
import HandS.SetFor
import KE.SortData
import HandS.HeadHook4
import HandS.EndTab
import PySem.Challenge.RW_heardtrees_k02_whole_rows_and_own_histor
import HandS.Head0
import HandS.Head1
import HandS.Head2
import HandS.HeadEnd
section
set_option Elab.async false
set_option linter.all false
set_option maxRecDepth 100000
set_option autoImplicit false
namespace Ev
open PySem PySem.Spec PyProof.Rows L2

/-! ## values, store, outcomes -/
inductive W where
  | d (x : PyData)
  | r (i : Nat)
inductive SO where
  | lst (xs : List W)
  | dic (kvs : List (Key × W))
  | dead
  | tab (P : Addr) (q : Str)
abbrev Sto := List SO
structure Ex where
  cls : Str
  flds : List (Str × PyData)
inductive R (α : Type) where
  | ok (a : α) (st : Sto)
  | ex (x : Ex) (st : Sto)
  | bad
def M (α : Type) := Sto → R α
def ret {α : Type} (a : α) : M α := fun st => .ok a st
def bnd {α β : Type} (m : M α) (f : α → M β) : M β := fun st => match m st with
  | .ok a st' => f a st'
  | .ex x st' => .ex x st'
  | .bad => .bad
def bad {α : Type} : M α := fun _ => .bad
instance : Monad M where
  pure := ret
  bind := bnd
/-- a function at f, made where F was known, m the store -/
structure Cl where
  f : Addr
  F : Hp
  m : List Addr
inductive Sl where
  | w (x : W)
  | fn (c : Cl)
  | scr (ns : List Int)
abbrev Env := List (Option Sl)
inductive Fl where
  | nx (ρ : Env)
  | rt (x : W)
  | bk (ρ : Env)
  | ct (ρ : Env)
inductive RS where
  | go (f : Fl) (st : Sto)
  | ex (x : Ex) (ρ : Env) (st : Sto)
  | bad
def S := Env → Sto → RS

/-! ## what stands for what -/
mutual
inductive Dq (K : PySem.W.Frag) (F : Hp) : V → PyData → Prop
  | non : Dq K F .non .none
  | bl (b : Bool) : Dq K F (.bl b) (.bool b)
  | int (i : Int) : Dq K F (.int i) (.int i)
  | str (x : Str) : Dq K F (.str x) (.str x)
  | lst {a : Addr} {xs : List V} {ds : List PyData} : F a = some (.lst xs) → DqAll K F xs ds → Dq K F (.ref a) (.list ds)
  | tup {a : Addr} {xs : List V} {ds : List PyData} : SqT K F a xs → DqAll K F xs ds → Dq K F (.ref a) (.tuple ds)
inductive DqAll (K : PySem.W.Frag) (F : Hp) : List V → List PyData → Prop
  | nil : DqAll K F [] []
  | cons {v : V} {vs : List V} {d : PyData} {ds : List PyData} : Dq K F v d → DqAll K F vs ds → DqAll K F (v :: vs) (d :: ds)
end
section
variable {K : PySem.W.Frag} {F F' : Hp}
theorem seqT_mono (s : Same F F') {a : Addr} {xs : List V} (h : SqT K F a xs) : SqT K F' a xs := by
  rcases h with (h | ⟨o, h⟩) | h
  · exact .inl (.inl (s _ _ h))
  · exact .inl (.inr ⟨o, s _ _ h⟩)
  · exact .inr h
theorem seqL_mono (s : Same F F') {a : Addr} {xs : List V} (h : SqL K F a xs) : SqL K F' a xs := by
  rcases h with (h | ⟨o, h⟩) | h
  · exact .inl (.inl (s _ _ h))
  · exact .inl (.inr ⟨o, s _ _ h⟩)
  · exact .inr h
mutual
theorem Dq.mono (s : Same F F') : ∀ {v : V} {d : PyData}, Dq K F v d → Dq K F' v d
  | _, _, .non => .non
  | _, _, .bl b => .bl b
  | _, _, .int i => .int i
  | _, _, .str x => .str x
  | _, _, .lst h t => .lst (s _ _ h) (DqAll.mono s t)
  | _, _, .tup h t => .tup (seqT_mono s h) (DqAll.mono s t)
theorem DqAll.mono (s : Same F F') : ∀ {vs : List V} {ds : List PyData}, DqAll K F vs ds → DqAll K F' vs ds
  | _, _, .nil => .nil
  | _, _, .cons h t => .cons (Dq.mono s h) (DqAll.mono s t)
end
mutual
theorem Dq.dp : ∀ {v : V} {d : PyData}, Dq K F v d → Dp K F v d
  | _, _, .non => .non
  | _, _, .bl b => .bl b
  | _, _, .int i => .int i
  | _, _, .str x => .str x
  | _, _, .lst h t => .lst (SqL.of h) (DqAll.dp t)
  | _, _, .tup h t => .tup h (DqAll.dp t)
theorem DqAll.dp : ∀ {vs : List V} {ds : List PyData}, DqAll K F vs ds → DpAll K F vs ds
  | _, _, .nil => .nil
  | _, _, .cons h t => .cons (Dq.dp h) (DqAll.dp t)
end
theorem DqAll.length : ∀ {vs : List V} {ds : List PyData}, DqAll K F vs ds → vs.length = ds.length
  | _, _, .nil => rfl
  | _, _, .cons _ t => congrArg (· + 1) (DqAll.length t)
theorem DqAll.get : ∀ {vs : List V} {ds : List PyData} {i : Nat} {d : PyData}, DqAll K F vs ds → ds[i]? = some d → ∃ v, vs[i]? = some v ∧ Dq K F v d
  | _, _, _, _, .nil, e => by simp at e
  | _, _, 0, d, .cons (v := v) h _, e => ⟨v, rfl, by have e' := Option.some.inj e; rw [← e']; exact h⟩
  | _, _, i + 1, d, .cons _ t, e => by
    obtain ⟨v, h1, h2⟩ := DqAll.get (i := i) (d := d) t (by simpa using e)
    exact ⟨v, by simpa using h1, h2⟩
theorem DqAll.get' : ∀ {vs : List V} {ds : List PyData} {i : Nat} {v : V}, DqAll K F vs ds → vs[i]? = some v → ∃ d, ds[i]? = some d ∧ Dq K F v d
  | _, _, _, _, .nil, e => by simp at e
  | _, _, 0, v, .cons (d := d) h _, e => ⟨d, rfl, by have e' := Option.some.inj e; rw [← e']; exact h⟩
  | _, _, i + 1, v, .cons _ t, e => by
    obtain ⟨d, h1, h2⟩ := DqAll.get' (i := i) (v := v) t (by simpa using e)
    exact ⟨d, by simpa using h1, h2⟩
theorem DqAll.append : ∀ {vs ws : List V} {ds es : List PyData}, DqAll K F vs ds → DqAll K F ws es → DqAll K F (vs ++ ws) (ds ++ es)
  | _, _, _, _, .nil, h => h
  | _, _, _, _, .cons h t, h' => .cons h (DqAll.append t h')
theorem DqAll.take : ∀ {vs : List V} {ds : List PyData} (n : Nat), DqAll K F vs ds → DqAll K F (vs.take n) (ds.take n)
  | _, _, 0, _ => by simp; exact .nil
  | _, _, _ + 1, .nil => .nil
  | _, _, n + 1, .cons h t => .cons h (DqAll.take n t)
theorem DqAll.drop : ∀ {vs : List V} {ds : List PyData} (n : Nat), DqAll K F vs ds → DqAll K F (vs.drop n) (ds.drop n)
  | _, _, 0, h => h
  | _, _, _ + 1, .nil => .nil
  | _, _, n + 1, .cons _ t => DqAll.drop n t
end

/-- the ground: program, world, what the top has written -/
structure Gd where
  P : Program
  w : World
  K : PySem.W.Frag
  mg : Str → Option Value
  base : Heap
abbrev gd (X : Cx) : Gd := ⟨X.prog, X.w, X.K, X.mg, X.base⟩

def WR (K : PySem.W.Frag) (F : Hp) (m : List Addr) : W → V → Prop
  | .d x, v => Dq K F v x
  | .r i, v => ∃ a, m[i]? = some a ∧ v = .ref a
abbrev WRs (K : PySem.W.Frag) (F : Hp) (m : List Addr) : List W → List V → Prop := Paired (WR K F m)
def SR (K : PySem.W.Frag) (F : Hp) (m : List Addr) (H : Hp) (a : Addr) : SO → Prop
  | .lst ws => ∃ vs, H a = some (.lst vs) ∧ WRs K F m ws vs
  | .dic kvs => ∃ ps, H a = some (.dK ps) ∧ Paired (fun (p : Key × W) (q : Key × V) => p.1 = q.1 ∧ WR K F m p.2 q.2) kvs ps
  | .dead => ∃ o, H a = some o ∧ (∀ φ, o ≠ .ext φ) ∧ ∀ ps, o ≠ .tbl ps
  | .tab P q => a = P ∧ ∃ ps, H a = some (.tbl ps) ∧ TriplesOk ps.toList ∧ ∀ (pos : Pos) (cv : Value), codeAmong pos ps.toList = some cv → ∃ c, cv = .ref c ∧ F c = some (LamX.CodeO c q)
structure Rel (K : PySem.W.Frag) (F : Hp) (m : List Addr) (st : Sto) (H : Hp) : Prop where
  sub : Same F H
  len : m.length = st.length
  nd : m.Nodup
  out : ∀ a ∈ m, F a = none
  here : ∀ a ∈ m, ∃ o, H a = some o
  obj : ∀ (i : Nat) (a : Addr) (so : SO), m[i]? = some a → st[i]? = some so → SR K F m H a so
  nt : ∀ (b : Addr) (ps : Array Value), F b ≠ some (.tbl ps)
def ExR (K : PySem.W.Frag) (mg : Str → Option Value) (F H : Hp) (x : Ex) (cls : Value) (dd : Option Addr) : Prop :=
  ∃ C, mg x.cls = some (.ref C) ∧ cls = .ref C ∧ ((x.flds = [] ∧ dd = none) ∨
    (∃ d fs, dd = some d ∧ H d = some (.xd fs) ∧ Paired (fun (p : Str × PyData) (q : Str × V) => p.1 = q.1 ∧ Dq K F q.2 p.2) x.flds fs))
/-- an outcome, what is wanted behind it -/
def After (K : PySem.W.Frag) (mg : Str → Option Value) (F : Hp) (m : List Addr) (E : XK) {α : Type} (r : R α) (Q : α → Hp → List Addr → Hp → Prop) : Prop :=
  match r with
  | .ok a st => ∀ F' m' H', Same F F' → m <+: m' → Rel K F' m' st H' → Q a F' m' H'
  | .ex x st => ∀ F' m' H' cls dd, Same F F' → m <+: m' → Rel K F' m' st H' → ExR K mg F' H' x cls dd → E cls dd H'
  | .bad => False
def SlR (g : Gd) (F : Hp) (m : List Addr) : Sl → V → Prop
  | .w x, v => WR g.K F m x v
  | .fn c, v => v = .ref c.f ∧ Same c.F F ∧ c.m <+: m
  | .scr ns, v => ∃ a, v = .ref a ∧ SqL g.K F a (ns.map V.int)
structure EnvR (g : Gd) (F : Hp) (m : List Addr) (ρ : Env) (σ : L2.St) : Prop where
  len : ρ.length = σ.length
  at_ : ∀ (i : Nat) (x : Sl), ρ[i]? = some (some x) → ∃ v, σ[i]? = some (some v) ∧ SlR g F m x v

section
variable {K : PySem.W.Frag} {F F' F2 : Hp} {m m' m2 : List Addr} {g : Gd}
theorem pre_trans {m m' m2 : List Addr} (a : m <+: m') (b : m' <+: m2) : m <+: m2 := List.IsPrefix.trans a b
theorem pre_get {m m' : List Addr} (p : m <+: m') {i : Nat} {a : Addr} (h : m[i]? = some a) : m'[i]? = some a := by
  obtain ⟨t, rfl⟩ := p
  have hi := (List.getElem?_eq_some_iff.mp h).1
  rw [List.getElem?_append_left hi]; exact h
theorem WR.mono (s : Same F F') (p : m <+: m') : ∀ {x : W} {v : V}, WR K F m x v → WR K F' m' x v
  | .d x, v, h => Dq.mono s h
  | .r i, v, ⟨a, h, e⟩ => ⟨a, pre_get p h, e⟩
theorem WRs.mono (s : Same F F') (p : m <+: m') : ∀ {xs : List W} {vs : List V}, WRs K F m xs vs → WRs K F' m' xs vs
  | _, _, .nil => .nil
  | _, _, .cons h t => .cons (h.mono s p) (WRs.mono s p t)
theorem SlR.mono (s : Same F F') (p : m <+: m') : ∀ {x : Sl} {v : V}, SlR g F m x v → SlR g F' m' x v
  | .w x, v, h => WR.mono s p h
  | .fn c, v, ⟨e, s1, p1⟩ => ⟨e, s1.trans s, pre_trans p1 p⟩
  | .scr ns, v, ⟨a, e, h⟩ => ⟨a, e, seqL_mono s h⟩
theorem EnvR.mono (s : Same F F') (p : m <+: m') {ρ : Env} {σ : L2.St} (h : EnvR g F m ρ σ) : EnvR g F' m' ρ σ :=
  ⟨h.len, fun i x e => let ⟨v, h1, h2⟩ := h.at_ i x e; ⟨v, h1, h2.mono s p⟩⟩
theorem EnvR.set {ρ : Env} {σ : L2.St} (h : EnvR g F m ρ σ) (i : Nat) {x : Sl} {v : V} (r : SlR g F m x v) : EnvR g F m (ρ.set i (some x)) (σ.set i (some v)) := by
  refine ⟨by rw [List.length_set, List.length_set]; exact h.len, fun j y e => ?_⟩
  by_cases hj : i = j
  · subst hj
    by_cases hi : i < ρ.length
    · rw [List.getElem?_set_self hi] at e
      have e' := Option.some.inj (Option.some.inj e)
      subst e'
      exact ⟨v, by rw [List.getElem?_set_self (by rw [← h.len]; exact hi)], r⟩
    · rw [List.getElem?_eq_none (by rw [List.length_set]; omega)] at e
      cases e
  · rw [List.getElem?_set_ne hj] at e
    obtain ⟨v', h1, h2⟩ := h.at_ j y e
    exact ⟨v', by rw [List.getElem?_set_ne hj]; exact h1, h2⟩
theorem EnvR.unset {ρ : Env} {σ : L2.St} (h : EnvR g F m ρ σ) (i : Nat) {v : Option V} : EnvR g F m (ρ.set i none) (σ.set i v) := by
  refine ⟨by rw [List.length_set, List.length_set]; exact h.len, fun j y e => ?_⟩
  by_cases hj : i = j
  · subst hj
    by_cases hi : i < ρ.length
    · rw [List.getElem?_set_self hi] at e
      cases Option.some.inj e
    · rw [List.getElem?_eq_none (by rw [List.length_set]; omega)] at e
      cases e
  · rw [List.getElem?_set_ne hj] at e
    obtain ⟨v', h1, h2⟩ := h.at_ j y e
    exact ⟨v', by rw [List.getElem?_set_ne hj]; exact h1, h2⟩
theorem Rel.refl_pre {m : List Addr} : m <+: m := List.prefix_refl m
end
section
variable {K : PySem.W.Frag} {mg : Str → Option Value} {F F' : Hp} {m m' : List Addr} {E : XK} {α β : Type}
theorem After.mono (s : Same F F') (p : m <+: m') {r : R α} {Q Q' : α → Hp → List Addr → Hp → Prop} (h : After K mg F m E r Q) (hq : ∀ a F2 m2 H2, Same F' F2 → m' <+: m2 → Q a F2 m2 H2 → Q' a F2 m2 H2) : After K mg F' m' E r Q' := by
  cases r with
  | ok a st => exact fun F2 m2 H2 s2 p2 r2 => hq _ _ _ _ s2 p2 (h F2 m2 H2 (s.trans s2) (pre_trans p p2) r2)
  | ex x st => exact fun F2 m2 H2 c d s2 p2 r2 e => h F2 m2 H2 c d (s.trans s2) (pre_trans p p2) r2 e
  | bad => exact h
/-- one behind another -/
theorem After.bnd {x : M α} {f : α → M β} {st : Sto} {Q : β → Hp → List Addr → Hp → Prop} (h : After K mg F m E (bnd x f st) Q) :
    After K mg F m E (x st) (fun a F' m' H' => ∃ st', Same F F' ∧ m <+: m' ∧ Rel K F' m' st' H' ∧ After K mg F' m' E (f a st') Q) := by
  have h : After K mg F m E (match x st with | .ok a st' => f a st' | .ex x st' => .ex x st' | .bad => .bad) Q := h
  cases e : x st with
  | ok a st' =>
    rw [e] at h
    exact fun F2 m2 H2 s2 p2 r2 => ⟨st', s2, p2, r2, After.mono s2 p2 h fun _ _ _ _ _ _ q => q⟩
  | ex y st' => rw [e] at h; exact h
  | bad => rw [e] at h; exact h
theorem After.here {a : α} {st : Sto} {H : Hp} {Q : α → Hp → List Addr → Hp → Prop} (h : After K mg F m E (.ok a st) Q) (r : Rel K F m st H) : Q a F m H := h F m H (Same.refl F) (List.prefix_refl m) r
end

/-! ## the judgements -/
def tM (X : Cx) (Wx : WX) (f : Env → M W) : TE := fun σ H Q => ∃ F m st ρ, EnvR (gd X) F m ρ σ ∧ Rel X.K F m st H ∧
  After X.K X.mg F m (fun c d H' => Wx c d σ H') (f ρ st) (fun w F' m' H' => ∀ v, WR X.K F' m' w v → Q v H')
def tB (X : Cx) (Wx : WX) (f : Env → M Bool) : TT := fun σ H Q => ∃ F m st ρ, EnvR (gd X) F m ρ σ ∧ Rel X.K F m st H ∧
  After X.K X.mg F m (fun c d H' => Wx c d σ H') (f ρ st) (fun b F' m' H' => Q b H')
def tA (X : Cx) (Wx : WX) (f : Env → M (List W)) : TA := fun σ H Q => ∃ F m st ρ, EnvR (gd X) F m ρ σ ∧ Rel X.K F m st H ∧
  After X.K X.mg F m (fun c d H' => Wx c d σ H') (f ρ st) (fun ws F' m' H' => ∀ vs, WRs X.K F' m' ws vs → Q vs H')
def AfterS (g : Gd) (F : Hp) (m : List Addr) (Wx : WX) (r : RS) (D : Ends) : Prop :=
  match r with
  | .go (.nx ρ) st => ∀ F' m' H' σ', Same F F' → m <+: m' → Rel g.K F' m' st H' → EnvR g F' m' ρ σ' → D.nx σ' H'
  | .go (.bk ρ) st => ∀ F' m' H' σ', Same F F' → m <+: m' → Rel g.K F' m' st H' → EnvR g F' m' ρ σ' → D.bk σ' H'
  | .go (.ct ρ) st => ∀ F' m' H' σ', Same F F' → m <+: m' → Rel g.K F' m' st H' → EnvR g F' m' ρ σ' → D.ct σ' H'
  | .go (.rt w) st => ∀ F' m' H' v, Same F F' → m <+: m' → Rel g.K F' m' st H' → WR g.K F' m' w v → D.rt v H'
  | .ex x ρ st => ∀ F' m' H' σ' cls dd, Same F F' → m <+: m' → Rel g.K F' m' st H' → EnvR g F' m' ρ σ' → ExR g.K g.mg F' H' x cls dd → Wx cls dd σ' H'
  | .bad => False
def tS (X : Cx) (Wx : WX) (f : S) : TS := fun D σ H => ∃ F m st ρ, EnvR (gd X) F m ρ σ ∧ Rel X.K F m st H ∧ AfterS (gd X) F m Wx (f ρ st) D
abbrev SE (X : Cx) (Wx : WX) (e : Expr) (f : Env → M W) : Prop := PE X e (tM X Wx f)
abbrev SB (X : Cx) (Wx : WX) (e : Expr) (f : Env → M Bool) : Prop := PT X e (tB X Wx f)
abbrev SA (X : Cx) (Wx : WX) (es : List Expr) (f : Env → M (List W)) : Prop := PA X es (tA X Wx f)
abbrev SS (X : Cx) (Wx : WX) (st : Stmt) (f : S) : Prop := PS X st (tS X Wx f)
abbrev SSs (X : Cx) (Wx : WX) (st : List Stmt) (f : S) : Prop := PSs X st (tS X Wx f)
theorem PE.imp {X : Cx} {e : Expr} {t t' : TE} (h : PE X e t) (k : ∀ σ H Q, t' σ H Q → t σ H Q) : PE X e t' := ⟨fun pins s σ H Q I q => h.run pins s σ H Q I (k σ H Q q)⟩
theorem PT.imp {X : Cx} {e : Expr} {t t' : TT} (h : PT X e t) (k : ∀ σ H Q, t' σ H Q → t σ H Q) : PT X e t' := ⟨fun pins s σ H Q I q => h.run pins s σ H Q I (k σ H Q q)⟩
theorem PA.imp {X : Cx} {e : List Expr} {t t' : TA} (h : PA X e t) (k : ∀ σ H Q, t' σ H Q → t σ H Q) : PA X e t' := ⟨fun pos pins s σ H Q I q => h.run pos pins s σ H Q I (k σ H Q q)⟩
theorem PS.imp {X : Cx} {e : Stmt} {t t' : TS} (h : PS X e t) (k : ∀ D σ H, t' D σ H → t D σ H) : PS X e t' := ⟨fun pins s σ H D I q => h.run pins s σ H D I (k D σ H q)⟩
theorem PSs.imp {X : Cx} {e : List Stmt} {t t' : TS} (h : PSs X e t) (k : ∀ D σ H, t' D σ H → t D σ H) : PSs X e t' := ⟨fun pins s σ H D I q => h.run pins s σ H D I (k D σ H q)⟩
/-- a value's operator: what the plain function says of two values (the store stays) -/
def rM (X : Cx) (op : Sto → W → W → Option W) : R2 := fun x y H Q => ∃ F m st a b w, WR X.K F m a x ∧ WR X.K F m b y ∧ Rel X.K F m st H ∧ op st a b = some w ∧
  ∀ F' m' H' v, Same F F' → m <+: m' → Rel X.K F' m' st H' → WR X.K F' m' w v → Q v H'
def OpM (X : Cx) (f : Value → Value → Sem Value) (op : Sto → W → W → Option W) : Prop := OpR X f (rM X op)
/-- an operator's answer, the store as it is -/
def liftO {α : Type} (o : Sto → Option α) : M α := fun st => match o st with
  | some w => .ok w st
  | none => .bad
section
variable {X : Cx} {Wx : WX} {e a b : Expr} {pos : Pos} {f fa fb : Env → M W}

def getV (i : Nat) (ρ : Env) : M W := fun st => match ρ[i]? with
  | some (some (.w w)) => .ok w st
  | _ => .bad
theorem se_var (i : Nat) {x : Str} (hN : X.N[i]? = some x := by rfl) (hv : Vis X.env.scope x := by first | exact Or.inl rfl | exact Or.inr (Or.inl rfl) | exact Or.inr (Or.inr rfl)) (hd : (x == ("__debug__" : Str)) = false := by decide)
    (hcd : (x == ("__classdict__" : Str)) = false := by decide) : SE X Wx (.Name x pos) (getV i) := by
  refine PE.imp (pe_var hN hv hd hcd) fun σ H Q h => ?_
  obtain ⟨F, m, st, ρ, er, rl, h⟩ := h
  unfold getV at h
  split at h
  · rename_i w hw
    obtain ⟨v, e1, e2⟩ := er.at_ i _ hw
    exact ⟨v, e1, After.here h rl v e2⟩
  · exact h.elim
theorem se_int {i : Int} {j : Nat} : SE X Wx (.Constant (.int i) j pos) (fun _ => ret (.d (.int i))) := by
  refine PE.imp pe_int fun σ H Q h => ?_
  obtain ⟨F, m, st, ρ, er, rl, h⟩ := h
  exact After.here h rl _ (.int i)
theorem se_str {i : Str} {j : Nat} : SE X Wx (.Constant (.str i) j pos) (fun _ => ret (.d (.str i))) := by
  refine PE.imp pe_str fun σ H Q h => ?_
  obtain ⟨F, m, st, ρ, er, rl, h⟩ := h
  exact After.here h rl _ (.str i)
theorem se_bool {i : Bool} {j : Nat} : SE X Wx (.Constant (.bool i) j pos) (fun _ => ret (.d (.bool i))) := by
  refine PE.imp pe_bl fun σ H Q h => ?_
  obtain ⟨F, m, st, ρ, er, rl, h⟩ := h
  exact After.here h rl _ (.bl i)
theorem se_none {j : Nat} : SE X Wx (.Constant .none j pos) (fun _ => ret (.d .none)) := by
  refine PE.imp pe_non fun σ H Q h => ?_
  obtain ⟨F, m, st, ρ, er, rl, h⟩ := h
  exact After.here h rl _ .non
theorem After.liftO {K : PySem.W.Frag} {mg : Str → Option Value} {F : Hp} {m : List Addr} {E : XK} {α : Type} {o : Sto → Option α} {st : Sto} {Q : α → Hp → List Addr → Hp → Prop} (h : After K mg F m E (liftO o st) Q) :
    ∃ w, o st = some w ∧ ∀ F' m' H', Same F F' → m <+: m' → Rel K F' m' st H' → Q w F' m' H' := by
  unfold Ev.liftO at h
  cases e : o st with
  | none => rw [e] at h; exact h.elim
  | some w => rw [e] at h; exact ⟨w, rfl, h⟩
/-- two expressions, then an operator -/
def bin (op : Sto → W → W → Option W) (fa fb : Env → M W) : Env → M W := fun ρ => bnd (fa ρ) fun x => bnd (fb ρ) fun y => liftO fun st => op st x y
theorem tM_op {op : Sto → W → W → Option W} {r : R2} (hr : ∀ x y H Q, rM X op x y H Q → r x y H Q) {σ : L2.St} {H : Hp} {Q : VK}
    (h : tM X Wx (bin op fa fb) σ H Q) : tOp r (tM X Wx fa) (tM X Wx fb) σ H Q := by
  obtain ⟨F, m, st, ρ, er, rl, h⟩ := h
  refine ⟨F, m, st, ρ, er, rl, After.mono (Same.refl F) (List.prefix_refl m) h.bnd fun x F1 m1 H1 s1 p1 ⟨st1, _, _, rl1, h1⟩ v r1 => ?_⟩
  refine ⟨F1, m1, st1, ρ, er.mono s1 p1, rl1, After.mono (Same.refl F1) (List.prefix_refl m1) h1.bnd fun y F2 m2 H2 s2 p2 ⟨st2, _, _, rl2, h2⟩ u r2 => ?_⟩
  obtain ⟨w, e, q⟩ := h2.liftO
  exact hr _ _ _ _ ⟨F2, m2, st2, x, y, w, r1.mono s2 p2, r2, rl2, e, fun F' m' H' v s p r hv => q F' m' H' s p r v hv⟩
theorem se_op {o : Operator} {op : Sto → W → W → Option W} (ho : OpM X (binaryOp o) op) (ha : SE X Wx a fa) (hb : SE X Wx b fb) :
    SE X Wx (.BinOp a o b pos) (bin op fa fb) :=
  PE.imp (pe_op ho ha hb) fun σ H Q h => tM_op (fun _ _ _ _ q => q) h
theorem se_cmp {o : CmpOp} {op : Sto → W → W → Option W} (ho : OpM X (compareOp o) op) (ha : SE X Wx a fa) (hb : SE X Wx b fb) (hm : behindInMarks o b = false) :
    SE X Wx (.Compare a [o] [b] pos) (bin op fa fb) :=
  PE.imp (pe_cmpR ho ha hb hm) fun σ H Q h => tM_op (fun _ _ _ _ q => q) h
end
end Ev
end
section
set_option Elab.async false
set_option linter.all false
set_option maxRecDepth 100000
set_option autoImplicit false
namespace Ev
open PySem PySem.Spec PyProof.Rows L2
section
variable {K : PySem.W.Frag} {F : Hp} {m : List Addr} {st : Sto} {H : Hp} {p : Addr} {o : HO} {Q : VK} {w : W}
theorem Rel.free (rl : Rel K F m st H) (hp : H p = none) : F p = none := Same.free rl.sub hp
theorem same_new (rl : Rel K F m st H) (hp : H p = none) : Same F (upd F p o) := fun a u e => by
  rw [upd_ne (ne_of_none e (rl.free hp))]; exact e
theorem SR.keep {F F' H H' : Hp} {m m' : List Addr} {a : Addr} (s : Same F F') (pr : m <+: m') (e : H' a = H a) : ∀ {so : SO}, SR K F m H a so → SR K F' m' H' a so
  | .lst ws, ⟨vs, h1, h2⟩ => ⟨vs, by rw [e]; exact h1, h2.mono s pr⟩
  | .dic kvs, ⟨ps, h1, h2⟩ => ⟨ps, by rw [e]; exact h1, Paired.mapP h2 fun _ _ ⟨x, y⟩ => ⟨x, y.mono s pr⟩⟩
  | .dead, ⟨o, h1, h2⟩ => ⟨o, by rw [e]; exact h1, h2⟩
  | .tab P q, ⟨ea, ps, h1, h2, h3⟩ => ⟨ea, ps, by rw [e]; exact h1, h2, fun p cv h => let ⟨c, e1, e2⟩ := h3 p cv h; ⟨c, e1, s _ _ e2⟩⟩
theorem Rel.new (rl : Rel K F m st H) (hp : H p = none) (ho : ∀ ps, o ≠ .tbl ps := by nofun) : Rel K (upd F p o) m st (upd H p o) := by
  have nm : ∀ a ∈ m, a ≠ p := fun a ha e => by
    obtain ⟨u, hu⟩ := rl.here a ha
    rw [e, hp] at hu; cases hu
  refine ⟨fun a u e => ?_, rl.len, rl.nd, fun a ha => by rw [upd_ne (nm a ha)]; exact rl.out a ha, fun a ha => by rw [upd_ne (nm a ha)]; exact rl.here a ha, fun i a so h1 h2 => ?_, fun b ps z => ?_⟩
  · by_cases ha : a = p
    · subst ha; rw [upd_same] at e ⊢; exact e
    · rw [upd_ne ha] at e ⊢; exact rl.sub a u e
  · exact (rl.obj i a so h1 h2).keep (same_new rl hp) (List.prefix_refl m) (upd_ne (nm a (List.mem_of_getElem? h1)))
  · by_cases hb : b = p
    · subst hb; rw [upd_same] at z; exact ho ps (Option.some.inj z)
    · rw [upd_ne hb] at z; exact rl.nt b ps z
abbrev QV (K : PySem.W.Frag) (F : Hp) (m : List Addr) (st : Sto) (Q : VK) (w : W) : Prop := ∀ F' m' H' v, Same F F' → m <+: m' → Rel K F' m' st H' → WR K F' m' w v → Q v H'
theorem rM_ok (h : QV K F m st Q w) (rl : Rel K F m st H) {v : V} (hv : WR K F m w v) : Q v H := h F m H v (Same.refl F) (List.prefix_refl m) rl hv
theorem rM_new (h : QV K F m st Q w) (rl : Rel K F m st H) (hp : H p = none) {v : V} (hv : WR K (upd F p o) m w v) (ho : ∀ ps, o ≠ .tbl ps := by nofun) : Q v (upd H p o) :=
  h _ _ _ v (same_new rl hp) (List.prefix_refl m) (rl.new hp ho) hv
theorem rM_tup {ds : List PyData} (h : QV K F m st Q (.d (.tuple ds))) (rl : Rel K F m st H) (hp : H p = none) {vs : List V} (hv : DqAll K F vs ds) : Q (.ref p) (upd H p (.tup vs)) :=
  rM_new h rl hp (show Dq _ _ _ _ from .tup (SqT.of upd_same) (hv.mono (same_new rl hp)))
theorem rM_lst {ds : List PyData} (h : QV K F m st Q (.d (.list ds))) (rl : Rel K F m st H) (hp : H p = none) {vs : List V} (hv : DqAll K F vs ds) : Q (.ref p) (upd H p (.lst vs)) :=
  rM_new h rl hp (show Dq _ _ _ _ from .lst upd_same (hv.mono (same_new rl hp)))
theorem dq_int {v : V} {i : Int} (h : WR K F m (.d (.int i)) v) : v = .int i := by cases (show Dq K F v (.int i) from h); rfl
theorem dq_str {v : V} {i : Str} (h : WR K F m (.d (.str i)) v) : v = .str i := by cases (show Dq K F v (.str i) from h); rfl
theorem dq_bool {v : V} {i : Bool} (h : WR K F m (.d (.bool i)) v) : v = .bl i := by cases (show Dq K F v (.bool i) from h); rfl
theorem dq_none {v : V} (h : WR K F m (.d .none) v) : v = .non := by cases (show Dq K F v .none from h); rfl
theorem dq_tup {v : V} {ds : List PyData} (h : WR K F m (.d (.tuple ds)) v) : ∃ a xs, v = .ref a ∧ SqT K F a xs ∧ DqAll K F xs ds := by
  cases (show Dq K F v (.tuple ds) from h) with | tup h1 t => exact ⟨_, _, rfl, h1, t⟩
theorem dq_lst {v : V} {ds : List PyData} (h : WR K F m (.d (.list ds)) v) : ∃ a xs, v = .ref a ∧ F a = some (.lst xs) ∧ DqAll K F xs ds := by
  cases (show Dq K F v (.list ds) from h) with | lst h1 t => exact ⟨_, _, rfl, h1, t⟩
theorem Dp.mono' {F F' : Hp} (s : Same F F') {v : V} {d : PyData} (h : Dq K F v d) : Dp K F' v d := (h.mono s).dp
end

/-! ## operators -/
def repL {α : Type} (n : Nat) (xs : List α) : List α := (List.replicate n xs).flatten
theorem foldl_cat {α : Type} : ∀ (l : List (Array α)) (a : Array α), l.foldl (· ++ ·) a = (a.toList ++ (l.map Array.toList).flatten).toArray
  | [], a => by simp
  | b :: l, a => by
    rw [List.foldl_cons, foldl_cat l (a ++ b)]
    simp
theorem rep_cps (n : Nat) (x : Str) : (⟨(List.replicate n x.cps).foldl (· ++ ·) #[]⟩ : Str) = ⟨(repL n x.cps.toList).toArray⟩ := by
  rw [foldl_cat]
  simp [repL]
theorem op_repS {X : Cx} : OpR X (binaryOp .Mult) (fun x y H Q => ∃ z k, x = .str z ∧ y = .int k ∧ -1000000 ≤ k ∧ k ≤ 1000000 ∧ z.length ≤ 1000000 ∧ z.length * k.toNat ≤ sizeLine ∧ Q (.str ⟨(repL k.toNat z.cps.toList).toArray⟩) H) := by
  intro pins s σ H x y v u Q I rx ry h
  obtain ⟨z, k, rfl, rfl, h1, h2, h3, h4, q⟩ := h
  obtain ⟨t, rfl⟩ := rx
  obtain ⟨t', rfl⟩ := ry
  have e0 : (decide (k < -(2 ^ 63 : Int)) || decide (k ≥ 2 ^ 63)) = false := by
    have a : ¬ k < -(2 ^ 63 : Int) := by omega
    have b : ¬ k ≥ 2 ^ 63 := by omega
    rw [decide_eq_false a, decide_eq_false b]; rfl
  refine P.mul_str e0 (fun hk _ => ?_) (fun hk _ => ?_) ?_
  · have : (1000000 : Int) ≤ (2 ^ 63 - 1) / k := by
      refine Int.le_ediv_of_mul_le (by omega) ?_
      have a1 : (1000000 : Int) * k ≤ 1000000 * 1000000 := Int.mul_le_mul_of_nonneg_left h2 (by omega)
      omega
    omega
  · unfold Builtin.Str.tooLong
    exact decide_eq_false (by omega)
  · split
    · rename_i hk
      have e : k.toNat = 0 := by omega
      rw [e] at q
      exact ⟨by decide, ⟨.str ⟨(repL 0 z.cps.toList).toArray⟩, H, I.tok _, ⟨_, rfl⟩, q⟩⟩
    · split
      · rename_i hk hc
        have e : (⟨(repL k.toNat z.cps.toList).toArray⟩ : Str) = z := by
          rcases Bool.or_eq_true_iff.mp hc with c | c
          · have : k = 1 := by simpa using c
            subst this
            simp [repL]
          · have h0 : z.cps.toList = [] := List.eq_nil_of_length_eq_zero (by simpa [Str.length] using c)
            have h00 : z.cps = #[] := by simpa using h0
            cases z with | mk cps =>
              simp only at h00
              subst h00
              simp [repL]
        rw [e] at q
        exact ⟨.str z, H, I, ⟨_, rfl⟩, q⟩
      · rw [rep_cps]
        refine ⟨?_, ⟨.str ⟨(repL k.toNat z.cps.toList).toArray⟩, H, I.tok _, ⟨_, rfl⟩, q⟩⟩
        show _ ≤ sizeLine
        refine Nat.le_trans (Nat.le_of_eq ?_) h4
        show (List.toArray _).size = _
        rw [List.size_toArray, repL, PyProof.Rows.lm_len_rep_flat]
        simp [Str.length, Nat.mul_comm]
def addD : PyData → PyData → Option PyData
  | .int i, .int j => some (.int (i + j))
  | .str x, .str y => if x.length + y.length ≤ sizeLine then some (.str (x ++ y)) else none
  | .tuple xs, .tuple ys => if xs.length + ys.length ≤ sizeLine then some (.tuple (xs ++ ys)) else none
  | .list xs, .list ys => if xs.length + ys.length ≤ sizeLine then some (.list (xs ++ ys)) else none
  | _, _ => none
def subD : PyData → PyData → Option PyData
  | .int i, .int j => some (.int (i - j))
  | _, _ => none
def mulD : PyData → PyData → Option PyData
  | .int i, .int j => if (-(2 ^ 64) < i ∧ i < 2 ^ 64) ∨ (-(2 ^ 64) < j ∧ j < 2 ^ 64) then some (.int (i * j)) else none
  | .tuple xs, .int k => if xs ≠ [] ∧ 2 ≤ k ∧ k ≤ 1000 ∧ xs.length ≤ 1000 then some (.tuple (repL k.toNat xs)) else none
  | .list xs, .int k => if -(2 ^ 63) ≤ k ∧ k < 2 ^ 63 ∧ xs.length * k.toNat ≤ sizeLine then some (.list (repL k.toNat xs)) else none
  | .str z, .int k => if -1000000 ≤ k ∧ k ≤ 1000000 ∧ z.length ≤ 1000000 ∧ z.length * k.toNat ≤ sizeLine then some (.str ⟨(repL k.toNat z.cps.toList).toArray⟩) else none
  | _, _ => none
def fdivD : PyData → PyData → Option PyData
  | .int i, .int j => if j ≠ 0 ∧ j.natAbs < 1073741824 then some (.int (i.fdiv j)) else none
  | _, _ => none
def modD : PyData → PyData → Option PyData
  | .int i, .int j => if j ≠ 0 then some (.int (i.fmod j)) else none
  | _, _ => none
def powD : PyData → PyData → Option PyData
  | .int i, .int j => if 0 ≤ j ∧ j ≤ 1000000 ∧ i.natAbs < 2 ^ 64 then some (.int (i ^ j.toNat)) else none
  | _, _ => none
def eqD (a b : PyData) : Option PyData := if SeqAt.shaped a = true ∧ SeqAt.shaped b = true then some (.bool (PyData.eqv a b)) else none
def neD (a b : PyData) : Option PyData := if SeqAt.shaped a = true ∧ SeqAt.shaped b = true then some (.bool (!PyData.eqv a b)) else none
def ltD : PyData → PyData → Option PyData
  | .int i, .int j => some (.bool (decide (i < j)))
  | _, _ => none
def leD : PyData → PyData → Option PyData
  | .int i, .int j => some (.bool (decide (i ≤ j)))
  | _, _ => none
def gtD : PyData → PyData → Option PyData
  | .int i, .int j => some (.bool (decide (j < i)))
  | _, _ => none
def geD : PyData → PyData → Option PyData
  | .int i, .int j => some (.bool (decide (j ≤ i)))
  | _, _ => none
/-- x in y, for texts (one sign), lists, tuples -/
def inB (a : PyData) : PyData → Option Bool
  | .str z => (match a with
    | .str x => (match x.cps.toList with
      | [c] => some (decide (c ∈ z.cps.toList))
      | _ => none)
    | _ => none)
  | .list ds => if SeqAt.shaped a = true ∧ SeqAt.shaped (.list ds) = true then some (ds.any fun z => PyData.eqv z a) else none
  | .tuple ds => if SeqAt.shaped a = true ∧ SeqAt.shaped (.tuple ds) = true then some (ds.any fun z => PyData.eqv z a) else none
  | _ => none
def inD (a b : PyData) : Option PyData := (inB a b).map .bool
def notInD (a b : PyData) : Option PyData := (inB a b).map fun k => .bool (!k)
/-- an operator of data alone -/
def onD (f : PyData → PyData → Option PyData) : Sto → W → W → Option W
  | _, .d a, .d b => (f a b).map .d
  | _, _, _ => none
def isNone : W → Bool
  | .d .none => true
  | _ => false
def isB (a b : W) : Option Bool := match b with
  | .d .none => some (isNone a)
  | .d (.bool k) => (match a with
    | .d (.bool j) => some (decide (j = k))
    | _ => none)
  | _ => none
def pyIs (_ : Sto) (a b : W) : Option W := (isB a b).map fun k => .d (.bool k)
def pyIsNot (_ : Sto) (a b : W) : Option W := (isB a b).map fun k => .d (.bool (!k))
theorem DqAll.rep {K : PySem.W.Frag} {F : Hp} {vs : List V} {ds : List PyData} (h : DqAll K F vs ds) : ∀ n : Nat, DqAll K F (List.replicate n vs).flatten (repL n ds)
  | 0 => .nil
  | n + 1 => by
    unfold repL
    rw [List.replicate_succ, List.replicate_succ, List.flatten_cons, List.flatten_cons]
    exact h.append (DqAll.rep h n)
theorem DqAll.ne {K : PySem.W.Frag} {F : Hp} {vs : List V} {ds : List PyData} (h : DqAll K F vs ds) (e : ds ≠ []) : vs ≠ [] := fun z => by
  subst z; cases h; exact e rfl
section
variable {X : Cx}
/-- an operator of data -/
theorem om_of {f : Value → Value → Sem Value} {op : PyData → PyData → Option PyData}
    (h : ∀ (pins : List (Addr × Obj)) (s : Shared) (σ : L2.St) (H : Hp) (x y : V) (v u : Value) (Q : VK) (F : Hp) (m : List Addr) (st : Sto) (a b c : PyData), Inv X pins σ H s → RelV x v → RelV y u → WR X.K F m (.d a) x → WR X.K F m (.d b) y → Rel X.K F m st H → op a b = some c →
      QV X.K F m st Q (.d c) → wpAny (model X.prog X.w) X.A (f v u) (EP X pins σ Q) X.xe s) : OpM X f (onD op) := by
  intro pins s σ H x y v u Q I rx ry hh
  obtain ⟨F, m, st, a, b, w, ra, rb, rl, e, q⟩ := hh
  cases a with
  | r i => cases e
  | d a =>
    cases b with
    | r i => cases e
    | d b =>
      have e : (op a b).map W.d = some w := e
      cases z : op a b with
      | none => rw [z] at e; cases e
      | some c =>
        rw [z] at e
        cases Option.some.inj e
        exact h pins s σ H x y v u Q F m st a b c I rx ry ra rb rl z q
theorem om_add : OpM X (binaryOp .Add) (onD addD) := om_of fun pins s σ H x y v u Q F m st a b c I rx ry ra rb rl e q => by
  cases a <;> cases b <;> first | (cases e; done) | skip
  · have e1 := dq_int ra; have e2 := dq_int rb; subst e1 e2
    cases Option.some.inj e
    exact op_add pins s σ H _ _ v u Q I rx ry ⟨_, _, rfl, rfl, rM_ok q rl (.int _)⟩
  · have e1 := dq_str ra; have e2 := dq_str rb; subst e1 e2
    dsimp only [addD] at e
    split at e
    · rename_i hz
      cases Option.some.inj e
      exact op_add_str pins s σ H _ _ v u Q I rx ry ⟨_, _, rfl, rfl, hz, rM_ok q rl (.str _)⟩
    · cases e
  · obtain ⟨p, vs, rfl, h1, t1⟩ := dq_lst ra
    obtain ⟨q', ws, rfl, h2, t2⟩ := dq_lst rb
    dsimp only [addD] at e
    split at e
    · rename_i hz
      cases Option.some.inj e
      exact op_cat pins s σ H _ _ v u Q I rx ry ⟨_, _, _, _, rfl, rfl, rl.sub _ _ h1, rl.sub _ _ h2, by rw [t1.length, t2.length]; exact hz, fun p hp => rM_lst q rl hp (t1.append t2)⟩
    · cases e
  · obtain ⟨p, vs, rfl, h1, t1⟩ := dq_tup ra
    obtain ⟨q', ws, rfl, h2, t2⟩ := dq_tup rb
    dsimp only [addD] at e
    split at e
    · rename_i hz
      cases Option.some.inj e
      refine op_catA pins s σ H _ _ v u Q I rx ry ⟨_, _, _, _, rfl, rfl, seqT_mono rl.sub h1, seqT_mono rl.sub h2, by rw [t1.length, t2.length]; exact hz, fun e => ?_, fun e1 e2 => ?_, fun e1 e2 p hp => rM_tup q rl hp (t1.append t2)⟩
      · subst e; cases t1; exact rM_ok q rl rb
      · subst e2; cases t2; rw [List.append_nil] at q; exact rM_ok q rl ra
    · cases e
theorem om_sub : OpM X (binaryOp .Sub) (onD subD) := om_of fun pins s σ H x y v u Q F m st a b c I rx ry ra rb rl e q => by
  cases a <;> cases b <;> first | (cases e; done) | skip
  have e1 := dq_int ra; have e2 := dq_int rb; subst e1 e2
  cases Option.some.inj e
  exact op_sub pins s σ H _ _ v u Q I rx ry ⟨_, _, rfl, rfl, rM_ok q rl (.int _)⟩
theorem om_mul : OpM X (binaryOp .Mult) (onD mulD) := om_of fun pins s σ H x y v u Q F m st a b c I rx ry ra rb rl e q => by
  cases a <;> cases b <;> first | (cases e; done) | skip
  · have e1 := dq_int ra; have e2 := dq_int rb; subst e1 e2
    dsimp only [mulD] at e
    split at e
    · rename_i hz
      cases Option.some.inj e
      exact op_mul pins s σ H _ _ v u Q I rx ry ⟨_, _, rfl, rfl, hz, rM_ok q rl (.int _)⟩
    · cases e
  · have e1 := dq_str ra; have e2 := dq_int rb; subst e1 e2
    dsimp only [mulD] at e
    split at e
    · rename_i hz
      obtain ⟨z1, z2, z3, z4⟩ := hz
      cases Option.some.inj e
      exact op_repS pins s σ H _ _ v u Q I rx ry ⟨_, _, rfl, rfl, z1, z2, z3, z4, rM_ok q rl (.str _)⟩
    · cases e
  · obtain ⟨p, vs, rfl, h1, t1⟩ := dq_lst ra
    have e2 := dq_int rb; subst e2
    dsimp only [mulD] at e
    split at e
    · rename_i hz
      obtain ⟨z1, z2, z3⟩ := hz
      cases Option.some.inj e
      exact op_rep pins s σ H _ _ v u Q I rx ry ⟨_, _, _, rfl, rfl, rl.sub _ _ h1, z1, z2, by rw [t1.length]; exact z3, fun p hp => rM_lst q rl hp (t1.rep _)⟩
    · cases e
  · obtain ⟨p, vs, rfl, h1, t1⟩ := dq_tup ra
    have e2 := dq_int rb; subst e2
    dsimp only [mulD] at e
    split at e
    · rename_i hz
      obtain ⟨z1, z2, z3, z4⟩ := hz
      cases Option.some.inj e
      exact op_repT pins s σ H _ _ v u Q I rx ry ⟨_, _, _, rfl, rfl, seqT_mono rl.sub h1, t1.ne z1, z2, z3, by rw [t1.length]; exact z4, fun p hp => rM_tup q rl hp (t1.rep _)⟩
    · cases e
theorem om_fdiv : OpM X (binaryOp .FloorDiv) (onD fdivD) := om_of fun pins s σ H x y v u Q F m st a b c I rx ry ra rb rl e q => by
  cases a <;> cases b <;> first | (cases e; done) | skip
  have e1 := dq_int ra; have e2 := dq_int rb; subst e1 e2
  dsimp only [fdivD] at e
  split at e
  · rename_i hz
    cases Option.some.inj e
    exact op_fdivN pins s σ H _ _ v u Q I rx ry ⟨_, _, rfl, rfl, hz, rM_ok q rl (.int _)⟩
  · cases e
theorem om_mod : OpM X (binaryOp .Mod) (onD modD) := om_of fun pins s σ H x y v u Q F m st a b c I rx ry ra rb rl e q => by
  cases a <;> cases b <;> first | (cases e; done) | skip
  have e1 := dq_int ra; have e2 := dq_int rb; subst e1 e2
  dsimp only [modD] at e
  split at e
  · rename_i hz
    cases Option.some.inj e
    exact op_modN pins s σ H _ _ v u Q I rx ry ⟨_, _, rfl, rfl, hz, rM_ok q rl (.int _)⟩
  · cases e
theorem om_pow : OpM X (binaryOp .Pow) (onD powD) := om_of fun pins s σ H x y v u Q F m st a b c I rx ry ra rb rl e q => by
  cases a <;> cases b <;> first | (cases e; done) | skip
  have e1 := dq_int ra; have e2 := dq_int rb; subst e1 e2
  dsimp only [powD] at e
  split at e
  · rename_i hz
    cases Option.some.inj e
    exact op_pow pins s σ H _ _ v u Q I rx ry ⟨_, _, rfl, rfl, hz, rM_ok q rl (.int _)⟩
  · cases e
theorem om_eq (hu : X.A.units + 64 < cLine) : OpM X (compareOp .Eq) (onD eqD) := om_of fun pins s σ H x y v u Q F m st a b c I rx ry ra rb rl e q => by
  unfold eqD at e
  split at e
  · rename_i hz
    cases Option.some.inj e
    exact op_eqD hu pins s σ H _ _ v u Q I rx ry ⟨_, _, Dp.mono' rl.sub ra, Dp.mono' rl.sub rb, hz.1, hz.2, rM_ok q rl (.bl _)⟩
  · cases e
theorem om_ne (hu : X.A.units + 64 < cLine) : OpM X (compareOp .NotEq) (onD neD) := om_of fun pins s σ H x y v u Q F m st a b c I rx ry ra rb rl e q => by
  unfold neD at e
  split at e
  · rename_i hz
    cases Option.some.inj e
    exact op_neD hu pins s σ H _ _ v u Q I rx ry ⟨_, _, Dp.mono' rl.sub ra, Dp.mono' rl.sub rb, hz.1, hz.2, rM_ok q rl (.bl _)⟩
  · cases e
theorem om_lt : OpM X (compareOp .Lt) (onD ltD) := om_of fun pins s σ H x y v u Q F m st a b c I rx ry ra rb rl e q => by
  cases a <;> cases b <;> first | (cases e; done) | skip
  have e1 := dq_int ra; have e2 := dq_int rb; subst e1 e2
  cases Option.some.inj e
  exact op_lt pins s σ H _ _ v u Q I rx ry ⟨_, _, rfl, rfl, rM_ok q rl (.bl _)⟩
theorem om_le : OpM X (compareOp .LtE) (onD leD) := om_of fun pins s σ H x y v u Q F m st a b c I rx ry ra rb rl e q => by
  cases a <;> cases b <;> first | (cases e; done) | skip
  have e1 := dq_int ra; have e2 := dq_int rb; subst e1 e2
  cases Option.some.inj e
  exact op_le pins s σ H _ _ v u Q I rx ry ⟨_, _, rfl, rfl, rM_ok q rl (.bl _)⟩
theorem om_gt : OpM X (compareOp .Gt) (onD gtD) := om_of fun pins s σ H x y v u Q F m st a b c I rx ry ra rb rl e q => by
  cases a <;> cases b <;> first | (cases e; done) | skip
  have e1 := dq_int ra; have e2 := dq_int rb; subst e1 e2
  cases Option.some.inj e
  exact op_gt pins s σ H _ _ v u Q I rx ry ⟨_, _, rfl, rfl, rM_ok q rl (.bl _)⟩
theorem om_ge : OpM X (compareOp .GtE) (onD geD) := om_of fun pins s σ H x y v u Q F m st a b c I rx ry ra rb rl e q => by
  cases a <;> cases b <;> first | (cases e; done) | skip
  have e1 := dq_int ra; have e2 := dq_int rb; subst e1 e2
  cases Option.some.inj e
  exact op_ge pins s σ H _ _ v u Q I rx ry ⟨_, _, rfl, rfl, rM_ok q rl (.bl _)⟩
theorem isNone_ok {K : PySem.W.Frag} {F : Hp} {m : List Addr} {a : W} {v : V} (h : WR K F m a v) : decide (v = .non) = isNone a := by
  cases a with
  | r i => obtain ⟨p, _, rfl⟩ := h; rfl
  | d x =>
    have h : Dq K F v x := h
    cases h <;> rfl
theorem isB_cases {a b : W} {k : Bool} (h : isB a b = some k) : (b = .d .none ∧ k = isNone a) ∨ ∃ i j, a = .d (.bool i) ∧ b = .d (.bool j) ∧ k = decide (i = j) := by
  unfold isB at h
  split at h
  · exact .inl ⟨rfl, (Option.some.inj h).symm⟩
  · split at h
    · exact .inr ⟨_, _, rfl, rfl, (Option.some.inj h).symm⟩
    · cases h
  · cases h
theorem om_is : OpM X (compareOp .Is) pyIs := by
  intro pins s σ H x y v u Q I rx ry h
  obtain ⟨F, m, st, a, b, w, ra, rb, rl, e, q⟩ := h
  unfold pyIs at e
  cases z : isB a b with
  | none => rw [z] at e; cases e
  | some k =>
    rw [z] at e
    cases Option.some.inj e
    rcases isB_cases z with ⟨rfl, rfl⟩ | ⟨i, j, rfl, rfl, rfl⟩
    · have e2 := dq_none rb; subst e2
      exact op_isN pins s σ H _ _ v u Q I rx ry ⟨rfl, by rw [isNone_ok ra]; exact rM_ok q rl (.bl _)⟩
    · have e1 := dq_bool ra; have e2 := dq_bool rb; subst e1 e2
      exact op_isBl pins s σ H _ _ v u Q I rx ry ⟨_, _, rfl, rfl, rM_ok q rl (.bl _)⟩
theorem om_isnot : OpM X (compareOp .IsNot) pyIsNot := by
  intro pins s σ H x y v u Q I rx ry h
  obtain ⟨F, m, st, a, b, w, ra, rb, rl, e, q⟩ := h
  unfold pyIsNot at e
  cases z : isB a b with
  | none => rw [z] at e; cases e
  | some k =>
    rw [z] at e
    cases Option.some.inj e
    rcases isB_cases z with ⟨rfl, rfl⟩ | ⟨i, j, rfl, rfl, rfl⟩
    · have e2 := dq_none rb; subst e2
      exact op_notN pins s σ H _ _ v u Q I rx ry ⟨rfl, by rw [isNone_ok ra]; exact rM_ok q rl (.bl _)⟩
    · have e1 := dq_bool ra; have e2 := dq_bool rb; subst e1 e2
      exact op_notBl pins s σ H _ _ v u Q I rx ry ⟨_, _, rfl, rfl, rM_ok q rl (.bl _)⟩
end
end Ev
end
section
set_option Elab.async false
set_option linter.all false
set_option maxRecDepth 100000
set_option autoImplicit false
namespace Ev
open PySem PySem.Spec PyProof.Rows L2
section
variable {X : Cx}
theorem units65 {k : Nat} {A : Around} (r : Room k A) : A.units + 65 < cLine := by have := r.un; omega
theorem sgn_of {x : Str} {c : Nat} (e : x.cps.toList = [c]) : x = ⟨#[c]⟩ := by
  obtain ⟨a⟩ := x
  have e : a.toList = [c] := e
  exact congrArg Str.mk (by rw [← Array.toArray_toList (xs := a), e])
theorem inB_cases {a b : PyData} {k : Bool} (h : inB a b = some k) :
    (∃ c z, a = .str ⟨#[c]⟩ ∧ b = .str z ∧ k = decide (c ∈ z.cps.toList)) ∨ (∃ ds, b = .list ds ∧ SeqAt.shaped a = true ∧ SeqAt.shaped (.list ds) = true ∧ k = ds.any fun z => PyData.eqv z a) ∨
    ∃ ds, b = .tuple ds ∧ SeqAt.shaped a = true ∧ SeqAt.shaped (.tuple ds) = true ∧ k = ds.any fun z => PyData.eqv z a := by
  cases b with
  | str z =>
    cases a with
    | str x =>
      have h : (match x.cps.toList with | [c] => some (decide (c ∈ z.cps.toList)) | _ => none) = some k := h
      split at h
      · rename_i c e
        exact .inl ⟨c, z, by rw [sgn_of e], rfl, (Option.some.inj h).symm⟩
      · cases h
    | _ => cases h
  | list ds =>
    dsimp only [inB] at h
    split at h
    · rename_i hz
      exact .inr (.inl ⟨ds, rfl, hz.1, hz.2, (Option.some.inj h).symm⟩)
    · cases h
  | tuple ds =>
    dsimp only [inB] at h
    split at h
    · rename_i hz
      exact .inr (.inr ⟨ds, rfl, hz.1, hz.2, (Option.some.inj h).symm⟩)
    · cases h
  | _ => cases h
theorem om_in (hu : X.A.units + 65 < cLine) : OpM X (compareOp .In) (onD inD) := om_of fun pins s σ H x y v u Q F m st a b c I rx ry ra rb rl e q => by
  have e : (inB a b).map PyData.bool = some c := e
  cases z : inB a b with
  | none => rw [z] at e; cases e
  | some k =>
    rw [z] at e
    cases Option.some.inj e
    rcases inB_cases z with ⟨c, z, rfl, rfl, rfl⟩ | ⟨ds, rfl, h1, h2, rfl⟩ | ⟨ds, rfl, h1, h2, rfl⟩
    · have e1 := dq_str ra; have e2 := dq_str rb; subst e1 e2
      exact op_in_sign pins s σ H _ _ v u Q I rx ry ⟨_, _, rfl, rfl, rM_ok q rl (.bl _)⟩
    · exact op_inD hu pins s σ H _ _ v u Q I rx ry ⟨_, _, Dp.mono' rl.sub ra, Dp.mono' rl.sub rb, h1, h2, rM_ok q rl (.bl _)⟩
    · obtain ⟨as, r1⟩ := Dp.reads I a x v (Dp.mono' rl.sub ra) rx
      obtain ⟨bs, r2⟩ := Dp.reads I (.tuple ds) y u (Dp.mono' rl.sub rb) ry
      exact SeqAt.in_tuple_reads r2 r1 (SeqAt.canLay_of_shaped h2) (SeqAt.canLay_of_shaped h1) (room_in_shaped h1 hu) ⟨.bl _, H, I, rfl, rM_ok q rl (.bl _)⟩
theorem om_notin (hu : X.A.units + 65 < cLine) : OpM X (compareOp .NotIn) (onD notInD) := om_of fun pins s σ H x y v u Q F m st a b c I rx ry ra rb rl e q => by
  have e : (inB a b).map (fun k => PyData.bool (!k)) = some c := e
  cases z : inB a b with
  | none => rw [z] at e; cases e
  | some k =>
    rw [z] at e
    cases Option.some.inj e
    rcases inB_cases z with ⟨c, z, rfl, rfl, rfl⟩ | ⟨ds, rfl, h1, h2, rfl⟩ | ⟨ds, rfl, h1, h2, rfl⟩
    · have e1 := dq_str ra; have e2 := dq_str rb; subst e1 e2
      exact op_notIn_sign pins s σ H _ _ v u Q I rx ry ⟨_, _, rfl, rfl, rM_ok q rl (.bl _)⟩
    · exact op_notInD hu pins s σ H _ _ v u Q I rx ry ⟨_, _, Dp.mono' rl.sub ra, Dp.mono' rl.sub rb, h1, h2, rM_ok q rl (.bl _)⟩
    · obtain ⟨as, r1⟩ := Dp.reads I a x v (Dp.mono' rl.sub ra) rx
      obtain ⟨bs, r2⟩ := Dp.reads I (.tuple ds) y u (Dp.mono' rl.sub rb) ry
      exact SeqAt.notIn_tuple_reads r2 r1 (SeqAt.canLay_of_shaped h2) (SeqAt.canLay_of_shaped h1) (room_in_shaped h1 hu) ⟨.bl _, H, I, rfl, rM_ok q rl (.bl _)⟩
end

/-! ## truth, tests -/
def truD : PyData → Option Bool
  | .none => some false
  | .bool b => some b
  | .int i => some (i != 0)
  | .str x => if x.length ≤ sizeLine then some ((x.length : Int) != 0) else none
  | .list xs => some (!xs.isEmpty)
  | .tuple xs => some (!xs.isEmpty)
  | .dict _ => none
def truW (st : Sto) : W → Option Bool
  | .d x => truD x
  | .r i => (match st[i]? with
    | some (.lst ws) => some (!ws.isEmpty)
    | some (.dic kvs) => some (!kvs.isEmpty)
    | _ => none)
theorem DqAll.emp {K : PySem.W.Frag} {F : Hp} {vs : List V} {ds : List PyData} (h : DqAll K F vs ds) : vs.isEmpty = ds.isEmpty := by cases h <;> rfl
theorem Paired.emp {α β : Type} {R : α → β → Prop} {xs : List α} {ys : List β} (h : Paired R xs ys) : ys.isEmpty = xs.isEmpty := by cases h <;> rfl
theorem Rel.at {K : PySem.W.Frag} {F : Hp} {m : List Addr} {st : Sto} {H : Hp} (rl : Rel K F m st H) {i : Nat} {v : V} (h : WR K F m (.r i) v) {so : SO} (hs : st[i]? = some so) : ∃ a, v = .ref a ∧ m[i]? = some a ∧ SR K F m H a so := by
  obtain ⟨a, h1, rfl⟩ := h
  exact ⟨a, rfl, h1, rl.obj i a so h1 hs⟩
theorem tru_w {K : PySem.W.Frag} {F : Hp} {m : List Addr} {st : Sto} {H : Hp} (rl : Rel K F m st H) {w : W} {v : V} (h : WR K F m w v) {k : Bool} (e : truW st w = some k) : TruV K v H k := by
  cases w with
  | r i =>
    dsimp only [truW] at e
    split at e
    · rename_i ws hs
      obtain ⟨a, rfl, h1, vs, h2, h3⟩ := rl.at h hs
      exact .inl ⟨vs, SqL.of h2, by rw [← Option.some.inj e, Ev.Paired.emp h3]⟩
    · rename_i kvs hs
      obtain ⟨a, rfl, h1, ps, h2, h3⟩ := rl.at h hs
      exact .inr (.inr ⟨ps, h2, by rw [← Option.some.inj e, Ev.Paired.emp h3]⟩)
    · cases e
  | d x =>
    cases x with
    | none => rw [dq_none h]; exact (Option.some.inj e).symm
    | bool b => rw [dq_bool h]; exact (Option.some.inj e).symm
    | int i => rw [dq_int h]; exact (Option.some.inj e).symm
    | str y =>
      rw [dq_str h]
      dsimp only [truW, truD] at e
      split at e
      · rename_i hz; exact ⟨hz, (Option.some.inj e).symm⟩
      · cases e
    | list xs =>
      obtain ⟨a, ys, rfl, h1, t⟩ := dq_lst h
      exact .inl ⟨ys, SqL.of (rl.sub _ _ h1), by rw [← Option.some.inj e, t.emp]⟩
    | tuple xs =>
      obtain ⟨a, ys, rfl, h1, t⟩ := dq_tup h
      exact .inr (.inl ⟨ys, seqT_mono rl.sub h1, by rw [← Option.some.inj e, t.emp]⟩)
    | dict _ => cases e
section
variable {X : Cx} {Wx : WX} {e a b c : Expr} {pos : Pos} {f fa fb fc : Env → M W} {g ga gb : Env → M Bool}
def tst (f : Env → M W) : Env → M Bool := fun ρ => bnd (f ρ) fun w => liftO fun st => truW st w
theorem sb_val (h : SE X Wx e f) (he : ∀ whole, isTrue e X.env whole = (do let v ← whole; standAt e.pos; holding [v] (truthy v)) := by intro _; rfl) : SB X Wx e (tst f) :=
  PT.imp (pt_truth h he) fun σ H Q hh => by
    obtain ⟨F, m, st, ρ, er, rl, hh⟩ := hh
    refine ⟨F, m, st, ρ, er, rl, After.mono (Same.refl F) (List.prefix_refl m) hh.bnd fun w F1 m1 H1 s1 p1 ⟨st1, _, _, rl1, h1⟩ v r1 => ?_⟩
    obtain ⟨k, e, q⟩ := h1.liftO
    exact ⟨k, tru_w rl1 r1 e, q F1 m1 H1 (Same.refl _) (List.prefix_refl _) rl1⟩
def toB (f : Env → M W) : Env → M Bool := fun ρ => bnd (f ρ) fun w => liftO fun _ => match w with
  | .d (.bool k) => some k
  | _ => none
theorem tM_toB {σ : L2.St} {H : Hp} {Q : Bool → Hp → Prop} (hh : tB X Wx (toB f) σ H Q) : tM X Wx f σ H fun x H1 => ∃ k, x = .bl k ∧ Q k H1 := by
  obtain ⟨F, m, st, ρ, er, rl, hh⟩ := hh
  refine ⟨F, m, st, ρ, er, rl, After.mono (Same.refl F) (List.prefix_refl m) hh.bnd fun w F1 m1 H1 s1 p1 ⟨st1, _, _, rl1, h1⟩ v r1 => ?_⟩
  obtain ⟨k, e, q⟩ := h1.liftO
  split at e
  · cases Option.some.inj e
    exact ⟨_, dq_bool r1, q F1 m1 H1 (Same.refl _) (List.prefix_refl _) rl1⟩
  · cases e
theorem sb_cmp {o : CmpOp} {op : Sto → W → W → Option W} (ho : OpM X (compareOp o) op) (ha : SE X Wx a fa) (hb : SE X Wx b fb) (hm : behindInMarks o b = false) :
    SB X Wx (.Compare a [o] [b] pos) (toB (bin op fa fb)) :=
  PT.imp (pt_cmpR ho ha hb hm) fun σ H Q h => by
    have h2 := tM_toB h
    exact tM_op (fun _ _ _ _ q => q) h2
/-- a op b op' c -/
def chain (op op' : Sto → W → W → Option W) (fa fb fc : Env → M W) : Env → M W := fun ρ => bnd (fa ρ) fun x => bnd (fb ρ) fun y => bnd (liftO fun st => op st x y) fun z => match z with
  | .d (.bool true) => bnd (fc ρ) fun w => liftO fun st => op' st y w
  | .d (.bool false) => ret (.d (.bool false))
  | _ => bad
theorem tM_chain {op op' : Sto → W → W → Option W} {σ : L2.St} {H : Hp} {Q : VK} (h : tM X Wx (chain op op' fa fb fc) σ H Q) :
    tChain (rM X op) (rM X op') (tM X Wx fa) (tM X Wx fb) (tM X Wx fc) σ H Q := by
  obtain ⟨F, m, st, ρ, er, rl, h⟩ := h
  refine ⟨F, m, st, ρ, er, rl, After.mono (Same.refl F) (List.prefix_refl m) h.bnd fun x F1 m1 H1 s1 p1 ⟨st1, _, _, rl1, h1⟩ v r1 => ?_⟩
  refine ⟨F1, m1, st1, ρ, er.mono s1 p1, rl1, After.mono (Same.refl F1) (List.prefix_refl m1) h1.bnd fun y F2 m2 H2 s2 p2 ⟨st2, _, _, rl2, h2⟩ u r2 => ?_⟩
  have h3 := h2.bnd
  obtain ⟨w, e, q⟩ := h3.liftO
  refine ⟨F2, m2, st2, x, y, w, r1.mono s2 p2, r2, rl2, e, fun F3 m3 H3 z s3 p3 rl3 rz => ?_⟩
  obtain ⟨st4, _, _, rl4, h4⟩ := q F3 m3 H3 s3 p3 rl3
  split at h4
  · refine ⟨true, dq_bool rz, ?_⟩
    rw [if_pos rfl]
    refine ⟨F3, m3, st4, ρ, (er.mono s1 p1).mono (s2.trans s3) (pre_trans p2 p3), rl4, After.mono (Same.refl F3) (List.prefix_refl m3) h4.bnd fun w' F5 m5 H5 s5 p5 ⟨st5, _, _, rl5, h5⟩ t r5 => ?_⟩
    obtain ⟨w2, e2, q2⟩ := h5.liftO
    exact ⟨F5, m5, st5, y, w', w2, r2.mono (s3.trans s5) (pre_trans p3 p5), r5, rl5, e2, fun F6 m6 H6 v6 s6 p6 r6 hv => q2 F6 m6 H6 s6 p6 r6 v6 hv⟩
  · refine ⟨false, dq_bool rz, ?_⟩
    rw [if_neg Bool.false_ne_true]
    exact h4.here rl4 _ (.bl _)
  · exact h4.elim
theorem se_chain {o o' : CmpOp} {op op' : Sto → W → W → Option W} (ho : OpM X (compareOp o) op) (ho' : OpM X (compareOp o') op') (ha : SE X Wx a fa) (hb : SE X Wx b fb) (hc : SE X Wx c fc)
    (hm : lastMarks [o, o'] [b, c] = false := by with_unfolding_all rfl) : SE X Wx (.Compare a [o, o'] [b, c] pos) (chain op op' fa fb fc) :=
  PE.imp (pe_chain ho ho' ha hb hc hm) fun _ _ _ h => tM_chain h
theorem sb_chain {o o' : CmpOp} {op op' : Sto → W → W → Option W} (ho : OpM X (compareOp o) op) (ho' : OpM X (compareOp o') op') (ha : SE X Wx a fa) (hb : SE X Wx b fb) (hc : SE X Wx c fc)
    (hm : lastMarks [o, o'] [b, c] = false := by with_unfolding_all rfl) : SB X Wx (.Compare a [o, o'] [b, c] pos) (toB (chain op op' fa fb fc)) :=
  PT.imp (pt_chain ho ho' ha hb hc hm) fun _ _ _ h => tM_chain (tM_toB h)
/-- tests joined -/
abbrev SW (X : Cx) (Wx : WX) (e : Expr) (f : Env → M Bool) : Prop := PW X e (tB X Wx f)
theorem PW.imp {X : Cx} {e : Expr} {t t' : TT} (h : PW X e t) (k : ∀ σ H Q, t' σ H Q → t σ H Q) : PW X e t' := ⟨fun wh pins s σ H Q I q => h.run wh pins s σ H Q I (k σ H Q q)⟩
def andB (ga gb : Env → M Bool) : Env → M Bool := fun ρ => bnd (ga ρ) fun k => if k = true then gb ρ else ret false
def orB (ga gb : Env → M Bool) : Env → M Bool := fun ρ => bnd (ga ρ) fun k => if k = true then ret true else gb ρ
def notB (ga : Env → M Bool) : Env → M Bool := fun ρ => bnd (ga ρ) fun k => ret (!k)
theorem sw_and1 (ha : SB X Wx a ga) : SW X Wx (.BoolOp .And [a] pos) ga := pw_and1 ha
theorem sw_or1 (ha : SB X Wx a ga) : SW X Wx (.BoolOp .Or [a] pos) ga := pw_or1 ha
theorem sw_and {rest : List Expr} (ha : SB X Wx a ga) (hb : SW X Wx (.BoolOp .And (b :: rest) pos) gb) : SW X Wx (.BoolOp .And (a :: b :: rest) pos) (andB ga gb) :=
  PW.imp (pw_and ha hb) fun σ H Q h => by
    obtain ⟨F, m, st, ρ, er, rl, h⟩ := h
    refine ⟨F, m, st, ρ, er, rl, After.mono (Same.refl F) (List.prefix_refl m) h.bnd fun k F1 m1 H1 s1 p1 ⟨st1, _, _, rl1, h1⟩ => ?_⟩
    cases k with
    | true => rw [if_pos rfl] at h1 ⊢; exact ⟨F1, m1, st1, ρ, er.mono s1 p1, rl1, h1⟩
    | false => rw [if_neg Bool.false_ne_true] at h1 ⊢; exact h1.here rl1
theorem sw_or {rest : List Expr} (ha : SB X Wx a ga) (hb : SW X Wx (.BoolOp .Or (b :: rest) pos) gb) : SW X Wx (.BoolOp .Or (a :: b :: rest) pos) (orB ga gb) :=
  PW.imp (pw_or ha hb) fun σ H Q h => by
    obtain ⟨F, m, st, ρ, er, rl, h⟩ := h
    refine ⟨F, m, st, ρ, er, rl, After.mono (Same.refl F) (List.prefix_refl m) h.bnd fun k F1 m1 H1 s1 p1 ⟨st1, _, _, rl1, h1⟩ => ?_⟩
    cases k with
    | true => rw [if_pos rfl] at h1 ⊢; exact h1.here rl1
    | false => rw [if_neg Bool.false_ne_true] at h1 ⊢; exact ⟨F1, m1, st1, ρ, er.mono s1 p1, rl1, h1⟩
theorem sb_not (ha : SB X Wx a ga) : SB X Wx (.UnaryOp .Not a pos) (notB ga) :=
  PT.imp (pt_not ha) fun σ H Q h => by
    obtain ⟨F, m, st, ρ, er, rl, h⟩ := h
    exact ⟨F, m, st, ρ, er, rl, After.mono (Same.refl F) (List.prefix_refl m) h.bnd fun k F1 m1 H1 s1 p1 ⟨st1, _, _, rl1, h1⟩ => h1.here rl1⟩
/-- as values -/
def andW (fa fb : Env → M W) : Env → M W := fun ρ => bnd (fa ρ) fun x => bnd (liftO fun st => truW st x) fun k => if k = true then fb ρ else ret x
def orW (fa fb : Env → M W) : Env → M W := fun ρ => bnd (fa ρ) fun x => bnd (liftO fun st => truW st x) fun k => if k = true then ret x else fb ρ
def notW (fa : Env → M W) : Env → M W := fun ρ => bnd (fa ρ) fun x => bnd (liftO fun st => truW st x) fun k => ret (.d (.bool (!k)))
theorem se_one {o : BoolOp} (h : SE X Wx a fa) : SE X Wx (.BoolOp o [a] pos) fa := pe_one h
theorem se_and {rest : List Expr} (ha : SE X Wx a fa) (hb : SE X Wx (.BoolOp .And (b :: rest) pos) fb) : SE X Wx (.BoolOp .And (a :: b :: rest) pos) (andW fa fb) :=
  PE.imp (pe_andT ha hb) fun σ H Q h => by
    obtain ⟨F, m, st, ρ, er, rl, h⟩ := h
    refine ⟨F, m, st, ρ, er, rl, After.mono (Same.refl F) (List.prefix_refl m) h.bnd fun x F1 m1 H1 s1 p1 ⟨st1, _, _, rl1, h1⟩ v r1 => ?_⟩
    obtain ⟨k, e, q⟩ := h1.bnd.liftO
    obtain ⟨st2, _, _, rl2, h2⟩ := q F1 m1 H1 (Same.refl _) (List.prefix_refl _) rl1
    refine ⟨k, tru_w rl1 r1 e, ?_⟩
    cases k with
    | true => rw [if_pos rfl] at h2 ⊢; exact ⟨F1, m1, st2, ρ, er.mono s1 p1, rl2, h2⟩
    | false => rw [if_neg Bool.false_ne_true] at h2 ⊢; exact h2.here rl2 v r1
theorem se_or {rest : List Expr} (ha : SE X Wx a fa) (hb : SE X Wx (.BoolOp .Or (b :: rest) pos) fb) : SE X Wx (.BoolOp .Or (a :: b :: rest) pos) (orW fa fb) :=
  PE.imp (pe_orT ha hb) fun σ H Q h => by
    obtain ⟨F, m, st, ρ, er, rl, h⟩ := h
    refine ⟨F, m, st, ρ, er, rl, After.mono (Same.refl F) (List.prefix_refl m) h.bnd fun x F1 m1 H1 s1 p1 ⟨st1, _, _, rl1, h1⟩ v r1 => ?_⟩
    obtain ⟨k, e, q⟩ := h1.bnd.liftO
    obtain ⟨st2, _, _, rl2, h2⟩ := q F1 m1 H1 (Same.refl _) (List.prefix_refl _) rl1
    refine ⟨k, tru_w rl1 r1 e, ?_⟩
    cases k with
    | true => rw [if_pos rfl] at h2 ⊢; exact h2.here rl2 v r1
    | false => rw [if_neg Bool.false_ne_true] at h2 ⊢; exact ⟨F1, m1, st2, ρ, er.mono s1 p1, rl2, h2⟩
theorem se_not (ha : SE X Wx a fa) : SE X Wx (.UnaryOp .Not a pos) (notW fa) :=
  PE.imp (pe_notT ha) fun σ H Q h => by
    obtain ⟨F, m, st, ρ, er, rl, h⟩ := h
    refine ⟨F, m, st, ρ, er, rl, After.mono (Same.refl F) (List.prefix_refl m) h.bnd fun x F1 m1 H1 s1 p1 ⟨st1, _, _, rl1, h1⟩ v r1 => ?_⟩
    obtain ⟨k, e, q⟩ := h1.bnd.liftO
    obtain ⟨st2, _, _, rl2, h2⟩ := q F1 m1 H1 (Same.refl _) (List.prefix_refl _) rl1
    exact ⟨k, tru_w rl1 r1 e, h2.here rl2 _ (.bl _)⟩
def ifW (g : Env → M Bool) (fa fb : Env → M W) : Env → M W := fun ρ => bnd (g ρ) fun k => if k = true then fa ρ else fb ρ
theorem se_if (hc : SB X Wx c g) (ha : SE X Wx a fa) (hb : SE X Wx b fb) : SE X Wx (.IfExp c a b pos) (ifW g fa fb) :=
  PE.imp (pe_ifExp hc ha hb) fun σ H Q h => by
    obtain ⟨F, m, st, ρ, er, rl, h⟩ := h
    refine ⟨F, m, st, ρ, er, rl, After.mono (Same.refl F) (List.prefix_refl m) h.bnd fun k F1 m1 H1 s1 p1 ⟨st1, _, _, rl1, h1⟩ => ?_⟩
    cases k with
    | true => rw [if_pos rfl] at h1 ⊢; exact ⟨F1, m1, st1, ρ, er.mono s1 p1, rl1, h1⟩
    | false => rw [if_neg Bool.false_ne_true] at h1 ⊢; exact ⟨F1, m1, st1, ρ, er.mono s1 p1, rl1, h1⟩
/-- -a -/
def negW (fa : Env → M W) : Env → M W := fun ρ => bnd (fa ρ) fun x => liftO fun _ => match x with
  | .d (.int i) => some (.d (.int (-i)))
  | _ => none
theorem se_neg (ha : SE X Wx a fa) : SE X Wx (.UnaryOp .USub a pos) (negW fa) :=
  PE.imp (pe_un un_neg ha) fun σ H Q h => by
    obtain ⟨F, m, st, ρ, er, rl, h⟩ := h
    refine ⟨F, m, st, ρ, er, rl, After.mono (Same.refl F) (List.prefix_refl m) h.bnd fun x F1 m1 H1 s1 p1 ⟨st1, _, _, rl1, h1⟩ v r1 => ?_⟩
    obtain ⟨w, e, q⟩ := h1.liftO
    split at e
    · cases Option.some.inj e
      exact ⟨_, dq_int r1, q F1 m1 H1 (Same.refl _) (List.prefix_refl _) rl1 _ (.int _)⟩
    · cases e

/-! ## argument lists, displays -/
theorem sa_nil : SA X Wx [] (fun _ => ret []) := PA.imp pa_nil fun σ H Q h => by
  obtain ⟨F, m, st, ρ, er, rl, h⟩ := h
  exact h.here rl [] .nil
def consA (f : Env → M W) (g : Env → M (List W)) : Env → M (List W) := fun ρ => bnd (f ρ) fun x => bnd (g ρ) fun xs => ret (x :: xs)
theorem sa_cons {es : List Expr} {fs : Env → M (List W)} (ha : SE X Wx e f) (hr : SA X Wx es fs) (hs : starEach (e :: es) X.env = (false, eval e X.env) :: starEach es X.env := by rfl) : SA X Wx (e :: es) (consA f fs) :=
  PA.imp (pa_cons ha hr hs) fun σ H Q h => by
    obtain ⟨F, m, st, ρ, er, rl, h⟩ := h
    refine ⟨F, m, st, ρ, er, rl, After.mono (Same.refl F) (List.prefix_refl m) h.bnd fun x F1 m1 H1 s1 p1 ⟨st1, _, _, rl1, h1⟩ v r1 => ?_⟩
    refine ⟨F1, m1, st1, ρ, er.mono s1 p1, rl1, After.mono (Same.refl F1) (List.prefix_refl m1) h1.bnd fun xs F2 m2 H2 s2 p2 ⟨st2, _, _, rl2, h2⟩ vs r2 => ?_⟩
    exact h2.here rl2 _ (.cons (r1.mono s2 p2) r2)
def allD : List W → Option (List PyData)
  | [] => some []
  | .d x :: r => (allD r).map (x :: ·)
  | .r _ :: _ => none
theorem allD_ok {K : PySem.W.Frag} {F : Hp} {m : List Addr} : ∀ {ws : List W} {vs : List V} {ds : List PyData}, WRs K F m ws vs → allD ws = some ds → DqAll K F vs ds
  | [], _, _, .nil, e => by cases Option.some.inj e; exact .nil
  | .d x :: r, _, ds, .cons h t, e => by
    have e : (allD r).map (x :: ·) = some ds := e
    cases z : allD r with
    | none => rw [z] at e; cases e
    | some es =>
      rw [z] at e
      cases Option.some.inj e
      exact .cons h (allD_ok t z)
  | .r i :: r, _, ds, .cons h t, e => nomatch e
theorem allD_len : ∀ {ws : List W} {ds : List PyData}, allD ws = some ds → ws.length = ds.length
  | [], _, e => by cases Option.some.inj e; rfl
  | .d x :: r, ds, e => by
    have e : (allD r).map (x :: ·) = some ds := e
    cases z : allD r with
    | none => rw [z] at e; cases e
    | some es =>
      rw [z] at e
      cases Option.some.inj e
      exact congrArg (· + 1) (allD_len z)
  | .r i :: r, ds, e => nomatch e
def mkTup (g : Env → M (List W)) : Env → M W := fun ρ => bnd (g ρ) fun ws => liftO fun _ => (allD ws).bind fun ds => if ds.length ≤ sizeLine then some (.d (.tuple ds)) else none
def mkLst (g : Env → M (List W)) : Env → M W := fun ρ => bnd (g ρ) fun ws => liftO fun _ => (allD ws).bind fun ds => if ds.length ≤ sizeLine then some (.d (.list ds)) else none
theorem se_tup {es : List Expr} {fs : Env → M (List W)} {k : Nat} (h : SA X Wx es fs) : SE X Wx (.Tuple es k pos) (mkTup fs) :=
  PE.imp (pe_tup h) fun σ H Q h => by
    obtain ⟨F, m, st, ρ, er, rl, h⟩ := h
    refine ⟨F, m, st, ρ, er, rl, After.mono (Same.refl F) (List.prefix_refl m) h.bnd fun ws F1 m1 H1 s1 p1 ⟨st1, _, _, rl1, h1⟩ vs r1 => ?_⟩
    obtain ⟨w, e, q⟩ := h1.liftO
    cases z : allD ws with
    | none => rw [z] at e; cases e
    | some ds =>
      rw [z] at e
      have e : (if ds.length ≤ sizeLine then some (W.d (.tuple ds)) else none) = some w := e
      have t := allD_ok r1 z
      split at e
      · rename_i hz
        cases Option.some.inj e
        exact ⟨by rw [t.length]; exact hz, fun p hp => rM_tup (fun F' m' H' v s p r hv => q F' m' H' s p r v hv) rl1 hp t⟩
      · cases e
theorem se_lst {es : List Expr} {fs : Env → M (List W)} (h : SA X Wx es fs) : SE X Wx (.List es pos) (mkLst fs) :=
  PE.imp (pe_lst h) fun σ H Q h => by
    obtain ⟨F, m, st, ρ, er, rl, h⟩ := h
    refine ⟨F, m, st, ρ, er, rl, After.mono (Same.refl F) (List.prefix_refl m) h.bnd fun ws F1 m1 H1 s1 p1 ⟨st1, _, _, rl1, h1⟩ vs r1 => ?_⟩
    obtain ⟨w, e, q⟩ := h1.liftO
    cases z : allD ws with
    | none => rw [z] at e; cases e
    | some ds =>
      rw [z] at e
      have e : (if ds.length ≤ sizeLine then some (W.d (.list ds)) else none) = some w := e
      have t := allD_ok r1 z
      split at e
      · rename_i hz
        cases Option.some.inj e
        exact ⟨by rw [t.length]; exact hz, fun p hp => rM_lst (fun F' m' H' v s p r hv => q F' m' H' s p r v hv) rl1 hp t⟩
      · cases e
end
end Ev
end
section
set_option Elab.async false
set_option linter.all false
set_option maxRecDepth 100000
set_option autoImplicit false
namespace Ev
open PySem PySem.Spec PyProof.Rows L2
/-! ## calls of built-ins -/
def rCM (X : Cx) (op : Sto → List W → Option W) : List V → Hp → VK → Prop := fun vs H Q => ∃ F m st ws w, WRs X.K F m ws vs ∧ Rel X.K F m st H ∧ op st ws = some w ∧ QV X.K F m st Q w
def CallM (X : Cx) (f : Value) (op : Sto → List W → Option W) : Prop := CallR X f (rCM X op)
section
variable {X : Cx} {Wx : WX} {e a b c : Expr} {es : List Expr} {p pos : Pos} {x : Str} {id T : String} {f fa fb fc : Env → M W} {fs : Env → M (List W)} {op : Sto → List W → Option W}
def callF (op : Sto → List W → Option W) (fs : Env → M (List W)) : Env → M W := fun ρ => bnd (fs ρ) fun ws => liftO fun st => op st ws
theorem tM_call {σ : L2.St} {H : Hp} {Q : VK} (h : tM X Wx (callF op fs) σ H Q) : tA X Wx fs σ H fun vs H1 => rCM X op vs H1 Q := by
  obtain ⟨F, m, st, ρ, er, rl, h⟩ := h
  refine ⟨F, m, st, ρ, er, rl, After.mono (Same.refl F) (List.prefix_refl m) h.bnd fun ws F1 m1 H1 s1 p1 ⟨st1, _, _, rl1, h1⟩ vs r1 => ?_⟩
  obtain ⟨w, e, q⟩ := h1.liftO
  exact ⟨F1, m1, st1, ws, w, r1, rl1, e, fun F' m' H' v s p r hv => q F' m' H' s p r v hv⟩
theorem se_callB (hc : CallM X (.builtin id) op) (hg : Gl X x) (hm : X.mg x = none) (hv : bootBuiltins x = some (.builtin id)) (ha : SA X Wx (e :: es) fs) (hn : x ≠ "__name__" := by decide) (hdb : (x == ("__debug__" : Str)) = false := by decide)
    (he : starEach (e :: es) X.env = (false, eval e X.env) :: starEach es X.env := by rfl) (hpl : (backTo pos (starEach es X.env)).any (·.1) = false := by rfl) : SE X Wx (.Call (.Name x p) (e :: es) [] pos) (callF op fs) :=
  PE.imp (pe_callB hc hg hm hv ha hn hdb he hpl) fun _ _ _ h => tM_call h
theorem se_callTy (hc : CallM X (.type T) op) (hg : Gl X x) (hm : X.mg x = none) (hv : bootBuiltins x = some (.type T)) (ha : SA X Wx (e :: es) fs) (hn : x ≠ "__name__" := by decide) (hdb : (x == ("__debug__" : Str)) = false := by decide)
    (he : starEach (e :: es) X.env = (false, eval e X.env) :: starEach es X.env := by rfl) (hpl : (backTo pos (starEach es X.env)).any (·.1) = false := by rfl) : SE X Wx (.Call (.Name x p) (e :: es) [] pos) (callF op fs) :=
  PE.imp (pe_callTy hc hg hm hv ha hn hdb he hpl) fun _ _ _ h => tM_call h
end

theorem wrs1 {K : PySem.W.Frag} {F : Hp} {m : List Addr} {w : W} {vs : List V} (h : WRs K F m [w] vs) : ∃ v, vs = [v] ∧ WR K F m w v := by
  cases h with | cons a t => cases t; exact ⟨_, rfl, a⟩
theorem wrs2 {K : PySem.W.Frag} {F : Hp} {m : List Addr} {w w' : W} {vs : List V} (h : WRs K F m [w, w'] vs) : ∃ v v', vs = [v, v'] ∧ WR K F m w v ∧ WR K F m w' v' := by
  cases h with | cons a t => obtain ⟨v', rfl, b⟩ := wrs1 t; exact ⟨_, _, rfl, a, b⟩
/-- one argument -/
def on1 (f : Sto → W → Option W) : Sto → List W → Option W
  | st, [w] => f st w
  | _, _ => none
section
variable {X : Cx}
theorem cm_of {g : Value} {f : Sto → W → Option W} (h : ∀ (pins : List (Addr × Obj)) (s : Shared) (σ : L2.St) (H : Hp) (v : V) (us : List Value) (Q : VK) (F : Hp) (m : List Addr) (st : Sto) (w w' : W), Inv X pins σ H s → Vals [v] us → WR X.K F m w v → Rel X.K F m st H →
    f st w = some w' → QV X.K F m st Q w' → wpAny (model X.prog X.w) X.A (call g us) (EP X pins σ Q) X.xe s) : CallM X g (on1 f) := by
  intro pins s σ H vs us Q I r hh
  obtain ⟨F, m, st, ws, w, rv, rl, e, q⟩ := hh
  match ws, rv, e with
  | [w0], rv, e =>
    obtain ⟨v, rfl, r1⟩ := wrs1 rv
    exact h pins s σ H v us Q F m st w0 w I r r1 rl e q
  | [], rv, e => cases e
  | _ :: _ :: _, rv, e => cases e
def lenW (st : Sto) : W → Option W
  | .d (.str x) => if x.length ≤ sizeLine then some (.d (.int x.length)) else none
  | .d (.list xs) => some (.d (.int xs.length))
  | .d (.tuple xs) => some (.d (.int xs.length))
  | .r i => (match st[i]? with
    | some (.lst ws) => some (.d (.int ws.length))
    | _ => none)
  | _ => none
theorem cm_len : CallM X (.builtin "len") (on1 lenW) := cm_of fun pins s σ H v us Q F m st w w' I r hw rl e q => by
  cases w with
  | r i =>
    dsimp only [lenW] at e
    split at e
    · rename_i ws hs
      obtain ⟨a, rfl, h1, vs, h2, h3⟩ := rl.at hw hs
      cases Option.some.inj e
      exact call_len pins s σ H _ us Q I r ⟨_, _, rfl, .inl ⟨vs, SqL.of h2, by rw [PySem.Paired.length h3]⟩, rM_ok q rl (.int _)⟩
    · cases e
  | d x =>
    cases x <;> first | (cases e; done) | skip
    · rw [dq_str hw] at r
      dsimp only [lenW] at e
      split at e
      · rename_i hz
        cases Option.some.inj e
        exact call_len_str pins s σ H _ us Q I r ⟨_, rfl, hz, rM_ok q rl (.int _)⟩
      · cases e
    · obtain ⟨a, vs, rfl, h1, t⟩ := dq_lst hw
      cases Option.some.inj e
      exact call_len pins s σ H _ us Q I r ⟨_, _, rfl, .inl ⟨vs, SqL.of (rl.sub _ _ h1), by rw [t.length]⟩, rM_ok q rl (.int _)⟩
    · obtain ⟨a, vs, rfl, h1, t⟩ := dq_tup hw
      cases Option.some.inj e
      exact call_len pins s σ H _ us Q I r ⟨_, _, rfl, .inr ⟨vs, seqT_mono rl.sub h1, by rw [t.length]⟩, rM_ok q rl (.int _)⟩
def absW (_ : Sto) : W → Option W
  | .d (.int i) => some (.d (.int (if i < 0 then -i else i)))
  | _ => none
theorem cm_abs : CallM X (.builtin "abs") (on1 absW) := cm_of fun pins s σ H v us Q F m st w w' I r hw rl e q => by
  cases w with
  | r i => cases e
  | d x =>
    cases x <;> first | (cases e; done) | skip
    rw [dq_int hw] at r
    cases Option.some.inj e
    exact call_abs pins s σ H _ us Q I r ⟨_, rfl, rM_ok q rl (.int _)⟩
def intW (_ : Sto) : W → Option W
  | .d (.int i) => some (.d (.int i))
  | .d (.bool k) => some (.d (.int (if k then 1 else 0)))
  | _ => none
theorem cm_int : CallM X (.type "int") (on1 intW) := cm_of fun pins s σ H v us Q F m st w w' I r hw rl e q => by
  cases w with
  | r i => cases e
  | d x =>
    cases x <;> first | (cases e; done) | skip
    · rw [dq_bool hw] at r
      cases Option.some.inj e
      exact call_int1 pins s σ H _ us Q I r (.inr ⟨_, rfl, rM_ok q rl (.int _)⟩)
    · rw [dq_int hw] at r
      cases Option.some.inj e
      exact call_int1 pins s σ H _ us Q I r (.inl ⟨_, rfl, rM_ok q rl (.int _)⟩)
def strIW (_ : Sto) : W → Option W
  | .d (.int i) => if i.natAbs.log2 < 1920 then some (.d (.str (toString i))) else none
  | .d (.str z) => some (.d (.str z))
  | _ => none
theorem cm_strI : CallM X (.type "str") (on1 strIW) := cm_of fun pins s σ H v us Q F m st w w' I r hw rl e q => by
  cases w with
  | r i => cases e
  | d x =>
    cases x <;> first | (cases e; done) | skip
    · rw [dq_int hw] at r
      dsimp only [strIW] at e
      split at e
      · rename_i hz
        cases Option.some.inj e
        exact call_str_int pins s σ H _ us Q I r ⟨_, rfl, hz, rM_ok q rl (.str _)⟩
      · cases e
    · rw [dq_str hw] at r
      cases Option.some.inj e
      exact SkE.call_str_str pins s σ H _ us Q I r ⟨_, rfl, rM_ok q rl (.str _)⟩
/-- a list of bools -/
def boolsD : List PyData → Option (List Bool)
  | [] => some []
  | .bool b :: r => (boolsD r).map (b :: ·)
  | _ :: _ => none
theorem boolsD_ok {K : PySem.W.Frag} {F : Hp} : ∀ {ds : List PyData} {vs : List V} {bs : List Bool}, DqAll K F vs ds → boolsD ds = some bs → vs = bs.map V.bl
  | [], _, _, .nil, e => by cases Option.some.inj e; rfl
  | .bool b :: r, _, bs, .cons h t, e => by
    have e : (boolsD r).map (b :: ·) = some bs := e
    cases z : boolsD r with
    | none => rw [z] at e; cases e
    | some cs =>
      rw [z] at e
      cases Option.some.inj e
      rw [boolsD_ok t z]
      cases h; rfl
  | .none :: _, _, _, _, e => nomatch e
  | .int _ :: _, _, _, _, e => nomatch e
  | .str _ :: _, _, _, _, e => nomatch e
  | .list _ :: _, _, _, _, e => nomatch e
  | .tuple _ :: _, _, _, _, e => nomatch e
  | .dict _ :: _, _, _, _, e => nomatch e
def allW (_ : Sto) : W → Option W
  | .d (.list xs) => (boolsD xs).map fun bs => .d (.bool (bs.all id))
  | _ => none
def anyW (_ : Sto) : W → Option W
  | .d (.list xs) => (boolsD xs).map fun bs => .d (.bool (bs.any id))
  | _ => none
theorem cm_all (hc : X.calm = true) : CallM X (.builtin "all") (on1 allW) := cm_of fun pins s σ H v us Q F m st w w' I r hw rl e q => by
  cases w with
  | r i => cases e
  | d x =>
    cases x <;> first | (cases e; done) | skip
    rename_i xs
    obtain ⟨a, vs, rfl, h1, t⟩ := dq_lst hw
    have e : (boolsD xs).map (fun bs => W.d (.bool (bs.all id))) = some w' := e
    cases z : boolsD xs with
    | none => rw [z] at e; cases e
    | some bs =>
      rw [z] at e
      cases Option.some.inj e
      have ev := boolsD_ok t z
      subst ev
      exact cr_all hc pins s σ H _ us Q I r ⟨_, bs, rfl, SqL.of (rl.sub _ _ h1), rM_ok q rl (.bl _)⟩
theorem cm_any (hc : X.calm = true) : CallM X (.builtin "any") (on1 anyW) := cm_of fun pins s σ H v us Q F m st w w' I r hw rl e q => by
  cases w with
  | r i => cases e
  | d x =>
    cases x <;> first | (cases e; done) | skip
    rename_i xs
    obtain ⟨a, vs, rfl, h1, t⟩ := dq_lst hw
    have e : (boolsD xs).map (fun bs => W.d (.bool (bs.any id))) = some w' := e
    cases z : boolsD xs with
    | none => rw [z] at e; cases e
    | some bs =>
      rw [z] at e
      cases Option.some.inj e
      have ev := boolsD_ok t z
      subst ev
      exact cr_any hc pins s σ H _ us Q I r ⟨_, bs, rfl, SqL.of (rl.sub _ _ h1), rM_ok q rl (.bl _)⟩
/-- tuple(x), list(x) of lists and tuples; of mutable lists too (a copy) -/
def seqW (st : Sto) : W → Option (List PyData)
  | .d (.list xs) => some xs
  | .d (.tuple xs) => some xs
  | .r i => (match st[i]? with
    | some (.lst ws) => allD ws
    | _ => none)
  | _ => none
def tupleW (st : Sto) (w : W) : Option W := (seqW st w).map fun xs => .d (.tuple xs)
def listW (st : Sto) (w : W) : Option W := (seqW st w).map fun xs => .d (.list xs)
theorem seqW_ok {K : PySem.W.Frag} {F : Hp} {m : List Addr} {st : Sto} {H : Hp} (rl : Rel K F m st H) {w : W} {v : V} (h : WR K F m w v) {ds : List PyData} (e : seqW st w = some ds) :
    ∃ a vs, v = .ref a ∧ DqAll K F vs ds ∧ (SqL K H a vs ∨ (SqT K H a vs ∧ w = .d (.tuple ds))) := by
  cases w with
  | r i =>
    dsimp only [seqW] at e
    split at e
    · rename_i ws hs
      obtain ⟨a, rfl, h1, vs, h2, h3⟩ := rl.at h hs
      exact ⟨a, vs, rfl, allD_ok h3 e, .inl (SqL.of h2)⟩
    · cases e
  | d x =>
    cases x <;> first | (cases e; done) | skip
    · obtain ⟨a, vs, rfl, h1, t⟩ := dq_lst h
      cases Option.some.inj e
      exact ⟨a, vs, rfl, t, .inl (SqL.of (rl.sub _ _ h1))⟩
    · obtain ⟨a, vs, rfl, h1, t⟩ := dq_tup h
      cases Option.some.inj e
      exact ⟨a, vs, rfl, t, .inr ⟨seqT_mono rl.sub h1, rfl⟩⟩
theorem cm_tuple : CallM X (.type "tuple") (on1 tupleW) := cm_of fun pins s σ H v us Q F m st w w' I r hw rl e q => by
  have e : (seqW st w).map (fun xs => W.d (.tuple xs)) = some w' := e
  cases z : seqW st w with
  | none => rw [z] at e; cases e
  | some ds =>
    rw [z] at e
    cases Option.some.inj e
    obtain ⟨a, vs, rfl, t, h⟩ := seqW_ok rl hw z
    refine call_tuple_of pins s σ H _ us Q I r ⟨a, vs, rfl, ?_⟩
    rcases h with h | ⟨h, rfl⟩
    · exact .inl ⟨h, fun l hl => rM_tup q rl hl t⟩
    · exact .inr ⟨h, rM_ok q rl hw⟩
theorem cm_list : CallM X (.type "list") (on1 listW) := cm_of fun pins s σ H v us Q F m st w w' I r hw rl e q => by
  have e : (seqW st w).map (fun xs => W.d (.list xs)) = some w' := e
  cases z : seqW st w with
  | none => rw [z] at e; cases e
  | some ds =>
    rw [z] at e
    cases Option.some.inj e
    obtain ⟨a, vs, rfl, t, h⟩ := seqW_ok rl hw z
    refine call_list_of pins s σ H _ us Q I r ⟨a, vs, rfl, ?_, fun l hl => rM_lst q rl hl t⟩
    rcases h with h | ⟨h, _⟩
    · exact .inl h
    · exact .inr h
end

/-! ## isinstance(e, T) -/
inductive Ty where | int | str | bool | tuple | list
def Ty.name : Ty → String
  | .int => "int" | .str => "str" | .bool => "bool" | .tuple => "tuple" | .list => "list"
def isTyD : Ty → PyData → Bool
  | .int, .int _ => true
  | .int, .bool _ => true
  | .bool, .bool _ => true
  | .str, .str _ => true
  | .tuple, .tuple _ => true
  | .list, .list _ => true
  | _, _ => false
def tyS : PyData → String
  | .none => "NoneType" | .bool _ => "bool" | .int _ => "int" | .str _ => "str" | .list _ => "list" | .tuple _ => "tuple" | .dict _ => "dict"
def isTyS : Ty → String → Bool
  | .int, n => n == "int" || n == "bool"
  | .bool, n => n == "bool"
  | .str, n => n == "str"
  | .tuple, n => n == "tuple"
  | .list, n => n == "list"
theorem kitN : ([Ty.int, .str, .bool, .tuple, .list].all fun T => (["NoneType", "bool", "int", "str", "list", "tuple", "dict"] : List String).all fun n => kitB n T.name == some (isTyS T n)) = true := by decide +kernel
theorem kitTy (T : Ty) (x : PyData) : kitB (tyS x) T.name = some (isTyD T x) := by
  have h1 := List.all_eq_true.mp kitN T (by cases T <;> simp)
  have h2 := List.all_eq_true.mp h1 (tyS x) (by cases x <;> simp [tyS])
  have e : isTyS T (tyS x) = isTyD T x := by cases T <;> cases x <;> rfl
  rw [← e]
  exact eq_of_beq h2
section
variable {X : Cx} {Wx : WX} {e : Expr} {p p2 pos : Pos} {f : Env → M W}
theorem tyX_tup {K : PySem.W.Frag} {H : Hp} {a : Addr} {xs : List V} (h : SqT K H a xs) : TyX K H (.ref a) (.type "tuple") := by
  rcases h with (h | ⟨o, h⟩) | ⟨o, its, n, h, hc, _⟩
  · exact .base (.tup h)
  · exact .fTuple h
  · exact .kTuple h hc
theorem tyX_d {K : PySem.W.Frag} {F H : Hp} (s : Same F H) {v : V} {x : PyData} (h : Dq K F v x) : TyX K H v (.type (tyS x)) := by
  cases h with
  | non => exact .base .non
  | bl b => exact .base (.bl b)
  | int i => exact .base (.int i)
  | str x => exact .base (.str x)
  | lst h t => exact .base (.lst (s _ _ h))
  | tup h t => exact tyX_tup (seqT_mono s h)
def isiF (T : Ty) (f : Env → M W) : Env → M W := fun ρ => bnd (f ρ) fun w => liftO fun st => match w with
  | .d x => some (.d (.bool (isTyD T x)))
  | .r i => (match st[i]? with
    | some (.lst _) => some (.d (.bool (isTyD T (.list []))))
    | _ => none)
theorem se_isi (T : Ty) (he : SE X Wx e f) (hg : Gl X "isinstance") (hm : X.mg "isinstance" = none) (hg2 : Gl X T.name) (hm2 : X.mg T.name = none) (hs : starEach [e, .Name T.name p2] X.env = (false, eval e X.env) :: starEach [.Name T.name p2] X.env := by rfl) :
    SE X Wx (.Call (.Name "isinstance" p) [e, .Name T.name p2] [] pos) (isiF T f) := by
  have hb : bootBuiltins T.name = some (.type T.name) := by cases T <;> (show bootBuiltins _ = some (.type _); decide +kernel)
  have n1 : (T.name : Str) ≠ "__name__" := by cases T <;> decide
  have n2 : ((T.name : Str) == ("__debug__" : Str)) = false := by cases T <;> decide
  refine PE.imp (pe_callB call_isi hg hm boot_isinstance (pa_cons he (pa_cons (pe_bltn (v := .ty T.name) hg2 hm2 hb rfl n1 n2) pa_nil) hs) (by decide) (by decide) hs) fun σ H Q h => ?_
  obtain ⟨F, m, st, ρ, er, rl, h⟩ := h
  refine ⟨F, m, st, ρ, er, rl, After.mono (Same.refl F) (List.prefix_refl m) h.bnd fun w F1 m1 H1 s1 p1 ⟨st1, _, _, rl1, h1⟩ v r1 => ?_⟩
  obtain ⟨w', e, q⟩ := h1.liftO
  split at e
  · cases Option.some.inj e
    exact ⟨_, _, _, _, _, rfl, .ty _, tyX_d rl1.sub r1, kit_ty (kitTy T _), q F1 m1 H1 (Same.refl _) (List.prefix_refl _) rl1 _ (.bl _)⟩
  · split at e
    · rename_i hs
      obtain ⟨a, rfl, h1, vs, h2, h3⟩ := rl1.at r1 hs
      cases Option.some.inj e
      exact ⟨_, _, _, _, _, rfl, .ty _, .base (.lst h2), kit_ty (kitTy T (.list [])), q F1 m1 H1 (Same.refl _) (List.prefix_refl _) rl1 _ (.bl _)⟩
    · cases e
end

/-! ## subscripts, slices -/
def ixD : PyData → Int → Option PyData
  | .list xs, i => atI xs i
  | .tuple xs, i => atI xs i
  | .str z, i => if z.length ≤ sizeLine then (atI z.cps.toList i).map fun c => .str ⟨#[c]⟩ else none
  | _, _ => none
def ixW (st : Sto) : W → W → Option W
  | .d x, .d (.int i) => (ixD x i).map .d
  | .r j, .d (.int i) => (match st[j]? with
    | some (.lst ws) => atI ws i
    | _ => none)
  | _, _ => none
theorem DqAll.atI {K : PySem.W.Frag} {F : Hp} {vs : List V} {ds : List PyData} (t : DqAll K F vs ds) {i : Int} {d : PyData} (h : atI ds i = some d) : ∃ v, L2.atI vs i = some v ∧ Dq K F v d := by
  unfold L2.atI at h ⊢
  rw [t.length]
  cases z : ixN ds.length i with
  | none => rw [z] at h; cases h
  | some j => rw [z] at h; exact t.get h
theorem Paired.get {α β : Type} {R : α → β → Prop} : ∀ {xs : List α} {ys : List β} {i : Nat} {x : α}, Paired R xs ys → xs[i]? = some x → ∃ y, ys[i]? = some y ∧ R x y
  | _, _, _, _, .nil, e => by simp at e
  | _, _, 0, x, .cons (b := b) h _, e => ⟨b, rfl, by have e' := Option.some.inj e; rw [← e']; exact h⟩
  | _, _, i + 1, x, .cons _ t, e => by
    obtain ⟨y, h1, h2⟩ := Paired.get (i := i) (x := x) t (by simpa using e)
    exact ⟨y, by simpa using h1, h2⟩
theorem WRs.atI {K : PySem.W.Frag} {F : Hp} {m : List Addr} {ws : List W} {vs : List V} (t : WRs K F m ws vs) {i : Int} {d : W} (h : atI ws i = some d) : ∃ v, L2.atI vs i = some v ∧ WR K F m d v := by
  unfold L2.atI at h ⊢
  rw [← PySem.Paired.length t]
  cases z : ixN ws.length i with
  | none => rw [z] at h; cases h
  | some j => rw [z] at h; exact Ev.Paired.get t h
section
variable {X : Cx} {Wx : WX} {e a b c : Expr} {pos p2 : Pos} {f fa fb fc : Env → M W} {lo hi : Option Expr}
theorem im_seq : IxR X (rM X ixW) := by
  intro value slice pins s σ H x y v u Q I rx ry h hp
  obtain ⟨F, m, st, a, b, w, ra, rb, rl, e, q⟩ := h
  cases b with
  | r _ => cases a <;> cases e
  | d b =>
    cases b <;> first | (cases a <;> (cases e; done)) | skip
    rename_i i
    have e2 := dq_int rb; subst e2
    cases a with
    | r j =>
      dsimp only [ixW] at e
      split at e
      · rename_i ws hs
        obtain ⟨p, rfl, h1, vs, h2, h3⟩ := rl.at ra hs
        obtain ⟨v', hv, rv⟩ := WRs.atI h3 e
        exact ix_list value slice pins s σ H _ _ v u Q I rx ry ⟨_, vs, i, v', rfl, rfl, SqL.of h2, hv, rM_ok q rl rv⟩ hp
      · cases e
    | d x =>
      have e : (ixD x i).map W.d = some w := e
      cases z : ixD x i with
      | none => rw [z] at e; cases e
      | some d =>
        rw [z] at e
        cases Option.some.inj e
        cases x <;> first | (cases z; done) | skip
        · have e1 := dq_str ra; subst e1
          dsimp only [ixD] at z
          split at z
          · rename_i s' hz
            cases y : L2.atI s'.cps.toList i with
            | none => rw [y] at z; cases z
            | some c =>
              rw [y] at z
              cases Option.some.inj z
              exact ix_str value slice pins s σ H _ _ v u Q I rx ry ⟨_, i, c, rfl, rfl, hz, y, rM_ok q rl (.str _)⟩ hp
          · cases z
        · obtain ⟨p, vs, rfl, h1, t⟩ := dq_lst ra
          obtain ⟨v', hv, rv⟩ := t.atI z
          exact ix_list value slice pins s σ H _ _ v u Q I rx ry ⟨_, vs, i, v', rfl, rfl, SqL.of (rl.sub _ _ h1), hv, rM_ok q rl rv⟩ hp
        · obtain ⟨p, vs, rfl, h1, t⟩ := dq_tup ra
          obtain ⟨v', hv, rv⟩ := t.atI z
          exact ix_tup value slice pins s σ H _ _ v u Q I rx ry ⟨_, vs, i, v', rfl, rfl, seqT_mono rl.sub h1, hv, rM_ok q rl rv⟩ hp
theorem se_ix (ha : SE X Wx a fa) (hb : SE X Wx b fb) (hs : PlainIx b) : SE X Wx (.Subscript a b pos) (bin ixW fa fb) :=
  PE.imp (pe_ix im_seq ha hb hs) fun σ H Q h => tM_op (fun _ _ _ _ q => q) h
/-- a slice's part -/
abbrev SO' (X : Cx) (Wx : WX) (e : Option Expr) (f : Env → M (Option Int)) : Prop := PO X e (fun σ H Q => ∃ F m st ρ, EnvR (gd X) F m ρ σ ∧ Rel X.K F m st H ∧
  After X.K X.mg F m (fun c d H' => Wx c d σ H') (f ρ st) (fun o F' m' H' => Q o H'))
theorem PO.imp {X : Cx} {e : Option Expr} {t t' : TO} (h : PO X e t) (k : ∀ σ H Q, t' σ H Q → t σ H Q) : PO X e t' := ⟨fun pins s σ H Q I q => h.run pins s σ H Q I (k σ H Q q)⟩
def partF (f : Env → M W) : Env → M (Option Int) := fun ρ => bnd (f ρ) fun w => liftO fun _ => match w with
  | .d (.int i) => some (some i)
  | _ => none
theorem so_none : SO' X Wx none (fun _ => ret none) := PO.imp po_none fun σ H Q h => by
  obtain ⟨F, m, st, ρ, er, rl, h⟩ := h
  exact h.here rl
theorem so_some (h : SE X Wx e f) : SO' X Wx (some e) (partF f) := PO.imp (po_some h) fun σ H Q h => by
  obtain ⟨F, m, st, ρ, er, rl, h⟩ := h
  refine ⟨F, m, st, ρ, er, rl, After.mono (Same.refl F) (List.prefix_refl m) h.bnd fun w F1 m1 H1 s1 p1 ⟨st1, _, _, rl1, h1⟩ v r1 => ?_⟩
  obtain ⟨o, e, q⟩ := h1.liftO
  split at e
  · cases Option.some.inj e
    exact ⟨_, dq_int r1, q F1 m1 H1 (Same.refl _) (List.prefix_refl _) rl1⟩
  · cases e
def cutL {α : Type} (xs : List α) (lo hi : Option Int) : List α := (xs.drop (HT.sIx xs.length 0 lo)).take (HT.sIx xs.length xs.length hi - HT.sIx xs.length 0 lo)
def slD (lo hi : Option Int) : PyData → Option PyData
  | .list xs => some (.list (cutL xs lo hi))
  | .tuple xs => some (.tuple (cutL xs lo hi))
  | .str z => if z.length ≤ sizeLine then some (.str ⟨(cutL z.cps.toList lo hi).toArray⟩) else none
  | _ => none
def slW (st : Sto) (w : W) (lo hi : Option Int) : Option W := match w with
  | .d x => (slD lo hi x).map .d
  | .r i => (match st[i]? with
    | some (.lst ws) => (allD ws).map fun xs => .d (.list (cutL xs lo hi))
    | _ => none)
theorem DqAll.cut {K : PySem.W.Frag} {F : Hp} {vs : List V} {ds : List PyData} (t : DqAll K F vs ds) (lo hi : Option Int) : DqAll K F (cutV vs lo hi) (cutL ds lo hi) := by
  unfold cutV cutL
  rw [t.length]
  exact (t.drop _).take _
theorem cutL_all {α : Type} {xs : List α} {lo hi : Option Int} (h : HT.sIx xs.length 0 lo = 0 ∧ HT.sIx xs.length xs.length hi = xs.length) : cutL xs lo hi = xs := by
  unfold cutL
  rw [h.1, h.2, List.drop_zero, Nat.sub_zero, List.take_length]
def rSlM (X : Cx) : V → Option Int → Option Int → Hp → VK → Prop := fun x lo hi H Q => ∃ F m st a w, WR X.K F m a x ∧ Rel X.K F m st H ∧ slW st a lo hi = some w ∧ QV X.K F m st Q w
theorem sm_any : L2.SlR X (rSlM X) := by
  intro pins s σ H x v vl vu lo hi sl Q I rx hs pl pu h
  obtain ⟨F, m, st, a, w, ra, rl, e, q⟩ := h
  cases a with
  | r i =>
    dsimp only [slW] at e
    split at e
    · rename_i ws hz
      obtain ⟨p, rfl, h1, vs, h2, h3⟩ := rl.at ra hz
      cases z : allD ws with
      | none => rw [z] at e; cases e
      | some ds =>
        rw [z] at e
        cases Option.some.inj e
        exact sl_list pins s σ H _ v vl vu lo hi sl Q I rx hs pl pu ⟨_, vs, rfl, SqL.of h2, fun p hp => rM_lst q rl hp ((allD_ok h3 z).cut lo hi)⟩
    · cases e
  | d x =>
    have e : (slD lo hi x).map W.d = some w := e
    cases z : slD lo hi x with
    | none => rw [z] at e; cases e
    | some d =>
      rw [z] at e
      cases Option.some.inj e
      cases x <;> first | (cases z; done) | skip
      · have e1 := dq_str ra; subst e1
        dsimp only [slD] at z
        split at z
        · rename_i hz
          cases Option.some.inj z
          refine sl_str pins s σ H _ v vl vu lo hi sl Q I rx hs pl pu ⟨_, rfl, hz, rM_ok q rl ?_⟩
          show Dq _ _ _ _
          have ec : ∀ z' : Str, cutS z' lo hi = ⟨(cutL z'.cps.toList lo hi).toArray⟩ := fun z' => by
            unfold cutS cutL
            rw [Array.length_toList]
            rfl
          rw [ec]
          exact .str _
        · cases z
      · obtain ⟨p, vs, rfl, h1, t⟩ := dq_lst ra
        cases Option.some.inj z
        exact sl_list pins s σ H _ v vl vu lo hi sl Q I rx hs pl pu ⟨_, vs, rfl, SqL.of (rl.sub _ _ h1), fun p hp => rM_lst q rl hp (t.cut lo hi)⟩
      · obtain ⟨p, vs, rfl, h1, t⟩ := dq_tup ra
        cases Option.some.inj z
        refine sl_tupA pins s σ H _ v vl vu lo hi sl Q I rx hs pl pu ⟨_, vs, rfl, seqT_mono rl.sub h1, fun hw => ?_, fun hw p hp => rM_tup q rl hp (t.cut lo hi)⟩
        rw [t.length] at hw
        rw [cutL_all hw] at q
        exact rM_ok q rl ra
def sliceF (f : Env → M W) (g h : Env → M (Option Int)) : Env → M W := fun ρ => bnd (f ρ) fun x => bnd (g ρ) fun lo => bnd (h ρ) fun hi => liftO fun st => slW st x lo hi
theorem se_slice {g h : Env → M (Option Int)} (he : SE X Wx e f) (hl : SO' X Wx lo g) (hu : SO' X Wx hi h) : SE X Wx (.Subscript e (.Slice lo hi none p2) pos) (sliceF f g h) :=
  PE.imp (pe_slice sm_any he hl hu) fun σ H Q hh => by
    obtain ⟨F, m, st, ρ, er, rl, hh⟩ := hh
    refine ⟨F, m, st, ρ, er, rl, After.mono (Same.refl F) (List.prefix_refl m) hh.bnd fun x F1 m1 H1 s1 p1 ⟨st1, _, _, rl1, h1⟩ v r1 => ?_⟩
    refine ⟨F1, m1, st1, ρ, er.mono s1 p1, rl1, After.mono (Same.refl F1) (List.prefix_refl m1) h1.bnd fun l F2 m2 H2 s2 p2 ⟨st2, _, _, rl2, h2⟩ => ?_⟩
    refine ⟨F2, m2, st2, ρ, (er.mono s1 p1).mono s2 p2, rl2, After.mono (Same.refl F2) (List.prefix_refl m2) h2.bnd fun u F3 m3 H3 s3 p3 ⟨st3, _, _, rl3, h3⟩ => ?_⟩
    obtain ⟨w, e, q⟩ := h3.liftO
    exact ⟨F3, m3, st3, x, w, (r1.mono s2 p2).mono s3 p3, rl3, e, fun F' m' H' v s p r hv => q F' m' H' s p r v hv⟩
end
end Ev
end
section
set_option Elab.async false
set_option linter.all false
set_option maxRecDepth 100000
set_option autoImplicit false
namespace Ev
open PySem PySem.Spec PyProof.Rows L2
/-! ## equality of data, decided -/
mutual
def beqD : PyData → PyData → Bool
  | .none, .none => true
  | .bool a, .bool b => a == b
  | .int a, .int b => decide (a = b)
  | .str a, .str b => decide (a = b)
  | .list a, .list b => beqDs a b
  | .tuple a, .tuple b => beqDs a b
  | _, _ => false
def beqDs : List PyData → List PyData → Bool
  | [], [] => true
  | a :: r, b :: s => beqD a b && beqDs r s
  | _, _ => false
end
mutual
theorem beqD_eq : ∀ (a b : PyData), beqD a b = true → a = b
  | .none, b, h => by cases b <;> first | rfl | cases h
  | .bool a, b, h => by cases b <;> first | (cases h; done) | (simp [beqD] at h; rw [h])
  | .int a, b, h => by cases b <;> first | (cases h; done) | (simp [beqD] at h; rw [h])
  | .str a, b, h => by cases b <;> first | (cases h; done) | (simp [beqD] at h; rw [h])
  | .list a, b, h => by
    cases b <;> first | (cases h; done) | skip
    rw [beqDs_eq a _ h]
  | .tuple a, b, h => by
    cases b <;> first | (cases h; done) | skip
    rw [beqDs_eq a _ h]
  | .dict a, b, h => by cases b <;> cases h
theorem beqDs_eq : ∀ (a b : List PyData), beqDs a b = true → a = b
  | [], b, h => by cases b <;> first | rfl | cases h
  | a :: r, b, h => by
    cases b with
    | nil => cases h
    | cons b s =>
      have h : (beqD a b && beqDs r s) = true := h
      obtain ⟨h1, h2⟩ := Bool.and_eq_true_iff.mp h
      rw [beqD_eq a b h1, beqDs_eq r s h2]
end
/-- the mutable list at i is still these data -/
def stillAt (i : Nat) (ds : List PyData) (st : Sto) : Bool := match st[i]? with
  | some (.lst ws) => (match allD ws with
    | some es => beqDs es ds
    | none => false)
  | _ => false
theorem stillAt_ok {i : Nat} {ds : List PyData} {st : Sto} (h : stillAt i ds st = true) : ∃ ws, st[i]? = some (.lst ws) ∧ allD ws = some ds := by
  unfold stillAt at h
  split at h
  · rename_i ws hs
    split at h
    · rename_i es he
      exact ⟨ws, hs, by rw [he, beqDs_eq _ _ h]⟩
    · cases h
  · cases h

/-! ## small statements -/
section
variable {X : Cx} {Wx : WX} {e a b c : Expr} {pos : Pos} {st : Stmt} {rest sa sb : List Stmt} {f fa fb fc : Env → M W} {g : Env → M Bool} {s t : S}
def nxS : S := fun ρ st => .go (.nx ρ) st
def seqS (s t : S) : S := fun ρ st => match s ρ st with
  | .go (.nx ρ') st' => t ρ' st'
  | r => r
def ofM {α : Type} (m : M α) (ρ : Env) (k : α → Sto → RS) : Sto → RS := fun st => match m st with
  | .ok a st' => k a st'
  | .ex x st' => .ex x ρ st'
  | .bad => .bad
def retS (f : Env → M W) : S := fun ρ => ofM (f ρ) ρ fun w st => .go (.rt w) st
def ifS (g : Env → M Bool) (s t : S) : S := fun ρ => ofM (g ρ) ρ fun k st => if k = true then s ρ st else t ρ st
def dropS (f : Env → M W) : S := fun ρ => ofM (f ρ) ρ fun _ st => .go (.nx ρ) st
def asgS (i : Nat) (f : Env → M W) : S := fun ρ => ofM (f ρ) ρ fun w st => .go (.nx (ρ.set i (some (.w w)))) st
/-- an expression ahead of a statement's rest -/
theorem AfterS.ofM {α : Type} {gd' : Gd} {F : Hp} {m : List Addr} {Wx : WX} {x : M α} {ρ : Env} {k : α → Sto → RS} {st : Sto} {D : Ends} {σ : L2.St} (er : EnvR gd' F m ρ σ) (h : AfterS gd' F m Wx (ofM x ρ k st) D) :
    After gd'.K gd'.mg F m (fun c d H' => Wx c d σ H') (x st) (fun a F' m' H' => ∃ st', Same F F' ∧ m <+: m' ∧ Rel gd'.K F' m' st' H' ∧ AfterS gd' F' m' Wx (k a st') D) := by
  unfold Ev.ofM at h
  cases z : x st with
  | ok a st' =>
    rw [z] at h
    refine fun F' m' H' s p r => ⟨st', s, p, r, ?_⟩
    have h : AfterS gd' F m Wx (k a st') D := h
    cases y : k a st' with
    | go fl st2 =>
      rw [y] at h
      cases fl <;> exact fun F2 m2 H2 => fun v s2 p2 r2 => h F2 m2 H2 v (s.trans s2) (pre_trans p p2) r2
    | ex x ρ' st2 => rw [y] at h; exact fun F2 m2 H2 σ' c d s2 p2 r2 => h F2 m2 H2 σ' c d (s.trans s2) (pre_trans p p2) r2
    | bad => rw [y] at h; exact h
  | ex x st' =>
    rw [z] at h
    exact fun F' m' H' c d s p r e => h F' m' H' σ c d s p r (er.mono s p) e
  | bad => rw [z] at h; exact h
theorem AfterS.mono {gd' : Gd} {F F' : Hp} {m m' : List Addr} {Wx : WX} {r : RS} {D : Ends} (s : Same F F') (p : m <+: m') (h : AfterS gd' F m Wx r D) : AfterS gd' F' m' Wx r D := by
  cases r with
  | go fl st2 => cases fl <;> exact fun F2 m2 H2 => fun v s2 p2 r2 => h F2 m2 H2 v (s.trans s2) (pre_trans p p2) r2
  | ex x ρ' st2 => exact fun F2 m2 H2 σ' c d s2 p2 r2 => h F2 m2 H2 σ' c d (s.trans s2) (pre_trans p p2) r2
  | bad => exact h
theorem sss_nil : SSs X Wx [] nxS := PSs.imp pss_nil fun D σ H h => by
  obtain ⟨F, m, st, ρ, er, rl, h⟩ := h
  exact h F m H σ (Same.refl F) (List.prefix_refl m) rl er
theorem sss_one (h : SS X Wx st s) : SSs X Wx [st] s := pss_one h
theorem sss_cons (h1 : SS X Wx st s) (h2 : SSs X Wx rest t) : SSs X Wx (st :: rest) (seqS s t) := PSs.imp (pss_cons h1 h2) fun D σ H h => by
  obtain ⟨F, m, st, ρ, er, rl, h⟩ := h
  refine ⟨F, m, st, ρ, er, rl, ?_⟩
  unfold seqS at h
  cases z : s ρ st with
  | go fl st2 =>
    rw [z] at h
    cases fl with
    | nx ρ2 => exact fun F2 m2 H2 σ2 s2 p2 r2 er2 => ⟨F2, m2, st2, ρ2, er2, r2, AfterS.mono s2 p2 h⟩
    | rt w => exact h
    | bk ρ2 => exact h
    | ct ρ2 => exact h
  | ex x ρ' st2 => rw [z] at h; exact h
  | bad => rw [z] at h; exact h
theorem ss_ret (h : SE X Wx e f) : SS X Wx (.Return (some e) pos) (retS f) := PS.imp (ps_ret h) fun D σ H h => by
  obtain ⟨F, m, st, ρ, er, rl, h⟩ := h
  exact ⟨F, m, st, ρ, er, rl, After.mono (Same.refl F) (List.prefix_refl m) (AfterS.ofM er h) fun w F1 m1 H1 s1 p1 ⟨st1, _, _, rl1, h1⟩ v r1 => h1 F1 m1 H1 v (Same.refl _) (List.prefix_refl _) rl1 r1⟩
theorem ss_retN : SS X Wx (.Return none pos) (retS fun _ => ret (.d .none)) := PS.imp ps_retN fun D σ H h => by
  obtain ⟨F, m, st, ρ, er, rl, h⟩ := h
  exact h F m H .non (Same.refl F) (List.prefix_refl m) rl .non
theorem ss_pass : SS X Wx (.Pass pos) nxS := PS.imp ps_pass fun D σ H h => by
  obtain ⟨F, m, st, ρ, er, rl, h⟩ := h
  exact h F m H σ (Same.refl F) (List.prefix_refl m) rl er
theorem ss_brk : SS X Wx (.Break pos) (fun ρ st => .go (.bk ρ) st) := PS.imp ps_break fun D σ H h => by
  obtain ⟨F, m, st, ρ, er, rl, h⟩ := h
  exact h F m H σ (Same.refl F) (List.prefix_refl m) rl er
theorem ss_cnt : SS X Wx (.Continue pos) (fun ρ st => .go (.ct ρ) st) := PS.imp ps_continue fun D σ H h => by
  obtain ⟨F, m, st, ρ, er, rl, h⟩ := h
  exact h F m H σ (Same.refl F) (List.prefix_refl m) rl er
theorem ss_if (hc : SB X Wx c g) (ha : SSs X Wx sa s) (hb : SSs X Wx sb t) : SS X Wx (.If c sa sb pos) (ifS g s t) := PS.imp (ps_if hc ha hb) fun D σ H h => by
  obtain ⟨F, m, st, ρ, er, rl, h⟩ := h
  refine ⟨F, m, st, ρ, er, rl, After.mono (Same.refl F) (List.prefix_refl m) (AfterS.ofM er h) fun k F1 m1 H1 s1 p1 ⟨st1, _, _, rl1, h1⟩ => ?_⟩
  cases k with
  | true => rw [if_pos rfl] at h1 ⊢; exact ⟨F1, m1, st1, ρ, er.mono s1 p1, rl1, h1⟩
  | false => rw [if_neg Bool.false_ne_true] at h1 ⊢; exact ⟨F1, m1, st1, ρ, er.mono s1 p1, rl1, h1⟩
theorem ss_expr (h : SE X Wx e f) (hs : swapsWith e none pos.line X.env = pure false := by rfl) : SS X Wx (.Expr e pos) (dropS f) := PS.imp (ps_expr h hs) fun D σ H h => by
  obtain ⟨F, m, st, ρ, er, rl, h⟩ := h
  exact ⟨F, m, st, ρ, er, rl, After.mono (Same.refl F) (List.prefix_refl m) (AfterS.ofM er h) fun w F1 m1 H1 s1 p1 ⟨st1, _, _, rl1, h1⟩ v r1 => h1 F1 m1 H1 σ (Same.refl _) (List.prefix_refl _) rl1 (er.mono s1 p1)⟩
theorem tS_asg {i : Nat} {D : Ends} {σ : L2.St} {H : Hp} (h : tS X Wx (asgS i f) D σ H) : tAsg (tM X Wx f) (gName i) D σ H := by
  obtain ⟨F, m, st, ρ, er, rl, h⟩ := h
  exact ⟨F, m, st, ρ, er, rl, After.mono (Same.refl F) (List.prefix_refl m) (AfterS.ofM er h) fun w F1 m1 H1 s1 p1 ⟨st1, _, _, rl1, h1⟩ v r1 => h1 F1 m1 H1 _ (Same.refl _) (List.prefix_refl _) rl1 ((er.mono s1 p1).set i (x := .w w) r1)⟩
theorem ss_set {i : Nat} {x : Str} {pos' : Pos} (hN : X.N.Nodup) (hi : X.N[i]? = some x) (hx : Loc X.env.scope x) (he : SE X Wx e f) (hs : swapsWith e (some (.Name x pos')) pos.line X.env = pure false := by rfl)
    (hf : X.fn x = true ∨ X.env.scope.names.lookup x = some .local := by first | exact .inl rfl | exact .inr rfl | assumption) : SS X Wx (.Assign [.Name x pos'] e pos) (asgS i f) :=
  PS.imp (ps_set hN hi hx he hs hf) fun _ _ _ h => tS_asg h
/-- a, b = x, y (two local names) -/
def parS (i j : Nat) (fs : Env → M (List W)) : S := fun ρ => ofM (fs ρ) ρ fun ws st => match ws with
  | [v, w] => .go (.nx ((ρ.set i (some (.w v))).set j (some (.w w)))) st
  | _ => .bad
theorem ss_par {i j : Nat} {x y : Str} {fs : Env → M (List W)} {px py pt : Pos} {kt k2 : Nat} {pt2 : Pos} (hc : X.calm = true) (hN : X.N.Nodup) (hi : X.N[i]? = some x) (hj : X.N[j]? = some y) (hij : i ≠ j)
    (hx : X.env.scope.names.lookup x = some .local) (hy : X.env.scope.names.lookup y = some .local) (ha : SA X Wx [a, b] fs)
    (hw : swappedStores [.Tuple [.Name x px, .Name y py] kt pt] (.Tuple [a, b] k2 pt2) X.env = pure (some [x, y]))
    (hs : swapsWithSole [.Tuple [.Name x px, .Name y py] kt pt] (.Tuple [a, b] k2 pt2) pos.line X.env = pure false := by rfl) :
    SS X Wx (.Assign [.Tuple [.Name x px, .Name y py] kt pt] (.Tuple [a, b] k2 pt2) pos) (parS i j fs) :=
  PS.imp (ps_par hc hN hi hj hij hx hy ha hw hs) fun D σ H h => by
    obtain ⟨F, m, st, ρ, er, rl, h⟩ := h
    refine ⟨F, m, st, ρ, er, rl, After.mono (Same.refl F) (List.prefix_refl m) (AfterS.ofM er h) fun ws F1 m1 H1 s1 p1 ⟨st1, _, _, rl1, h1⟩ vs r1 => ?_⟩
    split at h1
    · obtain ⟨v, w, rfl, ra, rb⟩ := wrs2 r1
      exact ⟨v, w, rfl, h1 F1 m1 H1 _ (Same.refl _) (List.prefix_refl _) rl1 (((er.mono s1 p1).set i (x := .w _) ra).set j (x := .w _) rb)⟩
    · exact h1.elim
end

/-! ## targets -/
abbrev As := PyData → Env → Option Env
/-- only the slots is may have changed -/
def Only (is : List Nat) (σ σ' : L2.St) : Prop := σ'.length = σ.length ∧ ∀ j : Nat, j ∉ is → σ'[j]? = σ[j]?
theorem Only.refl {is : List Nat} {σ : L2.St} : Only is σ σ := ⟨rfl, fun _ _ => rfl⟩
theorem Only.set {is : List Nat} {σ : L2.St} {i : Nat} {v : Option V} (h : i ∈ is) : Only is σ (σ.set i v) :=
  ⟨List.length_set, fun j hj => List.getElem?_set_ne fun (e : i = j) => hj (by rw [← e]; exact h)⟩
theorem Only.trans {is js : List Nat} {σ σ' σ2 : L2.St} (a : Only is σ σ') (b : Only js σ' σ2) : Only (is ++ js) σ σ2 :=
  ⟨b.1.trans a.1, fun j hj => (b.2 j fun z => hj (List.mem_append_right _ z)).trans (a.2 j fun z => hj (List.mem_append_left _ z))⟩
def gM (X : Cx) (asg : As) (is : List Nat) : TG := fun v σ H Q => ∃ F m ρ d ρ', Same F H ∧ EnvR (gd X) F m ρ σ ∧ Dq X.K F v d ∧ asg d ρ = some ρ' ∧ ∀ σ', EnvR (gd X) F m ρ' σ' → Only is σ σ' → Q σ' H
def gMs (X : Cx) (asg : List PyData → Env → Option Env) (is : List Nat) : TGs := fun vs σ H Q => ∃ F m ρ ds ρ', Same F H ∧ EnvR (gd X) F m ρ σ ∧ DqAll X.K F vs ds ∧ asg ds ρ = some ρ' ∧ ∀ σ', EnvR (gd X) F m ρ' σ' → Only is σ σ' → Q σ' H
section
variable {X : Cx} {tg e : Expr} {es : List Expr} {pos : Pos} {is js : List Nat}
theorem PG.imp {X : Cx} {e : Expr} {t t' : TG} (h : PG X e t) (k : ∀ v σ H Q, t' v σ H Q → t v σ H Q) : PG X e t' := ⟨fun pins s σ H v u Q I r q => h.run pins s σ H v u Q I r (k v σ H Q q)⟩
theorem PGs.imp {X : Cx} {e : List Expr} {t t' : TGs} (h : PGs X e t) (k : ∀ v σ H Q, t' v σ H Q → t v σ H Q) : PGs X e t' := ⟨fun pins s σ H v u Q I r q => h.run pins s σ H v u Q I r (k v σ H Q q)⟩
def aName (i : Nat) : As := fun d ρ => some (ρ.set i (some (.w (.d d))))
theorem sg_name {i : Nat} {x : Str} (hN : X.N.Nodup) (hi : X.N[i]? = some x) (hx : Loc X.env.scope x) (hf : X.fn x = true ∨ X.env.scope.names.lookup x = some .local := by first | exact .inl rfl | exact .inr rfl | assumption) : PG X (.Name x pos) (gM X (aName i) [i]) :=
  PG.imp (pg_name hN hi hx hf) fun v σ H Q h => by
    obtain ⟨F, m, ρ, d, ρ', s, er, hd, e, q⟩ := h
    cases Option.some.inj e
    exact q _ (er.set i (x := .w (.d d)) hd) (Only.set (by simp))
def aNil : List PyData → Env → Option Env
  | [], ρ => some ρ
  | _ :: _, _ => none
def aCons (a : As) (b : List PyData → Env → Option Env) : List PyData → Env → Option Env
  | d :: r, ρ => (a d ρ).bind (b r)
  | [], _ => none
theorem sgs_nil : PGs X [] (gMs X aNil []) := PGs.imp pgs_nil fun vs σ H Q h => by
  obtain ⟨F, m, ρ, ds, ρ', s, er, hd, e, q⟩ := h
  cases hd with
  | nil => cases Option.some.inj e; exact ⟨rfl, q _ er Only.refl⟩
  | cons _ _ => cases e
theorem sgs_cons {a : As} {b : List PyData → Env → Option Env} (h1 : PG X e (gM X a is)) (h2 : PGs X es (gMs X b js)) (hs : (assignEach (e :: es) X.env).map (·.2) = assign e X.env :: (assignEach es X.env).map (·.2) := by rfl) : PGs X (e :: es) (gMs X (aCons a b) (is ++ js)) :=
  PGs.imp (pgs_cons h1 h2 hs) fun vs σ H Q h => by
    obtain ⟨F, m, ρ, ds, ρ', s, er, hd, e, q⟩ := h
    cases hd with
    | nil => cases e
    | @cons v vs d ds h t =>
      have e : (a d ρ).bind (b ds) = some ρ' := e
      cases z : a d ρ with
      | none => rw [z] at e; cases e
      | some ρ1 =>
        rw [z] at e
        exact ⟨v, vs, rfl, F, m, ρ, d, ρ1, s, er, h, z, fun σ1 er1 o1 => ⟨F, m, ρ1, ds, ρ', s, er1, t, e, fun σ2 er2 o2 => q σ2 er2 (o1.trans o2)⟩⟩
def aTup (n : Nat) (b : List PyData → Env → Option Env) : As
  | .tuple ds, ρ => if ds.length = n then b ds ρ else none
  | _, _ => none
theorem sg_tup {k : Nat} {b : List PyData → Env → Option Env} {n : Nat} (hc : X.calm = true) (h : PGs X es (gMs X b is)) (hn : (assignEach es X.env).length = n := by rfl) (hst : (assignEach es X.env).findIdx? (·.1) = none := by rfl) :
    PG X (.Tuple es k pos) (gM X (aTup n b) is) :=
  PG.imp (pg_tup hc h hn hst) fun v σ H Q h => by
    obtain ⟨F, m, ρ, d, ρ', s, er, hd, e, q⟩ := h
    cases hd <;> first | (cases e; done) | skip
    rename_i ht t
    dsimp only [aTup] at e
    split at e
    · rename_i hz
      exact ⟨_, _, rfl, seqT_mono s ht, t.length.trans hz, F, m, ρ, _, ρ', s, er, t, e, q⟩
    · cases e
/-- target = value (a tuple of names: the value is data) -/
def asgT (a : As) (f : Env → M W) : S := fun ρ => ofM (f ρ) ρ fun w st => match w with
  | .d d => (match a d ρ with
    | some ρ' => .go (.nx ρ') st
    | none => .bad)
  | .r _ => .bad
theorem ss_asgT {Wx : WX} {a : As} {f : Env → M W} (he : SE X Wx e f) (hg : PG X tg (gM X a is)) (hs : swapsWithSole [tg] e pos.line X.env = pure false := by rfl) (hw : swappedStores [tg] e X.env = pure none := by rfl)
    (h1 : (assignEach [tg] X.env).map (·.2) = [assign tg X.env] := by rfl) : SS X Wx (.Assign [tg] e pos) (asgT a f) :=
  PS.imp (ps_asg he hg hs hw h1) fun D σ H h => by
    obtain ⟨F, m, st, ρ, er, rl, h⟩ := h
    refine ⟨F, m, st, ρ, er, rl, After.mono (Same.refl F) (List.prefix_refl m) (AfterS.ofM er h) fun w F1 m1 H1 s1 p1 ⟨st1, _, _, rl1, h1⟩ v r1 => ?_⟩
    split at h1
    · split at h1
      · rename_i z
        exact ⟨F1, m1, ρ, _, _, rl1.sub, er.mono s1 p1, r1, z, fun σ' er' _ => h1 F1 m1 H1 σ' (Same.refl _) (List.prefix_refl _) rl1 er'⟩
      · exact h1.elim
    · exact h1.elim
end

/-! ## what is walked -/
/-- the items, what must stay true of the store meanwhile -/
abbrev Its := List PyData × (Sto → Bool)
def IOk (K : PySem.W.Frag) (F : Hp) (m : List Addr) (J : It) (p : Its) : Prop := ∃ G Y, Walk J p.1.length G Y ∧
  (∀ F1 m1 st1 H, Same F F1 → m <+: m1 → Rel K F1 m1 st1 H → p.2 st1 = true → G H) ∧
  ∀ i H x H' F1 m1 st1, Same F F1 → m <+: m1 → Rel K F1 m1 st1 H → p.2 st1 = true → Y i H x H' → ∃ F2 d, Same F1 F2 ∧ Rel K F2 m1 st1 H' ∧ p.1[i]? = some d ∧ Dq K F2 x d ∧ (∀ a o, H a = some o → H' a = some o) ∧ ∀ a o, H a = some o → F2 a = F1 a
def tI (X : Cx) (Wx : WX) (f : Env → M Its) : TI := fun σ H R => ∃ F m st ρ, EnvR (gd X) F m ρ σ ∧ Rel X.K F m st H ∧
  After X.K X.mg F m (fun c d H' => Wx c d σ H') (f ρ st) (fun p F' m' H' => ∀ J, IOk X.K F' m' J p → R J H')
abbrev SI (X : Cx) (Wx : WX) (tg iter : Expr) (f : Env → M Its) : Prop := PI X tg iter (tI X Wx f)
theorem PI.imp {X : Cx} {tg e : Expr} {t t' : TI} (h : PI X tg e t) (k : ∀ σ H Q, t' σ H Q → t σ H Q) : PI X tg e t' := ⟨fun pins s σ H Q I q => h.run pins s σ H Q I (k σ H Q q)⟩
def always : Sto → Bool := fun _ => true
section
variable {X : Cx} {Wx : WX} {tg e a b : Expr} {f fa fb : Env → M W} {p pos : Pos} {K : PySem.W.Frag} {F : Hp} {m : List Addr} {xs : List V} {ds : List PyData} {ad : Addr}
theorem io_list (h : F ad = some (.lst xs)) (t : DqAll K F xs ds) : IOk K F m (Itl K ad) (ds, always) := by
  refine ⟨_, _, by rw [← t.length]; exact walk_list (xs := xs), fun F1 m1 st1 H s p r _ => SqL.of (r.sub _ _ (s _ _ h)), fun i H x H' F1 m1 st1 s p r _ y => ?_⟩
  obtain ⟨rfl, y⟩ := y
  obtain ⟨d, h1, h2⟩ := t.get' y
  exact ⟨F1, d, Same.refl _, r, h1, h2.mono s, fun _ _ z => z, fun _ _ _ => rfl⟩
theorem io_tup (h : SqT K F ad xs) (t : DqAll K F xs ds) : IOk K F m (Itt K ad) (ds, always) := by
  refine ⟨_, _, by rw [← t.length]; exact walk_tup (xs := xs), fun F1 m1 st1 H s p r _ => seqT_mono (s.trans r.sub) h, fun i H x H' F1 m1 st1 s p r _ y => ?_⟩
  obtain ⟨rfl, y⟩ := y
  obtain ⟨d, h1, h2⟩ := t.get' y
  exact ⟨F1, d, Same.refl _, r, h1, h2.mono s, fun _ _ z => z, fun _ _ _ => rfl⟩
theorem io_ref {st : Sto} {i : Nat} {ws : List W} {H0 : Hp} {F0 : Hp} {m0 : List Addr} (hm : m[i]? = some ad) (hd : allD ws = some ds) : IOk K F m (Itl K ad) (ds, stillAt i ds) := by
  have key : ∀ F1 m1 st1 H, m <+: m1 → Rel K F1 m1 st1 H → stillAt i ds st1 = true → ∃ vs, H ad = some (.lst vs) ∧ DqAll K F1 vs ds := fun F1 m1 st1 H p r c => by
    obtain ⟨ws', h1, h2⟩ := stillAt_ok c
    obtain ⟨vs, h3, h4⟩ := r.obj i ad _ (pre_get p hm) h1
    exact ⟨vs, h3, allD_ok h4 h2⟩
  refine ⟨fun H => ∃ vs, H ad = some (.lst vs) ∧ vs.length = ds.length, fun i H x H' => H' = H ∧ ∃ vs, H ad = some (.lst vs) ∧ vs[i]? = some x, ⟨?_, ?_, ?_⟩, ?_, ?_⟩
  · rintro j H hj ⟨vs, h, hl⟩
    have hj : j < ds.length := hj
    have hv : j < vs.length := by omega
    exact ⟨vs, vs[j], SqL.of h, List.getElem?_eq_getElem hv⟩
  · rintro H ⟨vs, h, hl⟩
    exact ⟨vs, SqL.of h, by rw [hl]; exact Nat.le_refl _⟩
  · rintro j H x H' hj ⟨vs, h, hl⟩ ⟨rfl, y⟩
    exact ⟨rfl, vs, h, y vs (SqL.of h)⟩
  · intro F1 m1 st1 H s p r c
    obtain ⟨vs, h, t⟩ := key F1 m1 st1 H p r c
    exact ⟨vs, h, t.length⟩
  · rintro j H x H' F1 m1 st1 s p r c ⟨rfl, vs, h, y⟩
    obtain ⟨vs', h', t⟩ := key F1 m1 st1 _ p r c
    rw [h] at h'
    cases h'
    obtain ⟨d, h1, h2⟩ := t.get' y
    exact ⟨F1, d, Same.refl _, r, h1, h2, fun _ _ z => z, fun _ _ _ => rfl⟩
def itemsW (st : Sto) : W → Option Its
  | .d (.list xs) => some (xs, always)
  | .r i => (match st[i]? with
    | some (.lst ws) => (allD ws).map fun ds => (ds, stillAt i ds)
    | _ => none)
  | _ => none
def itemsT (_ : Sto) : W → Option Its
  | .d (.tuple xs) => some (xs, always)
  | _ => none
def itF (k : Sto → W → Option Its) (f : Env → M W) : Env → M Its := fun ρ => bnd (f ρ) fun w => liftO fun st => k st w
theorem si_list (h : SE X Wx e f) : SI X Wx tg e (itF itemsW f) := PI.imp (pi_list h) fun σ H R hh => by
  obtain ⟨F, m, st, ρ, er, rl, hh⟩ := hh
  refine ⟨F, m, st, ρ, er, rl, After.mono (Same.refl F) (List.prefix_refl m) hh.bnd fun w F1 m1 H1 s1 p1 ⟨st1, _, _, rl1, h1⟩ v r1 => ?_⟩
  obtain ⟨q, e, k⟩ := h1.liftO
  cases w with
  | r i =>
    dsimp only [itemsW] at e
    split at e
    · rename_i ws hs
      obtain ⟨a, rfl, h2, vs, h3, h4⟩ := rl1.at r1 hs
      cases z : allD ws with
      | none => rw [z] at e; cases e
      | some ds =>
        rw [z] at e
        cases Option.some.inj e
        exact ⟨a, rfl, ⟨vs, SqL.of h3⟩, k F1 m1 H1 (Same.refl _) (List.prefix_refl _) rl1 _ (io_ref (st := st1) (H0 := H1) (F0 := F1) (m0 := m1) h2 z)⟩
    · cases e
  | d x =>
    cases x <;> first | (cases e; done) | skip
    obtain ⟨a, vs, rfl, h2, t⟩ := dq_lst r1
    cases Option.some.inj e
    exact ⟨a, rfl, ⟨vs, SqL.of (rl1.sub _ _ h2)⟩, k F1 m1 H1 (Same.refl _) (List.prefix_refl _) rl1 _ (io_list h2 t)⟩
theorem si_tup (h : SE X Wx e f) : SI X Wx tg e (itF itemsT f) := PI.imp (pi_tup h) fun σ H R hh => by
  obtain ⟨F, m, st, ρ, er, rl, hh⟩ := hh
  refine ⟨F, m, st, ρ, er, rl, After.mono (Same.refl F) (List.prefix_refl m) hh.bnd fun w F1 m1 H1 s1 p1 ⟨st1, _, _, rl1, h1⟩ v r1 => ?_⟩
  obtain ⟨q, e, k⟩ := h1.liftO
  cases w with
  | r i => cases e
  | d x =>
    cases x <;> first | (cases e; done) | skip
    obtain ⟨a, vs, rfl, h2, t⟩ := dq_tup r1
    cases Option.some.inj e
    exact ⟨a, rfl, ⟨vs, seqT_mono rl1.sub h2⟩, k F1 m1 H1 (Same.refl _) (List.prefix_refl _) rl1 _ (io_tup h2 t)⟩
def rangeL (lo : Int) (n : Nat) : List PyData := (List.range n).map fun (i : Nat) => .int (lo + (i : Int))
theorem io_range {lo : Int} {n : Nat} : IOk K F m (Itr lo n) (rangeL lo n, always) := by
  have hl : (rangeL lo n).length = n := by unfold rangeL; rw [List.length_map, List.length_range]
  refine ⟨fun _ => True, fun i H x H' => i < n ∧ H' = H ∧ x = .int (lo + i), ?_, fun _ _ _ _ _ _ _ _ => trivial, fun i H x H' F1 m1 st1 s p r _ y => ?_⟩
  · show Walk (Itr lo n) (rangeL lo n).length _ _
    rw [hl]
    exact ⟨fun i H h _ => h, fun H _ => Nat.le_refl _, fun i H x H' h _ y => ⟨h, y.1, y.2⟩⟩
  · obtain ⟨hi, rfl, rfl⟩ := y
    refine ⟨F1, .int (lo + i), Same.refl _, r, ?_, .int _, fun _ _ z => z, fun _ _ _ => rfl⟩
    unfold rangeL
    rw [List.getElem?_map, List.getElem?_range hi]
    rfl
def range1 (fs : Env → M (List W)) : Env → M Its := fun ρ => bnd (fs ρ) fun ws => liftO fun _ => match ws with
  | [.d (.int j)] => if -(2 ^ 62) ≤ j ∧ j < 2 ^ 62 then some (rangeL 0 j.toNat, always) else none
  | _ => none
theorem si_range1 {fs : Env → M (List W)} (hg : Gl X "range") (hm : X.mg "range" = none) (ha : SA X Wx [a] fs) (hs : starEach [a] X.env = [(false, eval a X.env)] := by rfl) : SI X Wx tg (.Call (.Name "range" p) [a] [] pos) (range1 fs) :=
  PI.imp (pi_range1 hg hm ha hs) fun σ H R hh => by
    obtain ⟨F, m, st, ρ, er, rl, hh⟩ := hh
    refine ⟨F, m, st, ρ, er, rl, After.mono (Same.refl F) (List.prefix_refl m) hh.bnd fun w F1 m1 H1 s1 p1 ⟨st1, _, _, rl1, h1⟩ vs r1 => ?_⟩
    obtain ⟨q, e, k⟩ := h1.liftO
    split at e
    · split at e
      · rename_i hz
        obtain ⟨v, rfl, rv⟩ := wrs1 r1
        rw [dq_int rv]
        cases Option.some.inj e
        exact ⟨_, rfl, hz.1, hz.2, k F1 m1 H1 (Same.refl _) (List.prefix_refl _) rl1 _ io_range⟩
      · cases e
    · cases e
def range2 (fs : Env → M (List W)) : Env → M Its := fun ρ => bnd (fs ρ) fun ws => liftO fun _ => match ws with
  | [.d (.int i), .d (.int j)] => if -(2 ^ 62) ≤ i ∧ i < 2 ^ 62 ∧ -(2 ^ 62) ≤ j ∧ j < 2 ^ 62 then some (rangeL i (j - i).toNat, always) else none
  | _ => none
theorem si_range2 {fs : Env → M (List W)} (hg : Gl X "range") (hm : X.mg "range" = none) (ha : SA X Wx [a, b] fs) (hs : starEach [a, b] X.env = [(false, eval a X.env), (false, eval b X.env)] := by rfl) (hs2 : starEach [b] X.env = [(false, eval b X.env)] := by rfl) :
    SI X Wx tg (.Call (.Name "range" p) [a, b] [] pos) (range2 fs) :=
  PI.imp (pi_range2 hg hm ha hs hs2) fun σ H R hh => by
    obtain ⟨F, m, st, ρ, er, rl, hh⟩ := hh
    refine ⟨F, m, st, ρ, er, rl, After.mono (Same.refl F) (List.prefix_refl m) hh.bnd fun w F1 m1 H1 s1 p1 ⟨st1, _, _, rl1, h1⟩ vs r1 => ?_⟩
    obtain ⟨q, e, k⟩ := h1.liftO
    split at e
    · split at e
      · rename_i hz
        obtain ⟨v, v', rfl, rv, rv'⟩ := wrs2 r1
        rw [dq_int rv, dq_int rv']
        cases Option.some.inj e
        exact ⟨_, _, rfl, hz, k F1 m1 H1 (Same.refl _) (List.prefix_refl _) rl1 _ io_range⟩
      · cases e
    · cases e
/-- the signs of a text -/
def signsD (z : Str) : List PyData := z.cps.toList.map fun c => .str ⟨#[c]⟩
theorem io_str {z : Str} : IOk K F m (L2.Its z) (signsD z, always) := by
  have hl : (signsD z).length = z.cps.size := by unfold signsD; rw [List.length_map, Array.length_toList]
  refine ⟨fun _ => True, fun i H x H' => H' = H ∧ ∃ c, z.cps[i]? = some c ∧ x = .str ⟨#[c]⟩, ?_, fun _ _ _ _ _ _ _ _ => trivial, fun i H x H' F1 m1 st1 s p r _ y => ?_⟩
  · show Walk (L2.Its z) (signsD z).length _ _
    rw [hl]
    exact ⟨fun i H h _ => h, fun H _ => Nat.le_refl _, fun i H x H' h _ y => y⟩
  · obtain ⟨rfl, c, hc, rfl⟩ := y
    refine ⟨F1, .str ⟨#[c]⟩, Same.refl _, r, ?_, .str _, fun _ _ z => z, fun _ _ _ => rfl⟩
    unfold signsD
    rw [List.getElem?_map, Array.getElem?_toList, hc]
    rfl
def itemsS (_ : Sto) : W → Option Its
  | .d (.str z) => some (signsD z, always)
  | _ => none
theorem si_str (h : SE X Wx e f) : SI X Wx tg e (itF itemsS f) := PI.imp (pi_str h) fun σ H R hh => by
  obtain ⟨F, m, st, ρ, er, rl, hh⟩ := hh
  refine ⟨F, m, st, ρ, er, rl, After.mono (Same.refl F) (List.prefix_refl m) hh.bnd fun w F1 m1 H1 s1 p1 ⟨st1, _, _, rl1, h1⟩ v r1 => ?_⟩
  obtain ⟨q, e, k⟩ := h1.liftO
  cases w with
  | r i => cases e
  | d x =>
    cases x <;> first | (cases e; done) | skip
    rw [dq_str r1]
    cases Option.some.inj e
    exact ⟨_, rfl, k F1 m1 H1 (Same.refl _) (List.prefix_refl _) rl1 _ io_str⟩
end
end Ev
end
section
set_option Elab.async false
set_option linter.all false
set_option maxRecDepth 100000
set_option autoImplicit false
namespace Ev
open PySem PySem.Spec PyProof.Rows L2
theorem bnd_assoc {α β γ : Type} (m : M α) (f : α → M β) (g : β → M γ) : bnd (bnd m f) g = bnd m fun a => bnd (f a) g := by
  funext st
  unfold bnd
  cases m st <;> rfl
theorem bnd_ok {α β : Type} {m : M α} {f : α → M β} {st st' : Sto} {a : α} (h : m st = .ok a st') : bnd m f st = f a st' := by unfold bnd; rw [h]
theorem bnd_bad {α β : Type} {m : M α} {f : α → M β} {st : Sto} (h : m st = .bad) : bnd m f st = .bad := by unfold bnd; rw [h]
theorem bnd_ex {α β : Type} {m : M α} {f : α → M β} {st st' : Sto} {x : Ex} (h : m st = .ex x st') : bnd m f st = .ex x st' := by unfold bnd; rw [h]
theorem bnd_congr {α β : Type} {m m' : M α} {f : α → M β} {st : Sto} (h : m st = m' st) : bnd m f st = bnd m' f st := by unfold bnd; rw [h]
/-- an exception is not foreseen here -/
def noex {α : Type} (m : M α) : M α := fun st => match m st with
  | .ok a st' => .ok a st'
  | _ => .bad
theorem After.noex {K : PySem.W.Frag} {mg : Str → Option Value} {F : Hp} {m : List Addr} {E E' : XK} {α : Type} {x : M α} {st : Sto} {Q : α → Hp → List Addr → Hp → Prop} (h : After K mg F m E (noex x st) Q) : After K mg F m E' (x st) Q := by
  unfold Ev.noex at h
  cases z : x st with
  | ok a st' => rw [z] at h; exact h
  | ex y st' => rw [z] at h; exact h.elim
  | bad => rw [z] at h; exact h.elim
/-- one behind another, told of the ground ahead -/
theorem After.bnd0 {K : PySem.W.Frag} {mg : Str → Option Value} {F : Hp} {m : List Addr} {E : XK} {α β : Type} {x : M α} {f : α → M β} {st : Sto} {Q : β → Hp → List Addr → Hp → Prop} (h : After K mg F m E (Ev.bnd x f st) Q) :
    After K mg F m E (x st) (fun a F' m' H' => ∃ st', Rel K F' m' st' H' ∧ After K mg F m E (f a st') Q) := by
  cases e : x st with
  | ok a st' => rw [bnd_ok e] at h; exact fun F2 m2 H2 s2 p2 r2 => ⟨st', r2, h⟩
  | ex y st' => rw [bnd_ex e] at h; exact h
  | bad => rw [bnd_bad e] at h; exact h
/-! ## for -/
def loopS (chk : Sto → Bool) (asg : As) (body : S) : List PyData → S
  | [], ρ, st => if chk st = true then .go (.nx ρ) st else .bad
  | d :: ds, ρ, st => if chk st = true then (match asg d ρ with
    | none => .bad
    | some ρ1 => (match body ρ1 st with
      | .go (.nx ρ2) st2 => loopS chk asg body ds ρ2 st2
      | .go (.ct ρ2) st2 => loopS chk asg body ds ρ2 st2
      | .go (.bk ρ2) st2 => .go (.nx ρ2) st2
      | .go (.rt w) st2 => .go (.rt w) st2
      | .ex x ρ2 st2 => .ex x ρ2 st2
      | .bad => .bad)) else .bad
def forS (fi : Env → M Its) (asg : As) (body : S) : S := fun ρ => ofM (fi ρ) ρ fun p st => loopS p.2 asg body p.1 ρ st
theorem loopS_chk {g : Gd} {F : Hp} {m : List Addr} {Wx : WX} {D : Ends} {chk : Sto → Bool} {asg : As} {body : S} {ds : List PyData} {ρ : Env} {st : Sto} (h : AfterS g F m Wx (loopS chk asg body ds ρ st) D) : chk st = true := by
  cases ds with
  | nil =>
    dsimp only [loopS] at h
    split at h
    · assumption
    · exact h.elim
  | cons d ds =>
    dsimp only [loopS] at h
    split at h
    · assumption
    · exact h.elim
section
variable {X : Cx} {Wx : WX} {tg iter elt c : Expr} {body : List Stmt} {pos : Pos} {fi : Env → M Its} {asg : As} {is : List Nat} {fb : S}
theorem drop_cons {α : Type} {ds : List α} {i : Nat} {d : α} (h : ds[i]? = some d) : ds.drop i = d :: ds.drop (i + 1) := by
  obtain ⟨hi, rfl⟩ := List.getElem?_eq_some_iff.mp h
  exact List.drop_eq_getElem_cons hi
theorem ss_for (hp : PassesOwn (model X.prog X.w) X.A X.env X.xe) (hc : X.calm = true) (hi : SI X Wx tg iter fi) (hg : PG X tg (gM X asg is)) (hb : SSs X Wx body fb)
    (hs : ∀ x, foldedSetIterable iter X.env x = pure x := by intro _; rfl) : SS X Wx (.For tg iter body [] pos) (forS fi asg fb) :=
  PS.imp (ps_for hp hc hi hg hb hs) fun D σ H h => by
    obtain ⟨F, m, st, ρ, er, rl, h⟩ := h
    refine ⟨F, m, st, ρ, er, rl, After.mono (Same.refl F) (List.prefix_refl m) (AfterS.ofM er h) fun p F1 m1 H1 s1 p1 ⟨st1, _, _, rl1, h1⟩ J io => ?_⟩
    obtain ⟨ds, chk⟩ := p
    obtain ⟨G, Y, w, hG, hY⟩ := io
    have h1 : AfterS (gd X) F1 m1 Wx (loopS chk asg fb ds ρ st1) D := h1
    refine for_it w (fun i σ' H' => ∃ F2 m2 st2 ρ2, Same F1 F2 ∧ m1 <+: m2 ∧ Rel X.K F2 m2 st2 H' ∧ EnvR (gd X) F2 m2 ρ2 σ' ∧ AfterS (gd X) F2 m2 Wx (loopS chk asg fb (ds.drop i) ρ2 st2) D)
      ⟨F1, m1, st1, ρ, Same.refl _, List.prefix_refl _, rl1, er.mono s1 p1, h1⟩ ?_ ?_ ?_
    · rintro i σ' H' _ ⟨F2, m2, st2, ρ2, s2, p2, r2, er2, h2⟩
      exact hG F2 m2 st2 H' s2 p2 r2 (loopS_chk h2)
    · rintro i x σ' H' H2 hi ⟨F2, m2, st2, ρ2, s2, p2, r2, er2, h2⟩ y
      obtain ⟨F3, d, s3, r3, hd, rd, _, _⟩ := hY i H' x H2 F2 m2 st2 s2 p2 r2 (loopS_chk h2) y
      have hd : ds[i]? = some d := hd
      rw [drop_cons hd] at h2
      dsimp only [loopS] at h2
      split at h2
      · cases z : asg d ρ2 with
        | none => rw [z] at h2; exact h2.elim
        | some ρ3 =>
          rw [z] at h2
          refine ⟨F3, m2, ρ2, d, ρ3, r3.sub, er2.mono s3 (List.prefix_refl _), rd, z, fun σ3 er3 _ => ⟨F3, m2, st2, ρ3, er3, r3, ?_⟩⟩
          dsimp only at h2
          cases y : fb ρ3 st2 with
          | go fl st4 =>
            rw [y] at h2
            cases fl with
            | nx ρ4 => exact fun F5 m5 H5 σ5 s5 p5 r5 er5 => ⟨F5, m5, st4, ρ4, (s2.trans s3).trans s5, pre_trans p2 p5, r5, er5, AfterS.mono (s3.trans s5) p5 h2⟩
            | ct ρ4 => exact fun F5 m5 H5 σ5 s5 p5 r5 er5 => ⟨F5, m5, st4, ρ4, (s2.trans s3).trans s5, pre_trans p2 p5, r5, er5, AfterS.mono (s3.trans s5) p5 h2⟩
            | bk ρ4 => exact fun F5 m5 H5 σ5 s5 p5 r5 er5 => h2 F5 m5 H5 σ5 (s3.trans s5) p5 r5 er5
            | rt w => exact fun F5 m5 H5 v s5 p5 r5 hv => h2 F5 m5 H5 v (s3.trans s5) p5 r5 hv
          | ex x ρ4 st4 => rw [y] at h2; exact fun F5 m5 H5 σ5 c dd s5 p5 r5 er5 e5 => h2 F5 m5 H5 σ5 c dd (s3.trans s5) p5 r5 er5 e5
          | bad => rw [y] at h2; exact h2.elim
      · exact h2.elim
    · rintro σ' H' ⟨F2, m2, st2, ρ2, s2, p2, r2, er2, h2⟩
      have e : ds.drop ds.length = [] := List.drop_length
      have h2 : AfterS (gd X) F2 m2 Wx (loopS chk asg fb (ds.drop ds.length) ρ2 st2) D := h2
      rw [e] at h2
      dsimp only [loopS] at h2
      split at h2
      · exact h2 F2 m2 H' σ' (Same.refl _) (List.prefix_refl _) r2 er2
      · exact h2.elim

/-! ## while -/
def whileS (g : Env → M Bool) (body : S) : Nat → S
  | 0, _, _ => .bad
  | n + 1, ρ, st => (match g ρ st with
    | .ok false st1 => .go (.nx ρ) st1
    | .ok true st1 => (match body ρ st1 with
      | .go (.nx ρ2) st2 => whileS g body n ρ2 st2
      | .go (.ct ρ2) st2 => whileS g body n ρ2 st2
      | .go (.bk ρ2) st2 => .go (.nx ρ2) st2
      | .go (.rt w) st2 => .go (.rt w) st2
      | .ex x ρ2 st2 => .ex x ρ2 st2
      | .bad => .bad)
    | .ex x st1 => .ex x ρ st1
    | .bad => .bad)
end

/-! ## list comprehensions -/
def wipeE (ρ : Env) : List Nat → Env
  | [] => ρ
  | v :: vs => (wipeE ρ vs).set v none
theorem EnvR.wipe {g : Gd} {F : Hp} {m : List Addr} {ρ : Env} {σ : L2.St} (h : EnvR g F m ρ σ) : ∀ vs : List Nat, EnvR g F m (wipeE ρ vs) (wipe σ vs)
  | [] => h
  | v :: vs => (EnvR.wipe h vs).unset v
theorem wipe_get {σ : L2.St} {j : Nat} : ∀ {vs : List Nat}, j ∉ vs → (wipe σ vs)[j]? = σ[j]?
  | [], _ => rfl
  | v :: vs, h => by
    unfold wipe
    rw [List.getElem?_set_ne (fun e => h (by rw [e]; exact List.mem_cons_self))]
    exact wipe_get fun z => h (List.mem_cons_of_mem _ z)
theorem wipe_in {σ : L2.St} {j : Nat} : ∀ {vs : List Nat}, j ∈ vs → (wipe σ vs)[j]? = if j < σ.length then some none else none
  | v :: vs, h => by
    unfold wipe
    by_cases e : v = j
    · subst e
      by_cases hv : v < σ.length
      · rw [List.getElem?_set_self (by rw [wipe_length]; exact hv), if_pos hv]
      · rw [List.getElem?_eq_none (by rw [List.length_set, wipe_length]; omega), if_neg hv]
    · rw [List.getElem?_set_ne e]
      exact wipe_in ((List.mem_cons.mp h).resolve_left (Ne.symm e))
theorem wipe_only {σ τ : L2.St} {is vs : List Nat} (o : Only is (wipe σ vs) τ) (h : ∀ j ∈ is, j ∈ vs) : wipe τ vs = wipe σ vs := by
  have hl : τ.length = σ.length := by rw [o.1, wipe_length]
  refine List.ext_getElem? fun j => ?_
  by_cases hj : j ∈ vs
  · rw [wipe_in hj, wipe_in hj, hl]
  · rw [wipe_get hj, wipe_get hj, o.2 j fun z => hj (h j z), wipe_get hj]
def tLockT (t : TT) : TT := fun σ H Q => ∃ d u, H d = some u ∧ Mut (some u) ∧ ∀ od, t σ (upd H d (.frz od u)) fun v H' => H' d = some (.frz od u) ∧ Q v (upd H' d u)
theorem pt_lock {X : Cx} {e : Expr} {t : TT} (h : PT X e t) : PT X e (tLockT t) := by
  refine ⟨fun pins s σ H Q I hw => ?_⟩
  obtain ⟨d, u, hd, mu, hw⟩ := hw
  obtain ⟨od, I1⟩ := I.lock hd mu
  exact thn (h.run pins s σ _ _ I1 (hw od)) fun v s1 ⟨H1, I2, e2, q⟩ => ⟨_, I2.unlock e2 (I.nofrz hd mu), q⟩
def delA (H : Hp) (a : Addr) : Hp := fun b => if b = a then none else H b
section
variable {K : PySem.W.Frag} {F : Hp} {D : Addr} {od : Obj} {acc : List V} {m : List Addr} {st : Sto} {H : Hp}
theorem delA_ne {b : Addr} (h : b ≠ D) : delA F D b = F b := if_neg h
theorem delA_self : delA F D D = none := if_pos rfl
theorem seqT_forget (e : F D = some (.frz od (.lst acc))) {a : Addr} {xs : List V} (h : SqT K F a xs) : SqT K (delA F D) a xs := by
  rcases h with (h | ⟨o, h⟩) | h
  · exact .inl (.inl (by rw [delA_ne (fun z => by rw [z, e] at h; cases h)]; exact h))
  · exact .inl (.inr ⟨o, by rw [delA_ne (fun z => by rw [z, e] at h; cases h)]; exact h⟩)
  · exact .inr h
mutual
theorem Dq.forget (e : F D = some (.frz od (.lst acc))) : ∀ {v : V} {d : PyData}, Dq K F v d → Dq K (delA F D) v d
  | _, _, .non => .non
  | _, _, .bl b => .bl b
  | _, _, .int i => .int i
  | _, _, .str x => .str x
  | _, _, .lst h t => .lst (by rw [delA_ne (fun z => by rw [z, e] at h; cases h)]; exact h) (DqAll.forget e t)
  | _, _, .tup h t => .tup (seqT_forget e h) (DqAll.forget e t)
theorem DqAll.forget (e : F D = some (.frz od (.lst acc))) : ∀ {vs : List V} {ds : List PyData}, DqAll K F vs ds → DqAll K (delA F D) vs ds
  | _, _, .nil => .nil
  | _, _, .cons h t => .cons (Dq.forget e h) (DqAll.forget e t)
end
theorem WR.forget (e : F D = some (.frz od (.lst acc))) : ∀ {w : W} {v : V}, WR K F m w v → WR K (delA F D) m w v
  | .d x, v, h => Dq.forget e h
  | .r i, v, h => h
theorem WRs.forget (e : F D = some (.frz od (.lst acc))) : ∀ {w : List W} {v : List V}, WRs K F m w v → WRs K (delA F D) m w v
  | _, _, .nil => .nil
  | _, _, .cons h t => .cons (h.forget e) (WRs.forget e t)
/-- the list in the making, while its next item is reckoned -/
theorem nt_upd {F : Hp} {D : Addr} {o : HO} (h : ∀ (b : Addr) (ps : Array Value), F b ≠ some (.tbl ps)) (ho : ∀ ps, o ≠ .tbl ps) : ∀ (b : Addr) (ps : Array Value), upd F D o b ≠ some (.tbl ps) := fun b ps z => by
  by_cases hb : b = D
  · subst hb; rw [upd_same] at z; exact ho ps (Option.some.inj z)
  · rw [upd_ne hb] at z; exact h b ps z
theorem Rel.lock (rl : Rel K F m st H) (hF : F D = none) (hD : H D = some (.lst acc)) (hm : D ∉ m) : Rel K (upd F D (.frz od (.lst acc))) m st (upd H D (.frz od (.lst acc))) := by
  have ne : ∀ a ∈ m, a ≠ D := fun a ha e => hm (e ▸ ha)
  refine ⟨fun a u e => ?_, rl.len, rl.nd, fun a ha => by rw [upd_ne (ne a ha)]; exact rl.out a ha, fun a ha => by rw [upd_ne (ne a ha)]; exact rl.here a ha, fun i a so h1 h2 => ?_, nt_upd rl.nt nofun⟩
  · by_cases ha : a = D
    · subst ha; rw [upd_same] at e ⊢; exact e
    · rw [upd_ne ha] at e ⊢; exact rl.sub a u e
  · refine (rl.obj i a so h1 h2).keep (fun b u e => ?_) (List.prefix_refl m) (upd_ne (ne a (List.mem_of_getElem? h1)))
    rw [upd_ne (fun z => by rw [z, hF] at e; cases e)]; exact e
theorem SR.forget {a : Addr} {H' : Hp} (e : F D = some (.frz od (.lst acc))) (eH : H' a = H a) : ∀ {so : SO}, SR K F m H a so → SR K (delA F D) m H' a so
  | .lst ws, ⟨vs, h1, h2⟩ => ⟨vs, by rw [eH]; exact h1, h2.forget e⟩
  | .dic kvs, ⟨ps, h1, h2⟩ => ⟨ps, by rw [eH]; exact h1, Paired.mapP h2 fun _ _ ⟨x, y⟩ => ⟨x, y.forget e⟩⟩
  | .dead, ⟨o, h1, h2⟩ => ⟨o, by rw [eH]; exact h1, h2⟩
  | .tab P q, ⟨ea, ps, h1, h2, h3⟩ => ⟨ea, ps, by rw [eH]; exact h1, h2, fun p cv h => let ⟨c, e1, e2⟩ := h3 p cv h; ⟨c, e1, by rw [delA_ne (fun z => by rw [z, e] at e2; cases e2)]; exact e2⟩⟩
theorem Rel.unlock {o : HO} (rl : Rel K F m st H) (e : F D = some (.frz od (.lst acc))) : Rel K (delA F D) m st (upd H D o) ∧ D ∉ m := by
  have hm : D ∉ m := fun z => by rw [rl.out D z] at e; cases e
  have ne : ∀ a ∈ m, a ≠ D := fun a ha z => hm (z ▸ ha)
  refine ⟨⟨fun a u e1 => ?_, rl.len, rl.nd, fun a ha => by rw [delA_ne (ne a ha)]; exact rl.out a ha, fun a ha => by rw [upd_ne (ne a ha)]; exact rl.here a ha, fun i a so h1 h2 => ?_, fun b ps z => ?_⟩, hm⟩
  · by_cases ha : a = D
    · subst ha; rw [delA_self] at e1; cases e1
    · rw [delA_ne ha] at e1; rw [upd_ne ha]; exact rl.sub a u e1
  · exact (rl.obj i a so h1 h2).forget e (upd_ne (ne a (List.mem_of_getElem? h1)))
  · by_cases hb : b = D
    · subst hb; rw [delA_self] at z; cases z
    · rw [delA_ne hb] at z; exact rl.nt b ps z
theorem same_unlock {F0 F' : Hp} (s : Same (upd F0 D (.frz od (.lst acc))) F') (h0 : F0 D = none) : Same F0 (delA F' D) := fun a u e => by
  have ha : a ≠ D := fun z => by rw [z, h0] at e; cases e
  rw [delA_ne ha]
  exact s a u (by rw [upd_ne ha]; exact e)
theorem same_lock {F0 : Hp} {o : HO} (h0 : F0 D = none) : Same F0 (upd F0 D o) := fun a u e => by
  rw [upd_ne (fun z => by rw [z, h0] at e; cases e)]; exact e
/-- a tracked object becomes data -/
theorem Rel.adopt {o : HO} (rl : Rel K F m st H) (hF : F D = none) (hD : H D = some o) (hm : D ∉ m) (ho : ∀ ps, o ≠ .tbl ps := by nofun) : Rel K (upd F D o) m st H := by
  have ne : ∀ a ∈ m, a ≠ D := fun a ha e => hm (e ▸ ha)
  refine ⟨fun a u e => ?_, rl.len, rl.nd, fun a ha => by rw [upd_ne (ne a ha)]; exact rl.out a ha, rl.here, fun i a so h1 h2 => (rl.obj i a so h1 h2).keep (same_lock hF) (List.prefix_refl m) rfl, nt_upd rl.nt ho⟩
  by_cases ha : a = D
  · subst ha; rw [upd_same] at e; rw [← e]; exact hD
  · rw [upd_ne ha] at e; exact rl.sub a u e
/-- a tracked object joins the store -/
theorem Rel.enroll {so : SO} {o : HO} (rl : Rel K F m st H) (hF : F D = none) (hD : H D = some o) (hm : D ∉ m) (hs : SR K F (m ++ [D]) H D so) : Rel K F (m ++ [D]) (st ++ [so]) H := by
  refine ⟨rl.sub, by rw [List.length_append, List.length_append, rl.len]; rfl, ?_, fun a ha => ?_, fun a ha => ?_, fun i a s' h1 h2 => ?_, rl.nt⟩
  · exact List.nodup_append.mpr ⟨rl.nd, by simp, fun a ha b hb e => hm (by rw [List.mem_singleton.mp hb] at e; exact e ▸ ha)⟩
  · rcases List.mem_append.mp ha with h | h
    · exact rl.out a h
    · rw [List.mem_singleton.mp h]; exact hF
  · rcases List.mem_append.mp ha with h | h
    · exact rl.here a h
    · rw [List.mem_singleton.mp h]; exact ⟨_, hD⟩
  · by_cases hi : i < m.length
    · rw [List.getElem?_append_left hi] at h1
      rw [List.getElem?_append_left (by rw [← rl.len]; exact hi)] at h2
      exact (rl.obj i a s' h1 h2).keep (Same.refl F) (List.prefix_append m [D]) rfl
    · have hz : i = m.length := by
        have := (List.getElem?_eq_some_iff.mp h1).1
        rw [List.length_append, List.length_singleton] at this
        omega
      subst hz
      rw [List.getElem?_append_right (Nat.le_refl _), Nat.sub_self] at h1
      rw [rl.len, List.getElem?_append_right (Nat.le_refl _), Nat.sub_self] at h2
      cases Option.some.inj h1
      cases Option.some.inj h2
      exact hs
end
abbrev Wn : WX := fun _ _ _ _ => False
def compL (chk : Sto → Bool) (vs : List Nat) (asg : As) (gt : Env → M Bool) (fe : Env → M W) (ρ : Env) : List PyData → List W → M (List W)
  | [], acc => fun st => if chk st = true then .ok acc st else .bad
  | d :: ds, acc => fun st => if chk st = true then (match asg d (wipeE ρ vs) with
    | none => .bad
    | some ρ1 => bnd (noex (gt ρ1)) (fun k => if k = true then bnd (noex (fe ρ1)) fun w => compL chk vs asg gt fe ρ ds (acc ++ [w]) else compL chk vs asg gt fe ρ ds acc) st) else .bad
theorem compL_chk {K : PySem.W.Frag} {mg : Str → Option Value} {F : Hp} {m : List Addr} {E : XK} {α : Type} {Q : α → Hp → List Addr → Hp → Prop} {chk : Sto → Bool} {vs : List Nat} {asg : As} {gt : Env → M Bool} {fe : Env → M W} {ρ : Env} {ds : List PyData} {acc : List W} {k : List W → M α} {st : Sto}
    (h : After K mg F m E (bnd (compL chk vs asg gt fe ρ ds acc) k st) Q) : chk st = true := by
  by_cases hc : chk st = true
  · exact hc
  · exfalso
    cases ds with
    | nil =>
      have e : bnd (compL chk vs asg gt fe ρ [] acc) k st = .bad := bnd_bad (by dsimp only [compL]; rw [if_neg hc])
      rw [e] at h; exact h
    | cons d ds =>
      have e : bnd (compL chk vs asg gt fe ρ (d :: ds) acc) k st = .bad := bnd_bad (by dsimp only [compL]; rw [if_neg hc])
      rw [e] at h; exact h
/-- the list that has been made: as data; as a mutable list -/
def lcF (fi : Env → M Its) (vs : List Nat) (asg : As) (gt : Env → M Bool) (fe : Env → M W) (fin : List W → M W) : Env → M W := fun ρ => bnd (fi ρ) fun p => if p.1.length < sizeLine then bnd (compL p.2 vs asg gt fe ρ p.1 []) fin else bad
def asData (ws : List W) : M W := liftO fun _ => (allD ws).map fun ds => .d (.list ds)
def asMut (ws : List W) : M W := fun st => .ok (.r st.length) (st ++ [.lst ws])
/-- how a list that was made comes into the world -/
def Fin (X : Cx) (fin : List W → M W) : Prop := ∀ (F : Hp) (m : List Addr) (st : Sto) (H : Hp) (D : Addr) (ws : List W) (vs : List V) (E : XK) (Q : VK), Rel X.K F m st H → F D = none → H D = some (.lst vs) → D ∉ m → WRs X.K F m ws vs →
  After X.K X.mg F m E (fin ws st) (fun w F' m' H' => ∀ v, WR X.K F' m' w v → Q v H') → Q (.ref D) H
theorem fin_data {X : Cx} : Fin X asData := fun F m st H D ws vs E Q rl hF hD hm r h => by
  obtain ⟨w, e, q⟩ := h.liftO
  cases z : allD ws with
  | none => rw [z] at e; cases e
  | some ds =>
    rw [z] at e
    cases Option.some.inj e
    exact q _ m H (same_lock hF) (List.prefix_refl m) (rl.adopt hF hD hm) _ (show Dq _ _ _ _ from .lst upd_same ((allD_ok r z).mono (same_lock hF)))
theorem fin_mut {X : Cx} : Fin X asMut := fun F m st H D ws vs E Q rl hF hD hm r h => by
  have h : ∀ F' m' H', Same F F' → m <+: m' → Rel X.K F' m' (st ++ [.lst ws]) H' → ∀ v, WR X.K F' m' (.r st.length) v → Q v H' := h
  refine h F (m ++ [D]) H (Same.refl F) (List.prefix_append m [D]) (rl.enroll hF hD hm ⟨vs, hD, r.mono (Same.refl F) (List.prefix_append m [D])⟩) _ ⟨D, ?_, rfl⟩
  rw [← rl.len, List.getElem?_append_right (Nat.le_refl _), Nat.sub_self]
  rfl
section
variable {X : Cx} {Wx : WX} {tg iter elt c : Expr} {ifs : List Expr} {pos : Pos} {scope : Scope} {own : List (Str × Nat)} {fi : Env → M Its} {asg : As} {is : List Nat} {gt : Env → M Bool} {fe : Env → M W} {fin : List W → M W}
/-- the tests of a comprehension -/
abbrev STs (X : Cx) (ifs : List Expr) (gt : Env → M Bool) : Prop := PTs X ifs (tLockT (tB X Wn gt))
theorem sts_nil {X : Cx} : STs X [] (fun _ => ret true) := ⟨fun pins s σ H Q I h => by
  obtain ⟨d, u, hd, mu, h⟩ := h
  obtain ⟨od, I1⟩ := I.lock hd mu
  obtain ⟨F, m, st, ρ, er, rl, h⟩ := h od
  obtain ⟨e, q⟩ := h.here rl
  exact wpAny_tests_nil ⟨_, I1.unlock e (I.nofrz hd mu), q⟩⟩
theorem sts_one {X : Cx} (h : SB X Wn c gt) : STs X [c] gt := pts_one (pt_lock h)
theorem tM_lc {σ : L2.St} {H : Hp} {Q : VK} (hin : ∀ j ∈ is, j ∈ own.map (·.2)) (hf : Fin X fin) (h : tM X Wx (lcF fi (own.map (·.2)) asg gt fe fin) σ H Q) :
    tLc (tI X Wx fi) (gM X asg is) (tLockT (tB X Wn gt)) (tLockE (tM X Wn fe)) (own.map (·.2)) σ H Q := by
  obtain ⟨F, m, st, ρ, er, rl, h⟩ := h
  refine ⟨F, m, st, ρ, er, rl, After.mono (Same.refl F) (List.prefix_refl m) h.bnd fun p F1 m1 H1 s1 p1 ⟨st1, _, _, rl1, h1⟩ J io D hD => ?_⟩
  obtain ⟨ds, chk⟩ := p
  obtain ⟨G, Y, w, hG, hY⟩ := io
  generalize hvs : own.map (·.2) = vs at *
  have F1D : F1 D = none := rl1.free hD
  have hlen : ds.length < sizeLine := by
    by_cases z : ds.length < sizeLine
    · exact z
    · rw [if_neg z] at h1; exact h1.elim
  have h1 : After X.K X.mg F1 m1 (fun c d H' => Wx c d σ H') (bnd (compL chk vs asg gt fe ρ ds []) fin st1) (fun w F' m' H' => ∀ v, WR X.K F' m' w v → Q v H') := by
    rw [if_pos hlen] at h1; exact h1
  have nm1 : D ∉ m1 := fun z => by obtain ⟨o, ho⟩ := rl1.here D z; rw [hD] at ho; cases ho
  refine lc_it w (fun i H' => ∃ F2 m2 st2 accW acc, Same F1 F2 ∧ m1 <+: m2 ∧ Rel X.K F2 m2 st2 H' ∧ F2 D = none ∧ H' D = some (.lst acc) ∧ WRs X.K F2 m2 accW acc ∧ D ∉ m2 ∧ acc.length ≤ i ∧
      After X.K X.mg F2 m2 (fun c d H' => Wx c d σ H') (bnd (compL chk vs asg gt fe ρ (ds.drop i) accW) fin st2) (fun w F' m' H' => ∀ v, WR X.K F' m' w v → Q v H')) ?_ ?_ ?_ ?_
  · have ne : ∀ a ∈ m1, a ≠ D := fun a ha e => nm1 (e ▸ ha)
    refine ⟨F1, m1, st1, [], [], Same.refl _, List.prefix_refl _, ⟨fun a u e => ?_, rl1.len, rl1.nd, rl1.out, fun a ha => by rw [upd_ne (ne a ha)]; exact rl1.here a ha, fun i a so e1 e2 => (rl1.obj i a so e1 e2).keep (Same.refl _) (List.prefix_refl _) (upd_ne (ne a (List.mem_of_getElem? e1))), rl1.nt⟩, F1D, upd_same, .nil, nm1, Nat.le_refl _, h1⟩
    rw [upd_ne (fun z => by rw [z, F1D] at e; cases e)]
    exact rl1.sub a u e
  · rintro i H' _ ⟨F2, m2, st2, accW, acc, s2, p2, r2, _, _, _, _, _, h2⟩
    exact hG F2 m2 st2 H' s2 p2 r2 (compL_chk h2)
  · rintro i x H' H2 hi ⟨F2, m2, st2, accW, acc, s2, p2, r2, f2, hd2, ra, nm2, hl, h2⟩ y
    have hck := compL_chk h2
    obtain ⟨F3, d, s3, r3, hd, rd, kp, kf⟩ := hY i H' x H2 F2 m2 st2 s2 p2 r2 hck y
    have hd : ds[i]? = some d := hd
    have hi : i < ds.length := hi
    have hD3 : H2 D = some (.lst acc) := kp _ _ hd2
    have f3 : F3 D = none := (kf _ _ hd2).trans f2
    rw [drop_cons hd] at h2
    cases z : asg d (wipeE ρ vs) with
    | none =>
      have e : bnd (compL chk vs asg gt fe ρ (d :: ds.drop (i + 1)) accW) fin st2 = .bad := bnd_bad (by dsimp only [compL]; rw [if_pos hck, z])
      rw [e] at h2
      exact h2.elim
    | some ρ3 =>
      have e : bnd (compL chk vs asg gt fe ρ (d :: ds.drop (i + 1)) accW) fin st2 = bnd (noex (gt ρ3)) (fun k => bnd (if k = true then bnd (noex (fe ρ3)) fun w => compL chk vs asg gt fe ρ (ds.drop (i + 1)) (accW ++ [w]) else compL chk vs asg gt fe ρ (ds.drop (i + 1)) accW) fin) st2 := by
        rw [← bnd_assoc]
        exact bnd_congr (by dsimp only [compL]; rw [if_pos hck, z])
      rw [e] at h2
      refine ⟨F3, m2, _, d, ρ3, r3.sub, (((er.mono s1 p1).mono (s2.trans s3) p2).wipe vs), rd, z, fun σ3 er3 on => ⟨wipe_only on hin, ?_⟩⟩
      refine ⟨D, _, hD3, trivial, fun od => ⟨upd F3 D (.frz od (.lst acc)), m2, st2, ρ3, er3.mono (same_lock f3) (List.prefix_refl _), r3.lock f3 hD3 nm2, ?_⟩⟩
      refine After.mono (s3.trans (same_lock f3 (o := .frz od (.lst acc)))) (List.prefix_refl m2) h2.bnd0.noex fun k F4 m4 H4 s4 p4 ⟨st4, r4, h4⟩ => ?_
      have f4 : F4 D = some (.frz od (.lst acc)) := s4 D _ upd_same
      refine ⟨r4.sub D _ f4, ?_⟩
      obtain ⟨r5, nm4⟩ := r4.unlock (o := .lst acc) f4
      have s5 : Same F3 (delA F4 D) := same_unlock s4 f3
      have ra5 : WRs X.K (delA F4 D) m4 accW acc := ra.mono (s3.trans s5) p4
      have er5 : EnvR (gd X) (delA F4 D) m4 ρ3 σ3 := er3.mono s5 p4
      have h5 := After.mono (s3.trans s5) p4 h4 fun _ _ _ _ _ _ q => q
      cases k with
      | false =>
        rw [if_neg Bool.false_ne_true] at h5 ⊢
        exact ⟨delA F4 D, m4, st4, accW, acc, s2.trans (s3.trans s5), pre_trans p2 p4, r5, delA_self, upd_same, ra5, nm4, by omega, h5⟩
      | true =>
        rw [if_pos rfl] at h5 ⊢
        rw [bnd_assoc] at h5
        refine ⟨D, _, upd_same, trivial, fun od' => ⟨upd (delA F4 D) D (.frz od' (.lst acc)), m4, st4, ρ3, er5.mono (same_lock delA_self) (List.prefix_refl _), r5.lock delA_self upd_same nm4, ?_⟩⟩
        refine After.mono (same_lock delA_self (o := .frz od' (.lst acc))) (List.prefix_refl m4) h5.bnd0.noex fun w F6 m6 H6 s6 p6 ⟨st6, r6, h6⟩ v rv => ?_
        have f6 : F6 D = some (.frz od' (.lst acc)) := s6 D _ upd_same
        refine ⟨r6.sub D _ f6, acc, upd_same, by omega, ?_⟩
        obtain ⟨r7, nm6⟩ := r6.unlock (o := .lst (acc ++ [v])) f6
        have s7 : Same (delA F4 D) (delA F6 D) := same_unlock s6 delA_self
        rw [upd_upd]
        refine ⟨delA F6 D, m6, st6, accW ++ [w], acc ++ [v], (s2.trans (s3.trans s5)).trans s7, pre_trans (pre_trans p2 p4) p6, r7, delA_self, upd_same, ?_, nm6, by rw [List.length_append, List.length_singleton]; omega, After.mono s7 p6 h6 fun _ _ _ _ _ _ q => q⟩
        exact Paired.snoc (ra5.mono s7 p6) (rv.forget f6)
  · rintro H' ⟨F2, m2, st2, accW, acc, s2, p2, r2, f2, hd2, ra, nm2, hl, h2⟩
    have e : ds.drop ds.length = [] := List.drop_length
    have h2 : After X.K X.mg F2 m2 (fun c d H' => Wx c d σ H') (bnd (compL chk vs asg gt fe ρ (ds.drop ds.length) accW) fin st2) (fun w F' m' H' => ∀ v, WR X.K F' m' w v → Q v H') := h2
    have hck := compL_chk h2
    rw [e] at h2
    have e2 : bnd (compL chk vs asg gt fe ρ [] accW) fin st2 = fin accW st2 := bnd_ok (by dsimp only [compL]; rw [if_pos hck])
    rw [e2] at h2
    exact hf F2 m2 st2 H' D accW acc _ Q r2 f2 hd2 nm2 ra h2
theorem se_lc (hc : X.calm = true) (hN : X.N.Nodup) (hi : SI X Wx tg iter fi) (ok : BlkOk X.N X.env.scope scope own)
    (hg : ∀ (s : Shared) (H : Hp) (C : Addr) (cl : List (Str × Addr)) (fp : List Addr), PG (X.blk s H scope (compEnvC scope cl C X.env) fp) tg (gM X asg is)) (ht : ∀ (s : Shared) (H : Hp) (C : Addr) (cl : List (Str × Addr)) (fp : List Addr), STs (X.blk s H scope (compEnvC scope cl C X.env) fp) ifs gt)
    (he : ∀ (s : Shared) (H : Hp) (C : Addr) (cl : List (Str × Addr)) (fp : List Addr), SE (X.blk s H scope (compEnvC scope cl C X.env) fp) Wn elt fe) (hf : Fin X fin) (hin : ∀ j ∈ is, j ∈ own.map (·.2) := by decide) (hs : ∀ x, foldedSetIterable iter X.env x = pure x := by intro _; rfl) :
    SE X Wx (.ListComp elt [⟨tg, iter, ifs, 0⟩] scope pos) (lcF fi (own.map (·.2)) asg gt fe fin) :=
  PE.imp (pe_lc hc hN hi ok hg (fun s H C cl fp => ht s H C cl fp) (fun s H C cl fp => pe_lock (he s H C cl fp)) hs) fun σ H Q h => tM_lc hin hf h
theorem ss_setLc {i : Nat} {y : Str} {py spos : Pos} (hc : X.calm = true) (hN : X.N.Nodup) (hy : X.N[i]? = some y) (hyl : X.env.scope.names.lookup y = some .local)
    (hsw : swapsWith (.ListComp elt [⟨tg, iter, ifs, 0⟩] scope pos) (some (.Name y py)) spos.line X.env = pure true) (hi : SI X Wx tg iter fi) (ok : BlkOk X.N X.env.scope scope own)
    (hg : ∀ (s : Shared) (H : Hp) (C : Addr) (cl : List (Str × Addr)) (fp : List Addr), PG (X.blk s H scope (compEnvC scope cl C X.env) fp) tg (gM X asg is)) (ht : ∀ (s : Shared) (H : Hp) (C : Addr) (cl : List (Str × Addr)) (fp : List Addr), STs (X.blk s H scope (compEnvC scope cl C X.env) fp) ifs gt)
    (he : ∀ (s : Shared) (H : Hp) (C : Addr) (cl : List (Str × Addr)) (fp : List Addr), SE (X.blk s H scope (compEnvC scope cl C X.env) fp) Wn elt fe) (hf : Fin X fin) (hin : ∀ j ∈ is, j ∈ own.map (·.2) := by decide) (hs : ∀ x, foldedSetIterable iter X.env x = pure x := by intro _; rfl) :
    SS X Wx (.Assign [.Name y py] (.ListComp elt [⟨tg, iter, ifs, 0⟩] scope pos) spos) (asgS i (lcF fi (own.map (·.2)) asg gt fe fin)) :=
  PS.imp (ps_setLc hc hN hy hyl hsw hi ok hg (fun s H C cl fp => ht s H C cl fp) (fun s H C cl fp => pe_lock (he s H C cl fp)) hs) fun D σ H h => tM_lc hin hf (tS_asg h)
end
end Ev
end
section
set_option Elab.async false
set_option linter.all false
set_option maxRecDepth 100000
set_option autoImplicit false
namespace Ev
open PySem PySem.Spec PyProof.Rows L2
/-! ## a def's promise, its call -/
def spM (g : Gd) (n : Nat) (fn : List W → M W) : Sp := fun vs H Q E => vs.length = n ∧ ∃ F m st ws, WRs g.K F m ws vs ∧ Rel g.K F m st H ∧ After g.K g.mg F m E (fn ws st) (fun w F' m' H' => ∀ v, WR g.K F' m' w v → Q v H')
/-- the def stands at f and does fn -/
structure Def (g : Gd) (x : Str) (k n : Nat) (fn : List W → M W) : Prop where
  ex : ∃ f fd ps, g.mg x = some (.ref f) ∧ PySem.W.keepIn g.K (.ref f) = true ∧ L2.Binds g.K fd ps [] ∧ ps.length = n ∧ FnOk g.P g.w g.K g.mg g.base (L2.CX g.P g.w) k f fd ps (spM g n fn)
section
variable {X : Cx} {Wx : WX} {e : Expr} {es : List Expr} {x : Str} {p pos : Pos} {k j n : Nat} {fn : List W → M W} {fs : Env → M (List W)}
def callU (n : Nat) (fn : List W → M W) (fs : Env → M (List W)) : Env → M W := fun ρ => bnd (fs ρ) fun ws => if ws.length = n then fn ws else bad
theorem se_user (d : Def (gd X) x k n fn) (hr : Room j X.A) (hg : Gl X x) (tk : Takes X Wx) (ha : SA X Wx (e :: es) fs) (hk : k ≤ j := by decide) (hdb : (x == ("__debug__" : Str)) = false := by decide)
    (he : starEach (e :: es) X.env = (false, eval e X.env) :: starEach es X.env := by rfl) (hpl : (backTo pos (starEach es X.env)).any (·.1) = false := by rfl) : SE X Wx (.Call (.Name x p) (e :: es) [] pos) (callU n fn fs) := by
  obtain ⟨f, fd, ps, hm, hkp, hb, hl, F⟩ := d.ex
  refine PE.imp (pe_callS F (hr.mono hk) hg hm hkp hb (fun σ => passAt tk σ) ha hdb he hpl) fun σ H Q h => ?_
  obtain ⟨F, m, st, ρ, er, rl, h⟩ := h
  refine ⟨F, m, st, ρ, er, rl, After.mono (Same.refl F) (List.prefix_refl m) h.bnd fun ws F1 m1 H1 s1 p1 ⟨st1, _, _, rl1, h1⟩ vs r1 => ?_⟩
  split at h1
  · rename_i hz
    exact ⟨by rw [← PySem.Paired.length r1]; exact hz, F1, m1, st1, ws, r1, rl1, h1⟩
  · exact h1.elim
theorem se_user0 (d : Def (gd X) x k 0 fn) (hr : Room j X.A) (hg : Gl X x) (tk : Takes X Wx) (hk : k ≤ j := by decide) (hdb : (x == ("__debug__" : Str)) = false := by decide) : SE X Wx (.Call (.Name x p) [] [] pos) (fun _ => fn []) := by
  obtain ⟨f, fd, ps, hm, hkp, hb, hl, F⟩ := d.ex
  refine ⟨fun pins s σ H Q I h => ?_⟩
  refine wpAny_Call_Name_kw (ld_glob I hg hm ?_ hdb)
  refine PySem.W.callWith_K0 I.kIn hkp (run_fnS (us := []) F (hr.mono hk) hb (E := fun σ => WE Wx σ) (passAt tk σ) I .nil ?_)
  obtain ⟨F, m, st, ρ, er, rl, h⟩ := h
  exact ⟨rfl, F, m, st, [], .nil, rl, h⟩
end
def startE (n : Nat) (ws : List W) : Env := ws.map (fun w => some (.w w)) ++ List.replicate (n - ws.length) none
def runB (n : Nat) (fb : S) (ws : List W) : M W := fun st => match fb (startE n ws) st with
  | .go (.nx _) st' => .ok (.d .none) st'
  | .go (.rt w) st' => .ok w st'
  | .ex x _ st' => .ex x st'
  | _ => .bad
theorem envR_start {g : Gd} {F : Hp} {m : List Addr} {ws : List W} {vs : List V} {N : List Str} (h : WRs g.K F m ws vs) : EnvR g F m (startE N.length ws) (L2.start N vs) := by
  have hl := PySem.Paired.length h
  refine ⟨by unfold startE L2.start; rw [List.length_append, List.length_append, List.length_map, List.length_map, List.length_replicate, List.length_replicate, hl], fun i x e => ?_⟩
  unfold startE at e
  by_cases hi : i < ws.length
  · rw [List.getElem?_append_left (by rw [List.length_map]; exact hi), List.getElem?_map] at e
    cases z : ws[i]? with
    | none => rw [z] at e; cases e
    | some w =>
      rw [z] at e
      cases Option.some.inj (Option.some.inj e)
      obtain ⟨v, h1, h2⟩ := Ev.Paired.get h z
      refine ⟨v, ?_, h2⟩
      unfold L2.start
      rw [List.getElem?_append_left (by rw [List.length_map, ← hl]; exact hi), List.getElem?_map, h1]
      rfl
  · rw [List.getElem?_append_right (by rw [List.length_map]; omega), List.getElem?_replicate] at e
    split at e <;> cases e
theorem def_ok {P : Program} {w : World} {K : PySem.W.Frag} {mg : Str → Option Value} {base : Heap} {x qual : Str} {st : Stmt} {f : Addr} {fd : FuncData} {N ps : List Str} {k : Nat} {fb : S}
    (F : Fun K x qual st f fd) (S : FnScope N ps (defScope st))
    (hb : ∀ (cdv : Value) (A : Around) (outer : List PySem.Env) (s : Shared) (H : Hp) (E : XK), Room k (A.deeper (envOfC qual (defScope st) s.heap.objs.size f cdv)) →
      SSs (cxOf (L2.CX P w) P w K mg base N qual (defScope st) f cdv A outer s H E) (fun c d _ H' => E c d H') (defBody st) fb) :
    FnOk P w K mg base (L2.CX P w) (k + 1) f fd ps (spM ⟨P, w, K, mg, base⟩ ps.length (runB N.length fb)) := by
  refine F.okX S (fun vs H Q E h => h.1) (fun cdv A outer s H vs Q E hr h => ⟨_, hb cdv A outer s H E hr, ?_⟩)
  obtain ⟨_, F1, m, st1, ws, r, rl, h⟩ := h
  refine ⟨F1, m, st1, startE N.length ws, envR_start r, rl, ?_⟩
  unfold runB at h
  cases z : fb (startE N.length ws) st1 with
  | go fl st2 =>
    rw [z] at h
    cases fl with
    | nx ρ => exact fun F' m' H' σ' s' p' r' er' => h F' m' H' s' p' r' _ .non
    | rt v => exact fun F' m' H' u s' p' r' hu => h F' m' H' s' p' r' u hu
    | bk ρ => exact h.elim
    | ct ρ => exact h.elim
  | ex y ρ st2 => rw [z] at h; exact fun F' m' H' σ' c d s' p' r' er' e' => h F' m' H' c d s' p' r' e'
  | bad => rw [z] at h; exact h

/-! ## garbage is forgotten -/
def W.below (n : Nat) : W → Prop
  | .d _ => True
  | .r i => i < n
def SO.below (n : Nat) : SO → Prop
  | .lst ws => ∀ w ∈ ws, w.below n
  | .dic kvs => ∀ p ∈ kvs, p.2.below n
  | .dead => True
  | .tab _ _ => True
def wf (st : Sto) : Prop := ∀ so ∈ st, so.below st.length
section
variable {K : PySem.W.Frag} {F : Hp} {m : List Addr} {st st1 gb : Sto} {H : Hp}
theorem WR.below {w : W} {v : V} (h : WR K F m w v) : w.below m.length := by
  cases w with
  | d x => trivial
  | r i => obtain ⟨a, h1, _⟩ := h; exact (List.getElem?_eq_some_iff.mp h1).1
theorem paired_left {α β : Type} {R : α → β → Prop} : ∀ {xs : List α} {ys : List β}, PySem.Paired R xs ys → ∀ x ∈ xs, ∃ y, R x y
  | _, _, .nil, x, h => nomatch h
  | _, _, .cons h t, x, hx => by
    rcases List.mem_cons.mp hx with rfl | hx
    · exact ⟨_, h⟩
    · exact paired_left t x hx
theorem Rel.wf (rl : Rel K F m st H) : Ev.wf st := fun so hso => by
  obtain ⟨i, hi⟩ := List.mem_iff_getElem?.mp hso
  have hlt := (List.getElem?_eq_some_iff.mp hi).1
  have hm : m[i]? = some (m[i]'(by rw [rl.len]; exact hlt)) := List.getElem?_eq_getElem _
  have h := rl.obj i _ so hm hi
  rw [← rl.len]
  cases so with
  | lst ws => obtain ⟨vs, _, h2⟩ := h; exact fun w hw => by obtain ⟨v, hv⟩ := paired_left h2 w hw; exact hv.below
  | dic kvs => obtain ⟨ps, _, h2⟩ := h; exact fun p hp => by obtain ⟨v, hv⟩ := paired_left h2 p hp; exact hv.2.below
  | dead => trivial
  | tab P q => trivial
theorem WR.cut {n : Nat} {w : W} {v : V} (h : WR K F m w v) (b : w.below n) : WR K F (m.take n) w v := by
  cases w with
  | d x => exact h
  | r i =>
    obtain ⟨a, h1, h2⟩ := h
    exact ⟨a, by rw [List.getElem?_take_of_lt b]; exact h1, h2⟩
theorem paired_mem {α β : Type} {R S : α → β → Prop} : ∀ {xs : List α} {ys : List β}, PySem.Paired R xs ys → (∀ x ∈ xs, ∀ y, R x y → S x y) → PySem.Paired S xs ys
  | _, _, .nil, _ => .nil
  | _, _, .cons h t, k => .cons (k _ List.mem_cons_self _ h) (paired_mem t fun x hx => k x (List.mem_cons_of_mem _ hx))
theorem Rel.cut (rl : Rel K F m (st1 ++ gb) H) (c : ∀ so ∈ st1, so.below st1.length) : Rel K F (m.take st1.length) st1 H := by
  have hl := rl.len
  rw [List.length_append] at hl
  refine ⟨rl.sub, by rw [List.length_take]; omega, rl.nd.sublist (List.take_sublist _ _), fun a ha => rl.out a (List.mem_of_mem_take ha), fun a ha => rl.here a (List.mem_of_mem_take ha), fun i a so h1 h2 => ?_, rl.nt⟩
  have hi := (List.getElem?_eq_some_iff.mp h2).1
  rw [List.getElem?_take_of_lt hi] at h1
  have h := rl.obj i a so h1 (by rw [List.getElem?_append_left hi]; exact h2)
  have cs := c so (List.mem_of_getElem? h2)
  cases so with
  | lst ws => obtain ⟨vs, e1, e2⟩ := h; exact ⟨vs, e1, paired_mem e2 fun w hw v hv => hv.cut (cs w hw)⟩
  | dic kvs => obtain ⟨ps, e1, e2⟩ := h; exact ⟨ps, e1, paired_mem e2 fun p hp v hv => ⟨hv.1, hv.2.cut (cs p hp)⟩⟩
  | dead => exact h
  | tab P q => exact h
end
/-- the outcome r is as good as q: q is told without what nobody holds any more; where q tells nothing, nothing is asked -/
def Rf (n : Nat) : R W → R W → Prop
  | r, .ok w st1 => n ≤ st1.length ∧ ∃ gb, r = .ok w (st1 ++ gb) ∧ (gb = [] ∨ (w.below st1.length ∧ ∀ so ∈ st1, so.below st1.length))
  | r, .ex x st1 => n ≤ st1.length ∧ ∃ gb, r = .ex x (st1 ++ gb) ∧ (gb = [] ∨ ∀ so ∈ st1, so.below st1.length)
  | _, .bad => True
theorem Rf.refl {st : Sto} {r : R W} (h : match r with | .ok _ st1 => st.length ≤ st1.length | .ex _ st1 => st.length ≤ st1.length | .bad => True) : Rf st.length r r := by
  cases r with
  | ok w st1 => exact ⟨h, [], by rw [List.append_nil], .inl rfl⟩
  | ex x st1 => exact ⟨h, [], by rw [List.append_nil], .inl rfl⟩
  | bad => trivial
theorem After.rf {K : PySem.W.Frag} {mg : Str → Option Value} {F : Hp} {m : List Addr} {E : XK} {r q : R W} {Q : VK} (hr : Rf m.length r q) (h : After K mg F m E q (fun w F' m' H' => ∀ v, WR K F' m' w v → Q v H')) :
    After K mg F m E r (fun w F' m' H' => ∀ v, WR K F' m' w v → Q v H') := by
  have cutp : ∀ {m' : List Addr} {n : Nat}, m <+: m' → m.length ≤ n → m <+: m'.take n := fun {m' n} p hn => by
    obtain ⟨t, rfl⟩ := p
    rw [List.take_append, List.take_of_length_le hn]
    exact List.prefix_append _ _
  cases q with
  | ok w st1 =>
    obtain ⟨hn, gb, rfl, c⟩ := hr
    intro F' m' H' s p rl v hv
    rcases c with rfl | ⟨c1, c2⟩
    · rw [List.append_nil] at rl
      exact h F' m' H' s p rl v hv
    · exact h F' _ H' s (cutp p hn) (rl.cut c2) v (hv.cut c1)
  | ex x st1 =>
    obtain ⟨hn, gb, rfl, c⟩ := hr
    intro F' m' H' cls dd s p rl e
    rcases c with rfl | c
    · rw [List.append_nil] at rl
      exact h F' m' H' cls dd s p rl e
    · exact h F' _ H' cls dd s (cutp p hn) (rl.cut c) e
  | bad => exact h.elim
/-- fn may be told as gn -/
def Ref (fn gn : List W → M W) : Prop := ∀ ws st, wf st → Rf st.length (fn ws st) (gn ws st)
theorem FnOk.ref {g : Gd} {k n : Nat} {f : Addr} {fd : FuncData} {ps : List Str} {fn gn : List W → M W} (h : FnOk g.P g.w g.K g.mg g.base (L2.CX g.P g.w) k f fd ps (spM g n fn)) (r : Ref fn gn) :
    FnOk g.P g.w g.K g.mg g.base (L2.CX g.P g.w) k f fd ps (spM g n gn) :=
  h.imp fun vs H Q E ⟨hl, F, m, st, ws, rv, rl, q⟩ => ⟨hl, F, m, st, ws, rv, rl, After.rf (by rw [rl.len]; exact r ws st rl.wf) q⟩

/-! ## raise, try -/
section
variable {X : Cx} {Wx : WX} {body : List Stmt} {pos p1 p2 p3 : Pos} {x msg : Str} {j : Nat} {C : Addr}
def raiseS (x : Str) : S := fun ρ st => .ex ⟨x, []⟩ ρ st
/-- an own error class without a maker of its own -/
structure ErrC (K : PySem.W.Frag) (mg : Str → Option Value) (x : Str) : Prop where
  ex : ∃ C, mg x = some (.ref C) ∧ PySem.W.excIn K C [.type "ValueError", .type "Exception", .type "BaseException", .type "object"] "ValueError.__new__" = true ∧ PySem.W.keepIn K (.ref C) = true ∧
    PySem.W.subIn K (.ref C) (.type "BaseException") = some true ∧ PySem.W.typeIn K (.ref C) = some (.type "type")
theorem ss_raise (ec : ErrC X.K X.mg x) (hc : X.calm = true) (tk : Takes X Wx) (hg : Gl X x) (hdb : (x == ("__debug__" : Str)) = false := by decide) :
    SS X Wx (.Raise (some (.Call (.Name x p1) [.Constant (.str msg) j p2] [] p3)) none pos) (raiseS x) := by
  obtain ⟨C, hm, q, kC, h1, h2⟩ := ec.ex
  exact PS.imp (ps_raise hc tk (pmk_own PySem.F.excBase_ValueError q hm kC (raises_own h1 h2) hg hdb)) fun D σ H h => by
    obtain ⟨F, m, st, ρ, er, rl, h⟩ := h
    exact h F m H σ (.ref C) none (Same.refl F) (List.prefix_refl m) rl er ⟨C, hm, rfl, .inl ⟨rfl, rfl⟩⟩
/-- which class is under which -/
abbrev SubT := Str → Str → Option Bool
def SubOk (K : PySem.W.Frag) (mg : Str → Option Value) (sub : SubT) : Prop := ∀ a b k C C', sub a b = some k → mg a = some (.ref C) → mg b = some (.ref C') → PySem.W.exmOne K (.ref C) (.ref C') = some k
def noexS (r : RS) : RS := match r with
  | .ex _ _ _ => .bad
  | r => r
theorem AfterS.noexS {g : Gd} {F : Hp} {m : List Addr} {Wx Wy : WX} {r : RS} {D : Ends} (h : AfterS g F m Wx (noexS r) D) : AfterS g F m Wy r D := by
  cases r with
  | go fl st => cases fl <;> exact h
  | ex x ρ st => exact h.elim
  | bad => exact h.elim
def handleS (sub : SubT) (x : Ex) (ρ : Env) (st : Sto) : List (Str × S) → RS
  | [] => .ex x ρ st
  | (h, s) :: r => (match sub x.cls h with
    | some true => noexS (s ρ st)
    | some false => handleS sub x ρ st r
    | none => .bad)
def tryS (sub : SubT) (s : S) (hs : List (Str × S)) : S := fun ρ st => match s ρ st with
  | .ex x ρ' st' => handleS sub x ρ' st' hs
  | r => r
inductive HdsS (X : Cx) : List ExceptHandler → List (Str × S) → Prop
  | nil : HdsS X [] []
  | cons {x : Str} {C : Addr} {fs : S} {b₀ : Stmt} {suite : List Stmt} {np pos' : Pos} {hds : List ExceptHandler} {l : List (Str × S)} (hm : X.mg x = some (.ref C)) (hg : Gl X x) (hdb : (x == ("__debug__" : Str)) = false)
      (hsu : ∀ (a : Addr) (pn : List (Addr × Obj)), SSs (X.suite a pn) Wn (b₀ :: suite) fs) (r : HdsS X hds l) :
      HdsS X (.ExceptHandler (some (.Name x np)) none (b₀ :: suite) pos' :: hds) ((x, fs) :: l)
def clsL (X : Cx) (l : List (Str × S)) : List (Value × (Addr → Value → Option Addr → TS)) := l.map fun p => ((X.mg p.1).getD .none, fun _ _ _ => tS X Wn p.2)
theorem HdsS.ok {X : Cx} {hds : List ExceptHandler} {l : List (Str × S)} (h : HdsS X hds l) : HdsOk X hds (clsL X l) := by
  induction h with
  | nil => exact .nil
  | @cons x C fs b₀ suite np pos' hds l hm hg hdb hsu r ih =>
    have e : (X.mg x).getD .none = Value.ref C := by rw [hm]; rfl
    show HdsOk X _ (((X.mg x).getD .none, fun _ _ _ => tS X Wn fs) :: clsL X l)
    rw [e]
    exact .cons ⟨hg, hdb, .inl hm⟩ (fun a oe cls d pn _ _ => hsu a ((a, oe) :: pn)) ih
theorem handle_ok {X : Cx} {sub : SubT} (sb : SubOk X.K X.mg sub) {D : Ends} {x : Ex} {ρ : Env} {st : Sto} {F : Hp} {m : List Addr} {hds : List ExceptHandler} {l : List (Str × S)} (hl : HdsS X hds l)
    (h : AfterS (gd X) F m Wx (handleS sub x ρ st l) D) {σ : L2.St} {H : Hp} {cls : Value} {dd : Option Addr} (rl : Rel X.K F m st H) (er : EnvR (gd X) F m ρ σ) (e : ExR X.K X.mg F H x cls dd) : wMany X.K Wx D (clsL X l) cls dd σ H := by
  induction hl with
  | nil => exact h F m H σ cls dd (Same.refl F) (List.prefix_refl m) rl er e
  | @cons y C fs b₀ suite np pos' hds l hm hg hdb hsu r ih =>
    obtain ⟨C', hm', rfl, hf⟩ := e
    have ec : (X.mg y).getD .none = Value.ref C := by rw [hm]; rfl
    dsimp only [handleS] at h
    show ∃ b, PySem.W.exmOne X.K (.ref C') ((X.mg y).getD .none) = some b ∧ _
    rw [ec]
    cases z : sub x.cls y with
    | none => rw [z] at h; exact h.elim
    | some k =>
      rw [z] at h
      refine ⟨k, sb _ _ _ _ _ z hm' hm, fun hk a _ => ?_, fun hk => ?_⟩
      · subst hk
        exact ⟨F, m, st, ρ, er, rl, AfterS.noexS h⟩
      · subst hk
        exact ih h
theorem ss_try {sub : SubT} {h₀ : ExceptHandler} {hds : List ExceptHandler} {l : List (Str × S)} {fb : S} (sb : SubOk X.K X.mg sub) (hs : X.stack = X.env :: X.outer) (hf : X.env.frame = some X.env.locals) (tk : Takes X Wx)
    (hb : ∀ (W : WX) (pn : List (Addr × Obj)) (xe : Value → Shared → Prop), Takes (X.tr pn xe) W → PassesOwn (model X.prog X.w) X.A X.env xe → SSs (X.tr pn xe) W body fb) (hh : HdsS X (h₀ :: hds) l) : SS X Wx (.Try body (h₀ :: hds) [] [] pos) (tryS sub fb l) :=
  PS.imp (ps_try_many (tb := fun W => tS X W fb) hs hf tk hb hh.ok) fun D σ H h => by
    obtain ⟨F, m, st, ρ, er, rl, h⟩ := h
    refine ⟨F, m, st, ρ, er, rl, ?_⟩
    unfold tryS at h
    cases z : fb ρ st with
    | go fl st2 => rw [z] at h; cases fl <;> exact h
    | ex x ρ2 st2 => rw [z] at h; exact fun F' m' H' σ' cls dd s' p' r' er' e' => handle_ok sb hh (AfterS.mono s' p' h) r' er' e'
    | bad => rw [z] at h; exact h
end

/-! ## mutable lists -/
section
variable {X : Cx} {Wx : WX} {a b c e : Expr} {es : List Expr} {pos p1 p2 : Pos} {f fa fb fc : Env → M W} {fs : Env → M (List W)}
theorem SR.upd' {K : PySem.W.Frag} {F F' : Hp} {m : List Addr} {H : Hp} {a b : Addr} {o : HO} (h : b ≠ a) {so : SO} (r : SR K F m H b so) : SR K F m (upd H a o) b so := r.keep (Same.refl F) (List.prefix_refl m) (upd_ne h)
theorem nodup_get {m : List Addr} (nd : m.Nodup) {i j : Nat} {a : Addr} (h1 : m[i]? = some a) (h2 : m[j]? = some a) : i = j := by
  obtain ⟨l1, e1⟩ := List.getElem?_eq_some_iff.mp h1
  obtain ⟨l2, e2⟩ := List.getElem?_eq_some_iff.mp h2
  exact (List.getElem_inj nd).mp (e1.trans e2.symm)
theorem Rel.put {K : PySem.W.Frag} {F : Hp} {m : List Addr} {st : Sto} {H : Hp} (rl : Rel K F m st H) {i : Nat} {a : Addr} {so : SO} {o : HO} (hi : m[i]? = some a) (hs : SR K F m (upd H a o) a so) : Rel K F m (st.set i so) (upd H a o) := by
  have hm : a ∈ m := List.mem_of_getElem? hi
  refine ⟨fun b u e => ?_, by rw [List.length_set]; exact rl.len, rl.nd, rl.out, fun b hb => ?_, fun j b s' h1 h2 => ?_, rl.nt⟩
  · have : b ≠ a := fun z => by rw [z, rl.out a hm] at e; cases e
    rw [upd_ne this]; exact rl.sub b u e
  · by_cases hb' : b = a
    · subst hb'; exact ⟨_, upd_same⟩
    · rw [upd_ne hb']; exact rl.here b hb
  · by_cases hj : i = j
    · subst hj
      rw [hi] at h1
      cases Option.some.inj h1
      rw [List.getElem?_set_self (by rw [← rl.len]; exact (List.getElem?_eq_some_iff.mp hi).1)] at h2
      cases Option.some.inj h2
      exact hs
    · rw [List.getElem?_set_ne hj] at h2
      have hb : b ≠ a := fun z => hj (nodup_get rl.nd hi (z ▸ h1))
      exact SR.upd' (F' := F) hb (rl.obj j b s' h1 h2)
/-- a list display that will be changed -/
def mkMut (g : Env → M (List W)) : Env → M W := fun ρ => bnd (g ρ) fun ws => if ws.length ≤ sizeLine then asMut ws else bad
theorem se_mut (h : SA X Wx es fs) : SE X Wx (.List es pos) (mkMut fs) :=
  PE.imp (pe_lst h) fun σ H Q h => by
    obtain ⟨F, m, st, ρ, er, rl, h⟩ := h
    refine ⟨F, m, st, ρ, er, rl, After.mono (Same.refl F) (List.prefix_refl m) h.bnd fun ws F1 m1 H1 s1 p1 ⟨st1, _, _, rl1, h1⟩ vs r1 => ?_⟩
    split at h1
    · rename_i hz
      refine ⟨by rw [← PySem.Paired.length r1]; exact hz, fun p hp => ?_⟩
      have nm : p ∉ m1 := fun z => by obtain ⟨o, ho⟩ := rl1.here p z; rw [hp] at ho; cases ho
      have ne : ∀ a ∈ m1, a ≠ p := fun a ha e => nm (e ▸ ha)
      have rl2 : Rel X.K F1 m1 st1 (upd H1 p (.lst vs)) := ⟨fun a u e => by rw [upd_ne (fun z => by rw [z, rl1.free hp] at e; cases e)]; exact rl1.sub a u e, rl1.len, rl1.nd, rl1.out, fun a ha => by rw [upd_ne (ne a ha)]; exact rl1.here a ha,
        fun i a so e1 e2 => (rl1.obj i a so e1 e2).keep (Same.refl _) (List.prefix_refl _) (upd_ne (ne a (List.mem_of_getElem? e1))), rl1.nt⟩
      exact fin_mut F1 m1 st1 _ p ws vs _ Q rl2 (rl1.free hp) upd_same nm r1 h1
    · exact h1.elim
/-- xs[i] = e -/
def putIx (st : Sto) (v : W) : W → W → Option Sto
  | .r j, .d (.int k) => (match st[j]? with
    | some (.lst ws) => (ixN ws.length k).map fun n => st.set j (.lst (ws.set n v))
    | _ => none)
  | _, _ => none
theorem putIx_ok {st st' : Sto} {v o i : W} (h : putIx st v o i = some st') : ∃ j k ws n, o = .r j ∧ i = .d (.int k) ∧ st[j]? = some (.lst ws) ∧ ixN ws.length k = some n ∧ st' = st.set j (.lst (ws.set n v)) := by
  cases o with
  | d _ => cases h
  | r j =>
    cases i with
    | r _ => cases h
    | d x =>
      cases x <;> first | (cases h; done) | skip
      rename_i k
      dsimp only [putIx] at h
      split at h
      · rename_i ws hs
        cases z : ixN ws.length k with
        | none => rw [z] at h; cases h
        | some n =>
          rw [z] at h
          exact ⟨j, k, ws, n, rfl, rfl, hs, z, (Option.some.inj h).symm⟩
      · cases h
def setIx (fo fi fv : Env → M W) : S := fun ρ => ofM (bnd (fv ρ) fun v => bnd (fo ρ) fun o => bnd (fi ρ) fun i => ret (v, o, i)) ρ fun p st => match putIx st p.1 p.2.1 p.2.2 with
  | some st' => .go (.nx ρ) st'
  | none => .bad
theorem WRs.set {K : PySem.W.Frag} {F : Hp} {m : List Addr} {x : W} {v : V} (r : WR K F m x v) : ∀ {ws : List W} {vs : List V} (n : Nat), WRs K F m ws vs → WRs K F m (ws.set n x) (vs.set n v)
  | _, _, _, .nil => .nil
  | _, _, 0, .cons h t => .cons r t
  | _, _, n + 1, .cons h t => .cons h (WRs.set r n t)
theorem ss_setIx (ho : SE X Wx a fa) (hi : SE X Wx b fb) (he : SE X Wx e f)
    (ha : ∀ v, assign (.Subscript a b p1) X.env v = (do
      let ov ← holding [v] (eval a X.env)
      let iv ← holding [v, ov] (eval b X.env)
      standAt p1
      holding [v, ov, iv] (setItem ov iv v)
      release [v, ov, iv] []) := by intro _; rfl)
    (hs : swapsWithSole [.Subscript a b p1] e pos.line X.env = pure false := by rfl) (hw : swappedStores [.Subscript a b p1] e X.env = pure none := by rfl)
    (h1 : (assignEach [.Subscript a b p1] X.env).map (·.2) = [assign (.Subscript a b p1) X.env] := by rfl) : SS X Wx (.Assign [.Subscript a b p1] e pos) (setIx fa fb f) :=
  PS.imp (ps_asg he (pg_sub ho hi set_list ha) hs hw h1) fun D σ H h => by
    obtain ⟨F, m, st, ρ, er, rl, h⟩ := h
    have h0 := (AfterS.ofM er h).bnd
    refine ⟨F, m, st, ρ, er, rl, After.mono (Same.refl F) (List.prefix_refl m) h0 fun x F1 m1 H1 s1 p1 ⟨st1, _, _, rl1, h1⟩ v r1 => ?_⟩
    refine ⟨F1, m1, st1, ρ, er.mono s1 p1, rl1, After.mono (Same.refl F1) (List.prefix_refl m1) h1.bnd fun y F2 m2 H2 s2 p2 ⟨st2, _, _, rl2, h2⟩ o r2 => ?_⟩
    refine ⟨F2, m2, st2, ρ, (er.mono s1 p1).mono s2 p2, rl2, After.mono (Same.refl F2) (List.prefix_refl m2) h2.bnd fun z F3 m3 H3 s3 p3 ⟨st3, _, _, rl3, h3⟩ i r3 => ?_⟩
    obtain ⟨st4, _, _, rl4, h4⟩ := h3.here rl3
    split at h4
    · rename_i st5 hst
      obtain ⟨j, k, ws, n, ey, ez, e1, e2, e3⟩ := putIx_ok hst
      have ey : y = .r j := ey
      have ez : z = .d (.int k) := ez
      subst ey ez e3
      obtain ⟨a, rfl, hm, vs, hH, rvs⟩ := rl4.at (r2.mono s3 p3) e1
      rw [dq_int r3]
      refine ⟨a, vs, _, n, rfl, rfl, hH, by rw [← PySem.Paired.length rvs]; exact e2, ?_⟩
      exact h4 F3 m3 _ σ (Same.refl _) (List.prefix_refl _) (rl4.put hm ⟨_, upd_same, WRs.set ((r1.mono s2 p2).mono s3 p3) n rvs⟩) (((er.mono s1 p1).mono s2 p2).mono s3 p3)
    · exact h4.elim
/-- xs.append(e) -/
def isMut (st : Sto) : W → Option Unit
  | .r j => (match st[j]? with
    | some (.lst _) => some ()
    | _ => none)
  | .d _ => none
def putEnd (st : Sto) (v : W) : W → Option Sto
  | .r j => (match st[j]? with
    | some (.lst ws) => if ws.length < sizeLine then some (st.set j (.lst (ws ++ [v]))) else none
    | _ => none)
  | .d _ => none
theorem isMut_ok {st : Sto} {o : W} {u : Unit} (h : isMut st o = some u) : ∃ j ws, o = .r j ∧ st[j]? = some (.lst ws) := by
  cases o with
  | d _ => cases h
  | r j =>
    dsimp only [isMut] at h
    split at h
    · exact ⟨j, _, rfl, by assumption⟩
    · cases h
theorem putEnd_ok {st st' : Sto} {v o : W} (h : putEnd st v o = some st') : ∃ j ws, o = .r j ∧ st[j]? = some (.lst ws) ∧ ws.length < sizeLine ∧ st' = st.set j (.lst (ws ++ [v])) := by
  cases o with
  | d _ => cases h
  | r j =>
    dsimp only [putEnd] at h
    split at h
    · split at h
      · exact ⟨j, _, rfl, by assumption, by assumption, (Option.some.inj h).symm⟩
      · cases h
    · cases h
def appS (fo fv : Env → M W) : Env → M W := fun ρ => bnd (fo ρ) fun o => bnd (liftO fun st => isMut st o) fun _ => bnd (fv ρ) fun v => fun st => match putEnd st v o with
  | some st' => .ok (.d .none) st'
  | none => .bad
theorem se_app (ho : SE X Wx a fa) (he : SE X Wx e f) (hbase : attributeBase a "append" X.env (eval a X.env) = eval a X.env := by rfl)
    (hfew : ((backTo p2 (starEach (e :: []) X.env)).all (fun x => !x.1) && (backToKw p2 (keywordEach [] X.env)).all (fun x => x.1.isSome)
      && decide ((e :: []).length + ([] : List Keyword).length + (if ([] : List Keyword).isEmpty then 0 else 1) < 30)) = true := by rfl)
    (hline : (p1.endLine == p2.line) = true := by rfl) (hs : starEach (e :: []) X.env = (false, eval e X.env) :: starEach [] X.env := by rfl) (hplain : (backTo p2 (starEach [] X.env)).any (·.1) = false := by rfl) :
    SE X Wx (.Call (.Attribute a "append" p1) [e] [] p2) (appS fa f) :=
  PE.imp (pe_bm PySem.F.plainAttrs_list PySem.F.slot_list_append PySem.F.type_list_append mt_append ho (pa_cons he pa_nil hs) hbase hfew hline hs hplain) fun σ H Q h => by
    obtain ⟨F, m, st, ρ, er, rl, h⟩ := h
    refine ⟨F, m, st, ρ, er, rl, After.mono (Same.refl F) (List.prefix_refl m) h.bnd fun x F1 m1 H1 s1 p1 ⟨st1, _, _, rl1, h1⟩ v r1 => ?_⟩
    obtain ⟨_, e1, q1⟩ := h1.bnd.liftO
    obtain ⟨st2, _, _, rl2, h2⟩ := q1 F1 m1 H1 (Same.refl _) (List.prefix_refl _) rl1
    obtain ⟨j, ws, ex, hst⟩ := isMut_ok e1
    subst ex
    obtain ⟨a, rfl, hm, vs, hH, rvs⟩ := rl1.at r1 hst
    refine ⟨.inl ⟨rfl, _, SqL.of hH⟩, F1, m1, st2, ρ, er.mono s1 p1, rl2, After.mono (Same.refl F1) (List.prefix_refl m1) h2.bnd fun y F3 m3 H3 s3 p3 ⟨st3, _, _, rl3, h3⟩ u r3 => ?_⟩
    split at h3
    · rename_i st5 hp
      obtain ⟨j', ws3, ej, hst3, hz, rfl⟩ := putEnd_ok hp
      cases ej
      obtain ⟨a3, e3, hm3, vs3, hH3, rvs3⟩ := rl3.at (r1.mono s3 p3) hst3
      cases e3
      refine ⟨a, vs3, u, rfl, rfl, hH3, by rw [← PySem.Paired.length rvs3]; exact hz, ?_⟩
      exact h3 F3 m3 _ (Same.refl _) (List.prefix_refl _) (rl3.put hm3 ⟨_, upd_same, Paired.snoc rvs3 r3⟩) _ .non
    · exact h3.elim
end
end Ev
end
section
set_option Elab.async false
set_option linter.all false
set_option maxRecDepth 100000
set_option autoImplicit false
namespace Ev
open PySem PySem.Spec PyProof.Rows L2
/-! ## sets of texts, made of a list and met again at once -/
section
variable {P : Program} {w : World} {K : Type} [DecidableEq K] {knd : KeyKind P w K}
def El (knd : KeyKind P w K) (e : Int × Value) (k : K) : Prop := knd.is k e.2 = true ∧ e.1 = knd.hash k ∧ e.2.scannable = true
theorem paired_perm {α β : Type} {R : α → β → Prop} {l l' : List α} (p : l'.Perm l) : ∀ {ks : List β}, Paired R l ks → ∃ ks', ks'.Perm ks ∧ Paired R l' ks' := by
  induction p with
  | nil => intro ks h; exact ⟨ks, List.Perm.refl _, h⟩
  | cons x _ ih =>
    intro ks h
    cases h with
    | cons a t =>
      obtain ⟨ks', p1, h1⟩ := ih t
      exact ⟨_ :: ks', p1.cons _, .cons a h1⟩
  | swap x y l =>
    intro ks h
    cases h with
    | cons a t =>
      cases t with
      | cons b t => exact ⟨_ :: _ :: _, List.Perm.swap _ _ _, .cons b (.cons a t)⟩
  | trans _ _ ih1 ih2 =>
    intro ks h
    obtain ⟨k1, p1, h1⟩ := ih2 h
    obtain ⟨k2, p2, h2⟩ := ih1 h1
    exact ⟨k2, p2.trans p1, h2⟩
theorem els_of {l : List (Int × Value)} {ks : List K} (h : Paired (El knd) l ks) : ElemsOf knd l := by
  induction h with
  | nil => intro e he; cases he
  | @cons e k l ks a t ih =>
    intro e' he
    rcases List.mem_cons.mp he with z | z
    · rw [z]; exact ⟨⟨k, a.1, a.2.1⟩, a.2.2⟩
    · exact ih e' z
theorem els_mem {l : List (Int × Value)} {ks : List K} (h : Paired (El knd) l ks) (k : K) : k ∈ ks ↔ ∃ e ∈ l, knd.is k e.2 = true := by
  induction h with
  | nil => simp
  | @cons e k0 l ks a t ih =>
    rw [List.mem_cons, ih]
    constructor
    · rintro (rfl | ⟨e', h1, h2⟩)
      · exact ⟨e, List.mem_cons_self, a.1⟩
      · exact ⟨e', List.mem_cons_of_mem _ h1, h2⟩
    · rintro ⟨e', h1, h2⟩
      rcases List.mem_cons.mp h1 with rfl | h1
      · exact .inl (knd.inj _ _ _ h2 a.1)
      · exact .inr ⟨e', h1, h2⟩
theorem els_snoc {l : List (Int × Value)} {ks : List K} (h : Paired (El knd) l ks) {e : Int × Value} {k : K} (a : El knd e k) : Paired (El knd) (l ++ [e]) (ks ++ [k]) := by
  induction h with
  | nil => exact .cons a .nil
  | cons b t ih => exact .cons b ih
theorem paired_get {α β : Type} {R : α → β → Prop} : ∀ {l : List α} {ks : List β} {i : Nat} {v : α}, Paired R l ks → l[i]? = some v → ∃ k, ks[i]? = some k ∧ R v k
  | _, _, _, _, .nil, e => by simp at e
  | _, _, 0, v, .cons (b := k) h _, e => ⟨k, rfl, by have e' := Option.some.inj e; rw [← e']; exact h⟩
  | _, _, i + 1, v, .cons _ t, e => by
    obtain ⟨k, h1, h2⟩ := paired_get (i := i) (v := v) t (by simpa using e)
    exact ⟨k, by simpa using h1, h2⟩
theorem paired_map_left {α β γ : Type} {R : α → β → Prop} {R' : γ → β → Prop} {f : α → γ} {l : List α} {ks : List β} (h : Paired R l ks) (k : ∀ a b, R a b → R' (f a) b) : Paired R' (l.map f) ks := by
  induction h with
  | nil => exact .nil
  | cons a t ih => exact .cons (k _ _ a) ih
/-- the set at a: these keys, none twice -/
structure SetL (knd : KeyKind P w K) (h : Heap) (a : Addr) (ks : List K) : Prop where
  ex : ∃ o es ep t, h.get? a = some o ∧ o.ExactSet ∧ o.data = .set es ep t ∧ (∃ ks', Paired (El knd) es.toList ks' ∧ ks'.Perm ks) ∧ es.size < scanBound ∧ t.fits es.size = true ∧ Ris t.place.toList ∧ (w.params.followText "set-order" = true ∨ t.led = true)
  nd : ks.Nodup
theorem SetL.at {h h' : Heap} {a : Addr} {ks : List K} (R : SetL knd h a ks) (k : ∀ o, h.get? a = some o → h'.get? a = some o) : SetL knd h' a ks :=
  let ⟨⟨o, es, ep, t, ho, r⟩, nd⟩ := R; ⟨⟨o, es, ep, t, k o ho, r⟩, nd⟩
theorem SetL.len {h : Heap} {a : Addr} {ks : List K} (R : SetL knd h a ks) : ∃ o es ep t, h.get? a = some o ∧ o.ExactSet ∧ o.data = .set es ep t ∧ t.fits es.size = true ∧ es.size = ks.length ∧ es.size < scanBound := by
  obtain ⟨⟨o, es, ep, t, ho, hex, hd, ⟨ks', hp, pm⟩, hb, hf, _⟩, nd⟩ := R
  refine ⟨o, es, ep, t, ho, hex, hd, hf, ?_, hb⟩
  rw [← Array.length_toList, PySem.Paired.length hp, pm.length_eq]
variable {A : Around} {E : Value → Shared → Prop} {s : Shared} {a : Addr} {ks : List K}
theorem setL_store {g : Bool → Sem Unit} (hg : ∀ (b : Bool) (s₁ : Shared) (Q' : Unit → Shared → Prop), Q' () s₁ → wpAny (model P w) A (g b) Q' E s₁)
    {o : Obj} {es : Array (Int × Value)} {ep : Nat} {t : SetTable} (ho : s.heap.get? a = some o) (hex : o.ExactSet) (hd : o.data = .set es ep t)
    {es1 : Array (Int × Value)} {t2 : SetTable} {ks' : List K} (hp : Paired (El knd) es1.toList ks') (pm : ks'.Perm ks) (nd : ks.Nodup)
    (hb1 : es1.size < scanBound) (hf2 : t2.fits es1.size = true) (hr : Ris t2.place.toList) (hl : w.params.followText "set-order" = true ∨ t2.led = true) {wasDummy : Bool} {R : Option Bool → Shared → Prop}
    (hR : ∀ h', Heap.SameBut a s.heap h' → SetL knd h' a ks → R (some true) { s with heap := h' }) :
    wpAny (model P w) A (do
        storeSet a es1 t2
        if (!wasDummy && t2.tooFull) = true then do
            g (relayAll t2 es1 (SetTable.grown es1.size)).2.2
            storeSet a (relayAll t2 es1 (SetTable.grown es1.size)).1 (relayAll t2 es1 (SetTable.grown es1.size)).2.1
            pure (some true)
          else pure (some true)) R E s := by
  refine wpAny_bind (wpAny_storeSet_of ho hd ?_ (fits_of_scanBound hb1))
  have h1 := store_at (es' := es1) (t' := t2) ho hd
  have sb := Heap.SameBut.update s.heap a (Obj.putSet es1 t2)
  split
  · have q1 := relayAll_perm t2 es1 (SetTable.grown es1.size)
    have q2 := relayAll_fits t2 es1 (SetTable.grown es1.size)
    have q3 := relayAll_ris t2 es1 (SetTable.grown es1.size)
    have q4 := relayAll_led t2 es1 (SetTable.grown es1.size)
    generalize relayAll t2 es1 (SetTable.grown es1.size) = Z at q1 q2 q3 q4 ⊢
    obtain ⟨es2, t3, z⟩ := Z
    dsimp only at q1 q2 q3 q4 ⊢
    have hz : es2.size = es1.size := by rw [← Array.length_toList, q1.length_eq, Array.length_toList]
    obtain ⟨k2, p2, r2⟩ := paired_perm q1 hp
    refine wpAny_bind (hg _ _ _ (wpAny_bind (wpAny_storeSet_of h1 rfl (wpAny_pure (hR _ (sb.trans (Heap.SameBut.update _ a _)) ⟨⟨_, es2, _, t3, store_at h1 rfl, hex, rfl, ⟨k2, r2, p2.trans pm⟩, by rw [hz]; exact hb1, q2, q3, hl.imp id fun y => by rw [q4]; exact y⟩, nd⟩)) (fits_of_scanBound (by rw [hz]; exact hb1)))))
  · exact wpAny_pure (hR _ sb ⟨⟨_, es1, _, t2, h1, hex, rfl, ⟨ks', hp, pm⟩, hb1, hf2, hr, hl⟩, nd⟩)
theorem setL_add {k : K} {x : Value} {Q : Bool → Shared → Prop} (hk : knd.is k x = true) (hsc : x.scannable = true) (R : SetL knd s.heap a ks) (room : ks.length + 1 < scanBound)
    (hQ : ∀ h' ks2, Heap.SameBut a s.heap h' → SetL knd h' a ks2 → (∀ j, j ∈ ks2 ↔ j = k ∨ j ∈ ks) → ks2.length ≤ ks.length + 1 → Q (!decide (k ∈ ks)) { s with heap := h' }) :
    wpAny (model P w) A (setAddHashed a x (knd.hash k)) Q E s := by
  obtain ⟨⟨o, es, ep, t, ho, hex, hd, ⟨ks', hp, pm⟩, hb, hf, hr, hl⟩, nd⟩ := R
  have hel : ElemsOf knd es.toList := els_of hp
  have hsz : es.size = ks.length := by rw [← Array.length_toList, PySem.Paired.length hp, pm.length_eq]
  unfold setAddHashed setAddHashedIn
  refine wpAny_holding (wpAny_bind (wpAny_setState_of ho hd hf ?_))
  dsimp only
  rw [byScan_of hsc hb hel]
  simp only [↓reduceIte]
  unfold setAddByScan
  refine wpAny_bind (wpAny_bind (wpAny_rule (wpAny_bind (wpAny_setScan_of hk ho hd hf hel ?_))))
  cases hfi : List.findIdx? (fun e => knd.is k e.2) es.toList with
  | some j =>
    dsimp only
    obtain ⟨hj, pj, _⟩ := List.findIdx?_eq_some_iff_getElem.mp hfi
    have hin : k ∈ ks := pm.mem_iff.mp ((els_mem hp k).2 ⟨es.toList[j], List.getElem_mem hj, pj⟩)
    have q := hQ s.heap ks (Heap.SameBut.refl a s.heap) ⟨⟨o, es, ep, t, ho, hex, hd, ⟨ks', hp, pm⟩, hb, hf, hr, hl⟩, nd⟩ (fun i => ⟨.inr, fun z => z.elim (fun e => e ▸ hin) id⟩) (Nat.le_succ _)
    rw [decide_eq_true hin] at q
    exact wpAny_pure (wpAny_pure q)
  | none =>
    dsimp only
    have hn' : k ∉ ks' := fun z => by
      obtain ⟨e, he, q⟩ := (els_mem hp k).1 z
      have c := List.findIdx?_eq_none_iff.mp hfi e he
      rw [q] at c
      cases c
    have hnk : k ∉ ks := fun z => hn' (pm.mem_iff.mpr z)
    have hgw : ∀ (b : Bool) {s₁ : Shared} {Q' : Unit → Shared → Prop}, Q' () s₁ → wpAny (model P w) A (match b with | true => rule "set.scan.the-table-gave-way" | false => pure ()) Q' E s₁ :=
      fun b s₁ Q' q => by cases b <;> first | exact wpAny_pure q | exact wpAny_rule q
    have q1 := layNew_perm t es (knd.hash k) x
    have q2 := layNew_fits t es (knd.hash k) x
    have q3 := layNew_ris t es (knd.hash k) x hr
    have q4 := layNew_led t es (knd.hash k) x
    generalize layNew t es (knd.hash k) x = Z at q1 q2 q3 q4 ⊢
    obtain ⟨es1, t1, wasDummy, gave⟩ := Z
    dsimp only at q1 q2 q3 q4 ⊢
    rw [Array.toList_push] at q1
    have pc : es1.toList.Perm ((knd.hash k, x) :: es.toList) := q1.trans (List.perm_append_singleton _ _)
    have hc : Paired (El knd) ((knd.hash k, x) :: es.toList) (k :: ks') := .cons ⟨hk, rfl, hsc⟩ hp
    obtain ⟨k2, p2, r2⟩ := paired_perm pc hc
    have pm2 : k2.Perm (k :: ks) := p2.trans (pm.cons _)
    have nd2 : (k :: ks).Nodup := List.nodup_cons.mpr ⟨hnk, nd⟩
    have hz1 : es1.size < scanBound := by
      have : es1.size = ks.length + 1 := by rw [← Array.length_toList, pc.length_eq, List.length_cons, Array.length_toList, hsz]
      omega
    have hled : w.params.followText "set-order" = true ∨ t1.led = true := hl.imp id fun z => by rw [q4]; exact z
    have fin : ∀ h', Heap.SameBut a s.heap h' → SetL knd h' a (k :: ks) → Q true { s with heap := h' } := fun h' sb r => by
      have q := hQ h' (k :: ks) sb r (fun j => List.mem_cons) (Nat.le_refl _)
      rw [decide_eq_false hnk] at q
      exact q
    refine wpAny_bind (hgw _ ?_)
    split
    · refine wpAny_bind ?_
      rw [hashByValue_scannable 8 hsc]
      refine wpAny_pure ?_
      refine setL_store ?_ ho hex hd r2 pm2 nd2 hz1 ?_ ?_ ?_ ?_
      · intro b s₁ Q' q; cases b <;> first | exact wpAny_pure q | exact wpAny_rule q
      · first | (split <;> first | exact q2 | exact SetTable.fits_plain_off q2) | exact q2
      · first | (split <;> exact q3) | exact q3
      · first | (split <;> exact hled) | exact hled
      · intro h' sb r; dsimp only; exact wpAny_pure (fin h' sb r)
    · refine wpAny_bind (wpAny_pure ?_)
      simp only [↓reduceIte]
      refine setL_store ?_ ho hex hd r2 pm2 nd2 hz1 q2 q3 hled ?_
      · intro b s₁ Q' q; cases b <;> first | exact wpAny_pure q | exact wpAny_rule q
      · intro h' sb r; dsimp only; exact wpAny_pure (fin h' sb r)
def newSetObj (w : World) : Obj := { cls := .type "set", dict := none, data := .set #[] 0 (.fresh 0 0 (!w.params.followText "set-order")) }
theorem setL_new {h : Heap} {a : Addr} (ho : h.get? a = some (newSetObj w)) : SetL knd h a [] :=
  ⟨⟨_, #[], 0, _, ho, ⟨rfl, rfl, rfl⟩, rfl, ⟨[], .nil, List.Perm.refl _⟩, (by decide), (by rfl), List.Pairwise.nil, by
    show _ ∨ (!w.params.followText "set-order") = true
    cases w.params.followText "set-order"
    · exact .inr rfl
    · exact .inl rfl⟩, List.nodup_nil⟩
/-- set.update's loop over keys -/
theorem setL_loop {I : Addr} {fp wr : List Addr} {G : Array GenState → Array GenState → Prop} {n : Nat} {Pv : Nat → Value → Prop} {St : Nat → Shared → Prop} {R : Result → Shared → Prop}
    (W : WalksS P w A.in1 I fp wr G n Pv St) (S : Addr) (hSf : S ∉ fp) (xs : List K) (hn : n = xs.length) (hb : xs.length + 1 < scanBound) (hval : ∀ i v, Pv i v → ∃ k, xs[i]? = some k ∧ knd.is k v = true ∧ v.scannable = true) :
    ∀ (k i : Nat) (s : Shared), n - i = k → i ≤ n → St i s → (∃ ks, SetL knd s.heap S ks ∧ ks.length ≤ i ∧ ∀ j, j ∈ ks ↔ j ∈ xs.take i) →
      (∀ s' ks, Moved (S :: wr) G s s' → SetL knd s'.heap S ks → (∀ j, j ∈ ks ↔ j ∈ xs) → R (.ok (.ret .none)) s') →
      codeAny (model P w) A (.builtin "set.update.loop" ⟨[.ref S, .ref I], []⟩) R s := by
  have hSw : S ∉ wr := fun h => hSf (W.sub _ h)
  have hsub : ∀ b ∈ wr, b ∈ S :: wr := fun b hb => List.mem_cons_of_mem _ hb
  intro k
  induction k with
  | zero =>
    rintro i s hk' hi hst ⟨ks, hS, hlen, hm⟩ hR
    have hin : i = n := by omega
    subst hin
    refine codeAny_builtin F.entry_set_update_loop ?_
    rw [Around.under_plainId F.plain_set_update_loop _]
    show wpAny _ A.in1 (pyNext (.ref I) >>= _) _ _ s
    refine wpAny_bind (W.done s _ _ hst fun s' mv => ?_)
    show wpAny _ A.in1 (PySem.ret Value.none) _ _ s'
    rw [List.take_of_length_le (by omega)] at hm
    exact wpAny_pure (hR s' ks (mv.mono hsub) (hS.at fun o e => mv.heap S o hSw e) hm)
  | succ k ih =>
    rintro i s hk' hi hst ⟨ks, hS, hlen, hm⟩ hR
    have hlt : i < n := by omega
    refine codeAny_builtin F.entry_set_update_loop ?_
    rw [Around.under_plainId F.plain_set_update_loop _]
    show wpAny _ A.in1 (pyNext (.ref I) >>= _) _ _ s
    refine wpAny_bind (W.item i s _ _ hlt hst fun v s' hP hst' mv => ?_)
    obtain ⟨z, hz, hk1, hk2⟩ := hval i v hP
    have hS' : SetL knd s'.heap S ks := hS.at fun o e => mv.heap S o hSw e
    show wpAny _ A.in1 (holding [v] (setAdd S v) >>= _) _ _ s'
    refine wpAny_bind (wpAny_holding ?_)
    unfold setAdd
    refine wpAny_holding (wpAny_bind (knd.pyHash (k := z) hk1 ?_))
    refine setL_add (s := { s' with toks := s'.toks + 1 }) hk1 hk2 hS' (by omega) fun h' ks2 hsb hS2 hm2 hl2 => ?_
    refine wpAny_pure ⟨plainId_quiet F.plain_set_update_loop _, ih (i + 1) _ (by omega) hlt (W.frame _ s' _ _ hst' (Nat.le_succ _) fun b hb o e => ?_) ⟨ks2, hS2, by omega, fun j => ?_⟩ fun s'' k3 mv3 hS3 hm3 => ?_⟩
    · rw [hsb.2 b (fun h : b = S => hSf (by rw [← h]; exact hb))]; exact e
    · rw [hm2, hm, List.take_add_one, hz, List.mem_append]
      simp [or_comm]
    · refine hR s'' k3 (Moved.trans W.gtrans ((mv.mono hsub).then_heap (Nat.le_succ _) fun b o hb e => ?_) mv3) hS3 hm3
      rw [hsb.2 b (fun h : b = S => hb (by rw [h]; exact List.mem_cons_self))]; exact e
theorem set_made (a : Value) {Q₁ : Value → Shared → Prop} (h : Q₁ (.ref s.heap.objs.size) { s with heap := s.heap.push (newSetObj w) }) :
    codeAny (model P w) A (.call (.builtin "set.__new__") ⟨[.type "set", a], []⟩) (wants Q₁ E) s := code_set_led1 a h
set_option maxHeartbeats 3200000 in
/-- set(xs), xs a list of keys -/
theorem call_setL {l : Addr} {items : Array Value} (xs : List K) {Q : Value → Shared → Prop} (hh : A.handled = none) (hl : s.heap.IsList l items) (hit : Paired (fun v k => knd.is k v = true ∧ v.scannable = true) items.toList xs) (hb : xs.length + 1 < scanBound)
    (h : ∀ (h' : Heap) (tk : Nat) (ks : List K), SetL knd h' s.heap.objs.size ks → (∀ j, j ∈ ks ↔ j ∈ xs) → (∀ b o, s.heap.get? b = some o → h'.get? b = some o) → Q (.ref s.heap.objs.size) { s with heap := h', toks := tk }) :
    wpAny (model P w) A (call (.type "set") [.ref l]) Q E s := by
  have hisz : items.size = xs.length := by rw [← Array.length_toList]; exact PySem.Paired.length hit
  obtain ⟨c, tl, hmro⟩ := F.called_set.mro
  have f1 := F.called_set.made
  have f2 := F.called_set.sub
  have f3 := F.called_set.notType
  have f4 := F.called_set.canCreate
  have f5 := F.typeCall_set_1 (.ref l)
  have hS : (s.heap.push (newSetObj w)).get? s.heap.objs.size = some (newSetObj w) := Heap.get?_push_size _ rfl
  have hT : Shared.TypeIs { s with heap := s.heap.push (newSetObj w) } (.ref s.heap.objs.size) "set" := ⟨_, hS, rfl⟩
  refine wpAny_call (codeAny_of_tree ?_)
  show wpAny _ _ (callAny (.type "set") _) _ _ _
  refine wpAny_pure ⟨Code.quiet_builtin _ (by decide +kernel), codeAny_builtin F.entry_type_call ?_⟩
  rw [Around.under_plain (weight_type_call_type "set" [.ref l] []) rfl]
  repeat (any_goals (first | assumption | wp_step))
  refine codeAny_mono (set_made (.ref l) (E := E) (Q₁ := fun o s₁ => o = .ref s.heap.objs.size ∧ s₁ = { s with heap := s.heap.push (newSetObj w) }) ⟨rfl, rfl⟩) fun r s₁ hr => ?_
  match r, hr with
  | .error e, hr => exact hr
  | .ok (.ret o), hr =>
    obtain ⟨rfl, rfl⟩ := hr
    have f6 := F.called_set.init.lookup
    have f7 := F.called_set.init.bind (.ref s.heap.objs.size)
    repeat (any_goals (first | assumption | wp_step))
    refine codeAny_mono (codeAny_call_builtin (R := wants (fun r s₂ => r = .none ∧ ∃ h' tk ks, s₂ = { s with heap := h', toks := tk } ∧ SetL knd h' s.heap.objs.size ks ∧ (∀ j, j ∈ ks ↔ j ∈ xs) ∧
        (∀ b o, s.heap.get? b = some o → h'.get? b = some o)) E) F.called_set.init.plain F.entry_set_init (check_set_init_1 hT ?_)) fun r₂ s₂ hr₂ => ?_
    · obtain ⟨ol, hol, hcl, nl, hdl⟩ := hl
      obtain ⟨oc, od, ot, os⟩ := ol
      simp only at hcl hdl
      subst hcl; subst hdl
      have hol' : (s.heap.push (newSetObj w)).get? l = some { cls := .type "list", dict := od, data := .seq items nl, slots := os } := Heap.get?_push_of_some _ hol
      have g1 := F.sub_list_set
      have g2 := F.sub_list_frozenset
      have g3 : (Value.type "list" == Value.type "dict") = false := by decide
      have hl1 : (s.heap.push (newSetObj w)).IsList l items := ⟨_, hol', rfl, nl, rfl⟩
      unfold Builtin.«set.__init__» noKeywords Builtin.Frozenset.updateFrom
      generalize hPI : pyIter = PI
      wp_walk
      subst hPI
      refine wpAny_pyIter_list hl1 (wpAny_bind (wpAny_runValue ?_))
      have hlS : l < s.heap.objs.size := Heap.lt_size hol
      have hz : (s.heap.push (newSetObj w)).objs.size = s.heap.objs.size + 1 := Heap.size_push ..
      have n1 : l ≠ (s.heap.push (newSetObj w)).objs.size := by rw [hz]; exact Nat.ne_of_lt (Nat.lt_succ_of_lt hlS)
      have n2 : s.heap.objs.size ∉ [(s.heap.push (newSetObj w)).objs.size, l] := by
        rw [hz]; simp only [List.mem_cons, List.not_mem_nil, or_false, not_or]; exact ⟨Nat.ne_of_lt (Nat.lt_succ_self _), Nat.ne_of_gt hlS⟩
      refine setL_loop (knd := knd) ((Walks.list (by simp [hh]) _ l n1 items).toS) s.heap.objs.size n2 xs hisz hb (fun i v hv => ?_) (items.size - 0) 0 _ (by omega) (Nat.zero_le _)
        ⟨⟨_, Heap.get?_push_size _ rfl, rfl, rfl⟩, (hl1.push _)⟩ ⟨[], setL_new (Heap.get?_push_of_some _ hS), Nat.le_refl _, fun j => by simp⟩ fun s' ks mv hS' hm => ?_
      · have q : items.toList[i]? = some v := by rw [Array.getElem?_toList]; exact hv
        obtain ⟨k, h1, h2⟩ := paired_get hit q
        exact ⟨k, h1, h2⟩
      · obtain ⟨h', g2, d', tk', os'⟩ := s'
        have eg : g2 = s.gens := mv.gens
        have ed : d' = s.drawn := mv.drawn
        have eo : os' = s.os := mv.os
        subst eg; subst ed; subst eo
        show wpAny _ _ _ _ _ _
        refine wpAny_pure ?_
        show wpAny _ _ (PySem.ret Value.none) _ _ _
        refine wpAny_pure ⟨rfl, h', tk', ks, rfl, hS', hm, fun b o e => mv.heap b o ?_ (Heap.get?_push_of_some _ (Heap.get?_push_of_some _ e))⟩
        have hbl := Heap.lt_size e
        rw [hz]; simp only [List.mem_cons, List.not_mem_nil, or_false, not_or]; exact ⟨Nat.ne_of_lt hbl, Nat.ne_of_lt (Nat.lt_succ_of_lt hbl)⟩
    · match r₂, hr₂ with
      | .error e, hr₂ => exact hr₂
      | .ok (.ret r), hr₂ =>
        obtain ⟨rfl, h', tk, ks, rfl, hS', hm, hk'⟩ := hr₂
        repeat (any_goals (first | assumption | wp_step))
        exact h _ _ _ hS' hm hk'
set_option maxHeartbeats 3200000 in
/-- set(xs), xs a tuple of keys -/
theorem call_setT {l : Addr} {items : Array Value} (xs : List K) {Q : Value → Shared → Prop} (hh : A.handled = none) (hl : s.heap.IsTuple l items) (hit : Paired (fun v k => knd.is k v = true ∧ v.scannable = true) items.toList xs) (hb : xs.length + 1 < scanBound)
    (h : ∀ (h' : Heap) (tk : Nat) (ks : List K), SetL knd h' s.heap.objs.size ks → (∀ j, j ∈ ks ↔ j ∈ xs) → (∀ b o, s.heap.get? b = some o → h'.get? b = some o) → Q (.ref s.heap.objs.size) { s with heap := h', toks := tk }) :
    wpAny (model P w) A (call (.type "set") [.ref l]) Q E s := by
  have hisz : items.size = xs.length := by rw [← Array.length_toList]; exact PySem.Paired.length hit
  obtain ⟨c, tl, hmro⟩ := F.called_set.mro
  have f1 := F.called_set.made
  have f2 := F.called_set.sub
  have f3 := F.called_set.notType
  have f4 := F.called_set.canCreate
  have f5 := F.typeCall_set_1 (.ref l)
  have hS : (s.heap.push (newSetObj w)).get? s.heap.objs.size = some (newSetObj w) := Heap.get?_push_size _ rfl
  have hT : Shared.TypeIs { s with heap := s.heap.push (newSetObj w) } (.ref s.heap.objs.size) "set" := ⟨_, hS, rfl⟩
  refine wpAny_call (codeAny_of_tree ?_)
  show wpAny _ _ (callAny (.type "set") _) _ _ _
  refine wpAny_pure ⟨Code.quiet_builtin _ (by decide +kernel), codeAny_builtin F.entry_type_call ?_⟩
  rw [Around.under_plain (weight_type_call_type "set" [.ref l] []) rfl]
  repeat (any_goals (first | assumption | wp_step))
  refine codeAny_mono (set_made (.ref l) (E := E) (Q₁ := fun o s₁ => o = .ref s.heap.objs.size ∧ s₁ = { s with heap := s.heap.push (newSetObj w) }) ⟨rfl, rfl⟩) fun r s₁ hr => ?_
  match r, hr with
  | .error e, hr => exact hr
  | .ok (.ret o), hr =>
    obtain ⟨rfl, rfl⟩ := hr
    have f6 := F.called_set.init.lookup
    have f7 := F.called_set.init.bind (.ref s.heap.objs.size)
    repeat (any_goals (first | assumption | wp_step))
    refine codeAny_mono (codeAny_call_builtin (R := wants (fun r s₂ => r = .none ∧ ∃ h' tk ks, s₂ = { s with heap := h', toks := tk } ∧ SetL knd h' s.heap.objs.size ks ∧ (∀ j, j ∈ ks ↔ j ∈ xs) ∧
        (∀ b o, s.heap.get? b = some o → h'.get? b = some o)) E) F.called_set.init.plain F.entry_set_init (check_set_init_1 hT ?_)) fun r₂ s₂ hr₂ => ?_
    · obtain ⟨ol, hol, hcl, nl, hdl⟩ := hl
      obtain ⟨oc, od, ot, os⟩ := ol
      simp only at hcl hdl
      subst hcl; subst hdl
      have hol' : (s.heap.push (newSetObj w)).get? l = some { cls := .type "tuple", dict := od, data := .seq items nl, slots := os } := Heap.get?_push_of_some _ hol
      have g1 := F.sub_tuple_set
      have g2 := F.sub_tuple_frozenset
      have g3 : (Value.type "tuple" == Value.type "dict") = false := by decide
      have hl1 : (s.heap.push (newSetObj w)).IsTuple l items := ⟨_, hol', rfl, nl, rfl⟩
      unfold Builtin.«set.__init__» noKeywords Builtin.Frozenset.updateFrom
      generalize hPI : pyIter = PI
      wp_walk
      subst hPI
      refine wpAny_pyIter_tuple hl1 (wpAny_bind (wpAny_runValue ?_))
      have hlS : l < s.heap.objs.size := Heap.lt_size hol
      have hz : (s.heap.push (newSetObj w)).objs.size = s.heap.objs.size + 1 := Heap.size_push ..
      have n1 : l ≠ (s.heap.push (newSetObj w)).objs.size := by rw [hz]; exact Nat.ne_of_lt (Nat.lt_succ_of_lt hlS)
      have n2 : s.heap.objs.size ∉ [(s.heap.push (newSetObj w)).objs.size, l] := by
        rw [hz]; simp only [List.mem_cons, List.not_mem_nil, or_false, not_or]; exact ⟨Nat.ne_of_lt (Nat.lt_succ_self _), Nat.ne_of_gt hlS⟩
      refine setL_loop (knd := knd) ((Walks.tuple (by simp [hh]) _ l n1 items).toS) s.heap.objs.size n2 xs hisz hb (fun i v hv => ?_) (items.size - 0) 0 _ (by omega) (Nat.zero_le _)
        ⟨⟨_, Heap.get?_push_size _ rfl, rfl, rfl⟩, (hl1.push _)⟩ ⟨[], setL_new (Heap.get?_push_of_some _ hS), Nat.le_refl _, fun j => by simp⟩ fun s' ks mv hS' hm => ?_
      · have q : items.toList[i]? = some v := by rw [Array.getElem?_toList]; exact hv
        obtain ⟨k, h1, h2⟩ := paired_get hit q
        exact ⟨k, h1, h2⟩
      · obtain ⟨h', g2, d', tk', os'⟩ := s'
        have eg : g2 = s.gens := mv.gens
        have ed : d' = s.drawn := mv.drawn
        have eo : os' = s.os := mv.os
        subst eg; subst ed; subst eo
        show wpAny _ _ _ _ _ _
        refine wpAny_pure ?_
        show wpAny _ _ (PySem.ret Value.none) _ _ _
        refine wpAny_pure ⟨rfl, h', tk', ks, rfl, hS', hm, fun b o e => mv.heap b o ?_ (Heap.get?_push_of_some _ (Heap.get?_push_of_some _ e))⟩
        have hbl := Heap.lt_size e
        rw [hz]; simp only [List.mem_cons, List.not_mem_nil, or_false, not_or]; exact ⟨Nat.ne_of_lt hbl, Nat.ne_of_lt (Nat.lt_succ_of_lt hbl)⟩
    · match r₂, hr₂ with
      | .error e, hr₂ => exact hr₂
      | .ok (.ret r), hr₂ =>
        obtain ⟨rfl, h', tk, ks, rfl, hS', hm, hk'⟩ := hr₂
        repeat (any_goals (first | assumption | wp_step))
        exact h _ _ _ hS' hm hk'
/-- len of it -/
theorem len_setL {Q : Value → Shared → Prop} (R : SetL knd s.heap a ks) (h : Q (.int (ks.length : Nat) (s.toks + 1)) { s with toks := s.toks + 1 + 1 }) : wpAny (model P w) A (call (.builtin "len") [.ref a]) Q E s := by
  obtain ⟨o, es, ep, t, ho, hex, hd, hf, hn, hb⟩ := R.len
  refine call_len_set ho hex hd hf (by unfold scanBound at hb; omega) ?_
  rw [hn]
  exact h
/-- its members, gathered -/
theorem collect_setL {Q : List Value → Shared → Prop} (hh : A.handled = none) (R : SetL knd s.heap a ks)
    (hQ : ∀ s' out ks', (∀ b o, s.heap.get? b = some o → s'.heap.get? b = some o) → s.heap.objs.size ≤ s'.heap.objs.size → s'.gens = s.gens → s'.os = s.os → ks'.Perm ks → Paired (fun v k => knd.is k v = true ∧ v.scannable = true) out ks' → Q out s') :
    wpAny (model P w) A (collect (.ref a)) Q E s := by
  obtain ⟨⟨o, es, ep, t, ho, hex, hd, ⟨ks', hp, pm⟩, hb, hf, hr, hl⟩, nd⟩ := R
  refine collect_set hh ⟨o, ho, hex.1, hd⟩ hf hb hr hl fun s' out h1 h2 h3 h4 p => ?_
  have hv : Paired (fun v k => knd.is k v = true ∧ v.scannable = true) (es.toList.map (·.2)) ks' := paired_map_left hp fun e k q => ⟨q.1, q.2.2⟩
  obtain ⟨k2, p2, r2⟩ := paired_perm p hv
  exact hQ s' out k2 h1 h2 h3 h4 (p2.trans pm) r2
end
end Ev
end
section
set_option Elab.async false
set_option linter.all false
set_option maxRecDepth 100000
set_option autoImplicit false
namespace Ev
open PySem PySem.Spec PyProof.Rows L2
/-! ## texts in order, none twice -/
def ltS (a b : Str) : Bool := decide (a.cps.toList < b.cps.toList)
def leS (a b : Str) : Bool := decide (a.cps.toList ≤ b.cps.toList)
def insS (x : Str) : List Str → List Str
  | [] => [x]
  | y :: l => if x = y then y :: l else if ltS x y = true then x :: y :: l else y :: insS x l
def sortS : List Str → List Str
  | [] => []
  | x :: l => insS x (sortS l)
theorem str_ext {a b : Str} (h : a.cps.toList = b.cps.toList) : a = b := by
  cases a; cases b
  simp only [Str.mk.injEq]
  exact Array.toList_inj.mp h
theorem ltS_irr (a : Str) : ltS a a = false := decide_eq_false (List.lt_irrefl _)
theorem ltS_trans {a b c : Str} (h : ltS a b = true) (k : ltS b c = true) : ltS a c = true :=
  decide_eq_true (List.lt_trans (of_decide_eq_true h) (of_decide_eq_true k))
theorem leS_lt {a b : Str} (h : leS a b = true) (n : a ≠ b) : ltS a b = true := by
  refine decide_eq_true ?_
  rcases Classical.em (a.cps.toList < b.cps.toList) with c | c
  · exact c
  · exact absurd (str_ext (List.le_antisymm (of_decide_eq_true h) (List.not_lt.mp c))) n
theorem ltS_tri {a b : Str} (h : ltS a b = false) (n : a ≠ b) : ltS b a = true :=
  leS_lt (decide_eq_true (List.not_lt.mp (of_decide_eq_false h))) fun e => n e.symm
abbrev Up (l : List Str) : Prop := l.Pairwise (fun a b => ltS a b = true)
theorem up_eq : ∀ {l k : List Str}, Up l → Up k → (∀ x, x ∈ l ↔ x ∈ k) → l = k
  | [], [], _, _, _ => rfl
  | [], y :: k, _, _, h => by have := (h y).mpr List.mem_cons_self; cases this
  | x :: l, [], _, _, h => by have := (h x).mp List.mem_cons_self; cases this
  | x :: l, y :: k, hl, hk, h => by
    obtain ⟨a1, a2⟩ := List.pairwise_cons.mp hl
    obtain ⟨b1, b2⟩ := List.pairwise_cons.mp hk
    have e : x = y := by
      rcases List.mem_cons.mp ((h x).mp List.mem_cons_self) with e | e
      · exact e
      · rcases List.mem_cons.mp ((h y).mpr List.mem_cons_self) with e' | e'
        · exact e'.symm
        · have := ltS_trans (b1 x e) (a1 y e')
          rw [ltS_irr] at this
          cases this
    subst e
    have n1 : x ∉ l := fun z => by have := a1 x z; rw [ltS_irr] at this; cases this
    have n2 : x ∉ k := fun z => by have := b1 x z; rw [ltS_irr] at this; cases this
    rw [up_eq a2 b2 fun z => ?_]
    constructor
    · intro hz
      rcases List.mem_cons.mp ((h z).mp (List.mem_cons_of_mem _ hz)) with e | e
      · exact absurd (e ▸ hz) n1
      · exact e
    · intro hz
      rcases List.mem_cons.mp ((h z).mpr (List.mem_cons_of_mem _ hz)) with e | e
      · exact absurd (e ▸ hz) n2
      · exact e
theorem mem_insS {x z : Str} : ∀ {l : List Str}, z ∈ insS x l ↔ z = x ∨ z ∈ l
  | [] => by simp [insS]
  | y :: l => by
    unfold insS
    split
    · rename_i e; subst e; simp
    · split
      · simp
      · rw [List.mem_cons, mem_insS, List.mem_cons]
        constructor
        · rintro (h | h | h) <;> simp [h]
        · rintro (h | h | h) <;> simp [h]
theorem up_insS {x : Str} : ∀ {l : List Str}, Up l → Up (insS x l)
  | [], _ => List.pairwise_singleton _ _
  | y :: l, h => by
    obtain ⟨h1, h2⟩ := List.pairwise_cons.mp h
    unfold insS
    split
    · exact h
    · rename_i n
      split
      · rename_i c
        exact List.pairwise_cons.mpr ⟨fun z hz => by
          rcases List.mem_cons.mp hz with e | e
          · rw [e]; exact c
          · exact ltS_trans c (h1 z e), h⟩
      · rename_i c
        refine List.pairwise_cons.mpr ⟨fun z hz => ?_, up_insS h2⟩
        rcases mem_insS.mp hz with e | e
        · rw [e]; exact ltS_tri (by simpa using c) n
        · exact h1 z e
theorem mem_sortS {z : Str} : ∀ {l : List Str}, z ∈ sortS l ↔ z ∈ l
  | [] => Iff.rfl
  | x :: l => by
    show z ∈ insS x (sortS l) ↔ _
    rw [mem_insS, mem_sortS, List.mem_cons]
theorem up_sortS : ∀ (l : List Str), Up (sortS l)
  | [] => List.Pairwise.nil
  | _ :: l => up_insS (up_sortS l)
theorem up_merge {l : List Str} (nd : l.Nodup) : Up (l.mergeSort leS) := by
  have h1 := List.pairwise_mergeSort (le := leS) (fun a b c h k => decide_eq_true (List.le_trans (of_decide_eq_true h) (of_decide_eq_true k))) (fun a b => by
    rcases List.le_total a.cps.toList b.cps.toList with h | h
    · rw [show leS a b = true from decide_eq_true h]; rfl
    · rw [show leS b a = true from decide_eq_true h, Bool.or_true]) l
  have h2 : (l.mergeSort leS).Nodup := (List.mergeSort_perm l leS).nodup_iff.mpr nd
  exact (List.pairwise_and_iff.mpr ⟨h1, h2⟩).imp fun ⟨a, b⟩ => leS_lt a b
theorem merge_sortS {l k : List Str} (nd : k.Nodup) (h : ∀ x, x ∈ k ↔ x ∈ l) : k.mergeSort leS = sortS l :=
  up_eq (up_merge nd) (up_sortS l) fun x => by rw [(List.mergeSort_perm k leS).mem_iff, h, mem_sortS]
theorem up_nodup {l : List Str} (h : Up l) : l.Nodup := List.Pairwise.imp (fun {a b} c e => by rw [e, ltS_irr] at c; cases c) h
theorem len_sortS {l k : List Str} (nd : k.Nodup) (h : ∀ x, x ∈ k ↔ x ∈ l) : k.length = (sortS l).length := by
  rw [← merge_sortS nd h, (List.mergeSort_perm k leS).length_eq]

/-! ## set(e), met by sorted or len -/
def strsD : List PyData → Option (List Str)
  | [] => some []
  | .str x :: r => (strsD r).map (x :: ·)
  | _ :: _ => none
theorem strsD_eq : ∀ {ds : List PyData} {xs : List Str}, strsD ds = some xs → ds = xs.map .str
  | [], _, e => by cases Option.some.inj e; rfl
  | .str x :: r, xs, e => by
    have e : (strsD r).map (x :: ·) = some xs := e
    cases z : strsD r with
    | none => rw [z] at e; cases e
    | some ys =>
      rw [z] at e
      cases Option.some.inj e
      rw [strsD_eq z]; rfl
  | .none :: _, _, e => nomatch e
  | .int _ :: _, _, e => nomatch e
  | .bool _ :: _, _, e => nomatch e
  | .list _ :: _, _, e => nomatch e
  | .tuple _ :: _, _, e => nomatch e
  | .dict _ :: _, _, e => nomatch e
theorem strsD_map (xs : List Str) : strsD (xs.map .str) = some xs := by
  induction xs with
  | nil => rfl
  | cons x l ih => show (strsD (l.map .str)).map (x :: ·) = _; rw [ih]; rfl
theorem dq_strs {K : PySem.W.Frag} {F : Hp} : ∀ {xs : List Str} {vs : List V}, DqAll K F vs (xs.map .str) → vs = xs.map V.str
  | [], _, .nil => rfl
  | x :: xs, _, .cons h t => by cases h; rw [dq_strs t]; rfl
theorem vals_keys {P : Program} {w : World} : ∀ {xs : List Str} {us : List Value}, Vals (xs.map V.str) us → PySem.Paired (fun v k => (strKind P w).is k v = true ∧ v.scannable = true) us xs
  | [], _, .nil => .nil
  | x :: xs, _, .cons h t => by
    obtain ⟨tk, rfl⟩ := h
    exact .cons ⟨by show Value.isStrOf x (.str x tk) = true; simp [Value.isStrOf, Value.isStr], rfl⟩ (vals_keys t)
def SetO (P : Program) (w : World) (a : Addr) (ks : List Str) : HO := .ext fun h => SetL (strKind P w) h a ks
theorem setO_new {P : Program} {w : World} {H : Hp} {h : Heap} {a : Addr} {ks : List Str} (R : SetL (strKind P w) h a ks) : ObjOk P w H h a (SetO P w a ks) :=
  ⟨R, by obtain ⟨⟨o, _, _, _, ho, _⟩, _⟩ := R; exact ⟨o, ho⟩, fun h1 h2 p k => p.at k⟩
section
variable {X : Cx}
def textsW (st : Sto) (w : W) : Option (List Str) := (seqW st w).bind strsD
def rSet (X : Cx) : List V → Hp → VK → Prop := fun vs H Q => ∃ F m st w xs, WRs X.K F m [w] vs ∧ Rel X.K F m st H ∧ textsW st w = some xs ∧ xs.length < 4000 ∧
  ∀ p ks, H p = none → ks.Nodup → (∀ j, j ∈ ks ↔ j ∈ xs) → Q (.ref p) (upd H p (SetO X.prog X.w p ks))
theorem cr_set (hc : X.calm = true) : CallR X (.type "set") (rSet X) := by
  intro pins s σ H vs us Q I r hh
  obtain ⟨F, m, st, w, xs, rv, rl, e, hz, q⟩ := hh
  obtain ⟨v, rfl, r1⟩ := wrs1 rv
  unfold textsW at e
  cases z : seqW st w with
  | none => rw [z] at e; cases e
  | some ds =>
    rw [z] at e
    have ed := strsD_eq (show strsD ds = some xs from e)
    subst ed
    obtain ⟨a, ws, rfl, t, hs⟩ := seqW_ok rl r1 z
    rw [dq_strs t] at hs
    cases r with
    | cons ru rr =>
      cases rr
      cases ru
      have hd := I.ok.hd hc
      have fin : ∀ (h' : Heap) (tk : Nat) (ks : List Str), SetL (strKind X.prog X.w) h' s.heap.objs.size ks → (∀ j, j ∈ ks ↔ j ∈ xs) → (∀ b o, s.heap.get? b = some o → h'.get? b = some o) → EP X pins σ Q (.ref s.heap.objs.size) { s with heap := h', toks := tk } := fun h' tk ks R hm k =>
        ⟨.ref _, upd H s.heap.objs.size (SetO X.prog X.w s.heap.objs.size ks), I.laid (t' := tk) k (Nat.le_refl _) (setO_new R), rfl, q _ ks (I.hok.fresh (Nat.le_refl _)) R.nd hm⟩
      rcases hs with hs | ⟨hs, _⟩
      · obtain ⟨its, rv, hl, hz2⟩ := I.list hs
        exact call_setL xs hd hl.isList (vals_keys rv) (by unfold scanBound; omega) fin
      · obtain ⟨its, rv, hl, hz2⟩ := I.tuple hs
        exact call_setT xs hd hl (vals_keys rv) (by unfold scanBound; omega) fin
theorem setO_get {pins : List (Addr × Obj)} {σ : L2.St} {H : Hp} {s : Shared} {a : Addr} {ks : List Str} (I : Inv X pins σ H s) (ha : H a = some (SetO X.prog X.w a ks)) : SetL (strKind X.prog X.w) s.heap a ks := (I.hok a _ ha).1
theorem cr_lenSet : CallR X (.builtin "len") fun vs H Q => ∃ p ks, vs = [.ref p] ∧ H p = some (SetO X.prog X.w p ks) ∧ Q (.int (ks.length : Nat)) H := by
  intro pins s σ H vs us Q I r hh
  obtain ⟨p, ks, rfl, hp, q⟩ := hh
  obtain ⟨u, rfl, ru⟩ := vals1 r
  obtain rfl : u = Value.ref p := ru
  exact len_setL (setO_get I hp) ⟨.int (ks.length : Nat), H, I.tok _, ⟨_, rfl⟩, q⟩
theorem strs_vals : ∀ {us : List Value} {xs : List Str}, PySem.W.EachIs (fun v k => Value.isStrOf k v = true ∧ v.scannable = true) us xs → Vals (xs.map V.str) us
  | _, _, .nil => .nil
  | _, _, .cons h t => by
    obtain ⟨tk, e⟩ := Value.isStrOf_shape h.1
    exact .cons ⟨tk, e⟩ (strs_vals t)
theorem each_of {α β : Type} {R : α → β → Prop} : ∀ {l : List α} {k : List β}, PySem.Paired R l k → PySem.W.EachIs R l k
  | _, _, .nil => .nil
  | _, _, .cons h t => .cons h (each_of t)
theorem cr_sortSet (hc : X.calm = true) (hu : X.A.units + 65 < cLine) : CallR X (.builtin "sorted") fun vs H Q => ∃ p ks, vs = [.ref p] ∧ H p = some (SetO X.prog X.w p ks) ∧ ks.length < 4000 ∧
    ∀ q, H q = none → Q (.ref q) (upd H q (.lst ((ks.mergeSort leS).map V.str))) := by
  intro pins s σ H vs us Q I r hh
  obtain ⟨p, ks, rfl, hp, hz, q⟩ := hh
  obtain ⟨u, rfl, ru⟩ := vals1 r
  obtain rfl : u = Value.ref p := ru
  have hd := I.ok.hd hc
  have R := setO_get I hp
  refine Calls.call_function_entry kind_sorted plain_sorted entry_sorted (args_sorted1 _) ?_
  unfold Builtin.«sorted»
  refine wpAny_bind (m := checkCount "sorted" 1 1 _) (wpAny_pure ?_)
  refine wpAny_bind (collect_setL (A := X.A.in1) hd R fun s1 out ks' k1 hz1 g1 o1 pm hp1 => ?_)
  have nd' : ks'.Nodup := pm.nodup_iff.mpr R.nd
  have hlen : out.length = ks'.length := PySem.Paired.length hp1
  have hlk : ks'.length = ks.length := pm.length_eq
  refine wpAny_bind (wpAny_newList ?_ (by rw [hlen, hlk, sizeLine_eq]; omega))
  have hoL : (s1.heap.push (seqObj "list" out.toArray 0)).get? s1.heap.objs.size = some (seqObj "list" out.toArray 0) := Heap.get?_push_size _ rfl
  have e1 := each_of hp1
  have hL : ks'.length ≤ sizeLine := by rw [hlk, sizeLine_eq]; omega
  refine wpAny_bind (wpAny_holding (PySem.W.list_sort_data (s := { s1 with heap := s1.heap.push (seqObj "list" out.toArray 0) }) (enc := PyData.str) hoL e1 ?_ (PySem.W.AllAlike.of fun _ _ => rfl) (PySem.W.Sortable.others fun b => ⟨nofun, nofun⟩) hL (fun b _ => ?_) fun out2 hl2 eo => ?_))
  · refine e1.mono fun v k h => ?_
    obtain ⟨tk, e⟩ := Value.isStrOf_shape h.1
    rw [e]
    exact ⟨[], .str _ _, by simp⟩
  · have hu1 : X.A.in1.units = X.A.units + 1 := rfl
    have hdp : (PyData.str b).depth = 0 := by simp [PyData.depth]
    omega
  · obtain ⟨c, hc2⟩ := sortedHeap_at (vs := out) (out := List.toArray out2) hoL
    rw [PySem.W.dataLe_str (fun k : Str => k)] at eo
    have eo : PySem.W.EachIs (fun v k => Value.isStrOf k v = true ∧ v.scannable = true) out2 (ks'.mergeSort leS) := eo
    have em : ks'.mergeSort leS = ks.mergeSort leS := up_eq (up_merge nd') (up_merge R.nd) fun x => by rw [(List.mergeSort_perm ks' leS).mem_iff, (List.mergeSort_perm ks leS).mem_iff, pm.mem_iff]
    rw [em] at eo
    have kall : ∀ b o, s1.heap.get? b = some o → (sortedHeap (s1.heap.push (seqObj "list" out.toArray 0)) s1.heap.objs.size out (List.toArray out2)).get? b = some o := fun b o e => by
      have hlt := Heap.lt_size e
      rw [sortedHeap_old (Nat.ne_of_lt hlt) (by rw [size_push']; exact Nat.lt_succ_of_lt hlt)]
      exact Heap.get?_push_of_some _ e
    have I1 : Inv X pins σ H s1 := I.call' (ch := []) o1 (Un.kept k1) (I.hok.kept k1) (by rw [g1]; exact I.bare) (fun _ z => nomatch z)
    refine wpAny_pure ⟨_, rfl, .ref s1.heap.objs.size, upd H s1.heap.objs.size (.lst ((ks.mergeSort leS).map V.str)), I1.laid (t' := s1.toks) kall (Nat.le_refl _) ⟨?_, out2, c, strs_vals eo, hc2⟩, rfl, q _ (I1.hok.fresh (Nat.le_refl _))⟩
    rw [List.length_map, (List.mergeSort_perm ks leS).length_eq, ← hlk]; exact hL
end
section
variable {X : Cx} {Wx : WX} {e : Expr} {p1 p2 p3 p4 : Pos} {f : Env → M W}
def sortSetW (st : Sto) (w : W) : Option W := (textsW st w).bind fun xs => if xs.length < 4000 then some (.d (.list ((sortS xs).map .str))) else none
def lenSetW (st : Sto) (w : W) : Option W := (textsW st w).bind fun xs => if xs.length < 4000 then some (.d (.int (sortS xs).length)) else none
def op1 (op : Sto → W → Option W) (f : Env → M W) : Env → M W := fun ρ => bnd (f ρ) fun w => liftO fun st => op st w
theorem dq_ofStrs {K : PySem.W.Frag} {F : Hp} : ∀ (xs : List Str), DqAll K F (xs.map V.str) (xs.map .str)
  | [] => .nil
  | _ :: xs => .cons (.str _) (dq_ofStrs xs)
theorem nodup_sub {α : Type} [DecidableEq α] : ∀ (k l : List α), k.Nodup → (∀ x ∈ k, x ∈ l) → k.length ≤ l.length
  | [], _, _, _ => Nat.zero_le _
  | x :: k, l, nd, h => by
    obtain ⟨n1, n2⟩ := List.nodup_cons.mp nd
    have hx := h x List.mem_cons_self
    have ih := nodup_sub k (l.erase x) n2 fun y hy => (List.mem_erase_of_ne fun e => n1 (by rw [← e]; exact hy)).mpr (h y (List.mem_cons_of_mem _ hy))
    have e := List.length_erase_of_mem hx
    have p := List.length_pos_of_mem hx
    rw [List.length_cons]; omega
theorem nodup_le {k l : List Str} (nd : k.Nodup) (h : ∀ x, x ∈ k ↔ x ∈ l) : k.length ≤ l.length := nodup_sub k l nd fun x hx => (h x).mp hx
theorem Rel.drop {K : PySem.W.Frag} {F : Hp} {m : List Addr} {st : Sto} {H : Hp} (rl : Rel K F m st H) {p : Addr} (hp : H p = none) {o : HO} : Rel K F m st (upd H p o) := by
  have ne : ∀ a ∈ m, a ≠ p := fun a ha e => by obtain ⟨u, hu⟩ := rl.here a ha; rw [e, hp] at hu; cases hu
  exact ⟨fun a u e => by rw [upd_ne (fun z => by rw [z, rl.free hp] at e; cases e)]; exact rl.sub a u e, rl.len, rl.nd, rl.out, fun a ha => by rw [upd_ne (ne a ha)]; exact rl.here a ha,
    fun i a so e1 e2 => (rl.obj i a so e1 e2).keep (Same.refl _) (List.prefix_refl _) (upd_ne (ne a (List.mem_of_getElem? e1))), rl.nt⟩
theorem se_sortSet (hc : X.calm = true) (hu : X.A.units + 65 < cLine) (he : SE X Wx e f) (hg1 : Gl X "sorted") (hm1 : X.mg "sorted" = none) (hg2 : Gl X "set") (hm2 : X.mg "set" = none)
    (hs : starEach [e] X.env = [(false, eval e X.env)] := by rfl) (hs2 : starEach [.Call (.Name "set" p2) [e] [] p3] X.env = [(false, eval (.Call (.Name "set" p2) [e] [] p3) X.env)] := by rfl) :
    SE X Wx (.Call (.Name "sorted" p1) [.Call (.Name "set" p2) [e] [] p3] [] p4) (op1 sortSetW f) :=
  PE.imp (pe_callB (cr_sortSet hc hu) hg1 hm1 boot_sorted (pa_cons (pe_callTy (cr_set hc) hg2 hm2 boot_set (pa_cons he pa_nil hs) (he := hs)) pa_nil hs2) (he := hs2)) fun σ H Q h => by
    obtain ⟨F, m, st, ρ, er, rl, h⟩ := h
    refine ⟨F, m, st, ρ, er, rl, After.mono (Same.refl F) (List.prefix_refl m) h.bnd fun w F1 m1 H1 s1 p1 ⟨st1, _, _, rl1, h1⟩ v r1 => ?_⟩
    obtain ⟨w', e1, q⟩ := h1.liftO
    unfold sortSetW at e1
    cases z : textsW st1 w with
    | none => rw [z] at e1; cases e1
    | some xs =>
      rw [z] at e1
      have e1 : (if xs.length < 4000 then some (W.d (.list ((sortS xs).map .str))) else none) = some w' := e1
      split at e1
      · rename_i hz
        cases Option.some.inj e1
        refine ⟨F1, m1, st1, w, xs, .cons r1 .nil, rl1, z, hz, fun p ks hp nd hm => ?_⟩
        refine ⟨p, ks, rfl, upd_same, Nat.lt_of_le_of_lt (nodup_le nd hm) hz, fun q' hq' => ?_⟩
        rw [merge_sortS nd hm]
        have rl2 : Rel X.K F1 m1 st1 (upd H1 p (SetO X.prog X.w p ks)) := rl1.drop hp
        exact rM_lst (fun F' m' H' v s p r hv => q F' m' H' s p r v hv) rl2 hq' (dq_ofStrs _)
      · cases e1
theorem se_lenSet (hc : X.calm = true) (he : SE X Wx e f) (hg1 : Gl X "len") (hm1 : X.mg "len" = none) (hg2 : Gl X "set") (hm2 : X.mg "set" = none)
    (hs : starEach [e] X.env = [(false, eval e X.env)] := by rfl) (hs2 : starEach [.Call (.Name "set" p2) [e] [] p3] X.env = [(false, eval (.Call (.Name "set" p2) [e] [] p3) X.env)] := by rfl) :
    SE X Wx (.Call (.Name "len" p1) [.Call (.Name "set" p2) [e] [] p3] [] p4) (op1 lenSetW f) :=
  PE.imp (pe_callB cr_lenSet hg1 hm1 boot_len (pa_cons (pe_callTy (cr_set hc) hg2 hm2 boot_set (pa_cons he pa_nil hs) (he := hs)) pa_nil hs2) (he := hs2)) fun σ H Q h => by
    obtain ⟨F, m, st, ρ, er, rl, h⟩ := h
    refine ⟨F, m, st, ρ, er, rl, After.mono (Same.refl F) (List.prefix_refl m) h.bnd fun w F1 m1 H1 s1 p1 ⟨st1, _, _, rl1, h1⟩ v r1 => ?_⟩
    obtain ⟨w', e1, q⟩ := h1.liftO
    unfold lenSetW at e1
    cases z : textsW st1 w with
    | none => rw [z] at e1; cases e1
    | some xs =>
      rw [z] at e1
      have e1 : (if xs.length < 4000 then some (W.d (.int (sortS xs).length)) else none) = some w' := e1
      split at e1
      · rename_i hz
        cases Option.some.inj e1
        refine ⟨F1, m1, st1, w, xs, .cons r1 .nil, rl1, z, hz, fun p ks hp nd hm => ?_⟩
        refine ⟨p, ks, rfl, upd_same, ?_⟩
        rw [len_sortS nd hm]
        have rl2 : Rel X.K F1 m1 st1 (upd H1 p (SetO X.prog X.w p ks)) := rl1.drop hp
        exact q F1 m1 _ (Same.refl _) (List.prefix_refl _) rl2 _ (.int _)
      · cases e1
end
end Ev
end
section
set_option Elab.async false
set_option linter.all false
set_option maxRecDepth 100000
set_option autoImplicit false
namespace Ev
open PySem PySem.Spec PyProof.Rows L2 LamX
/-! ## a lambda without parameters, handed to a def that calls it -/
open Classical in
/-- a(), a in slot i: the thunk t, if it is the closure c -/
noncomputable def actF (i : Nat) (c : Cl) (t : M W) : Env → M W := fun ρ => match ρ[i]? with
  | some (some (.fn c')) => if c' = c then t else bad
  | _ => bad
theorem actF_at {i : Nat} {c : Cl} {t : M W} {ρ : Env} (h : ρ[i]? = some (some (.fn c))) : actF i c t ρ = t := by
  unfold actF; rw [h]; dsimp only; rw [if_pos rfl]
/-- the tables that the store tells of -/
def tabsOf (st : Sto) : List (Addr × Str) := st.filterMap fun so => match so with
  | .tab P q => some (P, q)
  | _ => none
theorem mem_tabs {st : Sto} {P : Addr} {q : Str} (h : (P, q) ∈ tabsOf st) : ∃ i : Nat, st[i]? = some (SO.tab P q) := by
  obtain ⟨so, h1, h2⟩ := List.mem_filterMap.mp h
  obtain ⟨i, hi⟩ := List.mem_iff_getElem?.mp h1
  cases so with
  | tab P' q' => cases Option.some.inj h2; exact ⟨i, hi⟩
  | lst ws => cases h2
  | dic ws => cases h2
  | dead => cases h2
theorem tabs_mem {st : Sto} {P : Addr} {q : Str} {i : Nat} (h : st[i]? = some (SO.tab P q)) : (P, q) ∈ tabsOf st := List.mem_filterMap.mpr ⟨_, List.mem_of_getElem? h, rfl⟩
section
variable {K : PySem.W.Frag} {F : Hp} {m : List Addr} {st : Sto} {H H1 : Hp}
theorem Rel.tab (rl : Rel K F m st H) {i : Nat} {P : Addr} {q : Str} (h : st[i]? = some (SO.tab P q)) : m[i]? = some P ∧ ∃ ps, H P = some (.tbl ps) ∧ TriplesOk ps.toList ∧ ∀ (pos : Pos) (cv : Value), codeAmong pos ps.toList = some cv → ∃ c, cv = .ref c ∧ F c = some (CodeO c q) := by
  have hl : i < m.length := by rw [rl.len]; exact (List.getElem?_eq_some_iff.mp h).1
  have hm : m[i]? = some m[i] := List.getElem?_eq_getElem hl
  obtain ⟨e, r⟩ := rl.obj i _ _ hm h
  rw [e] at hm
  exact ⟨hm, e ▸ r⟩
theorem Rel.tabs (rl : Rel K F m st H) : Tabs (tabsOf st) H := fun ⟨P, q⟩ hp => by
  obtain ⟨i, hi⟩ := mem_tabs hp
  obtain ⟨_, ps, h1, h2, h3⟩ := rl.tab hi
  exact ⟨ps, h1, h2, fun pos cv hc => let ⟨c, e1, e2⟩ := h3 pos cv hc; ⟨c, e1, rl.sub _ _ e2⟩⟩
theorem Rel.tab_one (rl : Rel K F m st H) {P : Addr} {q q' : Str} (h : (P, q) ∈ tabsOf st) (h' : (P, q') ∈ tabsOf st) : q' = q := by
  obtain ⟨i, hi⟩ := mem_tabs h
  obtain ⟨j, hj⟩ := mem_tabs h'
  have e := nodup_get rl.nd (rl.tab hi).1 (rl.tab hj).1
  subst e
  rw [hi] at hj
  cases Option.some.inj hj
  rfl
open Classical in
/-- the code objects of H1 are known from now on -/
noncomputable def withCodes (F H1 : Hp) : Hp := fun b => if (∃ q, H1 b = some (CodeO b q)) then H1 b else F b
theorem withCodes_at {b : Addr} {q : Str} (h : H1 b = some (CodeO b q)) : withCodes F H1 b = some (CodeO b q) := by
  unfold withCodes; rw [if_pos ⟨q, h⟩]; exact h
theorem withCodes_or (b : Addr) : withCodes F H1 b = F b ∨ (∃ q, H1 b = some (CodeO b q)) ∧ withCodes F H1 b = H1 b := by
  unfold withCodes
  split
  · rename_i h; exact .inr ⟨h, rfl⟩
  · exact .inl rfl
/-- what is behind a lambda's making -/
theorem Rel.made (rl : Rel K F m st H) (e : ExtN H H1) (t : Tabs (tabsOf st) H1) : Rel K (withCodes F H1) m st H1 ∧ Same F (withCodes F H1) := by
  have sub1 : ∀ b u, F b = some u → H1 b = some u := fun b u h => e b u (rl.sub b u h) fun ps z => rl.nt b ps (by rw [h, z])
  have same : Same F (withCodes F H1) := fun b u h => by
    rcases withCodes_or (F := F) (H1 := H1) b with z | ⟨_, z⟩
    · rw [z]; exact h
    · rw [z]; exact sub1 b u h
  have hobj : ∀ (i : Nat) (a : Addr) (so : SO), m[i]? = some a → st[i]? = some so → SR K (withCodes F H1) m H1 a so ∧ ∀ φ, H1 a ≠ some (.ext φ) := fun i a so h1 h2 => by
    have r := rl.obj i a so h1 h2
    cases so with
    | lst ws =>
      obtain ⟨vs, h3, h4⟩ := r
      have h5 := e a _ h3 nofun
      exact ⟨⟨vs, h5, h4.mono same (List.prefix_refl m)⟩, fun φ z => by rw [h5] at z; cases z⟩
    | dic ws =>
      obtain ⟨vs, h3, h4⟩ := r
      have h5 := e a _ h3 nofun
      exact ⟨⟨vs, h5, Paired.mapP h4 fun _ _ ⟨x, y⟩ => ⟨x, y.mono same (List.prefix_refl m)⟩⟩, fun φ z => by rw [h5] at z; cases z⟩
    | dead =>
      obtain ⟨o, h3, h4⟩ := r
      have h6 := e a _ h3 h4.2
      exact ⟨⟨o, h6, h4⟩, fun φ z => by rw [h6] at z; exact h4.1 φ (Option.some.inj z)⟩
    | tab P q =>
      obtain ⟨rfl, r⟩ := r
      obtain ⟨ps, h3, h4, h5⟩ := t (a, q) (tabs_mem h2)
      exact ⟨⟨rfl, ps, h3, h4, fun pos cv hc => let ⟨c, e1, e2⟩ := h5 pos cv hc; ⟨c, e1, withCodes_at e2⟩⟩, fun φ z => by rw [h3] at z; cases z⟩
  have idx : ∀ a ∈ m, ∃ (i : Nat) (so : SO), m[i]? = some a ∧ st[i]? = some so := fun a ha => by
    obtain ⟨i, hi⟩ := List.mem_iff_getElem?.mp ha
    have hl : i < st.length := by rw [← rl.len]; exact (List.getElem?_eq_some_iff.mp hi).1
    exact ⟨i, _, hi, List.getElem?_eq_getElem hl⟩
  refine ⟨⟨fun b u h => ?_, rl.len, rl.nd, fun a ha => ?_, fun a ha => ?_, fun i a so h1 h2 => (hobj i a so h1 h2).1, fun b ps h => ?_⟩, same⟩
  · rcases withCodes_or (F := F) (H1 := H1) b with z | ⟨_, z⟩
    · rw [z] at h; exact sub1 b u h
    · rw [z] at h; exact h
  · obtain ⟨i, so, h1, h2⟩ := idx a ha
    rcases withCodes_or (F := F) (H1 := H1) a with z | ⟨⟨q, hq⟩, _⟩
    · rw [z]; exact rl.out a ha
    · exact absurd hq ((hobj i a so h1 h2).2 _)
  · obtain ⟨i, so, h1, h2⟩ := idx a ha
    have r := (hobj i a so h1 h2).1
    cases so with
    | lst ws => obtain ⟨vs, h3, _⟩ := r; exact ⟨_, h3⟩
    | dic ws => obtain ⟨vs, h3, _⟩ := r; exact ⟨_, h3⟩
    | dead => obtain ⟨o, h3, _⟩ := r; exact ⟨_, h3⟩
    | tab P q => obtain ⟨rfl, ps, h3, _⟩ := r; exact ⟨_, h3⟩
  · rcases withCodes_or (F := F) (H1 := H1) b with z | ⟨⟨q, hq⟩, z⟩
    · rw [z] at h; exact rl.nt b ps h
    · rw [z, hq] at h; cases h
end

/-! ### the def that gets it -/
/-- a body run: its end -/
def runFn (n : Nat) (fb : S) (c : Cl) : M W := fun st => match fb (some (.fn c) :: List.replicate (n - 1) none) st with
  | .go (.nx _) st' => .ok (.d .none) st'
  | .go (.rt w) st' => .ok w st'
  | _ => .bad
/-- the def x of one parameter, handed a closure that does t, does gx t -/
structure LamDef (g : Gd) (x a : Str) (gx : M W → M W) : Prop where
  ex : ∃ (ga : Addr) (pg : Arguments) (bg : List Stmt) (sg : Scope) (dV kV doc pm cdv ct oc : Value) (an od : Option Addr) (osl : Array (Option Value)) (Ng : List Str) (fb : Cl → M W → S),
    g.mg x = some (.ref ga) ∧ PySem.W.keepIn g.K (.ref ga) = true ∧ g.K.lookup ga = some ⟨oc, od, .func (PySem.W.fnOf x x pg bg sg dV kV doc pm an cdv ct), osl⟩ ∧ PySem.W.codeIn g.K cdv x = true ∧
    L2.Binds g.K (PySem.W.fnOf x x pg bg sg dV kV doc pm an cdv ct) [a] [] ∧ FnScope Ng [a] sg ∧ Ng[0]? = some a ∧ Vis sg a ∧ (a == ("__debug__" : Str)) = false ∧ (a == ("__classdict__" : Str)) = false ∧ (x == ("__debug__" : Str)) = false ∧
    (∀ (c : Cl) (t : M W), runFn Ng.length (fb c t) c = gx t) ∧
    (∀ (A : Around) (outer : List PySem.Env) (s : Shared) (H : Hp) (c : Cl) (t : M W),
      (∀ (W : WX) (pn : List (Addr × Obj)) (xe : Value → Shared → Prop) (p1 p2 : Pos), Takes ((cxOf C8.CX0 g.P g.w g.K g.mg g.base Ng x sg ga cdv A outer s H C8.E0).tr pn xe) W →
        SE ((cxOf C8.CX0 g.P g.w g.K g.mg g.base Ng x sg ga cdv A outer s H C8.E0).tr pn xe) W (.Call (.Name a p1) [] [] p2) (actF 0 c t)) →
      SSs (cxOf C8.CX0 g.P g.w g.K g.mg g.base Ng x sg ga cdv A outer s H C8.E0).nox Wn bg (fb c t))
/-- x(lambda: body), the lambda's code found in or put into the table at P -/
def lamF (P : Addr) (q : Str) (gx : M W → M W) (fb : Env → M W) : Env → M W := fun ρ st => if (P, q) ∈ tabsOf st then gx (fb ρ) st else .bad
section
variable {X : Cx} {Wx : WX}
theorem takes_lam {A : Around} {outer : List PySem.Env} {s : Shared} {H : Hp} {E : XK} {scope : Scope} {f c' : Addr} : Takes (lamCx X A outer s H E scope f c') (fun c d _ H' => E c d H') :=
  takes_of rfl rfl rfl rfl
/-- a(), in the def that got the closure: what it may let out is told of the very frame -/
theorem pe_actE {Ng : List Str} {qg : Str} {sg : Scope} {g f c' : Addr} {cdg pm ctv : Value} {params : Arguments} {body : Expr} {scope : Scope} {k i : Nat} {a : Str} {pn : List (Addr × Obj)} {xe : Value → Shared → Prop} {W : WX} {t : XK → TE} {p1 p2 : Pos}
    {pins : List (Addr × Obj)} {σ : L2.St} {H : Hp} {s : Shared} (I : Inv X pins σ H s) (L : LamS X.env.scope scope) (hf : s.heap.get? f = some (PySem.W.kla_obj "<lambda>" (X.env.qual ++ "<lambda>") params body scope (cloFrom X.env.cells scope.names []) pm c' ctv)) (hfn : H f = none) (hfr : f ∉ frs X.stack)
    (hbind : bindArgs (PySem.W.kla_fn "<lambda>" (X.env.qual ++ "<lambda>") params body scope (cloFrom X.env.cells scope.names []) pm (.ref c') ctv) ⟨[], []⟩ = pure [])
    (tk : Takes ((cxOf C8.CX0 X.prog X.w X.K X.mg X.base Ng qg sg g cdg X.A X.stack s H C8.E0).tr pn xe) W) (hr : Room (k + 1) (X.A.deeper (envOfC qg sg s.heap.objs.size g cdg)))
    (hbody : ∀ (A : Around) (outer : List PySem.Env) (s : Shared) (H : Hp) (E : XK), Room k (A.deeper (lamEnv X scope s.heap.objs.size f c')) → PE (lamCx X A outer s H E scope f c') body (t E))
    (hN : Ng[i]? = some a) (hv : Vis sg a) (hd : (a == ("__debug__" : Str)) = false) (hcd : (a == ("__classdict__" : Str)) = false) :
    PE ((cxOf C8.CX0 X.prog X.w X.K X.mg X.base Ng qg sg g cdg X.A X.stack s H C8.E0).tr pn xe) (.Call (.Name a p1) [] [] p2)
      (fun σZ HZ Q => σZ[i]? = some (some (.ref f)) ∧ HZ c' = some (CodeO c' (X.env.qual ++ "<lambda>")) ∧ t (fun cls d H' => W cls d σZ H') σ HZ Q) := by
  refine ⟨fun pinsZ sZ σZ HZ Q IZ ⟨hs, hc, ht⟩ => ?_⟩
  refine wpAny_Call_Name_kw (thn ((pe_var (pos := p1) (i := i) hN hv hd hcd).run pinsZ sZ σZ HZ (fun v H1 => v = .ref f ∧ H1 = HZ) IZ ⟨.ref f, hs, rfl, rfl⟩) fun u s1 ⟨v, H1, I1, r1, ev, eH⟩ => ?_)
  subst ev eH
  cases (show u = Value.ref f from r1)
  have hob := I1.base.keep f _ hf hfn hfr (fun z => nomatch (show f ∈ ([] : List Addr) from z))
  refine PySem.W.callWith_F0 ⟨_, _, _, _, hob⟩ ?_
  have un : Un (frs X.stack) [] H H1 s.heap s1.heap := I1.base
  obtain ⟨⟨oc, vs, tt, hoc, hdc, hvc⟩, _, _⟩ := I1.hok c' _ hc
  have rc : codeAny (model X.prog X.w) (X.A.deeper (envOfC qg sg s.heap.objs.size g cdg)) (.call (.ref f) ⟨[], []⟩) (CR (L2.CX X.prog X.w) (envOfC qg sg s.heap.objs.size g cdg :: X.stack) X.prog X.w H1 s1 Q (fun cls d H' => W cls d σZ H')) s1 := by
    refine PySem.W.kla_callFunE hr.depth hob rfl L.co L.gen rfl ⟨c', oc, vs, tt, rfl, hoc, hdc, hvc⟩ ?_
    rw [hbind]
    refine wpAny_pure (wpAny_newFunctionEnv (fun y hy => (L.own y hy).2) (fun y hy => absurd hy (by simp)) (fun h₁ hns hsb => ⟨I1.nolimit.fresh _ hsb, ?_⟩) L.kind)
    have kp : ∀ b o, s1.heap.get? b = some o → h₁.get? b = some o := fun b o e => hsb.extBut b o (Nat.ne_of_lt (Heap.lt_size e)) (Heap.get?_push_of_some _ e)
    refine PySem.W.kla_codeExpr (wpAny_mono ((hbody _ _ s1 H1 (fun cls d H' => W cls d σZ H') (hr.deeper _)).run [] _ _ H1 Q (lam_start2 I L I1.env0 hr.hd un hns kp) ht) (fun v s' hq => ?_) fun e s' hq => hq)
    obtain ⟨w', H', J', rv, q⟩ := hq
    exact ⟨w', H', J'.os, J'.bare, J'.base, J'.hok, rv, q⟩
  refine wpAny_call (codeAny_mono rc fun r s' hq => ?_)
  cases r with
  | error e => exact tk e s' (XE.of_call I1 (fun cls d H' h => h) hq)
  | ok fl =>
    cases fl with
    | ret u => exact I1.after hq
    | next => exact False.elim hq
    | brk => exact False.elim hq
    | cont => exact False.elim hq
theorem envR_fn {g : Gd} {F : Hp} {m : List Addr} {c : Cl} {N : List Str} (h : SlR g F m (.fn c) (.ref c.f)) (hN : 0 < N.length := by assumption) : EnvR g F m (some (.fn c) :: List.replicate (N.length - 1) none) (L2.start N [.ref c.f]) := by
  refine ⟨by unfold L2.start; simp, fun i x e => ?_⟩
  cases i with
  | zero => cases Option.some.inj (Option.some.inj e); exact ⟨_, rfl, h⟩
  | succ i =>
    have e : (List.replicate (N.length - 1) (none : Option Sl))[i]? = some (some x) := e
    rw [List.getElem?_replicate] at e
    split at e <;> cases e
theorem se_lamcall {x a : Str} {gx : M W → M W} {c P : Addr} {k : Nat} {params : Arguments} {body : Expr} {scope : Scope} {p lpos pos : Pos} {fb : Env → M W} (d : LamDef (gd X) x a gx) (hg : Gl X x)
    (TB : TabB X.base X.mg c P) (hcode : X.env.code = .ref c) (hr : Room (k + 2) X.A) (L : LamS X.env.scope scope) (hdef : defaultsOf params X.env = ([], []))
    (hbind : ∀ (q : Str) (cl : List (Str × Addr)) (pm cv ctv : Value), bindArgs (PySem.W.kla_fn "<lambda>" q params body scope cl pm cv ctv) ⟨[], []⟩ = pure [])
    (hbody : ∀ (A : Around) (outer : List PySem.Env) (s : Shared) (H : Hp) (E : XK) (f c' : Addr), Room k (A.deeper (lamEnv X scope s.heap.objs.size f c')) → Takes (lamCx X A outer s H E scope f c') (fun c d _ H' => E c d H') →
      SE (lamCx X A outer s H E scope f c') (fun c d _ H' => E c d H') body fb) :
    SE X Wx (.Call (.Name x p) [.Lambda params body scope lpos] [] pos) (lamF P (X.env.qual ++ "<lambda>") gx fb) := by
  obtain ⟨ga, pg, bg, sg, dV, kV, doc, pm, cdv, ct, oc, an, od, osl, Ng, fbg, hm, hk, lk, hcg, hb, Sg, hN0, hva, hd, hcd, hdb, hgx, hG⟩ := d.ex
  refine ⟨fun pins s σ H Q I h => ?_⟩
  obtain ⟨F, m, st, ρ, er, rl, h⟩ := h
  unfold lamF at h
  have hT : (P, X.env.qual ++ "<lambda>") ∈ tabsOf st := Classical.byContradiction fun z => by rw [if_neg z] at h; exact h
  rw [if_pos hT] at h
  refine wpAny_Call_Name_kw (ld_glob I hg hm ?_ hdb)
  refine PySem.W.callWith_K (h₀ := X.base) I.ok.mod.kin hk ?_ (by rfl) (by rfl)
  show wpAny _ _ (spliced ((false, eval (.Lambda params body scope lpos) X.env) :: backTo pos (starEach [] X.env))) _ _ s
  refine Calls.spliced_cons (lam_make2 I TB hcode hT (fun p hp e => ?_) rl.tabs hdef (L.has I.ok) fun f c' pm' ctv H1 s' I1 eN T1 hf hfn hfr hco => ?_)
  · obtain ⟨P', q'⟩ := p
    cases (show P' = P from e)
    exact rl.tab_one hT hp
  refine Calls.spliced_nil ⟨I1.kIn, ?_⟩
  obtain ⟨rl1, s1⟩ := rl.made eN T1
  have er1 := er.mono s1 (List.prefix_refl m)
  have aft : After X.K X.mg (withCodes F H1) m (fun c d H' => Wx c d σ H') (gx (fb ρ) st) (fun w F' m' H' => ∀ v, WR X.K F' m' w v → Q v H') := After.mono s1 (List.prefix_refl m) h fun _ _ _ _ _ _ q => q
  have rc : codeAny (model X.prog X.w) X.A (.call (.ref ga) ⟨[.ref f], []⟩) (CR C8.CX0 X.stack X.prog X.w H1 s' Q C8.E0) s' := by
    refine run_ofS (N := Ng) (ps := [a]) (us := [.ref f]) (vs := [.ref f]) lk hcg Sg hr I1.env0 (hb s' [.ref f] I1.kIn rfl) (.cons rfl .nil) rfl fun hr' => ?_
    let cl : Cl := ⟨f, withCodes F H1, m⟩
    have body := hG X.A X.stack s' H1 cl (fb ρ) (fun W pn xe p1 p2 tk => PE.imp (pe_actE (i := 0) (t := fun E => tM X (fun c d _ H' => E c d H') fb) I1 L hf hfn hfr (hbind _ _ _ _ _) tk hr' (fun A outer s H E hr2 => hbody A outer s H E f c' hr2 takes_lam) hN0 hva hd hcd) fun σZ HZ Q' h2 => ?_)
    · refine ⟨_, PSs.nox body, withCodes F H1, m, st, some (.fn cl) :: List.replicate (Ng.length - 1) none, ?_, rl1, ?_⟩
      · exact envR_fn ⟨rfl, Same.refl _, List.prefix_refl _⟩ (List.getElem?_eq_some_iff.mp hN0).1
      · have e1 : runFn Ng.length (fbg cl (fb ρ)) cl st = gx (fb ρ) st := by rw [hgx]
        unfold runFn at e1
        cases z : fbg cl (fb ρ) (some (.fn cl) :: List.replicate (Ng.length - 1) none) st with
        | go fl st2 =>
          rw [z] at e1
          cases fl with
          | nx ρ' => rw [← e1] at aft; exact fun F' m' H' σ' s' p' r' er' => aft F' m' H' s' p' r' _ .non
          | rt v => rw [← e1] at aft; exact fun F' m' H' u s' p' r' hu => aft F' m' H' s' p' r' u hu
          | bk ρ' => rw [← e1] at aft; exact aft.elim
          | ct ρ' => rw [← e1] at aft; exact aft.elim
        | ex y ρ' st2 => rw [z] at e1; rw [← e1] at aft; exact aft.elim
        | bad => rw [z] at e1; rw [← e1] at aft; exact aft.elim
    · obtain ⟨F2, m2, st2, ρ2, er2, rl2, a2⟩ := h2
      have h0 : ρ2[0]? = some (some (.fn cl)) := Classical.byContradiction fun z => by
        have : actF 0 cl (fb ρ) ρ2 = bad := by
          unfold actF
          split
          · rename_i c2 h3
            split
            · rename_i e; rw [e] at h3; exact absurd h3 z
            · rfl
          · rfl
        rw [this] at a2
        exact a2
      rw [actF_at h0] at a2
      obtain ⟨v, hv, e, sF, pm⟩ := er2.at_ 0 _ h0
      have e : v = .ref f := e
      subst e
      exact ⟨hv, rl2.sub _ _ (sF _ _ (withCodes_at hco)), F2, m2, st2, ρ, er1.mono sF pm, rl2, a2⟩
  refine wpAny_call (codeAny_mono rc fun r s2 hq => ?_)
  cases r with
  | error e => exact (show False from hq).elim
  | ok fl =>
    cases fl with
    | ret u => exact I1.after hq
    | next => exact False.elim hq
    | brk => exact False.elim hq
    | cont => exact False.elim hq
end
end Ev
end
section
set_option Elab.async false
set_option linter.all false
set_option maxRecDepth 100000
set_option autoImplicit false
namespace Ev
open PySem PySem.Spec PyProof.Rows L2 LamX
/-! ## the script -/
section
variable {X : Cx} {Wx : WX} {x : Str} {p p1 p2 pos : Pos} {i k j : Nat}
theorem dq_ints {K : PySem.W.Frag} {F : Hp} : ∀ (ns : List Int), DqAll K F (ns.map V.int) (ns.map .int)
  | [] => .nil
  | _ :: ns => .cons (.int _) (dq_ints ns)
def scrF {α : Type} (i : Nat) (fn : List Int → M α) : Env → M α := fun ρ => match ρ[i]? with
  | some (some (.scr ns)) => fn ns
  | _ => bad
theorem scr_at {α : Type} {g : Gd} {F : Hp} {m : List Addr} {ρ : Env} {σ : L2.St} {i : Nat} {fn : List Int → M α} (er : EnvR g F m ρ σ) {st : Sto} {mg : Str → Option Value} {E : XK} {Q : α → Hp → List Addr → Hp → Prop} (h : After g.K mg F m E (scrF i fn ρ st) Q) :
    ∃ ns a, σ[i]? = some (some (.ref a)) ∧ SqL g.K F a (ns.map V.int) ∧ After g.K mg F m E (fn ns st) Q := by
  unfold scrF at h
  cases hn : ρ[i]? with
  | none => rw [hn] at h; exact h.elim
  | some o =>
    rw [hn] at h
    cases o with
    | none => exact h.elim
    | some sl =>
      cases sl with
      | w _ => exact h.elim
      | fn _ => exact h.elim
      | scr ns =>
        obtain ⟨v, h1, a, rfl, h2⟩ := er.at_ i _ hn
        exact ⟨ns, a, h1, h2, h⟩
theorem seqL_sub {K : PySem.W.Frag} {F H : Hp} (s : Same F H) {a : Addr} {xs : List V} (h : SqL K F a xs) : SqL K H a xs := seqL_mono s h
/-- list(script) -/
theorem se_listScr (i : Nat) (hN : X.N[i]? = some x := by rfl) (hv : Vis X.env.scope x := by first | exact Or.inl rfl | exact Or.inr (Or.inl rfl) | exact Or.inr (Or.inr rfl)) (hg : Gl X "list") (hm : X.mg "list" = none) (hd : (x == ("__debug__" : Str)) = false := by decide)
    (hcd : (x == ("__classdict__" : Str)) = false := by decide) (hs : starEach [.Name x p1] X.env = [(false, eval (.Name x p1) X.env)] := by rfl) :
    SE X Wx (.Call (.Name "list" p) [.Name x p1] [] pos) (scrF i fun ns => ret (.d (.list (ns.map .int)))) :=
  PE.imp (pe_callTy (T := "list") (r := fun vs H Q => ∃ (a : Addr) (ns : List Int), vs = [V.ref a] ∧ SqL X.K H a (ns.map V.int) ∧ ∀ p, H p = none → Q (.ref p) (upd H p (.lst (ns.map V.int)))) (fun pins s σ H vs us Q I r ⟨a, ns, e, hs, q⟩ => by
      subst e
      exact call_list_of pins s σ H _ us Q I r ⟨a, _, rfl, .inl hs, q⟩) hg hm boot_list (pa_cons (pe_var hN hv hd hcd) pa_nil hs) (he := hs)) fun σ H Q h => by
    obtain ⟨F, m, st, ρ, er, rl, h⟩ := h
    obtain ⟨ns, a, h1, h2, h3⟩ := scr_at er h
    refine ⟨_, h1, a, ns, rfl, seqL_mono rl.sub h2, fun p hp => ?_⟩
    exact rM_lst (fun F' m' H' v s p r hv => h3 F' m' H' s p r v hv) rl hp (dq_ints ns)
end
/-- x(script) -/
structure DefS (g : Gd) (x : Str) (k : Nat) (fn : List Int → M W) : Prop where
  ex : ∃ f fd ps, g.mg x = some (.ref f) ∧ PySem.W.keepIn g.K (.ref f) = true ∧ L2.Binds g.K fd ps [] ∧ ps.length = 1 ∧ FnOk g.P g.w g.K g.mg g.base (L2.CX g.P g.w) k f fd ps
    (fun vs H Q E => vs.length = 1 ∧ ∃ F m st a ns, vs = [.ref a] ∧ SqL g.K F a (ns.map V.int) ∧ Rel g.K F m st H ∧ After g.K g.mg F m E (fn ns st) (fun w F' m' H' => ∀ v, WR g.K F' m' w v → Q v H'))
section
variable {X : Cx} {Wx : WX} {x y : Str} {p p1 pos : Pos} {i k j : Nat} {fn : List Int → M W}
theorem se_userScr (i : Nat) (d : DefS (gd X) x k fn) (hr : Room j X.A) (hg : Gl X x) (tk : Takes X Wx) (hN : X.N[i]? = some y := by rfl) (hv : Vis X.env.scope y := by first | exact Or.inl rfl | exact Or.inr (Or.inl rfl) | exact Or.inr (Or.inr rfl))
    (hk : k ≤ j := by decide) (hdb : (x == ("__debug__" : Str)) = false := by decide) (hd : (y == ("__debug__" : Str)) = false := by decide) (hcd : (y == ("__classdict__" : Str)) = false := by decide)
    (he : starEach [.Name y p1] X.env = (false, eval (.Name y p1) X.env) :: starEach [] X.env := by rfl) (hpl : (backTo pos (starEach [] X.env)).any (·.1) = false := by rfl) : SE X Wx (.Call (.Name x p) [.Name y p1] [] pos) (scrF i fn) := by
  obtain ⟨f, fd, ps, hm, hkp, hb, hl, F⟩ := d.ex
  refine PE.imp (pe_callS F (hr.mono hk) hg hm hkp hb (fun σ => passAt tk σ) (pa_cons (pe_var hN hv hd hcd) pa_nil he) hdb he hpl) fun σ H Q h => ?_
  obtain ⟨F, m, st, ρ, er, rl, h⟩ := h
  obtain ⟨ns, a, h1, h2, h3⟩ := scr_at er h
  exact ⟨_, h1, rfl, F, m, st, a, ns, rfl, h2, rl, h3⟩
end
/-! ## the module's names -/
/-- x is this constant -/
def Con (g : Gd) (x : Str) (d : PyData) : Prop := ∃ u v, g.mg x = some u ∧ RelV v u ∧ ∀ F, Dq g.K F v d
section
variable {X : Cx} {Wx : WX} {x : Str} {pos p1 : Pos} {d : PyData}
theorem se_con (c : Con (gd X) x d) (hg : Gl X x) (hd : (x == ("__debug__" : Str)) = false := by decide) : SE X Wx (.Name x pos) (fun _ => ret (.d d)) := by
  obtain ⟨u, v, hm, r, hv⟩ := c
  refine PE.imp (pe_glob hg hm r hd) fun σ H Q h => ?_
  obtain ⟨F, m, st, ρ, er, rl, h⟩ := h
  exact After.here h rl _ (hv F)
end
/-- the dict of the top, texts to data -/
structure Tbl (g : Gd) (x : Str) (kvs : List (Str × PyData)) : Prop where
  ex : ∃ a es n, g.mg x = some (.ref a) ∧ KDict g.K g.w a es n ∧ ∀ z, match kvs.lookup z with
    | none => PySem.W.nsIn g.K a z = some none
    | some d => ∃ u v, PySem.W.nsIn g.K a z = some (some u) ∧ RelV v u ∧ ∀ F, Dq g.K F v d
def inT (kvs : List (Str × PyData)) (_ : Sto) : W → Option W
  | .d (.str z) => some (.d (.bool (kvs.lookup z).isSome))
  | _ => none
def notInT (kvs : List (Str × PyData)) (_ : Sto) : W → Option W
  | .d (.str z) => some (.d (.bool (!(kvs.lookup z).isSome)))
  | _ => none
def ixT (kvs : List (Str × PyData)) (_ : Sto) : W → Option W
  | .d (.str z) => (kvs.lookup z).map .d
  | _ => none
section
variable {X : Cx} {Wx : WX} {x : Str} {pos p1 : Pos} {e : Expr} {f : Env → M W} {kvs : List (Str × PyData)}
theorem tM_inT {a : Addr} {es : Array DictEntry} {n : Nat} (D : KDict X.K X.w a es n) (ht : ∀ z, match kvs.lookup z with
    | none => PySem.W.nsIn X.K a z = some none
    | some d => ∃ u v, PySem.W.nsIn X.K a z = some (some u) ∧ RelV v u ∧ ∀ F, Dq X.K F v d) {σ : L2.St} {H : Hp} {Q : VK} (h : tM X Wx (op1 (inT kvs) f) σ H Q) :
    tOp (fun x y H Q => ∃ (z : Str) (r : Option Value), x = .str z ∧ y = .ref a ∧ PySem.W.nsIn X.K a z = some r ∧ Q (.bl r.isSome) H) (tM X Wx f) (tC (.ref a)) σ H Q := by
  obtain ⟨F, m, st, ρ, er, rl, h⟩ := h
  refine ⟨F, m, st, ρ, er, rl, After.mono (Same.refl F) (List.prefix_refl m) h.bnd fun w F1 m1 H1 s1 p1 ⟨st1, _, _, rl1, h1⟩ v r1 => ?_⟩
  obtain ⟨w', e1, q⟩ := h1.liftO
  have ⟨z, ez⟩ : ∃ z, w = .d (.str z) := by
    cases w with
    | r i => cases e1
    | d y => cases y <;> first | (cases e1; done) | exact ⟨_, rfl⟩
  subst ez
  · skip
    cases Option.some.inj e1
    have hz := ht z
    cases hl : kvs.lookup z with
    | none => rw [hl] at hz q; exact ⟨z, none, dq_str r1, rfl, hz, q F1 m1 H1 (Same.refl _) (List.prefix_refl _) rl1 _ (.bl _)⟩
    | some d =>
      rw [hl] at hz q
      obtain ⟨u, v', h3, _⟩ := hz
      exact ⟨z, some u, dq_str r1, rfl, h3, q F1 m1 H1 (Same.refl _) (List.prefix_refl _) rl1 _ (.bl _)⟩
theorem se_inT (t : Tbl (gd X) x kvs) (he : SE X Wx e f) (hg : Gl X x) (hm : behindInMarks .In (.Name x p1) = false := by rfl) (hd : (x == ("__debug__" : Str)) = false := by decide) : SE X Wx (.Compare e [.In] [.Name x p1] pos) (op1 (inT kvs) f) := by
  obtain ⟨a, es, n, hma, D, ht⟩ := t.ex
  exact PE.imp (pe_cmpR (op_in_kd D) he (pe_glob hg hma (v := .ref a) rfl hd) hm) fun σ H Q h => tM_inT D ht h
theorem sb_inT (t : Tbl (gd X) x kvs) (he : SE X Wx e f) (hg : Gl X x) (hm : behindInMarks .In (.Name x p1) = false := by rfl) (hd : (x == ("__debug__" : Str)) = false := by decide) : SB X Wx (.Compare e [.In] [.Name x p1] pos) (toB (op1 (inT kvs) f)) := by
  obtain ⟨a, es, n, hma, D, ht⟩ := t.ex
  exact PT.imp (pt_cmpR (op_in_kd D) he (pe_glob hg hma (v := .ref a) rfl hd) hm) fun σ H Q h => tM_inT D ht (tM_toB h)
theorem tM_notInT {a : Addr} {es : Array DictEntry} {n : Nat} (D : KDict X.K X.w a es n) (ht : ∀ z, match kvs.lookup z with
    | none => PySem.W.nsIn X.K a z = some none
    | some d => ∃ u v, PySem.W.nsIn X.K a z = some (some u) ∧ RelV v u ∧ ∀ F, Dq X.K F v d) {σ : L2.St} {H : Hp} {Q : VK} (h : tM X Wx (op1 (notInT kvs) f) σ H Q) :
    tOp (fun x y H Q => ∃ (z : Str) (r : Option Value), x = .str z ∧ y = .ref a ∧ PySem.W.nsIn X.K a z = some r ∧ Q (.bl (!r.isSome)) H) (tM X Wx f) (tC (.ref a)) σ H Q := by
  obtain ⟨F, m, st, ρ, er, rl, h⟩ := h
  refine ⟨F, m, st, ρ, er, rl, After.mono (Same.refl F) (List.prefix_refl m) h.bnd fun w F1 m1 H1 s1 p1 ⟨st1, _, _, rl1, h1⟩ v r1 => ?_⟩
  obtain ⟨w', e1, q⟩ := h1.liftO
  have ⟨z, ez⟩ : ∃ z, w = .d (.str z) := by
    cases w with
    | r i => cases e1
    | d y => cases y <;> first | (cases e1; done) | exact ⟨_, rfl⟩
  subst ez
  · skip
    cases Option.some.inj e1
    have hz := ht z
    cases hl : kvs.lookup z with
    | none => rw [hl] at hz q; exact ⟨z, none, dq_str r1, rfl, hz, q F1 m1 H1 (Same.refl _) (List.prefix_refl _) rl1 _ (.bl _)⟩
    | some d =>
      rw [hl] at hz q
      obtain ⟨u, v', h3, _⟩ := hz
      exact ⟨z, some u, dq_str r1, rfl, h3, q F1 m1 H1 (Same.refl _) (List.prefix_refl _) rl1 _ (.bl _)⟩
theorem se_notInT (t : Tbl (gd X) x kvs) (he : SE X Wx e f) (hg : Gl X x) (hm : behindInMarks .NotIn (.Name x p1) = false := by rfl) (hd : (x == ("__debug__" : Str)) = false := by decide) : SE X Wx (.Compare e [.NotIn] [.Name x p1] pos) (op1 (notInT kvs) f) := by
  obtain ⟨a, es, n, hma, D, ht⟩ := t.ex
  exact PE.imp (pe_cmpR (op_notIn_kd D) he (pe_glob hg hma (v := .ref a) rfl hd) hm) fun σ H Q h => tM_notInT D ht h
theorem sb_notInT (t : Tbl (gd X) x kvs) (he : SE X Wx e f) (hg : Gl X x) (hm : behindInMarks .NotIn (.Name x p1) = false := by rfl) (hd : (x == ("__debug__" : Str)) = false := by decide) : SB X Wx (.Compare e [.NotIn] [.Name x p1] pos) (toB (op1 (notInT kvs) f)) := by
  obtain ⟨a, es, n, hma, D, ht⟩ := t.ex
  exact PT.imp (pt_cmpR (op_notIn_kd D) he (pe_glob hg hma (v := .ref a) rfl hd) hm) fun σ H Q h => tM_notInT D ht (tM_toB h)
theorem se_ixT (t : Tbl (gd X) x kvs) (he : SE X Wx e f) (hg : Gl X x) (hs : PlainIx e) (hd : (x == ("__debug__" : Str)) = false := by decide) : SE X Wx (.Subscript (.Name x p1) e pos) (op1 (ixT kvs) f) := by
  obtain ⟨a, es, n, hma, D, ht⟩ := t.ex
  refine PE.imp (pe_ix ix_kdict (pe_glob hg hma (v := .ref a) rfl hd) he hs) fun σ H Q h => ?_
  obtain ⟨F, m, st, ρ, er, rl, h⟩ := h
  refine ⟨F, m, st, ρ, er, rl, After.mono (Same.refl F) (List.prefix_refl m) h.bnd fun w F1 m1 H1 s1 p1 ⟨st1, _, _, rl1, h1⟩ v r1 => ?_⟩
  obtain ⟨w', e1, q⟩ := h1.liftO
  have ⟨z, ez⟩ : ∃ z, w = .d (.str z) := by
    cases w with
    | r i => cases e1
    | d y => cases y <;> first | (cases e1; done) | exact ⟨_, rfl⟩
  subst ez
  · skip
    have e1 : (kvs.lookup z).map W.d = some w' := e1
    have hz := ht z
    cases hl : kvs.lookup z with
    | none => rw [hl] at e1; cases e1
    | some d =>
      rw [hl] at hz e1
      cases Option.some.inj e1
      obtain ⟨u, v', h3, h4, h5⟩ := hz
      exact ⟨a, z, v', rfl, dq_str r1, ⟨es, n, u, D.at_, D.lit, h3, h4⟩, q F1 m1 H1 (Same.refl _) (List.prefix_refl _) rl1 _ (h5 F1)⟩
end
end Ev
end
section
set_option Elab.async false
set_option linter.all false
set_option maxRecDepth 100000
set_option autoImplicit false
namespace Ev
open PySem PySem.Spec PyProof.Rows L2 LamX
/-! ## the ground: what the head leaves -/
structure Gnd (fa : List He.Fa) (fn : List He.DefD) (ts : List He.Tab) (tf : List He.Defn) (ex : PySem.W.Frag → Bool) (g : Gd) : Prop where
  ex : ∃ h, g.K.In h ∧ h.Ns mainGlobals g.mg ∧ He.SaysX fa fn ts tf ex g.w h g.K
  tab : ∀ p ∈ tf, TabB g.base g.mg (He.cT g.K p).1 (He.cT g.K p).2
section
variable {fa : List He.Fa} {fn : List He.DefD} {ts : List He.Tab} {tf : List He.Defn} {ex : PySem.W.Frag → Bool} {g : Gd}
theorem Gnd.free (c : Gnd fa fn ts tf ex g) (i : Nat) {x : Str} (h : fa[i]? = some (.free x) := by rfl) : g.mg x = none := by
  obtain ⟨hp, X, G, s⟩ := c.ex
  exact He.free_ok X G (s.t.d.fact i h)
theorem Gnd.glo (c : Gnd fa fn ts tf ex g) (i : Nat) {x : Str} (h : fa[i]? = some (.glo x) := by rfl) : g.mg x = some (.ref (He.ga g.K x)) := by
  obtain ⟨hp, X, G, s⟩ := c.ex
  exact He.glo_ok X G (s.t.d.fact i h)
theorem Gnd.int (c : Gnd fa fn ts tf ex g) (i : Nat) {x : Str} {n : Int} (h : fa[i]? = some (.int x n) := by rfl) : Con g x (.int n) := by
  obtain ⟨hp, X, G, s⟩ := c.ex
  obtain ⟨t, e⟩ := He.int_ok X G (s.t.d.fact i h)
  exact ⟨_, .int n, e, ⟨t, rfl⟩, fun F => .int n⟩
theorem Gnd.str (c : Gnd fa fn ts tf ex g) (i : Nat) {x z : Str} (h : fa[i]? = some (.str x z) := by rfl) : Con g x (.str z) := by
  obtain ⟨hp, X, G, s⟩ := c.ex
  obtain ⟨t, e⟩ := He.str_ok X G (s.t.d.fact i h)
  exact ⟨_, .str z, e, ⟨t, rfl⟩, fun F => .str z⟩
theorem Gnd.more (c : Gnd fa fn ts tf ex g) : ex g.K = true := let ⟨_, _, _, s⟩ := c.ex; s.more
/-- a tuple of the top, of numbers and texts -/
def dvD : He.Dv → Option PyData
  | .int i => some (.int i)
  | .str x => some (.str x)
  | .bl b => some (.bool b)
  | .non => some .none
  | _ => none
def dvsD : List He.Dv → Option (List PyData)
  | [] => some []
  | d :: r => (dvD d).bind fun x => (dvsD r).map (x :: ·)
theorem dvD_ok {K : PySem.W.Frag} {F : Hp} {d : He.Dv} {x : PyData} (h : dvD d = some x) : Dq K F (d.v K) x := by
  cases d <;> first | (cases h; done) | (cases Option.some.inj h; first | exact .int _ | exact .str _ | exact .bl _ | exact .non)
theorem dvsD_ok {K : PySem.W.Frag} {F : Hp} : ∀ {ds : List He.Dv} {xs : List PyData}, dvsD ds = some xs → DqAll K F (ds.map (He.Dv.v K)) xs
  | [], xs, h => by cases Option.some.inj h; exact .nil
  | d :: r, xs, h => by
    have h : (dvD d).bind (fun x => (dvsD r).map (x :: ·)) = some xs := h
    cases e : dvD d with
    | none => rw [e] at h; cases h
    | some x =>
      rw [e] at h
      have h : (dvsD r).map (x :: ·) = some xs := h
      cases e2 : dvsD r with
      | none => rw [e2] at h; cases h
      | some ys =>
        rw [e2] at h
        cases Option.some.inj h
        exact .cons (dvD_ok e) (dvsD_ok e2)
theorem Gnd.tup (c : Gnd fa fn ts tf ex g) (i : Nat) {x : Str} {ds : List He.Dv} {xs : List PyData} (h : fa[i]? = some (.glo x)) (ht : He.tupB g.K x ds = true) (hd : dvsD ds = some xs) : Con g x (.tuple xs) :=
  ⟨_, .ref (He.ga g.K x), c.glo i h, rfl, fun F => .tup (He.tupB_ok ht F) (dvsD_ok hd)⟩
theorem nsIn_keys {K : PySem.W.Frag} {P : Params} {a : Addr} {ks : List Str} (h : He.dicW K a = some (He.keysIn P ks)) (z : Str) (hz : z ∉ ks) : PySem.W.nsIn K a z = some none := by
  unfold He.dicW at h
  unfold PySem.W.nsIn
  cases q : K.lookup a with
  | none => rw [q] at h; cases h
  | some o =>
    obtain ⟨oc, od, dt, osl⟩ := o
    rw [q] at h
    cases oc with
    | type cn =>
      cases od with
      | some _ => cases dt <;> cases h
      | none =>
        cases dt with
        | dict es n =>
          dsimp only at h ⊢
          split at h
          · have h := Option.some.inj h
            have hk : ∀ e ∈ es.toList, ∃ k t, e.key = .str k t ∧ k ∈ ks := fun e he => by
              have m : He.keyOf e ∈ He.keysIn P ks := h ▸ List.mem_map.mpr ⟨e, he, rfl⟩
              obtain ⟨k, hk, ek⟩ := List.mem_map.mp m
              unfold He.keyOf at ek
              cases ey : e.key with
              | str k' t => rw [ey] at ek; exact ⟨k', t, rfl, by rw [← (Prod.mk.inj (Option.some.inj ek)).1]; exact hk⟩
              | _ => rw [ey] at ek; cases ek
            have h1 : es.toList.find? (fun e => e.key.isStr z) = none := List.find?_eq_none.mpr fun e he => by
              obtain ⟨k, t, ek, hk'⟩ := hk e he
              rw [ek]
              intro e2
              have : k = z := by simpa [Value.isStr] using e2
              exact hz (this ▸ hk')
            rw [h1]
            have h2 : es.toList.any (·.refKey) = false := List.any_eq_false.mpr fun e he => by
              obtain ⟨k, t, ek, _⟩ := hk e he
              simp [DictEntry.refKey, ek]
            rw [h2]
            rfl
          · cases h
        | _ => cases h
    | _ => cases od <;> cases dt <;> cases h
theorem lookup_none {α : Type} : ∀ {l : List (Str × α)} {z : Str}, l.lookup z = none → z ∉ l.map (·.1)
  | [], _, _ => by simp
  | (k, a) :: l, z, h => by
    have h : (match z == k with | true => some a | false => l.lookup z) = none := h
    cases e : z == k with
    | true => rw [e] at h; cases h
    | false =>
      rw [e] at h
      simp only [List.map_cons, List.mem_cons, not_or]
      exact ⟨fun c => by rw [c] at e; simp at e, lookup_none h⟩
theorem lookup_some {α : Type} : ∀ {l : List (Str × α)} {z : Str} {a : α}, l.lookup z = some a → (z, a) ∈ l
  | [], _, _, h => by cases h
  | (k, b) :: l, z, a, h => by
    have h : (match z == k with | true => some b | false => l.lookup z) = some a := h
    cases e : z == k with
    | true => rw [e] at h; cases Option.some.inj h; rw [eq_of_beq e]; exact List.mem_cons_self
    | false => rw [e] at h; exact List.mem_cons_of_mem _ (lookup_some h)
/-- a table of the top: places in ts, fa; its values -/
theorem Gnd.tbl (c : Gnd fa fn ts tf ex g) (i j : Nat) {x : Str} {kvs : List (Str × He.Dv)} {kds : List (Str × PyData)} (h : fa[j]? = some (.glo x)) (ht : ts[i]? = some (fun K => He.ga K x, kvs.map (·.1)))
    (hv : He.valsB g.K (He.ga g.K x) kvs = true) (hd : kds = kvs.filterMap fun q => (dvD q.2).map fun d => (q.1, d)) (ha : (kvs.all fun q => (dvD q.2).isSome) = true) : Tbl g x kds := by
  obtain ⟨hp, X, G, s⟩ := c.ex
  have e : ts.map (fun t => He.dicW g.K (t.1 g.K)) = ts.map fun t => some (He.keysIn g.w.params t.2) := congrArg (fun z : He.AlT => z.2) s.t
  have e2 : (ts.map fun t => He.dicW g.K (t.1 g.K))[i]? = (ts.map fun t => some (He.keysIn g.w.params t.2))[i]? := by rw [e]
  rw [List.getElem?_map, List.getElem?_map, ht] at e2
  have e3 : He.dicW g.K (He.ga g.K x) = some (He.keysIn g.w.params (kvs.map (·.1))) := Option.some.inj e2
  obtain ⟨es, n, D⟩ := He.dicW_ok e3
  have hk : kds.map (·.1) = kvs.map (·.1) := by
    rw [hd]
    clear hd hv ht e2 e3 D
    induction kvs with
    | nil => rfl
    | cons q l ih =>
      have ⟨a1, a2⟩ := He.ba ha
      obtain ⟨d, ed⟩ := Option.isSome_iff_exists.mp a1
      rw [List.filterMap_cons, ed]
      show q.1 :: _ = q.1 :: _
      rw [ih a2]
  refine ⟨He.ga g.K x, es, n, c.glo j h, D, fun z => ?_⟩
  cases hl : kds.lookup z with
  | none => exact nsIn_keys e3 z (hk ▸ lookup_none hl)
  | some d =>
    have m := lookup_some hl
    rw [hd] at m
    obtain ⟨q, hq, eq⟩ := List.mem_filterMap.mp m
    cases e5 : dvD q.2 with
    | none => rw [e5] at eq; cases eq
    | some d' =>
      rw [e5] at eq
      cases Option.some.inj eq
      obtain ⟨u, h1, h2⟩ := He.valsB_ok hv hq
      exact ⟨u, q.2.v g.K, h1, h2, fun F => dvD_ok e5⟩
/-- a def of the top -/
structure FnAt (g : Gd) (x : Str) (args : Arguments) (body : List Stmt) (scope : Scope) : Prop where
  mg : g.mg x = some (.ref (He.ga g.K x))
  ex : ∃ fd, FunD g.K x x args body scope [] [] (He.ga g.K x) fd
theorem Gnd.fnAt (c : Gnd fa fn ts tf ex g) (i j : Nat) {x : Str} {args : Arguments} {body : List Stmt} {scope : Scope} (h : fn[i]? = some ⟨(x, none), x, x, args, body, scope, [], []⟩ := by rfl) (hj : fa[j]? = some (.glo x) := by rfl) : FnAt g x args body scope := by
  obtain ⟨hp, X, G, s⟩ := c.ex
  obtain ⟨fd, F⟩ := s.t.d.def_ i h
  exact ⟨He.glo_ok X G (s.t.d.fact j hj), fd, F⟩
end
/-- a def's parameters are bound one by one -/
def BindsAll (x : Str) (args : Arguments) (body : List Stmt) (scope : Scope) (ps : List Str) : Prop :=
  ∀ (kV doc pm : Value) (an : Option Addr) (cdv ct : Value) (us : List Value), us.length = ps.length → bindArgs (PySem.W.fnOf x x args body scope .none kV doc pm an cdv ct) ⟨us, []⟩ = pure (ps.zip us)
section
variable {g : Gd} {x : Str} {args : Arguments} {body : List Stmt} {scope : Scope} {N ps : List Str} {k : Nat} {fb : S}
abbrev cxD (g : Gd) (x : Str) (scope : Scope) (N : List Str) (f : Addr) (cdv : Value) (A : Around) (outer : List PySem.Env) (s : Shared) (H : Hp) (E : XK) : Cx := cxOf (L2.CX g.P g.w) g.P g.w g.K g.mg g.base N x scope f cdv A outer s H E
abbrev WxE (E : XK) : WX := fun c d _ H' => E c d H'
theorem takesD {f : Addr} {cdv : Value} {A : Around} {outer : List PySem.Env} {s : Shared} {H : Hp} {E : XK} : Takes (cxD g x scope N f cdv A outer s H E) (WxE E) := takes_of rfl rfl rfl rfl
theorem passD {f : Addr} {cdv : Value} {A : Around} {outer : List PySem.Env} {s : Shared} {H : Hp} {E : XK} : PassesOwn (model g.P g.w) (cxD g x scope N f cdv A outer s H E).A (cxD g x scope N f cdv A outer s H E).env (cxD g x scope N f cdv A outer s H E).xe := passes_of rfl
/-- the body's derivation, at every call -/
def Does (g : Gd) (x : Str) (body : List Stmt) (scope : Scope) (N : List Str) (k : Nat) (fb : S) : Prop :=
  ∀ (f : Addr) (cdv : Value) (A : Around) (outer : List PySem.Env) (s : Shared) (H : Hp) (E : XK), Room k (cxD g x scope N f cdv A outer s H E).A → cdv = .ref (He.codeOf g.K (x, none)) →
    SSs (cxD g x scope N f cdv A outer s H E) (WxE E) body fb
theorem FnAt.code (F : FnAt g x args body scope) {CX : CXT} {sp : Sp} (S : FnScope N ps scope) (len : ∀ vs H Q E, sp vs H Q E → vs.length = ps.length)
    (hb : ∀ (cdv : Value) (A : Around) (outer : List PySem.Env) (s : Shared) (H : Hp) (vs : List V) (Q : VK) (E : XK), Room k (A.deeper (envOfC x scope s.heap.objs.size (He.ga g.K x) cdv)) → cdv = .ref (He.codeOf g.K (x, none)) → sp vs H Q E →
      ∃ t, PSs (cxOf CX g.P g.w g.K g.mg g.base N x scope (He.ga g.K x) cdv A outer s H E) body t ∧ t { nx := fun _ H' => Q .non H', rt := Q } (L2.start N vs) H) : ∃ fd, FunD g.K x x args body scope [] [] (He.ga g.K x) fd ∧ FnOk g.P g.w g.K g.mg g.base CX (k + 1) (He.ga g.K x) fd ps sp := by
  obtain ⟨fd, F⟩ := F.ex
  obtain ⟨oc, od, dV, kV, doc, pm, an, cdv, ct, osl, rfl, lk, hcd, hD, hK⟩ := id F.ex
  obtain ⟨c, rfl⟩ := He.codeIn_ref hcd
  have ec : He.codeOf g.K (x, none) = c := He.codeOf_eq (p := (x, none)) lk rfl
  exact ⟨_, F, fn_of lk hcd S len fun A outer s H vs Q E hr hsp => hb _ A outer s H vs Q E hr (by rw [ec]) hsp⟩
theorem runB_end {F : Hp} {m : List Addr} {st : Sto} {E : XK} {Q : VK} {ρ : Env} {fb : S} (h : After g.K g.mg F m E (match fb ρ st with
    | .go (.nx _) st' => .ok (.d .none) st'
    | .go (.rt w) st' => .ok w st'
    | .ex x _ st' => .ex x st'
    | _ => R.bad) (fun w F' m' H' => ∀ v, WR g.K F' m' w v → Q v H')) : AfterS g F m (WxE E) (fb ρ st) { nx := fun _ H' => Q .non H', rt := Q } := by
  cases z : fb ρ st with
  | go fl st2 =>
    rw [z] at h
    cases fl with
    | nx ρ' => exact fun F' m' H' σ' s' p' r' er' => h F' m' H' s' p' r' _ .non
    | rt v => exact fun F' m' H' u s' p' r' hu => h F' m' H' s' p' r' u hu
    | bk ρ' => exact h.elim
    | ct ρ' => exact h.elim
  | ex y ρ' st2 => rw [z] at h; exact fun F' m' H' σ' c d s' p' r' er' e' => h F' m' H' c d s' p' r' e'
  | bad => rw [z] at h; exact h
theorem mkDef (F : FnAt g x args body scope) (S : FnScope N ps scope) (bd : BindsAll x args body scope ps) (hb : Does g x body scope N k fb) : Def g x (k + 1) ps.length (runB N.length fb) := by
  obtain ⟨fd, FD, ok⟩ := F.code (CX := L2.CX g.P g.w) (k := k) (sp := spM g ps.length (runB N.length fb)) S (fun vs H Q E h => h.1) fun cdv A outer s H vs Q E hr hc h => ⟨_, hb _ cdv A outer s H E hr hc, by
    obtain ⟨_, F1, m, st1, ws, r, rl, h⟩ := h
    exact ⟨F1, m, st1, startE N.length ws, envR_start r, rl, runB_end h⟩⟩
  exact ⟨_, fd, ps, F.mg, FD.kp, FD.bindsN bd, rfl, ok⟩
/-- the script's run -/
def runS (n : Nat) (fb : S) (ns : List Int) : M W := fun st => match fb (some (.scr ns) :: List.replicate (n - 1) none) st with
  | .go (.nx _) st' => .ok (.d .none) st'
  | .go (.rt w) st' => .ok w st'
  | .ex x _ st' => .ex x st'
  | _ => .bad
def spS (g : Gd) (fn : List Int → M W) : Sp := fun vs H Q E => vs.length = 1 ∧ ∃ F m st a ns, vs = [.ref a] ∧ SqL g.K F a (ns.map V.int) ∧ Rel g.K F m st H ∧ After g.K g.mg F m E (fn ns st) (fun w F' m' H' => ∀ v, WR g.K F' m' w v → Q v H')
theorem envR_scr {F : Hp} {m : List Addr} {a : Addr} {ns : List Int} (h : SqL g.K F a (ns.map V.int)) (hN : 0 < N.length) : EnvR g F m (some (.scr ns) :: List.replicate (N.length - 1) none) (L2.start N [.ref a]) := by
  refine ⟨by unfold L2.start; simp, fun i x e => ?_⟩
  cases i with
  | zero => cases Option.some.inj (Option.some.inj e); exact ⟨_, rfl, a, rfl, h⟩
  | succ i =>
    have e : (List.replicate (N.length - 1) (none : Option Sl))[i]? = some (some x) := e
    rw [List.getElem?_replicate] at e
    split at e <;> cases e
theorem fnS_ok {p1 : Str} (F : FnAt g x args body scope) (S : FnScope N [p1] scope) (hN : 0 < N.length) (hb : Does g x body scope N k fb) :
    ∃ fd, FunD g.K x x args body scope [] [] (He.ga g.K x) fd ∧ FnOk g.P g.w g.K g.mg g.base (L2.CX g.P g.w) (k + 1) (He.ga g.K x) fd [p1] (spS g (runS N.length fb)) :=
  F.code (CX := L2.CX g.P g.w) (k := k) (sp := spS g (runS N.length fb)) S (fun vs H Q E h => h.1) fun cdv A outer s H vs Q E hr hc h => ⟨_, hb _ cdv A outer s H E hr hc, by
    obtain ⟨_, F1, m, st1, a, ns, rfl, h1, rl, h⟩ := h
    exact ⟨F1, m, st1, _, envR_scr h1 hN, rl, runB_end h⟩⟩
theorem mkDefS {p1 : Str} (F : FnAt g x args body scope) (S : FnScope N [p1] scope) (hN : 0 < N.length) (bd : BindsAll x args body scope [p1]) (hb : Does g x body scope N k fb) : DefS g x (k + 1) (runS N.length fb) := by
  obtain ⟨fd, FD, ok⟩ := fnS_ok F S hN hb
  exact ⟨_, fd, [p1], F.mg, FD.kp, FD.bindsN bd, rfl, ok⟩
/-- the def that calls what it gets -/
def DoesL (g : Gd) (x a : Str) (body : List Stmt) (scope : Scope) (N : List Str) (fb : Cl → M W → S) : Prop :=
  ∀ (f : Addr) (cdv : Value) (A : Around) (outer : List PySem.Env) (s : Shared) (H : Hp) (c : Cl) (t : M W),
    (∀ (W : WX) (pn : List (Addr × Obj)) (xe : Value → Shared → Prop) (p1 p2 : Pos), Takes ((cxOf C8.CX0 g.P g.w g.K g.mg g.base N x scope f cdv A outer s H C8.E0).tr pn xe) W →
      SE ((cxOf C8.CX0 g.P g.w g.K g.mg g.base N x scope f cdv A outer s H C8.E0).tr pn xe) W (.Call (.Name a p1) [] [] p2) (actF 0 c t)) →
    SSs (cxOf C8.CX0 g.P g.w g.K g.mg g.base N x scope f cdv A outer s H C8.E0).nox Wn body (fb c t)
theorem mkLam {a : Str} {fb : Cl → M W → S} {gx : M W → M W} (F : FnAt g x args body scope) (S : FnScope N [a] scope) (hN0 : N[0]? = some a) (hva : Vis scope a) (bd : BindsAll x args body scope [a]) (hgx : ∀ (c : Cl) (t : M W), runFn N.length (fb c t) c = gx t) (hb : DoesL g x a body scope N fb)
    (h1 : (a == ("__debug__" : Str)) = false := by decide) (h2 : (a == ("__classdict__" : Str)) = false := by decide) (h3 : (x == ("__debug__" : Str)) = false := by decide) : LamDef g x a gx := by
  obtain ⟨fd, FD⟩ := F.ex
  have B := FD.bindsN bd
  obtain ⟨oc, od, dV, kV, doc, pm, an, cdv, ct, osl, rfl, lk, hcd, hD, hK⟩ := id FD.ex
  exact ⟨_, args, body, scope, dV, kV, doc, pm, cdv, ct, oc, an, od, osl, N, fb, F.mg, FD.kp, lk, hcd, B, S, hN0, hva, h1, h2, h3, hgx, fun A outer s H c t act => hb _ cdv A outer s H c t act⟩
end
/-! ## the law's end -/
/-- the tables as the store tells them -/
def tabs0 (K : PySem.W.Frag) (tf : List He.Defn) : Sto := tf.map fun p => .tab (He.cT K p).2 (p.1 ++ ".<locals>." ++ "<lambda>")
theorem walk_ofX {l : PySem.W.OpenLaw} {n k N : Nat} {q : Program} {loose : List Str} {XP : (Str → Option Value) → Heap → Prop} {d : DefRec} {fa : List He.Fa} {fn : List He.DefD} {ts : List He.Tab} {tf : List He.Defn} {ex : PySem.W.Frag → Bool} {x p1 : Str} {args : Arguments} {body : List Stmt} {scope : Scope}
    {N1 : List Str} {fb : S} {i j : Nat} (hn : l.most = some n) (hn2 : n ≤ sizeLine) (hdf : d.params.defaults = []) (hr : Room (k + 1) callerA) (hname : d.name = x) (hfn : fn[i]? = some ⟨(x, none), x, x, args, body, scope, [], []⟩) (hfa : fa[j]? = some (.glo x))
    (S : FnScope N1 [p1] scope) (hN : 0 < N1.length) (bd : BindsAll x args body scope [p1]) (hb : ∀ g : Gd, g.P = l.prog → Gnd fa fn ts tf ex g → Does g x body scope N1 k fb) (htf : ∀ K, ex K = true → (tf.map fun p => (He.cT K p).2).Nodup)
    (good : ∀ (K : PySem.W.Frag) (ns : List Int), ns.length ≤ n → (∀ z ∈ ns, Builtin.Int.intBits z ≤ 1048576) → ∃ st', runS N1.length fb ns (tabs0 K tf) = .ok (.d (.bool true)) st') :
    PySem.W.WalkO q loose XP (He.hookX N fa fn ts tf ex).says l.row.toRowW d [] (fun f vs => PySem.call f vs) := by
  refine Att.attach_callB hn hdf fun w s₀ s₁ mg mb fa' o pm cd doc a vs ns G Y ho hd hcd hmg hobj hints hlen hbits hg => ?_
  obtain ⟨K, KX, s⟩ := Y
  have mf : mg x = some (.ref (He.ga K x)) := He.glo_ok KX G.T.g (s.t.d.fact j hfa)
  rw [hname, mf] at hmg
  cases hmg
  obtain ⟨fd, FD⟩ := s.t.d.def_ i hfn
  have B := FD.bindsA bd
  have C : ∀ p ∈ tf.map (He.cT K), PySem.W.CodeHd s₁.heap p.1 p.2 := fun p hp => by
    obtain ⟨p', hp', rfl⟩ := List.mem_map.mp hp
    exact PySem.W.codeHd_of_K KX (s.hd p' hp')
  refine law_callTs (cs := tf.map (He.cT K)) (sp := spS ⟨l.prog, w, K, mg, s₁.heap⟩ (runS N1.length fb)) (CX := L2.CX l.prog w) (k := k + 1) (fd := fd) (x := p1) KX G.T.g G.T.b G.T.builtins G.T.nolimit hg (fun p hp => ?_) (fun p hp => ?_) C G.T.bmain hobj hints (Nat.le_trans hlen hn2) hr (fun base KB GB TB => ?_) (fun s u => B s [u] rfl) (fun H hT hS => ?_) fun H e s' h => ?_
  · obtain ⟨p', hp', rfl⟩ := List.mem_map.mp hp
    exact s.empty p' hp'
  · obtain ⟨p', hp', rfl⟩ := List.mem_map.mp hp
    exact s.out p' hp'
  · have GN : Gnd fa fn ts tf ex ⟨l.prog, w, K, mg, base⟩ := ⟨⟨s₁.heap, KX, G.T.g, s⟩, fun p hp => TB _ (List.mem_map.mpr ⟨p, hp, rfl⟩)⟩
    obtain ⟨fd2, FD2, ok⟩ := fnS_ok (GN.fnAt i j hfn hfa) S hN (hb _ rfl GN)
    have e : fd2 = fd := by
      obtain ⟨oc, od, dV, kV, doc, pm, an, cdv, ct, osl, r1, lk, _⟩ := FD.ex
      obtain ⟨oc2, od2, dV2, kV2, doc2, pm2, an2, cdv2, ct2, osl2, r2, lk2, _⟩ := FD2.ex
      have q := lk2.symm.trans lk
      cases Option.some.inj q
      rfl
    subst e
    exact ok
  · have hmem : ∀ p ∈ tf, H (He.cT K p).2 = some (.tbl #[]) := fun p hp => hT _ (List.mem_map.mpr ⟨p, hp, rfl⟩)
    obtain ⟨st', hgood⟩ := good K ns hlen hbits
    have key : ∃ F : Hp, SqL K F a (ns.map V.int) ∧ Same F H ∧ (∀ b ps, F b ≠ some (.tbl ps)) ∧ ∀ b ps, H b = some (.tbl ps) → F b = none := by
      rcases hS with hR | hK
      · have ha : ∃ o, H a = some o ∧ ∀ ps, o ≠ .tbl ps := by
          rcases hR with h | ⟨o, h⟩
          · exact ⟨_, h, nofun⟩
          · exact ⟨_, h, nofun⟩
        obtain ⟨o, ha, hn⟩ := ha
        have e1 : (fun b => if b = a then H b else none : Hp) a = H a := if_pos rfl
        have e2 : ∀ b, (fun b => if b = a then H b else none : Hp) b = none ∨ b = a := fun b => by
          by_cases hb : b = a
          · exact .inr hb
          · exact .inl (if_neg hb)
        refine ⟨fun b => if b = a then H b else none, .inl ?_, fun b u e => ?_, fun b ps e => ?_, fun b ps e => ?_⟩
        · rcases hR with h | ⟨o, h⟩
          · exact .inl (e1.trans h)
          · exact .inr ⟨o, e1.trans h⟩
        · rcases e2 b with z | z
          · rw [z] at e; cases e
          · subst z; rw [e1] at e; exact e
        · rcases e2 b with z | z
          · rw [z] at e; cases e
          · subst z; rw [e1, ha] at e; exact hn ps (Option.some.inj e)
        · rcases e2 b with z | z
          · exact z
          · subst z; rw [ha] at e; exact absurd (Option.some.inj e) (hn ps)
      · exact ⟨fun _ => none, .inr hK, nofun, nofun, fun _ _ _ => rfl⟩
    obtain ⟨F, f1, f2, f3, f4⟩ := key
    have rl : Rel K F (tf.map fun p => (He.cT K p).2) (tabs0 K tf) H := by
      refine ⟨f2, by simp [tabs0], ?_, fun b hb => ?_, fun b hb => ?_, fun i b so h1 h2 => ?_, f3⟩
      · exact htf K s.more
      · obtain ⟨p, hp, rfl⟩ := List.mem_map.mp hb
        exact f4 _ _ (hmem p hp)
      · obtain ⟨p, hp, rfl⟩ := List.mem_map.mp hb
        exact ⟨_, hmem p hp⟩
      · rw [List.getElem?_map] at h1
        unfold tabs0 at h2
        rw [List.getElem?_map] at h2
        cases hp : tf[i]? with
        | none => rw [hp] at h1; cases h1
        | some p =>
          rw [hp] at h1 h2
          cases Option.some.inj h1
          cases Option.some.inj h2
          exact ⟨rfl, #[], hmem p (List.mem_of_getElem? hp), trivial, fun pos cv e => by simp [codeAmong] at e⟩
    refine ⟨rfl, F, _, _, a, ns, rfl, f1, rl, ?_⟩
    show After _ _ _ _ _ (runS N1.length fb ns (tabs0 K tf)) _
    rw [hgood]
    exact fun F' m' H' _ _ _ v hv => dq_bool hv
  · obtain ⟨_, _, _, _, _, _, _, _, _, _, _, _, z⟩ := h
    exact z
end Ev
end
section
set_option Elab.async false
set_option linter.all false
set_option maxRecDepth 100000
set_option autoImplicit false
namespace Ev
open PySem PySem.Spec PyProof.Rows L2 LamX
section
variable {fa : List He.Fa} {fn : List He.DefD} {ts : List He.Tab} {tf : List He.Defn} {ex : PySem.W.Frag → Bool} {g : Gd}
theorem Gnd.exc (c : Gnd fa fn ts tf ex g) (i j : Nat) {x : Str} (h : fa[i]? = some (.glo x) := by rfl) (h2 : fa[j]? = some (.exc x) := by rfl) : ErrC g.K g.mg x := by
  obtain ⟨hp, X, G, s⟩ := c.ex
  obtain ⟨c1, c2, c3, c4⟩ := He.exc_ok (s.t.d.fact j h2)
  exact ⟨_, c.glo i h, c1, c2, c3, c4⟩
theorem Gnd.exm (c : Gnd fa fn ts tf ex g) (i : Nat) {x y : Str} {b : Bool} (h : fa[i]? = some (.exm x y b) := by rfl) : PySem.W.exmOne g.K (.ref (He.ga g.K x)) (.ref (He.ga g.K y)) = some b := by
  obtain ⟨hp, X, G, s⟩ := c.ex
  exact He.exm_ok (s.t.d.fact i h)
end
/-- nothing is told of it -/
theorem mkDef0 {g : Gd} {x : Str} {args : Arguments} {body : List Stmt} {scope : Scope} {N ps : List Str} {k : Nat} (F : FnAt g x args body scope) (S : FnScope N ps scope) (bd : BindsAll x args body scope ps) : Def g x (k + 1) ps.length (fun _ => bad) := by
  obtain ⟨fd, FD, ok⟩ := F.code (CX := L2.CX g.P g.w) (k := k) (sp := spM g ps.length (fun _ => bad)) S (fun vs H Q E h => h.1) fun cdv A outer s H vs Q E hr hc h => by
    obtain ⟨_, F1, m, st1, ws, r, rl, h⟩ := h
    exact h.elim
  exact ⟨_, fd, ps, F.mg, FD.kp, FD.bindsN bd, rfl, ok⟩
end Ev
end
section
set_option Elab.async false
set_option linter.all false
set_option maxRecDepth 100000
set_option autoImplicit false
namespace Ev
open PySem PySem.Spec PyProof.Rows L2
/-! ## plain reasoning about the functions: weakest preconditions -/
section
variable {α β : Type}
@[irreducible] def wpM (m : M α) (st : Sto) (Q : α → Sto → Prop) (E : Ex → Sto → Prop) : Prop := match m st with
  | .ok a st' => Q a st'
  | .ex x st' => E x st'
  | .bad => False
theorem wpM_def {m : M α} {st : Sto} {Q : α → Sto → Prop} {E : Ex → Sto → Prop} : wpM m st Q E = (match m st with
  | .ok a st' => Q a st'
  | .ex x st' => E x st'
  | .bad => False) := by unfold wpM; rfl
theorem wpM_of {m : M α} {st st' : Sto} {a : α} {Q : α → Sto → Prop} {E : Ex → Sto → Prop} (h : m st = .ok a st') (q : Q a st') : wpM m st Q E := by unfold wpM; rw [h]; exact q
theorem wpM_ofX {m : M α} {st st' : Sto} {x : Ex} {Q : α → Sto → Prop} {E : Ex → Sto → Prop} (h : m st = .ex x st') (q : E x st') : wpM m st Q E := by unfold wpM; rw [h]; exact q
theorem wpM_ok {m : M α} {st : Sto} {Q : α → Sto → Prop} (h : wpM m st Q fun _ _ => False) : ∃ a st', m st = .ok a st' ∧ Q a st' := by
  unfold wpM at h
  cases e : m st with
  | ok a st' => rw [e] at h; exact ⟨a, st', rfl, h⟩
  | ex x st' => rw [e] at h; exact h.elim
  | bad => rw [e] at h; exact h.elim
theorem wpM_mono {m : M α} {st : Sto} {Q Q' : α → Sto → Prop} {E E' : Ex → Sto → Prop} (h : wpM m st Q E) (hq : ∀ a s, Q a s → Q' a s) (he : ∀ x s, E x s → E' x s) : wpM m st Q' E' := by
  unfold wpM at h ⊢
  cases e : m st with
  | ok a st' => rw [e] at h; exact hq _ _ h
  | ex x st' => rw [e] at h; exact he _ _ h
  | bad => rw [e] at h; exact h
/-- an outcome, known by its wish -/
theorem wpM_val {m : M α} {st st' : Sto} {a : α} (h : wpM m st (fun b s => b = a ∧ s = st') fun _ _ => False) : m st = .ok a st' := by
  obtain ⟨b, s, e, rfl, rfl⟩ := wpM_ok h
  exact e
theorem wpM_valX {m : M α} {st st' : Sto} {x : Ex} (h : wpM m st (fun _ _ => False) (fun y s => y = x ∧ s = st')) : m st = .ex x st' := by
  unfold wpM at h
  cases e : m st with
  | ok a s => rw [e] at h; exact h.elim
  | ex y s => rw [e] at h; obtain ⟨rfl, rfl⟩ := h; rfl
  | bad => rw [e] at h; exact h.elim
variable {st : Sto} {Q : α → Sto → Prop} {E : Ex → Sto → Prop}
@[simp] theorem wp_ret (a : α) : wpM (ret a) st Q E = Q a st := wpM_def
@[simp] theorem wp_bnd {m : M β} {f : β → M α} : wpM (bnd m f) st Q E = wpM m st (fun b s => wpM (f b) s Q E) E := by
  unfold wpM bnd
  cases m st <;> rfl
@[simp] theorem wp_bad : wpM (bad : M α) st Q E = False := wpM_def
@[simp] theorem wp_ite {c : Prop} [Decidable c] {a b : M α} : wpM (if c then a else b) st Q E = if c then wpM a st Q E else wpM b st Q E := by split <;> rfl
theorem wp_lift {o : Sto → Option α} {a : α} (h : o st = some a) : wpM (liftO o) st Q E = Q a st := by unfold wpM liftO; rw [h]
@[simp] theorem wp_liftO {o : Sto → Option α} : wpM (liftO o) st Q E = (match o st with | some a => Q a st | none => False) := by
  unfold wpM liftO
  cases o st <;> rfl
theorem wp_noex {m : M α} (h : wpM m st Q fun _ _ => False) : wpM (noex m) st Q E := by
  unfold wpM noex at *
  cases e : m st with
  | ok a s => rw [e] at h; exact h
  | ex x s => rw [e] at h; exact h.elim
  | bad => rw [e] at h; exact h.elim
end
/-- where a statement may go -/
structure Dn where
  nx : Env → Sto → Prop
  rt : W → Sto → Prop
  bk : Env → Sto → Prop
  ct : Env → Sto → Prop
  ex : Ex → Env → Sto → Prop
@[irreducible] def wpS (s : S) (ρ : Env) (st : Sto) (D : Dn) : Prop := match s ρ st with
  | .go (.nx ρ') st' => D.nx ρ' st'
  | .go (.rt w) st' => D.rt w st'
  | .go (.bk ρ') st' => D.bk ρ' st'
  | .go (.ct ρ') st' => D.ct ρ' st'
  | .ex x ρ' st' => D.ex x ρ' st'
  | .bad => False
theorem wpS_def {s : S} {ρ : Env} {st : Sto} {D : Dn} : wpS s ρ st D = (match s ρ st with
  | .go (.nx ρ') st' => D.nx ρ' st'
  | .go (.rt w) st' => D.rt w st'
  | .go (.bk ρ') st' => D.bk ρ' st'
  | .go (.ct ρ') st' => D.ct ρ' st'
  | .ex x ρ' st' => D.ex x ρ' st'
  | .bad => False) := by unfold wpS; rfl
section
variable {ρ : Env} {st : Sto} {D : Dn} {Q : W → Sto → Prop} {E : Ex → Sto → Prop} {s t : S} {f : Env → M W} {g : Env → M Bool}
theorem wpS_mono {D' : Dn} (h : wpS s ρ st D) (h1 : ∀ r x, D.nx r x → D'.nx r x) (h2 : ∀ w x, D.rt w x → D'.rt w x) (h3 : ∀ r x, D.bk r x → D'.bk r x) (h4 : ∀ r x, D.ct r x → D'.ct r x) (h5 : ∀ e r x, D.ex e r x → D'.ex e r x) : wpS s ρ st D' := by
  unfold wpS at h ⊢
  cases e : s ρ st with
  | go fl s' => rw [e] at h; cases fl <;> first | exact h1 _ _ h | exact h2 _ _ h | exact h3 _ _ h | exact h4 _ _ h
  | ex x r s' => rw [e] at h; exact h5 _ _ _ h
  | bad => rw [e] at h; exact h
@[simp] theorem wp_seq : wpS (seqS s t) ρ st D = wpS s ρ st { D with nx := fun ρ' st' => wpS t ρ' st' D } := by
  unfold wpS seqS
  cases e : s ρ st with
  | go fl s' => cases fl <;> rfl
  | ex x r s' => rfl
  | bad => rfl
@[simp] theorem wp_nx : wpS nxS ρ st D = D.nx ρ st := wpS_def
theorem wp_ofM {α : Type} {m : M α} {k : α → Sto → RS} : (match ofM m ρ k st with
    | .go (.nx ρ') st' => D.nx ρ' st'
    | .go (.rt w) st' => D.rt w st'
    | .go (.bk ρ') st' => D.bk ρ' st'
    | .go (.ct ρ') st' => D.ct ρ' st'
    | .ex x ρ' st' => D.ex x ρ' st'
    | .bad => False) = wpM m st (fun a s' => match k a s' with
    | .go (.nx ρ') st' => D.nx ρ' st'
    | .go (.rt w) st' => D.rt w st'
    | .go (.bk ρ') st' => D.bk ρ' st'
    | .go (.ct ρ') st' => D.ct ρ' st'
    | .ex x ρ' st' => D.ex x ρ' st'
    | .bad => False) (fun x s' => D.ex x ρ s') := by
  unfold wpM ofM
  cases m st <;> rfl
@[simp] theorem wp_retS : wpS (retS f) ρ st D = wpM (f ρ) st D.rt fun x s => D.ex x ρ s := wpS_def.trans wp_ofM
@[simp] theorem wp_drop : wpS (dropS f) ρ st D = wpM (f ρ) st (fun _ s => D.nx ρ s) fun x s => D.ex x ρ s := wpS_def.trans wp_ofM
@[simp] theorem wp_asg {i : Nat} : wpS (asgS i f) ρ st D = wpM (f ρ) st (fun w s => D.nx (ρ.set i (some (.w w))) s) fun x s => D.ex x ρ s := wpS_def.trans wp_ofM
@[simp] theorem wp_if : wpS (ifS g s t) ρ st D = wpM (g ρ) st (fun k s' => if k = true then wpS s ρ s' D else wpS t ρ s' D) fun x s' => D.ex x ρ s' := by
  refine (wpS_def.trans wp_ofM).trans ?_
  congr 1
  funext k s'
  cases k with
  | true => rw [if_pos rfl, if_pos rfl, wpS_def]
  | false => rw [if_neg Bool.false_ne_true, if_neg Bool.false_ne_true, wpS_def]
@[simp] theorem wp_raise {x : Str} : wpS (raiseS x) ρ st D = D.ex ⟨x, []⟩ ρ st := wpS_def
@[simp] theorem wp_run {n : Nat} {fb : S} {ws : List W} : wpM (runB n fb ws) st Q E = wpS fb (startE n ws) st ⟨fun _ s => Q (.d .none) s, Q, fun _ _ => False, fun _ _ => False, fun x _ s => E x s⟩ := by
  unfold wpM runB wpS
  cases e : fb (startE n ws) st with
  | go fl s' => cases fl <;> rfl
  | ex x r s' => rfl
  | bad => rfl
@[simp] theorem wp_runS {n : Nat} {fb : S} {ns : List Int} : wpM (runS n fb ns) st Q E = wpS fb (some (.scr ns) :: List.replicate (n - 1) none) st ⟨fun _ s => Q (.d .none) s, Q, fun _ _ => False, fun _ _ => False, fun x _ s => E x s⟩ := by
  unfold wpM runS wpS
  cases e : fb (some (.scr ns) :: List.replicate (n - 1) none) st with
  | go fl s' => cases fl <;> rfl
  | ex x r s' => rfl
  | bad => rfl
@[simp] theorem wp_callU {n : Nat} {fn : List W → M W} {fs : Env → M (List W)} : wpM (callU n fn fs ρ) st Q E = wpM (fs ρ) st (fun ws s => if ws.length = n then wpM (fn ws) s Q E else False) E := by
  unfold callU
  rw [wp_bnd]
  congr 1
  funext ws s
  rw [wp_ite, wp_bad]
theorem wp_getV {i : Nat} {w : W} (h : ρ[i]? = some (some (.w w))) : wpM (getV i ρ) st Q E = Q w st := by unfold wpM getV; rw [h]
/-- a for over items that stay -/
@[simp] theorem wp_for {fi : Env → M Its} {asg : As} {body : S} : wpS (forS fi asg body) ρ st D = wpM (fi ρ) st (fun p s' => wpS (loopS p.2 asg body p.1) ρ s' D) fun x s' => D.ex x ρ s' := (wpS_def.trans wp_ofM).trans (by congr 1; funext p s'; rw [wpS_def])
theorem wp_loop {asg : As} {body : S} (Inv : List PyData → Env → Sto → Prop) (hs : ∀ d ds ρ st, Inv (d :: ds) ρ st → ∃ ρ1, asg d ρ = some ρ1 ∧ wpS body ρ1 st ⟨Inv ds, D.rt, D.nx, Inv ds, D.ex⟩) (he : ∀ ρ st, Inv [] ρ st → D.nx ρ st) :
    ∀ (ds : List PyData) (ρ : Env) (st : Sto), Inv ds ρ st → wpS (loopS always asg body ds) ρ st D
  | [], ρ, st, h => by rw [wpS_def]; exact he ρ st h
  | d :: ds, ρ, st, h => by
    obtain ⟨ρ1, e, h1⟩ := hs d ds ρ st h
    unfold wpS loopS
    rw [if_pos (show always st = true from rfl), e]
    dsimp only
    unfold wpS at h1
    cases z : body ρ1 st with
    | go fl s' =>
      rw [z] at h1
      cases fl with
      | nx r => have h2 := wp_loop Inv hs he ds r s' h1; rw [wpS_def] at h2; exact h2
      | ct r => have h2 := wp_loop Inv hs he ds r s' h1; rw [wpS_def] at h2; exact h2
      | bk r => exact h1
      | rt w => exact h1
    | ex x r s' => rw [z] at h1; exact h1
    | bad => rw [z] at h1; exact h1
/-- a comprehension over items that stay -/
@[simp] theorem wp_lc {fi : Env → M Its} {vs : List Nat} {asg : As} {gt : Env → M Bool} {fe : Env → M W} {fin : List W → M W} : wpM (lcF fi vs asg gt fe fin ρ) st Q E = wpM (fi ρ) st (fun p s' => if p.1.length < sizeLine then wpM (compL p.2 vs asg gt fe ρ p.1 []) s' (fun ws s'' => wpM (fin ws) s'' Q E) E else False) E := by
  unfold lcF
  rw [wp_bnd]
  congr 1
  funext p s
  rw [wp_ite, wp_bnd, wp_bad]
theorem wp_comp {vs : List Nat} {asg : As} {gt : Env → M Bool} {fe : Env → M W} {Qc : List W → Sto → Prop} (Inv : List PyData → List W → Sto → Prop)
    (hs : ∀ d ds acc st, Inv (d :: ds) acc st → ∃ ρ1, asg d (wipeE ρ vs) = some ρ1 ∧ wpM (gt ρ1) st (fun k s => if k = true then wpM (fe ρ1) s (fun w s' => Inv ds (acc ++ [w]) s') (fun _ _ => False) else Inv ds acc s) (fun _ _ => False)) (he : ∀ acc st, Inv [] acc st → Qc acc st) :
    ∀ (ds : List PyData) (acc : List W) (st : Sto), Inv ds acc st → wpM (compL always vs asg gt fe ρ ds acc) st Qc E
  | [], acc, st, h => by rw [wpM_def]; exact he acc st h
  | d :: ds, acc, st, h => by
    obtain ⟨ρ1, e, h1⟩ := hs d ds acc st h
    have e2 : compL always vs asg gt fe ρ (d :: ds) acc st = (bnd (noex (gt ρ1)) fun k => if k = true then bnd (noex (fe ρ1)) fun w => compL always vs asg gt fe ρ ds (acc ++ [w]) else compL always vs asg gt fe ρ ds acc) st := by
      show (if always st = true then (match asg d (wipeE ρ vs) with
        | none => R.bad
        | some ρ1 => bnd (noex (gt ρ1)) (fun k => if k = true then bnd (noex (fe ρ1)) fun w => compL always vs asg gt fe ρ ds (acc ++ [w]) else compL always vs asg gt fe ρ ds acc) st) else R.bad) = _
      rw [if_pos (show always st = true from rfl), e]
    rw [wpM_def, e2]
    have h2 : wpM (bnd (noex (gt ρ1)) fun k => if k = true then bnd (noex (fe ρ1)) fun w => compL always vs asg gt fe ρ ds (acc ++ [w]) else compL always vs asg gt fe ρ ds acc) st Qc E := by
      rw [wp_bnd]
      refine wp_noex (wpM_mono h1 (fun k s hk => ?_) fun _ _ z => z.elim)
      cases k with
      | true =>
        rw [if_pos rfl] at hk ⊢
        rw [wp_bnd]
        exact wp_noex (wpM_mono hk (fun w s' hw => wp_comp Inv hs he ds _ s' hw) fun _ _ z => z.elim)
      | false =>
        rw [if_neg Bool.false_ne_true] at hk ⊢
        exact wp_comp Inv hs he ds acc s hk
    rw [wpM_def] at h2
    exact h2
/-- one that asks nothing of the store and leaves it -/
theorem wp_comp_pure {vs : List Nat} {asg : As} {gt : Env → M Bool} {fe : Env → M W} {Qc : List W → Sto → Prop} (p : PyData → Bool) (v : PyData → W) (ds : List PyData) (st : Sto)
    (hs : ∀ d ∈ ds, ∃ ρ1, asg d (wipeE ρ vs) = some ρ1 ∧ gt ρ1 st = .ok (p d) st ∧ (p d = true → fe ρ1 st = .ok (v d) st)) (hq : Qc ((ds.filter p).map v) st) : wpM (compL always vs asg gt fe ρ ds []) st Qc E := by
  refine wp_comp (fun rest acc s => s = st ∧ (∀ d ∈ rest, d ∈ ds) ∧ acc ++ (rest.filter p).map v = (ds.filter p).map v) (fun d rest acc s h => ?_) (fun acc s h => ?_) ds [] st ⟨rfl, fun _ h => h, rfl⟩
  · obtain ⟨rfl, hm, hl⟩ := h
    obtain ⟨ρ1, h1, h2, h3⟩ := hs d (hm d List.mem_cons_self)
    refine ⟨ρ1, h1, wpM_of h2 ?_⟩
    cases hp : p d with
    | true =>
      rw [if_pos rfl]
      refine wpM_of (h3 hp) ⟨rfl, fun d' h' => hm d' (List.mem_cons_of_mem _ h'), ?_⟩
      rw [← hl, List.filter_cons_of_pos hp, List.map_cons, List.append_assoc]; rfl
    | false =>
      rw [if_neg Bool.false_ne_true]
      refine ⟨rfl, fun d' h' => hm d' (List.mem_cons_of_mem _ h'), ?_⟩
      rw [← hl, List.filter_cons_of_neg (by rw [hp]; exact Bool.false_ne_true)]
  · obtain ⟨rfl, _, hl⟩ := h
    rw [List.filter_nil, List.map_nil, List.append_nil] at hl
    rw [hl]; exact hq
theorem allD_map {α : Type} (f : α → PyData) : ∀ l : List α, allD (l.map fun x => W.d (f x)) = some (l.map f)
  | [] => rfl
  | x :: l => by
    show (allD (l.map fun x => W.d (f x))).map (f x :: ·) = _
    rw [allD_map f l]; rfl
@[simp] theorem wp_asData {ds : List PyData} : wpM (asData (ds.map .d)) st Q E = Q (.d (.list ds)) st := by
  unfold asData
  rw [wp_liftO]
  have h : allD (ds.map .d) = some ds := by
    have := allD_map (fun d : PyData => d) ds
    rw [List.map_id'] at this
    exact this
  rw [h]; rfl
@[simp] theorem wp_asMut {ws : List W} : wpM (asMut ws) st Q E = Q (.r st.length) (st ++ [.lst ws]) := wpM_def
@[simp] theorem wp_mut {g : Env → M (List W)} : wpM (mkMut g ρ) st Q E = wpM (g ρ) st (fun ws s => if ws.length ≤ sizeLine then Q (.r s.length) (s ++ [.lst ws]) else False) E := by
  unfold mkMut
  rw [wp_bnd]
  congr 1
  funext ws s
  rw [wp_ite, wp_bad, wp_asMut]
@[simp] theorem wp_tst {Q : Bool → Sto → Prop} : wpM (tst f ρ) st Q E = wpM (f ρ) st (fun w s => match truW s w with | some k => Q k s | none => False) E := by
  unfold tst
  rw [wp_bnd]
  congr 1
  funext w s
  rw [wp_liftO]
  cases truW s w <;> rfl
@[simp] theorem wp_app {fo fv : Env → M W} {Q : W → Sto → Prop} : wpM (appS fo fv ρ) st Q E = wpM (fo ρ) st (fun o s => match isMut s o with
    | some _ => wpM (fv ρ) s (fun v s' => match putEnd s' v o with
      | some s2 => Q (.d .none) s2
      | none => False) E
    | none => False) E := by
  unfold appS
  rw [wp_bnd]
  congr 1
  funext o s
  rw [wp_bnd, wp_liftO]
  cases isMut s o with
  | none => rfl
  | some u =>
    dsimp only
    unfold wpM bnd
    cases fv ρ s with
    | ok v s' => dsimp only; cases putEnd s' v o <;> rfl
    | ex x s' => rfl
    | bad => rfl
@[simp] theorem wp_setIx {fo fi fv : Env → M W} : wpS (setIx fo fi fv) ρ st D = wpM (fv ρ) st (fun v s => wpM (fo ρ) s (fun o s => wpM (fi ρ) s (fun i s => match putIx s v o i with
    | some s' => D.nx ρ s'
    | none => False) fun x s => D.ex x ρ s) fun x s => D.ex x ρ s) fun x s => D.ex x ρ s := by
  refine (wpS_def.trans wp_ofM).trans ?_
  rw [wp_bnd]
  congr 1
  funext v s
  rw [wp_bnd]
  congr 1
  funext o s
  rw [wp_bnd]
  congr 1
  funext i s
  rw [wp_ret]
  cases putIx s v o i <;> rfl
end
end Ev
end
section
set_option Elab.async false
set_option linter.all false
set_option maxRecDepth 100000
set_option autoImplicit false
namespace Ev
open PySem PySem.Spec PyProof.Rows L2
/-! ## rules for computing -/
section
variable {α : Type} {ρ : Env} {st : Sto} {Q : W → Sto → Prop} {E : Ex → Sto → Prop} {f fa fb : Env → M W}
@[simp] theorem wp_bin {op : Sto → W → W → Option W} : wpM (bin op fa fb ρ) st Q E = wpM (fa ρ) st (fun x s => wpM (fb ρ) s (fun y s' => match op s' x y with | some w => Q w s' | none => False) E) E := by
  unfold bin
  rw [wp_bnd]; congr 1; funext x s
  rw [wp_bnd]; congr 1; funext y s'
  rw [wp_liftO]
  cases op s' x y <;> rfl
@[simp] theorem wp_op1 {op : Sto → W → Option W} : wpM (op1 op f ρ) st Q E = wpM (f ρ) st (fun x s => match op s x with | some w => Q w s | none => False) E := by
  unfold op1
  rw [wp_bnd]; congr 1; funext x s
  rw [wp_liftO]
  cases op s x <;> rfl
@[simp] theorem wp_callF {op : Sto → List W → Option W} {fs : Env → M (List W)} : wpM (callF op fs ρ) st Q E = wpM (fs ρ) st (fun x s => match op s x with | some w => Q w s | none => False) E := by
  unfold callF
  rw [wp_bnd]; congr 1; funext x s
  rw [wp_liftO]
  cases op s x <;> rfl
@[simp] theorem wp_consA {fs : Env → M (List W)} {Q : List W → Sto → Prop} : wpM (consA f fs ρ) st Q E = wpM (f ρ) st (fun x s => wpM (fs ρ) s (fun xs s' => Q (x :: xs) s') E) E := by
  unfold consA
  rw [wp_bnd]; congr 1; funext x s
  rw [wp_bnd]; congr 1; funext xs s'
  rw [wp_ret]
@[simp] theorem wp_tup {fs : Env → M (List W)} : wpM (mkTup fs ρ) st Q E = wpM (fs ρ) st (fun ws s => match allD ws with | some ds => (if ds.length ≤ sizeLine then Q (.d (.tuple ds)) s else False) | none => False) E := by
  unfold mkTup
  rw [wp_bnd]; congr 1; funext ws s
  rw [wp_liftO]
  cases allD ws with
  | none => rfl
  | some ds =>
    rw [Option.bind_some]
    by_cases h : ds.length ≤ sizeLine
    · simp only [if_pos h]
    · simp only [if_neg h]
@[simp] theorem wp_lst {fs : Env → M (List W)} : wpM (mkLst fs ρ) st Q E = wpM (fs ρ) st (fun ws s => match allD ws with | some ds => (if ds.length ≤ sizeLine then Q (.d (.list ds)) s else False) | none => False) E := by
  unfold mkLst
  rw [wp_bnd]; congr 1; funext ws s
  rw [wp_liftO]
  cases allD ws with
  | none => rfl
  | some ds =>
    rw [Option.bind_some]
    by_cases h : ds.length ≤ sizeLine
    · simp only [if_pos h]
    · simp only [if_neg h]
@[simp] theorem wp_isi {T : Ty} : wpM (isiF T f ρ) st Q E = wpM (f ρ) st (fun w s => match w with | .d x => Q (.d (.bool (isTyD T x))) s | .r i => (match s[i]? with | some (.lst _) => Q (.d (.bool (isTyD T (.list [])))) s | _ => False)) E := by
  unfold isiF
  rw [wp_bnd]; congr 1; funext w s
  rw [wp_liftO]
  cases w with
  | d x => rfl
  | r i =>
    cases h : s[i]? with
    | none => simp [h]
    | some so => cases so <;> simp [h]
@[simp] theorem wp_neg : wpM (negW f ρ) st Q E = wpM (f ρ) st (fun w s => match w with | .d (.int i) => Q (.d (.int (-i))) s | _ => False) E := by
  unfold negW
  rw [wp_bnd]; congr 1; funext w s
  rw [wp_liftO]
  cases w with
  | r i => rfl
  | d x => cases x <;> rfl
@[simp] theorem wp_chain {op op' : Sto → W → W → Option W} : wpM (chain op op' f fa fb ρ) st Q E = wpM (f ρ) st (fun x s => wpM (fa ρ) s (fun y s1 => match op s1 x y with
    | some (.d (.bool true)) => wpM (fb ρ) s1 (fun w s2 => match op' s2 y w with | some v => Q v s2 | none => False) E
    | some (.d (.bool false)) => Q (.d (.bool false)) s1
    | _ => False) E) E := by
  unfold chain
  rw [wp_bnd]; congr 1; funext x s
  rw [wp_bnd]; congr 1; funext y s1
  rw [wp_bnd, wp_liftO]
  cases op s1 x y with
  | none => rfl
  | some w =>
    cases w with
    | r i => exact wp_bad
    | d z =>
      cases z <;> first | exact wp_bad | skip
      rename_i k
      cases k with
      | false => exact wp_ret _
      | true =>
        dsimp only
        rw [wp_bnd]; congr 1; funext w s2
        rw [wp_liftO]
        cases op' s2 y w <;> rfl
@[simp] theorem wp_part {Q : Option Int → Sto → Prop} : wpM (partF f ρ) st Q E = wpM (f ρ) st (fun w s => match w with | .d (.int i) => Q (some i) s | _ => False) E := by
  unfold partF
  rw [wp_bnd]; congr 1; funext w s
  rw [wp_liftO]
  cases w with
  | r i => rfl
  | d x => cases x <;> rfl
@[simp] theorem wp_slice {g h : Env → M (Option Int)} : wpM (sliceF f g h ρ) st Q E = wpM (f ρ) st (fun x s => wpM (g ρ) s (fun lo s1 => wpM (h ρ) s1 (fun hi s2 => match slW s2 x lo hi with | some v => Q v s2 | none => False) E) E) E := by
  unfold sliceF
  rw [wp_bnd]; congr 1; funext x s
  rw [wp_bnd]; congr 1; funext lo s1
  rw [wp_bnd]; congr 1; funext hi s2
  rw [wp_liftO]
  cases slW s2 x lo hi <;> rfl
@[simp] theorem wp_it {k : Sto → W → Option Its} {Q : Its → Sto → Prop} : wpM (itF k f ρ) st Q E = wpM (f ρ) st (fun w s => match k s w with | some p => Q p s | none => False) E := by
  unfold itF
  rw [wp_bnd]; congr 1; funext x s
  rw [wp_liftO]
  cases k s x <;> rfl
@[simp] theorem wp_range1 {fs : Env → M (List W)} {Q : Its → Sto → Prop} : wpM (range1 fs ρ) st Q E = wpM (fs ρ) st (fun ws s => match ws with | [.d (.int j)] => (if -(2 ^ 62) ≤ j ∧ j < 2 ^ 62 then Q (rangeL 0 j.toNat, always) s else False) | _ => False) E := by
  unfold range1
  rw [wp_bnd]; congr 1; funext ws s
  rw [wp_liftO]
  match ws with
  | [] => rfl
  | [.r i] => rfl
  | [.d (.int j)] =>
    by_cases h : -(2 ^ 62) ≤ j ∧ j < 2 ^ 62
    · simp only [if_pos h]
    · simp only [if_neg h]
  | [.d .none] => rfl
  | [.d (.bool _)] => rfl
  | [.d (.str _)] => rfl
  | [.d (.list _)] => rfl
  | [.d (.tuple _)] => rfl
  | [.d (.dict _)] => rfl
  | .d (.int _) :: _ :: _ => rfl
  | .d .none :: _ :: _ => rfl
  | .d (.bool _) :: _ :: _ => rfl
  | .d (.str _) :: _ :: _ => rfl
  | .d (.list _) :: _ :: _ => rfl
  | .d (.tuple _) :: _ :: _ => rfl
  | .d (.dict _) :: _ :: _ => rfl
  | .r _ :: _ :: _ => rfl
@[simp] theorem wp_get {i : Nat} : wpM (getV i ρ) st Q E = (match ρ[i]? with | some (some (.w w)) => Q w st | _ => False) := by
  unfold wpM getV
  cases h : ρ[i]? with
  | none => rfl
  | some o =>
    cases o with
    | none => rfl
    | some sl => cases sl <;> rfl
@[simp] theorem wp_scr {i : Nat} {fn : List Int → M W} : wpM (scrF i fn ρ) st Q E = (match ρ[i]? with | some (some (.scr ns)) => wpM (fn ns) st Q E | _ => False) := by
  unfold wpM scrF
  cases h : ρ[i]? with
  | none => rfl
  | some o =>
    cases o with
    | none => rfl
    | some sl => cases sl <;> rfl
@[simp] theorem wp_toB {Q : Bool → Sto → Prop} : wpM (toB f ρ) st Q E = wpM (f ρ) st (fun w s => match w with | .d (.bool k) => Q k s | _ => False) E := by
  unfold toB
  rw [wp_bnd]; congr 1; funext w s
  rw [wp_liftO]
  cases w with
  | r i => rfl
  | d x => cases x <;> rfl
variable {ga gb : Env → M Bool} {Qb : Bool → Sto → Prop}
@[simp] theorem wp_andB : wpM (andB ga gb ρ) st Qb E = wpM (ga ρ) st (fun k s => if k = true then wpM (gb ρ) s Qb E else Qb false s) E := by
  unfold andB
  rw [wp_bnd]; congr 1; funext k s
  rw [wp_ite, wp_ret]
@[simp] theorem wp_orB : wpM (orB ga gb ρ) st Qb E = wpM (ga ρ) st (fun k s => if k = true then Qb true s else wpM (gb ρ) s Qb E) E := by
  unfold orB
  rw [wp_bnd]; congr 1; funext k s
  rw [wp_ite, wp_ret]
@[simp] theorem wp_notB : wpM (notB ga ρ) st Qb E = wpM (ga ρ) st (fun k s => Qb (!k) s) E := by
  unfold notB
  rw [wp_bnd]; congr 1; funext k s
  rw [wp_ret]
@[simp] theorem wp_andW : wpM (andW fa fb ρ) st Q E = wpM (fa ρ) st (fun x s => match truW s x with | some true => wpM (fb ρ) s Q E | some false => Q x s | none => False) E := by
  unfold andW
  rw [wp_bnd]; congr 1; funext x s
  rw [wp_bnd, wp_liftO]
  cases truW s x with
  | none => rfl
  | some k => cases k <;> simp
@[simp] theorem wp_orW : wpM (orW fa fb ρ) st Q E = wpM (fa ρ) st (fun x s => match truW s x with | some true => Q x s | some false => wpM (fb ρ) s Q E | none => False) E := by
  unfold orW
  rw [wp_bnd]; congr 1; funext x s
  rw [wp_bnd, wp_liftO]
  cases truW s x with
  | none => rfl
  | some k => cases k <;> simp
@[simp] theorem wp_notW : wpM (notW fa ρ) st Q E = wpM (fa ρ) st (fun x s => match truW s x with | some k => Q (.d (.bool (!k))) s | none => False) E := by
  unfold notW
  rw [wp_bnd]; congr 1; funext x s
  rw [wp_bnd, wp_liftO]
  cases truW s x <;> simp
@[simp] theorem wp_ifW : wpM (ifW ga fa fb ρ) st Q E = wpM (ga ρ) st (fun k s => if k = true then wpM (fa ρ) s Q E else wpM (fb ρ) s Q E) E := by
  unfold ifW
  rw [wp_bnd]; congr 1; funext k s
  rw [wp_ite]
end
end Ev
end
section
set_option Elab.async false
set_option linter.all false
set_option maxRecDepth 100000
set_option autoImplicit false
namespace Ev
open PySem PySem.Spec PyProof.Rows L2
section
variable {st : Sto} {a b : PyData} {i j : Int} {x y z : Str} {xs ys : List PyData} {k : Bool}
@[simp] theorem onD_d {f : PyData → PyData → Option PyData} : onD f st (.d a) (.d b) = (f a b).map .d := rfl
@[simp] theorem truW_d : truW st (.d a) = truD a := rfl
@[simp] theorem truD_bool : truD (.bool k) = some k := rfl
@[simp] theorem truD_none : truD .none = some false := rfl
@[simp] theorem truD_int : truD (.int i) = some (i != 0) := rfl
@[simp] theorem truD_list : truD (.list xs) = some (!xs.isEmpty) := rfl
@[simp] theorem truD_tup : truD (.tuple xs) = some (!xs.isEmpty) := rfl
@[simp] theorem addD_int : addD (.int i) (.int j) = some (.int (i + j)) := rfl
@[simp] theorem subD_int : subD (.int i) (.int j) = some (.int (i - j)) := rfl
@[simp] theorem ltD_int : ltD (.int i) (.int j) = some (.bool (decide (i < j))) := rfl
@[simp] theorem leD_int : leD (.int i) (.int j) = some (.bool (decide (i ≤ j))) := rfl
@[simp] theorem gtD_int : gtD (.int i) (.int j) = some (.bool (decide (j < i))) := rfl
@[simp] theorem geD_int : geD (.int i) (.int j) = some (.bool (decide (j ≤ i))) := rfl
theorem addD_str (h : x.length + y.length ≤ sizeLine) : addD (.str x) (.str y) = some (.str (x ++ y)) := if_pos h
theorem addD_tup (h : xs.length + ys.length ≤ sizeLine) : addD (.tuple xs) (.tuple ys) = some (.tuple (xs ++ ys)) := if_pos h
theorem addD_lst (h : xs.length + ys.length ≤ sizeLine) : addD (.list xs) (.list ys) = some (.list (xs ++ ys)) := if_pos h
theorem mulD_intL (h : -(2 ^ 64) < i ∧ i < 2 ^ 64) : mulD (.int i) (.int j) = some (.int (i * j)) := if_pos (.inl h)
theorem mulD_intR (h : -(2 ^ 64) < j ∧ j < 2 ^ 64) : mulD (.int i) (.int j) = some (.int (i * j)) := if_pos (.inr h)
theorem modD_int (h : j ≠ 0) : modD (.int i) (.int j) = some (.int (i.fmod j)) := if_pos h
theorem fdivD_int (h : j ≠ 0 ∧ j.natAbs < 1073741824) : fdivD (.int i) (.int j) = some (.int (i.fdiv j)) := if_pos h
@[simp] theorem on1_one {f : Sto → W → Option W} {w : W} : on1 f st [w] = f st w := rfl
@[simp] theorem intW_int : intW st (.d (.int i)) = some (.d (.int i)) := rfl
@[simp] theorem absW_int : absW st (.d (.int i)) = some (.d (.int (if i < 0 then -i else i))) := rfl
@[simp] theorem lenW_list : lenW st (.d (.list xs)) = some (.d (.int xs.length)) := rfl
@[simp] theorem lenW_tup : lenW st (.d (.tuple xs)) = some (.d (.int xs.length)) := rfl
theorem lenW_str (h : x.length ≤ sizeLine) : lenW st (.d (.str x)) = some (.d (.int x.length)) := if_pos h
@[simp] theorem tupleW_list : tupleW st (.d (.list xs)) = some (.d (.tuple xs)) := rfl
@[simp] theorem tupleW_tup : tupleW st (.d (.tuple xs)) = some (.d (.tuple xs)) := rfl
@[simp] theorem listW_list : listW st (.d (.list xs)) = some (.d (.list xs)) := rfl
@[simp] theorem listW_tup : listW st (.d (.tuple xs)) = some (.d (.list xs)) := rfl
@[simp] theorem ixW_d : ixW st (.d a) (.d (.int i)) = (ixD a i).map .d := rfl
@[simp] theorem ixD_list : ixD (.list xs) i = atI xs i := rfl
@[simp] theorem ixD_tup : ixD (.tuple xs) i = atI xs i := rfl
theorem ixD_str (h : z.length ≤ sizeLine) : ixD (.str z) i = (atI z.cps.toList i).map fun c => .str ⟨#[c]⟩ := if_pos h
theorem atI_nat {α : Type} {l : List α} {n : Nat} : atI l (n : Int) = l[n]? := by
  unfold atI ixN
  rw [if_pos (Int.natCast_nonneg n)]
  by_cases h : (n : Int) < (l.length : Int)
  · rw [if_pos h]
    show l[(n : Int).toNat]? = _
    rw [Int.toNat_natCast]
  · rw [if_neg h, List.getElem?_eq_none (by omega)]; rfl
@[simp] theorem atI_0 {α : Type} {l : List α} : atI l 0 = l[0]? := atI_nat (n := 0)
@[simp] theorem atI_1 {α : Type} {l : List α} : atI l 1 = l[1]? := atI_nat (n := 1)
@[simp] theorem atI_2 {α : Type} {l : List α} : atI l 2 = l[2]? := atI_nat (n := 2)
@[simp] theorem itemsT_tup : itemsT st (.d (.tuple xs)) = some (xs, always) := rfl
@[simp] theorem itemsW_list : itemsW st (.d (.list xs)) = some (xs, always) := rfl
@[simp] theorem itemsS_str : itemsS st (.d (.str z)) = some (signsD z, always) := rfl
@[simp] theorem isTy_int : isTyD .int (.int i) = true := rfl
@[simp] theorem allD_nil : allD [] = some [] := rfl
@[simp] theorem allD_cons {ws : List W} : allD (.d a :: ws) = (allD ws).map (a :: ·) := rfl
@[simp] theorem aName_eq {n : Nat} {ρ : Env} : aName n a ρ = some (ρ.set n (some (.w (.d a)))) := rfl
@[simp] theorem wipe_nil {ρ : Env} : wipeE ρ [] = ρ := rfl
@[simp] theorem wipe_cons {ρ : Env} {v : Nat} {vs : List Nat} : wipeE ρ (v :: vs) = (wipeE ρ vs).set v none := rfl
theorem boolsD_map (l : List Bool) : boolsD (l.map .bool) = some l := by
  induction l with
  | nil => rfl
  | cons b l ih => show (boolsD (l.map .bool)).map (b :: ·) = _; rw [ih]; rfl
theorem allW_map (l : List Bool) : allW st (.d (.list (l.map .bool))) = some (.d (.bool (l.all id))) := by
  show (boolsD (l.map .bool)).map _ = _
  rw [boolsD_map]; rfl
theorem allW_fn {α : Type} (f : α → Bool) (l : List α) : allW st (.d (.list (l.map fun a => .bool (f a)))) = some (.d (.bool (l.all f))) := by
  have h := allW_map (st := st) (l.map f)
  rw [List.map_map, List.all_map] at h
  exact h
theorem eqD_of (ha : SeqAt.shaped a = true) (hb : SeqAt.shaped b = true) : eqD a b = some (.bool (PyData.eqv a b)) := if_pos ⟨ha, hb⟩
theorem neD_of (ha : SeqAt.shaped a = true) (hb : SeqAt.shaped b = true) : neD a b = some (.bool (!PyData.eqv a b)) := if_pos ⟨ha, hb⟩
theorem shaped_int : SeqAt.shaped (.int i) = true := by simp [SeqAt.shaped, PyData.canLay0, PyData.depth]
theorem shaped_bool : SeqAt.shaped (.bool k) = true := by simp [SeqAt.shaped, PyData.canLay0, PyData.depth]
theorem shaped_none : SeqAt.shaped .none = true := by simp [SeqAt.shaped, PyData.canLay0, PyData.depth]
@[simp] theorem eqD_int : eqD (.int i) (.int j) = some (.bool (i == j)) := by rw [eqD_of shaped_int shaped_int]; simp [PyData.eqv]
@[simp] theorem neD_int : neD (.int i) (.int j) = some (.bool (!(i == j))) := by rw [neD_of shaped_int shaped_int]; simp [PyData.eqv]

/-- a comprehension without tests, told item by item -/
theorem wp_comp_map {α : Type} {ρ : Env} {vs : List Nat} {asg : As} {gt : Env → M Bool} {fe : Env → M W} {Qc : List W → Sto → Prop} {E : Ex → Sto → Prop} {st : Sto} (g v : α → PyData) (l : List α)
    (hs : ∀ a ∈ l, ∃ ρ1, asg (g a) (wipeE ρ vs) = some ρ1 ∧ gt ρ1 st = .ok true st ∧ fe ρ1 st = .ok (.d (v a)) st) (hq : Qc ((l.map v).map .d) st) : wpM (compL always vs asg gt fe ρ (l.map g) []) st Qc E := by
  refine wp_comp (fun rest acc s => s = st ∧ ∃ r : List α, rest = r.map g ∧ (∀ a ∈ r, a ∈ l) ∧ acc ++ (r.map v).map .d = (l.map v).map .d) (fun d ds acc s h => ?_) (fun acc s h => ?_) _ [] st ⟨rfl, l, rfl, fun _ h => h, rfl⟩
  · obtain ⟨rfl, r, e, hm, hl⟩ := h
    cases r with
    | nil => cases e
    | cons a r =>
      cases e
      obtain ⟨ρ1, h1, h2, h3⟩ := hs a (hm a List.mem_cons_self)
      refine ⟨ρ1, h1, wpM_of h2 ?_⟩
      rw [if_pos rfl]
      refine wpM_of h3 ⟨rfl, r, rfl, fun b hb => hm b (List.mem_cons_of_mem _ hb), ?_⟩
      rw [← hl]
      simp
  · obtain ⟨rfl, r, e, _, hl⟩ := h
    cases r with
    | nil => rw [List.map_nil, List.map_nil, List.append_nil] at hl; rw [hl]; exact hq
    | cons a r => cases e
/-- one with a test -/
theorem wp_comp_flt {α : Type} {ρ : Env} {vs : List Nat} {asg : As} {gt : Env → M Bool} {fe : Env → M W} {Qc : List W → Sto → Prop} {E : Ex → Sto → Prop} {st : Sto} (g v : α → PyData) (p : α → Bool) (l : List α)
    (hs : ∀ a ∈ l, ∃ ρ1, asg (g a) (wipeE ρ vs) = some ρ1 ∧ gt ρ1 st = .ok (p a) st ∧ (p a = true → fe ρ1 st = .ok (.d (v a)) st)) (hq : Qc (((l.filter p).map v).map .d) st) : wpM (compL always vs asg gt fe ρ (l.map g) []) st Qc E := by
  refine wp_comp (fun rest acc s => s = st ∧ ∃ r : List α, rest = r.map g ∧ (∀ a ∈ r, a ∈ l) ∧ acc ++ ((r.filter p).map v).map .d = ((l.filter p).map v).map .d) (fun d ds acc s h => ?_) (fun acc s h => ?_) _ [] st ⟨rfl, l, rfl, fun _ h => h, rfl⟩
  · obtain ⟨rfl, r, e, hm, hl⟩ := h
    cases r with
    | nil => cases e
    | cons a r =>
      cases e
      obtain ⟨ρ1, h1, h2, h3⟩ := hs a (hm a List.mem_cons_self)
      refine ⟨ρ1, h1, wpM_of h2 ?_⟩
      cases hp : p a with
      | true =>
        rw [if_pos rfl]
        refine wpM_of (h3 hp) ⟨rfl, r, rfl, fun b hb => hm b (List.mem_cons_of_mem _ hb), ?_⟩
        rw [← hl, List.filter_cons_of_pos hp]
        simp
      | false =>
        rw [if_neg Bool.false_ne_true]
        refine ⟨rfl, r, rfl, fun b hb => hm b (List.mem_cons_of_mem _ hb), ?_⟩
        rw [← hl, List.filter_cons_of_neg (by rw [hp]; exact Bool.false_ne_true)]
  · obtain ⟨rfl, r, e, _, hl⟩ := h
    cases r with
    | nil => rw [List.filter_nil, List.map_nil, List.map_nil, List.append_nil] at hl; rw [hl]; exact hq
    | cons a r => cases e

@[simp] theorem wp_noexE {α : Type} {m : M α} {st : Sto} {Q : α → Sto → Prop} {E : Ex → Sto → Prop} : wpM (noex m) st Q E = wpM m st Q fun _ _ => False := by
  unfold wpM noex
  cases m st <;> rfl
@[simp] theorem wp_comp_nil {ρ : Env} {vs : List Nat} {asg : As} {gt : Env → M Bool} {fe : Env → M W} {Q : List W → Sto → Prop} {E : Ex → Sto → Prop} {st : Sto} {acc : List W} : wpM (compL always vs asg gt fe ρ [] acc) st Q E = Q acc st := wpM_def
@[simp] theorem wp_comp_cons {ρ : Env} {vs : List Nat} {asg : As} {gt : Env → M Bool} {fe : Env → M W} {Q : List W → Sto → Prop} {E : Ex → Sto → Prop} {st : Sto} {acc : List W} {d : PyData} {ds : List PyData} : wpM (compL always vs asg gt fe ρ (d :: ds) acc) st Q E =
    match asg d (wipeE ρ vs) with
    | none => False
    | some ρ1 => wpM (gt ρ1) st (fun k s => if k = true then wpM (fe ρ1) s (fun w s' => wpM (compL always vs asg gt fe ρ ds (acc ++ [w])) s' Q E) (fun _ _ => False) else wpM (compL always vs asg gt fe ρ ds acc) s Q E) (fun _ _ => False) := by
  cases e : asg d (wipeE ρ vs) with
  | none =>
    have e2 : compL always vs asg gt fe ρ (d :: ds) acc st = R.bad := by
      show (if always st = true then (match asg d (wipeE ρ vs) with
        | none => R.bad
        | some ρ1 => bnd (noex (gt ρ1)) (fun k => if k = true then bnd (noex (fe ρ1)) fun w => compL always vs asg gt fe ρ ds (acc ++ [w]) else compL always vs asg gt fe ρ ds acc) st) else R.bad) = _
      rw [if_pos (show always st = true from rfl), e]
    have e3 : wpM (compL always vs asg gt fe ρ (d :: ds) acc) st Q E = False := by
      unfold wpM
      rw [e2]
    exact e3
  | some ρ1 =>
    have e2 : compL always vs asg gt fe ρ (d :: ds) acc st = (bnd (noex (gt ρ1)) fun k => if k = true then bnd (noex (fe ρ1)) fun w => compL always vs asg gt fe ρ ds (acc ++ [w]) else compL always vs asg gt fe ρ ds acc) st := by
      show (if always st = true then (match asg d (wipeE ρ vs) with
        | none => R.bad
        | some ρ1 => bnd (noex (gt ρ1)) (fun k => if k = true then bnd (noex (fe ρ1)) fun w => compL always vs asg gt fe ρ ds (acc ++ [w]) else compL always vs asg gt fe ρ ds acc) st) else R.bad) = _
      rw [if_pos (show always st = true from rfl), e]
    have e3 : wpM (compL always vs asg gt fe ρ (d :: ds) acc) st Q E = wpM (bnd (noex (gt ρ1)) fun k => if k = true then bnd (noex (fe ρ1)) fun w => compL always vs asg gt fe ρ ds (acc ++ [w]) else compL always vs asg gt fe ρ ds acc) st Q E := by
      unfold wpM
      rw [e2]
    rw [e3, wp_bnd, wp_noexE]
    dsimp only
    congr 1
    funext k s
    rw [wp_ite, wp_bnd, wp_noexE]
@[simp] theorem wp_loop_nil {ρ : Env} {asg : As} {body : S} {st : Sto} {D : Dn} : wpS (loopS always asg body []) ρ st D = D.nx ρ st := wpS_def
@[simp] theorem wp_loop_cons {ρ : Env} {asg : As} {body : S} {st : Sto} {D : Dn} {d : PyData} {ds : List PyData} : wpS (loopS always asg body (d :: ds)) ρ st D = match asg d ρ with
    | none => False
    | some ρ1 => wpS body ρ1 st ⟨fun ρ' s => wpS (loopS always asg body ds) ρ' s D, D.rt, D.nx, fun ρ' s => wpS (loopS always asg body ds) ρ' s D, D.ex⟩ := by
  unfold wpS
  show (match (if always st = true then (match asg d ρ with
    | none => .bad
    | some ρ1 => (match body ρ1 st with
      | .go (.nx ρ2) st2 => loopS always asg body ds ρ2 st2
      | .go (.ct ρ2) st2 => loopS always asg body ds ρ2 st2
      | .go (.bk ρ2) st2 => .go (.nx ρ2) st2
      | .go (.rt w) st2 => .go (.rt w) st2
      | .ex x ρ2 st2 => .ex x ρ2 st2
      | .bad => .bad)) else .bad : RS) with
    | .go (.nx ρ') st' => D.nx ρ' st'
    | .go (.rt w) st' => D.rt w st'
    | .go (.bk ρ') st' => D.bk ρ' st'
    | .go (.ct ρ') st' => D.ct ρ' st'
    | .ex x ρ' st' => D.ex x ρ' st'
    | .bad => False) = _
  rw [if_pos (show always st = true from rfl)]
  cases asg d ρ with
  | none => rfl
  | some ρ1 =>
    dsimp only
    cases body ρ1 st with
    | go fl s => cases fl <;> rfl
    | ex x r s => rfl
    | bad => rfl
@[simp] theorem notInT_str {kvs : List (Str × PyData)} {st : Sto} {z : Str} : notInT kvs st (.d (.str z)) = some (.d (.bool (!(kvs.lookup z).isSome))) := rfl
@[simp] theorem inT_str {kvs : List (Str × PyData)} {st : Sto} {z : Str} : inT kvs st (.d (.str z)) = some (.d (.bool (kvs.lookup z).isSome)) := rfl
@[simp] theorem ixT_str {kvs : List (Str × PyData)} {st : Sto} {z : Str} : ixT kvs st (.d (.str z)) = (kvs.lookup z).map .d := rfl
@[simp] theorem slW_d {st : Sto} {x : PyData} {lo hi : Option Int} : slW st (.d x) lo hi = (slD lo hi x).map .d := rfl
@[simp] theorem slD_tup {xs : List PyData} {lo hi : Option Int} : slD lo hi (.tuple xs) = some (.tuple (cutL xs lo hi)) := rfl
@[simp] theorem slD_list {xs : List PyData} {lo hi : Option Int} : slD lo hi (.list xs) = some (.list (cutL xs lo hi)) := rfl
@[simp] theorem asData_eq {ds : List PyData} {st : Sto} {Q : W → Sto → Prop} {E : Ex → Sto → Prop} {ws : List W} (h : allD ws = some ds) : wpM (asData ws) st Q E = Q (.d (.list ds)) st := by
  unfold asData
  rw [wp_liftO, h]; rfl
theorem wpM_eq {α : Type} {m : M α} {st st' : Sto} {a : α} {Q : α → Sto → Prop} {E : Ex → Sto → Prop} (h : m st = .ok a st') : wpM m st Q E = Q a st' := by unfold wpM; rw [h]
theorem wpM_eqX {α : Type} {m : M α} {st st' : Sto} {x : Ex} {Q : α → Sto → Prop} {E : Ex → Sto → Prop} (h : m st = .ex x st') : wpM m st Q E = E x st' := by unfold wpM; rw [h]

theorem wp_loop_map {α : Type} {asg : As} {body : S} {D : Dn} (g : α → PyData) (Inv : List α → Env → Sto → Prop) (hs : ∀ a r ρ st, Inv (a :: r) ρ st → ∃ ρ1, asg (g a) ρ = some ρ1 ∧ wpS body ρ1 st ⟨Inv r, D.rt, D.nx, Inv r, D.ex⟩) (he : ∀ ρ st, Inv [] ρ st → D.nx ρ st) :
    ∀ (l : List α) (ρ : Env) (st : Sto), Inv l ρ st → wpS (loopS always asg body (l.map g)) ρ st D
  | [], ρ, st, h => by rw [List.map_nil, wp_loop_nil]; exact he ρ st h
  | a :: r, ρ, st, h => by
    obtain ⟨ρ1, e, h1⟩ := hs a r ρ st h
    rw [List.map_cons, wp_loop_cons, e]
    exact wpS_mono h1 (fun ρ' s h2 => wp_loop_map g Inv hs he r ρ' s h2) (fun _ _ h => h) (fun _ _ h => h) (fun ρ' s h2 => wp_loop_map g Inv hs he r ρ' s h2) (fun _ _ _ h => h)
@[simp] theorem aTup2 {n : Nat} {b : List PyData → Env → Option Env} {ds : List PyData} {ρ : Env} : aTup n b (.tuple ds) ρ = if ds.length = n then b ds ρ else none := rfl
@[simp] theorem aCons_eq {x : As} {b : List PyData → Env → Option Env} {d : PyData} {ds : List PyData} {ρ : Env} : aCons x b (d :: ds) ρ = (x d ρ).bind (b ds) := rfl
@[simp] theorem aNil_eq {ρ : Env} : aNil [] ρ = some ρ := rfl
theorem isMut_at {st : Sto} {j : Nat} {ws : List W} (h : st[j]? = some (.lst ws)) : isMut st (.r j) = some () := by
  simp [isMut, h]
theorem putEnd_at {st : Sto} {j : Nat} {ws : List W} {v : W} (h : st[j]? = some (.lst ws)) (hz : ws.length < sizeLine) : putEnd st v (.r j) = some (st.set j (.lst (ws ++ [v]))) := by
  simp [putEnd, h, hz]
theorem last_at {α : Type} {l : List α} {a : α} : (l ++ [a])[l.length]? = some a := by simp
theorem last_set {α : Type} {l : List α} {a b : α} : (l ++ [a]).set l.length b = l ++ [b] := by simp
theorem allD_fn {α : Type} (f : α → PyData) (l : List α) : allD (l.map fun a => W.d (f a)) = some (l.map f) := allD_map f l
theorem sortSet_at {st : Sto} {j : Nat} {xs : List Str} (h : st[j]? = some (.lst (xs.map fun z => .d (.str z)))) (hz : xs.length < 4000) : sortSetW st (.r j) = some (.d (.list ((sortS xs).map .str))) := by
  have e : seqW st (.r j) = some (xs.map .str) := by
    show (match st[j]? with | some (.lst ws) => allD ws | _ => none) = _
    rw [h]
    exact allD_fn PyData.str xs
  unfold sortSetW textsW
  rw [e, Option.bind_some, strsD_map, Option.bind_some, if_pos hz]
theorem sortSet_d {st : Sto} {xs : List Str} (hz : xs.length < 4000) : sortSetW st (.d (.list (xs.map .str))) = some (.d (.list ((sortS xs).map .str))) := by
  unfold sortSetW textsW seqW
  show (strsD (xs.map .str)).bind _ = _
  rw [strsD_map]
  exact if_pos hz
theorem sortSet_t {st : Sto} {xs : List Str} (hz : xs.length < 4000) : sortSetW st (.d (.tuple (xs.map .str))) = some (.d (.list ((sortS xs).map .str))) := by
  unfold sortSetW textsW seqW
  show (strsD (xs.map .str)).bind _ = _
  rw [strsD_map]
  exact if_pos hz
end
end Ev
end
section
set_option Elab.async false
set_option linter.all false
set_option maxRecDepth 100000
set_option autoImplicit false
namespace Ev
open PySem PySem.Spec PyProof.Rows L2 LamX
theorem walk_ofK {l : PySem.W.OpenLaw} {n k N : Nat} {q : Program} {loose : List Str} {XP : (Str → Option Value) → Heap → Prop} {d : DefRec} {fa : List He.Fa} {fn : List He.DefD} {ts : List He.Tab} {tf : List He.Defn} {ex : PySem.W.Frag → Bool} {x p1 : Str} {args : Arguments} {body : List Stmt} {scope : Scope}
    {N1 : List Str} {fb : PySem.W.Frag → S} {i j : Nat} (hn : l.most = some n) (hn2 : n ≤ sizeLine) (hdf : d.params.defaults = []) (hr : Room (k + 1) callerA) (hname : d.name = x) (hfn : fn[i]? = some ⟨(x, none), x, x, args, body, scope, [], []⟩) (hfa : fa[j]? = some (.glo x))
    (S : FnScope N1 [p1] scope) (hN : 0 < N1.length) (bd : BindsAll x args body scope [p1]) (hb : ∀ g : Gd, g.P = l.prog → Gnd fa fn ts tf ex g → Does g x body scope N1 k (fb g.K)) (htf : ∀ K, ex K = true → (tf.map fun p => (He.cT K p).2).Nodup)
    (good : ∀ (K : PySem.W.Frag) (ns : List Int), ns.length ≤ n → (∀ z ∈ ns, Builtin.Int.intBits z ≤ 1048576) → ∃ st', runS N1.length (fb K) ns (tabs0 K tf) = .ok (.d (.bool true)) st') :
    PySem.W.WalkO q loose XP (He.hookX N fa fn ts tf ex).says l.row.toRowW d [] (fun f vs => PySem.call f vs) := by
  refine Att.attach_callB hn hdf fun w s₀ s₁ mg mb fa' o pm cd doc a vs ns G Y ho hd hcd hmg hobj hints hlen hbits hg => ?_
  obtain ⟨K, KX, s⟩ := Y
  have mf : mg x = some (.ref (He.ga K x)) := He.glo_ok KX G.T.g (s.t.d.fact j hfa)
  rw [hname, mf] at hmg
  cases hmg
  obtain ⟨fd, FD⟩ := s.t.d.def_ i hfn
  have B := FD.bindsA bd
  have C : ∀ p ∈ tf.map (He.cT K), PySem.W.CodeHd s₁.heap p.1 p.2 := fun p hp => by
    obtain ⟨p', hp', rfl⟩ := List.mem_map.mp hp
    exact PySem.W.codeHd_of_K KX (s.hd p' hp')
  refine law_callTs (cs := tf.map (He.cT K)) (sp := spS ⟨l.prog, w, K, mg, s₁.heap⟩ (runS N1.length (fb K))) (CX := L2.CX l.prog w) (k := k + 1) (fd := fd) (x := p1) KX G.T.g G.T.b G.T.builtins G.T.nolimit hg (fun p hp => ?_) (fun p hp => ?_) C G.T.bmain hobj hints (Nat.le_trans hlen hn2) hr (fun base KB GB TB => ?_) (fun s u => B s [u] rfl) (fun H hT hS => ?_) fun H e s' h => ?_
  · obtain ⟨p', hp', rfl⟩ := List.mem_map.mp hp
    exact s.empty p' hp'
  · obtain ⟨p', hp', rfl⟩ := List.mem_map.mp hp
    exact s.out p' hp'
  · have GN : Gnd fa fn ts tf ex ⟨l.prog, w, K, mg, base⟩ := ⟨⟨s₁.heap, KX, G.T.g, s⟩, fun p hp => TB _ (List.mem_map.mpr ⟨p, hp, rfl⟩)⟩
    obtain ⟨fd2, FD2, ok⟩ := fnS_ok (GN.fnAt i j hfn hfa) S hN (hb _ rfl GN)
    have e : fd2 = fd := by
      obtain ⟨oc, od, dV, kV, doc, pm, an, cdv, ct, osl, r1, lk, _⟩ := FD.ex
      obtain ⟨oc2, od2, dV2, kV2, doc2, pm2, an2, cdv2, ct2, osl2, r2, lk2, _⟩ := FD2.ex
      have q := lk2.symm.trans lk
      cases Option.some.inj q
      rfl
    subst e
    exact ok
  · have hmem : ∀ p ∈ tf, H (He.cT K p).2 = some (.tbl #[]) := fun p hp => hT _ (List.mem_map.mpr ⟨p, hp, rfl⟩)
    obtain ⟨st', hgood⟩ := good K ns hlen hbits
    have key : ∃ F : Hp, SqL K F a (ns.map V.int) ∧ Same F H ∧ (∀ b ps, F b ≠ some (.tbl ps)) ∧ ∀ b ps, H b = some (.tbl ps) → F b = none := by
      rcases hS with hR | hK
      · have ha : ∃ o, H a = some o ∧ ∀ ps, o ≠ .tbl ps := by
          rcases hR with h | ⟨o, h⟩
          · exact ⟨_, h, nofun⟩
          · exact ⟨_, h, nofun⟩
        obtain ⟨o, ha, hn⟩ := ha
        have e1 : (fun b => if b = a then H b else none : Hp) a = H a := if_pos rfl
        have e2 : ∀ b, (fun b => if b = a then H b else none : Hp) b = none ∨ b = a := fun b => by
          by_cases hb : b = a
          · exact .inr hb
          · exact .inl (if_neg hb)
        refine ⟨fun b => if b = a then H b else none, .inl ?_, fun b u e => ?_, fun b ps e => ?_, fun b ps e => ?_⟩
        · rcases hR with h | ⟨o, h⟩
          · exact .inl (e1.trans h)
          · exact .inr ⟨o, e1.trans h⟩
        · rcases e2 b with z | z
          · rw [z] at e; cases e
          · subst z; rw [e1] at e; exact e
        · rcases e2 b with z | z
          · rw [z] at e; cases e
          · subst z; rw [e1, ha] at e; exact hn ps (Option.some.inj e)
        · rcases e2 b with z | z
          · exact z
          · subst z; rw [ha] at e; exact absurd (Option.some.inj e) (hn ps)
      · exact ⟨fun _ => none, .inr hK, nofun, nofun, fun _ _ _ => rfl⟩
    obtain ⟨F, f1, f2, f3, f4⟩ := key
    have rl : Rel K F (tf.map fun p => (He.cT K p).2) (tabs0 K tf) H := by
      refine ⟨f2, by simp [tabs0], ?_, fun b hb => ?_, fun b hb => ?_, fun i b so h1 h2 => ?_, f3⟩
      · exact htf K s.more
      · obtain ⟨p, hp, rfl⟩ := List.mem_map.mp hb
        exact f4 _ _ (hmem p hp)
      · obtain ⟨p, hp, rfl⟩ := List.mem_map.mp hb
        exact ⟨_, hmem p hp⟩
      · rw [List.getElem?_map] at h1
        unfold tabs0 at h2
        rw [List.getElem?_map] at h2
        cases hp : tf[i]? with
        | none => rw [hp] at h1; cases h1
        | some p =>
          rw [hp] at h1 h2
          cases Option.some.inj h1
          cases Option.some.inj h2
          exact ⟨rfl, #[], hmem p (List.mem_of_getElem? hp), trivial, fun pos cv e => by simp [codeAmong] at e⟩
    refine ⟨rfl, F, _, _, a, ns, rfl, f1, rl, ?_⟩
    show After _ _ _ _ _ (runS N1.length (fb K) ns (tabs0 K tf)) _
    rw [hgood]
    exact fun F' m' H' _ _ _ v hv => dq_bool hv
  · obtain ⟨_, _, _, _, _, _, _, _, _, _, _, _, z⟩ := h
    exact z
end Ev
end
section
set_option Elab.async false
set_option linter.all false
set_option maxRecDepth 100000
set_option maxHeartbeats 4000000
set_option autoImplicit false
namespace LK02
open PySem PySem.Spec PyProof.Rows L2 LamX Ev
/-! ## the text, by places -/
def tp (i : Nat) : Stmt := PySem.Challenge.pw_heardtrees_k02_whole_rows_and_own_histor.main.body.getD i (.Pass ⟨0, 0, 0, 0⟩)
def dd (i : Nat) (x : Str) : He.DefD := ⟨(x, none), x, x, defArgs (tp i), defBody (tp i), defScope (tp i), [], []⟩
def fn : List He.DefD := [dd 11 ("fits_word" : Str), dd 12 ("fits_value" : Str), dd 13 ("fits_deed" : Str), dd 14 ("fits_turn" : Str), dd 15 ("all_threads" : Str), dd 16 ("fits_row" : Str), dd 17 ("own_of" : Str), dd 18 ("need_word" : Str), dd 19 ("need_row" : Str), dd 20 ("is_row" : Str), dd 21 ("own_history" : Str), dd 22 ("threads_of" : Str), dd 24 ("_law_cup" : Str), dd 25 ("_law_roll" : Str), dd 26 ("_law_some" : Str), dd 27 ("_law_same" : Str), dd 28 ("_law_word" : Str), dd 29 ("_law_worth" : Str), dd 30 ("_law_kinds" : Str), dd 31 ("_law_row" : Str), dd 32 ("_law_name" : Str), dd 33 ("_law_right" : Str), dd 34 ("law" : Str)]
def fa : List He.Fa := [.free ("abs" : Str), .free ("all" : Str), .free ("any" : Str), .free ("bool" : Str), .free ("enumerate" : Str), .free ("int" : Str), .free ("isinstance" : Str), .free ("len" : Str), .free ("list" : Str), .free ("max" : Str), .free ("min" : Str), .free ("range" : Str), .free ("set" : Str), .free ("sorted" : Str), .free ("str" : Str), .free ("sum" : Str), .free ("tuple" : Str), .free ("zip" : Str), .glo ("fits_word" : Str), .glo ("fits_value" : Str), .glo ("fits_deed" : Str), .glo ("fits_turn" : Str), .glo ("all_threads" : Str), .glo ("fits_row" : Str), .glo ("own_of" : Str), .glo ("need_word" : Str), .glo ("need_row" : Str), .glo ("is_row" : Str), .glo ("own_history" : Str), .glo ("threads_of" : Str), .glo ("_law_cup" : Str), .glo ("_law_roll" : Str), .glo ("_law_some" : Str), .glo ("_law_same" : Str), .glo ("_law_word" : Str), .glo ("_law_worth" : Str), .glo ("_law_kinds" : Str), .glo ("_law_row" : Str), .glo ("_law_name" : Str), .glo ("_law_right" : Str), .glo ("law" : Str), .str ("LETTERS" : Str) ("abcdefghijklmnopqrstuvwxyz" : Str), .str ("SIGNS" : Str) ("abcdefghijklmnopqrstuvwxyz0123456789" : Str), .glo ("NAMES" : Str), .glo ("VALUES" : Str), .int ("DEEDS" : Str) 60, .int ("THREADS" : Str) 8, .glo ("InvalidWord" : Str), .exc ("InvalidWord" : Str), .glo ("InvalidRow" : Str), .exc ("InvalidRow" : Str), .exm ("InvalidWord" : Str) ("InvalidWord" : Str) true, .exm ("InvalidWord" : Str) ("InvalidRow" : Str) false, .exm ("InvalidRow" : Str) ("InvalidWord" : Str) false, .exm ("InvalidRow" : Str) ("InvalidRow" : Str) true]
def kv_NAMES : List (Str × He.Dv) := [(("read" : Str), .int 1), (("write" : Str), .int 1), (("take" : Str), .int 1), (("give" : Str), .int 1), (("begin" : Str), .int 1), (("await" : Str), .int 1), (("send" : Str), .int 1), (("get" : Str), .int 1), (("wait" : Str), .int 2), (("woken" : Str), .int 1), (("wake" : Str), .int 1), (("end" : Str), .int 0)]
def kt_NAMES : List (Str × PyData) := [(("read" : Str), .int 1), (("write" : Str), .int 1), (("take" : Str), .int 1), (("give" : Str), .int 1), (("begin" : Str), .int 1), (("await" : Str), .int 1), (("send" : Str), .int 1), (("get" : Str), .int 1), (("wait" : Str), .int 2), (("woken" : Str), .int 1), (("wake" : Str), .int 1), (("end" : Str), .int 0)]
def kv_VALUES : List He.Dv := [.str ("read" : Str), .str ("write" : Str), .str ("send" : Str), .str ("get" : Str)]
def kd_LETTERS : PyData := .str ("abcdefghijklmnopqrstuvwxyz" : Str)
def kd_SIGNS : PyData := .str ("abcdefghijklmnopqrstuvwxyz0123456789" : Str)
def kd_VALUES : PyData := .tuple [.str ("read" : Str), .str ("write" : Str), .str ("send" : Str), .str ("get" : Str)]
def kd_DEEDS : PyData := .int 60
def kd_THREADS : PyData := .int 8
def ts : List He.Tab := [(fun K => He.ga K ("NAMES" : Str), kv_NAMES.map (·.1))]
def tf : List He.Defn := [(("_law_right" : Str), none), (("law" : Str), none)]
def ex (K : PySem.W.Frag) : Bool := He.tupB K ("VALUES" : Str) kv_VALUES && (He.valsB K (He.ga K ("NAMES" : Str)) kv_NAMES && (decide ((tf.map fun p => (He.cT K p).2).Nodup) && (true)))
abbrev GG (g : Gd) : Prop := Gnd fa fn ts tf ex g
section
variable {g : Gd}
theorem tnd (K : PySem.W.Frag) (h : ex K = true) : (tf.map fun p => (He.cT K p).2).Nodup := of_decide_eq_true (He.ba (He.ba (He.ba h).2).2).1
theorem con_VALUES (c : GG g) : Con g ("VALUES" : Str) kd_VALUES := c.tup 44 rfl (He.ba c.more).1 rfl
theorem tbl_NAMES (c : GG g) : Tbl g ("NAMES" : Str) kt_NAMES := c.tbl 0 43 rfl rfl (He.ba (He.ba c.more).2).1 rfl rfl
theorem con_LETTERS (c : GG g) : Con g ("LETTERS" : Str) kd_LETTERS := c.str 41
theorem con_SIGNS (c : GG g) : Con g ("SIGNS" : Str) kd_SIGNS := c.str 42
theorem con_DEEDS (c : GG g) : Con g ("DEEDS" : Str) kd_DEEDS := c.int 45
theorem con_THREADS (c : GG g) : Con g ("THREADS" : Str) kd_THREADS := c.int 46
theorem gloE_InvalidWord (c : GG g) : g.mg ("InvalidWord" : Str) = some (.ref (He.ga g.K ("InvalidWord" : Str))) := c.glo 47
theorem ec_InvalidWord (c : GG g) : ErrC g.K g.mg ("InvalidWord" : Str) := c.exc 47 48
theorem gloE_InvalidRow (c : GG g) : g.mg ("InvalidRow" : Str) = some (.ref (He.ga g.K ("InvalidRow" : Str))) := c.glo 49
theorem ec_InvalidRow (c : GG g) : ErrC g.K g.mg ("InvalidRow" : Str) := c.exc 49 50
def ksub : SubT := fun a b => if a = ("InvalidWord" : Str) ∧ b = ("InvalidWord" : Str) then some true else if a = ("InvalidWord" : Str) ∧ b = ("InvalidRow" : Str) then some false else if a = ("InvalidRow" : Str) ∧ b = ("InvalidWord" : Str) then some false else if a = ("InvalidRow" : Str) ∧ b = ("InvalidRow" : Str) then some true else none
theorem sub_ok (c : GG g) : SubOk g.K g.mg ksub := by
  intro a b k C C' h ha hb
  unfold ksub at h
  split at h
  · rename_i e; obtain ⟨rfl, rfl⟩ := e; cases Option.some.inj h; rw [gloE_InvalidWord c] at ha; rw [gloE_InvalidWord c] at hb; cases ha; cases hb; exact c.exm 51
  split at h
  · rename_i e; obtain ⟨rfl, rfl⟩ := e; cases Option.some.inj h; rw [gloE_InvalidWord c] at ha; rw [gloE_InvalidRow c] at hb; cases ha; cases hb; exact c.exm 52
  split at h
  · rename_i e; obtain ⟨rfl, rfl⟩ := e; cases Option.some.inj h; rw [gloE_InvalidRow c] at ha; rw [gloE_InvalidWord c] at hb; cases ha; cases hb; exact c.exm 53
  split at h
  · rename_i e; obtain ⟨rfl, rfl⟩ := e; cases Option.some.inj h; rw [gloE_InvalidRow c] at ha; rw [gloE_InvalidRow c] at hb; cases ha; cases hb; exact c.exm 54
  cases h
end
/-! ### fits_word -/
def N_fits_word : List Str := [("value" : Str), ("sign" : Str)]
theorem sc_fits_word : FnScope N_fits_word [("value" : Str)] (defScope (tp 11)) := ⟨rfl, rfl, rfl, by decide +kernel, rfl, by decide +kernel, by decide +kernel⟩
theorem bd_fits_word : BindsAll ("fits_word" : Str) (defArgs (tp 11)) (defBody (tp 11)) (defScope (tp 11)) [("value" : Str)] := fun _ _ _ _ _ _ us hl => match us, hl with | [_], _ => rfl
def b_fits_word : S :=
  (seqS (ifS (orB (notB (tst (isiF .str (getV 0)))) (notB (toB (chain (onD leD) (onD leD) (fun _ => ret (.d (.int 1))) (callF (on1 lenW) (consA (getV 0) (fun _ => ret []))) (fun _ => ret (.d (.int 12))))))) (retS (fun _ => ret (.d (.bool false)))) nxS) (retS (andW (bin (onD inD) (bin ixW (getV 0) (fun _ => ret (.d (.int 0)))) (fun _ => ret (.d kd_LETTERS))) (callF (on1 allW) (consA (lcF (itF itemsS (getV 0)) [1] (aName 1) (fun _ => ret true) (bin (onD inD) (getV 1) (fun _ => ret (.d kd_SIGNS))) asData) (fun _ => ret []))))))
theorem does_fits_word {g : Gd} (c : GG g) : Does g ("fits_word" : Str) (defBody (tp 11)) (defScope (tp 11)) N_fits_word 0 (b_fits_word) := fun f cdv A outer s H E hr hcd =>
  have tk := takesD (g := g) (x := ("fits_word" : Str)) (scope := defScope (tp 11)) (N := N_fits_word) (f := f) (cdv := cdv) (A := A) (outer := outer) (s := s) (H := H) (E := E)
  have hp := passD (g := g) (x := ("fits_word" : Str)) (scope := defScope (tp 11)) (N := N_fits_word) (f := f) (cdv := cdv) (A := A) (outer := outer) (s := s) (H := H) (E := E)
  have nd := sc_fits_word.nd
  (sss_cons (ss_if (sw_or (sb_not (sb_val (se_isi .str (se_var 0) (by rfl) (c.free 6) (by rfl) (c.free 14)))) (sw_or1 (sb_not (sb_chain om_le om_le se_int (se_callB cm_len (by rfl) (c.free 7) boot_len (sa_cons (se_var 0) sa_nil)) se_int)))).pt (sss_one (ss_ret se_bool)) sss_nil)
  (sss_one (ss_ret (se_and (se_cmp (om_in (units65 hr)) (se_ix (se_var 0) se_int (fun _ _ => rfl)) (se_con (con_LETTERS c) (by rfl)) (by rfl)) (se_one (se_callB (cm_all rfl) (by rfl) (c.free 1) boot_all (sa_cons (se_lc rfl nd (si_str (se_var 0)) (own := [(("sign" : Str), 1)]) (blkOk_by (by show blkC N_fits_word (defScope (tp 11)) _ _ = true; decide +kernel)) (fun _ _ _ _ _ => (sg_name nd rfl (by first | exact Or.inl rfl | exact Or.inr rfl))) (fun _ _ _ _ _ => sts_nil) (fun _ _ _ _ _ => (se_cmp (om_in (units65 hr)) (se_var 1) (se_con (con_SIGNS c) (by rfl)) (by rfl))) fin_data) sa_nil)))))))
def f_fits_word : List W → M W := runB N_fits_word.length (b_fits_word)
theorem d_fits_word {g : Gd} (c : GG g) : Def g ("fits_word" : Str) 1 1 (f_fits_word) := mkDef (c.fnAt 0 18) sc_fits_word bd_fits_word (does_fits_word c)
/-! ### fits_value -/
def N_fits_value : List Str := [("value" : Str)]
theorem sc_fits_value : FnScope N_fits_value [("value" : Str)] (defScope (tp 12)) := ⟨rfl, rfl, rfl, by decide +kernel, rfl, by decide +kernel, by decide +kernel⟩
theorem bd_fits_value : BindsAll ("fits_value" : Str) (defArgs (tp 12)) (defBody (tp 12)) (defScope (tp 12)) [("value" : Str)] := fun _ _ _ _ _ _ us hl => match us, hl with | [_], _ => rfl
def b_fits_value : S :=
  (retS (andW (isiF .int (getV 0)) (andW (notW (isiF .bool (getV 0))) (chain (onD leD) (onD leD) (negW (fun _ => ret (.d (.int 99)))) (getV 0) (fun _ => ret (.d (.int 99)))))))
theorem does_fits_value {g : Gd} (c : GG g) : Does g ("fits_value" : Str) (defBody (tp 12)) (defScope (tp 12)) N_fits_value 0 (b_fits_value) := fun f cdv A outer s H E hr hcd =>
  have tk := takesD (g := g) (x := ("fits_value" : Str)) (scope := defScope (tp 12)) (N := N_fits_value) (f := f) (cdv := cdv) (A := A) (outer := outer) (s := s) (H := H) (E := E)
  have hp := passD (g := g) (x := ("fits_value" : Str)) (scope := defScope (tp 12)) (N := N_fits_value) (f := f) (cdv := cdv) (A := A) (outer := outer) (s := s) (H := H) (E := E)
  have nd := sc_fits_value.nd
  (sss_one (ss_ret (se_and (se_isi .int (se_var 0) (by rfl) (c.free 6) (by rfl) (c.free 5)) (se_and (se_not (se_isi .bool (se_var 0) (by rfl) (c.free 6) (by rfl) (c.free 3))) (se_one (se_chain om_le om_le (se_neg se_int) (se_var 0) se_int))))))
def f_fits_value : List W → M W := runB N_fits_value.length (b_fits_value)
theorem d_fits_value {g : Gd} (c : GG g) : Def g ("fits_value" : Str) 1 1 (f_fits_value) := mkDef (c.fnAt 1 19) sc_fits_value bd_fits_value (does_fits_value c)
/-! ### fits_deed -/
def N_fits_deed : List Str := [("value" : Str), ("names" : Str), ("one" : Str)]
theorem sc_fits_deed : FnScope N_fits_deed [("value" : Str)] (defScope (tp 13)) := ⟨rfl, rfl, rfl, by decide +kernel, rfl, by decide +kernel, by decide +kernel⟩
theorem bd_fits_deed : BindsAll ("fits_deed" : Str) (defArgs (tp 13)) (defBody (tp 13)) (defScope (tp 13)) [("value" : Str)] := fun _ _ _ _ _ _ us hl => match us, hl with | [_], _ => rfl
def b_fits_deed : S :=
  (seqS (ifS (orB (notB (tst (isiF .tuple (getV 0)))) (orB (toB (bin (onD eqD) (callF (on1 lenW) (consA (getV 0) (fun _ => ret []))) (fun _ => ret (.d (.int 0))))) (orB (notB (tst (isiF .str (bin ixW (getV 0) (fun _ => ret (.d (.int 0))))))) (toB (op1 (notInT kt_NAMES) (bin ixW (getV 0) (fun _ => ret (.d (.int 0))))))))) (retS (fun _ => ret (.d (.bool false)))) nxS) (seqS (asgS 1 (op1 (ixT kt_NAMES) (bin ixW (getV 0) (fun _ => ret (.d (.int 0)))))) (seqS (ifS (notB (tst (callF (on1 allW) (consA (lcF (itF itemsT (sliceF (getV 0) (partF (fun _ => ret (.d (.int 1)))) (partF (bin (onD addD) (getV 1) (fun _ => ret (.d (.int 1))))))) [2] (aName 2) (fun _ => ret true) (callU 1 f_fits_word (consA (getV 2) (fun _ => ret []))) asData) (fun _ => ret []))))) (retS (fun _ => ret (.d (.bool false)))) nxS) (seqS (ifS (toB (bin (onD inD) (bin ixW (getV 0) (fun _ => ret (.d (.int 0)))) (fun _ => ret (.d kd_VALUES)))) (retS (andW (bin (onD eqD) (callF (on1 lenW) (consA (getV 0) (fun _ => ret []))) (fun _ => ret (.d (.int 3)))) (callU 1 f_fits_value (consA (bin ixW (getV 0) (fun _ => ret (.d (.int 2)))) (fun _ => ret []))))) nxS) (retS (bin (onD eqD) (callF (on1 lenW) (consA (getV 0) (fun _ => ret []))) (bin (onD addD) (getV 1) (fun _ => ret (.d (.int 1))))))))))
theorem does_fits_deed {g : Gd} (c : GG g) : Does g ("fits_deed" : Str) (defBody (tp 13)) (defScope (tp 13)) N_fits_deed 1 (b_fits_deed) := fun f cdv A outer s H E hr hcd =>
  have tk := takesD (g := g) (x := ("fits_deed" : Str)) (scope := defScope (tp 13)) (N := N_fits_deed) (f := f) (cdv := cdv) (A := A) (outer := outer) (s := s) (H := H) (E := E)
  have hp := passD (g := g) (x := ("fits_deed" : Str)) (scope := defScope (tp 13)) (N := N_fits_deed) (f := f) (cdv := cdv) (A := A) (outer := outer) (s := s) (H := H) (E := E)
  have nd := sc_fits_deed.nd
  (sss_cons (ss_if (sw_or (sb_not (sb_val (se_isi .tuple (se_var 0) (by rfl) (c.free 6) (by rfl) (c.free 16)))) (sw_or (sb_cmp (om_eq hr.units) (se_callB cm_len (by rfl) (c.free 7) boot_len (sa_cons (se_var 0) sa_nil)) se_int (by rfl)) (sw_or (sb_not (sb_val (se_isi .str (se_ix (se_var 0) se_int (fun _ _ => rfl)) (by rfl) (c.free 6) (by rfl) (c.free 14)))) (sw_or1 (sb_notInT (tbl_NAMES c) (se_ix (se_var 0) se_int (fun _ _ => rfl)) (by rfl)))))).pt (sss_one (ss_ret se_bool)) sss_nil)
  (sss_cons (ss_set nd rfl (by first | exact Or.inl rfl | exact Or.inr rfl) (se_ixT (tbl_NAMES c) (se_ix (se_var 0) se_int (fun _ _ => rfl)) (by rfl) (fun _ _ => rfl)))
  (sss_cons (ss_if (sb_not (sb_val (se_callB (cm_all rfl) (by rfl) (c.free 1) boot_all (sa_cons (se_lc rfl nd (si_tup (se_slice (se_var 0) (so_some se_int) (so_some (se_op om_add (se_var 1) se_int)))) (own := [(("one" : Str), 2)]) (blkOk_by (by show blkC N_fits_deed (defScope (tp 13)) _ _ = true; decide +kernel)) (fun _ _ _ _ _ => (sg_name nd rfl (by first | exact Or.inl rfl | exact Or.inr rfl))) (fun _ _ _ _ _ => sts_nil) (fun _ _ _ _ _ => (se_user (d_fits_word c) hr (by rfl) L2.takes0 (sa_cons (se_var 2) sa_nil))) fin_data) sa_nil)))) (sss_one (ss_ret se_bool)) sss_nil)
  (sss_cons (ss_if (sb_cmp (om_in (units65 hr)) (se_ix (se_var 0) se_int (fun _ _ => rfl)) (se_con (con_VALUES c) (by rfl)) (by rfl)) (sss_one (ss_ret (se_and (se_cmp (om_eq hr.units) (se_callB cm_len (by rfl) (c.free 7) boot_len (sa_cons (se_var 0) sa_nil)) se_int (by rfl)) (se_one (se_user (d_fits_value c) hr (by rfl) tk (sa_cons (se_ix (se_var 0) se_int (fun _ _ => rfl)) sa_nil)))))) sss_nil)
  (sss_one (ss_ret (se_cmp (om_eq hr.units) (se_callB cm_len (by rfl) (c.free 7) boot_len (sa_cons (se_var 0) sa_nil)) (se_op om_add (se_var 1) se_int) (by rfl))))))))
def f_fits_deed : List W → M W := runB N_fits_deed.length (b_fits_deed)
theorem d_fits_deed {g : Gd} (c : GG g) : Def g ("fits_deed" : Str) 2 1 (f_fits_deed) := mkDef (c.fnAt 2 20) sc_fits_deed bd_fits_deed (does_fits_deed c)
/-! ### fits_turn -/
def N_fits_turn : List Str := [("value" : Str)]
theorem sc_fits_turn : FnScope N_fits_turn [("value" : Str)] (defScope (tp 14)) := ⟨rfl, rfl, rfl, by decide +kernel, rfl, by decide +kernel, by decide +kernel⟩
theorem bd_fits_turn : BindsAll ("fits_turn" : Str) (defArgs (tp 14)) (defBody (tp 14)) (defScope (tp 14)) [("value" : Str)] := fun _ _ _ _ _ _ us hl => match us, hl with | [_], _ => rfl
def b_fits_turn : S :=
  (retS (andW (isiF .tuple (getV 0)) (andW (bin (onD eqD) (callF (on1 lenW) (consA (getV 0) (fun _ => ret []))) (fun _ => ret (.d (.int 2)))) (andW (callU 1 f_fits_word (consA (bin ixW (getV 0) (fun _ => ret (.d (.int 0)))) (fun _ => ret []))) (callU 1 f_fits_deed (consA (bin ixW (getV 0) (fun _ => ret (.d (.int 1)))) (fun _ => ret [])))))))
theorem does_fits_turn {g : Gd} (c : GG g) : Does g ("fits_turn" : Str) (defBody (tp 14)) (defScope (tp 14)) N_fits_turn 2 (b_fits_turn) := fun f cdv A outer s H E hr hcd =>
  have tk := takesD (g := g) (x := ("fits_turn" : Str)) (scope := defScope (tp 14)) (N := N_fits_turn) (f := f) (cdv := cdv) (A := A) (outer := outer) (s := s) (H := H) (E := E)
  have hp := passD (g := g) (x := ("fits_turn" : Str)) (scope := defScope (tp 14)) (N := N_fits_turn) (f := f) (cdv := cdv) (A := A) (outer := outer) (s := s) (H := H) (E := E)
  have nd := sc_fits_turn.nd
  (sss_one (ss_ret (se_and (se_isi .tuple (se_var 0) (by rfl) (c.free 6) (by rfl) (c.free 16)) (se_and (se_cmp (om_eq hr.units) (se_callB cm_len (by rfl) (c.free 7) boot_len (sa_cons (se_var 0) sa_nil)) se_int (by rfl)) (se_and (se_user (d_fits_word c) hr (by rfl) tk (sa_cons (se_ix (se_var 0) se_int (fun _ _ => rfl)) sa_nil)) (se_one (se_user (d_fits_deed c) hr (by rfl) tk (sa_cons (se_ix (se_var 0) se_int (fun _ _ => rfl)) sa_nil))))))))
def f_fits_turn : List W → M W := runB N_fits_turn.length (b_fits_turn)
theorem d_fits_turn {g : Gd} (c : GG g) : Def g ("fits_turn" : Str) 3 1 (f_fits_turn) := mkDef (c.fnAt 3 21) sc_fits_turn bd_fits_turn (does_fits_turn c)
/-! ### all_threads -/
def N_all_threads : List Str := [("row" : Str), ("found" : Str), ("thread" : Str), ("deed" : Str)]
theorem sc_all_threads : FnScope N_all_threads [("row" : Str)] (defScope (tp 15)) := ⟨rfl, rfl, rfl, by decide +kernel, rfl, by decide +kernel, by decide +kernel⟩
theorem bd_all_threads : BindsAll ("all_threads" : Str) (defArgs (tp 15)) (defBody (tp 15)) (defScope (tp 15)) [("row" : Str)] := fun _ _ _ _ _ _ us hl => match us, hl with | [_], _ => rfl
def b_all_threads : S :=
  (seqS (asgS 1 (mkMut (consA (fun _ => ret (.d (.str ("root" : Str)))) (fun _ => ret [])))) (seqS (forS (itF itemsT (getV 0)) (aTup 2 (aCons (aName 2) (aCons (aName 3) aNil))) (seqS (dropS (appS (getV 1) (getV 2))) (ifS (toB (bin (onD eqD) (bin ixW (getV 3) (fun _ => ret (.d (.int 0)))) (fun _ => ret (.d (.str ("begin" : Str)))))) (dropS (appS (getV 1) (bin ixW (getV 3) (fun _ => ret (.d (.int 1)))))) nxS))) (retS (callF (on1 tupleW) (consA (op1 sortSetW (getV 1)) (fun _ => ret []))))))
theorem does_all_threads {g : Gd} (c : GG g) : Does g ("all_threads" : Str) (defBody (tp 15)) (defScope (tp 15)) N_all_threads 0 (b_all_threads) := fun f cdv A outer s H E hr hcd =>
  have tk := takesD (g := g) (x := ("all_threads" : Str)) (scope := defScope (tp 15)) (N := N_all_threads) (f := f) (cdv := cdv) (A := A) (outer := outer) (s := s) (H := H) (E := E)
  have hp := passD (g := g) (x := ("all_threads" : Str)) (scope := defScope (tp 15)) (N := N_all_threads) (f := f) (cdv := cdv) (A := A) (outer := outer) (s := s) (H := H) (E := E)
  have nd := sc_all_threads.nd
  (sss_cons (ss_set nd rfl (by first | exact Or.inl rfl | exact Or.inr rfl) (se_mut (sa_cons se_str sa_nil)))
  (sss_cons (ss_for hp rfl (si_tup (se_var 0)) (sg_tup rfl (sgs_cons (sg_name nd rfl (by first | exact Or.inl rfl | exact Or.inr rfl)) (sgs_cons (sg_name nd rfl (by first | exact Or.inl rfl | exact Or.inr rfl)) sgs_nil))) (sss_cons (ss_expr (se_app (se_var 1) (se_var 2)))
  (sss_one (ss_if (sb_cmp (om_eq hr.units) (se_ix (se_var 3) se_int (fun _ _ => rfl)) se_str (by rfl)) (sss_one (ss_expr (se_app (se_var 1) (se_ix (se_var 3) se_int (fun _ _ => rfl))))) sss_nil))))
  (sss_one (ss_ret (se_callTy cm_tuple (by rfl) (c.free 16) boot_tuple (sa_cons (se_sortSet rfl (units65 hr) (se_var 1) (by rfl) (c.free 13) (by rfl) (c.free 12)) sa_nil))))))
def f_all_threads : List W → M W := runB N_all_threads.length (b_all_threads)
theorem d_all_threads {g : Gd} (c : GG g) : Def g ("all_threads" : Str) 1 1 (f_all_threads) := mkDef (c.fnAt 4 22) sc_all_threads bd_all_threads (does_all_threads c)
/-! ### fits_row -/
def N_fits_row : List Str := [("value" : Str), ("turn" : Str)]
theorem sc_fits_row : FnScope N_fits_row [("value" : Str)] (defScope (tp 16)) := ⟨rfl, rfl, rfl, by decide +kernel, rfl, by decide +kernel, by decide +kernel⟩
theorem bd_fits_row : BindsAll ("fits_row" : Str) (defArgs (tp 16)) (defBody (tp 16)) (defScope (tp 16)) [("value" : Str)] := fun _ _ _ _ _ _ us hl => match us, hl with | [_], _ => rfl
def b_fits_row : S :=
  (seqS (ifS (orB (notB (tst (isiF .tuple (getV 0)))) (orB (toB (bin (onD gtD) (callF (on1 lenW) (consA (getV 0) (fun _ => ret []))) (fun _ => ret (.d kd_DEEDS)))) (notB (tst (callF (on1 allW) (consA (lcF (itF itemsT (getV 0)) [1] (aName 1) (fun _ => ret true) (callU 1 f_fits_turn (consA (getV 1) (fun _ => ret []))) asData) (fun _ => ret []))))))) (retS (fun _ => ret (.d (.bool false)))) nxS) (retS (bin (onD leD) (callF (on1 lenW) (consA (callU 1 f_all_threads (consA (getV 0) (fun _ => ret []))) (fun _ => ret []))) (fun _ => ret (.d kd_THREADS)))))
theorem does_fits_row {g : Gd} (c : GG g) : Does g ("fits_row" : Str) (defBody (tp 16)) (defScope (tp 16)) N_fits_row 3 (b_fits_row) := fun f cdv A outer s H E hr hcd =>
  have tk := takesD (g := g) (x := ("fits_row" : Str)) (scope := defScope (tp 16)) (N := N_fits_row) (f := f) (cdv := cdv) (A := A) (outer := outer) (s := s) (H := H) (E := E)
  have hp := passD (g := g) (x := ("fits_row" : Str)) (scope := defScope (tp 16)) (N := N_fits_row) (f := f) (cdv := cdv) (A := A) (outer := outer) (s := s) (H := H) (E := E)
  have nd := sc_fits_row.nd
  (sss_cons (ss_if (sw_or (sb_not (sb_val (se_isi .tuple (se_var 0) (by rfl) (c.free 6) (by rfl) (c.free 16)))) (sw_or (sb_cmp om_gt (se_callB cm_len (by rfl) (c.free 7) boot_len (sa_cons (se_var 0) sa_nil)) (se_con (con_DEEDS c) (by rfl)) (by rfl)) (sw_or1 (sb_not (sb_val (se_callB (cm_all rfl) (by rfl) (c.free 1) boot_all (sa_cons (se_lc rfl nd (si_tup (se_var 0)) (own := [(("turn" : Str), 1)]) (blkOk_by (by show blkC N_fits_row (defScope (tp 16)) _ _ = true; decide +kernel)) (fun _ _ _ _ _ => (sg_name nd rfl (by first | exact Or.inl rfl | exact Or.inr rfl))) (fun _ _ _ _ _ => sts_nil) (fun _ _ _ _ _ => (se_user (d_fits_turn c) hr (by rfl) L2.takes0 (sa_cons (se_var 1) sa_nil))) fin_data) sa_nil))))))).pt (sss_one (ss_ret se_bool)) sss_nil)
  (sss_one (ss_ret (se_cmp om_le (se_callB cm_len (by rfl) (c.free 7) boot_len (sa_cons (se_user (d_all_threads c) hr (by rfl) tk (sa_cons (se_var 0) sa_nil)) sa_nil)) (se_con (con_THREADS c) (by rfl)) (by rfl)))))
def f_fits_row : List W → M W := runB N_fits_row.length (b_fits_row)
theorem d_fits_row {g : Gd} (c : GG g) : Def g ("fits_row" : Str) 4 1 (f_fits_row) := mkDef (c.fnAt 5 23) sc_fits_row bd_fits_row (does_fits_row c)
/-! ### own_of -/
def N_own_of : List Str := [("row" : Str), ("thread" : Str), ("one" : Str), ("deed" : Str)]
theorem sc_own_of : FnScope N_own_of [("row" : Str), ("thread" : Str)] (defScope (tp 17)) := ⟨rfl, rfl, rfl, by decide +kernel, rfl, by decide +kernel, by decide +kernel⟩
theorem bd_own_of : BindsAll ("own_of" : Str) (defArgs (tp 17)) (defBody (tp 17)) (defScope (tp 17)) [("row" : Str), ("thread" : Str)] := fun _ _ _ _ _ _ us hl => match us, hl with | [_, _], _ => rfl
def b_own_of : S :=
  (retS (callF (on1 tupleW) (consA (lcF (itF itemsT (getV 0)) [2, 3] (aTup 2 (aCons (aName 2) (aCons (aName 3) aNil))) (toB (bin (onD eqD) (getV 2) (getV 1))) (getV 3) asData) (fun _ => ret []))))
theorem does_own_of {g : Gd} (c : GG g) : Does g ("own_of" : Str) (defBody (tp 17)) (defScope (tp 17)) N_own_of 0 (b_own_of) := fun f cdv A outer s H E hr hcd =>
  have tk := takesD (g := g) (x := ("own_of" : Str)) (scope := defScope (tp 17)) (N := N_own_of) (f := f) (cdv := cdv) (A := A) (outer := outer) (s := s) (H := H) (E := E)
  have hp := passD (g := g) (x := ("own_of" : Str)) (scope := defScope (tp 17)) (N := N_own_of) (f := f) (cdv := cdv) (A := A) (outer := outer) (s := s) (H := H) (E := E)
  have nd := sc_own_of.nd
  (sss_one (ss_ret (se_callTy cm_tuple (by rfl) (c.free 16) boot_tuple (sa_cons (se_lc rfl nd (si_tup (se_var 0)) (own := [(("one" : Str), 2), (("deed" : Str), 3)]) (blkOk_by (by show blkC N_own_of (defScope (tp 17)) _ _ = true; decide +kernel)) (fun _ _ _ _ _ => (sg_tup rfl (sgs_cons (sg_name nd rfl (by first | exact Or.inl rfl | exact Or.inr rfl)) (sgs_cons (sg_name nd rfl (by first | exact Or.inl rfl | exact Or.inr rfl)) sgs_nil)))) (fun _ _ _ _ _ => (sts_one (sb_cmp (om_eq hr.units) (se_var 2) (se_var 1) (by rfl)))) (fun _ _ _ _ _ => (se_var 3)) fin_data) sa_nil))))
def f_own_of : List W → M W := runB N_own_of.length (b_own_of)
theorem d_own_of {g : Gd} (c : GG g) : Def g ("own_of" : Str) 1 2 (f_own_of) := mkDef (c.fnAt 6 24) sc_own_of bd_own_of (does_own_of c)
/-! ### need_word -/
def N_need_word : List Str := [("value" : Str)]
theorem sc_need_word : FnScope N_need_word [("value" : Str)] (defScope (tp 18)) := ⟨rfl, rfl, rfl, by decide +kernel, rfl, by decide +kernel, by decide +kernel⟩
theorem bd_need_word : BindsAll ("need_word" : Str) (defArgs (tp 18)) (defBody (tp 18)) (defScope (tp 18)) [("value" : Str)] := fun _ _ _ _ _ _ us hl => match us, hl with | [_], _ => rfl
def b_need_word : S :=
  (ifS (notB (tst (callU 1 f_fits_word (consA (getV 0) (fun _ => ret []))))) (raiseS ("InvalidWord" : Str)) nxS)
theorem does_need_word {g : Gd} (c : GG g) : Does g ("need_word" : Str) (defBody (tp 18)) (defScope (tp 18)) N_need_word 1 (b_need_word) := fun f cdv A outer s H E hr hcd =>
  have tk := takesD (g := g) (x := ("need_word" : Str)) (scope := defScope (tp 18)) (N := N_need_word) (f := f) (cdv := cdv) (A := A) (outer := outer) (s := s) (H := H) (E := E)
  have hp := passD (g := g) (x := ("need_word" : Str)) (scope := defScope (tp 18)) (N := N_need_word) (f := f) (cdv := cdv) (A := A) (outer := outer) (s := s) (H := H) (E := E)
  have nd := sc_need_word.nd
  (sss_one (ss_if (sb_not (sb_val (se_user (d_fits_word c) hr (by rfl) tk (sa_cons (se_var 0) sa_nil)))) (sss_one (ss_raise (ec_InvalidWord c) rfl tk (by rfl))) sss_nil))
def f_need_word : List W → M W := runB N_need_word.length (b_need_word)
theorem d_need_word {g : Gd} (c : GG g) : Def g ("need_word" : Str) 2 1 (f_need_word) := mkDef (c.fnAt 7 25) sc_need_word bd_need_word (does_need_word c)
/-! ### need_row -/
def N_need_row : List Str := [("value" : Str)]
theorem sc_need_row : FnScope N_need_row [("value" : Str)] (defScope (tp 19)) := ⟨rfl, rfl, rfl, by decide +kernel, rfl, by decide +kernel, by decide +kernel⟩
theorem bd_need_row : BindsAll ("need_row" : Str) (defArgs (tp 19)) (defBody (tp 19)) (defScope (tp 19)) [("value" : Str)] := fun _ _ _ _ _ _ us hl => match us, hl with | [_], _ => rfl
def b_need_row : S :=
  (ifS (notB (tst (callU 1 f_fits_row (consA (getV 0) (fun _ => ret []))))) (raiseS ("InvalidRow" : Str)) nxS)
theorem does_need_row {g : Gd} (c : GG g) : Does g ("need_row" : Str) (defBody (tp 19)) (defScope (tp 19)) N_need_row 4 (b_need_row) := fun f cdv A outer s H E hr hcd =>
  have tk := takesD (g := g) (x := ("need_row" : Str)) (scope := defScope (tp 19)) (N := N_need_row) (f := f) (cdv := cdv) (A := A) (outer := outer) (s := s) (H := H) (E := E)
  have hp := passD (g := g) (x := ("need_row" : Str)) (scope := defScope (tp 19)) (N := N_need_row) (f := f) (cdv := cdv) (A := A) (outer := outer) (s := s) (H := H) (E := E)
  have nd := sc_need_row.nd
  (sss_one (ss_if (sb_not (sb_val (se_user (d_fits_row c) hr (by rfl) tk (sa_cons (se_var 0) sa_nil)))) (sss_one (ss_raise (ec_InvalidRow c) rfl tk (by rfl))) sss_nil))
def f_need_row : List W → M W := runB N_need_row.length (b_need_row)
theorem d_need_row {g : Gd} (c : GG g) : Def g ("need_row" : Str) 5 1 (f_need_row) := mkDef (c.fnAt 8 26) sc_need_row bd_need_row (does_need_row c)
/-! ### is_row -/
def N_is_row : List Str := [("value" : Str)]
theorem sc_is_row : FnScope N_is_row [("value" : Str)] (defScope (tp 20)) := ⟨rfl, rfl, rfl, by decide +kernel, rfl, by decide +kernel, by decide +kernel⟩
theorem bd_is_row : BindsAll ("is_row" : Str) (defArgs (tp 20)) (defBody (tp 20)) (defScope (tp 20)) [("value" : Str)] := fun _ _ _ _ _ _ us hl => match us, hl with | [_], _ => rfl
def b_is_row : S :=
  (retS (callU 1 f_fits_row (consA (getV 0) (fun _ => ret []))))
theorem does_is_row {g : Gd} (c : GG g) : Does g ("is_row" : Str) (defBody (tp 20)) (defScope (tp 20)) N_is_row 4 (b_is_row) := fun f cdv A outer s H E hr hcd =>
  have tk := takesD (g := g) (x := ("is_row" : Str)) (scope := defScope (tp 20)) (N := N_is_row) (f := f) (cdv := cdv) (A := A) (outer := outer) (s := s) (H := H) (E := E)
  have hp := passD (g := g) (x := ("is_row" : Str)) (scope := defScope (tp 20)) (N := N_is_row) (f := f) (cdv := cdv) (A := A) (outer := outer) (s := s) (H := H) (E := E)
  have nd := sc_is_row.nd
  (sss_one (ss_ret (se_user (d_fits_row c) hr (by rfl) tk (sa_cons (se_var 0) sa_nil))))
def f_is_row : List W → M W := runB N_is_row.length (b_is_row)
theorem d_is_row {g : Gd} (c : GG g) : Def g ("is_row" : Str) 5 1 (f_is_row) := mkDef (c.fnAt 9 27) sc_is_row bd_is_row (does_is_row c)
/-! ### own_history -/
def N_own_history : List Str := [("row" : Str), ("thread" : Str)]
theorem sc_own_history : FnScope N_own_history [("row" : Str), ("thread" : Str)] (defScope (tp 21)) := ⟨rfl, rfl, rfl, by decide +kernel, rfl, by decide +kernel, by decide +kernel⟩
theorem bd_own_history : BindsAll ("own_history" : Str) (defArgs (tp 21)) (defBody (tp 21)) (defScope (tp 21)) [("row" : Str), ("thread" : Str)] := fun _ _ _ _ _ _ us hl => match us, hl with | [_, _], _ => rfl
def b_own_history : S :=
  (seqS (dropS (callU 1 f_need_row (consA (getV 0) (fun _ => ret [])))) (seqS (dropS (callU 1 f_need_word (consA (getV 1) (fun _ => ret [])))) (retS (callU 2 f_own_of (consA (getV 0) (consA (getV 1) (fun _ => ret [])))))))
theorem does_own_history {g : Gd} (c : GG g) : Does g ("own_history" : Str) (defBody (tp 21)) (defScope (tp 21)) N_own_history 5 (b_own_history) := fun f cdv A outer s H E hr hcd =>
  have tk := takesD (g := g) (x := ("own_history" : Str)) (scope := defScope (tp 21)) (N := N_own_history) (f := f) (cdv := cdv) (A := A) (outer := outer) (s := s) (H := H) (E := E)
  have hp := passD (g := g) (x := ("own_history" : Str)) (scope := defScope (tp 21)) (N := N_own_history) (f := f) (cdv := cdv) (A := A) (outer := outer) (s := s) (H := H) (E := E)
  have nd := sc_own_history.nd
  (sss_cons (ss_expr (se_user (d_need_row c) hr (by rfl) tk (sa_cons (se_var 0) sa_nil)))
  (sss_cons (ss_expr (se_user (d_need_word c) hr (by rfl) tk (sa_cons (se_var 1) sa_nil)))
  (sss_one (ss_ret (se_user (d_own_of c) hr (by rfl) tk (sa_cons (se_var 0) (sa_cons (se_var 1) sa_nil)))))))
def f_own_history : List W → M W := runB N_own_history.length (b_own_history)
theorem d_own_history {g : Gd} (c : GG g) : Def g ("own_history" : Str) 6 2 (f_own_history) := mkDef (c.fnAt 10 28) sc_own_history bd_own_history (does_own_history c)
/-! ### threads_of -/
def N_threads_of : List Str := [("row" : Str)]
theorem sc_threads_of : FnScope N_threads_of [("row" : Str)] (defScope (tp 22)) := ⟨rfl, rfl, rfl, by decide +kernel, rfl, by decide +kernel, by decide +kernel⟩
theorem bd_threads_of : BindsAll ("threads_of" : Str) (defArgs (tp 22)) (defBody (tp 22)) (defScope (tp 22)) [("row" : Str)] := fun _ _ _ _ _ _ us hl => match us, hl with | [_], _ => rfl
def b_threads_of : S :=
  (seqS (dropS (callU 1 f_need_row (consA (getV 0) (fun _ => ret [])))) (retS (callU 1 f_all_threads (consA (getV 0) (fun _ => ret [])))))
theorem does_threads_of {g : Gd} (c : GG g) : Does g ("threads_of" : Str) (defBody (tp 22)) (defScope (tp 22)) N_threads_of 5 (b_threads_of) := fun f cdv A outer s H E hr hcd =>
  have tk := takesD (g := g) (x := ("threads_of" : Str)) (scope := defScope (tp 22)) (N := N_threads_of) (f := f) (cdv := cdv) (A := A) (outer := outer) (s := s) (H := H) (E := E)
  have hp := passD (g := g) (x := ("threads_of" : Str)) (scope := defScope (tp 22)) (N := N_threads_of) (f := f) (cdv := cdv) (A := A) (outer := outer) (s := s) (H := H) (E := E)
  have nd := sc_threads_of.nd
  (sss_cons (ss_expr (se_user (d_need_row c) hr (by rfl) tk (sa_cons (se_var 0) sa_nil)))
  (sss_one (ss_ret (se_user (d_all_threads c) hr (by rfl) tk (sa_cons (se_var 0) sa_nil)))))
def f_threads_of : List W → M W := runB N_threads_of.length (b_threads_of)
theorem d_threads_of {g : Gd} (c : GG g) : Def g ("threads_of" : Str) 6 1 (f_threads_of) := mkDef (c.fnAt 11 29) sc_threads_of bd_threads_of (does_threads_of c)
/-! ### _law_cup -/
def N__law_cup : List Str := [("script" : Str), ("cell" : Str)]
theorem sc__law_cup : FnScope N__law_cup [("script" : Str)] (defScope (tp 24)) := ⟨rfl, rfl, rfl, by decide +kernel, rfl, by decide +kernel, by decide +kernel⟩
theorem bd__law_cup : BindsAll ("_law_cup" : Str) (defArgs (tp 24)) (defBody (tp 24)) (defScope (tp 24)) [("script" : Str)] := fun _ _ _ _ _ _ us hl => match us, hl with | [_], _ => rfl
def b__law_cup : S :=
  (seqS (asgS 1 (callF (on1 absW) (consA (bin ixW (bin (onD addD) (scrF 0 fun ns => ret (.d (.list (ns.map .int)))) (mkLst (consA (fun _ => ret (.d (.int 0))) (fun _ => ret [])))) (fun _ => ret (.d (.int 0)))) (fun _ => ret [])))) (retS (mkMut (consA (ifW (toB (bin (onD geD) (getV 1) (bin (onD powD) (fun _ => ret (.d (.int 10))) (fun _ => ret (.d (.int 18)))))) (bin (onD fdivD) (getV 1) (fun _ => ret (.d (.int 89)))) (fun _ => ret (.d (.int 0)))) (consA (bin (onD addD) (bin (onD modD) (callF (on1 intW) (consA (bin (onD addD) (bin (onD mulD) (getV 1) (fun _ => ret (.d (.int 271)))) (fun _ => ret (.d (.int 3331)))) (fun _ => ret []))) (fun _ => ret (.d (.int 2077504519)))) (fun _ => ret (.d (.int 223)))) (fun _ => ret []))))))
theorem does__law_cup {g : Gd} (c : GG g) : Does g ("_law_cup" : Str) (defBody (tp 24)) (defScope (tp 24)) N__law_cup 0 (b__law_cup) := fun f cdv A outer s H E hr hcd =>
  have tk := takesD (g := g) (x := ("_law_cup" : Str)) (scope := defScope (tp 24)) (N := N__law_cup) (f := f) (cdv := cdv) (A := A) (outer := outer) (s := s) (H := H) (E := E)
  have hp := passD (g := g) (x := ("_law_cup" : Str)) (scope := defScope (tp 24)) (N := N__law_cup) (f := f) (cdv := cdv) (A := A) (outer := outer) (s := s) (H := H) (E := E)
  have nd := sc__law_cup.nd
  (sss_cons (ss_set nd rfl (by first | exact Or.inl rfl | exact Or.inr rfl) (se_callB cm_abs (by rfl) (c.free 0) boot_abs (sa_cons (se_ix (se_op om_add (se_listScr 0 (hg := by rfl) (hm := (c.free 8))) (se_lst (sa_cons se_int sa_nil))) se_int (fun _ _ => rfl)) sa_nil)))
  (sss_one (ss_ret (se_mut (sa_cons (se_if (sb_cmp om_ge (se_var 1) (se_op om_pow se_int se_int) (by rfl)) (se_op om_fdiv (se_var 1) se_int) se_int) (sa_cons (se_op om_add (se_op om_mod (se_callTy cm_int (by rfl) (c.free 5) boot_int (sa_cons (se_op om_add (se_op om_mul (se_var 1) se_int) se_int) sa_nil)) se_int) se_int) sa_nil))))))
def f__law_cup : List Int → M W := runS N__law_cup.length b__law_cup
theorem d__law_cup {g : Gd} (c : GG g) : DefS g ("_law_cup" : Str) 1 f__law_cup := mkDefS (c.fnAt 12 30) sc__law_cup (by decide) bd__law_cup (does__law_cup c)
/-! ### _law_roll -/
def N__law_roll : List Str := [("cup" : Str), ("many" : Str), ("deep" : Str), ("found" : Str)]
theorem sc__law_roll : FnScope N__law_roll [("cup" : Str), ("many" : Str)] (defScope (tp 25)) := ⟨rfl, rfl, rfl, by decide +kernel, rfl, by decide +kernel, by decide +kernel⟩
theorem bd__law_roll : BindsAll ("_law_roll" : Str) (defArgs (tp 25)) (defBody (tp 25)) (defScope (tp 25)) [("cup" : Str), ("many" : Str)] := fun _ _ _ _ _ _ us hl => match us, hl with | [_, _], _ => rfl
def b__law_roll : S :=
  (seqS (ifS (toB (bin (onD gtD) (bin ixW (getV 0) (fun _ => ret (.d (.int 0)))) (fun _ => ret (.d (.int 0))))) (seqS (asgS 3 (bin (onD modD) (callF (on1 intW) (consA (bin ixW (getV 0) (fun _ => ret (.d (.int 0)))) (fun _ => ret []))) (getV 1))) (seqS (setIx (getV 0) (fun _ => ret (.d (.int 0))) (bin (onD fdivD) (bin ixW (getV 0) (fun _ => ret (.d (.int 0)))) (getV 1))) (retS (getV 3)))) nxS) (seqS (setIx (getV 0) (fun _ => ret (.d (.int 1))) (bin (onD modD) (callF (on1 intW) (consA (bin (onD addD) (bin (onD mulD) (bin ixW (getV 0) (fun _ => ret (.d (.int 1)))) (fun _ => ret (.d (.int 31139)))) (fun _ => ret (.d (.int 8231)))) (fun _ => ret []))) (fun _ => ret (.d (.int 2147483249))))) (seqS (asgS 2 (bin (onD modD) (callF (on1 intW) (consA (bin (onD mulD) (bin ixW (getV 0) (fun _ => ret (.d (.int 1)))) (bin (onD addD) (bin ixW (getV 0) (fun _ => ret (.d (.int 1)))) (fun _ => ret (.d (.int 277))))) (fun _ => ret []))) (fun _ => ret (.d (.int 2147483549))))) (retS (bin (onD modD) (callF (on1 intW) (consA (bin (onD fdivD) (getV 2) (fun _ => ret (.d (.int 877)))) (fun _ => ret []))) (getV 1))))))
theorem does__law_roll {g : Gd} (c : GG g) : Does g ("_law_roll" : Str) (defBody (tp 25)) (defScope (tp 25)) N__law_roll 0 (b__law_roll) := fun f cdv A outer s H E hr hcd =>
  have tk := takesD (g := g) (x := ("_law_roll" : Str)) (scope := defScope (tp 25)) (N := N__law_roll) (f := f) (cdv := cdv) (A := A) (outer := outer) (s := s) (H := H) (E := E)
  have hp := passD (g := g) (x := ("_law_roll" : Str)) (scope := defScope (tp 25)) (N := N__law_roll) (f := f) (cdv := cdv) (A := A) (outer := outer) (s := s) (H := H) (E := E)
  have nd := sc__law_roll.nd
  (sss_cons (ss_if (sb_cmp om_gt (se_ix (se_var 0) se_int (fun _ _ => rfl)) se_int (by rfl)) (sss_cons (ss_set nd rfl (by first | exact Or.inl rfl | exact Or.inr rfl) (se_op om_mod (se_callTy cm_int (by rfl) (c.free 5) boot_int (sa_cons (se_ix (se_var 0) se_int (fun _ _ => rfl)) sa_nil)) (se_var 1)))
  (sss_cons (ss_setIx (se_var 0) se_int (se_op om_fdiv (se_ix (se_var 0) se_int (fun _ _ => rfl)) (se_var 1)))
  (sss_one (ss_ret (se_var 3))))) sss_nil)
  (sss_cons (ss_setIx (se_var 0) se_int (se_op om_mod (se_callTy cm_int (by rfl) (c.free 5) boot_int (sa_cons (se_op om_add (se_op om_mul (se_ix (se_var 0) se_int (fun _ _ => rfl)) se_int) se_int) sa_nil)) se_int))
  (sss_cons (ss_set nd rfl (by first | exact Or.inl rfl | exact Or.inr rfl) (se_op om_mod (se_callTy cm_int (by rfl) (c.free 5) boot_int (sa_cons (se_op om_mul (se_ix (se_var 0) se_int (fun _ _ => rfl)) (se_op om_add (se_ix (se_var 0) se_int (fun _ _ => rfl)) se_int)) sa_nil)) se_int))
  (sss_one (ss_ret (se_op om_mod (se_callTy cm_int (by rfl) (c.free 5) boot_int (sa_cons (se_op om_fdiv (se_var 2) se_int) sa_nil)) (se_var 1)))))))
def f__law_roll : List W → M W := runB N__law_roll.length (b__law_roll)
theorem d__law_roll {g : Gd} (c : GG g) : Def g ("_law_roll" : Str) 1 2 (f__law_roll) := mkDef (c.fnAt 13 31) sc__law_roll bd__law_roll (does__law_roll c)
/-! ### _law_some -/
def N__law_some : List Str := [("cup" : Str), ("things" : Str)]
theorem sc__law_some : FnScope N__law_some [("cup" : Str), ("things" : Str)] (defScope (tp 26)) := ⟨rfl, rfl, rfl, by decide +kernel, rfl, by decide +kernel, by decide +kernel⟩
theorem bd__law_some : BindsAll ("_law_some" : Str) (defArgs (tp 26)) (defBody (tp 26)) (defScope (tp 26)) [("cup" : Str), ("things" : Str)] := fun _ _ _ _ _ _ us hl => match us, hl with | [_, _], _ => rfl
def b__law_some : S :=
  (retS (bin ixW (getV 1) (callU 2 f__law_roll (consA (getV 0) (consA (callF (on1 lenW) (consA (getV 1) (fun _ => ret []))) (fun _ => ret []))))))
theorem does__law_some {g : Gd} (c : GG g) : Does g ("_law_some" : Str) (defBody (tp 26)) (defScope (tp 26)) N__law_some 1 (b__law_some) := fun f cdv A outer s H E hr hcd =>
  have tk := takesD (g := g) (x := ("_law_some" : Str)) (scope := defScope (tp 26)) (N := N__law_some) (f := f) (cdv := cdv) (A := A) (outer := outer) (s := s) (H := H) (E := E)
  have hp := passD (g := g) (x := ("_law_some" : Str)) (scope := defScope (tp 26)) (N := N__law_some) (f := f) (cdv := cdv) (A := A) (outer := outer) (s := s) (H := H) (E := E)
  have nd := sc__law_some.nd
  (sss_one (ss_ret (se_ix (se_var 1) (se_user (d__law_roll c) hr (by rfl) tk (sa_cons (se_var 0) (sa_cons (se_callB cm_len (by rfl) (c.free 7) boot_len (sa_cons (se_var 1) sa_nil)) sa_nil))) (fun _ _ => rfl))))
def f__law_some : List W → M W := runB N__law_some.length (b__law_some)
theorem d__law_some {g : Gd} (c : GG g) : Def g ("_law_some" : Str) 2 2 (f__law_some) := mkDef (c.fnAt 14 32) sc__law_some bd__law_some (does__law_some c)
/-! ### _law_same -/
def N__law_same : List Str := [("told" : Str), ("due" : Str), ("at" : Str)]
theorem sc__law_same : FnScope N__law_same [("told" : Str), ("due" : Str)] (defScope (tp 27)) := ⟨rfl, rfl, rfl, by decide +kernel, rfl, by decide +kernel, by decide +kernel⟩
theorem bd__law_same : BindsAll ("_law_same" : Str) (defArgs (tp 27)) (defBody (tp 27)) (defScope (tp 27)) [("told" : Str), ("due" : Str)] := fun _ _ _ _ _ _ us hl => match us, hl with | [_, _], _ => rfl
def b__law_same (rec : List W → M W) : S :=
  (seqS (ifS (tst (isiF .tuple (getV 1))) (seqS (ifS (orB (notB (tst (isiF .tuple (getV 0)))) (toB (bin (onD neD) (callF (on1 lenW) (consA (getV 0) (fun _ => ret []))) (callF (on1 lenW) (consA (getV 1) (fun _ => ret [])))))) (retS (fun _ => ret (.d (.bool false)))) nxS) (retS (callF (on1 allW) (consA (lcF (range1 (consA (callF (on1 lenW) (consA (getV 1) (fun _ => ret []))) (fun _ => ret []))) [2] (aName 2) (fun _ => ret true) (callU 2 rec (consA (bin ixW (getV 0) (getV 2)) (consA (bin ixW (getV 1) (getV 2)) (fun _ => ret [])))) asData) (fun _ => ret []))))) nxS) (seqS (ifS (toB (bin pyIs (getV 1) (fun _ => ret (.d .none)))) (retS (bin pyIs (getV 0) (fun _ => ret (.d .none)))) nxS) (seqS (ifS (tst (isiF .bool (getV 1))) (retS (ifW (tst (getV 1)) (bin pyIs (getV 0) (fun _ => ret (.d (.bool true)))) (bin pyIs (getV 0) (fun _ => ret (.d (.bool false)))))) nxS) (seqS (ifS (tst (isiF .int (getV 1))) (retS (andW (isiF .int (getV 0)) (andW (notW (isiF .bool (getV 0))) (bin (onD eqD) (callF (on1 intW) (consA (getV 0) (fun _ => ret []))) (getV 1))))) nxS) (retS (andW (isiF .str (getV 0)) (bin (onD eqD) (callF (on1 strIW) (consA (getV 0) (fun _ => ret []))) (getV 1))))))))
theorem does__law_same {g : Gd} (c : GG g) {n : Nat} {fr : List W → M W} (dr : Def g ("_law_same" : Str) (n + 1) 2 fr) : Does g ("_law_same" : Str) (defBody (tp 27)) (defScope (tp 27)) N__law_same (n + 1) (b__law_same fr) := fun f cdv A outer s H E hr hcd =>
  have tk := takesD (g := g) (x := ("_law_same" : Str)) (scope := defScope (tp 27)) (N := N__law_same) (f := f) (cdv := cdv) (A := A) (outer := outer) (s := s) (H := H) (E := E)
  have hp := passD (g := g) (x := ("_law_same" : Str)) (scope := defScope (tp 27)) (N := N__law_same) (f := f) (cdv := cdv) (A := A) (outer := outer) (s := s) (H := H) (E := E)
  have nd := sc__law_same.nd
  (sss_cons (ss_if (sb_val (se_isi .tuple (se_var 1) (by rfl) (c.free 6) (by rfl) (c.free 16))) (sss_cons (ss_if (sw_or (sb_not (sb_val (se_isi .tuple (se_var 0) (by rfl) (c.free 6) (by rfl) (c.free 16)))) (sw_or1 (sb_cmp (om_ne hr.units) (se_callB cm_len (by rfl) (c.free 7) boot_len (sa_cons (se_var 0) sa_nil)) (se_callB cm_len (by rfl) (c.free 7) boot_len (sa_cons (se_var 1) sa_nil)) (by rfl)))).pt (sss_one (ss_ret se_bool)) sss_nil)
  (sss_one (ss_ret (se_callB (cm_all rfl) (by rfl) (c.free 1) boot_all (sa_cons (se_lc rfl nd (si_range1 (by rfl) (c.free 11) (sa_cons (se_callB cm_len (by rfl) (c.free 7) boot_len (sa_cons (se_var 1) sa_nil)) sa_nil)) (own := [(("at" : Str), 2)]) (blkOk_by (by show blkC N__law_same (defScope (tp 27)) _ _ = true; decide +kernel)) (fun _ _ _ _ _ => (sg_name nd rfl (by first | exact Or.inl rfl | exact Or.inr rfl))) (fun _ _ _ _ _ => sts_nil) (fun _ _ _ _ _ => (se_user dr hr (by rfl) L2.takes0 (sa_cons (se_ix (se_var 0) (se_var 2) (fun _ _ => rfl)) (sa_cons (se_ix (se_var 1) (se_var 2) (fun _ _ => rfl)) sa_nil)) (hk := by omega))) fin_data) sa_nil))))) sss_nil)
  (sss_cons (ss_if (sb_cmp om_is (se_var 1) se_none (by rfl)) (sss_one (ss_ret (se_cmp om_is (se_var 0) se_none (by rfl)))) sss_nil)
  (sss_cons (ss_if (sb_val (se_isi .bool (se_var 1) (by rfl) (c.free 6) (by rfl) (c.free 3))) (sss_one (ss_ret (se_if (sb_val (se_var 1)) (se_cmp om_is (se_var 0) se_bool (by rfl)) (se_cmp om_is (se_var 0) se_bool (by rfl))))) sss_nil)
  (sss_cons (ss_if (sb_val (se_isi .int (se_var 1) (by rfl) (c.free 6) (by rfl) (c.free 5))) (sss_one (ss_ret (se_and (se_isi .int (se_var 0) (by rfl) (c.free 6) (by rfl) (c.free 5)) (se_and (se_not (se_isi .bool (se_var 0) (by rfl) (c.free 6) (by rfl) (c.free 3))) (se_one (se_cmp (om_eq hr.units) (se_callTy cm_int (by rfl) (c.free 5) boot_int (sa_cons (se_var 0) sa_nil)) (se_var 1) (by rfl))))))) sss_nil)
  (sss_one (ss_ret (se_and (se_isi .str (se_var 0) (by rfl) (c.free 6) (by rfl) (c.free 14)) (se_one (se_cmp (om_eq hr.units) (se_callTy cm_strI (by rfl) (c.free 14) boot_str (sa_cons (se_var 0) sa_nil)) (se_var 1) (by rfl))))))))))
def fr__law_same : Nat → List W → M W
  | 0 => fun _ => bad
  | n + 1 => runB N__law_same.length (b__law_same (fr__law_same n))
theorem dr__law_same {g : Gd} (c : GG g) : ∀ n, Def g ("_law_same" : Str) (n + 1) 2 (fr__law_same n)
  | 0 => by rw [Nat.zero_add]; exact mkDef0 (k := 0) (c.fnAt 15 33) sc__law_same bd__law_same
  | n + 1 => by have h := mkDef (c.fnAt 15 33) sc__law_same bd__law_same (does__law_same c (dr__law_same c n)); rw [Nat.add_right_comm] at h; exact h
def f__law_same : List W → M W := fr__law_same 5
theorem d__law_same {g : Gd} (c : GG g) : Def g ("_law_same" : Str) 6 2 f__law_same := dr__law_same c 5
/-! ### _law_word -/
def N__law_word : List Str := [("cup" : Str), ("letters" : Str), ("text" : Str), ("turn" : Str)]
theorem sc__law_word : FnScope N__law_word [("cup" : Str)] (defScope (tp 28)) := ⟨rfl, rfl, rfl, by decide +kernel, rfl, by decide +kernel, by decide +kernel⟩
theorem bd__law_word : BindsAll ("_law_word" : Str) (defArgs (tp 28)) (defBody (tp 28)) (defScope (tp 28)) [("cup" : Str)] := fun _ _ _ _ _ _ us hl => match us, hl with | [_], _ => rfl
def b__law_word : S :=
  (seqS (asgS 1 (fun _ => ret (.d (.str ("abcdefghijklmnopqrstuvwxyz" : Str))))) (seqS (asgS 2 (callU 2 f__law_some (consA (getV 0) (consA (getV 1) (fun _ => ret []))))) (seqS (forS (range1 (consA (callU 2 f__law_some (consA (getV 0) (consA (mkLst (consA (fun _ => ret (.d (.int 0))) (consA (fun _ => ret (.d (.int 0))) (consA (fun _ => ret (.d (.int 1))) (consA (fun _ => ret (.d (.int 2))) (consA (callU 2 f__law_roll (consA (getV 0) (consA (fun _ => ret (.d (.int 12))) (fun _ => ret [])))) (consA (fun _ => ret (.d (.int 11))) (fun _ => ret [])))))))) (fun _ => ret [])))) (fun _ => ret []))) (aName 3) (asgS 2 (bin (onD addD) (getV 2) (callU 2 f__law_some (consA (getV 0) (consA (bin (onD addD) (getV 1) (fun _ => ret (.d (.str ("0123456789" : Str))))) (fun _ => ret []))))))) (retS (getV 2)))))
theorem does__law_word {g : Gd} (c : GG g) : Does g ("_law_word" : Str) (defBody (tp 28)) (defScope (tp 28)) N__law_word 2 (b__law_word) := fun f cdv A outer s H E hr hcd =>
  have tk := takesD (g := g) (x := ("_law_word" : Str)) (scope := defScope (tp 28)) (N := N__law_word) (f := f) (cdv := cdv) (A := A) (outer := outer) (s := s) (H := H) (E := E)
  have hp := passD (g := g) (x := ("_law_word" : Str)) (scope := defScope (tp 28)) (N := N__law_word) (f := f) (cdv := cdv) (A := A) (outer := outer) (s := s) (H := H) (E := E)
  have nd := sc__law_word.nd
  (sss_cons (ss_set nd rfl (by first | exact Or.inl rfl | exact Or.inr rfl) se_str)
  (sss_cons (ss_set nd rfl (by first | exact Or.inl rfl | exact Or.inr rfl) (se_user (d__law_some c) hr (by rfl) tk (sa_cons (se_var 0) (sa_cons (se_var 1) sa_nil))))
  (sss_cons (ss_for hp rfl (si_range1 (by rfl) (c.free 11) (sa_cons (se_user (d__law_some c) hr (by rfl) tk (sa_cons (se_var 0) (sa_cons (se_lst (sa_cons se_int (sa_cons se_int (sa_cons se_int (sa_cons se_int (sa_cons (se_user (d__law_roll c) hr (by rfl) tk (sa_cons (se_var 0) (sa_cons se_int sa_nil))) (sa_cons se_int sa_nil))))))) sa_nil))) sa_nil)) (sg_name nd rfl (by first | exact Or.inl rfl | exact Or.inr rfl)) (sss_one (ss_set nd rfl (by first | exact Or.inl rfl | exact Or.inr rfl) (se_op om_add (se_var 2) (se_user (d__law_some c) hr (by rfl) tk (sa_cons (se_var 0) (sa_cons (se_op om_add (se_var 1) se_str) sa_nil)))))))
  (sss_one (ss_ret (se_var 2))))))
def f__law_word : List W → M W := runB N__law_word.length (b__law_word)
theorem d__law_word {g : Gd} (c : GG g) : Def g ("_law_word" : Str) 3 1 (f__law_word) := mkDef (c.fnAt 16 34) sc__law_word bd__law_word (does__law_word c)
/-! ### _law_worth -/
def N__law_worth : List Str := [("cup" : Str)]
theorem sc__law_worth : FnScope N__law_worth [("cup" : Str)] (defScope (tp 29)) := ⟨rfl, rfl, rfl, by decide +kernel, rfl, by decide +kernel, by decide +kernel⟩
theorem bd__law_worth : BindsAll ("_law_worth" : Str) (defArgs (tp 29)) (defBody (tp 29)) (defScope (tp 29)) [("cup" : Str)] := fun _ _ _ _ _ _ us hl => match us, hl with | [_], _ => rfl
def b__law_worth : S :=
  (retS (callU 2 f__law_some (consA (getV 0) (consA (mkLst (consA (bin (onD subD) (callU 2 f__law_roll (consA (getV 0) (consA (fun _ => ret (.d (.int 199))) (fun _ => ret [])))) (fun _ => ret (.d (.int 99)))) (consA (bin (onD subD) (callU 2 f__law_roll (consA (getV 0) (consA (fun _ => ret (.d (.int 3))) (fun _ => ret [])))) (fun _ => ret (.d (.int 1)))) (consA (negW (fun _ => ret (.d (.int 99)))) (consA (fun _ => ret (.d (.int 99))) (fun _ => ret [])))))) (fun _ => ret [])))))
theorem does__law_worth {g : Gd} (c : GG g) : Does g ("_law_worth" : Str) (defBody (tp 29)) (defScope (tp 29)) N__law_worth 2 (b__law_worth) := fun f cdv A outer s H E hr hcd =>
  have tk := takesD (g := g) (x := ("_law_worth" : Str)) (scope := defScope (tp 29)) (N := N__law_worth) (f := f) (cdv := cdv) (A := A) (outer := outer) (s := s) (H := H) (E := E)
  have hp := passD (g := g) (x := ("_law_worth" : Str)) (scope := defScope (tp 29)) (N := N__law_worth) (f := f) (cdv := cdv) (A := A) (outer := outer) (s := s) (H := H) (E := E)
  have nd := sc__law_worth.nd
  (sss_one (ss_ret (se_user (d__law_some c) hr (by rfl) tk (sa_cons (se_var 0) (sa_cons (se_lst (sa_cons (se_op om_sub (se_user (d__law_roll c) hr (by rfl) tk (sa_cons (se_var 0) (sa_cons se_int sa_nil))) se_int) (sa_cons (se_op om_sub (se_user (d__law_roll c) hr (by rfl) tk (sa_cons (se_var 0) (sa_cons se_int sa_nil))) se_int) (sa_cons (se_neg se_int) (sa_cons se_int sa_nil))))) sa_nil)))))
def f__law_worth : List W → M W := runB N__law_worth.length (b__law_worth)
theorem d__law_worth {g : Gd} (c : GG g) : Def g ("_law_worth" : Str) 3 1 (f__law_worth) := mkDef (c.fnAt 17 35) sc__law_worth bd__law_worth (does__law_worth c)
/-! ### _law_kinds -/
def N__law_kinds : List Str := [("cup" : Str), ("found" : Str), ("word" : Str)]
theorem sc__law_kinds : FnScope N__law_kinds [("cup" : Str)] (defScope (tp 30)) := ⟨rfl, rfl, rfl, by decide +kernel, rfl, by decide +kernel, by decide +kernel⟩
theorem bd__law_kinds : BindsAll ("_law_kinds" : Str) (defArgs (tp 30)) (defBody (tp 30)) (defScope (tp 30)) [("cup" : Str)] := fun _ _ _ _ _ _ us hl => match us, hl with | [_], _ => rfl
def b__law_kinds : S :=
  (seqS (asgS 1 (lcF (itF itemsT (mkTup (consA (fun _ => ret (.d (.str ("read" : Str)))) (consA (fun _ => ret (.d (.str ("write" : Str)))) (consA (fun _ => ret (.d (.str ("send" : Str)))) (consA (fun _ => ret (.d (.str ("get" : Str)))) (fun _ => ret []))))))) [2] (aName 2) (fun _ => ret true) (mkTup (consA (getV 2) (consA (callU 1 f__law_word (consA (getV 0) (fun _ => ret []))) (consA (callU 1 f__law_worth (consA (getV 0) (fun _ => ret []))) (fun _ => ret []))))) asData)) (seqS (asgS 1 (bin (onD addD) (getV 1) (lcF (itF itemsT (mkTup (consA (fun _ => ret (.d (.str ("take" : Str)))) (consA (fun _ => ret (.d (.str ("give" : Str)))) (consA (fun _ => ret (.d (.str ("begin" : Str)))) (consA (fun _ => ret (.d (.str ("await" : Str)))) (consA (fun _ => ret (.d (.str ("woken" : Str)))) (consA (fun _ => ret (.d (.str ("wake" : Str)))) (fun _ => ret []))))))))) [2] (aName 2) (fun _ => ret true) (mkTup (consA (getV 2) (consA (callU 1 f__law_word (consA (getV 0) (fun _ => ret []))) (fun _ => ret [])))) asData))) (retS (bin (onD addD) (getV 1) (mkLst (consA (mkTup (consA (fun _ => ret (.d (.str ("wait" : Str)))) (consA (callU 1 f__law_word (consA (getV 0) (fun _ => ret []))) (consA (callU 1 f__law_word (consA (getV 0) (fun _ => ret []))) (fun _ => ret []))))) (consA (mkTup (consA (fun _ => ret (.d (.str ("end" : Str)))) (fun _ => ret []))) (fun _ => ret []))))))))
theorem does__law_kinds {g : Gd} (c : GG g) : Does g ("_law_kinds" : Str) (defBody (tp 30)) (defScope (tp 30)) N__law_kinds 3 (b__law_kinds) := fun f cdv A outer s H E hr hcd =>
  have tk := takesD (g := g) (x := ("_law_kinds" : Str)) (scope := defScope (tp 30)) (N := N__law_kinds) (f := f) (cdv := cdv) (A := A) (outer := outer) (s := s) (H := H) (E := E)
  have hp := passD (g := g) (x := ("_law_kinds" : Str)) (scope := defScope (tp 30)) (N := N__law_kinds) (f := f) (cdv := cdv) (A := A) (outer := outer) (s := s) (H := H) (E := E)
  have nd := sc__law_kinds.nd
  (sss_cons (ss_setLc rfl nd rfl rfl (by rfl) (si_tup (se_tup (sa_cons se_str (sa_cons se_str (sa_cons se_str (sa_cons se_str sa_nil)))))) (own := [(("word" : Str), 2)]) (blkOk_by (by show blkC N__law_kinds (defScope (tp 30)) _ _ = true; decide +kernel)) (fun _ _ _ _ _ => (sg_name nd rfl (by first | exact Or.inl rfl | exact Or.inr rfl))) (fun _ _ _ _ _ => sts_nil) (fun _ _ _ _ _ => (se_tup (sa_cons (se_var 2) (sa_cons (se_user (d__law_word c) hr (by rfl) L2.takes0 (sa_cons (se_var 0) sa_nil)) (sa_cons (se_user (d__law_worth c) hr (by rfl) L2.takes0 (sa_cons (se_var 0) sa_nil)) sa_nil))))) fin_data)
  (sss_cons (ss_set nd rfl (by first | exact Or.inl rfl | exact Or.inr rfl) (se_op om_add (se_var 1) (se_lc rfl nd (si_tup (se_tup (sa_cons se_str (sa_cons se_str (sa_cons se_str (sa_cons se_str (sa_cons se_str (sa_cons se_str sa_nil)))))))) (own := [(("word" : Str), 2)]) (blkOk_by (by show blkC N__law_kinds (defScope (tp 30)) _ _ = true; decide +kernel)) (fun _ _ _ _ _ => (sg_name nd rfl (by first | exact Or.inl rfl | exact Or.inr rfl))) (fun _ _ _ _ _ => sts_nil) (fun _ _ _ _ _ => (se_tup (sa_cons (se_var 2) (sa_cons (se_user (d__law_word c) hr (by rfl) L2.takes0 (sa_cons (se_var 0) sa_nil)) sa_nil)))) fin_data)))
  (sss_one (ss_ret (se_op om_add (se_var 1) (se_lst (sa_cons (se_tup (sa_cons se_str (sa_cons (se_user (d__law_word c) hr (by rfl) tk (sa_cons (se_var 0) sa_nil)) (sa_cons (se_user (d__law_word c) hr (by rfl) tk (sa_cons (se_var 0) sa_nil)) sa_nil)))) (sa_cons (se_tup (sa_cons se_str sa_nil)) sa_nil))))))))
def f__law_kinds : List W → M W := runB N__law_kinds.length (b__law_kinds)
theorem d__law_kinds {g : Gd} (c : GG g) : Def g ("_law_kinds" : Str) 4 1 (f__law_kinds) := mkDef (c.fnAt 18 36) sc__law_kinds bd__law_kinds (does__law_kinds c)
/-! ### _law_row -/
def N__law_row : List Str := [("cup" : Str), ("threads" : Str), ("many" : Str), ("row" : Str), ("turn" : Str), ("deed" : Str)]
theorem sc__law_row : FnScope N__law_row [("cup" : Str), ("threads" : Str), ("many" : Str)] (defScope (tp 31)) := ⟨rfl, rfl, rfl, by decide +kernel, rfl, by decide +kernel, by decide +kernel⟩
theorem bd__law_row : BindsAll ("_law_row" : Str) (defArgs (tp 31)) (defBody (tp 31)) (defScope (tp 31)) [("cup" : Str), ("threads" : Str), ("many" : Str)] := fun _ _ _ _ _ _ us hl => match us, hl with | [_, _, _], _ => rfl
def b__law_row : S :=
  (seqS (asgS 3 (mkTup (fun _ => ret []))) (seqS (forS (range1 (consA (getV 2) (fun _ => ret []))) (aName 4) (seqS (asgS 5 (callU 2 f__law_some (consA (getV 0) (consA (callU 1 f__law_kinds (consA (getV 0) (fun _ => ret []))) (fun _ => ret []))))) (asgS 3 (bin (onD addD) (getV 3) (mkTup (consA (mkTup (consA (callU 2 f__law_some (consA (getV 0) (consA (getV 1) (fun _ => ret [])))) (consA (ifW (toB (bin (onD eqD) (bin ixW (getV 5) (fun _ => ret (.d (.int 0)))) (fun _ => ret (.d (.str ("begin" : Str)))))) (mkTup (consA (fun _ => ret (.d (.str ("begin" : Str)))) (consA (callU 2 f__law_some (consA (getV 0) (consA (getV 1) (fun _ => ret [])))) (fun _ => ret [])))) (getV 5)) (fun _ => ret [])))) (fun _ => ret []))))))) (retS (getV 3))))
theorem does__law_row {g : Gd} (c : GG g) : Does g ("_law_row" : Str) (defBody (tp 31)) (defScope (tp 31)) N__law_row 4 (b__law_row) := fun f cdv A outer s H E hr hcd =>
  have tk := takesD (g := g) (x := ("_law_row" : Str)) (scope := defScope (tp 31)) (N := N__law_row) (f := f) (cdv := cdv) (A := A) (outer := outer) (s := s) (H := H) (E := E)
  have hp := passD (g := g) (x := ("_law_row" : Str)) (scope := defScope (tp 31)) (N := N__law_row) (f := f) (cdv := cdv) (A := A) (outer := outer) (s := s) (H := H) (E := E)
  have nd := sc__law_row.nd
  (sss_cons (ss_set nd rfl (by first | exact Or.inl rfl | exact Or.inr rfl) (se_tup sa_nil))
  (sss_cons (ss_for hp rfl (si_range1 (by rfl) (c.free 11) (sa_cons (se_var 2) sa_nil)) (sg_name nd rfl (by first | exact Or.inl rfl | exact Or.inr rfl)) (sss_cons (ss_set nd rfl (by first | exact Or.inl rfl | exact Or.inr rfl) (se_user (d__law_some c) hr (by rfl) tk (sa_cons (se_var 0) (sa_cons (se_user (d__law_kinds c) hr (by rfl) tk (sa_cons (se_var 0) sa_nil)) sa_nil))))
  (sss_one (ss_set nd rfl (by first | exact Or.inl rfl | exact Or.inr rfl) (se_op om_add (se_var 3) (se_tup (sa_cons (se_tup (sa_cons (se_user (d__law_some c) hr (by rfl) tk (sa_cons (se_var 0) (sa_cons (se_var 1) sa_nil))) (sa_cons (se_if (sb_cmp (om_eq hr.units) (se_ix (se_var 5) se_int (fun _ _ => rfl)) se_str (by rfl)) (se_tup (sa_cons se_str (sa_cons (se_user (d__law_some c) hr (by rfl) tk (sa_cons (se_var 0) (sa_cons (se_var 1) sa_nil))) sa_nil))) (se_var 5)) sa_nil))) sa_nil)))))))
  (sss_one (ss_ret (se_var 3)))))
def f__law_row : List W → M W := runB N__law_row.length (b__law_row)
theorem d__law_row {g : Gd} (c : GG g) : Def g ("_law_row" : Str) 5 3 (f__law_row) := mkDef (c.fnAt 19 37) sc__law_row bd__law_row (does__law_row c)
/-! ### _law_name -/
def N__law_name : List Str := [("call" : Str)]
theorem sc__law_name : FnScope N__law_name [("call" : Str)] (defScope (tp 32)) := ⟨rfl, rfl, rfl, by decide +kernel, rfl, by decide +kernel, by decide +kernel⟩
theorem bd__law_name : BindsAll ("_law_name" : Str) (defArgs (tp 32)) (defBody (tp 32)) (defScope (tp 32)) [("call" : Str)] := fun _ _ _ _ _ _ us hl => match us, hl with | [_], _ => rfl
noncomputable def b__law_name (cl : Cl) (t : M W) : S :=
  (seqS (tryS ksub (dropS (actF 0 cl t)) ((("InvalidRow" : Str), (retS (fun _ => ret (.d (.str ("row" : Str)))))) :: ((("InvalidWord" : Str), (retS (fun _ => ret (.d (.str ("word" : Str)))))) :: []))) (retS (fun _ => ret (.d (.str ("" : Str))))))
theorem does__law_name {g : Gd} (c : GG g) : DoesL g ("_law_name" : Str) ("call" : Str) (defBody (tp 32)) (defScope (tp 32)) N__law_name b__law_name := fun f cdv A outer s H cl t act =>
  have nd := sc__law_name.nd
  (sss_cons (ss_try (sub_ok c) rfl rfl L2.takes0 (fun _ _ _ tkT1 hpT1 => (sss_one (ss_expr (act _ _ _ _ _ tkT1)))) (.cons (gloE_InvalidRow c) (by rfl) (by decide) (fun _ _ => (sss_one (ss_ret se_str))) (.cons (gloE_InvalidWord c) (by rfl) (by decide) (fun _ _ => (sss_one (ss_ret se_str))) .nil)))
  (sss_one (ss_ret se_str)))
def g__law_name (t : M W) : M W := fun st => match t st with
  | .ok _ st' => .ok (.d (.str "")) st'
  | .ex x st' => (match ksub x.cls "InvalidRow" with
    | some true => .ok (.d (.str "row")) st'
    | some false => (match ksub x.cls "InvalidWord" with
      | some true => .ok (.d (.str "word")) st'
      | _ => .bad)
    | none => .bad)
  | .bad => .bad
theorem gx__law_name (cl : Cl) (t : M W) : runFn N__law_name.length (b__law_name cl t) cl = g__law_name t := by
  funext st
  simp only [runFn, b__law_name, seqS, tryS, dropS, ofM, g__law_name, actF_at (i := 0) (c := cl) (t := t) (ρ := some (.fn cl) :: List.replicate (N__law_name.length - 1) none) rfl]
  cases t st with
  | ok a st' => rfl
  | bad => rfl
  | ex x st' =>
    simp only [handleS]
    cases ksub x.cls "InvalidRow" with
    | none => rfl
    | some k =>
      cases k with
      | true => rfl
      | false =>
        simp only []
        cases ksub x.cls "InvalidWord" with
        | none => rfl
        | some k => cases k <;> rfl
theorem d__law_name {g : Gd} (c : GG g) : LamDef g ("_law_name" : Str) ("call" : Str) g__law_name := mkLam (c.fnAt 20 38) sc__law_name rfl (by first | exact Or.inl rfl | exact Or.inr (Or.inl rfl)) bd__law_name gx__law_name (does__law_name c)
/-! ### _law_right -/
def N__law_right : List Str := [("row" : Str), ("more" : Str), ("found" : Str), ("names" : Str), ("thread" : Str), ("deed" : Str), ("due" : Str), ("one" : Str), ("odd" : Str)]
theorem sc__law_right : FnScope N__law_right [("row" : Str), ("more" : Str)] (defScope (tp 33)) := ⟨rfl, rfl, rfl, by decide +kernel, rfl, by decide +kernel, by decide +kernel⟩
theorem bd__law_right : BindsAll ("_law_right" : Str) (defArgs (tp 33)) (defBody (tp 33)) (defScope (tp 33)) [("row" : Str), ("more" : Str)] := fun _ _ _ _ _ _ us hl => match us, hl with | [_, _], _ => rfl
def b__law_right (K : PySem.W.Frag) : S :=
  (seqS (asgS 2 (mkLst (consA (fun _ => ret (.d (.str ("root" : Str)))) (fun _ => ret [])))) (seqS (forS (itF itemsT (getV 0)) (aTup 2 (aCons (aName 4) (aCons (aName 5) aNil))) (asgS 2 (bin (onD addD) (bin (onD addD) (getV 2) (mkLst (consA (getV 4) (fun _ => ret [])))) (ifW (toB (bin (onD eqD) (bin ixW (getV 5) (fun _ => ret (.d (.int 0)))) (fun _ => ret (.d (.str ("begin" : Str)))))) (mkLst (consA (bin ixW (getV 5) (fun _ => ret (.d (.int 1)))) (fun _ => ret []))) (mkLst (fun _ => ret [])))))) (seqS (asgS 3 (callF (on1 tupleW) (consA (op1 sortSetW (getV 2)) (fun _ => ret [])))) (seqS (ifS (orB (toB (bin (onD gtD) (callF (on1 lenW) (consA (getV 0) (fun _ => ret []))) (fun _ => ret (.d (.int 60))))) (toB (bin (onD gtD) (callF (on1 lenW) (consA (getV 3) (fun _ => ret []))) (fun _ => ret (.d (.int 8)))))) (retS (andW (bin pyIs (callU 1 f_is_row (consA (getV 0) (fun _ => ret []))) (fun _ => ret (.d (.bool false)))) (bin (onD eqD) (mkLst (consA (lamF (He.cT K (("_law_right" : Str), none)).2 ("_law_right.<locals>.<lambda>" : Str) g__law_name (callU 1 f_threads_of (consA (getV 0) (fun _ => ret [])))) (consA (lamF (He.cT K (("_law_right" : Str), none)).2 ("_law_right.<locals>.<lambda>" : Str) g__law_name (callU 2 f_own_history (consA (getV 0) (consA (fun _ => ret (.d (.int 5))) (fun _ => ret []))))) (fun _ => ret [])))) (bin (onD mulD) (mkLst (consA (fun _ => ret (.d (.str ("row" : Str)))) (fun _ => ret []))) (fun _ => ret (.d (.int 2))))))) nxS) (seqS (ifS (orB (toB (bin pyIsNot (callU 1 f_is_row (consA (getV 0) (fun _ => ret []))) (fun _ => ret (.d (.bool true))))) (notB (tst (callU 2 f__law_same (consA (callU 1 f_threads_of (consA (getV 0) (fun _ => ret []))) (consA (getV 3) (fun _ => ret []))))))) (retS (fun _ => ret (.d (.bool false)))) nxS) (seqS (forS (itF itemsW (op1 sortSetW (bin (onD addD) (getV 3) (mkTup (consA (getV 1) (consA (fun _ => ret (.d (.str ("nobody" : Str)))) (fun _ => ret []))))))) (aName 4) (seqS (asgS 6 (mkTup (fun _ => ret []))) (seqS (forS (itF itemsT (getV 0)) (aTup 2 (aCons (aName 7) (aCons (aName 5) aNil))) (asgS 6 (bin (onD addD) (getV 6) (ifW (toB (bin (onD eqD) (getV 7) (getV 4))) (mkTup (consA (getV 5) (fun _ => ret []))) (mkTup (fun _ => ret [])))))) (ifS (notB (tst (callU 2 f__law_same (consA (callU 2 f_own_history (consA (getV 0) (consA (getV 4) (fun _ => ret [])))) (consA (getV 6) (fun _ => ret [])))))) (retS (fun _ => ret (.d (.bool false)))) nxS)))) (retS (bin (onD eqD) (lcF (itF itemsT (mkTup (consA (fun _ => ret (.d (.str ("" : Str)))) (consA (fun _ => ret (.d (.str ("A" : Str)))) (consA (fun _ => ret (.d .none)) (consA (bin (onD mulD) (fun _ => ret (.d (.str ("a" : Str)))) (fun _ => ret (.d (.int 13)))) (consA (fun _ => ret (.d (.int 5))) (consA (mkTup (consA (fun _ => ret (.d (.str ("a" : Str)))) (fun _ => ret []))) (fun _ => ret []))))))))) [8] (aName 8) (fun _ => ret true) (lamF (He.cT K (("_law_right" : Str), none)).2 ("_law_right.<locals>.<lambda>" : Str) g__law_name (callU 2 f_own_history (consA (getV 0) (consA (getV 8) (fun _ => ret []))))) asData) (bin (onD mulD) (mkLst (consA (fun _ => ret (.d (.str ("word" : Str)))) (fun _ => ret []))) (fun _ => ret (.d (.int 6))))))))))))
theorem does__law_right {g : Gd} (c : GG g) : Does g ("_law_right" : Str) (defBody (tp 33)) (defScope (tp 33)) N__law_right 8 (b__law_right g.K) := fun f cdv A outer s H E hr hcd =>
  have tk := takesD (g := g) (x := ("_law_right" : Str)) (scope := defScope (tp 33)) (N := N__law_right) (f := f) (cdv := cdv) (A := A) (outer := outer) (s := s) (H := H) (E := E)
  have hp := passD (g := g) (x := ("_law_right" : Str)) (scope := defScope (tp 33)) (N := N__law_right) (f := f) (cdv := cdv) (A := A) (outer := outer) (s := s) (H := H) (E := E)
  have nd := sc__law_right.nd
  (sss_cons (ss_set nd rfl (by first | exact Or.inl rfl | exact Or.inr rfl) (se_lst (sa_cons se_str sa_nil)))
  (sss_cons (ss_for hp rfl (si_tup (se_var 0)) (sg_tup rfl (sgs_cons (sg_name nd rfl (by first | exact Or.inl rfl | exact Or.inr rfl)) (sgs_cons (sg_name nd rfl (by first | exact Or.inl rfl | exact Or.inr rfl)) sgs_nil))) (sss_one (ss_set nd rfl (by first | exact Or.inl rfl | exact Or.inr rfl) (se_op om_add (se_op om_add (se_var 2) (se_lst (sa_cons (se_var 4) sa_nil))) (se_if (sb_cmp (om_eq hr.units) (se_ix (se_var 5) se_int (fun _ _ => rfl)) se_str (by rfl)) (se_lst (sa_cons (se_ix (se_var 5) se_int (fun _ _ => rfl)) sa_nil)) (se_lst sa_nil))))))
  (sss_cons (ss_set nd rfl (by first | exact Or.inl rfl | exact Or.inr rfl) (se_callTy cm_tuple (by rfl) (c.free 16) boot_tuple (sa_cons (se_sortSet rfl (units65 hr) (se_var 2) (by rfl) (c.free 13) (by rfl) (c.free 12)) sa_nil)))
  (sss_cons (ss_if (sw_or (sb_cmp om_gt (se_callB cm_len (by rfl) (c.free 7) boot_len (sa_cons (se_var 0) sa_nil)) se_int (by rfl)) (sw_or1 (sb_cmp om_gt (se_callB cm_len (by rfl) (c.free 7) boot_len (sa_cons (se_var 3) sa_nil)) se_int (by rfl)))).pt (sss_one (ss_ret (se_and (se_cmp om_is (se_user (d_is_row c) hr (by rfl) tk (sa_cons (se_var 0) sa_nil)) se_bool (by rfl)) (se_one (se_cmp (om_eq hr.units) (se_lst (sa_cons (se_lamcall (k := 6) (d__law_name c) (by rfl) (c.tab (("_law_right" : Str), none) (List.mem_of_getElem? (i := 0) rfl)) hcd hr (lamS_by rfl) rfl (fun _ _ _ _ _ => rfl) (fun _ _ _ _ _ _ _ hr2 tk2 => (se_user (d_threads_of c) hr2 (by rfl) tk2 (sa_cons (se_var 0) sa_nil)))) (sa_cons (se_lamcall (k := 6) (d__law_name c) (by rfl) (c.tab (("_law_right" : Str), none) (List.mem_of_getElem? (i := 0) rfl)) hcd hr (lamS_by rfl) rfl (fun _ _ _ _ _ => rfl) (fun _ _ _ _ _ _ _ hr1 tk1 => (se_user (d_own_history c) hr1 (by rfl) tk1 (sa_cons (se_var 0) (sa_cons se_int sa_nil))))) sa_nil))) (se_op om_mul (se_lst (sa_cons se_str sa_nil)) se_int) (by rfl)))))) sss_nil)
  (sss_cons (ss_if (sw_or (sb_cmp om_isnot (se_user (d_is_row c) hr (by rfl) tk (sa_cons (se_var 0) sa_nil)) se_bool (by rfl)) (sw_or1 (sb_not (sb_val (se_user (d__law_same c) hr (by rfl) tk (sa_cons (se_user (d_threads_of c) hr (by rfl) tk (sa_cons (se_var 0) sa_nil)) (sa_cons (se_var 3) sa_nil))))))).pt (sss_one (ss_ret se_bool)) sss_nil)
  (sss_cons (ss_for hp rfl (si_list (se_sortSet rfl (units65 hr) (se_op om_add (se_var 3) (se_tup (sa_cons (se_var 1) (sa_cons se_str sa_nil)))) (by rfl) (c.free 13) (by rfl) (c.free 12))) (sg_name nd rfl (by first | exact Or.inl rfl | exact Or.inr rfl)) (sss_cons (ss_set nd rfl (by first | exact Or.inl rfl | exact Or.inr rfl) (se_tup sa_nil))
  (sss_cons (ss_for hp rfl (si_tup (se_var 0)) (sg_tup rfl (sgs_cons (sg_name nd rfl (by first | exact Or.inl rfl | exact Or.inr rfl)) (sgs_cons (sg_name nd rfl (by first | exact Or.inl rfl | exact Or.inr rfl)) sgs_nil))) (sss_one (ss_set nd rfl (by first | exact Or.inl rfl | exact Or.inr rfl) (se_op om_add (se_var 6) (se_if (sb_cmp (om_eq hr.units) (se_var 7) (se_var 4) (by rfl)) (se_tup (sa_cons (se_var 5) sa_nil)) (se_tup sa_nil))))))
  (sss_one (ss_if (sb_not (sb_val (se_user (d__law_same c) hr (by rfl) tk (sa_cons (se_user (d_own_history c) hr (by rfl) tk (sa_cons (se_var 0) (sa_cons (se_var 4) sa_nil))) (sa_cons (se_var 6) sa_nil))))) (sss_one (ss_ret se_bool)) sss_nil)))))
  (sss_one (ss_ret (se_cmp (om_eq hr.units) (se_lc rfl nd (si_tup (se_tup (sa_cons se_str (sa_cons se_str (sa_cons se_none (sa_cons (se_op om_mul se_str se_int) (sa_cons se_int (sa_cons (se_tup (sa_cons se_str sa_nil)) sa_nil)))))))) (own := [(("odd" : Str), 8)]) (blkOk_by (by show blkC N__law_right (defScope (tp 33)) _ _ = true; decide +kernel)) (fun _ _ _ _ _ => (sg_name nd rfl (by first | exact Or.inl rfl | exact Or.inr rfl))) (fun _ _ _ _ _ => sts_nil) (fun _ _ _ _ _ => (se_lamcall (k := 6) (d__law_name c) (by rfl) (c.tab (("_law_right" : Str), none) (List.mem_of_getElem? (i := 0) rfl)) hcd hr (lamS_by rfl) rfl (fun _ _ _ _ _ => rfl) (fun _ _ _ _ _ _ _ hr3 tk3 => (se_user (d_own_history c) hr3 (by rfl) tk3 (sa_cons (se_var 0) (sa_cons (se_var 8) sa_nil)))))) fin_data) (se_op om_mul (se_lst (sa_cons se_str sa_nil)) se_int) (by rfl))))))))))
def f__law_right (K : PySem.W.Frag) : List W → M W := runB N__law_right.length (b__law_right K)
theorem d__law_right {g : Gd} (c : GG g) : Def g ("_law_right" : Str) 9 2 (f__law_right g.K) := mkDef (c.fnAt 21 39) sc__law_right bd__law_right (does__law_right c)
/-! ### law -/
def N_law : List Str := [("script" : Str), ("cup" : Str), ("turn" : Str), ("row" : Str), ("many" : Str), ("names" : Str), ("threads" : Str), ("at" : Str), ("odds" : Str), ("odd" : Str), ("doers" : Str), ("begun" : Str), ("mixed" : Str), ("one" : Str), ("name" : Str)]
theorem sc_law : FnScope N_law [("script" : Str)] (defScope (tp 34)) := ⟨rfl, rfl, rfl, by decide +kernel, rfl, by decide +kernel, by decide +kernel⟩
theorem bd_law : BindsAll ("law" : Str) (defArgs (tp 34)) (defBody (tp 34)) (defScope (tp 34)) [("script" : Str)] := fun _ _ _ _ _ _ us hl => match us, hl with | [_], _ => rfl
def b_law (K : PySem.W.Frag) : S :=
  (seqS (asgS 1 (scrF 0 f__law_cup)) (seqS (forS (range1 (consA (fun _ => ret (.d (.int 2))) (fun _ => ret []))) (aName 2) (seqS (asgS 6 (bin (onD addD) (mkLst (consA (fun _ => ret (.d (.str ("root" : Str)))) (fun _ => ret []))) (op1 sortSetW (lcF (range1 (consA (bin (onD addD) (fun _ => ret (.d (.int 1))) (callU 2 f__law_roll (consA (getV 1) (consA (fun _ => ret (.d (.int 6))) (fun _ => ret []))))) (fun _ => ret []))) [14] (aName 14) (fun _ => ret true) (callU 1 f__law_word (consA (getV 1) (fun _ => ret []))) asData)))) (seqS (asgS 3 (callU 3 f__law_row (consA (getV 1) (consA (getV 6) (consA (callU 2 f__law_some (consA (getV 1) (consA (mkLst (consA (fun _ => ret (.d (.int 0))) (consA (fun _ => ret (.d (.int 3))) (consA (fun _ => ret (.d (.int 7))) (consA (fun _ => ret (.d (.int 12))) (fun _ => ret [])))))) (fun _ => ret [])))) (fun _ => ret [])))))) (seqS (ifS (notB (tst (callU 2 (f__law_right K) (consA (getV 3) (consA (callU 1 f__law_word (consA (getV 1) (fun _ => ret []))) (fun _ => ret [])))))) (retS (fun _ => ret (.d (.bool false)))) nxS) (seqS (asgS 7 (callU 2 f__law_roll (consA (getV 1) (consA (bin (onD addD) (callF (on1 lenW) (consA (getV 3) (fun _ => ret []))) (fun _ => ret (.d (.int 1)))) (fun _ => ret []))))) (seqS (asgS 8 (mkLst (consA (mkTup (consA (fun _ => ret (.d (.str ("a" : Str)))) (fun _ => ret []))) (consA (mkTup (consA (fun _ => ret (.d (.str ("a" : Str)))) (consA (mkTup (consA (fun _ => ret (.d (.str ("end" : Str)))) (fun _ => ret []))) (consA (fun _ => ret (.d (.int 0))) (fun _ => ret []))))) (consA (mkLst (consA (fun _ => ret (.d (.str ("a" : Str)))) (consA (mkTup (consA (fun _ => ret (.d (.str ("end" : Str)))) (fun _ => ret []))) (fun _ => ret [])))) (consA (mkTup (consA (fun _ => ret (.d (.str ("A" : Str)))) (consA (mkTup (consA (fun _ => ret (.d (.str ("end" : Str)))) (fun _ => ret []))) (fun _ => ret [])))) (consA (mkTup (consA (fun _ => ret (.d (.str ("a" : Str)))) (consA (mkTup (consA (fun _ => ret (.d (.str ("read" : Str)))) (consA (fun _ => ret (.d (.str ("x" : Str)))) (fun _ => ret [])))) (fun _ => ret [])))) (consA (mkTup (consA (fun _ => ret (.d (.str ("a" : Str)))) (consA (fun _ => ret (.d .none)) (fun _ => ret [])))) (consA (mkTup (consA (fun _ => ret (.d .none)) (consA (mkTup (consA (fun _ => ret (.d (.str ("end" : Str)))) (fun _ => ret []))) (fun _ => ret [])))) (consA (mkTup (consA (fun _ => ret (.d (.str ("a" : Str)))) (consA (mkLst (consA (fun _ => ret (.d (.str ("end" : Str)))) (fun _ => ret []))) (fun _ => ret [])))) (consA (fun _ => ret (.d (.str ("ab" : Str)))) (consA (fun _ => ret (.d .none)) (consA (mkTup (consA (mkTup (consA (fun _ => ret (.d (.str ("end" : Str)))) (fun _ => ret []))) (consA (fun _ => ret (.d (.str ("a" : Str)))) (fun _ => ret [])))) (consA (mkTup (consA (fun _ => ret (.d (.str ("a" : Str)))) (consA (mkTup (consA (fun _ => ret (.d (.str ("write" : Str)))) (consA (fun _ => ret (.d (.str ("x" : Str)))) (consA (fun _ => ret (.d (.int 500))) (fun _ => ret []))))) (fun _ => ret [])))) (consA (mkTup (consA (fun _ => ret (.d (.str ("a" : Str)))) (consA (mkTup (consA (fun _ => ret (.d (.str ("take" : Str)))) (consA (fun _ => ret (.d (.str ("A" : Str)))) (fun _ => ret [])))) (fun _ => ret [])))) (consA (mkTup (consA (fun _ => ret (.d (.str ("a" : Str)))) (consA (mkTup (consA (fun _ => ret (.d (.str ("send" : Str)))) (consA (fun _ => ret (.d (.str ("b" : Str)))) (consA (fun _ => ret (.d (.bool true))) (fun _ => ret []))))) (fun _ => ret [])))) (fun _ => ret []))))))))))))))))) (forS (itF itemsW (bin (onD addD) (lcF (itF itemsW (getV 8)) [13] (aName 13) (fun _ => ret true) (bin (onD addD) (bin (onD addD) (sliceF (getV 3) (fun _ => ret none) (partF (getV 7))) (mkTup (consA (getV 13) (fun _ => ret [])))) (sliceF (getV 3) (partF (getV 7)) (fun _ => ret none))) asData) (mkLst (consA (callF (on1 listW) (consA (getV 3) (fun _ => ret []))) (consA (fun _ => ret (.d .none)) (consA (fun _ => ret (.d (.int 5))) (consA (fun _ => ret (.d (.str ("" : Str)))) (consA (fun _ => ret (.d (.bool true))) (fun _ => ret []))))))))) (aName 9) (ifS (orB (toB (bin pyIsNot (callU 1 f_is_row (consA (getV 9) (fun _ => ret []))) (fun _ => ret (.d (.bool false))))) (toB (bin (onD neD) (mkLst (consA (lamF (He.cT K (("law" : Str), none)).2 ("law.<locals>.<lambda>" : Str) g__law_name (callU 1 f_threads_of (consA (getV 9) (fun _ => ret [])))) (consA (lamF (He.cT K (("law" : Str), none)).2 ("law.<locals>.<lambda>" : Str) g__law_name (callU 2 f_own_history (consA (getV 9) (consA (fun _ => ret (.d .none)) (fun _ => ret []))))) (fun _ => ret [])))) (bin (onD mulD) (mkLst (consA (fun _ => ret (.d (.str ("row" : Str)))) (fun _ => ret []))) (fun _ => ret (.d (.int 2))))))) (retS (fun _ => ret (.d (.bool false)))) nxS)))))))) (seqS (asgS 3 (callU 3 f__law_row (consA (getV 1) (consA (mkLst (consA (fun _ => ret (.d (.str ("root" : Str)))) (consA (fun _ => ret (.d (.str ("a" : Str)))) (consA (fun _ => ret (.d (.str ("b" : Str)))) (fun _ => ret []))))) (consA (fun _ => ret (.d (.int 4))) (fun _ => ret [])))))) (seqS (forS (itF itemsT (mkTup (consA (fun _ => ret (.d (.int 59))) (consA (fun _ => ret (.d (.int 60))) (consA (fun _ => ret (.d (.int 61))) (fun _ => ret [])))))) (aName 4) (ifS (notB (tst (callU 2 (f__law_right K) (consA (sliceF (bin (onD addD) (getV 3) (bin (onD mulD) (mkTup (consA (mkTup (consA (fun _ => ret (.d (.str ("b" : Str)))) (consA (mkTup (consA (fun _ => ret (.d (.str ("wake" : Str)))) (consA (fun _ => ret (.d (.str ("c" : Str)))) (fun _ => ret [])))) (fun _ => ret [])))) (fun _ => ret []))) (fun _ => ret (.d (.int 60))))) (fun _ => ret none) (partF (getV 4))) (consA (fun _ => ret (.d (.str ("c" : Str)))) (fun _ => ret [])))))) (retS (fun _ => ret (.d (.bool false)))) nxS)) (seqS (asgS 5 (lcF (range1 (consA (fun _ => ret (.d (.int 9))) (fun _ => ret []))) [7] (aName 7) (fun _ => ret true) (bin (onD addD) (fun _ => ret (.d (.str ("t" : Str)))) (callF (on1 strIW) (consA (getV 7) (fun _ => ret [])))) asData)) (seqS (forS (itF itemsT (mkTup (consA (fun _ => ret (.d (.int 6))) (consA (fun _ => ret (.d (.int 7))) (consA (fun _ => ret (.d (.int 8))) (fun _ => ret [])))))) (aName 4) (seqS (asgS 10 (callF (on1 tupleW) (consA (lcF (itF itemsW (sliceF (getV 5) (fun _ => ret none) (partF (getV 4)))) [14] (aName 14) (fun _ => ret true) (mkTup (consA (getV 14) (consA (mkTup (consA (fun _ => ret (.d (.str ("end" : Str)))) (fun _ => ret []))) (fun _ => ret [])))) asData) (fun _ => ret [])))) (seqS (asgS 11 (callF (on1 tupleW) (consA (lcF (itF itemsW (sliceF (getV 5) (fun _ => ret none) (partF (getV 4)))) [14] (aName 14) (fun _ => ret true) (mkTup (consA (fun _ => ret (.d (.str ("root" : Str)))) (consA (mkTup (consA (fun _ => ret (.d (.str ("begin" : Str)))) (consA (getV 14) (fun _ => ret [])))) (fun _ => ret [])))) asData) (fun _ => ret [])))) (seqS (asgS 12 (bin (onD addD) (bin (onD addD) (sliceF (getV 10) (fun _ => ret none) (partF (fun _ => ret (.d (.int 3))))) (sliceF (getV 11) (partF (fun _ => ret (.d (.int 2)))) (fun _ => ret none))) (mkTup (consA (mkTup (consA (fun _ => ret (.d (.str ("root" : Str)))) (consA (mkTup (consA (fun _ => ret (.d (.str ("await" : Str)))) (consA (fun _ => ret (.d (.str ("other" : Str)))) (fun _ => ret [])))) (fun _ => ret [])))) (consA (mkTup (consA (fun _ => ret (.d (.str ("t0" : Str)))) (consA (mkTup (consA (fun _ => ret (.d (.str ("begin" : Str)))) (consA (fun _ => ret (.d (.str ("root" : Str)))) (fun _ => ret [])))) (fun _ => ret [])))) (fun _ => ret [])))))) (forS (itF itemsT (mkTup (consA (getV 10) (consA (getV 11) (consA (getV 12) (fun _ => ret [])))))) (aName 13) (ifS (notB (tst (callU 2 (f__law_right K) (consA (getV 13) (consA (fun _ => ret (.d (.str ("other" : Str)))) (fun _ => ret [])))))) (retS (fun _ => ret (.d (.bool false)))) nxS)))))) (retS (fun _ => ret (.d (.bool true))))))))))
theorem does_law {g : Gd} (c : GG g) : Does g ("law" : Str) (defBody (tp 34)) (defScope (tp 34)) N_law 11 (b_law g.K) := fun f cdv A outer s H E hr hcd =>
  have tk := takesD (g := g) (x := ("law" : Str)) (scope := defScope (tp 34)) (N := N_law) (f := f) (cdv := cdv) (A := A) (outer := outer) (s := s) (H := H) (E := E)
  have hp := passD (g := g) (x := ("law" : Str)) (scope := defScope (tp 34)) (N := N_law) (f := f) (cdv := cdv) (A := A) (outer := outer) (s := s) (H := H) (E := E)
  have nd := sc_law.nd
  (sss_cons (ss_set nd rfl (by first | exact Or.inl rfl | exact Or.inr rfl) (se_userScr 0 (d__law_cup c) hr (by rfl) tk))
  (sss_cons (ss_for hp rfl (si_range1 (by rfl) (c.free 11) (sa_cons se_int sa_nil)) (sg_name nd rfl (by first | exact Or.inl rfl | exact Or.inr rfl)) (sss_cons (ss_set nd rfl (by first | exact Or.inl rfl | exact Or.inr rfl) (se_op om_add (se_lst (sa_cons se_str sa_nil)) (se_sortSet rfl (units65 hr) (se_lc rfl nd (si_range1 (by rfl) (c.free 11) (sa_cons (se_op om_add se_int (se_user (d__law_roll c) hr (by rfl) tk (sa_cons (se_var 1) (sa_cons se_int sa_nil)))) sa_nil)) (own := [(("name" : Str), 14)]) (blkOk_by (by show blkC N_law (defScope (tp 34)) _ _ = true; decide +kernel)) (fun _ _ _ _ _ => (sg_name nd rfl (by first | exact Or.inl rfl | exact Or.inr rfl))) (fun _ _ _ _ _ => sts_nil) (fun _ _ _ _ _ => (se_user (d__law_word c) hr (by rfl) L2.takes0 (sa_cons (se_var 1) sa_nil))) fin_data) (by rfl) (c.free 13) (by rfl) (c.free 12))))
  (sss_cons (ss_set nd rfl (by first | exact Or.inl rfl | exact Or.inr rfl) (se_user (d__law_row c) hr (by rfl) tk (sa_cons (se_var 1) (sa_cons (se_var 6) (sa_cons (se_user (d__law_some c) hr (by rfl) tk (sa_cons (se_var 1) (sa_cons (se_lst (sa_cons se_int (sa_cons se_int (sa_cons se_int (sa_cons se_int sa_nil))))) sa_nil))) sa_nil)))))
  (sss_cons (ss_if (sb_not (sb_val (se_user (d__law_right c) hr (by rfl) tk (sa_cons (se_var 3) (sa_cons (se_user (d__law_word c) hr (by rfl) tk (sa_cons (se_var 1) sa_nil)) sa_nil))))) (sss_one (ss_ret se_bool)) sss_nil)
  (sss_cons (ss_set nd rfl (by first | exact Or.inl rfl | exact Or.inr rfl) (se_user (d__law_roll c) hr (by rfl) tk (sa_cons (se_var 1) (sa_cons (se_op om_add (se_callB cm_len (by rfl) (c.free 7) boot_len (sa_cons (se_var 3) sa_nil)) se_int) sa_nil))))
  (sss_cons (ss_set nd rfl (by first | exact Or.inl rfl | exact Or.inr rfl) (se_lst (sa_cons (se_tup (sa_cons se_str sa_nil)) (sa_cons (se_tup (sa_cons se_str (sa_cons (se_tup (sa_cons se_str sa_nil)) (sa_cons se_int sa_nil)))) (sa_cons (se_lst (sa_cons se_str (sa_cons (se_tup (sa_cons se_str sa_nil)) sa_nil))) (sa_cons (se_tup (sa_cons se_str (sa_cons (se_tup (sa_cons se_str sa_nil)) sa_nil))) (sa_cons (se_tup (sa_cons se_str (sa_cons (se_tup (sa_cons se_str (sa_cons se_str sa_nil))) sa_nil))) (sa_cons (se_tup (sa_cons se_str (sa_cons se_none sa_nil))) (sa_cons (se_tup (sa_cons se_none (sa_cons (se_tup (sa_cons se_str sa_nil)) sa_nil))) (sa_cons (se_tup (sa_cons se_str (sa_cons (se_lst (sa_cons se_str sa_nil)) sa_nil))) (sa_cons se_str (sa_cons se_none (sa_cons (se_tup (sa_cons (se_tup (sa_cons se_str sa_nil)) (sa_cons se_str sa_nil))) (sa_cons (se_tup (sa_cons se_str (sa_cons (se_tup (sa_cons se_str (sa_cons se_str (sa_cons se_int sa_nil)))) sa_nil))) (sa_cons (se_tup (sa_cons se_str (sa_cons (se_tup (sa_cons se_str (sa_cons se_str sa_nil))) sa_nil))) (sa_cons (se_tup (sa_cons se_str (sa_cons (se_tup (sa_cons se_str (sa_cons se_str (sa_cons se_bool sa_nil)))) sa_nil))) sa_nil))))))))))))))))
  (sss_one (ss_for hp rfl (si_list (se_op om_add (se_lc rfl nd (si_list (se_var 8)) (own := [(("one" : Str), 13)]) (blkOk_by (by show blkC N_law (defScope (tp 34)) _ _ = true; decide +kernel)) (fun _ _ _ _ _ => (sg_name nd rfl (by first | exact Or.inl rfl | exact Or.inr rfl))) (fun _ _ _ _ _ => sts_nil) (fun _ _ _ _ _ => (se_op om_add (se_op om_add (se_slice (se_var 3) so_none (so_some (se_var 7))) (se_tup (sa_cons (se_var 13) sa_nil))) (se_slice (se_var 3) (so_some (se_var 7)) so_none))) fin_data) (se_lst (sa_cons (se_callTy cm_list (by rfl) (c.free 8) boot_list (sa_cons (se_var 3) sa_nil)) (sa_cons se_none (sa_cons se_int (sa_cons se_str (sa_cons se_bool sa_nil)))))))) (sg_name nd rfl (by first | exact Or.inl rfl | exact Or.inr rfl)) (sss_one (ss_if (sw_or (sb_cmp om_isnot (se_user (d_is_row c) hr (by rfl) tk (sa_cons (se_var 9) sa_nil)) se_bool (by rfl)) (sw_or1 (sb_cmp (om_ne hr.units) (se_lst (sa_cons (se_lamcall (k := 9) (d__law_name c) (by rfl) (c.tab (("law" : Str), none) (List.mem_of_getElem? (i := 1) rfl)) hcd hr (lamS_by rfl) rfl (fun _ _ _ _ _ => rfl) (fun _ _ _ _ _ _ _ hr2 tk2 => (se_user (d_threads_of c) hr2 (by rfl) tk2 (sa_cons (se_var 9) sa_nil)))) (sa_cons (se_lamcall (k := 9) (d__law_name c) (by rfl) (c.tab (("law" : Str), none) (List.mem_of_getElem? (i := 1) rfl)) hcd hr (lamS_by rfl) rfl (fun _ _ _ _ _ => rfl) (fun _ _ _ _ _ _ _ hr1 tk1 => (se_user (d_own_history c) hr1 (by rfl) tk1 (sa_cons (se_var 9) (sa_cons se_none sa_nil))))) sa_nil))) (se_op om_mul (se_lst (sa_cons se_str sa_nil)) se_int) (by rfl)))).pt (sss_one (ss_ret se_bool)) sss_nil))))))))))
  (sss_cons (ss_set nd rfl (by first | exact Or.inl rfl | exact Or.inr rfl) (se_user (d__law_row c) hr (by rfl) tk (sa_cons (se_var 1) (sa_cons (se_lst (sa_cons se_str (sa_cons se_str (sa_cons se_str sa_nil)))) (sa_cons se_int sa_nil)))))
  (sss_cons (ss_for hp rfl (si_tup (se_tup (sa_cons se_int (sa_cons se_int (sa_cons se_int sa_nil))))) (sg_name nd rfl (by first | exact Or.inl rfl | exact Or.inr rfl)) (sss_one (ss_if (sb_not (sb_val (se_user (d__law_right c) hr (by rfl) tk (sa_cons (se_slice (se_op om_add (se_var 3) (se_op om_mul (se_tup (sa_cons (se_tup (sa_cons se_str (sa_cons (se_tup (sa_cons se_str (sa_cons se_str sa_nil))) sa_nil))) sa_nil)) se_int)) so_none (so_some (se_var 4))) (sa_cons se_str sa_nil))))) (sss_one (ss_ret se_bool)) sss_nil)))
  (sss_cons (ss_setLc rfl nd rfl rfl (by rfl) (si_range1 (by rfl) (c.free 11) (sa_cons se_int sa_nil)) (own := [(("at" : Str), 7)]) (blkOk_by (by show blkC N_law (defScope (tp 34)) _ _ = true; decide +kernel)) (fun _ _ _ _ _ => (sg_name nd rfl (by first | exact Or.inl rfl | exact Or.inr rfl))) (fun _ _ _ _ _ => sts_nil) (fun _ _ _ _ _ => (se_op om_add se_str (se_callTy cm_strI (by rfl) (c.free 14) boot_str (sa_cons (se_var 7) sa_nil)))) fin_data)
  (sss_cons (ss_for hp rfl (si_tup (se_tup (sa_cons se_int (sa_cons se_int (sa_cons se_int sa_nil))))) (sg_name nd rfl (by first | exact Or.inl rfl | exact Or.inr rfl)) (sss_cons (ss_set nd rfl (by first | exact Or.inl rfl | exact Or.inr rfl) (se_callTy cm_tuple (by rfl) (c.free 16) boot_tuple (sa_cons (se_lc rfl nd (si_list (se_slice (se_var 5) so_none (so_some (se_var 4)))) (own := [(("name" : Str), 14)]) (blkOk_by (by show blkC N_law (defScope (tp 34)) _ _ = true; decide +kernel)) (fun _ _ _ _ _ => (sg_name nd rfl (by first | exact Or.inl rfl | exact Or.inr rfl))) (fun _ _ _ _ _ => sts_nil) (fun _ _ _ _ _ => (se_tup (sa_cons (se_var 14) (sa_cons (se_tup (sa_cons se_str sa_nil)) sa_nil)))) fin_data) sa_nil)))
  (sss_cons (ss_set nd rfl (by first | exact Or.inl rfl | exact Or.inr rfl) (se_callTy cm_tuple (by rfl) (c.free 16) boot_tuple (sa_cons (se_lc rfl nd (si_list (se_slice (se_var 5) so_none (so_some (se_var 4)))) (own := [(("name" : Str), 14)]) (blkOk_by (by show blkC N_law (defScope (tp 34)) _ _ = true; decide +kernel)) (fun _ _ _ _ _ => (sg_name nd rfl (by first | exact Or.inl rfl | exact Or.inr rfl))) (fun _ _ _ _ _ => sts_nil) (fun _ _ _ _ _ => (se_tup (sa_cons se_str (sa_cons (se_tup (sa_cons se_str (sa_cons (se_var 14) sa_nil))) sa_nil)))) fin_data) sa_nil)))
  (sss_cons (ss_set nd rfl (by first | exact Or.inl rfl | exact Or.inr rfl) (se_op om_add (se_op om_add (se_slice (se_var 10) so_none (so_some se_int)) (se_slice (se_var 11) (so_some se_int) so_none)) (se_tup (sa_cons (se_tup (sa_cons se_str (sa_cons (se_tup (sa_cons se_str (sa_cons se_str sa_nil))) sa_nil))) (sa_cons (se_tup (sa_cons se_str (sa_cons (se_tup (sa_cons se_str (sa_cons se_str sa_nil))) sa_nil))) sa_nil)))))
  (sss_one (ss_for hp rfl (si_tup (se_tup (sa_cons (se_var 10) (sa_cons (se_var 11) (sa_cons (se_var 12) sa_nil))))) (sg_name nd rfl (by first | exact Or.inl rfl | exact Or.inr rfl)) (sss_one (ss_if (sb_not (sb_val (se_user (d__law_right c) hr (by rfl) tk (sa_cons (se_var 13) (sa_cons se_str sa_nil))))) (sss_one (ss_ret se_bool)) sss_nil))))))))
  (sss_one (ss_ret se_bool))))))))
end LK02
end
section
set_option Elab.async false
set_option linter.all false
set_option maxRecDepth 100000
set_option maxHeartbeats 4000000
set_option autoImplicit false
namespace LK02
open PySem PySem.Spec PyProof.Rows L2 Ev
def letC : List Nat := ("abcdefghijklmnopqrstuvwxyz" : Str).cps.toList
def sgnC : List Nat := ("abcdefghijklmnopqrstuvwxyz0123456789" : Str).cps.toList
def isLet (c : Nat) : Bool := decide (c ∈ letC)
def isSgn (c : Nat) : Bool := decide (c ∈ sgnC)
theorem in_let {c : Nat} : inD (.str ⟨#[c]⟩) kd_LETTERS = some (.bool (isLet c)) := rfl
theorem in_sgn {c : Nat} : inD (.str ⟨#[c]⟩) kd_SIGNS = some (.bool (isSgn c)) := rfl
def headLet : List Nat → Bool
  | c :: _ => isLet c
  | [] => false
def fitsText (z : Str) : Bool := decide (1 ≤ z.length) && (decide (z.length ≤ 12) && (headLet z.cps.toList && z.cps.toList.all isSgn))
def fitsWord : PyData → Bool
  | .str z => fitsText z
  | _ => false
theorem str_get0 {z : Str} (h : 1 ≤ z.length) : ∃ c r, z.cps.toList = c :: r := by
  cases e : z.cps.toList with
  | nil =>
    have : z.cps.toList.length = 0 := by rw [e]; rfl
    rw [Array.length_toList] at this
    have : z.length = 0 := this
    omega
  | cons c r => exact ⟨c, r, rfl⟩
theorem signs_len (z : Str) : (signsD z).length = z.length := by
  unfold signsD
  rw [List.length_map, Array.length_toList]; rfl
theorem fits_word_ok (v : PyData) (hv : ∀ z, v = .str z → z.length ≤ sizeLine) (st : Sto) : f_fits_word [.d v] st = .ok (.d (.bool (fitsWord v))) st := by
  apply wpM_val
  unfold f_fits_word b_fits_word
  cases v with
  | str z =>
    have hz := hv z rfl
    simp [startE, N_fits_word, isTyD, lenW_str hz]
    by_cases h1 : 1 ≤ z.length
    · by_cases h2 : z.length ≤ 12
      · obtain ⟨c, r, hc⟩ := str_get0 h1
        have g1 : (1 : Int) ≤ z.length := by omega
        have g2 : (z.length : Int) ≤ 12 := by omega
        simp [g1, g2, lenW_str hz, ixD_str hz, hc, in_let]
        cases h3 : isLet c with
        | true =>
          refine ⟨by rw [signs_len, sizeLine_eq]; omega, ?_⟩
          unfold signsD
          refine wp_comp_map _ (fun c => .bool (isSgn c)) _ (fun c' _ => ⟨_, rfl, rfl, rfl⟩) ?_
          rw [wp_asData, allW_fn isSgn]
          simp [fitsWord, fitsText, h1, h2, hc, h3, headLet]
        | false => simp [fitsWord, fitsText, hc, h3, headLet]
      · have g1 : (1 : Int) ≤ z.length := by omega
        have g2 : ¬ (z.length : Int) ≤ 12 := by omega
        simp [g1, g2, lenW_str hz, fitsWord, fitsText, h2]
    · have g1 : ¬ (1 : Int) ≤ z.length := by omega
      simp [g1, lenW_str hz, fitsWord, fitsText, h1]
  | _ => simp [startE, N_fits_word, isTyD, fitsWord]
/-! ## deeds, turns -/
theorem fitsText_len {z : Str} (h : fitsText z = true) : z.length ≤ 12 := by
  unfold fitsText at h
  simp at h
  exact h.2.1
theorem word_small {z : Str} (h : fitsText z = true) : ∀ y, PyData.str z = .str y → y.length ≤ sizeLine := fun y e => by
  cases e
  have := fitsText_len h
  rw [sizeLine_eq]; omega
theorem fits_word_yes {z : Str} (h : fitsText z = true) (st : Sto) : f_fits_word [W.d (.str z)] st = .ok (W.d (.bool true)) st := by
  rw [fits_word_ok _ (word_small h)]
  show R.ok (W.d (.bool (fitsText z))) st = _
  rw [h]
def valN : List Str := [("read" : Str), ("write" : Str), ("send" : Str), ("get" : Str)]
def oneN : List Str := [("take" : Str), ("give" : Str), ("begin" : Str), ("await" : Str), ("woken" : Str), ("wake" : Str)]
inductive Deed : PyData → Prop
  | val {n w : Str} {i : Int} (hn : n ∈ valN) (hw : fitsText w = true) (h1 : -99 ≤ i) (h2 : i ≤ 99) : Deed (.tuple [.str n, .str w, .int i])
  | one {n w : Str} (hn : n ∈ oneN) (hw : fitsText w = true) : Deed (.tuple [.str n, .str w])
  | wait {w w' : Str} (hw : fitsText w = true) (hw' : fitsText w' = true) : Deed (.tuple [.str ("wait" : Str), .str w, .str w'])
  | end_ : Deed (.tuple [.str ("end" : Str)])
theorem fits_value_ok (i : Int) (st : Sto) : f_fits_value [W.d (.int i)] st = .ok (W.d (.bool (decide (-99 ≤ i) && decide (i ≤ 99)))) st := by
  apply wpM_val
  unfold f_fits_value b_fits_value
  simp [startE, N_fits_value, isTyD]
  by_cases h : -99 ≤ i
  · simp [h]
  · simp [h]
theorem val_look {n : Str} (h : n ∈ valN) : kt_NAMES.lookup n = some (.int 1) ∧ inD (.str n) kd_VALUES = some (.bool true) := by
  simp only [valN, List.mem_cons, List.not_mem_nil, or_false] at h
  rcases h with rfl | rfl | rfl | rfl <;> exact ⟨by kernel_rfl, by kernel_rfl⟩
theorem one_look {n : Str} (h : n ∈ oneN) : kt_NAMES.lookup n = some (.int 1) ∧ inD (.str n) kd_VALUES = some (.bool false) := by
  simp only [oneN, List.mem_cons, List.not_mem_nil, or_false] at h
  rcases h with rfl | rfl | rfl | rfl | rfl | rfl <;> exact ⟨by kernel_rfl, by kernel_rfl⟩
theorem wait_look : kt_NAMES.lookup ("wait" : Str) = some (.int 2) ∧ inD (.str ("wait" : Str)) kd_VALUES = some (.bool false) := ⟨by kernel_rfl, by kernel_rfl⟩
theorem end_look : kt_NAMES.lookup ("end" : Str) = some (.int 0) ∧ inD (.str ("end" : Str)) kd_VALUES = some (.bool false) := ⟨by kernel_rfl, by kernel_rfl⟩
theorem cut12 {α : Type} {a b : α} {r : List α} : cutL (a :: b :: r) (some 1) (some 2) = [b] := by
  simp [cutL, HT.sIx]
theorem fits_deed_ok {d : PyData} (h : Deed d) (st : Sto) : f_fits_deed [W.d d] st = .ok (W.d (.bool true)) st := by
  apply wpM_val
  unfold f_fits_deed b_fits_deed
  cases h with
  | @val n w i hn hw h1 h2 =>
    obtain ⟨e1, e2⟩ := val_look hn
    simp [startE, N_fits_deed, isTyD, e1, e2, cut12, wpM_eq (fits_word_yes hw st), sizeLine_eq, allW, boolsD, wpM_eq (fits_value_ok i st), h1, h2]
  | @one n w hn hw =>
    obtain ⟨e1, e2⟩ := one_look hn
    simp [startE, N_fits_deed, isTyD, e1, e2, cut12, wpM_eq (fits_word_yes hw st), sizeLine_eq, allW, boolsD]
  | @wait w w' hw hw' =>
    obtain ⟨e1, e2⟩ := wait_look
    simp [startE, N_fits_deed, isTyD, e1, e2, wpM_eq (fits_word_yes hw st), wpM_eq (fits_word_yes hw' st), sizeLine_eq, allW, boolsD]
    simp [cutL, HT.sIx, wpM_eq (fits_word_yes hw st), wpM_eq (fits_word_yes hw' st), sizeLine_eq, allW, boolsD, e2]
  | end_ =>
    obtain ⟨e1, e2⟩ := end_look
    simp [startE, N_fits_deed, isTyD, e1, e2]
    simp [cutL, HT.sIx, sizeLine_eq, allW, boolsD, e2]
end LK02
end
section
set_option Elab.async false
set_option linter.all false
set_option maxRecDepth 100000
set_option maxHeartbeats 4000000
set_option autoImplicit false
namespace LK02
open PySem PySem.Spec PyProof.Rows L2 Ev
/-! ## rows -/
abbrev Tn : Type := Str × PyData
def turnD (p : Tn) : PyData := .tuple [.str p.1, p.2]
def rowD (ts : List Tn) : PyData := .tuple (ts.map turnD)
def Turns (ts : List Tn) : Prop := ∀ p ∈ ts, fitsText p.1 = true ∧ Deed p.2
def bg : PyData → List Str
  | .tuple (.str n :: .str w :: _) => if n = ("begin" : Str) then [w] else []
  | _ => []
def thr (ts : List Tn) : List Str := ("root" : Str) :: ts.flatMap fun p => p.1 :: bg p.2
theorem bg_len (d : PyData) : (bg d).length ≤ 1 := by
  unfold bg
  split
  · split <;> simp
  · simp
theorem thr_len (ts : List Tn) : (thr ts).length ≤ 2 * ts.length + 1 := by
  unfold thr
  rw [List.length_cons]
  induction ts with
  | nil => simp
  | cons p r ih =>
    rw [List.flatMap_cons, List.length_append, List.length_cons, List.length_cons]
    have := bg_len p.2
    omega
theorem fits_turn_ok {p : Tn} (h1 : fitsText p.1 = true) (h2 : Deed p.2) (st : Sto) : f_fits_turn [W.d (turnD p)] st = .ok (W.d (.bool true)) st := by
  apply wpM_val
  unfold f_fits_turn b_fits_turn turnD
  simp [startE, N_fits_turn, isTyD, wpM_eq (fits_word_yes h1 st), wpM_eq (fits_deed_ok h2 st)]
/-- a deed's first word, what it begins -/
theorem deed_head {d : PyData} (h : Deed d) : ∃ n r, d = .tuple (.str n :: r) ∧ eqD (.str n) (.str ("begin" : Str)) = some (.bool (decide (n = ("begin" : Str)))) ∧ (n = ("begin" : Str) → ∃ w, r = [.str w] ∧ fitsText w = true) ∧ (n ≠ ("begin" : Str) → bg d = []) := by
  have he : ∀ n ∈ (valN ++ oneN ++ [("wait" : Str), ("end" : Str)]), eqD (.str n) (.str ("begin" : Str)) = some (.bool (decide (n = ("begin" : Str)))) := by
    intro n hn
    simp only [valN, oneN, List.mem_cons, List.not_mem_nil, or_false, List.cons_append, List.nil_append] at hn
    rcases hn with rfl | rfl | rfl | rfl | rfl | rfl | rfl | rfl | rfl | rfl | rfl | rfl <;> kernel_rfl
  have hb : ∀ n (r : List PyData), n ≠ ("begin" : Str) → bg (.tuple (.str n :: r)) = [] := fun n r hn => by
    unfold bg
    split
    · rename_i n' w l e
      cases e
      rw [if_neg hn]
    · rfl
  cases h with
  | @val n w i hn hw h1 h2 =>
    refine ⟨n, _, rfl, he n (by simp [hn]), fun e => ?_, fun e => hb n _ e⟩
    subst e
    exact absurd hn (by decide)
  | @one n w hn hw => exact ⟨n, _, rfl, he n (by simp [hn]), fun e => ⟨w, rfl, hw⟩, fun e => hb n _ e⟩
  | wait hw hw' => exact ⟨_, _, rfl, he _ (by simp), fun e => absurd e (by decide), fun e => hb _ _ e⟩
  | end_ => exact ⟨_, _, rfl, he _ (by simp), fun e => absurd e (by decide), fun e => hb _ _ e⟩
theorem bg_begin {w : Str} {n : Str} (h : n = ("begin" : Str)) : bg (.tuple [.str n, .str w]) = [w] := by
  show (if n = ("begin" : Str) then [w] else []) = [w]
  rw [if_pos h]
theorem all_threads_ok {ts : List Tn} (h : Turns ts) (hl : ts.length ≤ 200) (st : Sto) {Q : W → Sto → Prop} {E : Ex → Sto → Prop} (q : ∀ gb, Q (W.d (.tuple ((sortS (thr ts)).map .str))) (st ++ gb)) : wpM (f_all_threads [W.d (rowD ts)]) st Q E := by
  unfold f_all_threads b_all_threads rowD
  simp [startE, N_all_threads, sizeLine_eq]
  refine wp_loop_map turnD (fun r ρ s => ∃ done x y, done ++ r = ts ∧ ρ = [some (.w (.d (.tuple (ts.map turnD)))), some (.w (.r st.length)), x, y] ∧ s = st ++ [.lst ((thr done).map fun z => W.d (.str z))]) (fun p r ρ s hi => ?_) (fun ρ s hi => ?_) ts _ _ ⟨[], none, none, rfl, rfl, rfl⟩
  · obtain ⟨done, x, y, hd, rfl, rfl⟩ := hi
    obtain ⟨hp1, hp2⟩ := h p (by rw [← hd]; simp)
    obtain ⟨n, r', e, he, hb1, hb2⟩ := deed_head hp2
    have hlen : done.length + 1 ≤ 200 := by
      have := congrArg List.length hd
      rw [List.length_append, List.length_cons] at this
      omega
    have hz := thr_len done
    refine ⟨_, rfl, ?_⟩
    have hz1 : ((thr done).map fun z => W.d (.str z)).length < sizeLine := by rw [List.length_map, sizeLine_eq]; omega
    have hz2 : (((thr done).map fun z => W.d (.str z)) ++ [W.d (.str p.1)]).length < sizeLine := by rw [List.length_append, List.length_map, sizeLine_eq]; simp; omega
    simp [isMut_at last_at, putEnd_at last_at hz1, e, he]
    by_cases hn : n = ("begin" : Str)
    · obtain ⟨w, rfl, hw⟩ := hb1 hn
      simp [hn, isMut_at last_at, putEnd_at last_at hz2]
      refine ⟨done ++ [p], by rw [← hd]; simp, ?_⟩
      simp [thr, e, bg_begin hn]
    · have hb := hb2 hn
      rw [e] at hb
      simp [hn]
      refine ⟨done ++ [p], by rw [← hd]; simp, ?_⟩
      simp [thr, hb, e]
  · obtain ⟨done, x, y, hd, rfl, rfl⟩ := hi
    rw [List.append_nil] at hd
    subst hd
    have hz := thr_len done
    simp [sortSet_at last_at (xs := thr done) (by omega)]
    exact q _
def okRow (ts : List Tn) : Bool := decide (ts.length ≤ 60) && decide ((sortS (thr ts)).length ≤ 8)
theorem fits_row_ok {ts : List Tn} (h : Turns ts) (hl : ts.length ≤ 200) (st : Sto) {Q : W → Sto → Prop} {E : Ex → Sto → Prop} (q : ∀ gb, Q (W.d (.bool (okRow ts))) (st ++ gb)) : wpM (f_fits_row [W.d (rowD ts)]) st Q E := by
  unfold f_fits_row b_fits_row
  simp [startE, N_fits_row, isTyD, rowD, kd_DEEDS]
  by_cases h60 : ts.length ≤ 60
  · have g1 : ¬ (60 : Int) < ts.length := by omega
    simp [g1]
    refine ⟨by rw [sizeLine_eq]; omega, wp_comp_map turnD (fun _ => .bool true) ts (fun p hp => ⟨_, rfl, rfl, ?_⟩) ?_⟩
    · obtain ⟨a, b⟩ := h p hp
      simp [callU, consA, Ev.getV, bnd, Ev.ret, fits_turn_ok a b]
    · rw [wp_asData, allW_fn fun _ => true]
      simp
      refine all_threads_ok h hl st fun gb => ?_
      have e : decide (((sortS (thr ts)).map PyData.str).length ≤ 8) = okRow ts := by
        unfold okRow
        rw [decide_eq_true h60, Bool.true_and, List.length_map]
      simp [kd_THREADS]
      have e2 : decide (((sortS (thr ts)).length : Int) ≤ 8) = okRow ts := by
        rw [← e, List.length_map]
        by_cases c : (sortS (thr ts)).length ≤ 8
        · have : ((sortS (thr ts)).length : Int) ≤ 8 := by omega
          simp [c, this]
        · have : ¬ ((sortS (thr ts)).length : Int) ≤ 8 := by omega
          simp [c, this]
      rw [e2]
      exact q gb
  · have g1 : (60 : Int) < ts.length := by omega
    simp [g1]
    have e : okRow ts = false := by unfold okRow; simp [h60]
    have := q []
    rw [e, List.append_nil] at this
    exact this
end LK02
end
section
set_option Elab.async false
set_option linter.all false
set_option maxRecDepth 100000
set_option maxHeartbeats 4000000
set_option autoImplicit false
namespace LK02
open PySem PySem.Spec PyProof.Rows L2 Ev
theorem strOk_of {z : Str} (h : fitsText z = true) : PyData.strOk z = true := by
  unfold fitsText at h
  simp only [Bool.and_eq_true] at h
  have ha := List.all_eq_true.mp h.2.2.2
  unfold PyData.strOk
  rw [← Array.all_toList]
  refine List.all_eq_true.mpr fun c hc => ?_
  have h1 : isSgn c = true := ha c hc
  have h2 : c ∈ sgnC := of_decide_eq_true h1
  have h3 : sgnC.all (fun c => decide (c < 0x110000)) = true := by decide +kernel
  exact List.all_eq_true.mp h3 c h2
theorem shaped_str {z : Str} (h : PyData.strOk z = true) : SeqAt.shaped (.str z) = true := by simp [SeqAt.shaped, PyData.canLay0, PyData.depth, h]
theorem eqD_str {x y : Str} (hx : PyData.strOk x = true) (hy : PyData.strOk y = true) : eqD (.str x) (.str y) = some (.bool (decide (x = y))) := by
  rw [eqD_of (shaped_str hx) (shaped_str hy)]
  by_cases e : x = y <;> simp [PyData.eqv, e]
/-- fits_row says of it: no (whatever is left behind) -/
def BadRow (v : PyData) : Prop := ∀ (st : Sto) (Q : W → Sto → Prop) (E : Ex → Sto → Prop), (∀ gb, Q (W.d (.bool false)) (st ++ gb)) → wpM (f_fits_row [W.d v]) st Q E
def GoodRow (v : PyData) : Prop := ∀ (st : Sto) (Q : W → Sto → Prop) (E : Ex → Sto → Prop), (∀ gb, Q (W.d (.bool true)) (st ++ gb)) → wpM (f_fits_row [W.d v]) st Q E
theorem good_of {ts : List Tn} (h : Turns ts) (hl : ts.length ≤ 200) (ok : okRow ts = true) : GoodRow (rowD ts) := fun st Q E q => fits_row_ok h hl st fun gb => by rw [ok]; exact q gb
theorem bad_of {ts : List Tn} (h : Turns ts) (hl : ts.length ≤ 200) (ok : okRow ts = false) : BadRow (rowD ts) := fun st Q E q => fits_row_ok h hl st fun gb => by rw [ok]; exact q gb
section
variable {v : PyData} {st : Sto} {Q : W → Sto → Prop} {E : Ex → Sto → Prop}
theorem is_row_yes (g : GoodRow v) (q : ∀ gb, Q (W.d (.bool true)) (st ++ gb)) : wpM (f_is_row [W.d v]) st Q E := by
  unfold f_is_row b_is_row
  simp [startE, N_is_row]
  exact g _ _ _ q
theorem is_row_no (g : BadRow v) (q : ∀ gb, Q (W.d (.bool false)) (st ++ gb)) : wpM (f_is_row [W.d v]) st Q E := by
  unfold f_is_row b_is_row
  simp [startE, N_is_row]
  exact g _ _ _ q
theorem need_row_yes (g : GoodRow v) (q : ∀ gb, Q (W.d .none) (st ++ gb)) : wpM (f_need_row [W.d v]) st Q E := by
  unfold f_need_row b_need_row
  simp [startE, N_need_row]
  exact g _ _ _ q
theorem need_row_no (g : BadRow v) (q : ∀ gb, E ⟨("InvalidRow" : Str), []⟩ (st ++ gb)) : wpM (f_need_row [W.d v]) st Q E := by
  unfold f_need_row b_need_row
  simp [startE, N_need_row]
  exact g _ _ _ q
theorem need_word_yes {z : Str} (h : fitsText z = true) (q : Q (W.d .none) st) : wpM (f_need_word [W.d (.str z)]) st Q E := by
  unfold f_need_word b_need_word
  simp [startE, N_need_word, wpM_eq (fits_word_yes h st)]
  exact q
theorem need_word_no {x : PyData} (hx : ∀ z, x = .str z → z.length ≤ sizeLine) (h : fitsWord x = false) (q : E ⟨("InvalidWord" : Str), []⟩ st) : wpM (f_need_word [W.d x]) st Q E := by
  unfold f_need_word b_need_word
  simp [startE, N_need_word, wpM_eq (fits_word_ok x hx st), h]
  exact q
theorem threads_of_yes {ts : List Tn} (h : Turns ts) (hl : ts.length ≤ 200) (ok : okRow ts = true) (q : ∀ gb, Q (W.d (.tuple ((sortS (thr ts)).map .str))) (st ++ gb)) : wpM (f_threads_of [W.d (rowD ts)]) st Q E := by
  unfold f_threads_of b_threads_of
  simp [startE, N_threads_of]
  refine need_row_yes (good_of h hl ok) fun gb => all_threads_ok h hl _ fun gb' => ?_
  rw [List.append_assoc]
  exact q _
theorem threads_of_no (g : BadRow v) (q : ∀ gb, E ⟨("InvalidRow" : Str), []⟩ (st ++ gb)) : wpM (f_threads_of [W.d v]) st Q E := by
  unfold f_threads_of b_threads_of
  simp [startE, N_threads_of]
  exact need_row_no g q
def ownL (ts : List Tn) (z : Str) : List PyData := (ts.filter fun p => decide (p.1 = z)).map (·.2)
theorem own_of_ok {ts : List Tn} (h : Turns ts) (hl : ts.length ≤ 200) {z : Str} (hz : fitsText z = true) : f_own_of [W.d (rowD ts), W.d (.str z)] st = .ok (W.d (.tuple (ownL ts z))) st := by
  apply wpM_val
  unfold f_own_of b_own_of rowD
  simp [startE, N_own_of]
  refine ⟨by rw [sizeLine_eq]; omega, wp_comp_flt turnD (fun p => p.2) (fun p => decide (p.1 = z)) ts (fun p hp => ⟨_, rfl, ?_, fun _ => rfl⟩) ?_⟩
  · have e := eqD_str (strOk_of (h p hp).1) (strOk_of hz)
    simp [toB, Ev.bin, Ev.getV, bnd, liftO, e]
  · rw [wp_asData]
    simp [ownL]
theorem own_history_yes {ts : List Tn} (h : Turns ts) (hl : ts.length ≤ 200) (ok : okRow ts = true) {z : Str} (hz : fitsText z = true) (q : ∀ gb, Q (W.d (.tuple (ownL ts z))) (st ++ gb)) : wpM (f_own_history [W.d (rowD ts), W.d (.str z)]) st Q E := by
  unfold f_own_history b_own_history
  simp [startE, N_own_history]
  refine need_row_yes (good_of h hl ok) fun gb => ?_
  refine need_word_yes hz ?_
  exact wpM_of (own_of_ok h hl hz) (q gb)
theorem own_history_row (g : BadRow v) {x : W} (q : ∀ gb, E ⟨("InvalidRow" : Str), []⟩ (st ++ gb)) : wpM (f_own_history [W.d v, x]) st Q E := by
  unfold f_own_history b_own_history
  simp [startE, N_own_history]
  exact need_row_no g q
theorem own_history_word (g : GoodRow v) {x : PyData} (hx : ∀ z, x = .str z → z.length ≤ sizeLine) (h : fitsWord x = false) (q : ∀ gb, E ⟨("InvalidWord" : Str), []⟩ (st ++ gb)) : wpM (f_own_history [W.d v, W.d x]) st Q E := by
  unfold f_own_history b_own_history
  simp [startE, N_own_history]
  exact need_row_yes g fun gb => need_word_no hx h (q gb)
end
end LK02
end
section
set_option Elab.async false
set_option linter.all false
set_option maxRecDepth 100000
set_option maxHeartbeats 4000000
set_option autoImplicit false
namespace LK02
open PySem PySem.Spec PyProof.Rows L2 Ev
inductive PlainN : Nat → PyData → Prop
  | str {n : Nat} {z : Str} (ok : PyData.strOk z = true) : PlainN (n + 1) (.str z)
  | int {n : Nat} {i : Int} : PlainN (n + 1) (.int i)
  | tup {n : Nat} {ds : List PyData} (hl : ds.length ≤ 10000) (h : ∀ d ∈ ds, PlainN n d) : PlainN (n + 1) (.tuple ds)
theorem rangeL_0 (n : Nat) : rangeL 0 n = (List.range n).map fun (i : Nat) => PyData.int (i : Int) := by
  unfold rangeL
  simp
theorem same_refl : ∀ (n : Nat) (d : PyData), PlainN n d → ∀ st : Sto, fr__law_same n [W.d d, W.d d] st = .ok (W.d (.bool true)) st := by
  intro n
  induction n with
  | zero => intro d h; cases h
  | succ n ih =>
    intro d h st
    apply wpM_val
    unfold fr__law_same b__law_same
    cases h with
    | str ok => simp [startE, N__law_same, isTyD, pyIs, isB, isNone, strIW, eqD_str ok ok]
    | int => simp [startE, N__law_same, isTyD, pyIs, isB, isNone]
    | @tup _ ds hl h =>
      have g : -4611686018427387904 ≤ (ds.length : Int) ∧ (ds.length : Int) < 4611686018427387904 := by omega
      simp [startE, N__law_same, isTyD, g, rangeL_0]
      refine ⟨by rw [sizeLine_eq]; omega, wp_comp_map (fun i : Nat => PyData.int (i : Int)) (fun _ => .bool true) (List.range ds.length) (fun i hi => ⟨_, rfl, rfl, ?_⟩) ?_⟩
      · have hi' : i < ds.length := List.mem_range.mp hi
        have e : atI ds (i : Int) = some ds[i] := by rw [Ev.atI_nat]; exact List.getElem?_eq_getElem hi'
        have hr := ih ds[i] (h _ (List.getElem_mem hi')) st
        simp [callU, consA, Ev.bin, Ev.getV, bnd, Ev.ret, liftO, e, hr]
      · rw [wp_asData, allW_fn fun _ => true]
        simp
theorem law_same_refl {d : PyData} (h : PlainN 5 d) (st : Sto) : f__law_same [W.d d, W.d d] st = .ok (W.d (.bool true)) st := same_refl 5 d h st
/-! ## what a call raises -/
theorem wp_law_name {t : M W} {st : Sto} {Q : W → Sto → Prop} {E : Ex → Sto → Prop} : wpM (g__law_name t) st Q E = wpM t st (fun _ s => Q (.d (.str ("" : Str))) s) (fun x s => match ksub x.cls ("InvalidRow" : Str) with
    | some true => Q (.d (.str ("row" : Str))) s
    | some false => (match ksub x.cls ("InvalidWord" : Str) with
      | some true => Q (.d (.str ("word" : Str))) s
      | _ => False)
    | none => False) := by
  unfold wpM g__law_name
  cases t st with
  | ok a s => rfl
  | bad => rfl
  | ex x s =>
    dsimp only
    cases ksub x.cls ("InvalidRow" : Str) with
    | none => rfl
    | some k =>
      cases k with
      | true => rfl
      | false =>
        dsimp only
        cases ksub x.cls ("InvalidWord" : Str) with
        | none => rfl
        | some k => cases k <;> rfl
theorem sub_rr : ksub ("InvalidRow" : Str) ("InvalidRow" : Str) = some true := by kernel_rfl
theorem sub_wr : ksub ("InvalidWord" : Str) ("InvalidRow" : Str) = some false := by kernel_rfl
theorem sub_ww : ksub ("InvalidWord" : Str) ("InvalidWord" : Str) = some true := by kernel_rfl
theorem tabs_app {st gb : Sto} {p : Addr × Str} (h : p ∈ tabsOf st) : p ∈ tabsOf (st ++ gb) := by
  unfold tabsOf at *
  rw [List.filterMap_append]
  exact List.mem_append_left _ h
theorem wp_lam {P : Addr} {q : Str} {gx : M W → M W} {fb : Ev.Env → M W} {ρ : Ev.Env} {st : Sto} {Q : W → Sto → Prop} {E : Ex → Sto → Prop} (h : (P, q) ∈ tabsOf st) : wpM (lamF P q gx fb ρ) st Q E = wpM (gx (fb ρ)) st Q E := by
  unfold wpM lamF
  rw [if_pos h]
theorem thr_fits {ts : List Tn} (h : Turns ts) : ∀ z ∈ thr ts, fitsText z = true := by
  intro z hz
  unfold thr at hz
  rcases List.mem_cons.mp hz with rfl | hz
  · decide +kernel
  · obtain ⟨p, hp, hz⟩ := List.mem_flatMap.mp hz
    obtain ⟨h1, h2⟩ := h p hp
    rcases List.mem_cons.mp hz with rfl | hz
    · exact h1
    · obtain ⟨n, r, e, _, hb1, hb2⟩ := deed_head h2
      by_cases hn : n = ("begin" : Str)
      · obtain ⟨w, rfl, hw⟩ := hb1 hn
        rw [e, bg_begin hn] at hz
        rw [List.mem_singleton.mp hz]; exact hw
      · rw [hb2 hn] at hz; cases hz
theorem plain_deed {d : PyData} (h : Deed d) : PlainN 2 d := by
  have hn : ∀ n ∈ (valN ++ oneN ++ [("wait" : Str), ("end" : Str)]), PyData.strOk n = true := by
    intro n hn
    simp only [valN, oneN, List.mem_cons, List.not_mem_nil, or_false, List.cons_append, List.nil_append] at hn
    rcases hn with rfl | rfl | rfl | rfl | rfl | rfl | rfl | rfl | rfl | rfl | rfl | rfl <;> decide +kernel
  cases h with
  | @val n w i h1 hw _ _ =>
    refine .tup (by simp) fun d hd => ?_
    simp only [List.mem_cons, List.not_mem_nil, or_false] at hd
    rcases hd with rfl | rfl | rfl
    · exact .str (hn n (by simp [h1]))
    · exact .str (strOk_of hw)
    · exact .int
  | @one n w h1 hw =>
    refine .tup (by simp) fun d hd => ?_
    simp only [List.mem_cons, List.not_mem_nil, or_false] at hd
    rcases hd with rfl | rfl
    · exact .str (hn n (by simp [h1]))
    · exact .str (strOk_of hw)
  | wait hw hw' =>
    refine .tup (by simp) fun d hd => ?_
    simp only [List.mem_cons, List.not_mem_nil, or_false] at hd
    rcases hd with rfl | rfl | rfl
    · exact .str (hn _ (by simp))
    · exact .str (strOk_of hw)
    · exact .str (strOk_of hw')
  | end_ =>
    refine .tup (by simp) fun d hd => ?_
    simp only [List.mem_cons, List.not_mem_nil, or_false] at hd
    subst hd
    exact .str (hn _ (by simp))
theorem plain_mono : ∀ {n : Nat} {d : PyData}, PlainN n d → PlainN (n + 1) d
  | _, _, .str ok => .str ok
  | _, _, .int => .int
  | _, _, .tup hl h => .tup hl fun d hd => plain_mono (h d hd)
end LK02
end
section
set_option Elab.async false
set_option linter.all false
set_option maxRecDepth 100000
set_option maxHeartbeats 4000000
set_option autoImplicit false
namespace LK02
open PySem PySem.Spec PyProof.Rows L2 Ev
variable {K : PySem.W.Frag}
abbrev PR (K : PySem.W.Frag) : Addr × Str := ((He.cT K (("_law_right" : Str), none)).2, ("_law_right.<locals>.<lambda>" : Str))
theorem row2 : mulD (.list [.str ("row" : Str)]) (.int 2) = some (.list [.str ("row" : Str), .str ("row" : Str)]) := by kernel_rfl
theorem eq_row2 : eqD (.list [.str ("row" : Str), .str ("row" : Str)]) (.list [.str ("row" : Str), .str ("row" : Str)]) = some (.bool true) := by kernel_rfl
theorem word6 : mulD (.list [.str ("word" : Str)]) (.int 6) = some (.list [.str ("word" : Str), .str ("word" : Str), .str ("word" : Str), .str ("word" : Str), .str ("word" : Str), .str ("word" : Str)]) := by kernel_rfl
theorem eq_word6 : eqD (.list [.str ("word" : Str), .str ("word" : Str), .str ("word" : Str), .str ("word" : Str), .str ("word" : Str), .str ("word" : Str)]) (.list [.str ("word" : Str), .str ("word" : Str), .str ("word" : Str), .str ("word" : Str), .str ("word" : Str), .str ("word" : Str)]) = some (.bool true) := by kernel_rfl
theorem mul_a13 : mulD (.str ("a" : Str)) (.int 13) = some (.str ("aaaaaaaaaaaaa" : Str)) := by kernel_rfl
theorem ok_split {ts : List Tn} : okRow ts = (decide (ts.length ≤ 60) && decide ((sortS (thr ts)).length ≤ 8)) := rfl
theorem odd_word {v x : PyData} {ρ : Ev.Env} {st : Sto} {Q : W → Sto → Prop} {E : Ex → Sto → Prop} (h0 : ρ[0]? = some (some (.w (.d v)))) (h8 : ρ[8]? = some (some (.w (.d x)))) (g : GoodRow v) (hx : ∀ z, x = .str z → z.length ≤ sizeLine) (hf : fitsWord x = false) (hT : PR K ∈ tabsOf st)
    (q : ∀ gb, Q (W.d (.str ("word" : Str))) (st ++ gb)) : wpM (lamF (He.cT K (("_law_right" : Str), none)).2 ("_law_right.<locals>.<lambda>" : Str) g__law_name (callU 2 f_own_history (consA (getV 0) (consA (getV 8) (fun _ => Ev.ret [])))) ρ) st Q E := by
  rw [wp_lam hT, wp_law_name]
  simp [h0, h8]
  refine own_history_word g hx hf fun gb => ?_
  simp [sub_wr, sub_ww]
  exact q gb
theorem law_right_ok {ts : List Tn} (h : Turns ts) (hl : ts.length ≤ 150) {more : Str} (hm : fitsText more = true) {st : Sto} (hT : PR K ∈ tabsOf st) {Q : W → Sto → Prop} {E : Ex → Sto → Prop} (q : ∀ gb, Q (W.d (.bool true)) (st ++ gb)) :
    wpM (f__law_right K [W.d (rowD ts), W.d (.str more)]) st Q E := by
  unfold f__law_right b__law_right rowD
  simp [startE, N__law_right, sizeLine_eq]
  refine wp_loop_map turnD (fun r ρ s => ∃ done x y, done ++ r = ts ∧ ρ = [some (.w (.d (rowD ts))), some (.w (.d (.str more))), some (.w (.d (.list ((thr done).map .str)))), none, x, y, none, none, none] ∧ s = st) (fun p r ρ s hi => ?_) (fun ρ s hi => ?_) ts _ _ ⟨[], none, none, rfl, rfl, rfl⟩
  · obtain ⟨done, x, y, hd, rfl, rfl⟩ := hi
    obtain ⟨hp1, hp2⟩ := h p (by rw [← hd]; simp)
    obtain ⟨n, r', e, he, hb1, hb2⟩ := deed_head hp2
    have hlen : done.length + 1 ≤ 150 := by
      have := congrArg List.length hd
      rw [List.length_append, List.length_cons] at this
      omega
    have hz := thr_len done
    refine ⟨_, rfl, ?_⟩
    have s1 : ∀ z : PyData, ((thr done).map PyData.str).length + [z].length ≤ sizeLine := fun z => by rw [List.length_map, sizeLine_eq]; simp; omega
    have s2 : ∀ z u : PyData, (((thr done).map PyData.str) ++ [z]).length + [u].length ≤ sizeLine := fun z u => by rw [List.length_append, List.length_map, sizeLine_eq]; simp; omega
    have s3 : ∀ z : PyData, (((thr done).map PyData.str) ++ [z]).length + ([] : List PyData).length ≤ sizeLine := fun z => by rw [List.length_append, List.length_map, sizeLine_eq]; simp; omega
    simp [addD_lst (s1 _), e, he, sizeLine_eq]
    by_cases hn : n = ("begin" : Str)
    · obtain ⟨w, rfl, hw⟩ := hb1 hn
      simp [hn, addD_lst (s2 _ _), sizeLine_eq]
      refine ⟨done ++ [p], by rw [← hd]; simp, ?_⟩
      simp [thr, e, bg_begin hn]
    · have hb := hb2 hn
      rw [e] at hb
      simp [hn, addD_lst (s3 _), sizeLine_eq]
      refine ⟨done ++ [p], by rw [← hd]; simp, ?_⟩
      simp [thr, hb, e]
  · obtain ⟨done, x, y, hd, rfl, rfl⟩ := hi
    rw [List.append_nil] at hd
    subst hd
    have hz := thr_len done
    simp [sortSet_d (xs := thr done) (by omega), rowD]
    cases hok : okRow done with
    | false =>
      have hbad : BadRow (PyData.tuple (done.map turnD)) := bad_of h (by omega) hok
      split
      · refine is_row_no hbad fun g1 => ?_
        simp [pyIs, isB]
        rw [wp_lam (tabs_app hT), wp_law_name]
        simp
        refine threads_of_no hbad fun g2 => ?_
        simp [sub_rr]
        rw [wp_lam (tabs_app hT), wp_law_name]
        simp
        refine own_history_row hbad fun g3 => ?_
        simp [sub_rr, row2, eq_row2]
        exact q _
      · split
        · refine is_row_no hbad fun g1 => ?_
          simp [pyIs, isB]
          rw [wp_lam (tabs_app hT), wp_law_name]
          simp
          refine threads_of_no hbad fun g2 => ?_
          simp [sub_rr]
          rw [wp_lam (tabs_app hT), wp_law_name]
          simp
          refine own_history_row hbad fun g3 => ?_
          simp [sub_rr, row2, eq_row2]
          exact q _
        · rename_i c1 c2
          rw [ok_split] at hok
          have d1 : done.length ≤ 60 := by omega
          have d2 : (sortS (thr done)).length ≤ 8 := by omega
          simp [d1, d2] at hok
    | true =>
      have hgood : GoodRow (PyData.tuple (done.map turnD)) := good_of h (by omega) hok
      have hok2 := hok
      rw [ok_split] at hok2
      simp at hok2
      have c1 : ¬ (60 : Int) < done.length := by omega
      have c2 : ¬ (8 : Int) < (sortS (thr done)).length := by omega
      rw [if_neg c1, if_neg c2]
      refine is_row_yes hgood fun g1 => ?_
      simp [pyIsNot, isB]
      refine threads_of_yes h (by omega) hok fun g2 => ?_
      have hpl : PlainN 5 (.tuple ((sortS (thr done)).map .str)) := .tup (by simp; omega) fun d hd => by
        obtain ⟨z, hz, rfl⟩ := List.mem_map.mp hd
        exact .str (strOk_of (thr_fits h z (mem_sortS.mp hz)))
      refine wpM_of (law_same_refl hpl _) ?_
      have s1 : ((sortS (thr done)).map PyData.str).length + [PyData.str more, PyData.str ("nobody" : Str)].length ≤ sizeLine := by rw [List.length_map, sizeLine_eq]; simp; omega
      have e1 : (sortS (thr done)).map PyData.str ++ [PyData.str more, PyData.str ("nobody" : Str)] = (sortS (thr done) ++ [more, ("nobody" : Str)]).map PyData.str := by simp
      have s2 : (sortS (thr done) ++ [more, ("nobody" : Str)]).length < 4000 := by simp; omega
      simp [addD_tup s1]
      rw [e1, sortSet_t s2]
      simp
      have hzs : ∀ z ∈ sortS (sortS (thr done) ++ [more, ("nobody" : Str)]), fitsText z = true := fun z hz => by
        rcases List.mem_append.mp (mem_sortS.mp hz) with hz | hz
        · exact thr_fits h z (mem_sortS.mp hz)
        · simp only [List.mem_cons, List.not_mem_nil, or_false] at hz
          rcases hz with rfl | rfl
          · exact hm
          · decide +kernel
      generalize sortS (sortS (thr done) ++ [more, ("nobody" : Str)]) = zs at hzs ⊢
      refine wp_loop_map PyData.str (fun r ρ s' => (∀ z ∈ r, fitsText z = true) ∧ ∃ x y a b gb, ρ = [some (.w (.d (rowD done))), some (.w (.d (.str more))), some (.w (.d (.list ((thr done).map .str)))), some (.w (.d (.tuple ((sortS (thr done)).map .str)))), x, y, a, b, none] ∧ s' = s ++ gb)
        (fun z r ρ s' hi => ?_) (fun ρ s' hi => ?_) zs _ _ ⟨hzs, x, y, none, none, g1 ++ g2, rfl, rfl⟩
      · obtain ⟨hr, x, y, a, b, gb, rfl, rfl⟩ := hi
        have hzz := hr z List.mem_cons_self
        refine ⟨_, rfl, ?_⟩
        simp [rowD, sizeLine_eq]
        refine wp_loop_map turnD (fun r' ρ s' => ∃ dn u v, dn ++ r' = done ∧ ρ = [some (.w (.d (rowD done))), some (.w (.d (.str more))), some (.w (.d (.list ((thr done).map .str)))), some (.w (.d (.tuple ((sortS (thr done)).map .str)))), some (.w (.d (.str z))), u, some (.w (.d (.tuple (ownL dn z)))), v, none] ∧ s' = s ++ gb)
          (fun p r' ρ s' hi => ?_) (fun ρ s' hi => ?_) done _ _ ⟨[], y, b, rfl, rfl, rfl⟩
        · obtain ⟨dn, u, v, hd, rfl, rfl⟩ := hi
          have hp := h p (by rw [← hd]; simp)
          have e := eqD_str (strOk_of hp.1) (strOk_of hzz)
          have hln : (ownL dn z).length ≤ 150 := by
            have h1 : (ownL dn z).length ≤ dn.length := by unfold ownL; rw [List.length_map]; exact List.length_filter_le _ _
            have := congrArg List.length hd
            rw [List.length_append] at this
            omega
          have t1 : ∀ w : PyData, (ownL dn z).length + [w].length ≤ sizeLine := fun w => by rw [sizeLine_eq]; simp; omega
          have t2 : (ownL dn z).length + ([] : List PyData).length ≤ sizeLine := by rw [sizeLine_eq]; simp; omega
          refine ⟨_, rfl, ?_⟩
          simp [e, sizeLine_eq]
          by_cases hc : p.1 = z
          · simp [hc, sizeLine_eq, addD_tup (t1 _)]
            refine ⟨dn ++ [p], by rw [← hd]; simp, ?_⟩
            simp [ownL, hc]
          · simp [hc, sizeLine_eq, addD_tup t2]
            refine ⟨dn ++ [p], by rw [← hd]; simp, ?_⟩
            simp [ownL, hc]
        · obtain ⟨dn, u, v, hd, rfl, rfl⟩ := hi
          rw [List.append_nil] at hd
          subst hd
          simp
          refine own_history_yes h (by omega) hok hzz fun g3 => ?_
          have hpl2 : PlainN 5 (.tuple (ownL dn z)) := plain_mono (plain_mono (.tup (by
            have h1 : (ownL dn z).length ≤ dn.length := by unfold ownL; rw [List.length_map]; exact List.length_filter_le _ _
            omega) fun d hd => by
            obtain ⟨p, hp, rfl⟩ := List.mem_map.mp hd
            exact plain_deed (h p (List.mem_filter.mp hp).1).2))
          refine wpM_of (law_same_refl hpl2 _) ?_
          simp
          exact ⟨fun z' hz' => hr z' (List.mem_cons_of_mem _ hz'), rfl⟩
      · obtain ⟨_, x, y, a, b, gb, rfl, rfl⟩ := hi
        simp [mul_a13]
        refine odd_word rfl rfl hgood (fun z e => by cases e; decide) (by decide +kernel) (tabs_app hT) fun _ => ?_
        rw [List.append_assoc]
        refine odd_word rfl rfl hgood (fun z e => by cases e; decide) (by decide +kernel) (tabs_app hT) fun _ => ?_
        rw [List.append_assoc]
        refine odd_word rfl rfl hgood (fun z e => by cases e) (by decide +kernel) (tabs_app hT) fun _ => ?_
        rw [List.append_assoc]
        refine odd_word rfl rfl hgood (fun z e => by cases e; decide) (by decide +kernel) (tabs_app hT) fun _ => ?_
        rw [List.append_assoc]
        refine odd_word rfl rfl hgood (fun z e => by cases e) (by decide +kernel) (tabs_app hT) fun _ => ?_
        rw [List.append_assoc]
        refine odd_word rfl rfl hgood (fun z e => by cases e) (by decide +kernel) (tabs_app hT) fun _ => ?_
        rw [List.append_assoc]
        simp [word6, eq_word6]
        exact q _
end LK02
end
section
set_option Elab.async false
set_option linter.all false
set_option maxRecDepth 100000
set_option maxHeartbeats 4000000
set_option autoImplicit false
namespace LK02
open PySem PySem.Spec PyProof.Rows L2 Ev
variable {K : PySem.W.Frag} {j : Nat}
abbrev PL (K : PySem.W.Frag) : Addr × Str := ((He.cT K (("law" : Str), none)).2, ("law.<locals>.<lambda>" : Str))
/-- the store of the law: the tables, the cup at j -/
structure Ok (K : PySem.W.Frag) (j : Nat) (st : Sto) : Prop where
  cup : ∃ a b : Int, st[j]? = some (.lst [W.d (.int a), W.d (.int b)])
  t1 : PR K ∈ tabsOf st
  t2 : PL K ∈ tabsOf st
theorem tabs_set {st : Sto} {j : Nat} {ws ws' : List W} {p : Addr × Str} (h : p ∈ tabsOf st) (hj : st[j]? = some (.lst ws)) : p ∈ tabsOf (st.set j (.lst ws')) := by
  obtain ⟨P, q⟩ := p
  obtain ⟨i, hi⟩ := mem_tabs h
  have hne : j ≠ i := fun e => by rw [e, hi] at hj; cases hj
  exact tabs_mem (i := i) (by rw [List.getElem?_set_ne hne]; exact hi)
theorem Ok.app {st : Sto} (h : Ok K j st) (gb : Sto) : Ok K j (st ++ gb) := by
  obtain ⟨⟨a, b, e⟩, t1, t2⟩ := h
  refine ⟨⟨a, b, ?_⟩, tabs_app t1, tabs_app t2⟩
  rw [List.getElem?_append_left (List.getElem?_eq_some_iff.mp e).1]; exact e
theorem Ok.set {st : Sto} (h : Ok K j st) (a b : Int) : Ok K j (st.set j (.lst [W.d (.int a), W.d (.int b)])) := by
  obtain ⟨⟨a', b', e⟩, t1, t2⟩ := h
  exact ⟨⟨a, b, by rw [List.getElem?_set_self (List.getElem?_eq_some_iff.mp e).1]⟩, tabs_set t1 e, tabs_set t2 e⟩
theorem ix_cup0 {st : Sto} {a b : Int} (e : st[j]? = some (.lst [W.d (.int a), W.d (.int b)])) : ixW st (.r j) (.d (.int 0)) = some (W.d (.int a)) := by
  show (match st[j]? with | some (.lst ws) => atI ws 0 | _ => none) = _
  rw [e]; rfl
theorem ix_cup1 {st : Sto} {a b : Int} (e : st[j]? = some (.lst [W.d (.int a), W.d (.int b)])) : ixW st (.r j) (.d (.int 1)) = some (W.d (.int b)) := by
  show (match st[j]? with | some (.lst ws) => atI ws 1 | _ => none) = _
  rw [e]; rfl
theorem put_cup0 {st : Sto} {a b : Int} {v : W} (e : st[j]? = some (.lst [W.d (.int a), W.d (.int b)])) : putIx st v (.r j) (.d (.int 0)) = some (st.set j (.lst [v, W.d (.int b)])) := by
  show (match st[j]? with | some (.lst ws) => (ixN ws.length 0).map fun n => st.set j (.lst (ws.set n v)) | _ => none) = _
  rw [e]; rfl
theorem put_cup1 {st : Sto} {a b : Int} {v : W} (e : st[j]? = some (.lst [W.d (.int a), W.d (.int b)])) : putIx st v (.r j) (.d (.int 1)) = some (st.set j (.lst [W.d (.int a), v])) := by
  show (match st[j]? with | some (.lst ws) => (ixN ws.length 1).map fun n => st.set j (.lst (ws.set n v)) | _ => none) = _
  rw [e]; rfl
section
variable {st : Sto} {Q : W → Sto → Prop} {E : Ex → Sto → Prop}
theorem roll_ok (ok : Ok K j st) {n : Int} (h0 : 0 < n) (h1 : n < 1073741824) (q : ∀ v st', 0 ≤ v → v < n → Ok K j st' → Q (W.d (.int v)) st') : wpM (f__law_roll [W.r j, W.d (.int n)]) st Q E := by
  obtain ⟨a, b, e⟩ := ok.cup
  have hn : n ≠ 0 := by omega
  unfold f__law_roll b__law_roll
  simp [startE, N__law_roll, ix_cup0 e]
  by_cases ha : 0 < a
  · simp [ha, ix_cup0 e, modD_int hn, fdivD_int (show n ≠ 0 ∧ n.natAbs < 1073741824 by omega), put_cup0 e]
    exact q _ _ (Int.fmod_nonneg_of_pos _ h0) (Int.fmod_lt_of_pos _ h0) (ok.set _ _)
  · simp [ha, ix_cup1 e, mulD_intR, put_cup1 e, modD_int]
    have e2 : (st.set j (.lst [W.d (.int a), W.d (.int ((b * 31139 + 8231).fmod 2147483249))]))[j]? = some (.lst [W.d (.int a), W.d (.int ((b * 31139 + 8231).fmod 2147483249))]) := by
      rw [List.getElem?_set_self (List.getElem?_eq_some_iff.mp e).1]
    have r1 : 0 ≤ (b * 31139 + 8231).fmod 2147483249 := Int.fmod_nonneg_of_pos _ (by decide)
    have r2 : (b * 31139 + 8231).fmod 2147483249 < 2147483249 := Int.fmod_lt_of_pos _ (by decide)
    generalize (b * 31139 + 8231).fmod 2147483249 = b' at e2 r1 r2 ⊢
    simp [ix_cup1 e2, mulD_intL (show -(2 ^ 64) < b' ∧ b' < 2 ^ 64 by omega), modD_int, fdivD_int, modD_int hn]
    exact q _ _ (Int.fmod_nonneg_of_pos _ h0) (Int.fmod_lt_of_pos _ h0) (ok.set _ _)
theorem some_list (ok : Ok K j st) {ds : List PyData} (h0 : ds ≠ []) (h1 : ds.length < 1000000) (q : ∀ d st', d ∈ ds → Ok K j st' → Q (W.d d) st') : wpM (f__law_some [W.r j, W.d (.list ds)]) st Q E := by
  unfold f__law_some b__law_some
  have hl : 0 < ds.length := List.length_pos_iff.mpr h0
  simp [startE, N__law_some]
  refine roll_ok ok (by omega) (by omega) fun v st' v0 v1 ok' => ?_
  obtain ⟨i, rfl⟩ := Int.eq_ofNat_of_zero_le v0
  have hi : i < ds.length := by omega
  have e : atI ds (i : Int) = some ds[i] := by rw [Ev.atI_nat]; exact List.getElem?_eq_getElem hi
  simp [e]
  exact q _ _ (List.getElem_mem hi) ok'
theorem some_str (ok : Ok K j st) {z : Str} (h0 : 0 < z.length) (h1 : z.length < 1000000) (q : ∀ c st', c ∈ z.cps.toList → Ok K j st' → Q (W.d (.str ⟨#[c]⟩)) st') : wpM (f__law_some [W.r j, W.d (.str z)]) st Q E := by
  unfold f__law_some b__law_some
  have hz : z.length ≤ sizeLine := by rw [sizeLine_eq]; omega
  simp [startE, N__law_some, lenW_str hz]
  refine roll_ok ok (by omega) (by omega) fun v st' v0 v1 ok' => ?_
  obtain ⟨i, rfl⟩ := Int.eq_ofNat_of_zero_le v0
  have hl : z.cps.toList.length = z.length := Array.length_toList
  have hi : i < z.cps.toList.length := by omega
  have e : atI z.cps.toList (i : Int) = some z.cps.toList[i] := by rw [Ev.atI_nat]; exact List.getElem?_eq_getElem hi
  simp only [ixW_d, ixD_str hz, e]
  exact q _ _ (List.getElem_mem hi) ok'
end
end LK02
end
section
set_option Elab.async false
set_option linter.all false
set_option maxRecDepth 100000
set_option maxHeartbeats 4000000
set_option autoImplicit false
namespace LK02
open PySem PySem.Spec PyProof.Rows L2 Ev
variable {K : PySem.W.Frag} {j : Nat} {st : Sto} {Q : W → Sto → Prop} {E : Ex → Sto → Prop}
theorem cat_cps (x y : Str) : (x ++ y).cps.toList = x.cps.toList ++ y.cps.toList := by
  show (x.cps ++ y.cps).toList = _
  simp
theorem len_cps (x : Str) : x.length = x.cps.toList.length := Array.length_toList.symm
/-- a text that grows: its first sign a letter, all of them signs -/
def Grow (n : Nat) (z : Str) : Prop := 1 ≤ z.length ∧ z.length ≤ n ∧ headLet z.cps.toList = true ∧ z.cps.toList.all isSgn = true
theorem Grow.fits {n : Nat} {z : Str} (h : Grow n z) (hn : n ≤ 12) : fitsText z = true := by
  obtain ⟨h1, h2, h3, h4⟩ := h
  unfold fitsText
  have g : z.length ≤ 12 := by omega
  simp [h1, g, h3]
  simpa using h4
theorem sgn_let {c : Nat} (h : c ∈ letC) : isSgn c = true := by
  have h3 : letC.all isSgn = true := by decide +kernel
  exact List.all_eq_true.mp h3 c h
theorem Grow.one {c : Nat} (h : c ∈ letC) : Grow 1 ⟨#[c]⟩ := ⟨Nat.le_refl _, Nat.le_refl _, by show isLet c = true; exact decide_eq_true h, by simp [sgn_let h]⟩
theorem Grow.more {n : Nat} {z : Str} {c : Nat} (h : Grow n z) (hc : isSgn c = true) : Grow (n + 1) (z ++ ⟨#[c]⟩) := by
  obtain ⟨h1, h2, h3, h4⟩ := h
  have e := cat_cps z ⟨#[c]⟩
  have l : (z ++ ⟨#[c]⟩ : Str).length = z.length + 1 := by rw [len_cps, e, List.length_append, ← len_cps]; rfl
  refine ⟨by omega, by omega, ?_, ?_⟩
  · rw [e]
    obtain ⟨c', r, hc'⟩ := str_get0 h1
    rw [hc'] at h3 ⊢
    exact h3
  · rw [e, List.all_append, h4]
    simp [hc]
def al : Str := "abcdefghijklmnopqrstuvwxyz"
theorem al_dig : addD (.str ("abcdefghijklmnopqrstuvwxyz" : Str)) (.str ("0123456789" : Str)) = some (.str ("abcdefghijklmnopqrstuvwxyz0123456789" : Str)) := by kernel_rfl
theorem word_ok (ok : Ok K j st) (q : ∀ z st', fitsText z = true → Ok K j st' → Q (W.d (.str z)) st') : wpM (f__law_word [W.r j]) st Q E := by
  unfold f__law_word b__law_word
  simp [startE, N__law_word]
  refine some_str ok (by decide) (by decide) fun c st1 hc ok1 => ?_
  refine roll_ok ok1 (by decide) (by decide) fun v st2 v0 v1 ok2 => ?_
  simp [sizeLine_eq]
  refine some_list ok2 (by simp) (by simp) fun d st3 hd ok3 => ?_
  have hd' : ∃ k : Nat, d = .int k ∧ k ≤ 11 := by
    simp only [List.mem_cons, List.not_mem_nil, or_false] at hd
    rcases hd with rfl | rfl | rfl | rfl | rfl | rfl
    · exact ⟨0, rfl, by decide⟩
    · exact ⟨0, rfl, by decide⟩
    · exact ⟨1, rfl, by decide⟩
    · exact ⟨2, rfl, by decide⟩
    · obtain ⟨i, rfl⟩ := Int.eq_ofNat_of_zero_le v0
      exact ⟨i, rfl, by omega⟩
    · exact ⟨11, rfl, by decide⟩
  obtain ⟨k, rfl, hk⟩ := hd'
  have g : -4611686018427387904 ≤ (k : Int) ∧ (k : Int) < 4611686018427387904 := by omega
  simp [g, rangeL_0]
  refine wp_loop_map (fun i : Nat => PyData.int (i : Int)) (fun r ρ s => ∃ z x, Grow (k + 1 - r.length) z ∧ r.length ≤ k ∧ ρ = [some (.w (.r j)), some (.w (.d (.str ("abcdefghijklmnopqrstuvwxyz" : Str)))), some (.w (.d (.str z))), x] ∧ Ok K j s) (fun i r ρ s hi => ?_) (fun ρ s hi => ?_) (List.range k) _ _
    ⟨⟨#[c]⟩, none, by have := Grow.one hc; simpa using this, by simp, rfl, ok3⟩
  · obtain ⟨z, x, hg, hr, rfl, ok4⟩ := hi
    refine ⟨_, rfl, ?_⟩
    simp [al_dig]
    refine some_str ok4 (by decide) (by decide) fun c' st5 hc' ok5 => ?_
    have hl : z.length + (⟨#[c']⟩ : Str).length ≤ sizeLine := by
      have := hg.2.1
      have e1 : (⟨#[c']⟩ : Str).length = 1 := rfl
      rw [sizeLine_eq]
      rw [List.length_cons] at hr
      omega
    simp [addD_str hl]
    rw [List.length_cons] at hr hg
    refine ⟨_, ?_, by omega, rfl, ok5⟩
    have h2 := hg.more (decide_eq_true (show c' ∈ sgnC from hc'))
    have e : k + 1 - (r.length + 1) + 1 = k + 1 - r.length := by omega
    rw [e] at h2
    exact h2
  · obtain ⟨z, x, hg, hr, rfl, ok4⟩ := hi
    simp
    exact q z s (hg.fits (by simp; omega)) ok4
theorem worth_ok (ok : Ok K j st) (q : ∀ (i : Int) st', -99 ≤ i → i ≤ 99 → Ok K j st' → Q (W.d (.int i)) st') : wpM (f__law_worth [W.r j]) st Q E := by
  unfold f__law_worth b__law_worth
  simp [startE, N__law_worth]
  refine roll_ok ok (by decide) (by decide) fun v st1 v0 v1 ok1 => ?_
  simp
  refine roll_ok ok1 (by decide) (by decide) fun u st2 u0 u1 ok2 => ?_
  simp [sizeLine_eq]
  refine some_list ok2 (by simp) (by simp) fun d st3 hd ok3 => ?_
  simp only [List.mem_cons, List.not_mem_nil, or_false] at hd
  rcases hd with rfl | rfl | rfl | rfl
  · exact q _ _ (by omega) (by omega) ok3
  · exact q _ _ (by omega) (by omega) ok3
  · exact q _ _ (by omega) (by omega) ok3
  · exact q _ _ (by omega) (by omega) ok3
end LK02
end
section
set_option Elab.async false
set_option linter.all false
set_option maxRecDepth 100000
set_option maxHeartbeats 4000000
set_option autoImplicit false
namespace LK02
open PySem PySem.Spec PyProof.Rows L2 Ev
variable {K : PySem.W.Frag} {j : Nat} {st : Sto} {Q : W → Sto → Prop} {E : Ex → Sto → Prop}
theorem kinds_ok (ok : Ok K j st) (q : ∀ ds st', ds ≠ [] → ds.length ≤ 12 → (∀ d ∈ ds, Deed d) → Ok K j st' → Q (W.d (.list ds)) st') : wpM (f__law_kinds [W.r j]) st Q E := by
  unfold f__law_kinds b__law_kinds
  simp [-wp_comp_cons, startE, N__law_kinds, sizeLine_eq]
  refine wp_comp (fun rest acc s => Ok K j s ∧ ∃ ds : List PyData, acc = ds.map .d ∧ (∀ d ∈ ds, Deed d) ∧ (∀ r ∈ rest, ∃ n ∈ valN, r = .str n) ∧ ds.length + rest.length = 4) (fun d rest acc s hi => ?_) (fun acc s hi => ?_) _ _ _
    ⟨ok, [], rfl, fun d hd => (by cases hd), fun r hr => (by
      simp only [List.mem_cons, List.not_mem_nil, or_false] at hr
      rcases hr with rfl | rfl | rfl | rfl <;> exact ⟨_, by simp [valN], rfl⟩), rfl⟩
  · obtain ⟨ok1, ds, rfl, hd, hr, hlen⟩ := hi
    obtain ⟨n, hn, rfl⟩ := hr d List.mem_cons_self
    refine ⟨_, rfl, ?_⟩
    simp [sizeLine_eq]
    refine word_ok ok1 fun w s1 hw ok1 => ?_
    refine worth_ok ok1 fun i s1 a b ok1 => ?_
    rw [List.length_cons] at hlen
    simp [sizeLine_eq]
    refine ⟨ok1, ds ++ [.tuple [.str n, .str w, .int i]], by simp, fun d hd' => ?_, fun r h => hr r (List.mem_cons_of_mem _ h), by simp; omega⟩
    rcases List.mem_append.mp hd' with h | h
    · exact hd d h
    · rw [List.mem_singleton.mp h]; exact .val hn hw a b
  · obtain ⟨ok1, ds, rfl, hd, _, hlen⟩ := hi
    simp only [List.length_nil, Nat.add_zero] at hlen
    simp [-wp_comp_cons, sizeLine_eq]
    refine wp_comp (fun rest acc s => Ok K j s ∧ ∃ es : List PyData, acc = es.map .d ∧ (∀ d ∈ es, Deed d) ∧ (∀ r ∈ rest, ∃ n ∈ oneN, r = .str n) ∧ es.length + rest.length = 6) (fun d rest acc s hi => ?_) (fun acc s hi => ?_) _ _ _
      ⟨ok1, [], rfl, fun d hd => (by cases hd), fun r hr => (by
        simp only [List.mem_cons, List.not_mem_nil, or_false] at hr
        rcases hr with rfl | rfl | rfl | rfl | rfl | rfl <;> exact ⟨_, by simp [oneN], rfl⟩), rfl⟩
    · obtain ⟨ok1, es, rfl, he, hr, hlen2⟩ := hi
      obtain ⟨n, hn, rfl⟩ := hr d List.mem_cons_self
      refine ⟨_, rfl, ?_⟩
      simp [sizeLine_eq]
      refine word_ok ok1 fun w s1 hw ok1 => ?_
      rw [List.length_cons] at hlen2
      simp [sizeLine_eq]
      refine ⟨ok1, es ++ [.tuple [.str n, .str w]], by simp, fun d hd' => ?_, fun r h => hr r (List.mem_cons_of_mem _ h), by simp; omega⟩
      rcases List.mem_append.mp hd' with h | h
      · exact he d h
      · rw [List.mem_singleton.mp h]; exact .one hn hw
    · obtain ⟨ok1, es, rfl, he, _, hlen2⟩ := hi
      simp only [List.length_nil, Nat.add_zero] at hlen2
      have z1 : ds.length + es.length ≤ sizeLine := by rw [sizeLine_eq]; omega
      simp [addD_lst z1]
      refine word_ok ok1 fun w s1 hw ok1 => ?_
      refine word_ok ok1 fun w' s1 hw' ok1 => ?_
      have z2 : ∀ a b : PyData, (ds ++ es).length + [a, b].length ≤ sizeLine := fun a b => by rw [sizeLine_eq]; simp; omega
      simp [sizeLine_eq, addD_lst (z2 _ _)]
      refine q _ _ (by simp) (by simp; omega) (fun d hd' => ?_) ok1
      simp only [List.mem_append, List.mem_cons, List.not_mem_nil, or_false] at hd'
      rcases hd' with h | h | rfl | rfl
      · exact hd d h
      · exact he d h
      · exact .wait hw hw'
      · exact .end_
theorem draw_row (ok : Ok K j st) {zs : List Str} (hz : ∀ z ∈ zs, fitsText z = true) (h0 : zs ≠ []) (hl : zs.length < 1000) {n : Nat} (hn : n ≤ 100) (q : ∀ ts st', Turns ts → ts.length = n → Ok K j st' → Q (W.d (rowD ts)) st') :
    wpM (f__law_row [W.r j, W.d (.list (zs.map .str)), W.d (.int n)]) st Q E := by
  unfold f__law_row b__law_row
  have g : -4611686018427387904 ≤ (n : Int) ∧ (n : Int) < 4611686018427387904 := by omega
  simp [startE, N__law_row, sizeLine_eq, g, rangeL_0]
  refine wp_loop_map (fun i : Nat => PyData.int (i : Int)) (fun r ρ s => ∃ ts x y, Turns ts ∧ ts.length + r.length = n ∧ ρ = [some (.w (.r j)), some (.w (.d (.list (zs.map .str)))), some (.w (.d (.int n))), some (.w (.d (rowD ts))), x, y] ∧ Ok K j s) (fun i r ρ s hi => ?_) (fun ρ s hi => ?_) (List.range n) _ _
    ⟨[], none, none, fun p hp => (by cases hp), by simp, rfl, ok⟩
  · obtain ⟨ts, x, y, ht, hlen, rfl, ok1⟩ := hi
    refine ⟨_, rfl, ?_⟩
    simp
    refine kinds_ok ok1 fun ds s1 d0 d1 hd ok1 => ?_
    refine some_list ok1 d0 (by omega) fun d s1 hd1 ok1 => ?_
    refine some_list ok1 (by simpa using h0) (by simp; omega) fun t s1 ht1 ok1 => ?_
    obtain ⟨z, hz1, rfl⟩ := List.mem_map.mp ht1
    have hzf := hz z hz1
    obtain ⟨n', r', e, he, hb1, hb2⟩ := deed_head (hd d hd1)
    rw [List.length_cons] at hlen
    have t1 : ∀ w : PyData, (ts.map turnD).length + [w].length ≤ sizeLine := fun w => by rw [sizeLine_eq]; simp; omega
    simp [e, he, sizeLine_eq]
    by_cases hb : n' = ("begin" : Str)
    · simp [hb]
      refine some_list ok1 (by simpa using h0) (by simp; omega) fun u s1 hu ok1 => ?_
      obtain ⟨z', hz2, rfl⟩ := List.mem_map.mp hu
      simp [sizeLine_eq, rowD, addD_tup (t1 _)]
      refine ⟨ts ++ [(z, .tuple [.str ("begin" : Str), .str z'])], ?_, by simp; omega, ?_, ok1⟩
      · intro p hp
        rcases List.mem_append.mp hp with hp | hp
        · exact ht p hp
        · rw [List.mem_singleton.mp hp]
          exact ⟨hzf, .one (by simp [oneN]) (hz z' hz2)⟩
      · simp [turnD]
    · simp [hb, sizeLine_eq, rowD, addD_tup (t1 _)]
      refine ⟨ts ++ [(z, d)], ?_, by simp; omega, ?_, ok1⟩
      · intro p hp
        rcases List.mem_append.mp hp with hp | hp
        · exact ht p hp
        · rw [List.mem_singleton.mp hp]
          exact ⟨hzf, hd d hd1⟩
      · simp [turnD, e]
  · obtain ⟨ts, x, y, ht, hlen, rfl, ok1⟩ := hi
    simp
    exact q ts s ht (by simpa using hlen) ok1
end LK02
end
section
set_option Elab.async false
set_option linter.all false
set_option maxRecDepth 100000
set_option maxHeartbeats 4000000
set_option autoImplicit false
namespace LK02
open PySem PySem.Spec PyProof.Rows L2 Ev
variable {K : PySem.W.Frag} {j : Nat} {st : Sto} {Q : W → Sto → Prop} {E : Ex → Sto → Prop}
/-! ## what is no row -/
def OddTurn (v : PyData) : Prop := ∀ st : Sto, f_fits_turn [W.d v] st = .ok (W.d (.bool false)) st
theorem bad_eq {v : PyData} (h : ∀ st : Sto, f_fits_row [W.d v] st = .ok (W.d (.bool false)) st) : BadRow v := fun st Q E q => wpM_of (h st) (by simpa using q [])
theorem bad_insert {a b : List Tn} (ha : Turns a) (hb : Turns b) (hl : a.length + b.length ≤ 200) {v : PyData} (hv : OddTurn v) : BadRow (.tuple (a.map turnD ++ [v] ++ b.map turnD)) := bad_eq fun st => by
  apply wpM_val
  unfold f_fits_row b_fits_row
  simp [-wp_comp_cons, startE, N_fits_row, isTyD, kd_DEEDS]
  intro hle
  · refine ⟨by rw [sizeLine_eq]; omega, ?_⟩
    have e : a.map turnD ++ v :: b.map turnD = ((a.map some ++ none :: b.map some).map fun o : Option Tn => match o with | some p => turnD p | none => v) := by rw [List.map_append, List.map_cons, List.map_map, List.map_map]; rfl
    rw [e]
    refine wp_comp_map (fun o : Option Tn => match o with | some p => turnD p | none => v) (fun o => .bool o.isSome) _ (fun o ho => ⟨_, rfl, rfl, ?_⟩) ?_
    · have hok : ∀ o ∈ a.map some ++ none :: b.map some, f_fits_turn [W.d (match o with | some p => turnD p | none => v)] st = .ok (W.d (.bool o.isSome)) st := fun o ho => by
        simp only [List.mem_append, List.mem_cons, List.mem_map] at ho
        rcases ho with ⟨p, hp, rfl⟩ | rfl | ⟨p, hp, rfl⟩
        · exact fits_turn_ok (ha p hp).1 (ha p hp).2 st
        · exact hv st
        · exact fits_turn_ok (hb p hp).1 (hb p hp).2 st
      have := hok o ho
      simp [callU, consA, Ev.getV, bnd, Ev.ret, this]
    · rw [wp_asData, allW_fn Option.isSome]
      simp
theorem bad_list (ds : List PyData) : BadRow (.list ds) := bad_eq fun st => rfl
theorem bad_none : BadRow .none := bad_eq fun st => rfl
theorem bad_int (i : Int) : BadRow (.int i) := bad_eq fun st => rfl
theorem bad_str (z : Str) : BadRow (.str z) := bad_eq fun st => rfl
theorem bad_bool (k : Bool) : BadRow (.bool k) := bad_eq fun st => rfl
abbrev eS (x : Str) : PyData := .str x
def odds : List PyData := [.tuple [eS "a"], .tuple [eS "a", .tuple [eS "end"], .int 0], .list [eS "a", .tuple [eS "end"]], .tuple [eS "A", .tuple [eS "end"]], .tuple [eS "a", .tuple [eS "read", eS "x"]], .tuple [eS "a", .none], .tuple [.none, .tuple [eS "end"]],
  .tuple [eS "a", .list [eS "end"]], eS "ab", .none, .tuple [.tuple [eS "end"], eS "a"], .tuple [eS "a", .tuple [eS "write", eS "x", .int 500]], .tuple [eS "a", .tuple [eS "take", eS "A"]], .tuple [eS "a", .tuple [eS "send", eS "b", .bool true]]]
theorem odds_odd : ∀ v ∈ odds, OddTurn v := by
  intro v hv st
  simp only [odds, List.mem_cons, List.not_mem_nil, or_false] at hv
  rcases hv with rfl | rfl | rfl | rfl | rfl | rfl | rfl | rfl | rfl | rfl | rfl | rfl | rfl | rfl <;> kernel_rfl
theorem cut_take {α : Type} (xs : List α) (n : Nat) : cutL xs none (some (n : Int)) = xs.take n := by
  unfold cutL
  rw [HT.sIx_none, HT.sIx_nat]
  simp
theorem cut_drop {α : Type} (xs : List α) (n : Nat) : cutL xs (some (n : Int)) none = xs.drop n := by
  unfold cutL
  rw [HT.sIx_none, HT.sIx_nat]
  by_cases h : n ≤ xs.length
  · rw [Nat.min_eq_left h, List.take_of_length_le (by rw [List.length_drop]; omega)]
  · rw [Nat.min_eq_right (by omega), List.drop_length, List.take_nil, List.drop_eq_nil_of_le (by omega)]
end LK02
end
section
set_option Elab.async false
set_option linter.all false
set_option maxRecDepth 100000
set_option maxHeartbeats 4000000
set_option autoImplicit false
namespace LK02
open PySem PySem.Spec PyProof.Rows L2 Ev
variable {K : PySem.W.Frag} {j : Nat} {st : Sto} {Q : W → Sto → Prop} {E : Ex → Sto → Prop}
theorem pow18 : powD (.int 10) (.int 18) = some (.int 1000000000000000000) := by kernel_rfl
theorem cup_ok {ns : List Int} (hn : ns.length ≤ 63) (q : ∀ a b, Q (.r st.length) (st ++ [.lst [W.d (.int a), W.d (.int b)]])) : wpM (f__law_cup ns) st Q E := by
  unfold f__law_cup b__law_cup
  cases ns with
  | nil =>
    have s1 : ([] : List PyData).length + [PyData.int 0].length ≤ sizeLine := by rw [sizeLine_eq]; simp
    simp [N__law_cup, sizeLine_eq, addD_lst s1, pow18, fdivD_int, mulD_intR, modD_int]
    exact q _ _
  | cons c r =>
    have s1 : (PyData.int c :: r.map PyData.int).length + [PyData.int 0].length ≤ sizeLine := by
      rw [List.length_cons] at hn
      rw [sizeLine_eq]; simp; omega
    simp [N__law_cup, sizeLine_eq, addD_lst s1, pow18]
    generalize (if c < 0 then -c else c) = a
    simp [fdivD_int, mulD_intR, modD_int]
    split
    · exact q _ _
    · exact q _ _
theorem tb1 : ("_law_right" : Str) ++ ".<locals>." ++ "<lambda>" = ("_law_right.<locals>.<lambda>" : Str) := by decide +kernel
theorem tb2 : ("law" : Str) ++ ".<locals>." ++ "<lambda>" = ("law.<locals>.<lambda>" : Str) := by decide +kernel
theorem tabs_start (K : PySem.W.Frag) : PR K ∈ tabsOf (tabs0 K tf) ∧ PL K ∈ tabsOf (tabs0 K tf) := by
  unfold tabs0 tf
  simp [tabsOf]
  exact ⟨.inl (by decide +kernel), .inr (by decide +kernel)⟩
theorem neq_row2 : neD (.list [.str ("row" : Str), .str ("row" : Str)]) (.list [.str ("row" : Str), .str ("row" : Str)]) = some (.bool false) := by kernel_rfl
end LK02
end
section
set_option Elab.async false
set_option linter.all false
set_option maxRecDepth 100000
set_option maxHeartbeats 8000000
set_option autoImplicit false
namespace LK02
open PySem PySem.Spec PyProof.Rows L2 Ev
variable {K : PySem.W.Frag}
theorem fits_root : fitsText ("root" : Str) = true := by decide +kernel
theorem fits_a : fitsText ("a" : Str) = true := by decide +kernel
theorem fits_b : fitsText ("b" : Str) = true := by decide +kernel
theorem fits_c : fitsText ("c" : Str) = true := by decide +kernel
theorem fits_other : fitsText ("other" : Str) = true := by decide +kernel
def nms : List Str := [("t0" : Str), ("t1" : Str), ("t2" : Str), ("t3" : Str), ("t4" : Str), ("t5" : Str), ("t6" : Str), ("t7" : Str), ("t8" : Str)]
theorem nms_fits : ∀ z ∈ nms, fitsText z = true := by
  intro z hz
  simp only [nms, List.mem_cons, List.not_mem_nil, or_false] at hz
  rcases hz with rfl | rfl | rfl | rfl | rfl | rfl | rfl | rfl | rfl <;> decide +kernel
theorem cut_take3 {α : Type} (xs : List α) : cutL xs none (some 3) = xs.take 3 := cut_take xs 3
theorem cut_drop2 {α : Type} (xs : List α) : cutL xs (some 2) none = xs.drop 2 := cut_drop xs 2
def wk : Tn := (("b" : Str), .tuple [.str ("wake" : Str), .str ("c" : Str)])
theorem law_good (K : PySem.W.Frag) (ns : List Int) (hn : ns.length ≤ 63) : ∃ st', runS N_law.length (b_law K) ns (tabs0 K tf) = .ok (W.d (.bool true)) st' := by
  obtain ⟨ht1, ht2⟩ := tabs_start K
  have key : wpM (runS N_law.length (b_law K) ns) (tabs0 K tf) (fun w _ => w = W.d (.bool true)) (fun _ _ => False) := by
    unfold b_law
    simp [-wp_comp_cons, -wp_loop_cons, N_law, sizeLine_eq]
    refine cup_ok hn fun a b => ?_
    have ok0 : Ok K (tabs0 K tf).length (tabs0 K tf ++ [.lst [W.d (.int a), W.d (.int b)]]) := ⟨⟨a, b, last_at⟩, tabs_app ht1, tabs_app ht2⟩
    generalize (tabs0 K tf ++ [SO.lst [W.d (.int a), W.d (.int b)]]) = st at ok0 ⊢
    generalize (tabs0 K tf).length = j at ok0 ⊢
    refine wp_loop (fun rest ρ s => ∃ x2 x3 x4 x5 x6 x7 x8 x9 x10 x11 x12 x13 x14, ρ = [some (.scr ns), some (.w (.r j)), x2, x3, x4, x5, x6, x7, x8, x9, x10, x11, x12, x13, x14] ∧ Ok K j s) (fun d rest ρ s hi => ?_) (fun ρ s hi => ?_) _ _ _ ⟨none, none, none, none, none, none, none, none, none, none, none, none, none, rfl, ok0⟩
    · obtain ⟨x2, x3, x4, x5, x6, x7, x8, x9, x10, x11, x12, x13, x14, rfl, ok⟩ := hi
      refine ⟨_, rfl, ?_⟩
      simp only [wp_seq, wp_asg]
      simp [-wp_comp_cons, -wp_loop_cons, sizeLine_eq]
      refine roll_ok ok (by decide) (by decide) fun v s v0 v1 ok => ?_
      obtain ⟨i, rfl⟩ := Int.eq_ofNat_of_zero_le v0
      simp [-wp_comp_cons, -wp_loop_cons, sizeLine_eq]
      refine ⟨⟨by omega, by omega⟩, by unfold rangeL; rw [List.length_map, List.length_range]; omega, ?_⟩
      have hrl : (rangeL 0 (1 + (i : Int)).toNat).length = i + 1 := by unfold rangeL; rw [List.length_map, List.length_range]; omega
      refine wp_comp (fun rest acc s => Ok K j s ∧ ∃ zs : List Str, acc = (zs.map PyData.str).map W.d ∧ (∀ z ∈ zs, fitsText z = true) ∧ zs.length + rest.length = i + 1) (fun d rest acc s hi => ?_) (fun acc s hi => ?_) _ _ _
        ⟨ok, [], rfl, fun z hz => (by cases hz), by rw [hrl]; simp⟩
      · obtain ⟨ok, zs, rfl, hz, hl⟩ := hi
        refine ⟨_, rfl, ?_⟩
        simp
        refine word_ok ok fun z s hzf ok => ?_
        rw [List.length_cons] at hl
        refine ⟨ok, zs ++ [z], by simp, fun y hy => ?_, by simp; omega⟩
        rcases List.mem_append.mp hy with h | h
        · exact hz y h
        · rw [List.mem_singleton.mp h]; exact hzf
      · obtain ⟨ok, zs, rfl, hz, hl⟩ := hi
        simp only [List.length_nil, Nat.add_zero] at hl
        have hl2 : (sortS zs).length ≤ zs.length := nodup_le (up_nodup (up_sortS zs)) fun x => mem_sortS
        have s1 : [PyData.str ("root" : Str)].length + ((sortS zs).map PyData.str).length ≤ sizeLine := by rw [sizeLine_eq]; simp; omega
        have e1 : [PyData.str ("root" : Str)] ++ (sortS zs).map PyData.str = (("root" : Str) :: sortS zs).map PyData.str := rfl
        rw [wp_asData]
        simp only [sortSet_d (xs := zs) (by omega), onD_d, addD_lst s1, e1, Option.map_some]
        refine some_list ok (by simp) (by simp) fun d4 s hd4 ok => ?_
        have hd5 : ∃ n : Nat, d4 = .int n ∧ n ≤ 12 := by
          simp only [List.mem_cons, List.not_mem_nil, or_false] at hd4
          rcases hd4 with rfl | rfl | rfl | rfl
          · exact ⟨0, rfl, by decide⟩
          · exact ⟨3, rfl, by decide⟩
          · exact ⟨7, rfl, by decide⟩
          · exact ⟨12, rfl, by decide⟩
        obtain ⟨n, rfl, hn12⟩ := hd5
        have hz2 : ∀ z ∈ (("root" : Str) :: sortS zs), fitsText z = true := fun z h => by
          rcases List.mem_cons.mp h with rfl | h
          · exact fits_root
          · exact hz z (mem_sortS.mp h)
        have hl3 : (("root" : Str) :: sortS zs).length < 1000 := by rw [List.length_cons]; omega
        have hne : (("root" : Str) :: sortS zs) ≠ [] := List.cons_ne_nil _ _
        generalize (("root" : Str) :: sortS zs) = zs2 at hz2 hl3 hne ⊢
        have hrow := draw_row (Q := fun w s' => ∃ ts, w = W.d (rowD ts) ∧ Turns ts ∧ ts.length = n ∧ Ok K j s') (E := fun _ _ => False) ok hz2 hne hl3 (n := n) (by omega) fun ts s h1 h2 h3 => ⟨ts, rfl, h1, h2, h3⟩
        refine wpM_mono hrow (fun w s hw => ?_) fun _ _ z => z.elim
        obtain ⟨ts, rfl, hts, htl, ok⟩ := hw
        refine word_ok ok fun more s hmore ok => ?_
        refine law_right_ok hts (by omega) hmore ok.t1 fun gb => ?_
        have ok := ok.app gb
        simp [-wp_comp_cons, -wp_loop_cons, rowD]
        refine roll_ok ok (by omega) (by omega) fun v s v0 v1 ok => ?_
        obtain ⟨at_, rfl⟩ := Int.eq_ofNat_of_zero_le v0
        refine wp_comp_map (fun d => d) (fun one => .tuple ((ts.take at_).map turnD ++ [one] ++ (ts.drop at_).map turnD)) odds (fun one _ => ⟨_, rfl, rfl, ?_⟩) ?_
        · have s2 : ((ts.map turnD).take at_).length + [one].length ≤ sizeLine := by rw [sizeLine_eq]; simp; omega
          have s3 : ((ts.map turnD).take at_ ++ [one]).length + ((ts.map turnD).drop at_).length ≤ sizeLine := by rw [sizeLine_eq]; simp; omega
          apply wpM_val
          simp [cut_take, cut_drop, addD_tup s2, addD_tup s3, sizeLine_eq, List.map_take, List.map_drop]
        · rw [wp_asData]
          have s4 : (odds.map (fun one => PyData.tuple (List.map turnD (List.take at_ ts) ++ [one] ++ List.map turnD (List.drop at_ ts)))).length + [PyData.list (List.map turnD ts), PyData.none, PyData.int 5, PyData.str ("" : Str), PyData.bool true].length ≤ sizeLine := by rw [sizeLine_eq, List.length_map]; show (14 : Nat) + 5 ≤ 16777216; decide
          simp only [onD_d, addD_lst s4, Option.map_some, itemsW_list]
          have hbad : ∀ d ∈ odds.map (fun one => PyData.tuple (List.map turnD (List.take at_ ts) ++ [one] ++ List.map turnD (List.drop at_ ts))) ++ [PyData.list (List.map turnD ts), PyData.none, PyData.int 5, PyData.str ("" : Str), PyData.bool true], BadRow d := fun d hd => by
            rcases List.mem_append.mp hd with h | h
            · obtain ⟨one, h1, rfl⟩ := List.mem_map.mp h
              exact bad_insert (fun p hp => hts p (List.mem_of_mem_take hp)) (fun p hp => hts p (List.mem_of_mem_drop hp)) (by rw [List.length_take, List.length_drop]; omega) (odds_odd one h1)
            · simp only [List.mem_cons, List.not_mem_nil, or_false] at h
              rcases h with rfl | rfl | rfl | rfl | rfl
              · exact bad_list _
              · exact bad_none
              · exact bad_int _
              · exact bad_str _
              · exact bad_bool _
          generalize odds.map (fun one => PyData.tuple (List.map turnD (List.take at_ ts) ++ [one] ++ List.map turnD (List.drop at_ ts))) ++ [PyData.list (List.map turnD ts), PyData.none, PyData.int 5, PyData.str ("" : Str), PyData.bool true] = bads at hbad ⊢
          refine wp_loop (fun rest ρ s => (∀ d ∈ rest, BadRow d) ∧ ∃ x2 x3 x4 x5 x6 x7 x8 x9 x10 x11 x12 x13 x14, ρ = [some (.scr ns), some (.w (.r j)), x2, x3, x4, x5, x6, x7, x8, x9, x10, x11, x12, x13, x14] ∧ Ok K j s) (fun d rest ρ s hi => ?_) (fun ρ s hi => ?_) _ _ _ ⟨hbad, _, _, _, _, _, _, _, _, _, _, _, _, _, rfl, ok⟩
          · obtain ⟨hr, x2, x3, x4, x5, x6, x7, x8, x9, x10, x11, x12, x13, x14, rfl, ok⟩ := hi
            have hd := hr d List.mem_cons_self
            refine ⟨_, rfl, ?_⟩
            simp [sizeLine_eq]
            refine is_row_no hd fun g1 => ?_
            simp [pyIsNot, isB]
            rw [wp_lam (tabs_app ok.t2), wp_law_name]
            simp
            refine threads_of_no hd fun g2 => ?_
            simp [sub_rr]
            rw [wp_lam (tabs_app ok.t2), wp_law_name]
            simp
            refine own_history_row hd fun g3 => ?_
            simp [sub_rr, row2, neq_row2]
            exact ⟨fun d h => hr d (List.mem_cons_of_mem _ h), ok.app _⟩
          · obtain ⟨hr, x2, x3, x4, x5, x6, x7, x8, x9, x10, x11, x12, x13, x14, rfl, ok⟩ := hi
            first | exact ⟨_, _, _, _, _, _, _, _, _, _, _, _, _, rfl, ok⟩ | exact ⟨⟨_, _, _, _, _, _, _, _, _, _, _, _, _, rfl⟩, ok⟩
    · obtain ⟨x2, x3, x4, x5, x6, x7, x8, x9, x10, x11, x12, x13, x14, rfl, ok⟩ := hi
      simp [-wp_comp_cons, -wp_loop_cons, sizeLine_eq]
      have hz3 : ∀ z ∈ [("root" : Str), ("a" : Str), ("b" : Str)], fitsText z = true := fun z h => by
        simp only [List.mem_cons, List.not_mem_nil, or_false] at h
        rcases h with rfl | rfl | rfl
        · exact fits_root
        · exact fits_a
        · exact fits_b
      have hrow := draw_row (Q := fun w s' => ∃ ts, w = W.d (rowD ts) ∧ Turns ts ∧ ts.length = 4 ∧ Ok K j s') (E := fun _ _ => False) ok hz3 (List.cons_ne_nil _ _) (by decide) (n := 4) (by decide) fun ts s h1 h2 h3 => ⟨ts, rfl, h1, h2, h3⟩
      refine wpM_mono hrow (fun w s hw => ?_) fun _ _ z => z.elim
      obtain ⟨ts, rfl, hts, htl, ok⟩ := hw
      refine wp_loop (fun rest ρ s => (∀ d ∈ rest, ∃ m : Nat, d = PyData.int (m : Int) ∧ m ≤ 61) ∧ ∃ x2 x4 x5 x6 x7 x8 x9 x10 x11 x12 x13 x14, ρ = [some (.scr ns), some (.w (.r j)), x2, some (.w (.d (rowD ts))), x4, x5, x6, x7, x8, x9, x10, x11, x12, x13, x14] ∧ Ok K j s) (fun d rest ρ s hi => ?_) (fun ρ s hi => ?_) _ _ _
        ⟨fun d hd => by
          simp only [List.mem_cons, List.not_mem_nil, or_false] at hd
          rcases hd with rfl | rfl | rfl
          · exact ⟨59, rfl, by decide⟩
          · exact ⟨60, rfl, by decide⟩
          · exact ⟨61, rfl, by decide⟩, _, _, _, _, _, _, _, _, _, _, _, _, rfl, ok⟩
      · obtain ⟨hr, x2, x4, x5, x6, x7, x8, x9, x10, x11, x12, x13, x14, rfl, ok⟩ := hi
        obtain ⟨m, rfl, hm⟩ := hr _ List.mem_cons_self
        refine ⟨_, rfl, ?_⟩
        obtain ⟨wks, hwl, hwm, e1⟩ : ∃ wks : List Tn, wks.length = 60 ∧ (∀ p ∈ wks, p = wk) ∧ mulD (.tuple [PyData.tuple [PyData.str ("b" : Str), PyData.tuple [PyData.str ("wake" : Str), PyData.str ("c" : Str)]]]) (.int 60) = some (.tuple (wks.map turnD)) :=
          ⟨List.replicate 60 wk, by simp, fun p hp => List.eq_of_mem_replicate hp, by kernel_rfl⟩
        have s1 : (ts.map turnD).length + (wks.map turnD).length ≤ sizeLine := by rw [sizeLine_eq]; simp; omega
        have e2 : (ts.map turnD ++ wks.map turnD).take m = ((ts ++ wks).take m).map turnD := by rw [← List.map_append, List.map_take]
        have ht2 : Turns ((ts ++ wks).take m) := fun p hp => by
          rcases List.mem_append.mp (List.mem_of_mem_take hp) with h | h
          · exact hts p h
          · rw [hwm p h]; exact ⟨fits_b, .one (by simp [oneN]) fits_c⟩
        have hl2 : ((ts ++ wks).take m).length ≤ 150 := by rw [List.length_take]; omega
        simp only [wp_if, wp_notB, wp_tst, wp_callU, wp_consA, wp_slice, wp_bin, wp_get, wp_tup, wp_ret, wp_part]
        simp [-List.map_take, -List.map_append, sizeLine_eq, e1, rowD, addD_tup s1, cut_take, e2]
        refine law_right_ok ht2 hl2 fits_c ok.t1 fun gb => ?_
        simp
        exact ⟨fun d hd => hr d (List.mem_cons_of_mem _ hd), ok.app gb⟩
      · obtain ⟨hr, x2, x4, x5, x6, x7, x8, x9, x10, x11, x12, x13, x14, rfl, ok⟩ := hi
        simp [-wp_comp_cons, -wp_loop_cons, sizeLine_eq]
        refine ⟨by decide, ?_⟩
        have en : compL always [7] (aName 7) (fun _ => Ev.ret true) (Ev.bin (onD addD) (fun _ => Ev.ret (W.d (.str ("t" : Str)))) (callF (on1 strIW) (consA (getV 7) fun _ => Ev.ret []))) [some (Sl.scr ns), some (.w (.r j)), x2, some (.w (.d (rowD ts))), x4, x5, x6, x7, x8, x9, x10, x11, x12, x13, x14] (rangeL 0 9) [] s = .ok ((nms.map PyData.str).map W.d) s := by kernel_rfl
        refine wpM_of en ?_
        rw [wp_asData]
        refine wp_loop (fun rest ρ s => (∀ d ∈ rest, ∃ m : Nat, d = PyData.int (m : Int) ∧ m ≤ 8) ∧ ∃ x2 x3 x4 x6 x7 x8 x9 x10 x11 x12 x13 x14, ρ = [some (.scr ns), some (.w (.r j)), x2, x3, x4, some (.w (.d (.list (nms.map .str)))), x6, x7, x8, x9, x10, x11, x12, x13, x14] ∧ Ok K j s) (fun d rest ρ s hi => ?_) (fun ρ s hi => ?_) _ _ _
          ⟨fun d hd => by
            simp only [List.mem_cons, List.not_mem_nil, or_false] at hd
            rcases hd with rfl | rfl | rfl
            · exact ⟨6, rfl, by decide⟩
            · exact ⟨7, rfl, by decide⟩
            · exact ⟨8, rfl, by decide⟩, _, _, _, _, _, _, _, _, _, _, _, _, rfl, ok⟩
        · obtain ⟨hr, x2, x3, x4, x6, x7, x8, x9, x10, x11, x12, x13, x14, rfl, ok⟩ := hi
          obtain ⟨m, rfl, hm⟩ := hr _ List.mem_cons_self
          refine ⟨_, rfl, ?_⟩
          simp [-wp_comp_cons, -wp_loop_cons, -List.map_take, sizeLine_eq, cut_take]
          have et : List.take m (List.map PyData.str nms) = (nms.take m).map PyData.str := List.map_take.symm
          have hlen : (nms.take m).length ≤ 8 := by rw [List.length_take]; omega
          have hfit : ∀ z ∈ nms.take m, fitsText z = true := fun z hz => nms_fits z (List.mem_of_mem_take hz)
          refine ⟨by omega, ?_⟩
          rw [et]
          refine wp_comp_map PyData.str (fun z => turnD (z, .tuple [.str ("end" : Str)])) (nms.take m) (fun z hz => ⟨_, rfl, rfl, ?_⟩) ?_
          · apply wpM_val; simp [turnD, sizeLine_eq]
          rw [wp_asData]
          simp only [tupleW_list]
          refine ⟨by omega, ?_⟩
          refine wp_comp_map PyData.str (fun z => turnD (("root" : Str), .tuple [.str ("begin" : Str), .str z])) (nms.take m) (fun z hz => ⟨_, rfl, rfl, ?_⟩) ?_
          · apply wpM_val; simp [turnD, sizeLine_eq]
          rw [wp_asData]
          generalize nms.take m = zs at hlen hfit ⊢
          have d1 : zs.map (fun z => turnD (z, .tuple [.str ("end" : Str)])) = (zs.map fun z => ((z, .tuple [.str ("end" : Str)]) : Tn)).map turnD := by rw [List.map_map]; rfl
          have d2 : zs.map (fun z => turnD (("root" : Str), .tuple [.str ("begin" : Str), .str z])) = (zs.map fun z => ((("root" : Str), .tuple [.str ("begin" : Str), .str z]) : Tn)).map turnD := by rw [List.map_map]; rfl
          have t1 : Turns (zs.map fun z => ((z, .tuple [.str ("end" : Str)]) : Tn)) := fun p hp => by
            obtain ⟨z, hz, rfl⟩ := List.mem_map.mp hp
            exact ⟨hfit z hz, .end_⟩
          have t2 : Turns (zs.map fun z => ((("root" : Str), .tuple [.str ("begin" : Str), .str z]) : Tn)) := fun p hp => by
            obtain ⟨z, hz, rfl⟩ := List.mem_map.mp hp
            exact ⟨fits_root, .one (by simp [oneN]) (hfit z hz)⟩
          have l1 : (zs.map fun z => ((z, .tuple [.str ("end" : Str)]) : Tn)).length ≤ 8 := by rw [List.length_map]; exact hlen
          have l2 : (zs.map fun z => ((("root" : Str), .tuple [.str ("begin" : Str), .str z]) : Tn)).length ≤ 8 := by rw [List.length_map]; exact hlen
          rw [d1, d2]
          generalize (zs.map fun z => ((z, .tuple [.str ("end" : Str)]) : Tn)) = dL at t1 l1 ⊢
          generalize (zs.map fun z => ((("root" : Str), .tuple [.str ("begin" : Str), .str z]) : Tn)) = bL at t2 l2 ⊢
          have a1 : ((dL.map turnD).take 3).length + ((bL.map turnD).drop 2).length ≤ sizeLine := by rw [sizeLine_eq]; simp; omega
          have a2 : ∀ x y : PyData, ((dL.map turnD).take 3 ++ (bL.map turnD).drop 2).length + [x, y].length ≤ sizeLine := fun x y => by rw [sizeLine_eq]; simp; omega
          simp only [tupleW_list, slW_d, slD_tup, Option.map_some, cut_take3, cut_drop2, onD_d, addD_tup a1, addD_tup (a2 _ _)]
          simp only [allD_cons, allD_nil, Option.map_some]
          refine ⟨by simp, ?_⟩
          have d3 : List.take 3 (List.map turnD dL) ++ List.drop 2 (List.map turnD bL) ++ [PyData.tuple [PyData.str ("root" : Str), PyData.tuple [PyData.str ("await" : Str), PyData.str ("other" : Str)]], PyData.tuple [PyData.str ("t0" : Str), PyData.tuple [PyData.str ("begin" : Str), PyData.str ("root" : Str)]]] = (dL.take 3 ++ bL.drop 2 ++ [(("root" : Str), PyData.tuple [PyData.str ("await" : Str), PyData.str ("other" : Str)]), (("t0" : Str), PyData.tuple [PyData.str ("begin" : Str), PyData.str ("root" : Str)])]).map turnD := by
            rw [List.map_append, List.map_append, List.map_take, List.map_drop]; rfl
          rw [d3]
          have t3 : Turns (dL.take 3 ++ bL.drop 2 ++ [(("root" : Str), PyData.tuple [PyData.str ("await" : Str), PyData.str ("other" : Str)]), (("t0" : Str), PyData.tuple [PyData.str ("begin" : Str), PyData.str ("root" : Str)])]) := fun p hp => by
            rcases List.mem_append.mp hp with h | h
            · rcases List.mem_append.mp h with h | h
              · exact t1 p (List.mem_of_mem_take h)
              · exact t2 p (List.mem_of_mem_drop h)
            · simp only [List.mem_cons, List.not_mem_nil, or_false] at h
              rcases h with rfl | rfl
              · exact ⟨fits_root, .one (by simp [oneN]) fits_other⟩
              · exact ⟨nms_fits _ (by simp [nms]), .one (by simp [oneN]) fits_root⟩
          have l3 : (dL.take 3 ++ bL.drop 2 ++ [(("root" : Str), PyData.tuple [PyData.str ("await" : Str), PyData.str ("other" : Str)]), (("t0" : Str), PyData.tuple [PyData.str ("begin" : Str), PyData.str ("root" : Str)])]).length ≤ 150 := by simp; omega
          generalize (dL.take 3 ++ bL.drop 2 ++ [(("root" : Str), PyData.tuple [PyData.str ("await" : Str), PyData.str ("other" : Str)]), (("t0" : Str), PyData.tuple [PyData.str ("begin" : Str), PyData.str ("root" : Str)])]) = eL at t3 l3 ⊢
          refine wp_loop (fun rest ρ s => (∀ d ∈ rest, ∃ us, d = rowD us ∧ Turns us ∧ us.length ≤ 150) ∧ ∃ x2 x3 x4 x6 x7 x8 x9 x10 x11 x12 x13 x14, ρ = [some (.scr ns), some (.w (.r j)), x2, x3, x4, some (.w (.d (.list (nms.map .str)))), x6, x7, x8, x9, x10, x11, x12, x13, x14] ∧ Ok K j s) (fun d rest2 ρ s hi => ?_) (fun ρ s hi => ?_) _ _ _
            ⟨fun d hd => by
              simp only [List.mem_cons, List.not_mem_nil, or_false] at hd
              rcases hd with rfl | rfl | rfl
              · exact ⟨dL, rfl, t1, by omega⟩
              · exact ⟨bL, rfl, t2, by omega⟩
              · exact ⟨eL, rfl, t3, l3⟩, _, _, _, _, _, _, _, _, _, _, _, _, rfl, ok⟩
          · obtain ⟨hr2, x2, x3, x4, x6, x7, x8, x9, x10, x11, x12, x13, x14, rfl, ok⟩ := hi
            obtain ⟨us, rfl, hu1, hu2⟩ := hr2 _ List.mem_cons_self
            refine ⟨_, rfl, ?_⟩
            simp [sizeLine_eq]
            refine law_right_ok hu1 hu2 fits_other ok.t1 fun gb => ?_
            simp
            exact ⟨fun d hd => hr2 d (List.mem_cons_of_mem _ hd), ok.app gb⟩
          · obtain ⟨hr2, x2, x3, x4, x6, x7, x8, x9, x10, x11, x12, x13, x14, rfl, ok⟩ := hi
            first | exact ⟨fun d hd => hr d (List.mem_cons_of_mem _ hd), _, _, _, _, _, _, _, _, _, _, _, _, rfl, ok⟩ | exact ⟨fun d hd => hr d (List.mem_cons_of_mem _ hd), ⟨_, _, _, _, _, _, _, _, _, _, _, _, rfl⟩, ok⟩
        · obtain ⟨hr, x2, x3, x4, x6, x7, x8, x9, x10, x11, x12, x13, x14, rfl, ok⟩ := hi
          simp
  obtain ⟨w, st', e, rfl⟩ := wpM_ok key
  exact ⟨st', e⟩
end LK02
end
section
set_option Elab.async false
set_option linter.all false
set_option maxRecDepth 100000
set_option maxHeartbeats 0
set_option autoImplicit false
namespace LK02
open PySem PySem.Spec PyProof.Rows L2 Ev
/-! ## the head -/
abbrev R : PySem.W.OpenRow := PySem.W.OpenLaw.row PySem.Challenge.rw_heardtrees_k02_whole_rows_and_own_histor
abbrev hk : PySem.W.Hook := He.hookX 6 fa fn ts tf ex
def ob (s : PySem.W.SharedT) : He.AlX := He.obsX 6 fa fn ts tf ex (HandSHeadRun.getT s)
theorem ob_eq (s : PySem.W.SharedT) : ob s = hk.obs s.abs := He.obsX_eq (HandSHeadRun.getT_eq s)
def loose : List PySem.Str := [("__name__" : Str), ("HeardError" : Str), ("InvalidWord" : Str), ("InvalidRow" : Str), ("LETTERS" : Str), ("SIGNS" : Str), ("NAMES" : Str), ("VALUES" : Str), ("DEEDS" : Str), ("THREADS" : Str), ("fits_word" : Str), ("fits_value" : Str), ("fits_deed" : Str), ("fits_turn" : Str), ("all_threads" : Str), ("fits_row" : Str), ("own_of" : Str), ("need_word" : Str), ("need_row" : Str), ("is_row" : Str), ("own_history" : Str), ("threads_of" : Str), ("_law_cup" : Str), ("_law_roll" : Str), ("_law_some" : Str), ("_law_same" : Str), ("_law_word" : Str), ("_law_worth" : Str), ("_law_kinds" : Str), ("_law_row" : Str), ("_law_name" : Str), ("_law_right" : Str)]
abbrev RunAt (w : World) : Prop := HandSHeadRun.RunEq R (PySem.W.view R.prog [34]) hk ob 2000 loose w
theorem run0 (w : World) : RunAt (w.withFollow "special-get-raises" false) := by
  intro os
  kernel_rfl
theorem run1 (w : World) : RunAt (w.withFollow "special-get-raises" true) := by
  intro os
  kernel_rfl
theorem run (w : World) : RunAt w := by
  have e := World.withFollow_self w "special-get-raises"
  cases hb : w.params.followText "special-get-raises" with
  | false => rw [hb] at e; exact e ▸ run0 w
  | true => rw [hb] at e; exact e ▸ run1 w
end LK02
end
set_option Elab.async false
set_option linter.all false
set_option maxRecDepth 100000
set_option maxHeartbeats 0
set_option autoImplicit false
open PySem PySem.Spec PyProof.Rows L2 Ev LK02
theorem PySem.Challenge.cw_heardtrees_k02_whole_rows_and_own_histor_holds : PySem.Challenge.rw_heardtrees_k02_whole_rows_and_own_histor.Holds := by
  w_on
  o_law
  refine HandSHeadRun.head_any (r := R) (q := PySem.W.view R.prog [34]) (H := LK02.hk) (ob := LK02.ob) (M := 2000) (loose := LK02.loose) (d := HandSHeadRun.topDef R.prog 34) (kwd := []) ob_eq (by kernel_rfl) (fun s => by kernel_rfl) LK02.run (by kernel_rfl) (by kernel_rfl) (by kernel_rfl) (by rfl) (by first | assumption | decide +kernel) (by decide +kernel) ⟨rfl, rfl, rfl, rfl, rfl, by decide +kernel⟩ ?hw ?hc
  case hw => w_witness2
  case hc => exact walk_ofK (n := 63) (k := 11) (i := 22) (j := 40) rfl (by decide) rfl ⟨rfl, by decide, by decide⟩ rfl rfl rfl sc_law (by decide) bd_law (fun g _ c => does_law c) tnd (fun K ns hl _ => law_good K ns hl)
