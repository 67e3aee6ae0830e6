import PyProof.Rows.All
import Wide.All
import OpenK.AllK
import Wide.FinOn
import HandS.ForMost
import HandS.ExcOwn
import HandS.WordsExc
import HandS.TryMany
import HandS.Lambda
import HandS.TupAny
import HandS.TupMul
import HandS.Style
import HandS.IsInst
import HandS.Deep
import HandS.Wide
import HandS.Flow
import HandS.Text
import HandS.RaiseMore
import HandS.Walk
import HandS.SetFor
import KE.SortData
import HandS.HeadHook4
import HandS.EndTab
import HandS.Iter
import KE.GoesEnum
import HandS.Dict
import PyProof.Transfer
import PySem.Challenge.RW_heardtrees_k11_whole_first_bad_places
import HandS.Head0
import HandS.Head1
import HandS.Head2
import HandS.HeadEnd
section
set_option Elab.async false
set_option linter.all false
set_option maxRecDepth 100000
set_option autoImplicit false
namespace Ev
open PySem PySem.Spec PyProof.Rows L2

/-! ## values, store, outcomes -/
inductive W where
  | d (x : PyData)
  | r (i : Nat)
inductive SO where
  | lst (xs : List W)
  | dic (kvs : List (Key × W))
  | dead
  | tab (P : Addr) (q : Str)
def SO.dd : SO → Bool
  | .dead => true
  | _ => false
abbrev Sto := List SO
structure Ex where
  cls : Str
  flds : List (Str × PyData)
inductive R (α : Type) where
  | ok (a : α) (st : Sto)
  | ex (x : Ex) (st : Sto)
  | bad
def M (α : Type) := Sto → R α
def ret {α : Type} (a : α) : M α := fun st => .ok a st
def bnd {α β : Type} (m : M α) (f : α → M β) : M β := fun st => match m st with
  | .ok a st' => f a st'
  | .ex x st' => .ex x st'
  | .bad => .bad
def bad {α : Type} : M α := fun _ => .bad
instance : Monad M where
  pure := ret
  bind := bnd
/-- a function at f, made where F was known, m the store -/
structure Cl where
  f : Addr
  F : Hp
  m : List Addr
inductive Sl where
  | w (x : W)
  | fn (c : Cl)
  | scr (ns : List Int)
abbrev Env := List (Option Sl)
inductive Fl where
  | nx (ρ : Env)
  | rt (x : W)
  | bk (ρ : Env)
  | ct (ρ : Env)
inductive RS where
  | go (f : Fl) (st : Sto)
  | ex (x : Ex) (ρ : Env) (st : Sto)
  | bad
def S := Env → Sto → RS

/-! ## what stands for what -/
mutual
inductive Dq (K : PySem.W.Frag) (F : Hp) : V → PyData → Prop
  | non : Dq K F .non .none
  | bl (b : Bool) : Dq K F (.bl b) (.bool b)
  | int (i : Int) : Dq K F (.int i) (.int i)
  | str (x : Str) : Dq K F (.str x) (.str x)
  | lst {a : Addr} {xs : List V} {ds : List PyData} : F a = some (.lst xs) → DqAll K F xs ds → Dq K F (.ref a) (.list ds)
  | tup {a : Addr} {xs : List V} {ds : List PyData} : SqT K F a xs → DqAll K F xs ds → Dq K F (.ref a) (.tuple ds)
inductive DqAll (K : PySem.W.Frag) (F : Hp) : List V → List PyData → Prop
  | nil : DqAll K F [] []
  | cons {v : V} {vs : List V} {d : PyData} {ds : List PyData} : Dq K F v d → DqAll K F vs ds → DqAll K F (v :: vs) (d :: ds)
end
section
variable {K : PySem.W.Frag} {F F' : Hp}
theorem seqT_mono (s : Same F F') {a : Addr} {xs : List V} (h : SqT K F a xs) : SqT K F' a xs := by
  rcases h with (h | ⟨o, h⟩) | h
  · exact .inl (.inl (s _ _ h))
  · exact .inl (.inr ⟨o, s _ _ h⟩)
  · exact .inr h
theorem seqL_mono (s : Same F F') {a : Addr} {xs : List V} (h : SqL K F a xs) : SqL K F' a xs := by
  rcases h with (h | ⟨o, h⟩) | h
  · exact .inl (.inl (s _ _ h))
  · exact .inl (.inr ⟨o, s _ _ h⟩)
  · exact .inr h
mutual
theorem Dq.mono (s : Same F F') : ∀ {v : V} {d : PyData}, Dq K F v d → Dq K F' v d
  | _, _, .non => .non
  | _, _, .bl b => .bl b
  | _, _, .int i => .int i
  | _, _, .str x => .str x
  | _, _, .lst h t => .lst (s _ _ h) (DqAll.mono s t)
  | _, _, .tup h t => .tup (seqT_mono s h) (DqAll.mono s t)
theorem DqAll.mono (s : Same F F') : ∀ {vs : List V} {ds : List PyData}, DqAll K F vs ds → DqAll K F' vs ds
  | _, _, .nil => .nil
  | _, _, .cons h t => .cons (Dq.mono s h) (DqAll.mono s t)
end
mutual
theorem Dq.dp : ∀ {v : V} {d : PyData}, Dq K F v d → Dp K F v d
  | _, _, .non => .non
  | _, _, .bl b => .bl b
  | _, _, .int i => .int i
  | _, _, .str x => .str x
  | _, _, .lst h t => .lst (SqL.of h) (DqAll.dp t)
  | _, _, .tup h t => .tup h (DqAll.dp t)
theorem DqAll.dp : ∀ {vs : List V} {ds : List PyData}, DqAll K F vs ds → DpAll K F vs ds
  | _, _, .nil => .nil
  | _, _, .cons h t => .cons (Dq.dp h) (DqAll.dp t)
end
theorem DqAll.length : ∀ {vs : List V} {ds : List PyData}, DqAll K F vs ds → vs.length = ds.length
  | _, _, .nil => rfl
  | _, _, .cons _ t => congrArg (· + 1) (DqAll.length t)
theorem DqAll.get : ∀ {vs : List V} {ds : List PyData} {i : Nat} {d : PyData}, DqAll K F vs ds → ds[i]? = some d → ∃ v, vs[i]? = some v ∧ Dq K F v d
  | _, _, _, _, .nil, e => by simp at e
  | _, _, 0, d, .cons (v := v) h _, e => ⟨v, rfl, by have e' := Option.some.inj e; rw [← e']; exact h⟩
  | _, _, i + 1, d, .cons _ t, e => by
    obtain ⟨v, h1, h2⟩ := DqAll.get (i := i) (d := d) t (by simpa using e)
    exact ⟨v, by simpa using h1, h2⟩
theorem DqAll.get' : ∀ {vs : List V} {ds : List PyData} {i : Nat} {v : V}, DqAll K F vs ds → vs[i]? = some v → ∃ d, ds[i]? = some d ∧ Dq K F v d
  | _, _, _, _, .nil, e => by simp at e
  | _, _, 0, v, .cons (d := d) h _, e => ⟨d, rfl, by have e' := Option.some.inj e; rw [← e']; exact h⟩
  | _, _, i + 1, v, .cons _ t, e => by
    obtain ⟨d, h1, h2⟩ := DqAll.get' (i := i) (v := v) t (by simpa using e)
    exact ⟨d, by simpa using h1, h2⟩
theorem DqAll.append : ∀ {vs ws : List V} {ds es : List PyData}, DqAll K F vs ds → DqAll K F ws es → DqAll K F (vs ++ ws) (ds ++ es)
  | _, _, _, _, .nil, h => h
  | _, _, _, _, .cons h t, h' => .cons h (DqAll.append t h')
theorem DqAll.take : ∀ {vs : List V} {ds : List PyData} (n : Nat), DqAll K F vs ds → DqAll K F (vs.take n) (ds.take n)
  | _, _, 0, _ => by simp; exact .nil
  | _, _, _ + 1, .nil => .nil
  | _, _, n + 1, .cons h t => .cons h (DqAll.take n t)
theorem DqAll.drop : ∀ {vs : List V} {ds : List PyData} (n : Nat), DqAll K F vs ds → DqAll K F (vs.drop n) (ds.drop n)
  | _, _, 0, h => h
  | _, _, _ + 1, .nil => .nil
  | _, _, n + 1, .cons _ t => DqAll.drop n t
end

/-- the ground: program, world, what the top has written -/
structure Gd where
  P : Program
  w : World
  K : PySem.W.Frag
  mg : Str → Option Value
  base : Heap
abbrev gd (X : Cx) : Gd := ⟨X.prog, X.w, X.K, X.mg, X.base⟩

def WR (K : PySem.W.Frag) (F : Hp) (m : List Addr) : W → V → Prop
  | .d x, v => Dq K F v x
  | .r i, v => ∃ a, m[i]? = some a ∧ v = .ref a
abbrev WRs (K : PySem.W.Frag) (F : Hp) (m : List Addr) : List W → List V → Prop := Paired (WR K F m)
def SR (K : PySem.W.Frag) (F : Hp) (m : List Addr) (H : Hp) (a : Addr) : SO → Prop
  | .lst ws => ∃ vs, H a = some (.lst vs) ∧ WRs K F m ws vs
  | .dic kvs => ∃ ps, H a = some (.dK ps) ∧ Paired (fun (p : Key × W) (q : Key × V) => p.1 = q.1 ∧ WR K F m p.2 q.2) kvs ps
  | .dead => ∃ vs, H a = some (.lst vs)
  | .tab P q => a = P ∧ ∃ ps, H a = some (.tbl ps) ∧ TriplesOk ps.toList ∧ ∀ (pos : Pos) (cv : Value), codeAmong pos ps.toList = some cv → ∃ c, cv = .ref c ∧ F c = some (LamX.CodeO c q)
structure Rel (K : PySem.W.Frag) (F : Hp) (m : List Addr) (st : Sto) (H : Hp) : Prop where
  sub : Same F H
  len : m.length = st.length
  nd : m.Nodup
  out : ∀ (i : Nat) (a : Addr) (so : SO), m[i]? = some a → st[i]? = some so → so.dd = false → F a = none
  here : ∀ a ∈ m, ∃ o, H a = some o
  obj : ∀ (i : Nat) (a : Addr) (so : SO), m[i]? = some a → st[i]? = some so → SR K F m H a so
  nt : ∀ (b : Addr) (ps : Array Value), F b ≠ some (.tbl ps)
def ExR (K : PySem.W.Frag) (mg : Str → Option Value) (F H : Hp) (x : Ex) (cls : Value) (dd : Option Addr) : Prop :=
  ∃ C, mg x.cls = some (.ref C) ∧ cls = .ref C ∧ ((x.flds = [] ∧ dd = none) ∨
    (∃ d fs, dd = some d ∧ H d = some (.xd fs) ∧ Paired (fun (p : Str × PyData) (q : Str × V) => p.1 = q.1 ∧ Dq K F q.2 p.2) x.flds fs))
/-- an outcome, what is wanted behind it -/
def After (K : PySem.W.Frag) (mg : Str → Option Value) (F : Hp) (m : List Addr) (E : XK) {α : Type} (r : R α) (Q : α → Hp → List Addr → Hp → Prop) : Prop :=
  match r with
  | .ok a st => ∀ F' m' H', Same F F' → m <+: m' → Rel K F' m' st H' → Q a F' m' H'
  | .ex x st => ∀ F' m' H' cls dd, Same F F' → m <+: m' → Rel K F' m' st H' → ExR K mg F' H' x cls dd → E cls dd H'
  | .bad => False
def SlR (g : Gd) (F : Hp) (m : List Addr) : Sl → V → Prop
  | .w x, v => WR g.K F m x v
  | .fn c, v => v = .ref c.f ∧ Same c.F F ∧ c.m <+: m
  | .scr ns, v => ∃ a, v = .ref a ∧ SqL g.K F a (ns.map V.int)
structure EnvR (g : Gd) (F : Hp) (m : List Addr) (ρ : Env) (σ : L2.St) : Prop where
  len : ρ.length = σ.length
  at_ : ∀ (i : Nat) (x : Sl), ρ[i]? = some (some x) → ∃ v, σ[i]? = some (some v) ∧ SlR g F m x v

section
variable {K : PySem.W.Frag} {F F' F2 : Hp} {m m' m2 : List Addr} {g : Gd}
theorem pre_trans {m m' m2 : List Addr} (a : m <+: m') (b : m' <+: m2) : m <+: m2 := List.IsPrefix.trans a b
theorem pre_get {m m' : List Addr} (p : m <+: m') {i : Nat} {a : Addr} (h : m[i]? = some a) : m'[i]? = some a := by
  obtain ⟨t, rfl⟩ := p
  have hi := (List.getElem?_eq_some_iff.mp h).1
  rw [List.getElem?_append_left hi]; exact h
theorem WR.mono (s : Same F F') (p : m <+: m') : ∀ {x : W} {v : V}, WR K F m x v → WR K F' m' x v
  | .d x, v, h => Dq.mono s h
  | .r i, v, ⟨a, h, e⟩ => ⟨a, pre_get p h, e⟩
theorem WRs.mono (s : Same F F') (p : m <+: m') : ∀ {xs : List W} {vs : List V}, WRs K F m xs vs → WRs K F' m' xs vs
  | _, _, .nil => .nil
  | _, _, .cons h t => .cons (h.mono s p) (WRs.mono s p t)
theorem SlR.mono (s : Same F F') (p : m <+: m') : ∀ {x : Sl} {v : V}, SlR g F m x v → SlR g F' m' x v
  | .w x, v, h => WR.mono s p h
  | .fn c, v, ⟨e, s1, p1⟩ => ⟨e, s1.trans s, pre_trans p1 p⟩
  | .scr ns, v, ⟨a, e, h⟩ => ⟨a, e, seqL_mono s h⟩
theorem EnvR.mono (s : Same F F') (p : m <+: m') {ρ : Env} {σ : L2.St} (h : EnvR g F m ρ σ) : EnvR g F' m' ρ σ :=
  ⟨h.len, fun i x e => let ⟨v, h1, h2⟩ := h.at_ i x e; ⟨v, h1, h2.mono s p⟩⟩
theorem EnvR.set {ρ : Env} {σ : L2.St} (h : EnvR g F m ρ σ) (i : Nat) {x : Sl} {v : V} (r : SlR g F m x v) : EnvR g F m (ρ.set i (some x)) (σ.set i (some v)) := by
  refine ⟨by rw [List.length_set, List.length_set]; exact h.len, fun j y e => ?_⟩
  by_cases hj : i = j
  · subst hj
    by_cases hi : i < ρ.length
    · rw [List.getElem?_set_self hi] at e
      have e' := Option.some.inj (Option.some.inj e)
      subst e'
      exact ⟨v, by rw [List.getElem?_set_self (by rw [← h.len]; exact hi)], r⟩
    · rw [List.getElem?_eq_none (by rw [List.length_set]; omega)] at e
      cases e
  · rw [List.getElem?_set_ne hj] at e
    obtain ⟨v', h1, h2⟩ := h.at_ j y e
    exact ⟨v', by rw [List.getElem?_set_ne hj]; exact h1, h2⟩
theorem EnvR.unset {ρ : Env} {σ : L2.St} (h : EnvR g F m ρ σ) (i : Nat) {v : Option V} : EnvR g F m (ρ.set i none) (σ.set i v) := by
  refine ⟨by rw [List.length_set, List.length_set]; exact h.len, fun j y e => ?_⟩
  by_cases hj : i = j
  · subst hj
    by_cases hi : i < ρ.length
    · rw [List.getElem?_set_self hi] at e
      cases Option.some.inj e
    · rw [List.getElem?_eq_none (by rw [List.length_set]; omega)] at e
      cases e
  · rw [List.getElem?_set_ne hj] at e
    obtain ⟨v', h1, h2⟩ := h.at_ j y e
    exact ⟨v', by rw [List.getElem?_set_ne hj]; exact h1, h2⟩
theorem Rel.refl_pre {m : List Addr} : m <+: m := List.prefix_refl m
end
section
variable {K : PySem.W.Frag} {mg : Str → Option Value} {F F' : Hp} {m m' : List Addr} {E : XK} {α β : Type}
theorem After.mono (s : Same F F') (p : m <+: m') {r : R α} {Q Q' : α → Hp → List Addr → Hp → Prop} (h : After K mg F m E r Q) (hq : ∀ a F2 m2 H2, Same F' F2 → m' <+: m2 → Q a F2 m2 H2 → Q' a F2 m2 H2) : After K mg F' m' E r Q' := by
  cases r with
  | ok a st => exact fun F2 m2 H2 s2 p2 r2 => hq _ _ _ _ s2 p2 (h F2 m2 H2 (s.trans s2) (pre_trans p p2) r2)
  | ex x st => exact fun F2 m2 H2 c d s2 p2 r2 e => h F2 m2 H2 c d (s.trans s2) (pre_trans p p2) r2 e
  | bad => exact h
/-- one behind another -/
theorem After.bnd {x : M α} {f : α → M β} {st : Sto} {Q : β → Hp → List Addr → Hp → Prop} (h : After K mg F m E (bnd x f st) Q) :
    After K mg F m E (x st) (fun a F' m' H' => ∃ st', Same F F' ∧ m <+: m' ∧ Rel K F' m' st' H' ∧ After K mg F' m' E (f a st') Q) := by
  have h : After K mg F m E (match x st with | .ok a st' => f a st' | .ex x st' => .ex x st' | .bad => .bad) Q := h
  cases e : x st with
  | ok a st' =>
    rw [e] at h
    exact fun F2 m2 H2 s2 p2 r2 => ⟨st', s2, p2, r2, After.mono s2 p2 h fun _ _ _ _ _ _ q => q⟩
  | ex y st' => rw [e] at h; exact h
  | bad => rw [e] at h; exact h
theorem After.here {a : α} {st : Sto} {H : Hp} {Q : α → Hp → List Addr → Hp → Prop} (h : After K mg F m E (.ok a st) Q) (r : Rel K F m st H) : Q a F m H := h F m H (Same.refl F) (List.prefix_refl m) r
end

/-! ## the judgements -/
def tM (X : Cx) (Wx : WX) (f : Env → M W) : TE := fun σ H Q => ∃ F m st ρ, EnvR (gd X) F m ρ σ ∧ Rel X.K F m st H ∧
  After X.K X.mg F m (fun c d H' => Wx c d σ H') (f ρ st) (fun w F' m' H' => ∀ v, WR X.K F' m' w v → Q v H')
def tB (X : Cx) (Wx : WX) (f : Env → M Bool) : TT := fun σ H Q => ∃ F m st ρ, EnvR (gd X) F m ρ σ ∧ Rel X.K F m st H ∧
  After X.K X.mg F m (fun c d H' => Wx c d σ H') (f ρ st) (fun b F' m' H' => Q b H')
def tA (X : Cx) (Wx : WX) (f : Env → M (List W)) : TA := fun σ H Q => ∃ F m st ρ, EnvR (gd X) F m ρ σ ∧ Rel X.K F m st H ∧
  After X.K X.mg F m (fun c d H' => Wx c d σ H') (f ρ st) (fun ws F' m' H' => ∀ vs, WRs X.K F' m' ws vs → Q vs H')
def AfterS (g : Gd) (F : Hp) (m : List Addr) (Wx : WX) (r : RS) (D : Ends) : Prop :=
  match r with
  | .go (.nx ρ) st => ∀ F' m' H' σ', Same F F' → m <+: m' → Rel g.K F' m' st H' → EnvR g F' m' ρ σ' → D.nx σ' H'
  | .go (.bk ρ) st => ∀ F' m' H' σ', Same F F' → m <+: m' → Rel g.K F' m' st H' → EnvR g F' m' ρ σ' → D.bk σ' H'
  | .go (.ct ρ) st => ∀ F' m' H' σ', Same F F' → m <+: m' → Rel g.K F' m' st H' → EnvR g F' m' ρ σ' → D.ct σ' H'
  | .go (.rt w) st => ∀ F' m' H' v, Same F F' → m <+: m' → Rel g.K F' m' st H' → WR g.K F' m' w v → D.rt v H'
  | .ex x ρ st => ∀ F' m' H' σ' cls dd, Same F F' → m <+: m' → Rel g.K F' m' st H' → EnvR g F' m' ρ σ' → ExR g.K g.mg F' H' x cls dd → Wx cls dd σ' H'
  | .bad => False
def tS (X : Cx) (Wx : WX) (f : S) : TS := fun D σ H => ∃ F m st ρ, EnvR (gd X) F m ρ σ ∧ Rel X.K F m st H ∧ AfterS (gd X) F m Wx (f ρ st) D
abbrev SE (X : Cx) (Wx : WX) (e : Expr) (f : Env → M W) : Prop := PE X e (tM X Wx f)
abbrev SB (X : Cx) (Wx : WX) (e : Expr) (f : Env → M Bool) : Prop := PT X e (tB X Wx f)
abbrev SA (X : Cx) (Wx : WX) (es : List Expr) (f : Env → M (List W)) : Prop := PA X es (tA X Wx f)
abbrev SS (X : Cx) (Wx : WX) (st : Stmt) (f : S) : Prop := PS X st (tS X Wx f)
abbrev SSs (X : Cx) (Wx : WX) (st : List Stmt) (f : S) : Prop := PSs X st (tS X Wx f)
theorem PE.imp {X : Cx} {e : Expr} {t t' : TE} (h : PE X e t) (k : ∀ σ H Q, t' σ H Q → t σ H Q) : PE X e t' := ⟨fun pins s σ H Q I q => h.run pins s σ H Q I (k σ H Q q)⟩
theorem PT.imp {X : Cx} {e : Expr} {t t' : TT} (h : PT X e t) (k : ∀ σ H Q, t' σ H Q → t σ H Q) : PT X e t' := ⟨fun pins s σ H Q I q => h.run pins s σ H Q I (k σ H Q q)⟩
theorem PA.imp {X : Cx} {e : List Expr} {t t' : TA} (h : PA X e t) (k : ∀ σ H Q, t' σ H Q → t σ H Q) : PA X e t' := ⟨fun pos pins s σ H Q I q => h.run pos pins s σ H Q I (k σ H Q q)⟩
theorem PS.imp {X : Cx} {e : Stmt} {t t' : TS} (h : PS X e t) (k : ∀ D σ H, t' D σ H → t D σ H) : PS X e t' := ⟨fun pins s σ H D I q => h.run pins s σ H D I (k D σ H q)⟩
theorem PSs.imp {X : Cx} {e : List Stmt} {t t' : TS} (h : PSs X e t) (k : ∀ D σ H, t' D σ H → t D σ H) : PSs X e t' := ⟨fun pins s σ H D I q => h.run pins s σ H D I (k D σ H q)⟩
/-- a value's operator: what the plain function says of two values (the store stays) -/
def rM (X : Cx) (op : Sto → W → W → Option W) : R2 := fun x y H Q => ∃ F m st a b w, WR X.K F m a x ∧ WR X.K F m b y ∧ Rel X.K F m st H ∧ op st a b = some w ∧
  ∀ F' m' H' v, Same F F' → m <+: m' → Rel X.K F' m' st H' → WR X.K F' m' w v → Q v H'
def OpM (X : Cx) (f : Value → Value → Sem Value) (op : Sto → W → W → Option W) : Prop := OpR X f (rM X op)
/-- an operator's answer, the store as it is -/
def liftO {α : Type} (o : Sto → Option α) : M α := fun st => match o st with
  | some w => .ok w st
  | none => .bad
section
variable {X : Cx} {Wx : WX} {e a b : Expr} {pos : Pos} {f fa fb : Env → M W}

def getV (i : Nat) (ρ : Env) : M W := fun st => match ρ[i]? with
  | some (some (.w w)) => .ok w st
  | _ => .bad
theorem se_var (i : Nat) {x : Str} (hN : X.N[i]? = some x := by rfl) (hv : Vis X.env.scope x := by first | exact Or.inl rfl | exact Or.inr (Or.inl rfl) | exact Or.inr (Or.inr rfl)) (hd : (x == ("__debug__" : Str)) = false := by decide)
    (hcd : (x == ("__classdict__" : Str)) = false := by decide) : SE X Wx (.Name x pos) (getV i) := by
  refine PE.imp (pe_var hN hv hd hcd) fun σ H Q h => ?_
  obtain ⟨F, m, st, ρ, er, rl, h⟩ := h
  unfold getV at h
  split at h
  · rename_i w hw
    obtain ⟨v, e1, e2⟩ := er.at_ i _ hw
    exact ⟨v, e1, After.here h rl v e2⟩
  · exact h.elim
theorem se_int {i : Int} {j : Nat} : SE X Wx (.Constant (.int i) j pos) (fun _ => ret (.d (.int i))) := by
  refine PE.imp pe_int fun σ H Q h => ?_
  obtain ⟨F, m, st, ρ, er, rl, h⟩ := h
  exact After.here h rl _ (.int i)
theorem se_str {i : Str} {j : Nat} : SE X Wx (.Constant (.str i) j pos) (fun _ => ret (.d (.str i))) := by
  refine PE.imp pe_str fun σ H Q h => ?_
  obtain ⟨F, m, st, ρ, er, rl, h⟩ := h
  exact After.here h rl _ (.str i)
theorem se_bool {i : Bool} {j : Nat} : SE X Wx (.Constant (.bool i) j pos) (fun _ => ret (.d (.bool i))) := by
  refine PE.imp pe_bl fun σ H Q h => ?_
  obtain ⟨F, m, st, ρ, er, rl, h⟩ := h
  exact After.here h rl _ (.bl i)
theorem se_none {j : Nat} : SE X Wx (.Constant .none j pos) (fun _ => ret (.d .none)) := by
  refine PE.imp pe_non fun σ H Q h => ?_
  obtain ⟨F, m, st, ρ, er, rl, h⟩ := h
  exact After.here h rl _ .non
theorem After.liftO {K : PySem.W.Frag} {mg : Str → Option Value} {F : Hp} {m : List Addr} {E : XK} {α : Type} {o : Sto → Option α} {st : Sto} {Q : α → Hp → List Addr → Hp → Prop} (h : After K mg F m E (liftO o st) Q) :
    ∃ w, o st = some w ∧ ∀ F' m' H', Same F F' → m <+: m' → Rel K F' m' st H' → Q w F' m' H' := by
  unfold Ev.liftO at h
  cases e : o st with
  | none => rw [e] at h; exact h.elim
  | some w => rw [e] at h; exact ⟨w, rfl, h⟩
/-- two expressions, then an operator -/
def bin (op : Sto → W → W → Option W) (fa fb : Env → M W) : Env → M W := fun ρ => bnd (fa ρ) fun x => bnd (fb ρ) fun y => liftO fun st => op st x y
theorem tM_op {op : Sto → W → W → Option W} {r : R2} (hr : ∀ x y H Q, rM X op x y H Q → r x y H Q) {σ : L2.St} {H : Hp} {Q : VK}
    (h : tM X Wx (bin op fa fb) σ H Q) : tOp r (tM X Wx fa) (tM X Wx fb) σ H Q := by
  obtain ⟨F, m, st, ρ, er, rl, h⟩ := h
  refine ⟨F, m, st, ρ, er, rl, After.mono (Same.refl F) (List.prefix_refl m) h.bnd fun x F1 m1 H1 s1 p1 ⟨st1, _, _, rl1, h1⟩ v r1 => ?_⟩
  refine ⟨F1, m1, st1, ρ, er.mono s1 p1, rl1, After.mono (Same.refl F1) (List.prefix_refl m1) h1.bnd fun y F2 m2 H2 s2 p2 ⟨st2, _, _, rl2, h2⟩ u r2 => ?_⟩
  obtain ⟨w, e, q⟩ := h2.liftO
  exact hr _ _ _ _ ⟨F2, m2, st2, x, y, w, r1.mono s2 p2, r2, rl2, e, fun F' m' H' v s p r hv => q F' m' H' s p r v hv⟩
theorem se_op {o : Operator} {op : Sto → W → W → Option W} (ho : OpM X (binaryOp o) op) (ha : SE X Wx a fa) (hb : SE X Wx b fb) :
    SE X Wx (.BinOp a o b pos) (bin op fa fb) :=
  PE.imp (pe_op ho ha hb) fun σ H Q h => tM_op (fun _ _ _ _ q => q) h
theorem se_cmp {o : CmpOp} {op : Sto → W → W → Option W} (ho : OpM X (compareOp o) op) (ha : SE X Wx a fa) (hb : SE X Wx b fb) (hm : behindInMarks o b = false) :
    SE X Wx (.Compare a [o] [b] pos) (bin op fa fb) :=
  PE.imp (pe_cmpR ho ha hb hm) fun σ H Q h => tM_op (fun _ _ _ _ q => q) h
end
end Ev
end
section
set_option Elab.async false
set_option linter.all false
set_option maxRecDepth 100000
set_option autoImplicit false
namespace Ev
open PySem PySem.Spec PyProof.Rows L2
section
variable {K : PySem.W.Frag} {F : Hp} {m : List Addr} {st : Sto} {H : Hp} {p : Addr} {o : HO} {Q : VK} {w : W}
theorem Rel.free (rl : Rel K F m st H) (hp : H p = none) : F p = none := Same.free rl.sub hp
theorem same_new (rl : Rel K F m st H) (hp : H p = none) : Same F (upd F p o) := fun a u e => by
  rw [upd_ne (ne_of_none e (rl.free hp))]; exact e
theorem SR.keep {F F' H H' : Hp} {m m' : List Addr} {a : Addr} (s : Same F F') (pr : m <+: m') (e : H' a = H a) : ∀ {so : SO}, SR K F m H a so → SR K F' m' H' a so
  | .lst ws, ⟨vs, h1, h2⟩ => ⟨vs, by rw [e]; exact h1, h2.mono s pr⟩
  | .dic kvs, ⟨ps, h1, h2⟩ => ⟨ps, by rw [e]; exact h1, Paired.mapP h2 fun _ _ ⟨x, y⟩ => ⟨x, y.mono s pr⟩⟩
  | .dead, ⟨o, h1⟩ => ⟨o, by rw [e]; exact h1⟩
  | .tab P q, ⟨ea, ps, h1, h2, h3⟩ => ⟨ea, ps, by rw [e]; exact h1, h2, fun p cv h => let ⟨c, e1, e2⟩ := h3 p cv h; ⟨c, e1, s _ _ e2⟩⟩
theorem Rel.new (rl : Rel K F m st H) (hp : H p = none) (ho : ∀ ps, o ≠ .tbl ps := by nofun) : Rel K (upd F p o) m st (upd H p o) := by
  have nm : ∀ a ∈ m, a ≠ p := fun a ha e => by
    obtain ⟨u, hu⟩ := rl.here a ha
    rw [e, hp] at hu; cases hu
  refine ⟨fun a u e => ?_, rl.len, rl.nd, fun i a so e1 e2 e3 => by rw [upd_ne (nm a (List.mem_of_getElem? e1))]; exact rl.out i a so e1 e2 e3, fun a ha => by rw [upd_ne (nm a ha)]; exact rl.here a ha, fun i a so h1 h2 => ?_, fun b ps z => ?_⟩
  · by_cases ha : a = p
    · subst ha; rw [upd_same] at e ⊢; exact e
    · rw [upd_ne ha] at e ⊢; exact rl.sub a u e
  · exact (rl.obj i a so h1 h2).keep (same_new rl hp) (List.prefix_refl m) (upd_ne (nm a (List.mem_of_getElem? h1)))
  · by_cases hb : b = p
    · subst hb; rw [upd_same] at z; exact ho ps (Option.some.inj z)
    · rw [upd_ne hb] at z; exact rl.nt b ps z
abbrev QV (K : PySem.W.Frag) (F : Hp) (m : List Addr) (st : Sto) (Q : VK) (w : W) : Prop := ∀ F' m' H' v, Same F F' → m <+: m' → Rel K F' m' st H' → WR K F' m' w v → Q v H'
theorem rM_ok (h : QV K F m st Q w) (rl : Rel K F m st H) {v : V} (hv : WR K F m w v) : Q v H := h F m H v (Same.refl F) (List.prefix_refl m) rl hv
theorem rM_new (h : QV K F m st Q w) (rl : Rel K F m st H) (hp : H p = none) {v : V} (hv : WR K (upd F p o) m w v) (ho : ∀ ps, o ≠ .tbl ps := by nofun) : Q v (upd H p o) :=
  h _ _ _ v (same_new rl hp) (List.prefix_refl m) (rl.new hp ho) hv
theorem rM_tup {ds : List PyData} (h : QV K F m st Q (.d (.tuple ds))) (rl : Rel K F m st H) (hp : H p = none) {vs : List V} (hv : DqAll K F vs ds) : Q (.ref p) (upd H p (.tup vs)) :=
  rM_new h rl hp (show Dq _ _ _ _ from .tup (SqT.of upd_same) (hv.mono (same_new rl hp)))
theorem rM_lst {ds : List PyData} (h : QV K F m st Q (.d (.list ds))) (rl : Rel K F m st H) (hp : H p = none) {vs : List V} (hv : DqAll K F vs ds) : Q (.ref p) (upd H p (.lst vs)) :=
  rM_new h rl hp (show Dq _ _ _ _ from .lst upd_same (hv.mono (same_new rl hp)))
theorem dq_int {v : V} {i : Int} (h : WR K F m (.d (.int i)) v) : v = .int i := by cases (show Dq K F v (.int i) from h); rfl
theorem dq_str {v : V} {i : Str} (h : WR K F m (.d (.str i)) v) : v = .str i := by cases (show Dq K F v (.str i) from h); rfl
theorem dq_bool {v : V} {i : Bool} (h : WR K F m (.d (.bool i)) v) : v = .bl i := by cases (show Dq K F v (.bool i) from h); rfl
theorem dq_none {v : V} (h : WR K F m (.d .none) v) : v = .non := by cases (show Dq K F v .none from h); rfl
theorem dq_tup {v : V} {ds : List PyData} (h : WR K F m (.d (.tuple ds)) v) : ∃ a xs, v = .ref a ∧ SqT K F a xs ∧ DqAll K F xs ds := by
  cases (show Dq K F v (.tuple ds) from h) with | tup h1 t => exact ⟨_, _, rfl, h1, t⟩
theorem dq_lst {v : V} {ds : List PyData} (h : WR K F m (.d (.list ds)) v) : ∃ a xs, v = .ref a ∧ F a = some (.lst xs) ∧ DqAll K F xs ds := by
  cases (show Dq K F v (.list ds) from h) with | lst h1 t => exact ⟨_, _, rfl, h1, t⟩
theorem Dp.mono' {F F' : Hp} (s : Same F F') {v : V} {d : PyData} (h : Dq K F v d) : Dp K F' v d := (h.mono s).dp
end

/-! ## operators -/
def repL {α : Type} (n : Nat) (xs : List α) : List α := (List.replicate n xs).flatten
theorem foldl_cat {α : Type} : ∀ (l : List (Array α)) (a : Array α), l.foldl (· ++ ·) a = (a.toList ++ (l.map Array.toList).flatten).toArray
  | [], a => by simp
  | b :: l, a => by
    rw [List.foldl_cons, foldl_cat l (a ++ b)]
    simp
theorem rep_cps (n : Nat) (x : Str) : (⟨(List.replicate n x.cps).foldl (· ++ ·) #[]⟩ : Str) = ⟨(repL n x.cps.toList).toArray⟩ := by
  rw [foldl_cat]
  simp [repL]
theorem op_repS {X : Cx} : OpR X (binaryOp .Mult) (fun x y H Q => ∃ z k, x = .str z ∧ y = .int k ∧ -1000000 ≤ k ∧ k ≤ 1000000 ∧ z.length ≤ 1000000 ∧ z.length * k.toNat ≤ sizeLine ∧ Q (.str ⟨(repL k.toNat z.cps.toList).toArray⟩) H) := by
  intro pins s σ H x y v u Q I rx ry h
  obtain ⟨z, k, rfl, rfl, h1, h2, h3, h4, q⟩ := h
  obtain ⟨t, rfl⟩ := rx
  obtain ⟨t', rfl⟩ := ry
  have e0 : (decide (k < -(2 ^ 63 : Int)) || decide (k ≥ 2 ^ 63)) = false := by
    have a : ¬ k < -(2 ^ 63 : Int) := by omega
    have b : ¬ k ≥ 2 ^ 63 := by omega
    rw [decide_eq_false a, decide_eq_false b]; rfl
  refine P.mul_str e0 (fun hk _ => ?_) (fun hk _ => ?_) ?_
  · have : (1000000 : Int) ≤ (2 ^ 63 - 1) / k := by
      refine Int.le_ediv_of_mul_le (by omega) ?_
      have a1 : (1000000 : Int) * k ≤ 1000000 * 1000000 := Int.mul_le_mul_of_nonneg_left h2 (by omega)
      omega
    omega
  · unfold Builtin.Str.tooLong
    exact decide_eq_false (by omega)
  · split
    · rename_i hk
      have e : k.toNat = 0 := by omega
      rw [e] at q
      exact ⟨by decide, ⟨.str ⟨(repL 0 z.cps.toList).toArray⟩, H, I.tok _, ⟨_, rfl⟩, q⟩⟩
    · split
      · rename_i hk hc
        have e : (⟨(repL k.toNat z.cps.toList).toArray⟩ : Str) = z := by
          rcases Bool.or_eq_true_iff.mp hc with c | c
          · have : k = 1 := by simpa using c
            subst this
            simp [repL]
          · have h0 : z.cps.toList = [] := List.eq_nil_of_length_eq_zero (by simpa [Str.length] using c)
            have h00 : z.cps = #[] := by simpa using h0
            cases z with | mk cps =>
              simp only at h00
              subst h00
              simp [repL]
        rw [e] at q
        exact ⟨.str z, H, I, ⟨_, rfl⟩, q⟩
      · rw [rep_cps]
        refine ⟨?_, ⟨.str ⟨(repL k.toNat z.cps.toList).toArray⟩, H, I.tok _, ⟨_, rfl⟩, q⟩⟩
        show _ ≤ sizeLine
        refine Nat.le_trans (Nat.le_of_eq ?_) h4
        show (List.toArray _).size = _
        rw [List.size_toArray, repL, PyProof.Rows.lm_len_rep_flat]
        simp [Str.length, Nat.mul_comm]
def addD : PyData → PyData → Option PyData
  | .int i, .int j => some (.int (i + j))
  | .str x, .str y => if x.length + y.length ≤ sizeLine then some (.str (x ++ y)) else none
  | .tuple xs, .tuple ys => if xs.length + ys.length ≤ sizeLine then some (.tuple (xs ++ ys)) else none
  | .list xs, .list ys => if xs.length + ys.length ≤ sizeLine then some (.list (xs ++ ys)) else none
  | _, _ => none
def subD : PyData → PyData → Option PyData
  | .int i, .int j => some (.int (i - j))
  | _, _ => none
def mulD : PyData → PyData → Option PyData
  | .int i, .int j => if (-(2 ^ 64) < i ∧ i < 2 ^ 64) ∨ (-(2 ^ 64) < j ∧ j < 2 ^ 64) then some (.int (i * j)) else none
  | .tuple xs, .int k => if xs ≠ [] ∧ 2 ≤ k ∧ k ≤ 1000 ∧ xs.length ≤ 1000 then some (.tuple (repL k.toNat xs)) else none
  | .list xs, .int k => if -(2 ^ 63) ≤ k ∧ k < 2 ^ 63 ∧ xs.length * k.toNat ≤ sizeLine then some (.list (repL k.toNat xs)) else none
  | .str z, .int k => if -1000000 ≤ k ∧ k ≤ 1000000 ∧ z.length ≤ 1000000 ∧ z.length * k.toNat ≤ sizeLine then some (.str ⟨(repL k.toNat z.cps.toList).toArray⟩) else none
  | _, _ => none
def fdivD : PyData → PyData → Option PyData
  | .int i, .int j => if j ≠ 0 ∧ j.natAbs < 1073741824 then some (.int (i.fdiv j)) else none
  | _, _ => none
def modD : PyData → PyData → Option PyData
  | .int i, .int j => if j ≠ 0 then some (.int (i.fmod j)) else none
  | _, _ => none
def powD : PyData → PyData → Option PyData
  | .int i, .int j => if 0 ≤ j ∧ j ≤ 1000000 ∧ i.natAbs < 2 ^ 64 then some (.int (i ^ j.toNat)) else none
  | _, _ => none
def eqD (a b : PyData) : Option PyData := if SeqAt.shaped a = true ∧ SeqAt.shaped b = true then some (.bool (PyData.eqv a b)) else none
def neD (a b : PyData) : Option PyData := if SeqAt.shaped a = true ∧ SeqAt.shaped b = true then some (.bool (!PyData.eqv a b)) else none
def ltD : PyData → PyData → Option PyData
  | .int i, .int j => some (.bool (decide (i < j)))
  | _, _ => none
def leD : PyData → PyData → Option PyData
  | .int i, .int j => some (.bool (decide (i ≤ j)))
  | _, _ => none
def gtD : PyData → PyData → Option PyData
  | .int i, .int j => some (.bool (decide (j < i)))
  | _, _ => none
def geD : PyData → PyData → Option PyData
  | .int i, .int j => some (.bool (decide (j ≤ i)))
  | _, _ => none
/-- x in y, for texts (one sign), lists, tuples -/
def inB (a : PyData) : PyData → Option Bool
  | .str z => (match a with
    | .str x => (match x.cps.toList with
      | [c] => some (decide (c ∈ z.cps.toList))
      | _ => none)
    | _ => none)
  | .list ds => if SeqAt.shaped a = true ∧ SeqAt.shaped (.list ds) = true then some (ds.any fun z => PyData.eqv z a) else none
  | .tuple ds => if SeqAt.shaped a = true ∧ SeqAt.shaped (.tuple ds) = true then some (ds.any fun z => PyData.eqv z a) else none
  | _ => none
def inD (a b : PyData) : Option PyData := (inB a b).map .bool
def notInD (a b : PyData) : Option PyData := (inB a b).map fun k => .bool (!k)
/-- an operator of data alone -/
def onD (f : PyData → PyData → Option PyData) : Sto → W → W → Option W
  | _, .d a, .d b => (f a b).map .d
  | _, _, _ => none
def isNone : W → Bool
  | .d .none => true
  | _ => false
def isB (a b : W) : Option Bool := match b with
  | .d .none => some (isNone a)
  | .d (.bool k) => (match a with
    | .d (.bool j) => some (decide (j = k))
    | _ => none)
  | _ => none
def pyIs (_ : Sto) (a b : W) : Option W := (isB a b).map fun k => .d (.bool k)
def pyIsNot (_ : Sto) (a b : W) : Option W := (isB a b).map fun k => .d (.bool (!k))
theorem DqAll.rep {K : PySem.W.Frag} {F : Hp} {vs : List V} {ds : List PyData} (h : DqAll K F vs ds) : ∀ n : Nat, DqAll K F (List.replicate n vs).flatten (repL n ds)
  | 0 => .nil
  | n + 1 => by
    unfold repL
    rw [List.replicate_succ, List.replicate_succ, List.flatten_cons, List.flatten_cons]
    exact h.append (DqAll.rep h n)
theorem DqAll.ne {K : PySem.W.Frag} {F : Hp} {vs : List V} {ds : List PyData} (h : DqAll K F vs ds) (e : ds ≠ []) : vs ≠ [] := fun z => by
  subst z; cases h; exact e rfl
section
variable {X : Cx}
/-- an operator of data -/
theorem om_of {f : Value → Value → Sem Value} {op : PyData → PyData → Option PyData}
    (h : ∀ (pins : List (Addr × Obj)) (s : Shared) (σ : L2.St) (H : Hp) (x y : V) (v u : Value) (Q : VK) (F : Hp) (m : List Addr) (st : Sto) (a b c : PyData), Inv X pins σ H s → RelV x v → RelV y u → WR X.K F m (.d a) x → WR X.K F m (.d b) y → Rel X.K F m st H → op a b = some c →
      QV X.K F m st Q (.d c) → wpAny (model X.prog X.w) X.A (f v u) (EP X pins σ Q) X.xe s) : OpM X f (onD op) := by
  intro pins s σ H x y v u Q I rx ry hh
  obtain ⟨F, m, st, a, b, w, ra, rb, rl, e, q⟩ := hh
  cases a with
  | r i => cases e
  | d a =>
    cases b with
    | r i => cases e
    | d b =>
      have e : (op a b).map W.d = some w := e
      cases z : op a b with
      | none => rw [z] at e; cases e
      | some c =>
        rw [z] at e
        cases Option.some.inj e
        exact h pins s σ H x y v u Q F m st a b c I rx ry ra rb rl z q
theorem om_add : OpM X (binaryOp .Add) (onD addD) := om_of fun pins s σ H x y v u Q F m st a b c I rx ry ra rb rl e q => by
  cases a <;> cases b <;> first | (cases e; done) | skip
  · have e1 := dq_int ra; have e2 := dq_int rb; subst e1 e2
    cases Option.some.inj e
    exact op_add pins s σ H _ _ v u Q I rx ry ⟨_, _, rfl, rfl, rM_ok q rl (.int _)⟩
  · have e1 := dq_str ra; have e2 := dq_str rb; subst e1 e2
    dsimp only [addD] at e
    split at e
    · rename_i hz
      cases Option.some.inj e
      exact op_add_str pins s σ H _ _ v u Q I rx ry ⟨_, _, rfl, rfl, hz, rM_ok q rl (.str _)⟩
    · cases e
  · obtain ⟨p, vs, rfl, h1, t1⟩ := dq_lst ra
    obtain ⟨q', ws, rfl, h2, t2⟩ := dq_lst rb
    dsimp only [addD] at e
    split at e
    · rename_i hz
      cases Option.some.inj e
      exact op_cat pins s σ H _ _ v u Q I rx ry ⟨_, _, _, _, rfl, rfl, rl.sub _ _ h1, rl.sub _ _ h2, by rw [t1.length, t2.length]; exact hz, fun p hp => rM_lst q rl hp (t1.append t2)⟩
    · cases e
  · obtain ⟨p, vs, rfl, h1, t1⟩ := dq_tup ra
    obtain ⟨q', ws, rfl, h2, t2⟩ := dq_tup rb
    dsimp only [addD] at e
    split at e
    · rename_i hz
      cases Option.some.inj e
      refine op_catA pins s σ H _ _ v u Q I rx ry ⟨_, _, _, _, rfl, rfl, seqT_mono rl.sub h1, seqT_mono rl.sub h2, by rw [t1.length, t2.length]; exact hz, fun e => ?_, fun e1 e2 => ?_, fun e1 e2 p hp => rM_tup q rl hp (t1.append t2)⟩
      · subst e; cases t1; exact rM_ok q rl rb
      · subst e2; cases t2; rw [List.append_nil] at q; exact rM_ok q rl ra
    · cases e
theorem om_sub : OpM X (binaryOp .Sub) (onD subD) := om_of fun pins s σ H x y v u Q F m st a b c I rx ry ra rb rl e q => by
  cases a <;> cases b <;> first | (cases e; done) | skip
  have e1 := dq_int ra; have e2 := dq_int rb; subst e1 e2
  cases Option.some.inj e
  exact op_sub pins s σ H _ _ v u Q I rx ry ⟨_, _, rfl, rfl, rM_ok q rl (.int _)⟩
theorem om_mul : OpM X (binaryOp .Mult) (onD mulD) := om_of fun pins s σ H x y v u Q F m st a b c I rx ry ra rb rl e q => by
  cases a <;> cases b <;> first | (cases e; done) | skip
  · have e1 := dq_int ra; have e2 := dq_int rb; subst e1 e2
    dsimp only [mulD] at e
    split at e
    · rename_i hz
      cases Option.some.inj e
      exact op_mul pins s σ H _ _ v u Q I rx ry ⟨_, _, rfl, rfl, hz, rM_ok q rl (.int _)⟩
    · cases e
  · have e1 := dq_str ra; have e2 := dq_int rb; subst e1 e2
    dsimp only [mulD] at e
    split at e
    · rename_i hz
      obtain ⟨z1, z2, z3, z4⟩ := hz
      cases Option.some.inj e
      exact op_repS pins s σ H _ _ v u Q I rx ry ⟨_, _, rfl, rfl, z1, z2, z3, z4, rM_ok q rl (.str _)⟩
    · cases e
  · obtain ⟨p, vs, rfl, h1, t1⟩ := dq_lst ra
    have e2 := dq_int rb; subst e2
    dsimp only [mulD] at e
    split at e
    · rename_i hz
      obtain ⟨z1, z2, z3⟩ := hz
      cases Option.some.inj e
      exact op_rep pins s σ H _ _ v u Q I rx ry ⟨_, _, _, rfl, rfl, rl.sub _ _ h1, z1, z2, by rw [t1.length]; exact z3, fun p hp => rM_lst q rl hp (t1.rep _)⟩
    · cases e
  · obtain ⟨p, vs, rfl, h1, t1⟩ := dq_tup ra
    have e2 := dq_int rb; subst e2
    dsimp only [mulD] at e
    split at e
    · rename_i hz
      obtain ⟨z1, z2, z3, z4⟩ := hz
      cases Option.some.inj e
      exact op_repT pins s σ H _ _ v u Q I rx ry ⟨_, _, _, rfl, rfl, seqT_mono rl.sub h1, t1.ne z1, z2, z3, by rw [t1.length]; exact z4, fun p hp => rM_tup q rl hp (t1.rep _)⟩
    · cases e
theorem om_fdiv : OpM X (binaryOp .FloorDiv) (onD fdivD) := om_of fun pins s σ H x y v u Q F m st a b c I rx ry ra rb rl e q => by
  cases a <;> cases b <;> first | (cases e; done) | skip
  have e1 := dq_int ra; have e2 := dq_int rb; subst e1 e2
  dsimp only [fdivD] at e
  split at e
  · rename_i hz
    cases Option.some.inj e
    exact op_fdivN pins s σ H _ _ v u Q I rx ry ⟨_, _, rfl, rfl, hz, rM_ok q rl (.int _)⟩
  · cases e
theorem om_mod : OpM X (binaryOp .Mod) (onD modD) := om_of fun pins s σ H x y v u Q F m st a b c I rx ry ra rb rl e q => by
  cases a <;> cases b <;> first | (cases e; done) | skip
  have e1 := dq_int ra; have e2 := dq_int rb; subst e1 e2
  dsimp only [modD] at e
  split at e
  · rename_i hz
    cases Option.some.inj e
    exact op_modN pins s σ H _ _ v u Q I rx ry ⟨_, _, rfl, rfl, hz, rM_ok q rl (.int _)⟩
  · cases e
theorem om_pow : OpM X (binaryOp .Pow) (onD powD) := om_of fun pins s σ H x y v u Q F m st a b c I rx ry ra rb rl e q => by
  cases a <;> cases b <;> first | (cases e; done) | skip
  have e1 := dq_int ra; have e2 := dq_int rb; subst e1 e2
  dsimp only [powD] at e
  split at e
  · rename_i hz
    cases Option.some.inj e
    exact op_pow pins s σ H _ _ v u Q I rx ry ⟨_, _, rfl, rfl, hz, rM_ok q rl (.int _)⟩
  · cases e
theorem om_eq (hu : X.A.units + 64 < cLine) : OpM X (compareOp .Eq) (onD eqD) := om_of fun pins s σ H x y v u Q F m st a b c I rx ry ra rb rl e q => by
  unfold eqD at e
  split at e
  · rename_i hz
    cases Option.some.inj e
    exact op_eqD hu pins s σ H _ _ v u Q I rx ry ⟨_, _, Dp.mono' rl.sub ra, Dp.mono' rl.sub rb, hz.1, hz.2, rM_ok q rl (.bl _)⟩
  · cases e
theorem om_ne (hu : X.A.units + 64 < cLine) : OpM X (compareOp .NotEq) (onD neD) := om_of fun pins s σ H x y v u Q F m st a b c I rx ry ra rb rl e q => by
  unfold neD at e
  split at e
  · rename_i hz
    cases Option.some.inj e
    exact op_neD hu pins s σ H _ _ v u Q I rx ry ⟨_, _, Dp.mono' rl.sub ra, Dp.mono' rl.sub rb, hz.1, hz.2, rM_ok q rl (.bl _)⟩
  · cases e
theorem om_lt : OpM X (compareOp .Lt) (onD ltD) := om_of fun pins s σ H x y v u Q F m st a b c I rx ry ra rb rl e q => by
  cases a <;> cases b <;> first | (cases e; done) | skip
  have e1 := dq_int ra; have e2 := dq_int rb; subst e1 e2
  cases Option.some.inj e
  exact op_lt pins s σ H _ _ v u Q I rx ry ⟨_, _, rfl, rfl, rM_ok q rl (.bl _)⟩
theorem om_le : OpM X (compareOp .LtE) (onD leD) := om_of fun pins s σ H x y v u Q F m st a b c I rx ry ra rb rl e q => by
  cases a <;> cases b <;> first | (cases e; done) | skip
  have e1 := dq_int ra; have e2 := dq_int rb; subst e1 e2
  cases Option.some.inj e
  exact op_le pins s σ H _ _ v u Q I rx ry ⟨_, _, rfl, rfl, rM_ok q rl (.bl _)⟩
theorem om_gt : OpM X (compareOp .Gt) (onD gtD) := om_of fun pins s σ H x y v u Q F m st a b c I rx ry ra rb rl e q => by
  cases a <;> cases b <;> first | (cases e; done) | skip
  have e1 := dq_int ra; have e2 := dq_int rb; subst e1 e2
  cases Option.some.inj e
  exact op_gt pins s σ H _ _ v u Q I rx ry ⟨_, _, rfl, rfl, rM_ok q rl (.bl _)⟩
theorem om_ge : OpM X (compareOp .GtE) (onD geD) := om_of fun pins s σ H x y v u Q F m st a b c I rx ry ra rb rl e q => by
  cases a <;> cases b <;> first | (cases e; done) | skip
  have e1 := dq_int ra; have e2 := dq_int rb; subst e1 e2
  cases Option.some.inj e
  exact op_ge pins s σ H _ _ v u Q I rx ry ⟨_, _, rfl, rfl, rM_ok q rl (.bl _)⟩
theorem isNone_ok {K : PySem.W.Frag} {F : Hp} {m : List Addr} {a : W} {v : V} (h : WR K F m a v) : decide (v = .non) = isNone a := by
  cases a with
  | r i => obtain ⟨p, _, rfl⟩ := h; rfl
  | d x =>
    have h : Dq K F v x := h
    cases h <;> rfl
theorem isB_cases {a b : W} {k : Bool} (h : isB a b = some k) : (b = .d .none ∧ k = isNone a) ∨ ∃ i j, a = .d (.bool i) ∧ b = .d (.bool j) ∧ k = decide (i = j) := by
  unfold isB at h
  split at h
  · exact .inl ⟨rfl, (Option.some.inj h).symm⟩
  · split at h
    · exact .inr ⟨_, _, rfl, rfl, (Option.some.inj h).symm⟩
    · cases h
  · cases h
theorem om_is : OpM X (compareOp .Is) pyIs := by
  intro pins s σ H x y v u Q I rx ry h
  obtain ⟨F, m, st, a, b, w, ra, rb, rl, e, q⟩ := h
  unfold pyIs at e
  cases z : isB a b with
  | none => rw [z] at e; cases e
  | some k =>
    rw [z] at e
    cases Option.some.inj e
    rcases isB_cases z with ⟨rfl, rfl⟩ | ⟨i, j, rfl, rfl, rfl⟩
    · have e2 := dq_none rb; subst e2
      exact op_isN pins s σ H _ _ v u Q I rx ry ⟨rfl, by rw [isNone_ok ra]; exact rM_ok q rl (.bl _)⟩
    · have e1 := dq_bool ra; have e2 := dq_bool rb; subst e1 e2
      exact op_isBl pins s σ H _ _ v u Q I rx ry ⟨_, _, rfl, rfl, rM_ok q rl (.bl _)⟩
theorem om_isnot : OpM X (compareOp .IsNot) pyIsNot := by
  intro pins s σ H x y v u Q I rx ry h
  obtain ⟨F, m, st, a, b, w, ra, rb, rl, e, q⟩ := h
  unfold pyIsNot at e
  cases z : isB a b with
  | none => rw [z] at e; cases e
  | some k =>
    rw [z] at e
    cases Option.some.inj e
    rcases isB_cases z with ⟨rfl, rfl⟩ | ⟨i, j, rfl, rfl, rfl⟩
    · have e2 := dq_none rb; subst e2
      exact op_notN pins s σ H _ _ v u Q I rx ry ⟨rfl, by rw [isNone_ok ra]; exact rM_ok q rl (.bl _)⟩
    · have e1 := dq_bool ra; have e2 := dq_bool rb; subst e1 e2
      exact op_notBl pins s σ H _ _ v u Q I rx ry ⟨_, _, rfl, rfl, rM_ok q rl (.bl _)⟩
end
end Ev
end
section
set_option Elab.async false
set_option linter.all false
set_option maxRecDepth 100000
set_option autoImplicit false
namespace Ev
open PySem PySem.Spec PyProof.Rows L2
section
variable {X : Cx}
theorem units65 {k : Nat} {A : Around} (r : Room k A) : A.units + 65 < cLine := by have := r.un; omega
theorem sgn_of {x : Str} {c : Nat} (e : x.cps.toList = [c]) : x = ⟨#[c]⟩ := by
  obtain ⟨a⟩ := x
  have e : a.toList = [c] := e
  exact congrArg Str.mk (by rw [← Array.toArray_toList (xs := a), e])
theorem inB_cases {a b : PyData} {k : Bool} (h : inB a b = some k) :
    (∃ c z, a = .str ⟨#[c]⟩ ∧ b = .str z ∧ k = decide (c ∈ z.cps.toList)) ∨ (∃ ds, b = .list ds ∧ SeqAt.shaped a = true ∧ SeqAt.shaped (.list ds) = true ∧ k = ds.any fun z => PyData.eqv z a) ∨
    ∃ ds, b = .tuple ds ∧ SeqAt.shaped a = true ∧ SeqAt.shaped (.tuple ds) = true ∧ k = ds.any fun z => PyData.eqv z a := by
  cases b with
  | str z =>
    cases a with
    | str x =>
      have h : (match x.cps.toList with | [c] => some (decide (c ∈ z.cps.toList)) | _ => none) = some k := h
      split at h
      · rename_i c e
        exact .inl ⟨c, z, by rw [sgn_of e], rfl, (Option.some.inj h).symm⟩
      · cases h
    | _ => cases h
  | list ds =>
    dsimp only [inB] at h
    split at h
    · rename_i hz
      exact .inr (.inl ⟨ds, rfl, hz.1, hz.2, (Option.some.inj h).symm⟩)
    · cases h
  | tuple ds =>
    dsimp only [inB] at h
    split at h
    · rename_i hz
      exact .inr (.inr ⟨ds, rfl, hz.1, hz.2, (Option.some.inj h).symm⟩)
    · cases h
  | _ => cases h
theorem om_in (hu : X.A.units + 65 < cLine) : OpM X (compareOp .In) (onD inD) := om_of fun pins s σ H x y v u Q F m st a b c I rx ry ra rb rl e q => by
  have e : (inB a b).map PyData.bool = some c := e
  cases z : inB a b with
  | none => rw [z] at e; cases e
  | some k =>
    rw [z] at e
    cases Option.some.inj e
    rcases inB_cases z with ⟨c, z, rfl, rfl, rfl⟩ | ⟨ds, rfl, h1, h2, rfl⟩ | ⟨ds, rfl, h1, h2, rfl⟩
    · have e1 := dq_str ra; have e2 := dq_str rb; subst e1 e2
      exact op_in_sign pins s σ H _ _ v u Q I rx ry ⟨_, _, rfl, rfl, rM_ok q rl (.bl _)⟩
    · exact op_inD hu pins s σ H _ _ v u Q I rx ry ⟨_, _, Dp.mono' rl.sub ra, Dp.mono' rl.sub rb, h1, h2, rM_ok q rl (.bl _)⟩
    · obtain ⟨as, r1⟩ := Dp.reads I a x v (Dp.mono' rl.sub ra) rx
      obtain ⟨bs, r2⟩ := Dp.reads I (.tuple ds) y u (Dp.mono' rl.sub rb) ry
      exact SeqAt.in_tuple_reads r2 r1 (SeqAt.canLay_of_shaped h2) (SeqAt.canLay_of_shaped h1) (room_in_shaped h1 hu) ⟨.bl _, H, I, rfl, rM_ok q rl (.bl _)⟩
theorem om_notin (hu : X.A.units + 65 < cLine) : OpM X (compareOp .NotIn) (onD notInD) := om_of fun pins s σ H x y v u Q F m st a b c I rx ry ra rb rl e q => by
  have e : (inB a b).map (fun k => PyData.bool (!k)) = some c := e
  cases z : inB a b with
  | none => rw [z] at e; cases e
  | some k =>
    rw [z] at e
    cases Option.some.inj e
    rcases inB_cases z with ⟨c, z, rfl, rfl, rfl⟩ | ⟨ds, rfl, h1, h2, rfl⟩ | ⟨ds, rfl, h1, h2, rfl⟩
    · have e1 := dq_str ra; have e2 := dq_str rb; subst e1 e2
      exact op_notIn_sign pins s σ H _ _ v u Q I rx ry ⟨_, _, rfl, rfl, rM_ok q rl (.bl _)⟩
    · exact op_notInD hu pins s σ H _ _ v u Q I rx ry ⟨_, _, Dp.mono' rl.sub ra, Dp.mono' rl.sub rb, h1, h2, rM_ok q rl (.bl _)⟩
    · obtain ⟨as, r1⟩ := Dp.reads I a x v (Dp.mono' rl.sub ra) rx
      obtain ⟨bs, r2⟩ := Dp.reads I (.tuple ds) y u (Dp.mono' rl.sub rb) ry
      exact SeqAt.notIn_tuple_reads r2 r1 (SeqAt.canLay_of_shaped h2) (SeqAt.canLay_of_shaped h1) (room_in_shaped h1 hu) ⟨.bl _, H, I, rfl, rM_ok q rl (.bl _)⟩
end

/-! ## truth, tests -/
def truD : PyData → Option Bool
  | .none => some false
  | .bool b => some b
  | .int i => some (i != 0)
  | .str x => if x.length ≤ sizeLine then some ((x.length : Int) != 0) else none
  | .list xs => some (!xs.isEmpty)
  | .tuple xs => some (!xs.isEmpty)
  | .dict _ => none
def truW (st : Sto) : W → Option Bool
  | .d x => truD x
  | .r i => (match st[i]? with
    | some (.lst ws) => some (!ws.isEmpty)
    | some (.dic kvs) => some (!kvs.isEmpty)
    | _ => none)
theorem DqAll.emp {K : PySem.W.Frag} {F : Hp} {vs : List V} {ds : List PyData} (h : DqAll K F vs ds) : vs.isEmpty = ds.isEmpty := by cases h <;> rfl
theorem Paired.emp {α β : Type} {R : α → β → Prop} {xs : List α} {ys : List β} (h : Paired R xs ys) : ys.isEmpty = xs.isEmpty := by cases h <;> rfl
theorem Rel.at {K : PySem.W.Frag} {F : Hp} {m : List Addr} {st : Sto} {H : Hp} (rl : Rel K F m st H) {i : Nat} {v : V} (h : WR K F m (.r i) v) {so : SO} (hs : st[i]? = some so) : ∃ a, v = .ref a ∧ m[i]? = some a ∧ SR K F m H a so := by
  obtain ⟨a, h1, rfl⟩ := h
  exact ⟨a, rfl, h1, rl.obj i a so h1 hs⟩
theorem tru_w {K : PySem.W.Frag} {F : Hp} {m : List Addr} {st : Sto} {H : Hp} (rl : Rel K F m st H) {w : W} {v : V} (h : WR K F m w v) {k : Bool} (e : truW st w = some k) : TruV K v H k := by
  cases w with
  | r i =>
    dsimp only [truW] at e
    split at e
    · rename_i ws hs
      obtain ⟨a, rfl, h1, vs, h2, h3⟩ := rl.at h hs
      exact .inl ⟨vs, SqL.of h2, by rw [← Option.some.inj e, Ev.Paired.emp h3]⟩
    · rename_i kvs hs
      obtain ⟨a, rfl, h1, ps, h2, h3⟩ := rl.at h hs
      exact .inr (.inr ⟨ps, h2, by rw [← Option.some.inj e, Ev.Paired.emp h3]⟩)
    · cases e
  | d x =>
    cases x with
    | none => rw [dq_none h]; exact (Option.some.inj e).symm
    | bool b => rw [dq_bool h]; exact (Option.some.inj e).symm
    | int i => rw [dq_int h]; exact (Option.some.inj e).symm
    | str y =>
      rw [dq_str h]
      dsimp only [truW, truD] at e
      split at e
      · rename_i hz; exact ⟨hz, (Option.some.inj e).symm⟩
      · cases e
    | list xs =>
      obtain ⟨a, ys, rfl, h1, t⟩ := dq_lst h
      exact .inl ⟨ys, SqL.of (rl.sub _ _ h1), by rw [← Option.some.inj e, t.emp]⟩
    | tuple xs =>
      obtain ⟨a, ys, rfl, h1, t⟩ := dq_tup h
      exact .inr (.inl ⟨ys, seqT_mono rl.sub h1, by rw [← Option.some.inj e, t.emp]⟩)
    | dict _ => cases e
section
variable {X : Cx} {Wx : WX} {e a b c : Expr} {pos : Pos} {f fa fb fc : Env → M W} {g ga gb : Env → M Bool}
def tst (f : Env → M W) : Env → M Bool := fun ρ => bnd (f ρ) fun w => liftO fun st => truW st w
theorem sb_val (h : SE X Wx e f) (he : ∀ whole, isTrue e X.env whole = (do let v ← whole; standAt e.pos; holding [v] (truthy v)) := by intro _; rfl) : SB X Wx e (tst f) :=
  PT.imp (pt_truth h he) fun σ H Q hh => by
    obtain ⟨F, m, st, ρ, er, rl, hh⟩ := hh
    refine ⟨F, m, st, ρ, er, rl, After.mono (Same.refl F) (List.prefix_refl m) hh.bnd fun w F1 m1 H1 s1 p1 ⟨st1, _, _, rl1, h1⟩ v r1 => ?_⟩
    obtain ⟨k, e, q⟩ := h1.liftO
    exact ⟨k, tru_w rl1 r1 e, q F1 m1 H1 (Same.refl _) (List.prefix_refl _) rl1⟩
def toB (f : Env → M W) : Env → M Bool := fun ρ => bnd (f ρ) fun w => liftO fun _ => match w with
  | .d (.bool k) => some k
  | _ => none
theorem tM_toB {σ : L2.St} {H : Hp} {Q : Bool → Hp → Prop} (hh : tB X Wx (toB f) σ H Q) : tM X Wx f σ H fun x H1 => ∃ k, x = .bl k ∧ Q k H1 := by
  obtain ⟨F, m, st, ρ, er, rl, hh⟩ := hh
  refine ⟨F, m, st, ρ, er, rl, After.mono (Same.refl F) (List.prefix_refl m) hh.bnd fun w F1 m1 H1 s1 p1 ⟨st1, _, _, rl1, h1⟩ v r1 => ?_⟩
  obtain ⟨k, e, q⟩ := h1.liftO
  split at e
  · cases Option.some.inj e
    exact ⟨_, dq_bool r1, q F1 m1 H1 (Same.refl _) (List.prefix_refl _) rl1⟩
  · cases e
theorem sb_cmp {o : CmpOp} {op : Sto → W → W → Option W} (ho : OpM X (compareOp o) op) (ha : SE X Wx a fa) (hb : SE X Wx b fb) (hm : behindInMarks o b = false) :
    SB X Wx (.Compare a [o] [b] pos) (toB (bin op fa fb)) :=
  PT.imp (pt_cmpR ho ha hb hm) fun σ H Q h => by
    have h2 := tM_toB h
    exact tM_op (fun _ _ _ _ q => q) h2
/-- a op b op' c -/
def chain (op op' : Sto → W → W → Option W) (fa fb fc : Env → M W) : Env → M W := fun ρ => bnd (fa ρ) fun x => bnd (fb ρ) fun y => bnd (liftO fun st => op st x y) fun z => match z with
  | .d (.bool true) => bnd (fc ρ) fun w => liftO fun st => op' st y w
  | .d (.bool false) => ret (.d (.bool false))
  | _ => bad
theorem tM_chain {op op' : Sto → W → W → Option W} {σ : L2.St} {H : Hp} {Q : VK} (h : tM X Wx (chain op op' fa fb fc) σ H Q) :
    tChain (rM X op) (rM X op') (tM X Wx fa) (tM X Wx fb) (tM X Wx fc) σ H Q := by
  obtain ⟨F, m, st, ρ, er, rl, h⟩ := h
  refine ⟨F, m, st, ρ, er, rl, After.mono (Same.refl F) (List.prefix_refl m) h.bnd fun x F1 m1 H1 s1 p1 ⟨st1, _, _, rl1, h1⟩ v r1 => ?_⟩
  refine ⟨F1, m1, st1, ρ, er.mono s1 p1, rl1, After.mono (Same.refl F1) (List.prefix_refl m1) h1.bnd fun y F2 m2 H2 s2 p2 ⟨st2, _, _, rl2, h2⟩ u r2 => ?_⟩
  have h3 := h2.bnd
  obtain ⟨w, e, q⟩ := h3.liftO
  refine ⟨F2, m2, st2, x, y, w, r1.mono s2 p2, r2, rl2, e, fun F3 m3 H3 z s3 p3 rl3 rz => ?_⟩
  obtain ⟨st4, _, _, rl4, h4⟩ := q F3 m3 H3 s3 p3 rl3
  split at h4
  · refine ⟨true, dq_bool rz, ?_⟩
    rw [if_pos rfl]
    refine ⟨F3, m3, st4, ρ, (er.mono s1 p1).mono (s2.trans s3) (pre_trans p2 p3), rl4, After.mono (Same.refl F3) (List.prefix_refl m3) h4.bnd fun w' F5 m5 H5 s5 p5 ⟨st5, _, _, rl5, h5⟩ t r5 => ?_⟩
    obtain ⟨w2, e2, q2⟩ := h5.liftO
    exact ⟨F5, m5, st5, y, w', w2, r2.mono (s3.trans s5) (pre_trans p3 p5), r5, rl5, e2, fun F6 m6 H6 v6 s6 p6 r6 hv => q2 F6 m6 H6 s6 p6 r6 v6 hv⟩
  · refine ⟨false, dq_bool rz, ?_⟩
    rw [if_neg Bool.false_ne_true]
    exact h4.here rl4 _ (.bl _)
  · exact h4.elim
theorem se_chain {o o' : CmpOp} {op op' : Sto → W → W → Option W} (ho : OpM X (compareOp o) op) (ho' : OpM X (compareOp o') op') (ha : SE X Wx a fa) (hb : SE X Wx b fb) (hc : SE X Wx c fc)
    (hm : lastMarks [o, o'] [b, c] = false := by with_unfolding_all rfl) : SE X Wx (.Compare a [o, o'] [b, c] pos) (chain op op' fa fb fc) :=
  PE.imp (pe_chain ho ho' ha hb hc hm) fun _ _ _ h => tM_chain h
theorem sb_chain {o o' : CmpOp} {op op' : Sto → W → W → Option W} (ho : OpM X (compareOp o) op) (ho' : OpM X (compareOp o') op') (ha : SE X Wx a fa) (hb : SE X Wx b fb) (hc : SE X Wx c fc)
    (hm : lastMarks [o, o'] [b, c] = false := by with_unfolding_all rfl) : SB X Wx (.Compare a [o, o'] [b, c] pos) (toB (chain op op' fa fb fc)) :=
  PT.imp (pt_chain ho ho' ha hb hc hm) fun _ _ _ h => tM_chain (tM_toB h)
/-- tests joined -/
abbrev SW (X : Cx) (Wx : WX) (e : Expr) (f : Env → M Bool) : Prop := PW X e (tB X Wx f)
theorem PW.imp {X : Cx} {e : Expr} {t t' : TT} (h : PW X e t) (k : ∀ σ H Q, t' σ H Q → t σ H Q) : PW X e t' := ⟨fun wh pins s σ H Q I q => h.run wh pins s σ H Q I (k σ H Q q)⟩
def andB (ga gb : Env → M Bool) : Env → M Bool := fun ρ => bnd (ga ρ) fun k => if k = true then gb ρ else ret false
def orB (ga gb : Env → M Bool) : Env → M Bool := fun ρ => bnd (ga ρ) fun k => if k = true then ret true else gb ρ
def notB (ga : Env → M Bool) : Env → M Bool := fun ρ => bnd (ga ρ) fun k => ret (!k)
theorem sw_and1 (ha : SB X Wx a ga) : SW X Wx (.BoolOp .And [a] pos) ga := pw_and1 ha
theorem sw_or1 (ha : SB X Wx a ga) : SW X Wx (.BoolOp .Or [a] pos) ga := pw_or1 ha
theorem sw_and {rest : List Expr} (ha : SB X Wx a ga) (hb : SW X Wx (.BoolOp .And (b :: rest) pos) gb) : SW X Wx (.BoolOp .And (a :: b :: rest) pos) (andB ga gb) :=
  PW.imp (pw_and ha hb) fun σ H Q h => by
    obtain ⟨F, m, st, ρ, er, rl, h⟩ := h
    refine ⟨F, m, st, ρ, er, rl, After.mono (Same.refl F) (List.prefix_refl m) h.bnd fun k F1 m1 H1 s1 p1 ⟨st1, _, _, rl1, h1⟩ => ?_⟩
    cases k with
    | true => rw [if_pos rfl] at h1 ⊢; exact ⟨F1, m1, st1, ρ, er.mono s1 p1, rl1, h1⟩
    | false => rw [if_neg Bool.false_ne_true] at h1 ⊢; exact h1.here rl1
theorem sw_or {rest : List Expr} (ha : SB X Wx a ga) (hb : SW X Wx (.BoolOp .Or (b :: rest) pos) gb) : SW X Wx (.BoolOp .Or (a :: b :: rest) pos) (orB ga gb) :=
  PW.imp (pw_or ha hb) fun σ H Q h => by
    obtain ⟨F, m, st, ρ, er, rl, h⟩ := h
    refine ⟨F, m, st, ρ, er, rl, After.mono (Same.refl F) (List.prefix_refl m) h.bnd fun k F1 m1 H1 s1 p1 ⟨st1, _, _, rl1, h1⟩ => ?_⟩
    cases k with
    | true => rw [if_pos rfl] at h1 ⊢; exact h1.here rl1
    | false => rw [if_neg Bool.false_ne_true] at h1 ⊢; exact ⟨F1, m1, st1, ρ, er.mono s1 p1, rl1, h1⟩
theorem sb_not (ha : SB X Wx a ga) : SB X Wx (.UnaryOp .Not a pos) (notB ga) :=
  PT.imp (pt_not ha) fun σ H Q h => by
    obtain ⟨F, m, st, ρ, er, rl, h⟩ := h
    exact ⟨F, m, st, ρ, er, rl, After.mono (Same.refl F) (List.prefix_refl m) h.bnd fun k F1 m1 H1 s1 p1 ⟨st1, _, _, rl1, h1⟩ => h1.here rl1⟩
/-- as values -/
def andW (fa fb : Env → M W) : Env → M W := fun ρ => bnd (fa ρ) fun x => bnd (liftO fun st => truW st x) fun k => if k = true then fb ρ else ret x
def orW (fa fb : Env → M W) : Env → M W := fun ρ => bnd (fa ρ) fun x => bnd (liftO fun st => truW st x) fun k => if k = true then ret x else fb ρ
def notW (fa : Env → M W) : Env → M W := fun ρ => bnd (fa ρ) fun x => bnd (liftO fun st => truW st x) fun k => ret (.d (.bool (!k)))
theorem se_one {o : BoolOp} (h : SE X Wx a fa) : SE X Wx (.BoolOp o [a] pos) fa := pe_one h
theorem se_and {rest : List Expr} (ha : SE X Wx a fa) (hb : SE X Wx (.BoolOp .And (b :: rest) pos) fb) : SE X Wx (.BoolOp .And (a :: b :: rest) pos) (andW fa fb) :=
  PE.imp (pe_andT ha hb) fun σ H Q h => by
    obtain ⟨F, m, st, ρ, er, rl, h⟩ := h
    refine ⟨F, m, st, ρ, er, rl, After.mono (Same.refl F) (List.prefix_refl m) h.bnd fun x F1 m1 H1 s1 p1 ⟨st1, _, _, rl1, h1⟩ v r1 => ?_⟩
    obtain ⟨k, e, q⟩ := h1.bnd.liftO
    obtain ⟨st2, _, _, rl2, h2⟩ := q F1 m1 H1 (Same.refl _) (List.prefix_refl _) rl1
    refine ⟨k, tru_w rl1 r1 e, ?_⟩
    cases k with
    | true => rw [if_pos rfl] at h2 ⊢; exact ⟨F1, m1, st2, ρ, er.mono s1 p1, rl2, h2⟩
    | false => rw [if_neg Bool.false_ne_true] at h2 ⊢; exact h2.here rl2 v r1
theorem se_or {rest : List Expr} (ha : SE X Wx a fa) (hb : SE X Wx (.BoolOp .Or (b :: rest) pos) fb) : SE X Wx (.BoolOp .Or (a :: b :: rest) pos) (orW fa fb) :=
  PE.imp (pe_orT ha hb) fun σ H Q h => by
    obtain ⟨F, m, st, ρ, er, rl, h⟩ := h
    refine ⟨F, m, st, ρ, er, rl, After.mono (Same.refl F) (List.prefix_refl m) h.bnd fun x F1 m1 H1 s1 p1 ⟨st1, _, _, rl1, h1⟩ v r1 => ?_⟩
    obtain ⟨k, e, q⟩ := h1.bnd.liftO
    obtain ⟨st2, _, _, rl2, h2⟩ := q F1 m1 H1 (Same.refl _) (List.prefix_refl _) rl1
    refine ⟨k, tru_w rl1 r1 e, ?_⟩
    cases k with
    | true => rw [if_pos rfl] at h2 ⊢; exact h2.here rl2 v r1
    | false => rw [if_neg Bool.false_ne_true] at h2 ⊢; exact ⟨F1, m1, st2, ρ, er.mono s1 p1, rl2, h2⟩
theorem se_not (ha : SE X Wx a fa) : SE X Wx (.UnaryOp .Not a pos) (notW fa) :=
  PE.imp (pe_notT ha) fun σ H Q h => by
    obtain ⟨F, m, st, ρ, er, rl, h⟩ := h
    refine ⟨F, m, st, ρ, er, rl, After.mono (Same.refl F) (List.prefix_refl m) h.bnd fun x F1 m1 H1 s1 p1 ⟨st1, _, _, rl1, h1⟩ v r1 => ?_⟩
    obtain ⟨k, e, q⟩ := h1.bnd.liftO
    obtain ⟨st2, _, _, rl2, h2⟩ := q F1 m1 H1 (Same.refl _) (List.prefix_refl _) rl1
    exact ⟨k, tru_w rl1 r1 e, h2.here rl2 _ (.bl _)⟩
def ifW (g : Env → M Bool) (fa fb : Env → M W) : Env → M W := fun ρ => bnd (g ρ) fun k => if k = true then fa ρ else fb ρ
theorem se_if (hc : SB X Wx c g) (ha : SE X Wx a fa) (hb : SE X Wx b fb) : SE X Wx (.IfExp c a b pos) (ifW g fa fb) :=
  PE.imp (pe_ifExp hc ha hb) fun σ H Q h => by
    obtain ⟨F, m, st, ρ, er, rl, h⟩ := h
    refine ⟨F, m, st, ρ, er, rl, After.mono (Same.refl F) (List.prefix_refl m) h.bnd fun k F1 m1 H1 s1 p1 ⟨st1, _, _, rl1, h1⟩ => ?_⟩
    cases k with
    | true => rw [if_pos rfl] at h1 ⊢; exact ⟨F1, m1, st1, ρ, er.mono s1 p1, rl1, h1⟩
    | false => rw [if_neg Bool.false_ne_true] at h1 ⊢; exact ⟨F1, m1, st1, ρ, er.mono s1 p1, rl1, h1⟩
/-- -a -/
def negW (fa : Env → M W) : Env → M W := fun ρ => bnd (fa ρ) fun x => liftO fun _ => match x with
  | .d (.int i) => some (.d (.int (-i)))
  | _ => none
theorem se_neg (ha : SE X Wx a fa) : SE X Wx (.UnaryOp .USub a pos) (negW fa) :=
  PE.imp (pe_un un_neg ha) fun σ H Q h => by
    obtain ⟨F, m, st, ρ, er, rl, h⟩ := h
    refine ⟨F, m, st, ρ, er, rl, After.mono (Same.refl F) (List.prefix_refl m) h.bnd fun x F1 m1 H1 s1 p1 ⟨st1, _, _, rl1, h1⟩ v r1 => ?_⟩
    obtain ⟨w, e, q⟩ := h1.liftO
    split at e
    · cases Option.some.inj e
      exact ⟨_, dq_int r1, q F1 m1 H1 (Same.refl _) (List.prefix_refl _) rl1 _ (.int _)⟩
    · cases e

/-! ## argument lists, displays -/
theorem sa_nil : SA X Wx [] (fun _ => ret []) := PA.imp pa_nil fun σ H Q h => by
  obtain ⟨F, m, st, ρ, er, rl, h⟩ := h
  exact h.here rl [] .nil
def consA (f : Env → M W) (g : Env → M (List W)) : Env → M (List W) := fun ρ => bnd (f ρ) fun x => bnd (g ρ) fun xs => ret (x :: xs)
theorem sa_cons {es : List Expr} {fs : Env → M (List W)} (ha : SE X Wx e f) (hr : SA X Wx es fs) (hs : starEach (e :: es) X.env = (false, eval e X.env) :: starEach es X.env := by rfl) : SA X Wx (e :: es) (consA f fs) :=
  PA.imp (pa_cons ha hr hs) fun σ H Q h => by
    obtain ⟨F, m, st, ρ, er, rl, h⟩ := h
    refine ⟨F, m, st, ρ, er, rl, After.mono (Same.refl F) (List.prefix_refl m) h.bnd fun x F1 m1 H1 s1 p1 ⟨st1, _, _, rl1, h1⟩ v r1 => ?_⟩
    refine ⟨F1, m1, st1, ρ, er.mono s1 p1, rl1, After.mono (Same.refl F1) (List.prefix_refl m1) h1.bnd fun xs F2 m2 H2 s2 p2 ⟨st2, _, _, rl2, h2⟩ vs r2 => ?_⟩
    exact h2.here rl2 _ (.cons (r1.mono s2 p2) r2)
def allD : List W → Option (List PyData)
  | [] => some []
  | .d x :: r => (allD r).map (x :: ·)
  | .r _ :: _ => none
theorem allD_ok {K : PySem.W.Frag} {F : Hp} {m : List Addr} : ∀ {ws : List W} {vs : List V} {ds : List PyData}, WRs K F m ws vs → allD ws = some ds → DqAll K F vs ds
  | [], _, _, .nil, e => by cases Option.some.inj e; exact .nil
  | .d x :: r, _, ds, .cons h t, e => by
    have e : (allD r).map (x :: ·) = some ds := e
    cases z : allD r with
    | none => rw [z] at e; cases e
    | some es =>
      rw [z] at e
      cases Option.some.inj e
      exact .cons h (allD_ok t z)
  | .r i :: r, _, ds, .cons h t, e => nomatch e
theorem allD_len : ∀ {ws : List W} {ds : List PyData}, allD ws = some ds → ws.length = ds.length
  | [], _, e => by cases Option.some.inj e; rfl
  | .d x :: r, ds, e => by
    have e : (allD r).map (x :: ·) = some ds := e
    cases z : allD r with
    | none => rw [z] at e; cases e
    | some es =>
      rw [z] at e
      cases Option.some.inj e
      exact congrArg (· + 1) (allD_len z)
  | .r i :: r, ds, e => nomatch e
def mkTup (g : Env → M (List W)) : Env → M W := fun ρ => bnd (g ρ) fun ws => liftO fun _ => (allD ws).bind fun ds => if ds.length ≤ sizeLine then some (.d (.tuple ds)) else none
def mkLst (g : Env → M (List W)) : Env → M W := fun ρ => bnd (g ρ) fun ws => liftO fun _ => (allD ws).bind fun ds => if ds.length ≤ sizeLine then some (.d (.list ds)) else none
theorem se_tup {es : List Expr} {fs : Env → M (List W)} {k : Nat} (h : SA X Wx es fs) : SE X Wx (.Tuple es k pos) (mkTup fs) :=
  PE.imp (pe_tup h) fun σ H Q h => by
    obtain ⟨F, m, st, ρ, er, rl, h⟩ := h
    refine ⟨F, m, st, ρ, er, rl, After.mono (Same.refl F) (List.prefix_refl m) h.bnd fun ws F1 m1 H1 s1 p1 ⟨st1, _, _, rl1, h1⟩ vs r1 => ?_⟩
    obtain ⟨w, e, q⟩ := h1.liftO
    cases z : allD ws with
    | none => rw [z] at e; cases e
    | some ds =>
      rw [z] at e
      have e : (if ds.length ≤ sizeLine then some (W.d (.tuple ds)) else none) = some w := e
      have t := allD_ok r1 z
      split at e
      · rename_i hz
        cases Option.some.inj e
        exact ⟨by rw [t.length]; exact hz, fun p hp => rM_tup (fun F' m' H' v s p r hv => q F' m' H' s p r v hv) rl1 hp t⟩
      · cases e
theorem se_lst {es : List Expr} {fs : Env → M (List W)} (h : SA X Wx es fs) : SE X Wx (.List es pos) (mkLst fs) :=
  PE.imp (pe_lst h) fun σ H Q h => by
    obtain ⟨F, m, st, ρ, er, rl, h⟩ := h
    refine ⟨F, m, st, ρ, er, rl, After.mono (Same.refl F) (List.prefix_refl m) h.bnd fun ws F1 m1 H1 s1 p1 ⟨st1, _, _, rl1, h1⟩ vs r1 => ?_⟩
    obtain ⟨w, e, q⟩ := h1.liftO
    cases z : allD ws with
    | none => rw [z] at e; cases e
    | some ds =>
      rw [z] at e
      have e : (if ds.length ≤ sizeLine then some (W.d (.list ds)) else none) = some w := e
      have t := allD_ok r1 z
      split at e
      · rename_i hz
        cases Option.some.inj e
        exact ⟨by rw [t.length]; exact hz, fun p hp => rM_lst (fun F' m' H' v s p r hv => q F' m' H' s p r v hv) rl1 hp t⟩
      · cases e
end
end Ev
end
section
set_option Elab.async false
set_option linter.all false
set_option maxRecDepth 100000
set_option autoImplicit false
namespace Ev
open PySem PySem.Spec PyProof.Rows L2
/-! ## calls of built-ins -/
def rCM (X : Cx) (op : Sto → List W → Option W) : List V → Hp → VK → Prop := fun vs H Q => ∃ F m st ws w, WRs X.K F m ws vs ∧ Rel X.K F m st H ∧ op st ws = some w ∧ QV X.K F m st Q w
def CallM (X : Cx) (f : Value) (op : Sto → List W → Option W) : Prop := CallR X f (rCM X op)
section
variable {X : Cx} {Wx : WX} {e a b c : Expr} {es : List Expr} {p pos : Pos} {x : Str} {id T : String} {f fa fb fc : Env → M W} {fs : Env → M (List W)} {op : Sto → List W → Option W}
def callF (op : Sto → List W → Option W) (fs : Env → M (List W)) : Env → M W := fun ρ => bnd (fs ρ) fun ws => liftO fun st => op st ws
theorem tM_call {σ : L2.St} {H : Hp} {Q : VK} (h : tM X Wx (callF op fs) σ H Q) : tA X Wx fs σ H fun vs H1 => rCM X op vs H1 Q := by
  obtain ⟨F, m, st, ρ, er, rl, h⟩ := h
  refine ⟨F, m, st, ρ, er, rl, After.mono (Same.refl F) (List.prefix_refl m) h.bnd fun ws F1 m1 H1 s1 p1 ⟨st1, _, _, rl1, h1⟩ vs r1 => ?_⟩
  obtain ⟨w, e, q⟩ := h1.liftO
  exact ⟨F1, m1, st1, ws, w, r1, rl1, e, fun F' m' H' v s p r hv => q F' m' H' s p r v hv⟩
theorem se_callB (hc : CallM X (.builtin id) op) (hg : Gl X x) (hm : X.mg x = none) (hv : bootBuiltins x = some (.builtin id)) (ha : SA X Wx (e :: es) fs) (hn : x ≠ "__name__" := by decide) (hdb : (x == ("__debug__" : Str)) = false := by decide)
    (he : starEach (e :: es) X.env = (false, eval e X.env) :: starEach es X.env := by rfl) (hpl : (backTo pos (starEach es X.env)).any (·.1) = false := by rfl) : SE X Wx (.Call (.Name x p) (e :: es) [] pos) (callF op fs) :=
  PE.imp (pe_callB hc hg hm hv ha hn hdb he hpl) fun _ _ _ h => tM_call h
theorem se_callTy (hc : CallM X (.type T) op) (hg : Gl X x) (hm : X.mg x = none) (hv : bootBuiltins x = some (.type T)) (ha : SA X Wx (e :: es) fs) (hn : x ≠ "__name__" := by decide) (hdb : (x == ("__debug__" : Str)) = false := by decide)
    (he : starEach (e :: es) X.env = (false, eval e X.env) :: starEach es X.env := by rfl) (hpl : (backTo pos (starEach es X.env)).any (·.1) = false := by rfl) : SE X Wx (.Call (.Name x p) (e :: es) [] pos) (callF op fs) :=
  PE.imp (pe_callTy hc hg hm hv ha hn hdb he hpl) fun _ _ _ h => tM_call h
end

theorem wrs1 {K : PySem.W.Frag} {F : Hp} {m : List Addr} {w : W} {vs : List V} (h : WRs K F m [w] vs) : ∃ v, vs = [v] ∧ WR K F m w v := by
  cases h with | cons a t => cases t; exact ⟨_, rfl, a⟩
theorem wrs2 {K : PySem.W.Frag} {F : Hp} {m : List Addr} {w w' : W} {vs : List V} (h : WRs K F m [w, w'] vs) : ∃ v v', vs = [v, v'] ∧ WR K F m w v ∧ WR K F m w' v' := by
  cases h with | cons a t => obtain ⟨v', rfl, b⟩ := wrs1 t; exact ⟨_, _, rfl, a, b⟩
/-- one argument -/
def on1 (f : Sto → W → Option W) : Sto → List W → Option W
  | st, [w] => f st w
  | _, _ => none
section
variable {X : Cx}
theorem cm_of {g : Value} {f : Sto → W → Option W} (h : ∀ (pins : List (Addr × Obj)) (s : Shared) (σ : L2.St) (H : Hp) (v : V) (us : List Value) (Q : VK) (F : Hp) (m : List Addr) (st : Sto) (w w' : W), Inv X pins σ H s → Vals [v] us → WR X.K F m w v → Rel X.K F m st H →
    f st w = some w' → QV X.K F m st Q w' → wpAny (model X.prog X.w) X.A (call g us) (EP X pins σ Q) X.xe s) : CallM X g (on1 f) := by
  intro pins s σ H vs us Q I r hh
  obtain ⟨F, m, st, ws, w, rv, rl, e, q⟩ := hh
  match ws, rv, e with
  | [w0], rv, e =>
    obtain ⟨v, rfl, r1⟩ := wrs1 rv
    exact h pins s σ H v us Q F m st w0 w I r r1 rl e q
  | [], rv, e => cases e
  | _ :: _ :: _, rv, e => cases e
def lenW (st : Sto) : W → Option W
  | .d (.str x) => if x.length ≤ sizeLine then some (.d (.int x.length)) else none
  | .d (.list xs) => some (.d (.int xs.length))
  | .d (.tuple xs) => some (.d (.int xs.length))
  | .r i => (match st[i]? with
    | some (.lst ws) => some (.d (.int ws.length))
    | _ => none)
  | _ => none
theorem cm_len : CallM X (.builtin "len") (on1 lenW) := cm_of fun pins s σ H v us Q F m st w w' I r hw rl e q => by
  cases w with
  | r i =>
    dsimp only [lenW] at e
    split at e
    · rename_i ws hs
      obtain ⟨a, rfl, h1, vs, h2, h3⟩ := rl.at hw hs
      cases Option.some.inj e
      exact call_len pins s σ H _ us Q I r ⟨_, _, rfl, .inl ⟨vs, SqL.of h2, by rw [PySem.Paired.length h3]⟩, rM_ok q rl (.int _)⟩
    · cases e
  | d x =>
    cases x <;> first | (cases e; done) | skip
    · rw [dq_str hw] at r
      dsimp only [lenW] at e
      split at e
      · rename_i hz
        cases Option.some.inj e
        exact call_len_str pins s σ H _ us Q I r ⟨_, rfl, hz, rM_ok q rl (.int _)⟩
      · cases e
    · obtain ⟨a, vs, rfl, h1, t⟩ := dq_lst hw
      cases Option.some.inj e
      exact call_len pins s σ H _ us Q I r ⟨_, _, rfl, .inl ⟨vs, SqL.of (rl.sub _ _ h1), by rw [t.length]⟩, rM_ok q rl (.int _)⟩
    · obtain ⟨a, vs, rfl, h1, t⟩ := dq_tup hw
      cases Option.some.inj e
      exact call_len pins s σ H _ us Q I r ⟨_, _, rfl, .inr ⟨vs, seqT_mono rl.sub h1, by rw [t.length]⟩, rM_ok q rl (.int _)⟩
def absW (_ : Sto) : W → Option W
  | .d (.int i) => some (.d (.int (if i < 0 then -i else i)))
  | _ => none
theorem cm_abs : CallM X (.builtin "abs") (on1 absW) := cm_of fun pins s σ H v us Q F m st w w' I r hw rl e q => by
  cases w with
  | r i => cases e
  | d x =>
    cases x <;> first | (cases e; done) | skip
    rw [dq_int hw] at r
    cases Option.some.inj e
    exact call_abs pins s σ H _ us Q I r ⟨_, rfl, rM_ok q rl (.int _)⟩
def intW (_ : Sto) : W → Option W
  | .d (.int i) => some (.d (.int i))
  | .d (.bool k) => some (.d (.int (if k then 1 else 0)))
  | _ => none
theorem cm_int : CallM X (.type "int") (on1 intW) := cm_of fun pins s σ H v us Q F m st w w' I r hw rl e q => by
  cases w with
  | r i => cases e
  | d x =>
    cases x <;> first | (cases e; done) | skip
    · rw [dq_bool hw] at r
      cases Option.some.inj e
      exact call_int1 pins s σ H _ us Q I r (.inr ⟨_, rfl, rM_ok q rl (.int _)⟩)
    · rw [dq_int hw] at r
      cases Option.some.inj e
      exact call_int1 pins s σ H _ us Q I r (.inl ⟨_, rfl, rM_ok q rl (.int _)⟩)
def strIW (_ : Sto) : W → Option W
  | .d (.int i) => if i.natAbs.log2 < 1920 then some (.d (.str (toString i))) else none
  | .d (.str z) => some (.d (.str z))
  | _ => none
theorem cm_strI : CallM X (.type "str") (on1 strIW) := cm_of fun pins s σ H v us Q F m st w w' I r hw rl e q => by
  cases w with
  | r i => cases e
  | d x =>
    cases x <;> first | (cases e; done) | skip
    · rw [dq_int hw] at r
      dsimp only [strIW] at e
      split at e
      · rename_i hz
        cases Option.some.inj e
        exact call_str_int pins s σ H _ us Q I r ⟨_, rfl, hz, rM_ok q rl (.str _)⟩
      · cases e
    · rw [dq_str hw] at r
      cases Option.some.inj e
      exact SkE.call_str_str pins s σ H _ us Q I r ⟨_, rfl, rM_ok q rl (.str _)⟩
/-- a list of bools -/
def boolsD : List PyData → Option (List Bool)
  | [] => some []
  | .bool b :: r => (boolsD r).map (b :: ·)
  | _ :: _ => none
theorem boolsD_ok {K : PySem.W.Frag} {F : Hp} : ∀ {ds : List PyData} {vs : List V} {bs : List Bool}, DqAll K F vs ds → boolsD ds = some bs → vs = bs.map V.bl
  | [], _, _, .nil, e => by cases Option.some.inj e; rfl
  | .bool b :: r, _, bs, .cons h t, e => by
    have e : (boolsD r).map (b :: ·) = some bs := e
    cases z : boolsD r with
    | none => rw [z] at e; cases e
    | some cs =>
      rw [z] at e
      cases Option.some.inj e
      rw [boolsD_ok t z]
      cases h; rfl
  | .none :: _, _, _, _, e => nomatch e
  | .int _ :: _, _, _, _, e => nomatch e
  | .str _ :: _, _, _, _, e => nomatch e
  | .list _ :: _, _, _, _, e => nomatch e
  | .tuple _ :: _, _, _, _, e => nomatch e
  | .dict _ :: _, _, _, _, e => nomatch e
def allW (_ : Sto) : W → Option W
  | .d (.list xs) => (boolsD xs).map fun bs => .d (.bool (bs.all id))
  | _ => none
def anyW (_ : Sto) : W → Option W
  | .d (.list xs) => (boolsD xs).map fun bs => .d (.bool (bs.any id))
  | _ => none
theorem cm_all (hc : X.calm = true) : CallM X (.builtin "all") (on1 allW) := cm_of fun pins s σ H v us Q F m st w w' I r hw rl e q => by
  cases w with
  | r i => cases e
  | d x =>
    cases x <;> first | (cases e; done) | skip
    rename_i xs
    obtain ⟨a, vs, rfl, h1, t⟩ := dq_lst hw
    have e : (boolsD xs).map (fun bs => W.d (.bool (bs.all id))) = some w' := e
    cases z : boolsD xs with
    | none => rw [z] at e; cases e
    | some bs =>
      rw [z] at e
      cases Option.some.inj e
      have ev := boolsD_ok t z
      subst ev
      exact cr_all hc pins s σ H _ us Q I r ⟨_, bs, rfl, SqL.of (rl.sub _ _ h1), rM_ok q rl (.bl _)⟩
theorem cm_any (hc : X.calm = true) : CallM X (.builtin "any") (on1 anyW) := cm_of fun pins s σ H v us Q F m st w w' I r hw rl e q => by
  cases w with
  | r i => cases e
  | d x =>
    cases x <;> first | (cases e; done) | skip
    rename_i xs
    obtain ⟨a, vs, rfl, h1, t⟩ := dq_lst hw
    have e : (boolsD xs).map (fun bs => W.d (.bool (bs.any id))) = some w' := e
    cases z : boolsD xs with
    | none => rw [z] at e; cases e
    | some bs =>
      rw [z] at e
      cases Option.some.inj e
      have ev := boolsD_ok t z
      subst ev
      exact cr_any hc pins s σ H _ us Q I r ⟨_, bs, rfl, SqL.of (rl.sub _ _ h1), rM_ok q rl (.bl _)⟩
/-- tuple(x), list(x) of lists and tuples; of mutable lists too (a copy) -/
def seqW (st : Sto) : W → Option (List PyData)
  | .d (.list xs) => some xs
  | .d (.tuple xs) => some xs
  | .r i => (match st[i]? with
    | some (.lst ws) => allD ws
    | _ => none)
  | _ => none
def tupleW (st : Sto) (w : W) : Option W := (seqW st w).map fun xs => .d (.tuple xs)
def listW (st : Sto) (w : W) : Option W := (seqW st w).map fun xs => .d (.list xs)
theorem seqW_ok {K : PySem.W.Frag} {F : Hp} {m : List Addr} {st : Sto} {H : Hp} (rl : Rel K F m st H) {w : W} {v : V} (h : WR K F m w v) {ds : List PyData} (e : seqW st w = some ds) :
    ∃ a vs, v = .ref a ∧ DqAll K F vs ds ∧ (SqL K H a vs ∨ (SqT K H a vs ∧ w = .d (.tuple ds))) := by
  cases w with
  | r i =>
    dsimp only [seqW] at e
    split at e
    · rename_i ws hs
      obtain ⟨a, rfl, h1, vs, h2, h3⟩ := rl.at h hs
      exact ⟨a, vs, rfl, allD_ok h3 e, .inl (SqL.of h2)⟩
    · cases e
  | d x =>
    cases x <;> first | (cases e; done) | skip
    · obtain ⟨a, vs, rfl, h1, t⟩ := dq_lst h
      cases Option.some.inj e
      exact ⟨a, vs, rfl, t, .inl (SqL.of (rl.sub _ _ h1))⟩
    · obtain ⟨a, vs, rfl, h1, t⟩ := dq_tup h
      cases Option.some.inj e
      exact ⟨a, vs, rfl, t, .inr ⟨seqT_mono rl.sub h1, rfl⟩⟩
theorem cm_tuple : CallM X (.type "tuple") (on1 tupleW) := cm_of fun pins s σ H v us Q F m st w w' I r hw rl e q => by
  have e : (seqW st w).map (fun xs => W.d (.tuple xs)) = some w' := e
  cases z : seqW st w with
  | none => rw [z] at e; cases e
  | some ds =>
    rw [z] at e
    cases Option.some.inj e
    obtain ⟨a, vs, rfl, t, h⟩ := seqW_ok rl hw z
    refine call_tuple_of pins s σ H _ us Q I r ⟨a, vs, rfl, ?_⟩
    rcases h with h | ⟨h, rfl⟩
    · exact .inl ⟨h, fun l hl => rM_tup q rl hl t⟩
    · exact .inr ⟨h, rM_ok q rl hw⟩
theorem cm_list : CallM X (.type "list") (on1 listW) := cm_of fun pins s σ H v us Q F m st w w' I r hw rl e q => by
  have e : (seqW st w).map (fun xs => W.d (.list xs)) = some w' := e
  cases z : seqW st w with
  | none => rw [z] at e; cases e
  | some ds =>
    rw [z] at e
    cases Option.some.inj e
    obtain ⟨a, vs, rfl, t, h⟩ := seqW_ok rl hw z
    refine call_list_of pins s σ H _ us Q I r ⟨a, vs, rfl, ?_, fun l hl => rM_lst q rl hl t⟩
    rcases h with h | ⟨h, _⟩
    · exact .inl h
    · exact .inr h
end

/-! ## isinstance(e, T) -/
inductive Ty where | int | str | bool | tuple | list
def Ty.name : Ty → String
  | .int => "int" | .str => "str" | .bool => "bool" | .tuple => "tuple" | .list => "list"
def isTyD : Ty → PyData → Bool
  | .int, .int _ => true
  | .int, .bool _ => true
  | .bool, .bool _ => true
  | .str, .str _ => true
  | .tuple, .tuple _ => true
  | .list, .list _ => true
  | _, _ => false
def tyS : PyData → String
  | .none => "NoneType" | .bool _ => "bool" | .int _ => "int" | .str _ => "str" | .list _ => "list" | .tuple _ => "tuple" | .dict _ => "dict"
def isTyS : Ty → String → Bool
  | .int, n => n == "int" || n == "bool"
  | .bool, n => n == "bool"
  | .str, n => n == "str"
  | .tuple, n => n == "tuple"
  | .list, n => n == "list"
theorem kitN : ([Ty.int, .str, .bool, .tuple, .list].all fun T => (["NoneType", "bool", "int", "str", "list", "tuple", "dict"] : List String).all fun n => kitB n T.name == some (isTyS T n)) = true := by decide +kernel
theorem kitTy (T : Ty) (x : PyData) : kitB (tyS x) T.name = some (isTyD T x) := by
  have h1 := List.all_eq_true.mp kitN T (by cases T <;> simp)
  have h2 := List.all_eq_true.mp h1 (tyS x) (by cases x <;> simp [tyS])
  have e : isTyS T (tyS x) = isTyD T x := by cases T <;> cases x <;> rfl
  rw [← e]
  exact eq_of_beq h2
section
variable {X : Cx} {Wx : WX} {e : Expr} {p p2 pos : Pos} {f : Env → M W}
theorem tyX_tup {K : PySem.W.Frag} {H : Hp} {a : Addr} {xs : List V} (h : SqT K H a xs) : TyX K H (.ref a) (.type "tuple") := by
  rcases h with (h | ⟨o, h⟩) | ⟨o, its, n, h, hc, _⟩
  · exact .base (.tup h)
  · exact .fTuple h
  · exact .kTuple h hc
theorem tyX_d {K : PySem.W.Frag} {F H : Hp} (s : Same F H) {v : V} {x : PyData} (h : Dq K F v x) : TyX K H v (.type (tyS x)) := by
  cases h with
  | non => exact .base .non
  | bl b => exact .base (.bl b)
  | int i => exact .base (.int i)
  | str x => exact .base (.str x)
  | lst h t => exact .base (.lst (s _ _ h))
  | tup h t => exact tyX_tup (seqT_mono s h)
def isiF (T : Ty) (f : Env → M W) : Env → M W := fun ρ => bnd (f ρ) fun w => liftO fun st => match w with
  | .d x => some (.d (.bool (isTyD T x)))
  | .r i => (match st[i]? with
    | some (.lst _) => some (.d (.bool (isTyD T (.list []))))
    | _ => none)
theorem se_isi (T : Ty) (he : SE X Wx e f) (hg : Gl X "isinstance") (hm : X.mg "isinstance" = none) (hg2 : Gl X T.name) (hm2 : X.mg T.name = none) (hs : starEach [e, .Name T.name p2] X.env = (false, eval e X.env) :: starEach [.Name T.name p2] X.env := by rfl) :
    SE X Wx (.Call (.Name "isinstance" p) [e, .Name T.name p2] [] pos) (isiF T f) := by
  have hb : bootBuiltins T.name = some (.type T.name) := by cases T <;> (show bootBuiltins _ = some (.type _); decide +kernel)
  have n1 : (T.name : Str) ≠ "__name__" := by cases T <;> decide
  have n2 : ((T.name : Str) == ("__debug__" : Str)) = false := by cases T <;> decide
  refine PE.imp (pe_callB call_isi hg hm boot_isinstance (pa_cons he (pa_cons (pe_bltn (v := .ty T.name) hg2 hm2 hb rfl n1 n2) pa_nil) hs) (by decide) (by decide) hs) fun σ H Q h => ?_
  obtain ⟨F, m, st, ρ, er, rl, h⟩ := h
  refine ⟨F, m, st, ρ, er, rl, After.mono (Same.refl F) (List.prefix_refl m) h.bnd fun w F1 m1 H1 s1 p1 ⟨st1, _, _, rl1, h1⟩ v r1 => ?_⟩
  obtain ⟨w', e, q⟩ := h1.liftO
  split at e
  · cases Option.some.inj e
    exact ⟨_, _, _, _, _, rfl, .ty _, tyX_d rl1.sub r1, kit_ty (kitTy T _), q F1 m1 H1 (Same.refl _) (List.prefix_refl _) rl1 _ (.bl _)⟩
  · split at e
    · rename_i hs
      obtain ⟨a, rfl, h1, vs, h2, h3⟩ := rl1.at r1 hs
      cases Option.some.inj e
      exact ⟨_, _, _, _, _, rfl, .ty _, .base (.lst h2), kit_ty (kitTy T (.list [])), q F1 m1 H1 (Same.refl _) (List.prefix_refl _) rl1 _ (.bl _)⟩
    · cases e
end

/-! ## subscripts, slices -/
def ixD : PyData → Int → Option PyData
  | .list xs, i => atI xs i
  | .tuple xs, i => atI xs i
  | .str z, i => if z.length ≤ sizeLine then (atI z.cps.toList i).map fun c => .str ⟨#[c]⟩ else none
  | _, _ => none
def ixW (st : Sto) : W → W → Option W
  | .d x, .d (.int i) => (ixD x i).map .d
  | .r j, .d (.int i) => (match st[j]? with
    | some (.lst ws) => atI ws i
    | _ => none)
  | _, _ => none
theorem DqAll.atI {K : PySem.W.Frag} {F : Hp} {vs : List V} {ds : List PyData} (t : DqAll K F vs ds) {i : Int} {d : PyData} (h : atI ds i = some d) : ∃ v, L2.atI vs i = some v ∧ Dq K F v d := by
  unfold L2.atI at h ⊢
  rw [t.length]
  cases z : ixN ds.length i with
  | none => rw [z] at h; cases h
  | some j => rw [z] at h; exact t.get h
theorem Paired.get {α β : Type} {R : α → β → Prop} : ∀ {xs : List α} {ys : List β} {i : Nat} {x : α}, Paired R xs ys → xs[i]? = some x → ∃ y, ys[i]? = some y ∧ R x y
  | _, _, _, _, .nil, e => by simp at e
  | _, _, 0, x, .cons (b := b) h _, e => ⟨b, rfl, by have e' := Option.some.inj e; rw [← e']; exact h⟩
  | _, _, i + 1, x, .cons _ t, e => by
    obtain ⟨y, h1, h2⟩ := Paired.get (i := i) (x := x) t (by simpa using e)
    exact ⟨y, by simpa using h1, h2⟩
theorem WRs.atI {K : PySem.W.Frag} {F : Hp} {m : List Addr} {ws : List W} {vs : List V} (t : WRs K F m ws vs) {i : Int} {d : W} (h : atI ws i = some d) : ∃ v, L2.atI vs i = some v ∧ WR K F m d v := by
  unfold L2.atI at h ⊢
  rw [← PySem.Paired.length t]
  cases z : ixN ws.length i with
  | none => rw [z] at h; cases h
  | some j => rw [z] at h; exact Ev.Paired.get t h
section
variable {X : Cx} {Wx : WX} {e a b c : Expr} {pos p2 : Pos} {f fa fb fc : Env → M W} {lo hi : Option Expr}
theorem im_seq : IxR X (rM X ixW) := by
  intro value slice pins s σ H x y v u Q I rx ry h hp
  obtain ⟨F, m, st, a, b, w, ra, rb, rl, e, q⟩ := h
  cases b with
  | r _ => cases a <;> cases e
  | d b =>
    cases b <;> first | (cases a <;> (cases e; done)) | skip
    rename_i i
    have e2 := dq_int rb; subst e2
    cases a with
    | r j =>
      dsimp only [ixW] at e
      split at e
      · rename_i ws hs
        obtain ⟨p, rfl, h1, vs, h2, h3⟩ := rl.at ra hs
        obtain ⟨v', hv, rv⟩ := WRs.atI h3 e
        exact ix_list value slice pins s σ H _ _ v u Q I rx ry ⟨_, vs, i, v', rfl, rfl, SqL.of h2, hv, rM_ok q rl rv⟩ hp
      · cases e
    | d x =>
      have e : (ixD x i).map W.d = some w := e
      cases z : ixD x i with
      | none => rw [z] at e; cases e
      | some d =>
        rw [z] at e
        cases Option.some.inj e
        cases x <;> first | (cases z; done) | skip
        · have e1 := dq_str ra; subst e1
          dsimp only [ixD] at z
          split at z
          · rename_i s' hz
            cases y : L2.atI s'.cps.toList i with
            | none => rw [y] at z; cases z
            | some c =>
              rw [y] at z
              cases Option.some.inj z
              exact ix_str value slice pins s σ H _ _ v u Q I rx ry ⟨_, i, c, rfl, rfl, hz, y, rM_ok q rl (.str _)⟩ hp
          · cases z
        · obtain ⟨p, vs, rfl, h1, t⟩ := dq_lst ra
          obtain ⟨v', hv, rv⟩ := t.atI z
          exact ix_list value slice pins s σ H _ _ v u Q I rx ry ⟨_, vs, i, v', rfl, rfl, SqL.of (rl.sub _ _ h1), hv, rM_ok q rl rv⟩ hp
        · obtain ⟨p, vs, rfl, h1, t⟩ := dq_tup ra
          obtain ⟨v', hv, rv⟩ := t.atI z
          exact ix_tup value slice pins s σ H _ _ v u Q I rx ry ⟨_, vs, i, v', rfl, rfl, seqT_mono rl.sub h1, hv, rM_ok q rl rv⟩ hp
theorem se_ix (ha : SE X Wx a fa) (hb : SE X Wx b fb) (hs : PlainIx b) : SE X Wx (.Subscript a b pos) (bin ixW fa fb) :=
  PE.imp (pe_ix im_seq ha hb hs) fun σ H Q h => tM_op (fun _ _ _ _ q => q) h
/-- a slice's part -/
abbrev SO' (X : Cx) (Wx : WX) (e : Option Expr) (f : Env → M (Option Int)) : Prop := PO X e (fun σ H Q => ∃ F m st ρ, EnvR (gd X) F m ρ σ ∧ Rel X.K F m st H ∧
  After X.K X.mg F m (fun c d H' => Wx c d σ H') (f ρ st) (fun o F' m' H' => Q o H'))
theorem PO.imp {X : Cx} {e : Option Expr} {t t' : TO} (h : PO X e t) (k : ∀ σ H Q, t' σ H Q → t σ H Q) : PO X e t' := ⟨fun pins s σ H Q I q => h.run pins s σ H Q I (k σ H Q q)⟩
def partF (f : Env → M W) : Env → M (Option Int) := fun ρ => bnd (f ρ) fun w => liftO fun _ => match w with
  | .d (.int i) => some (some i)
  | _ => none
theorem so_none : SO' X Wx none (fun _ => ret none) := PO.imp po_none fun σ H Q h => by
  obtain ⟨F, m, st, ρ, er, rl, h⟩ := h
  exact h.here rl
theorem so_some (h : SE X Wx e f) : SO' X Wx (some e) (partF f) := PO.imp (po_some h) fun σ H Q h => by
  obtain ⟨F, m, st, ρ, er, rl, h⟩ := h
  refine ⟨F, m, st, ρ, er, rl, After.mono (Same.refl F) (List.prefix_refl m) h.bnd fun w F1 m1 H1 s1 p1 ⟨st1, _, _, rl1, h1⟩ v r1 => ?_⟩
  obtain ⟨o, e, q⟩ := h1.liftO
  split at e
  · cases Option.some.inj e
    exact ⟨_, dq_int r1, q F1 m1 H1 (Same.refl _) (List.prefix_refl _) rl1⟩
  · cases e
def cutL {α : Type} (xs : List α) (lo hi : Option Int) : List α := (xs.drop (HT.sIx xs.length 0 lo)).take (HT.sIx xs.length xs.length hi - HT.sIx xs.length 0 lo)
def slD (lo hi : Option Int) : PyData → Option PyData
  | .list xs => some (.list (cutL xs lo hi))
  | .tuple xs => some (.tuple (cutL xs lo hi))
  | .str z => if z.length ≤ sizeLine then some (.str ⟨(cutL z.cps.toList lo hi).toArray⟩) else none
  | _ => none
def slW (st : Sto) (w : W) (lo hi : Option Int) : Option W := match w with
  | .d x => (slD lo hi x).map .d
  | .r i => (match st[i]? with
    | some (.lst ws) => (allD ws).map fun xs => .d (.list (cutL xs lo hi))
    | _ => none)
theorem DqAll.cut {K : PySem.W.Frag} {F : Hp} {vs : List V} {ds : List PyData} (t : DqAll K F vs ds) (lo hi : Option Int) : DqAll K F (cutV vs lo hi) (cutL ds lo hi) := by
  unfold cutV cutL
  rw [t.length]
  exact (t.drop _).take _
theorem cutL_all {α : Type} {xs : List α} {lo hi : Option Int} (h : HT.sIx xs.length 0 lo = 0 ∧ HT.sIx xs.length xs.length hi = xs.length) : cutL xs lo hi = xs := by
  unfold cutL
  rw [h.1, h.2, List.drop_zero, Nat.sub_zero, List.take_length]
def rSlM (X : Cx) : V → Option Int → Option Int → Hp → VK → Prop := fun x lo hi H Q => ∃ F m st a w, WR X.K F m a x ∧ Rel X.K F m st H ∧ slW st a lo hi = some w ∧ QV X.K F m st Q w
theorem sm_any : L2.SlR X (rSlM X) := by
  intro pins s σ H x v vl vu lo hi sl Q I rx hs pl pu h
  obtain ⟨F, m, st, a, w, ra, rl, e, q⟩ := h
  cases a with
  | r i =>
    dsimp only [slW] at e
    split at e
    · rename_i ws hz
      obtain ⟨p, rfl, h1, vs, h2, h3⟩ := rl.at ra hz
      cases z : allD ws with
      | none => rw [z] at e; cases e
      | some ds =>
        rw [z] at e
        cases Option.some.inj e
        exact sl_list pins s σ H _ v vl vu lo hi sl Q I rx hs pl pu ⟨_, vs, rfl, SqL.of h2, fun p hp => rM_lst q rl hp ((allD_ok h3 z).cut lo hi)⟩
    · cases e
  | d x =>
    have e : (slD lo hi x).map W.d = some w := e
    cases z : slD lo hi x with
    | none => rw [z] at e; cases e
    | some d =>
      rw [z] at e
      cases Option.some.inj e
      cases x <;> first | (cases z; done) | skip
      · have e1 := dq_str ra; subst e1
        dsimp only [slD] at z
        split at z
        · rename_i hz
          cases Option.some.inj z
          refine sl_str pins s σ H _ v vl vu lo hi sl Q I rx hs pl pu ⟨_, rfl, hz, rM_ok q rl ?_⟩
          show Dq _ _ _ _
          have ec : ∀ z' : Str, cutS z' lo hi = ⟨(cutL z'.cps.toList lo hi).toArray⟩ := fun z' => by
            unfold cutS cutL
            rw [Array.length_toList]
            rfl
          rw [ec]
          exact .str _
        · cases z
      · obtain ⟨p, vs, rfl, h1, t⟩ := dq_lst ra
        cases Option.some.inj z
        exact sl_list pins s σ H _ v vl vu lo hi sl Q I rx hs pl pu ⟨_, vs, rfl, SqL.of (rl.sub _ _ h1), fun p hp => rM_lst q rl hp (t.cut lo hi)⟩
      · obtain ⟨p, vs, rfl, h1, t⟩ := dq_tup ra
        cases Option.some.inj z
        refine sl_tupA pins s σ H _ v vl vu lo hi sl Q I rx hs pl pu ⟨_, vs, rfl, seqT_mono rl.sub h1, fun hw => ?_, fun hw p hp => rM_tup q rl hp (t.cut lo hi)⟩
        rw [t.length] at hw
        rw [cutL_all hw] at q
        exact rM_ok q rl ra
def sliceF (f : Env → M W) (g h : Env → M (Option Int)) : Env → M W := fun ρ => bnd (f ρ) fun x => bnd (g ρ) fun lo => bnd (h ρ) fun hi => liftO fun st => slW st x lo hi
theorem se_slice {g h : Env → M (Option Int)} (he : SE X Wx e f) (hl : SO' X Wx lo g) (hu : SO' X Wx hi h) : SE X Wx (.Subscript e (.Slice lo hi none p2) pos) (sliceF f g h) :=
  PE.imp (pe_slice sm_any he hl hu) fun σ H Q hh => by
    obtain ⟨F, m, st, ρ, er, rl, hh⟩ := hh
    refine ⟨F, m, st, ρ, er, rl, After.mono (Same.refl F) (List.prefix_refl m) hh.bnd fun x F1 m1 H1 s1 p1 ⟨st1, _, _, rl1, h1⟩ v r1 => ?_⟩
    refine ⟨F1, m1, st1, ρ, er.mono s1 p1, rl1, After.mono (Same.refl F1) (List.prefix_refl m1) h1.bnd fun l F2 m2 H2 s2 p2 ⟨st2, _, _, rl2, h2⟩ => ?_⟩
    refine ⟨F2, m2, st2, ρ, (er.mono s1 p1).mono s2 p2, rl2, After.mono (Same.refl F2) (List.prefix_refl m2) h2.bnd fun u F3 m3 H3 s3 p3 ⟨st3, _, _, rl3, h3⟩ => ?_⟩
    obtain ⟨w, e, q⟩ := h3.liftO
    exact ⟨F3, m3, st3, x, w, (r1.mono s2 p2).mono s3 p3, rl3, e, fun F' m' H' v s p r hv => q F' m' H' s p r v hv⟩
end
end Ev
end
section
set_option Elab.async false
set_option linter.all false
set_option maxRecDepth 100000
set_option autoImplicit false
namespace Ev
open PySem PySem.Spec PyProof.Rows L2
/-! ## equality of data, decided -/
mutual
def beqD : PyData → PyData → Bool
  | .none, .none => true
  | .bool a, .bool b => a == b
  | .int a, .int b => decide (a = b)
  | .str a, .str b => decide (a = b)
  | .list a, .list b => beqDs a b
  | .tuple a, .tuple b => beqDs a b
  | _, _ => false
def beqDs : List PyData → List PyData → Bool
  | [], [] => true
  | a :: r, b :: s => beqD a b && beqDs r s
  | _, _ => false
end
mutual
theorem beqD_eq : ∀ (a b : PyData), beqD a b = true → a = b
  | .none, b, h => by cases b <;> first | rfl | cases h
  | .bool a, b, h => by cases b <;> first | (cases h; done) | (simp [beqD] at h; rw [h])
  | .int a, b, h => by cases b <;> first | (cases h; done) | (simp [beqD] at h; rw [h])
  | .str a, b, h => by cases b <;> first | (cases h; done) | (simp [beqD] at h; rw [h])
  | .list a, b, h => by
    cases b <;> first | (cases h; done) | skip
    rw [beqDs_eq a _ h]
  | .tuple a, b, h => by
    cases b <;> first | (cases h; done) | skip
    rw [beqDs_eq a _ h]
  | .dict a, b, h => by cases b <;> cases h
theorem beqDs_eq : ∀ (a b : List PyData), beqDs a b = true → a = b
  | [], b, h => by cases b <;> first | rfl | cases h
  | a :: r, b, h => by
    cases b with
    | nil => cases h
    | cons b s =>
      have h : (beqD a b && beqDs r s) = true := h
      obtain ⟨h1, h2⟩ := Bool.and_eq_true_iff.mp h
      rw [beqD_eq a b h1, beqDs_eq r s h2]
end
/-- the mutable list at i is still these data -/
def stillAt (i : Nat) (ds : List PyData) (st : Sto) : Bool := match st[i]? with
  | some (.lst ws) => (match allD ws with
    | some es => beqDs es ds
    | none => false)
  | _ => false
theorem stillAt_ok {i : Nat} {ds : List PyData} {st : Sto} (h : stillAt i ds st = true) : ∃ ws, st[i]? = some (.lst ws) ∧ allD ws = some ds := by
  unfold stillAt at h
  split at h
  · rename_i ws hs
    split at h
    · rename_i es he
      exact ⟨ws, hs, by rw [he, beqDs_eq _ _ h]⟩
    · cases h
  · cases h

/-! ## small statements -/
section
variable {X : Cx} {Wx : WX} {e a b c : Expr} {pos : Pos} {st : Stmt} {rest sa sb : List Stmt} {f fa fb fc : Env → M W} {g : Env → M Bool} {s t : S}
def nxS : S := fun ρ st => .go (.nx ρ) st
def seqS (s t : S) : S := fun ρ st => match s ρ st with
  | .go (.nx ρ') st' => t ρ' st'
  | r => r
def ofM {α : Type} (m : M α) (ρ : Env) (k : α → Sto → RS) : Sto → RS := fun st => match m st with
  | .ok a st' => k a st'
  | .ex x st' => .ex x ρ st'
  | .bad => .bad
def retS (f : Env → M W) : S := fun ρ => ofM (f ρ) ρ fun w st => .go (.rt w) st
def ifS (g : Env → M Bool) (s t : S) : S := fun ρ => ofM (g ρ) ρ fun k st => if k = true then s ρ st else t ρ st
def dropS (f : Env → M W) : S := fun ρ => ofM (f ρ) ρ fun _ st => .go (.nx ρ) st
def asgS (i : Nat) (f : Env → M W) : S := fun ρ => ofM (f ρ) ρ fun w st => .go (.nx (ρ.set i (some (.w w)))) st
/-- an expression ahead of a statement's rest -/
theorem AfterS.ofM {α : Type} {gd' : Gd} {F : Hp} {m : List Addr} {Wx : WX} {x : M α} {ρ : Env} {k : α → Sto → RS} {st : Sto} {D : Ends} {σ : L2.St} (er : EnvR gd' F m ρ σ) (h : AfterS gd' F m Wx (ofM x ρ k st) D) :
    After gd'.K gd'.mg F m (fun c d H' => Wx c d σ H') (x st) (fun a F' m' H' => ∃ st', Same F F' ∧ m <+: m' ∧ Rel gd'.K F' m' st' H' ∧ AfterS gd' F' m' Wx (k a st') D) := by
  unfold Ev.ofM at h
  cases z : x st with
  | ok a st' =>
    rw [z] at h
    refine fun F' m' H' s p r => ⟨st', s, p, r, ?_⟩
    have h : AfterS gd' F m Wx (k a st') D := h
    cases y : k a st' with
    | go fl st2 =>
      rw [y] at h
      cases fl <;> exact fun F2 m2 H2 => fun v s2 p2 r2 => h F2 m2 H2 v (s.trans s2) (pre_trans p p2) r2
    | ex x ρ' st2 => rw [y] at h; exact fun F2 m2 H2 σ' c d s2 p2 r2 => h F2 m2 H2 σ' c d (s.trans s2) (pre_trans p p2) r2
    | bad => rw [y] at h; exact h
  | ex x st' =>
    rw [z] at h
    exact fun F' m' H' c d s p r e => h F' m' H' σ c d s p r (er.mono s p) e
  | bad => rw [z] at h; exact h
theorem AfterS.mono {gd' : Gd} {F F' : Hp} {m m' : List Addr} {Wx : WX} {r : RS} {D : Ends} (s : Same F F') (p : m <+: m') (h : AfterS gd' F m Wx r D) : AfterS gd' F' m' Wx r D := by
  cases r with
  | go fl st2 => cases fl <;> exact fun F2 m2 H2 => fun v s2 p2 r2 => h F2 m2 H2 v (s.trans s2) (pre_trans p p2) r2
  | ex x ρ' st2 => exact fun F2 m2 H2 σ' c d s2 p2 r2 => h F2 m2 H2 σ' c d (s.trans s2) (pre_trans p p2) r2
  | bad => exact h
theorem sss_nil : SSs X Wx [] nxS := PSs.imp pss_nil fun D σ H h => by
  obtain ⟨F, m, st, ρ, er, rl, h⟩ := h
  exact h F m H σ (Same.refl F) (List.prefix_refl m) rl er
theorem sss_one (h : SS X Wx st s) : SSs X Wx [st] s := pss_one h
theorem sss_cons (h1 : SS X Wx st s) (h2 : SSs X Wx rest t) : SSs X Wx (st :: rest) (seqS s t) := PSs.imp (pss_cons h1 h2) fun D σ H h => by
  obtain ⟨F, m, st, ρ, er, rl, h⟩ := h
  refine ⟨F, m, st, ρ, er, rl, ?_⟩
  unfold seqS at h
  cases z : s ρ st with
  | go fl st2 =>
    rw [z] at h
    cases fl with
    | nx ρ2 => exact fun F2 m2 H2 σ2 s2 p2 r2 er2 => ⟨F2, m2, st2, ρ2, er2, r2, AfterS.mono s2 p2 h⟩
    | rt w => exact h
    | bk ρ2 => exact h
    | ct ρ2 => exact h
  | ex x ρ' st2 => rw [z] at h; exact h
  | bad => rw [z] at h; exact h
theorem ss_ret (h : SE X Wx e f) : SS X Wx (.Return (some e) pos) (retS f) := PS.imp (ps_ret h) fun D σ H h => by
  obtain ⟨F, m, st, ρ, er, rl, h⟩ := h
  exact ⟨F, m, st, ρ, er, rl, After.mono (Same.refl F) (List.prefix_refl m) (AfterS.ofM er h) fun w F1 m1 H1 s1 p1 ⟨st1, _, _, rl1, h1⟩ v r1 => h1 F1 m1 H1 v (Same.refl _) (List.prefix_refl _) rl1 r1⟩
theorem ss_retN : SS X Wx (.Return none pos) (retS fun _ => ret (.d .none)) := PS.imp ps_retN fun D σ H h => by
  obtain ⟨F, m, st, ρ, er, rl, h⟩ := h
  exact h F m H .non (Same.refl F) (List.prefix_refl m) rl .non
theorem ss_pass : SS X Wx (.Pass pos) nxS := PS.imp ps_pass fun D σ H h => by
  obtain ⟨F, m, st, ρ, er, rl, h⟩ := h
  exact h F m H σ (Same.refl F) (List.prefix_refl m) rl er
theorem ss_brk : SS X Wx (.Break pos) (fun ρ st => .go (.bk ρ) st) := PS.imp ps_break fun D σ H h => by
  obtain ⟨F, m, st, ρ, er, rl, h⟩ := h
  exact h F m H σ (Same.refl F) (List.prefix_refl m) rl er
theorem ss_cnt : SS X Wx (.Continue pos) (fun ρ st => .go (.ct ρ) st) := PS.imp ps_continue fun D σ H h => by
  obtain ⟨F, m, st, ρ, er, rl, h⟩ := h
  exact h F m H σ (Same.refl F) (List.prefix_refl m) rl er
theorem ss_if (hc : SB X Wx c g) (ha : SSs X Wx sa s) (hb : SSs X Wx sb t) : SS X Wx (.If c sa sb pos) (ifS g s t) := PS.imp (ps_if hc ha hb) fun D σ H h => by
  obtain ⟨F, m, st, ρ, er, rl, h⟩ := h
  refine ⟨F, m, st, ρ, er, rl, After.mono (Same.refl F) (List.prefix_refl m) (AfterS.ofM er h) fun k F1 m1 H1 s1 p1 ⟨st1, _, _, rl1, h1⟩ => ?_⟩
  cases k with
  | true => rw [if_pos rfl] at h1 ⊢; exact ⟨F1, m1, st1, ρ, er.mono s1 p1, rl1, h1⟩
  | false => rw [if_neg Bool.false_ne_true] at h1 ⊢; exact ⟨F1, m1, st1, ρ, er.mono s1 p1, rl1, h1⟩
theorem ss_expr (h : SE X Wx e f) (hs : swapsWith e none pos.line X.env = pure false := by rfl) : SS X Wx (.Expr e pos) (dropS f) := PS.imp (ps_expr h hs) fun D σ H h => by
  obtain ⟨F, m, st, ρ, er, rl, h⟩ := h
  exact ⟨F, m, st, ρ, er, rl, After.mono (Same.refl F) (List.prefix_refl m) (AfterS.ofM er h) fun w F1 m1 H1 s1 p1 ⟨st1, _, _, rl1, h1⟩ v r1 => h1 F1 m1 H1 σ (Same.refl _) (List.prefix_refl _) rl1 (er.mono s1 p1)⟩
theorem tS_asg {i : Nat} {D : Ends} {σ : L2.St} {H : Hp} (h : tS X Wx (asgS i f) D σ H) : tAsg (tM X Wx f) (gName i) D σ H := by
  obtain ⟨F, m, st, ρ, er, rl, h⟩ := h
  exact ⟨F, m, st, ρ, er, rl, After.mono (Same.refl F) (List.prefix_refl m) (AfterS.ofM er h) fun w F1 m1 H1 s1 p1 ⟨st1, _, _, rl1, h1⟩ v r1 => h1 F1 m1 H1 _ (Same.refl _) (List.prefix_refl _) rl1 ((er.mono s1 p1).set i (x := .w w) r1)⟩
theorem ss_set {i : Nat} {x : Str} {pos' : Pos} (hN : X.N.Nodup) (hi : X.N[i]? = some x) (hx : Loc X.env.scope x) (he : SE X Wx e f) (hs : swapsWith e (some (.Name x pos')) pos.line X.env = pure false := by rfl)
    (hf : X.fn x = true ∨ X.env.scope.names.lookup x = some .local := by first | exact .inl rfl | exact .inr rfl | assumption) : SS X Wx (.Assign [.Name x pos'] e pos) (asgS i f) :=
  PS.imp (ps_set hN hi hx he hs hf) fun _ _ _ h => tS_asg h
/-- a, b = x, y (two local names) -/
def parS (i j : Nat) (fs : Env → M (List W)) : S := fun ρ => ofM (fs ρ) ρ fun ws st => match ws with
  | [v, w] => .go (.nx ((ρ.set i (some (.w v))).set j (some (.w w)))) st
  | _ => .bad
theorem ss_par {i j : Nat} {x y : Str} {fs : Env → M (List W)} {px py pt : Pos} {kt k2 : Nat} {pt2 : Pos} (hc : X.calm = true) (hN : X.N.Nodup) (hi : X.N[i]? = some x) (hj : X.N[j]? = some y) (hij : i ≠ j)
    (hx : X.env.scope.names.lookup x = some .local) (hy : X.env.scope.names.lookup y = some .local) (ha : SA X Wx [a, b] fs)
    (hw : swappedStores [.Tuple [.Name x px, .Name y py] kt pt] (.Tuple [a, b] k2 pt2) X.env = pure (some [x, y]))
    (hs : swapsWithSole [.Tuple [.Name x px, .Name y py] kt pt] (.Tuple [a, b] k2 pt2) pos.line X.env = pure false := by rfl) :
    SS X Wx (.Assign [.Tuple [.Name x px, .Name y py] kt pt] (.Tuple [a, b] k2 pt2) pos) (parS i j fs) :=
  PS.imp (ps_par hc hN hi hj hij hx hy ha hw hs) fun D σ H h => by
    obtain ⟨F, m, st, ρ, er, rl, h⟩ := h
    refine ⟨F, m, st, ρ, er, rl, After.mono (Same.refl F) (List.prefix_refl m) (AfterS.ofM er h) fun ws F1 m1 H1 s1 p1 ⟨st1, _, _, rl1, h1⟩ vs r1 => ?_⟩
    split at h1
    · obtain ⟨v, w, rfl, ra, rb⟩ := wrs2 r1
      exact ⟨v, w, rfl, h1 F1 m1 H1 _ (Same.refl _) (List.prefix_refl _) rl1 (((er.mono s1 p1).set i (x := .w _) ra).set j (x := .w _) rb)⟩
    · exact h1.elim
end

/-! ## targets -/
abbrev As := PyData → Env → Option Env
/-- only the slots is may have changed -/
def Only (is : List Nat) (σ σ' : L2.St) : Prop := σ'.length = σ.length ∧ ∀ j : Nat, j ∉ is → σ'[j]? = σ[j]?
theorem Only.refl {is : List Nat} {σ : L2.St} : Only is σ σ := ⟨rfl, fun _ _ => rfl⟩
theorem Only.set {is : List Nat} {σ : L2.St} {i : Nat} {v : Option V} (h : i ∈ is) : Only is σ (σ.set i v) :=
  ⟨List.length_set, fun j hj => List.getElem?_set_ne fun (e : i = j) => hj (by rw [← e]; exact h)⟩
theorem Only.trans {is js : List Nat} {σ σ' σ2 : L2.St} (a : Only is σ σ') (b : Only js σ' σ2) : Only (is ++ js) σ σ2 :=
  ⟨b.1.trans a.1, fun j hj => (b.2 j fun z => hj (List.mem_append_right _ z)).trans (a.2 j fun z => hj (List.mem_append_left _ z))⟩
def gM (X : Cx) (asg : As) (is : List Nat) : TG := fun v σ H Q => ∃ F m ρ d ρ', Same F H ∧ EnvR (gd X) F m ρ σ ∧ Dq X.K F v d ∧ asg d ρ = some ρ' ∧ ∀ σ', EnvR (gd X) F m ρ' σ' → Only is σ σ' → Q σ' H
def gMs (X : Cx) (asg : List PyData → Env → Option Env) (is : List Nat) : TGs := fun vs σ H Q => ∃ F m ρ ds ρ', Same F H ∧ EnvR (gd X) F m ρ σ ∧ DqAll X.K F vs ds ∧ asg ds ρ = some ρ' ∧ ∀ σ', EnvR (gd X) F m ρ' σ' → Only is σ σ' → Q σ' H
section
variable {X : Cx} {tg e : Expr} {es : List Expr} {pos : Pos} {is js : List Nat}
theorem PG.imp {X : Cx} {e : Expr} {t t' : TG} (h : PG X e t) (k : ∀ v σ H Q, t' v σ H Q → t v σ H Q) : PG X e t' := ⟨fun pins s σ H v u Q I r q => h.run pins s σ H v u Q I r (k v σ H Q q)⟩
theorem PGs.imp {X : Cx} {e : List Expr} {t t' : TGs} (h : PGs X e t) (k : ∀ v σ H Q, t' v σ H Q → t v σ H Q) : PGs X e t' := ⟨fun pins s σ H v u Q I r q => h.run pins s σ H v u Q I r (k v σ H Q q)⟩
def aName (i : Nat) : As := fun d ρ => some (ρ.set i (some (.w (.d d))))
theorem sg_name {i : Nat} {x : Str} (hN : X.N.Nodup) (hi : X.N[i]? = some x) (hx : Loc X.env.scope x) (hf : X.fn x = true ∨ X.env.scope.names.lookup x = some .local := by first | exact .inl rfl | exact .inr rfl | assumption) : PG X (.Name x pos) (gM X (aName i) [i]) :=
  PG.imp (pg_name hN hi hx hf) fun v σ H Q h => by
    obtain ⟨F, m, ρ, d, ρ', s, er, hd, e, q⟩ := h
    cases Option.some.inj e
    exact q _ (er.set i (x := .w (.d d)) hd) (Only.set (by simp))
def aNil : List PyData → Env → Option Env
  | [], ρ => some ρ
  | _ :: _, _ => none
def aCons (a : As) (b : List PyData → Env → Option Env) : List PyData → Env → Option Env
  | d :: r, ρ => (a d ρ).bind (b r)
  | [], _ => none
theorem sgs_nil : PGs X [] (gMs X aNil []) := PGs.imp pgs_nil fun vs σ H Q h => by
  obtain ⟨F, m, ρ, ds, ρ', s, er, hd, e, q⟩ := h
  cases hd with
  | nil => cases Option.some.inj e; exact ⟨rfl, q _ er Only.refl⟩
  | cons _ _ => cases e
theorem sgs_cons {a : As} {b : List PyData → Env → Option Env} (h1 : PG X e (gM X a is)) (h2 : PGs X es (gMs X b js)) (hs : (assignEach (e :: es) X.env).map (·.2) = assign e X.env :: (assignEach es X.env).map (·.2) := by rfl) : PGs X (e :: es) (gMs X (aCons a b) (is ++ js)) :=
  PGs.imp (pgs_cons h1 h2 hs) fun vs σ H Q h => by
    obtain ⟨F, m, ρ, ds, ρ', s, er, hd, e, q⟩ := h
    cases hd with
    | nil => cases e
    | @cons v vs d ds h t =>
      have e : (a d ρ).bind (b ds) = some ρ' := e
      cases z : a d ρ with
      | none => rw [z] at e; cases e
      | some ρ1 =>
        rw [z] at e
        exact ⟨v, vs, rfl, F, m, ρ, d, ρ1, s, er, h, z, fun σ1 er1 o1 => ⟨F, m, ρ1, ds, ρ', s, er1, t, e, fun σ2 er2 o2 => q σ2 er2 (o1.trans o2)⟩⟩
def aTup (n : Nat) (b : List PyData → Env → Option Env) : As
  | .tuple ds, ρ => if ds.length = n then b ds ρ else none
  | _, _ => none
theorem sg_tup {k : Nat} {b : List PyData → Env → Option Env} {n : Nat} (hc : X.calm = true) (h : PGs X es (gMs X b is)) (hn : (assignEach es X.env).length = n := by rfl) (hst : (assignEach es X.env).findIdx? (·.1) = none := by rfl) :
    PG X (.Tuple es k pos) (gM X (aTup n b) is) :=
  PG.imp (pg_tup hc h hn hst) fun v σ H Q h => by
    obtain ⟨F, m, ρ, d, ρ', s, er, hd, e, q⟩ := h
    cases hd <;> first | (cases e; done) | skip
    rename_i ht t
    dsimp only [aTup] at e
    split at e
    · rename_i hz
      exact ⟨_, _, rfl, seqT_mono s ht, t.length.trans hz, F, m, ρ, _, ρ', s, er, t, e, q⟩
    · cases e
/-- target = value (a tuple of names: the value is data) -/
def asgT (a : As) (f : Env → M W) : S := fun ρ => ofM (f ρ) ρ fun w st => match w with
  | .d d => (match a d ρ with
    | some ρ' => .go (.nx ρ') st
    | none => .bad)
  | .r _ => .bad
theorem ss_asgT {Wx : WX} {a : As} {f : Env → M W} (he : SE X Wx e f) (hg : PG X tg (gM X a is)) (hs : swapsWithSole [tg] e pos.line X.env = pure false := by rfl) (hw : swappedStores [tg] e X.env = pure none := by rfl)
    (h1 : (assignEach [tg] X.env).map (·.2) = [assign tg X.env] := by rfl) : SS X Wx (.Assign [tg] e pos) (asgT a f) :=
  PS.imp (ps_asg he hg hs hw h1) fun D σ H h => by
    obtain ⟨F, m, st, ρ, er, rl, h⟩ := h
    refine ⟨F, m, st, ρ, er, rl, After.mono (Same.refl F) (List.prefix_refl m) (AfterS.ofM er h) fun w F1 m1 H1 s1 p1 ⟨st1, _, _, rl1, h1⟩ v r1 => ?_⟩
    split at h1
    · split at h1
      · rename_i z
        exact ⟨F1, m1, ρ, _, _, rl1.sub, er.mono s1 p1, r1, z, fun σ' er' _ => h1 F1 m1 H1 σ' (Same.refl _) (List.prefix_refl _) rl1 er'⟩
      · exact h1.elim
    · exact h1.elim
end

/-! ## what is walked -/
/-- the items, what must stay true of the store meanwhile -/
abbrev Its := List PyData × (Sto → Bool)
def IOk (K : PySem.W.Frag) (F : Hp) (m : List Addr) (J : It) (p : Its) : Prop := ∃ G Y, Walk J p.1.length G Y ∧
  (∀ F1 m1 st1 H, Same F F1 → m <+: m1 → Rel K F1 m1 st1 H → p.2 st1 = true → G H) ∧
  ∀ i H x H' F1 m1 st1, Same F F1 → m <+: m1 → Rel K F1 m1 st1 H → p.2 st1 = true → Y i H x H' → ∃ F2 d, Same F1 F2 ∧ Rel K F2 m1 st1 H' ∧ p.1[i]? = some d ∧ Dq K F2 x d ∧ (∀ a o, H a = some o → H' a = some o) ∧ ∀ a o, H a = some o → F2 a = F1 a
def tI (X : Cx) (Wx : WX) (f : Env → M Its) : TI := fun σ H R => ∃ F m st ρ, EnvR (gd X) F m ρ σ ∧ Rel X.K F m st H ∧
  After X.K X.mg F m (fun c d H' => Wx c d σ H') (f ρ st) (fun p F' m' H' => ∀ J, IOk X.K F' m' J p → R J H')
abbrev SI (X : Cx) (Wx : WX) (tg iter : Expr) (f : Env → M Its) : Prop := PI X tg iter (tI X Wx f)
theorem PI.imp {X : Cx} {tg e : Expr} {t t' : TI} (h : PI X tg e t) (k : ∀ σ H Q, t' σ H Q → t σ H Q) : PI X tg e t' := ⟨fun pins s σ H Q I q => h.run pins s σ H Q I (k σ H Q q)⟩
def always : Sto → Bool := fun _ => true
section
variable {X : Cx} {Wx : WX} {tg e a b : Expr} {f fa fb : Env → M W} {p pos : Pos} {K : PySem.W.Frag} {F : Hp} {m : List Addr} {xs : List V} {ds : List PyData} {ad : Addr}
theorem io_list (h : F ad = some (.lst xs)) (t : DqAll K F xs ds) : IOk K F m (Itl K ad) (ds, always) := by
  refine ⟨_, _, by rw [← t.length]; exact walk_list (xs := xs), fun F1 m1 st1 H s p r _ => SqL.of (r.sub _ _ (s _ _ h)), fun i H x H' F1 m1 st1 s p r _ y => ?_⟩
  obtain ⟨rfl, y⟩ := y
  obtain ⟨d, h1, h2⟩ := t.get' y
  exact ⟨F1, d, Same.refl _, r, h1, h2.mono s, fun _ _ z => z, fun _ _ _ => rfl⟩
theorem io_tup (h : SqT K F ad xs) (t : DqAll K F xs ds) : IOk K F m (Itt K ad) (ds, always) := by
  refine ⟨_, _, by rw [← t.length]; exact walk_tup (xs := xs), fun F1 m1 st1 H s p r _ => seqT_mono (s.trans r.sub) h, fun i H x H' F1 m1 st1 s p r _ y => ?_⟩
  obtain ⟨rfl, y⟩ := y
  obtain ⟨d, h1, h2⟩ := t.get' y
  exact ⟨F1, d, Same.refl _, r, h1, h2.mono s, fun _ _ z => z, fun _ _ _ => rfl⟩
theorem io_ref {st : Sto} {i : Nat} {ws : List W} {H0 : Hp} {F0 : Hp} {m0 : List Addr} (hm : m[i]? = some ad) (hd : allD ws = some ds) : IOk K F m (Itl K ad) (ds, stillAt i ds) := by
  have key : ∀ F1 m1 st1 H, m <+: m1 → Rel K F1 m1 st1 H → stillAt i ds st1 = true → ∃ vs, H ad = some (.lst vs) ∧ DqAll K F1 vs ds := fun F1 m1 st1 H p r c => by
    obtain ⟨ws', h1, h2⟩ := stillAt_ok c
    obtain ⟨vs, h3, h4⟩ := r.obj i ad _ (pre_get p hm) h1
    exact ⟨vs, h3, allD_ok h4 h2⟩
  refine ⟨fun H => ∃ vs, H ad = some (.lst vs) ∧ vs.length = ds.length, fun i H x H' => H' = H ∧ ∃ vs, H ad = some (.lst vs) ∧ vs[i]? = some x, ⟨?_, ?_, ?_⟩, ?_, ?_⟩
  · rintro j H hj ⟨vs, h, hl⟩
    have hj : j < ds.length := hj
    have hv : j < vs.length := by omega
    exact ⟨vs, vs[j], SqL.of h, List.getElem?_eq_getElem hv⟩
  · rintro H ⟨vs, h, hl⟩
    exact ⟨vs, SqL.of h, by rw [hl]; exact Nat.le_refl _⟩
  · rintro j H x H' hj ⟨vs, h, hl⟩ ⟨rfl, y⟩
    exact ⟨rfl, vs, h, y vs (SqL.of h)⟩
  · intro F1 m1 st1 H s p r c
    obtain ⟨vs, h, t⟩ := key F1 m1 st1 H p r c
    exact ⟨vs, h, t.length⟩
  · rintro j H x H' F1 m1 st1 s p r c ⟨rfl, vs, h, y⟩
    obtain ⟨vs', h', t⟩ := key F1 m1 st1 _ p r c
    rw [h] at h'
    cases h'
    obtain ⟨d, h1, h2⟩ := t.get' y
    exact ⟨F1, d, Same.refl _, r, h1, h2, fun _ _ z => z, fun _ _ _ => rfl⟩
def itemsW (st : Sto) : W → Option Its
  | .d (.list xs) => some (xs, always)
  | .r i => (match st[i]? with
    | some (.lst ws) => (allD ws).map fun ds => (ds, stillAt i ds)
    | _ => none)
  | _ => none
def itemsT (_ : Sto) : W → Option Its
  | .d (.tuple xs) => some (xs, always)
  | _ => none
def itF (k : Sto → W → Option Its) (f : Env → M W) : Env → M Its := fun ρ => bnd (f ρ) fun w => liftO fun st => k st w
theorem si_list (h : SE X Wx e f) : SI X Wx tg e (itF itemsW f) := PI.imp (pi_list h) fun σ H R hh => by
  obtain ⟨F, m, st, ρ, er, rl, hh⟩ := hh
  refine ⟨F, m, st, ρ, er, rl, After.mono (Same.refl F) (List.prefix_refl m) hh.bnd fun w F1 m1 H1 s1 p1 ⟨st1, _, _, rl1, h1⟩ v r1 => ?_⟩
  obtain ⟨q, e, k⟩ := h1.liftO
  cases w with
  | r i =>
    dsimp only [itemsW] at e
    split at e
    · rename_i ws hs
      obtain ⟨a, rfl, h2, vs, h3, h4⟩ := rl1.at r1 hs
      cases z : allD ws with
      | none => rw [z] at e; cases e
      | some ds =>
        rw [z] at e
        cases Option.some.inj e
        exact ⟨a, rfl, ⟨vs, SqL.of h3⟩, k F1 m1 H1 (Same.refl _) (List.prefix_refl _) rl1 _ (io_ref (st := st1) (H0 := H1) (F0 := F1) (m0 := m1) h2 z)⟩
    · cases e
  | d x =>
    cases x <;> first | (cases e; done) | skip
    obtain ⟨a, vs, rfl, h2, t⟩ := dq_lst r1
    cases Option.some.inj e
    exact ⟨a, rfl, ⟨vs, SqL.of (rl1.sub _ _ h2)⟩, k F1 m1 H1 (Same.refl _) (List.prefix_refl _) rl1 _ (io_list h2 t)⟩
theorem si_tup (h : SE X Wx e f) : SI X Wx tg e (itF itemsT f) := PI.imp (pi_tup h) fun σ H R hh => by
  obtain ⟨F, m, st, ρ, er, rl, hh⟩ := hh
  refine ⟨F, m, st, ρ, er, rl, After.mono (Same.refl F) (List.prefix_refl m) hh.bnd fun w F1 m1 H1 s1 p1 ⟨st1, _, _, rl1, h1⟩ v r1 => ?_⟩
  obtain ⟨q, e, k⟩ := h1.liftO
  cases w with
  | r i => cases e
  | d x =>
    cases x <;> first | (cases e; done) | skip
    obtain ⟨a, vs, rfl, h2, t⟩ := dq_tup r1
    cases Option.some.inj e
    exact ⟨a, rfl, ⟨vs, seqT_mono rl1.sub h2⟩, k F1 m1 H1 (Same.refl _) (List.prefix_refl _) rl1 _ (io_tup h2 t)⟩
def rangeL (lo : Int) (n : Nat) : List PyData := (List.range n).map fun (i : Nat) => .int (lo + (i : Int))
theorem io_range {lo : Int} {n : Nat} : IOk K F m (Itr lo n) (rangeL lo n, always) := by
  have hl : (rangeL lo n).length = n := by unfold rangeL; rw [List.length_map, List.length_range]
  refine ⟨fun _ => True, fun i H x H' => i < n ∧ H' = H ∧ x = .int (lo + i), ?_, fun _ _ _ _ _ _ _ _ => trivial, fun i H x H' F1 m1 st1 s p r _ y => ?_⟩
  · show Walk (Itr lo n) (rangeL lo n).length _ _
    rw [hl]
    exact ⟨fun i H h _ => h, fun H _ => Nat.le_refl _, fun i H x H' h _ y => ⟨h, y.1, y.2⟩⟩
  · obtain ⟨hi, rfl, rfl⟩ := y
    refine ⟨F1, .int (lo + i), Same.refl _, r, ?_, .int _, fun _ _ z => z, fun _ _ _ => rfl⟩
    unfold rangeL
    rw [List.getElem?_map, List.getElem?_range hi]
    rfl
def range1 (fs : Env → M (List W)) : Env → M Its := fun ρ => bnd (fs ρ) fun ws => liftO fun _ => match ws with
  | [.d (.int j)] => if -(2 ^ 62) ≤ j ∧ j < 2 ^ 62 then some (rangeL 0 j.toNat, always) else none
  | _ => none
theorem si_range1 {fs : Env → M (List W)} (hg : Gl X "range") (hm : X.mg "range" = none) (ha : SA X Wx [a] fs) (hs : starEach [a] X.env = [(false, eval a X.env)] := by rfl) : SI X Wx tg (.Call (.Name "range" p) [a] [] pos) (range1 fs) :=
  PI.imp (pi_range1 hg hm ha hs) fun σ H R hh => by
    obtain ⟨F, m, st, ρ, er, rl, hh⟩ := hh
    refine ⟨F, m, st, ρ, er, rl, After.mono (Same.refl F) (List.prefix_refl m) hh.bnd fun w F1 m1 H1 s1 p1 ⟨st1, _, _, rl1, h1⟩ vs r1 => ?_⟩
    obtain ⟨q, e, k⟩ := h1.liftO
    split at e
    · split at e
      · rename_i hz
        obtain ⟨v, rfl, rv⟩ := wrs1 r1
        rw [dq_int rv]
        cases Option.some.inj e
        exact ⟨_, rfl, hz.1, hz.2, k F1 m1 H1 (Same.refl _) (List.prefix_refl _) rl1 _ io_range⟩
      · cases e
    · cases e
def range2 (fs : Env → M (List W)) : Env → M Its := fun ρ => bnd (fs ρ) fun ws => liftO fun _ => match ws with
  | [.d (.int i), .d (.int j)] => if -(2 ^ 62) ≤ i ∧ i < 2 ^ 62 ∧ -(2 ^ 62) ≤ j ∧ j < 2 ^ 62 then some (rangeL i (j - i).toNat, always) else none
  | _ => none
theorem si_range2 {fs : Env → M (List W)} (hg : Gl X "range") (hm : X.mg "range" = none) (ha : SA X Wx [a, b] fs) (hs : starEach [a, b] X.env = [(false, eval a X.env), (false, eval b X.env)] := by rfl) (hs2 : starEach [b] X.env = [(false, eval b X.env)] := by rfl) :
    SI X Wx tg (.Call (.Name "range" p) [a, b] [] pos) (range2 fs) :=
  PI.imp (pi_range2 hg hm ha hs hs2) fun σ H R hh => by
    obtain ⟨F, m, st, ρ, er, rl, hh⟩ := hh
    refine ⟨F, m, st, ρ, er, rl, After.mono (Same.refl F) (List.prefix_refl m) hh.bnd fun w F1 m1 H1 s1 p1 ⟨st1, _, _, rl1, h1⟩ vs r1 => ?_⟩
    obtain ⟨q, e, k⟩ := h1.liftO
    split at e
    · split at e
      · rename_i hz
        obtain ⟨v, v', rfl, rv, rv'⟩ := wrs2 r1
        rw [dq_int rv, dq_int rv']
        cases Option.some.inj e
        exact ⟨_, _, rfl, hz, k F1 m1 H1 (Same.refl _) (List.prefix_refl _) rl1 _ io_range⟩
      · cases e
    · cases e
/-- the signs of a text -/
def signsD (z : Str) : List PyData := z.cps.toList.map fun c => .str ⟨#[c]⟩
theorem io_str {z : Str} : IOk K F m (L2.Its z) (signsD z, always) := by
  have hl : (signsD z).length = z.cps.size := by unfold signsD; rw [List.length_map, Array.length_toList]
  refine ⟨fun _ => True, fun i H x H' => H' = H ∧ ∃ c, z.cps[i]? = some c ∧ x = .str ⟨#[c]⟩, ?_, fun _ _ _ _ _ _ _ _ => trivial, fun i H x H' F1 m1 st1 s p r _ y => ?_⟩
  · show Walk (L2.Its z) (signsD z).length _ _
    rw [hl]
    exact ⟨fun i H h _ => h, fun H _ => Nat.le_refl _, fun i H x H' h _ y => y⟩
  · obtain ⟨rfl, c, hc, rfl⟩ := y
    refine ⟨F1, .str ⟨#[c]⟩, Same.refl _, r, ?_, .str _, fun _ _ z => z, fun _ _ _ => rfl⟩
    unfold signsD
    rw [List.getElem?_map, Array.getElem?_toList, hc]
    rfl
def itemsS (_ : Sto) : W → Option Its
  | .d (.str z) => some (signsD z, always)
  | _ => none
theorem si_str (h : SE X Wx e f) : SI X Wx tg e (itF itemsS f) := PI.imp (pi_str h) fun σ H R hh => by
  obtain ⟨F, m, st, ρ, er, rl, hh⟩ := hh
  refine ⟨F, m, st, ρ, er, rl, After.mono (Same.refl F) (List.prefix_refl m) hh.bnd fun w F1 m1 H1 s1 p1 ⟨st1, _, _, rl1, h1⟩ v r1 => ?_⟩
  obtain ⟨q, e, k⟩ := h1.liftO
  cases w with
  | r i => cases e
  | d x =>
    cases x <;> first | (cases e; done) | skip
    rw [dq_str r1]
    cases Option.some.inj e
    exact ⟨_, rfl, k F1 m1 H1 (Same.refl _) (List.prefix_refl _) rl1 _ io_str⟩
end
end Ev
end
section
set_option Elab.async false
set_option linter.all false
set_option maxRecDepth 100000
set_option autoImplicit false
namespace Ev
open PySem PySem.Spec PyProof.Rows L2
theorem bnd_assoc {α β γ : Type} (m : M α) (f : α → M β) (g : β → M γ) : bnd (bnd m f) g = bnd m fun a => bnd (f a) g := by
  funext st
  unfold bnd
  cases m st <;> rfl
theorem bnd_ok {α β : Type} {m : M α} {f : α → M β} {st st' : Sto} {a : α} (h : m st = .ok a st') : bnd m f st = f a st' := by unfold bnd; rw [h]
theorem bnd_bad {α β : Type} {m : M α} {f : α → M β} {st : Sto} (h : m st = .bad) : bnd m f st = .bad := by unfold bnd; rw [h]
theorem bnd_ex {α β : Type} {m : M α} {f : α → M β} {st st' : Sto} {x : Ex} (h : m st = .ex x st') : bnd m f st = .ex x st' := by unfold bnd; rw [h]
theorem bnd_congr {α β : Type} {m m' : M α} {f : α → M β} {st : Sto} (h : m st = m' st) : bnd m f st = bnd m' f st := by unfold bnd; rw [h]
/-- an exception is not foreseen here -/
def noex {α : Type} (m : M α) : M α := fun st => match m st with
  | .ok a st' => .ok a st'
  | _ => .bad
theorem After.noex {K : PySem.W.Frag} {mg : Str → Option Value} {F : Hp} {m : List Addr} {E E' : XK} {α : Type} {x : M α} {st : Sto} {Q : α → Hp → List Addr → Hp → Prop} (h : After K mg F m E (noex x st) Q) : After K mg F m E' (x st) Q := by
  unfold Ev.noex at h
  cases z : x st with
  | ok a st' => rw [z] at h; exact h
  | ex y st' => rw [z] at h; exact h.elim
  | bad => rw [z] at h; exact h.elim
/-- one behind another, told of the ground ahead -/
theorem After.bnd0 {K : PySem.W.Frag} {mg : Str → Option Value} {F : Hp} {m : List Addr} {E : XK} {α β : Type} {x : M α} {f : α → M β} {st : Sto} {Q : β → Hp → List Addr → Hp → Prop} (h : After K mg F m E (Ev.bnd x f st) Q) :
    After K mg F m E (x st) (fun a F' m' H' => ∃ st', Rel K F' m' st' H' ∧ After K mg F m E (f a st') Q) := by
  cases e : x st with
  | ok a st' => rw [bnd_ok e] at h; exact fun F2 m2 H2 s2 p2 r2 => ⟨st', r2, h⟩
  | ex y st' => rw [bnd_ex e] at h; exact h
  | bad => rw [bnd_bad e] at h; exact h
/-! ## for -/
def loopS (chk : Sto → Bool) (asg : As) (body : S) : List PyData → S
  | [], ρ, st => if chk st = true then .go (.nx ρ) st else .bad
  | d :: ds, ρ, st => if chk st = true then (match asg d ρ with
    | none => .bad
    | some ρ1 => (match body ρ1 st with
      | .go (.nx ρ2) st2 => loopS chk asg body ds ρ2 st2
      | .go (.ct ρ2) st2 => loopS chk asg body ds ρ2 st2
      | .go (.bk ρ2) st2 => .go (.nx ρ2) st2
      | .go (.rt w) st2 => .go (.rt w) st2
      | .ex x ρ2 st2 => .ex x ρ2 st2
      | .bad => .bad)) else .bad
def forS (fi : Env → M Its) (asg : As) (body : S) : S := fun ρ => ofM (fi ρ) ρ fun p st => loopS p.2 asg body p.1 ρ st
theorem loopS_chk {g : Gd} {F : Hp} {m : List Addr} {Wx : WX} {D : Ends} {chk : Sto → Bool} {asg : As} {body : S} {ds : List PyData} {ρ : Env} {st : Sto} (h : AfterS g F m Wx (loopS chk asg body ds ρ st) D) : chk st = true := by
  cases ds with
  | nil =>
    dsimp only [loopS] at h
    split at h
    · assumption
    · exact h.elim
  | cons d ds =>
    dsimp only [loopS] at h
    split at h
    · assumption
    · exact h.elim
section
variable {X : Cx} {Wx : WX} {tg iter elt c : Expr} {body : List Stmt} {pos : Pos} {fi : Env → M Its} {asg : As} {is : List Nat} {fb : S}
theorem drop_cons {α : Type} {ds : List α} {i : Nat} {d : α} (h : ds[i]? = some d) : ds.drop i = d :: ds.drop (i + 1) := by
  obtain ⟨hi, rfl⟩ := List.getElem?_eq_some_iff.mp h
  exact List.drop_eq_getElem_cons hi
theorem ss_for (hp : PassesOwn (model X.prog X.w) X.A X.env X.xe) (hc : X.calm = true) (hi : SI X Wx tg iter fi) (hg : PG X tg (gM X asg is)) (hb : SSs X Wx body fb)
    (hs : ∀ x, foldedSetIterable iter X.env x = pure x := by intro _; rfl) : SS X Wx (.For tg iter body [] pos) (forS fi asg fb) :=
  PS.imp (ps_for hp hc hi hg hb hs) fun D σ H h => by
    obtain ⟨F, m, st, ρ, er, rl, h⟩ := h
    refine ⟨F, m, st, ρ, er, rl, After.mono (Same.refl F) (List.prefix_refl m) (AfterS.ofM er h) fun p F1 m1 H1 s1 p1 ⟨st1, _, _, rl1, h1⟩ J io => ?_⟩
    obtain ⟨ds, chk⟩ := p
    obtain ⟨G, Y, w, hG, hY⟩ := io
    have h1 : AfterS (gd X) F1 m1 Wx (loopS chk asg fb ds ρ st1) D := h1
    refine for_it w (fun i σ' H' => ∃ F2 m2 st2 ρ2, Same F1 F2 ∧ m1 <+: m2 ∧ Rel X.K F2 m2 st2 H' ∧ EnvR (gd X) F2 m2 ρ2 σ' ∧ AfterS (gd X) F2 m2 Wx (loopS chk asg fb (ds.drop i) ρ2 st2) D)
      ⟨F1, m1, st1, ρ, Same.refl _, List.prefix_refl _, rl1, er.mono s1 p1, h1⟩ ?_ ?_ ?_
    · rintro i σ' H' _ ⟨F2, m2, st2, ρ2, s2, p2, r2, er2, h2⟩
      exact hG F2 m2 st2 H' s2 p2 r2 (loopS_chk h2)
    · rintro i x σ' H' H2 hi ⟨F2, m2, st2, ρ2, s2, p2, r2, er2, h2⟩ y
      obtain ⟨F3, d, s3, r3, hd, rd, _, _⟩ := hY i H' x H2 F2 m2 st2 s2 p2 r2 (loopS_chk h2) y
      have hd : ds[i]? = some d := hd
      rw [drop_cons hd] at h2
      dsimp only [loopS] at h2
      split at h2
      · cases z : asg d ρ2 with
        | none => rw [z] at h2; exact h2.elim
        | some ρ3 =>
          rw [z] at h2
          refine ⟨F3, m2, ρ2, d, ρ3, r3.sub, er2.mono s3 (List.prefix_refl _), rd, z, fun σ3 er3 _ => ⟨F3, m2, st2, ρ3, er3, r3, ?_⟩⟩
          dsimp only at h2
          cases y : fb ρ3 st2 with
          | go fl st4 =>
            rw [y] at h2
            cases fl with
            | nx ρ4 => exact fun F5 m5 H5 σ5 s5 p5 r5 er5 => ⟨F5, m5, st4, ρ4, (s2.trans s3).trans s5, pre_trans p2 p5, r5, er5, AfterS.mono (s3.trans s5) p5 h2⟩
            | ct ρ4 => exact fun F5 m5 H5 σ5 s5 p5 r5 er5 => ⟨F5, m5, st4, ρ4, (s2.trans s3).trans s5, pre_trans p2 p5, r5, er5, AfterS.mono (s3.trans s5) p5 h2⟩
            | bk ρ4 => exact fun F5 m5 H5 σ5 s5 p5 r5 er5 => h2 F5 m5 H5 σ5 (s3.trans s5) p5 r5 er5
            | rt w => exact fun F5 m5 H5 v s5 p5 r5 hv => h2 F5 m5 H5 v (s3.trans s5) p5 r5 hv
          | ex x ρ4 st4 => rw [y] at h2; exact fun F5 m5 H5 σ5 c dd s5 p5 r5 er5 e5 => h2 F5 m5 H5 σ5 c dd (s3.trans s5) p5 r5 er5 e5
          | bad => rw [y] at h2; exact h2.elim
      · exact h2.elim
    · rintro σ' H' ⟨F2, m2, st2, ρ2, s2, p2, r2, er2, h2⟩
      have e : ds.drop ds.length = [] := List.drop_length
      have h2 : AfterS (gd X) F2 m2 Wx (loopS chk asg fb (ds.drop ds.length) ρ2 st2) D := h2
      rw [e] at h2
      dsimp only [loopS] at h2
      split at h2
      · exact h2 F2 m2 H' σ' (Same.refl _) (List.prefix_refl _) r2 er2
      · exact h2.elim

/-! ## while -/
def whileS (g : Env → M Bool) (body : S) : Nat → S
  | 0, _, _ => .bad
  | n + 1, ρ, st => (match g ρ st with
    | .ok false st1 => .go (.nx ρ) st1
    | .ok true st1 => (match body ρ st1 with
      | .go (.nx ρ2) st2 => whileS g body n ρ2 st2
      | .go (.ct ρ2) st2 => whileS g body n ρ2 st2
      | .go (.bk ρ2) st2 => .go (.nx ρ2) st2
      | .go (.rt w) st2 => .go (.rt w) st2
      | .ex x ρ2 st2 => .ex x ρ2 st2
      | .bad => .bad)
    | .ex x st1 => .ex x ρ st1
    | .bad => .bad)
end

/-! ## list comprehensions -/
def wipeE (ρ : Env) : List Nat → Env
  | [] => ρ
  | v :: vs => (wipeE ρ vs).set v none
theorem EnvR.wipe {g : Gd} {F : Hp} {m : List Addr} {ρ : Env} {σ : L2.St} (h : EnvR g F m ρ σ) : ∀ vs : List Nat, EnvR g F m (wipeE ρ vs) (wipe σ vs)
  | [] => h
  | v :: vs => (EnvR.wipe h vs).unset v
theorem wipe_get {σ : L2.St} {j : Nat} : ∀ {vs : List Nat}, j ∉ vs → (wipe σ vs)[j]? = σ[j]?
  | [], _ => rfl
  | v :: vs, h => by
    unfold wipe
    rw [List.getElem?_set_ne (fun e => h (by rw [e]; exact List.mem_cons_self))]
    exact wipe_get fun z => h (List.mem_cons_of_mem _ z)
theorem wipe_in {σ : L2.St} {j : Nat} : ∀ {vs : List Nat}, j ∈ vs → (wipe σ vs)[j]? = if j < σ.length then some none else none
  | v :: vs, h => by
    unfold wipe
    by_cases e : v = j
    · subst e
      by_cases hv : v < σ.length
      · rw [List.getElem?_set_self (by rw [wipe_length]; exact hv), if_pos hv]
      · rw [List.getElem?_eq_none (by rw [List.length_set, wipe_length]; omega), if_neg hv]
    · rw [List.getElem?_set_ne e]
      exact wipe_in ((List.mem_cons.mp h).resolve_left (Ne.symm e))
theorem wipe_only {σ τ : L2.St} {is vs : List Nat} (o : Only is (wipe σ vs) τ) (h : ∀ j ∈ is, j ∈ vs) : wipe τ vs = wipe σ vs := by
  have hl : τ.length = σ.length := by rw [o.1, wipe_length]
  refine List.ext_getElem? fun j => ?_
  by_cases hj : j ∈ vs
  · rw [wipe_in hj, wipe_in hj, hl]
  · rw [wipe_get hj, wipe_get hj, o.2 j fun z => hj (h j z), wipe_get hj]
def tLockT (t : TT) : TT := fun σ H Q => ∃ d u, H d = some u ∧ Mut (some u) ∧ ∀ od, t σ (upd H d (.frz od u)) fun v H' => H' d = some (.frz od u) ∧ Q v (upd H' d u)
theorem pt_lock {X : Cx} {e : Expr} {t : TT} (h : PT X e t) : PT X e (tLockT t) := by
  refine ⟨fun pins s σ H Q I hw => ?_⟩
  obtain ⟨d, u, hd, mu, hw⟩ := hw
  obtain ⟨od, I1⟩ := I.lock hd mu
  exact thn (h.run pins s σ _ _ I1 (hw od)) fun v s1 ⟨H1, I2, e2, q⟩ => ⟨_, I2.unlock e2 (I.nofrz hd mu), q⟩
def delA (H : Hp) (a : Addr) : Hp := fun b => if b = a then none else H b
section
variable {K : PySem.W.Frag} {F : Hp} {D : Addr} {od : Obj} {acc : List V} {m : List Addr} {st : Sto} {H : Hp}
theorem delA_ne {b : Addr} (h : b ≠ D) : delA F D b = F b := if_neg h
theorem delA_self : delA F D D = none := if_pos rfl
theorem seqT_forget (e : F D = some (.frz od (.lst acc))) {a : Addr} {xs : List V} (h : SqT K F a xs) : SqT K (delA F D) a xs := by
  rcases h with (h | ⟨o, h⟩) | h
  · exact .inl (.inl (by rw [delA_ne (fun z => by rw [z, e] at h; cases h)]; exact h))
  · exact .inl (.inr ⟨o, by rw [delA_ne (fun z => by rw [z, e] at h; cases h)]; exact h⟩)
  · exact .inr h
mutual
theorem Dq.forget (e : F D = some (.frz od (.lst acc))) : ∀ {v : V} {d : PyData}, Dq K F v d → Dq K (delA F D) v d
  | _, _, .non => .non
  | _, _, .bl b => .bl b
  | _, _, .int i => .int i
  | _, _, .str x => .str x
  | _, _, .lst h t => .lst (by rw [delA_ne (fun z => by rw [z, e] at h; cases h)]; exact h) (DqAll.forget e t)
  | _, _, .tup h t => .tup (seqT_forget e h) (DqAll.forget e t)
theorem DqAll.forget (e : F D = some (.frz od (.lst acc))) : ∀ {vs : List V} {ds : List PyData}, DqAll K F vs ds → DqAll K (delA F D) vs ds
  | _, _, .nil => .nil
  | _, _, .cons h t => .cons (Dq.forget e h) (DqAll.forget e t)
end
theorem WR.forget (e : F D = some (.frz od (.lst acc))) : ∀ {w : W} {v : V}, WR K F m w v → WR K (delA F D) m w v
  | .d x, v, h => Dq.forget e h
  | .r i, v, h => h
theorem WRs.forget (e : F D = some (.frz od (.lst acc))) : ∀ {w : List W} {v : List V}, WRs K F m w v → WRs K (delA F D) m w v
  | _, _, .nil => .nil
  | _, _, .cons h t => .cons (h.forget e) (WRs.forget e t)
/-- the list in the making, while its next item is reckoned -/
theorem nt_upd {F : Hp} {D : Addr} {o : HO} (h : ∀ (b : Addr) (ps : Array Value), F b ≠ some (.tbl ps)) (ho : ∀ ps, o ≠ .tbl ps) : ∀ (b : Addr) (ps : Array Value), upd F D o b ≠ some (.tbl ps) := fun b ps z => by
  by_cases hb : b = D
  · subst hb; rw [upd_same] at z; exact ho ps (Option.some.inj z)
  · rw [upd_ne hb] at z; exact h b ps z
theorem Rel.lock (rl : Rel K F m st H) (hF : F D = none) (hD : H D = some (.lst acc)) (hm : D ∉ m) : Rel K (upd F D (.frz od (.lst acc))) m st (upd H D (.frz od (.lst acc))) := by
  have ne : ∀ a ∈ m, a ≠ D := fun a ha e => hm (e ▸ ha)
  refine ⟨fun a u e => ?_, rl.len, rl.nd, fun i a so e1 e2 e3 => by rw [upd_ne (ne a (List.mem_of_getElem? e1))]; exact rl.out i a so e1 e2 e3, fun a ha => by rw [upd_ne (ne a ha)]; exact rl.here a ha, fun i a so h1 h2 => ?_, nt_upd rl.nt nofun⟩
  · by_cases ha : a = D
    · subst ha; rw [upd_same] at e ⊢; exact e
    · rw [upd_ne ha] at e ⊢; exact rl.sub a u e
  · refine (rl.obj i a so h1 h2).keep (fun b u e => ?_) (List.prefix_refl m) (upd_ne (ne a (List.mem_of_getElem? h1)))
    rw [upd_ne (fun z => by rw [z, hF] at e; cases e)]; exact e
theorem SR.forget {a : Addr} {H' : Hp} (e : F D = some (.frz od (.lst acc))) (eH : H' a = H a) : ∀ {so : SO}, SR K F m H a so → SR K (delA F D) m H' a so
  | .lst ws, ⟨vs, h1, h2⟩ => ⟨vs, by rw [eH]; exact h1, h2.forget e⟩
  | .dic kvs, ⟨ps, h1, h2⟩ => ⟨ps, by rw [eH]; exact h1, Paired.mapP h2 fun _ _ ⟨x, y⟩ => ⟨x, y.forget e⟩⟩
  | .dead, ⟨o, h1⟩ => ⟨o, by rw [eH]; exact h1⟩
  | .tab P q, ⟨ea, ps, h1, h2, h3⟩ => ⟨ea, ps, by rw [eH]; exact h1, h2, fun p cv h => let ⟨c, e1, e2⟩ := h3 p cv h; ⟨c, e1, by rw [delA_ne (fun z => by rw [z, e] at e2; cases e2)]; exact e2⟩⟩
theorem Rel.notIn {u : HO} (rl : Rel K F m st H) (e : F D = some u) (hu : ∀ vs, u ≠ .lst vs) : D ∉ m := fun z => by
  obtain ⟨i, hi⟩ := List.getElem?_of_mem z
  have hlt : i < st.length := by rw [← rl.len]; exact (List.getElem?_eq_some_iff.mp hi).1
  have hs := List.getElem?_eq_getElem hlt
  cases hd : (st[i]).dd with
  | false => rw [rl.out i D _ hi hs hd] at e; cases e
  | true =>
    have ho := rl.obj i D _ hi hs
    generalize st[i] = so at hd ho
    cases so with
    | dead =>
      obtain ⟨vs, hv⟩ := ho
      rw [rl.sub _ _ e] at hv
      exact hu vs (Option.some.inj hv)
    | _ => cases hd
theorem Rel.unlock {o : HO} (rl : Rel K F m st H) (e : F D = some (.frz od (.lst acc))) : Rel K (delA F D) m st (upd H D o) ∧ D ∉ m := by
  have hm : D ∉ m := rl.notIn e nofun
  have ne : ∀ a ∈ m, a ≠ D := fun a ha z => hm (z ▸ ha)
  refine ⟨⟨fun a u e1 => ?_, rl.len, rl.nd, fun i a so e1 e2 e3 => by rw [delA_ne (ne a (List.mem_of_getElem? e1))]; exact rl.out i a so e1 e2 e3, fun a ha => by rw [upd_ne (ne a ha)]; exact rl.here a ha, fun i a so h1 h2 => ?_, fun b ps z => ?_⟩, hm⟩
  · by_cases ha : a = D
    · subst ha; rw [delA_self] at e1; cases e1
    · rw [delA_ne ha] at e1; rw [upd_ne ha]; exact rl.sub a u e1
  · exact (rl.obj i a so h1 h2).forget e (upd_ne (ne a (List.mem_of_getElem? h1)))
  · by_cases hb : b = D
    · subst hb; rw [delA_self] at z; cases z
    · rw [delA_ne hb] at z; exact rl.nt b ps z
theorem same_unlock {F0 F' : Hp} (s : Same (upd F0 D (.frz od (.lst acc))) F') (h0 : F0 D = none) : Same F0 (delA F' D) := fun a u e => by
  have ha : a ≠ D := fun z => by rw [z, h0] at e; cases e
  rw [delA_ne ha]
  exact s a u (by rw [upd_ne ha]; exact e)
theorem same_lock {F0 : Hp} {o : HO} (h0 : F0 D = none) : Same F0 (upd F0 D o) := fun a u e => by
  rw [upd_ne (fun z => by rw [z, h0] at e; cases e)]; exact e
/-- a tracked object becomes data -/
theorem Rel.adopt {o : HO} (rl : Rel K F m st H) (hF : F D = none) (hD : H D = some o) (hm : D ∉ m) (ho : ∀ ps, o ≠ .tbl ps := by nofun) : Rel K (upd F D o) m st H := by
  have ne : ∀ a ∈ m, a ≠ D := fun a ha e => hm (e ▸ ha)
  refine ⟨fun a u e => ?_, rl.len, rl.nd, fun i a so e1 e2 e3 => by rw [upd_ne (ne a (List.mem_of_getElem? e1))]; exact rl.out i a so e1 e2 e3, rl.here, fun i a so h1 h2 => (rl.obj i a so h1 h2).keep (same_lock hF) (List.prefix_refl m) rfl, nt_upd rl.nt ho⟩
  by_cases ha : a = D
  · subst ha; rw [upd_same] at e; rw [← e]; exact hD
  · rw [upd_ne ha] at e; exact rl.sub a u e
/-- a tracked object joins the store -/
theorem Rel.enroll {so : SO} {o : HO} (rl : Rel K F m st H) (hF : F D = none) (hD : H D = some o) (hm : D ∉ m) (hs : SR K F (m ++ [D]) H D so) : Rel K F (m ++ [D]) (st ++ [so]) H := by
  refine ⟨rl.sub, by rw [List.length_append, List.length_append, rl.len]; rfl, ?_, fun i a s' h1 h2 h3 => ?_, fun a ha => ?_, fun i a s' h1 h2 => ?_, rl.nt⟩
  · exact List.nodup_append.mpr ⟨rl.nd, by simp, fun a ha b hb e => hm (by rw [List.mem_singleton.mp hb] at e; exact e ▸ ha)⟩
  · by_cases hi : i < m.length
    · rw [List.getElem?_append_left hi] at h1
      rw [List.getElem?_append_left (by rw [← rl.len]; exact hi)] at h2
      exact rl.out i a s' h1 h2 h3
    · rw [List.getElem?_append_right (by omega)] at h1
      have : a = D := List.mem_singleton.mp (List.mem_of_getElem? h1)
      rw [this]; exact hF
  · rcases List.mem_append.mp ha with h | h
    · exact rl.here a h
    · rw [List.mem_singleton.mp h]; exact ⟨_, hD⟩
  · by_cases hi : i < m.length
    · rw [List.getElem?_append_left hi] at h1
      rw [List.getElem?_append_left (by rw [← rl.len]; exact hi)] at h2
      exact (rl.obj i a s' h1 h2).keep (Same.refl F) (List.prefix_append m [D]) rfl
    · have hz : i = m.length := by
        have := (List.getElem?_eq_some_iff.mp h1).1
        rw [List.length_append, List.length_singleton] at this
        omega
      subst hz
      rw [List.getElem?_append_right (Nat.le_refl _), Nat.sub_self] at h1
      rw [rl.len, List.getElem?_append_right (Nat.le_refl _), Nat.sub_self] at h2
      cases Option.some.inj h1
      cases Option.some.inj h2
      exact hs
end
abbrev Wn : WX := fun _ _ _ _ => False
def compL (chk : Sto → Bool) (vs : List Nat) (asg : As) (gt : Env → M Bool) (fe : Env → M W) (ρ : Env) : List PyData → List W → M (List W)
  | [], acc => fun st => if chk st = true then .ok acc st else .bad
  | d :: ds, acc => fun st => if chk st = true then (match asg d (wipeE ρ vs) with
    | none => .bad
    | some ρ1 => bnd (noex (gt ρ1)) (fun k => if k = true then bnd (noex (fe ρ1)) fun w => compL chk vs asg gt fe ρ ds (acc ++ [w]) else compL chk vs asg gt fe ρ ds acc) st) else .bad
theorem compL_chk {K : PySem.W.Frag} {mg : Str → Option Value} {F : Hp} {m : List Addr} {E : XK} {α : Type} {Q : α → Hp → List Addr → Hp → Prop} {chk : Sto → Bool} {vs : List Nat} {asg : As} {gt : Env → M Bool} {fe : Env → M W} {ρ : Env} {ds : List PyData} {acc : List W} {k : List W → M α} {st : Sto}
    (h : After K mg F m E (bnd (compL chk vs asg gt fe ρ ds acc) k st) Q) : chk st = true := by
  by_cases hc : chk st = true
  · exact hc
  · exfalso
    cases ds with
    | nil =>
      have e : bnd (compL chk vs asg gt fe ρ [] acc) k st = .bad := bnd_bad (by dsimp only [compL]; rw [if_neg hc])
      rw [e] at h; exact h
    | cons d ds =>
      have e : bnd (compL chk vs asg gt fe ρ (d :: ds) acc) k st = .bad := bnd_bad (by dsimp only [compL]; rw [if_neg hc])
      rw [e] at h; exact h
/-- the list that has been made: as data; as a mutable list -/
def lcF (fi : Env → M Its) (vs : List Nat) (asg : As) (gt : Env → M Bool) (fe : Env → M W) (fin : List W → M W) : Env → M W := fun ρ => bnd (fi ρ) fun p => if p.1.length < sizeLine then bnd (compL p.2 vs asg gt fe ρ p.1 []) fin else bad
def asData (ws : List W) : M W := liftO fun _ => (allD ws).map fun ds => .d (.list ds)
def asMut (ws : List W) : M W := fun st => .ok (.r st.length) (st ++ [.lst ws])
/-- how a list that was made comes into the world -/
def Fin (X : Cx) (fin : List W → M W) : Prop := ∀ (F : Hp) (m : List Addr) (st : Sto) (H : Hp) (D : Addr) (ws : List W) (vs : List V) (E : XK) (Q : VK), Rel X.K F m st H → F D = none → H D = some (.lst vs) → D ∉ m → WRs X.K F m ws vs →
  After X.K X.mg F m E (fin ws st) (fun w F' m' H' => ∀ v, WR X.K F' m' w v → Q v H') → Q (.ref D) H
theorem fin_data {X : Cx} : Fin X asData := fun F m st H D ws vs E Q rl hF hD hm r h => by
  obtain ⟨w, e, q⟩ := h.liftO
  cases z : allD ws with
  | none => rw [z] at e; cases e
  | some ds =>
    rw [z] at e
    cases Option.some.inj e
    exact q _ m H (same_lock hF) (List.prefix_refl m) (rl.adopt hF hD hm) _ (show Dq _ _ _ _ from .lst upd_same ((allD_ok r z).mono (same_lock hF)))
theorem fin_mut {X : Cx} : Fin X asMut := fun F m st H D ws vs E Q rl hF hD hm r h => by
  have h : ∀ F' m' H', Same F F' → m <+: m' → Rel X.K F' m' (st ++ [.lst ws]) H' → ∀ v, WR X.K F' m' (.r st.length) v → Q v H' := h
  refine h F (m ++ [D]) H (Same.refl F) (List.prefix_append m [D]) (rl.enroll hF hD hm ⟨vs, hD, r.mono (Same.refl F) (List.prefix_append m [D])⟩) _ ⟨D, ?_, rfl⟩
  rw [← rl.len, List.getElem?_append_right (Nat.le_refl _), Nat.sub_self]
  rfl
section
variable {X : Cx} {Wx : WX} {tg iter elt c : Expr} {ifs : List Expr} {pos : Pos} {scope : Scope} {own : List (Str × Nat)} {fi : Env → M Its} {asg : As} {is : List Nat} {gt : Env → M Bool} {fe : Env → M W} {fin : List W → M W}
/-- the tests of a comprehension -/
abbrev STs (X : Cx) (ifs : List Expr) (gt : Env → M Bool) : Prop := PTs X ifs (tLockT (tB X Wn gt))
theorem sts_nil {X : Cx} : STs X [] (fun _ => ret true) := ⟨fun pins s σ H Q I h => by
  obtain ⟨d, u, hd, mu, h⟩ := h
  obtain ⟨od, I1⟩ := I.lock hd mu
  obtain ⟨F, m, st, ρ, er, rl, h⟩ := h od
  obtain ⟨e, q⟩ := h.here rl
  exact wpAny_tests_nil ⟨_, I1.unlock e (I.nofrz hd mu), q⟩⟩
theorem sts_one {X : Cx} (h : SB X Wn c gt) : STs X [c] gt := pts_one (pt_lock h)
theorem tM_lc {σ : L2.St} {H : Hp} {Q : VK} (hin : ∀ j ∈ is, j ∈ own.map (·.2)) (hf : Fin X fin) (h : tM X Wx (lcF fi (own.map (·.2)) asg gt fe fin) σ H Q) :
    tLc (tI X Wx fi) (gM X asg is) (tLockT (tB X Wn gt)) (tLockE (tM X Wn fe)) (own.map (·.2)) σ H Q := by
  obtain ⟨F, m, st, ρ, er, rl, h⟩ := h
  refine ⟨F, m, st, ρ, er, rl, After.mono (Same.refl F) (List.prefix_refl m) h.bnd fun p F1 m1 H1 s1 p1 ⟨st1, _, _, rl1, h1⟩ J io D hD => ?_⟩
  obtain ⟨ds, chk⟩ := p
  obtain ⟨G, Y, w, hG, hY⟩ := io
  generalize hvs : own.map (·.2) = vs at *
  have F1D : F1 D = none := rl1.free hD
  have hlen : ds.length < sizeLine := by
    by_cases z : ds.length < sizeLine
    · exact z
    · rw [if_neg z] at h1; exact h1.elim
  have h1 : After X.K X.mg F1 m1 (fun c d H' => Wx c d σ H') (bnd (compL chk vs asg gt fe ρ ds []) fin st1) (fun w F' m' H' => ∀ v, WR X.K F' m' w v → Q v H') := by
    rw [if_pos hlen] at h1; exact h1
  have nm1 : D ∉ m1 := fun z => by obtain ⟨o, ho⟩ := rl1.here D z; rw [hD] at ho; cases ho
  refine lc_it w (fun i H' => ∃ F2 m2 st2 accW acc, Same F1 F2 ∧ m1 <+: m2 ∧ Rel X.K F2 m2 st2 H' ∧ F2 D = none ∧ H' D = some (.lst acc) ∧ WRs X.K F2 m2 accW acc ∧ D ∉ m2 ∧ acc.length ≤ i ∧
      After X.K X.mg F2 m2 (fun c d H' => Wx c d σ H') (bnd (compL chk vs asg gt fe ρ (ds.drop i) accW) fin st2) (fun w F' m' H' => ∀ v, WR X.K F' m' w v → Q v H')) ?_ ?_ ?_ ?_
  · have ne : ∀ a ∈ m1, a ≠ D := fun a ha e => nm1 (e ▸ ha)
    refine ⟨F1, m1, st1, [], [], Same.refl _, List.prefix_refl _, ⟨fun a u e => ?_, rl1.len, rl1.nd, rl1.out, fun a ha => by rw [upd_ne (ne a ha)]; exact rl1.here a ha, fun i a so e1 e2 => (rl1.obj i a so e1 e2).keep (Same.refl _) (List.prefix_refl _) (upd_ne (ne a (List.mem_of_getElem? e1))), rl1.nt⟩, F1D, upd_same, .nil, nm1, Nat.le_refl _, h1⟩
    rw [upd_ne (fun z => by rw [z, F1D] at e; cases e)]
    exact rl1.sub a u e
  · rintro i H' _ ⟨F2, m2, st2, accW, acc, s2, p2, r2, _, _, _, _, _, h2⟩
    exact hG F2 m2 st2 H' s2 p2 r2 (compL_chk h2)
  · rintro i x H' H2 hi ⟨F2, m2, st2, accW, acc, s2, p2, r2, f2, hd2, ra, nm2, hl, h2⟩ y
    have hck := compL_chk h2
    obtain ⟨F3, d, s3, r3, hd, rd, kp, kf⟩ := hY i H' x H2 F2 m2 st2 s2 p2 r2 hck y
    have hd : ds[i]? = some d := hd
    have hi : i < ds.length := hi
    have hD3 : H2 D = some (.lst acc) := kp _ _ hd2
    have f3 : F3 D = none := (kf _ _ hd2).trans f2
    rw [drop_cons hd] at h2
    cases z : asg d (wipeE ρ vs) with
    | none =>
      have e : bnd (compL chk vs asg gt fe ρ (d :: ds.drop (i + 1)) accW) fin st2 = .bad := bnd_bad (by dsimp only [compL]; rw [if_pos hck, z])
      rw [e] at h2
      exact h2.elim
    | some ρ3 =>
      have e : bnd (compL chk vs asg gt fe ρ (d :: ds.drop (i + 1)) accW) fin st2 = bnd (noex (gt ρ3)) (fun k => bnd (if k = true then bnd (noex (fe ρ3)) fun w => compL chk vs asg gt fe ρ (ds.drop (i + 1)) (accW ++ [w]) else compL chk vs asg gt fe ρ (ds.drop (i + 1)) accW) fin) st2 := by
        rw [← bnd_assoc]
        exact bnd_congr (by dsimp only [compL]; rw [if_pos hck, z])
      rw [e] at h2
      refine ⟨F3, m2, _, d, ρ3, r3.sub, (((er.mono s1 p1).mono (s2.trans s3) p2).wipe vs), rd, z, fun σ3 er3 on => ⟨wipe_only on hin, ?_⟩⟩
      refine ⟨D, _, hD3, trivial, fun od => ⟨upd F3 D (.frz od (.lst acc)), m2, st2, ρ3, er3.mono (same_lock f3) (List.prefix_refl _), r3.lock f3 hD3 nm2, ?_⟩⟩
      refine After.mono (s3.trans (same_lock f3 (o := .frz od (.lst acc)))) (List.prefix_refl m2) h2.bnd0.noex fun k F4 m4 H4 s4 p4 ⟨st4, r4, h4⟩ => ?_
      have f4 : F4 D = some (.frz od (.lst acc)) := s4 D _ upd_same
      refine ⟨r4.sub D _ f4, ?_⟩
      obtain ⟨r5, nm4⟩ := r4.unlock (o := .lst acc) f4
      have s5 : Same F3 (delA F4 D) := same_unlock s4 f3
      have ra5 : WRs X.K (delA F4 D) m4 accW acc := ra.mono (s3.trans s5) p4
      have er5 : EnvR (gd X) (delA F4 D) m4 ρ3 σ3 := er3.mono s5 p4
      have h5 := After.mono (s3.trans s5) p4 h4 fun _ _ _ _ _ _ q => q
      cases k with
      | false =>
        rw [if_neg Bool.false_ne_true] at h5 ⊢
        exact ⟨delA F4 D, m4, st4, accW, acc, s2.trans (s3.trans s5), pre_trans p2 p4, r5, delA_self, upd_same, ra5, nm4, by omega, h5⟩
      | true =>
        rw [if_pos rfl] at h5 ⊢
        rw [bnd_assoc] at h5
        refine ⟨D, _, upd_same, trivial, fun od' => ⟨upd (delA F4 D) D (.frz od' (.lst acc)), m4, st4, ρ3, er5.mono (same_lock delA_self) (List.prefix_refl _), r5.lock delA_self upd_same nm4, ?_⟩⟩
        refine After.mono (same_lock delA_self (o := .frz od' (.lst acc))) (List.prefix_refl m4) h5.bnd0.noex fun w F6 m6 H6 s6 p6 ⟨st6, r6, h6⟩ v rv => ?_
        have f6 : F6 D = some (.frz od' (.lst acc)) := s6 D _ upd_same
        refine ⟨r6.sub D _ f6, acc, upd_same, by omega, ?_⟩
        obtain ⟨r7, nm6⟩ := r6.unlock (o := .lst (acc ++ [v])) f6
        have s7 : Same (delA F4 D) (delA F6 D) := same_unlock s6 delA_self
        rw [upd_upd]
        refine ⟨delA F6 D, m6, st6, accW ++ [w], acc ++ [v], (s2.trans (s3.trans s5)).trans s7, pre_trans (pre_trans p2 p4) p6, r7, delA_self, upd_same, ?_, nm6, by rw [List.length_append, List.length_singleton]; omega, After.mono s7 p6 h6 fun _ _ _ _ _ _ q => q⟩
        exact Paired.snoc (ra5.mono s7 p6) (rv.forget f6)
  · rintro H' ⟨F2, m2, st2, accW, acc, s2, p2, r2, f2, hd2, ra, nm2, hl, h2⟩
    have e : ds.drop ds.length = [] := List.drop_length
    have h2 : After X.K X.mg F2 m2 (fun c d H' => Wx c d σ H') (bnd (compL chk vs asg gt fe ρ (ds.drop ds.length) accW) fin st2) (fun w F' m' H' => ∀ v, WR X.K F' m' w v → Q v H') := h2
    have hck := compL_chk h2
    rw [e] at h2
    have e2 : bnd (compL chk vs asg gt fe ρ [] accW) fin st2 = fin accW st2 := bnd_ok (by dsimp only [compL]; rw [if_pos hck])
    rw [e2] at h2
    exact hf F2 m2 st2 H' D accW acc _ Q r2 f2 hd2 nm2 ra h2
theorem se_lc (hc : X.calm = true) (hN : X.N.Nodup) (hi : SI X Wx tg iter fi) (ok : BlkOk X.N X.env.scope scope own)
    (hg : ∀ (s : Shared) (H : Hp) (C : Addr) (cl : List (Str × Addr)) (fp : List Addr), PG (X.blk s H scope (compEnvC scope cl C X.env) fp) tg (gM X asg is)) (ht : ∀ (s : Shared) (H : Hp) (C : Addr) (cl : List (Str × Addr)) (fp : List Addr), STs (X.blk s H scope (compEnvC scope cl C X.env) fp) ifs gt)
    (he : ∀ (s : Shared) (H : Hp) (C : Addr) (cl : List (Str × Addr)) (fp : List Addr), SE (X.blk s H scope (compEnvC scope cl C X.env) fp) Wn elt fe) (hf : Fin X fin) (hin : ∀ j ∈ is, j ∈ own.map (·.2) := by decide) (hs : ∀ x, foldedSetIterable iter X.env x = pure x := by intro _; rfl) :
    SE X Wx (.ListComp elt [⟨tg, iter, ifs, 0⟩] scope pos) (lcF fi (own.map (·.2)) asg gt fe fin) :=
  PE.imp (pe_lc hc hN hi ok hg (fun s H C cl fp => ht s H C cl fp) (fun s H C cl fp => pe_lock (he s H C cl fp)) hs) fun σ H Q h => tM_lc hin hf h
theorem ss_setLc {i : Nat} {y : Str} {py spos : Pos} (hc : X.calm = true) (hN : X.N.Nodup) (hy : X.N[i]? = some y) (hyl : X.env.scope.names.lookup y = some .local)
    (hsw : swapsWith (.ListComp elt [⟨tg, iter, ifs, 0⟩] scope pos) (some (.Name y py)) spos.line X.env = pure true) (hi : SI X Wx tg iter fi) (ok : BlkOk X.N X.env.scope scope own)
    (hg : ∀ (s : Shared) (H : Hp) (C : Addr) (cl : List (Str × Addr)) (fp : List Addr), PG (X.blk s H scope (compEnvC scope cl C X.env) fp) tg (gM X asg is)) (ht : ∀ (s : Shared) (H : Hp) (C : Addr) (cl : List (Str × Addr)) (fp : List Addr), STs (X.blk s H scope (compEnvC scope cl C X.env) fp) ifs gt)
    (he : ∀ (s : Shared) (H : Hp) (C : Addr) (cl : List (Str × Addr)) (fp : List Addr), SE (X.blk s H scope (compEnvC scope cl C X.env) fp) Wn elt fe) (hf : Fin X fin) (hin : ∀ j ∈ is, j ∈ own.map (·.2) := by decide) (hs : ∀ x, foldedSetIterable iter X.env x = pure x := by intro _; rfl) :
    SS X Wx (.Assign [.Name y py] (.ListComp elt [⟨tg, iter, ifs, 0⟩] scope pos) spos) (asgS i (lcF fi (own.map (·.2)) asg gt fe fin)) :=
  PS.imp (ps_setLc hc hN hy hyl hsw hi ok hg (fun s H C cl fp => ht s H C cl fp) (fun s H C cl fp => pe_lock (he s H C cl fp)) hs) fun D σ H h => tM_lc hin hf (tS_asg h)
end
end Ev
end
section
set_option Elab.async false
set_option linter.all false
set_option maxRecDepth 100000
set_option autoImplicit false
namespace Ev
open PySem PySem.Spec PyProof.Rows L2
/-! ## a def's promise, its call -/
def spM (g : Gd) (n : Nat) (fn : List W → M W) : Sp := fun vs H Q E => vs.length = n ∧ ∃ F m st ws, WRs g.K F m ws vs ∧ Rel g.K F m st H ∧ After g.K g.mg F m E (fn ws st) (fun w F' m' H' => ∀ v, WR g.K F' m' w v → Q v H')
/-- the def stands at f and does fn -/
structure Def (g : Gd) (x : Str) (k n : Nat) (fn : List W → M W) : Prop where
  ex : ∃ f fd ps, g.mg x = some (.ref f) ∧ PySem.W.keepIn g.K (.ref f) = true ∧ L2.Binds g.K fd ps [] ∧ ps.length = n ∧ FnOk g.P g.w g.K g.mg g.base (L2.CX g.P g.w) k f fd ps (spM g n fn)
section
variable {X : Cx} {Wx : WX} {e : Expr} {es : List Expr} {x : Str} {p pos : Pos} {k j n : Nat} {fn : List W → M W} {fs : Env → M (List W)}
def callU (n : Nat) (fn : List W → M W) (fs : Env → M (List W)) : Env → M W := fun ρ => bnd (fs ρ) fun ws => if ws.length = n then fn ws else bad
theorem se_user (d : Def (gd X) x k n fn) (hr : Room j X.A) (hg : Gl X x) (tk : Takes X Wx) (ha : SA X Wx (e :: es) fs) (hk : k ≤ j := by decide) (hdb : (x == ("__debug__" : Str)) = false := by decide)
    (he : starEach (e :: es) X.env = (false, eval e X.env) :: starEach es X.env := by rfl) (hpl : (backTo pos (starEach es X.env)).any (·.1) = false := by rfl) : SE X Wx (.Call (.Name x p) (e :: es) [] pos) (callU n fn fs) := by
  obtain ⟨f, fd, ps, hm, hkp, hb, hl, F⟩ := d.ex
  refine PE.imp (pe_callS F (hr.mono hk) hg hm hkp hb (fun σ => passAt tk σ) ha hdb he hpl) fun σ H Q h => ?_
  obtain ⟨F, m, st, ρ, er, rl, h⟩ := h
  refine ⟨F, m, st, ρ, er, rl, After.mono (Same.refl F) (List.prefix_refl m) h.bnd fun ws F1 m1 H1 s1 p1 ⟨st1, _, _, rl1, h1⟩ vs r1 => ?_⟩
  split at h1
  · rename_i hz
    exact ⟨by rw [← PySem.Paired.length r1]; exact hz, F1, m1, st1, ws, r1, rl1, h1⟩
  · exact h1.elim
theorem se_user0 (d : Def (gd X) x k 0 fn) (hr : Room j X.A) (hg : Gl X x) (tk : Takes X Wx) (hk : k ≤ j := by decide) (hdb : (x == ("__debug__" : Str)) = false := by decide) : SE X Wx (.Call (.Name x p) [] [] pos) (fun _ => fn []) := by
  obtain ⟨f, fd, ps, hm, hkp, hb, hl, F⟩ := d.ex
  refine ⟨fun pins s σ H Q I h => ?_⟩
  refine wpAny_Call_Name_kw (ld_glob I hg hm ?_ hdb)
  refine PySem.W.callWith_K0 I.kIn hkp (run_fnS (us := []) F (hr.mono hk) hb (E := fun σ => WE Wx σ) (passAt tk σ) I .nil ?_)
  obtain ⟨F, m, st, ρ, er, rl, h⟩ := h
  exact ⟨rfl, F, m, st, [], .nil, rl, h⟩
end
def startE (n : Nat) (ws : List W) : Env := ws.map (fun w => some (.w w)) ++ List.replicate (n - ws.length) none
def runB (n : Nat) (fb : S) (ws : List W) : M W := fun st => match fb (startE n ws) st with
  | .go (.nx _) st' => .ok (.d .none) st'
  | .go (.rt w) st' => .ok w st'
  | .ex x _ st' => .ex x st'
  | _ => .bad
theorem envR_start {g : Gd} {F : Hp} {m : List Addr} {ws : List W} {vs : List V} {N : List Str} (h : WRs g.K F m ws vs) : EnvR g F m (startE N.length ws) (L2.start N vs) := by
  have hl := PySem.Paired.length h
  refine ⟨by unfold startE L2.start; rw [List.length_append, List.length_append, List.length_map, List.length_map, List.length_replicate, List.length_replicate, hl], fun i x e => ?_⟩
  unfold startE at e
  by_cases hi : i < ws.length
  · rw [List.getElem?_append_left (by rw [List.length_map]; exact hi), List.getElem?_map] at e
    cases z : ws[i]? with
    | none => rw [z] at e; cases e
    | some w =>
      rw [z] at e
      cases Option.some.inj (Option.some.inj e)
      obtain ⟨v, h1, h2⟩ := Ev.Paired.get h z
      refine ⟨v, ?_, h2⟩
      unfold L2.start
      rw [List.getElem?_append_left (by rw [List.length_map, ← hl]; exact hi), List.getElem?_map, h1]
      rfl
  · rw [List.getElem?_append_right (by rw [List.length_map]; omega), List.getElem?_replicate] at e
    split at e <;> cases e
theorem def_ok {P : Program} {w : World} {K : PySem.W.Frag} {mg : Str → Option Value} {base : Heap} {x qual : Str} {st : Stmt} {f : Addr} {fd : FuncData} {N ps : List Str} {k : Nat} {fb : S}
    (F : Fun K x qual st f fd) (S : FnScope N ps (defScope st))
    (hb : ∀ (cdv : Value) (A : Around) (outer : List PySem.Env) (s : Shared) (H : Hp) (E : XK), Room k (A.deeper (envOfC qual (defScope st) s.heap.objs.size f cdv)) →
      SSs (cxOf (L2.CX P w) P w K mg base N qual (defScope st) f cdv A outer s H E) (fun c d _ H' => E c d H') (defBody st) fb) :
    FnOk P w K mg base (L2.CX P w) (k + 1) f fd ps (spM ⟨P, w, K, mg, base⟩ ps.length (runB N.length fb)) := by
  refine F.okX S (fun vs H Q E h => h.1) (fun cdv A outer s H vs Q E hr h => ⟨_, hb cdv A outer s H E hr, ?_⟩)
  obtain ⟨_, F1, m, st1, ws, r, rl, h⟩ := h
  refine ⟨F1, m, st1, startE N.length ws, envR_start r, rl, ?_⟩
  unfold runB at h
  cases z : fb (startE N.length ws) st1 with
  | go fl st2 =>
    rw [z] at h
    cases fl with
    | nx ρ => exact fun F' m' H' σ' s' p' r' er' => h F' m' H' s' p' r' _ .non
    | rt v => exact fun F' m' H' u s' p' r' hu => h F' m' H' s' p' r' u hu
    | bk ρ => exact h.elim
    | ct ρ => exact h.elim
  | ex y ρ st2 => rw [z] at h; exact fun F' m' H' σ' c d s' p' r' er' e' => h F' m' H' c d s' p' r' e'
  | bad => rw [z] at h; exact h

/-! ## garbage is forgotten -/
def W.below (n : Nat) : W → Prop
  | .d _ => True
  | .r i => i < n
def SO.below (n : Nat) : SO → Prop
  | .lst ws => ∀ w ∈ ws, w.below n
  | .dic kvs => ∀ p ∈ kvs, p.2.below n
  | .dead => True
  | .tab _ _ => True
def wf (st : Sto) : Prop := ∀ so ∈ st, so.below st.length
section
variable {K : PySem.W.Frag} {F : Hp} {m : List Addr} {st st1 gb : Sto} {H : Hp}
theorem WR.below {w : W} {v : V} (h : WR K F m w v) : w.below m.length := by
  cases w with
  | d x => trivial
  | r i => obtain ⟨a, h1, _⟩ := h; exact (List.getElem?_eq_some_iff.mp h1).1
theorem paired_left {α β : Type} {R : α → β → Prop} : ∀ {xs : List α} {ys : List β}, PySem.Paired R xs ys → ∀ x ∈ xs, ∃ y, R x y
  | _, _, .nil, x, h => nomatch h
  | _, _, .cons h t, x, hx => by
    rcases List.mem_cons.mp hx with rfl | hx
    · exact ⟨_, h⟩
    · exact paired_left t x hx
theorem Rel.wf (rl : Rel K F m st H) : Ev.wf st := fun so hso => by
  obtain ⟨i, hi⟩ := List.mem_iff_getElem?.mp hso
  have hlt := (List.getElem?_eq_some_iff.mp hi).1
  have hm : m[i]? = some (m[i]'(by rw [rl.len]; exact hlt)) := List.getElem?_eq_getElem _
  have h := rl.obj i _ so hm hi
  rw [← rl.len]
  cases so with
  | lst ws => obtain ⟨vs, _, h2⟩ := h; exact fun w hw => by obtain ⟨v, hv⟩ := paired_left h2 w hw; exact hv.below
  | dic kvs => obtain ⟨ps, _, h2⟩ := h; exact fun p hp => by obtain ⟨v, hv⟩ := paired_left h2 p hp; exact hv.2.below
  | dead => trivial
  | tab P q => trivial
theorem WR.cut {n : Nat} {w : W} {v : V} (h : WR K F m w v) (b : w.below n) : WR K F (m.take n) w v := by
  cases w with
  | d x => exact h
  | r i =>
    obtain ⟨a, h1, h2⟩ := h
    exact ⟨a, by rw [List.getElem?_take_of_lt b]; exact h1, h2⟩
theorem paired_mem {α β : Type} {R S : α → β → Prop} : ∀ {xs : List α} {ys : List β}, PySem.Paired R xs ys → (∀ x ∈ xs, ∀ y, R x y → S x y) → PySem.Paired S xs ys
  | _, _, .nil, _ => .nil
  | _, _, .cons h t, k => .cons (k _ List.mem_cons_self _ h) (paired_mem t fun x hx => k x (List.mem_cons_of_mem _ hx))
theorem Rel.cut (rl : Rel K F m (st1 ++ gb) H) (c : ∀ so ∈ st1, so.below st1.length) : Rel K F (m.take st1.length) st1 H := by
  have hl := rl.len
  rw [List.length_append] at hl
  refine ⟨rl.sub, by rw [List.length_take]; omega, rl.nd.sublist (List.take_sublist _ _), fun i a so e1 e2 e3 => (by
    have hi := (List.getElem?_eq_some_iff.mp e2).1
    rw [List.getElem?_take_of_lt hi] at e1
    exact rl.out i a so e1 (by rw [List.getElem?_append_left hi]; exact e2) e3), fun a ha => rl.here a (List.mem_of_mem_take ha), fun i a so h1 h2 => ?_, rl.nt⟩
  have hi := (List.getElem?_eq_some_iff.mp h2).1
  rw [List.getElem?_take_of_lt hi] at h1
  have h := rl.obj i a so h1 (by rw [List.getElem?_append_left hi]; exact h2)
  have cs := c so (List.mem_of_getElem? h2)
  cases so with
  | lst ws => obtain ⟨vs, e1, e2⟩ := h; exact ⟨vs, e1, paired_mem e2 fun w hw v hv => hv.cut (cs w hw)⟩
  | dic kvs => obtain ⟨ps, e1, e2⟩ := h; exact ⟨ps, e1, paired_mem e2 fun p hp v hv => ⟨hv.1, hv.2.cut (cs p hp)⟩⟩
  | dead => exact h
  | tab P q => exact h
end
/-- the outcome r is as good as q: q is told without what nobody holds any more; where q tells nothing, nothing is asked -/
def Rf (n : Nat) : R W → R W → Prop
  | r, .ok w st1 => n ≤ st1.length ∧ ∃ gb, r = .ok w (st1 ++ gb) ∧ (gb = [] ∨ (w.below st1.length ∧ ∀ so ∈ st1, so.below st1.length))
  | r, .ex x st1 => n ≤ st1.length ∧ ∃ gb, r = .ex x (st1 ++ gb) ∧ (gb = [] ∨ ∀ so ∈ st1, so.below st1.length)
  | _, .bad => True
theorem Rf.refl {st : Sto} {r : R W} (h : match r with | .ok _ st1 => st.length ≤ st1.length | .ex _ st1 => st.length ≤ st1.length | .bad => True) : Rf st.length r r := by
  cases r with
  | ok w st1 => exact ⟨h, [], by rw [List.append_nil], .inl rfl⟩
  | ex x st1 => exact ⟨h, [], by rw [List.append_nil], .inl rfl⟩
  | bad => trivial
theorem After.rf {K : PySem.W.Frag} {mg : Str → Option Value} {F : Hp} {m : List Addr} {E : XK} {r q : R W} {Q : VK} (hr : Rf m.length r q) (h : After K mg F m E q (fun w F' m' H' => ∀ v, WR K F' m' w v → Q v H')) :
    After K mg F m E r (fun w F' m' H' => ∀ v, WR K F' m' w v → Q v H') := by
  have cutp : ∀ {m' : List Addr} {n : Nat}, m <+: m' → m.length ≤ n → m <+: m'.take n := fun {m' n} p hn => by
    obtain ⟨t, rfl⟩ := p
    rw [List.take_append, List.take_of_length_le hn]
    exact List.prefix_append _ _
  cases q with
  | ok w st1 =>
    obtain ⟨hn, gb, rfl, c⟩ := hr
    intro F' m' H' s p rl v hv
    rcases c with rfl | ⟨c1, c2⟩
    · rw [List.append_nil] at rl
      exact h F' m' H' s p rl v hv
    · exact h F' _ H' s (cutp p hn) (rl.cut c2) v (hv.cut c1)
  | ex x st1 =>
    obtain ⟨hn, gb, rfl, c⟩ := hr
    intro F' m' H' cls dd s p rl e
    rcases c with rfl | c
    · rw [List.append_nil] at rl
      exact h F' m' H' cls dd s p rl e
    · exact h F' _ H' cls dd s (cutp p hn) (rl.cut c) e
  | bad => exact h.elim
/-- fn may be told as gn -/
def Ref (fn gn : List W → M W) : Prop := ∀ ws st, wf st → Rf st.length (fn ws st) (gn ws st)
theorem FnOk.ref {g : Gd} {k n : Nat} {f : Addr} {fd : FuncData} {ps : List Str} {fn gn : List W → M W} (h : FnOk g.P g.w g.K g.mg g.base (L2.CX g.P g.w) k f fd ps (spM g n fn)) (r : Ref fn gn) :
    FnOk g.P g.w g.K g.mg g.base (L2.CX g.P g.w) k f fd ps (spM g n gn) :=
  h.imp fun vs H Q E ⟨hl, F, m, st, ws, rv, rl, q⟩ => ⟨hl, F, m, st, ws, rv, rl, After.rf (by rw [rl.len]; exact r ws st rl.wf) q⟩

/-! ## raise, try -/
section
variable {X : Cx} {Wx : WX} {body : List Stmt} {pos p1 p2 p3 : Pos} {x msg : Str} {j : Nat} {C : Addr}
def raiseS (x : Str) : S := fun ρ st => .ex ⟨x, []⟩ ρ st
/-- an own error class without a maker of its own -/
structure ErrC (K : PySem.W.Frag) (mg : Str → Option Value) (x : Str) : Prop where
  ex : ∃ C, mg x = some (.ref C) ∧ PySem.W.excIn K C [.type "ValueError", .type "Exception", .type "BaseException", .type "object"] "ValueError.__new__" = true ∧ PySem.W.keepIn K (.ref C) = true ∧
    PySem.W.subIn K (.ref C) (.type "BaseException") = some true ∧ PySem.W.typeIn K (.ref C) = some (.type "type")
theorem ss_raise (ec : ErrC X.K X.mg x) (hc : X.calm = true) (tk : Takes X Wx) (hg : Gl X x) (hdb : (x == ("__debug__" : Str)) = false := by decide) :
    SS X Wx (.Raise (some (.Call (.Name x p1) [.Constant (.str msg) j p2] [] p3)) none pos) (raiseS x) := by
  obtain ⟨C, hm, q, kC, h1, h2⟩ := ec.ex
  exact PS.imp (ps_raise hc tk (pmk_own PySem.F.excBase_ValueError q hm kC (raises_own h1 h2) hg hdb)) fun D σ H h => by
    obtain ⟨F, m, st, ρ, er, rl, h⟩ := h
    exact h F m H σ (.ref C) none (Same.refl F) (List.prefix_refl m) rl er ⟨C, hm, rfl, .inl ⟨rfl, rfl⟩⟩
/-- which class is under which -/
abbrev SubT := Str → Str → Option Bool
def SubOk (K : PySem.W.Frag) (mg : Str → Option Value) (sub : SubT) : Prop := ∀ a b k C C', sub a b = some k → mg a = some (.ref C) → mg b = some (.ref C') → PySem.W.exmOne K (.ref C) (.ref C') = some k
def noexS (r : RS) : RS := match r with
  | .ex _ _ _ => .bad
  | r => r
theorem AfterS.noexS {g : Gd} {F : Hp} {m : List Addr} {Wx Wy : WX} {r : RS} {D : Ends} (h : AfterS g F m Wx (noexS r) D) : AfterS g F m Wy r D := by
  cases r with
  | go fl st => cases fl <;> exact h
  | ex x ρ st => exact h.elim
  | bad => exact h.elim
def handleS (sub : SubT) (x : Ex) (ρ : Env) (st : Sto) : List (Str × S) → RS
  | [] => .ex x ρ st
  | (h, s) :: r => (match sub x.cls h with
    | some true => noexS (s ρ st)
    | some false => handleS sub x ρ st r
    | none => .bad)
def tryS (sub : SubT) (s : S) (hs : List (Str × S)) : S := fun ρ st => match s ρ st with
  | .ex x ρ' st' => handleS sub x ρ' st' hs
  | r => r
inductive HdsS (X : Cx) : List ExceptHandler → List (Str × S) → Prop
  | nil : HdsS X [] []
  | cons {x : Str} {C : Addr} {fs : S} {b₀ : Stmt} {suite : List Stmt} {np pos' : Pos} {hds : List ExceptHandler} {l : List (Str × S)} (hm : X.mg x = some (.ref C)) (hg : Gl X x) (hdb : (x == ("__debug__" : Str)) = false)
      (hsu : ∀ (a : Addr) (pn : List (Addr × Obj)), SSs (X.suite a pn) Wn (b₀ :: suite) fs) (r : HdsS X hds l) :
      HdsS X (.ExceptHandler (some (.Name x np)) none (b₀ :: suite) pos' :: hds) ((x, fs) :: l)
def clsL (X : Cx) (l : List (Str × S)) : List (Value × (Addr → Value → Option Addr → TS)) := l.map fun p => ((X.mg p.1).getD .none, fun _ _ _ => tS X Wn p.2)
theorem HdsS.ok {X : Cx} {hds : List ExceptHandler} {l : List (Str × S)} (h : HdsS X hds l) : HdsOk X hds (clsL X l) := by
  induction h with
  | nil => exact .nil
  | @cons x C fs b₀ suite np pos' hds l hm hg hdb hsu r ih =>
    have e : (X.mg x).getD .none = Value.ref C := by rw [hm]; rfl
    show HdsOk X _ (((X.mg x).getD .none, fun _ _ _ => tS X Wn fs) :: clsL X l)
    rw [e]
    exact .cons ⟨hg, hdb, .inl hm⟩ (fun a oe cls d pn _ _ => hsu a ((a, oe) :: pn)) ih
theorem handle_ok {X : Cx} {sub : SubT} (sb : SubOk X.K X.mg sub) {D : Ends} {x : Ex} {ρ : Env} {st : Sto} {F : Hp} {m : List Addr} {hds : List ExceptHandler} {l : List (Str × S)} (hl : HdsS X hds l)
    (h : AfterS (gd X) F m Wx (handleS sub x ρ st l) D) {σ : L2.St} {H : Hp} {cls : Value} {dd : Option Addr} (rl : Rel X.K F m st H) (er : EnvR (gd X) F m ρ σ) (e : ExR X.K X.mg F H x cls dd) : wMany X.K Wx D (clsL X l) cls dd σ H := by
  induction hl with
  | nil => exact h F m H σ cls dd (Same.refl F) (List.prefix_refl m) rl er e
  | @cons y C fs b₀ suite np pos' hds l hm hg hdb hsu r ih =>
    obtain ⟨C', hm', rfl, hf⟩ := e
    have ec : (X.mg y).getD .none = Value.ref C := by rw [hm]; rfl
    dsimp only [handleS] at h
    show ∃ b, PySem.W.exmOne X.K (.ref C') ((X.mg y).getD .none) = some b ∧ _
    rw [ec]
    cases z : sub x.cls y with
    | none => rw [z] at h; exact h.elim
    | some k =>
      rw [z] at h
      refine ⟨k, sb _ _ _ _ _ z hm' hm, fun hk a _ => ?_, fun hk => ?_⟩
      · subst hk
        exact ⟨F, m, st, ρ, er, rl, AfterS.noexS h⟩
      · subst hk
        exact ih h
theorem ss_try {sub : SubT} {h₀ : ExceptHandler} {hds : List ExceptHandler} {l : List (Str × S)} {fb : S} (sb : SubOk X.K X.mg sub) (hs : X.stack = X.env :: X.outer) (hf : X.env.frame = some X.env.locals) (tk : Takes X Wx)
    (hb : ∀ (W : WX) (pn : List (Addr × Obj)) (xe : Value → Shared → Prop), Takes (X.tr pn xe) W → PassesOwn (model X.prog X.w) X.A X.env xe → SSs (X.tr pn xe) W body fb) (hh : HdsS X (h₀ :: hds) l) : SS X Wx (.Try body (h₀ :: hds) [] [] pos) (tryS sub fb l) :=
  PS.imp (ps_try_many (tb := fun W => tS X W fb) hs hf tk hb hh.ok) fun D σ H h => by
    obtain ⟨F, m, st, ρ, er, rl, h⟩ := h
    refine ⟨F, m, st, ρ, er, rl, ?_⟩
    unfold tryS at h
    cases z : fb ρ st with
    | go fl st2 => rw [z] at h; cases fl <;> exact h
    | ex x ρ2 st2 => rw [z] at h; exact fun F' m' H' σ' cls dd s' p' r' er' e' => handle_ok sb hh (AfterS.mono s' p' h) r' er' e'
    | bad => rw [z] at h; exact h
end

/-! ## mutable lists -/
section
variable {X : Cx} {Wx : WX} {a b c e : Expr} {es : List Expr} {pos p1 p2 : Pos} {f fa fb fc : Env → M W} {fs : Env → M (List W)}
theorem SR.upd' {K : PySem.W.Frag} {F F' : Hp} {m : List Addr} {H : Hp} {a b : Addr} {o : HO} (h : b ≠ a) {so : SO} (r : SR K F m H b so) : SR K F m (upd H a o) b so := r.keep (Same.refl F) (List.prefix_refl m) (upd_ne h)
theorem nodup_get {m : List Addr} (nd : m.Nodup) {i j : Nat} {a : Addr} (h1 : m[i]? = some a) (h2 : m[j]? = some a) : i = j := by
  obtain ⟨l1, e1⟩ := List.getElem?_eq_some_iff.mp h1
  obtain ⟨l2, e2⟩ := List.getElem?_eq_some_iff.mp h2
  exact (List.getElem_inj nd).mp (e1.trans e2.symm)
theorem Rel.put {K : PySem.W.Frag} {F : Hp} {m : List Addr} {st : Sto} {H : Hp} (rl : Rel K F m st H) {i : Nat} {a : Addr} {so : SO} {o : HO} (hi : m[i]? = some a) (hs : SR K F m (upd H a o) a so) {so0 : SO} (h0 : st[i]? = some so0) (hd0 : so0.dd = false := by rfl) : Rel K F m (st.set i so) (upd H a o) := by
  have hm : a ∈ m := List.mem_of_getElem? hi
  refine ⟨fun b u e => ?_, by rw [List.length_set]; exact rl.len, rl.nd, fun j b s' h1 h2 h3 => ?_, fun b hb => ?_, fun j b s' h1 h2 => ?_, rl.nt⟩
  · have : b ≠ a := fun z => by rw [z, rl.out i a so0 hi h0 hd0] at e; cases e
    rw [upd_ne this]; exact rl.sub b u e
  · by_cases hj : i = j
    · subst hj
      rw [hi] at h1
      cases Option.some.inj h1
      exact rl.out i a so0 hi h0 hd0
    · rw [List.getElem?_set_ne hj] at h2
      exact rl.out j b s' h1 h2 h3
  · by_cases hb' : b = a
    · subst hb'; exact ⟨_, upd_same⟩
    · rw [upd_ne hb']; exact rl.here b hb
  · by_cases hj : i = j
    · subst hj
      rw [hi] at h1
      cases Option.some.inj h1
      rw [List.getElem?_set_self (by rw [← rl.len]; exact (List.getElem?_eq_some_iff.mp hi).1)] at h2
      cases Option.some.inj h2
      exact hs
    · rw [List.getElem?_set_ne hj] at h2
      have hb : b ≠ a := fun z => hj (nodup_get rl.nd hi (z ▸ h1))
      exact SR.upd' (F' := F) hb (rl.obj j b s' h1 h2)
/-- a list display that will be changed -/
def mkMut (g : Env → M (List W)) : Env → M W := fun ρ => bnd (g ρ) fun ws => if ws.length ≤ sizeLine then asMut ws else bad
theorem se_mut (h : SA X Wx es fs) : SE X Wx (.List es pos) (mkMut fs) :=
  PE.imp (pe_lst h) fun σ H Q h => by
    obtain ⟨F, m, st, ρ, er, rl, h⟩ := h
    refine ⟨F, m, st, ρ, er, rl, After.mono (Same.refl F) (List.prefix_refl m) h.bnd fun ws F1 m1 H1 s1 p1 ⟨st1, _, _, rl1, h1⟩ vs r1 => ?_⟩
    split at h1
    · rename_i hz
      refine ⟨by rw [← PySem.Paired.length r1]; exact hz, fun p hp => ?_⟩
      have nm : p ∉ m1 := fun z => by obtain ⟨o, ho⟩ := rl1.here p z; rw [hp] at ho; cases ho
      have ne : ∀ a ∈ m1, a ≠ p := fun a ha e => nm (e ▸ ha)
      have rl2 : Rel X.K F1 m1 st1 (upd H1 p (.lst vs)) := ⟨fun a u e => by rw [upd_ne (fun z => by rw [z, rl1.free hp] at e; cases e)]; exact rl1.sub a u e, rl1.len, rl1.nd, rl1.out, fun a ha => by rw [upd_ne (ne a ha)]; exact rl1.here a ha,
        fun i a so e1 e2 => (rl1.obj i a so e1 e2).keep (Same.refl _) (List.prefix_refl _) (upd_ne (ne a (List.mem_of_getElem? e1))), rl1.nt⟩
      exact fin_mut F1 m1 st1 _ p ws vs _ Q rl2 (rl1.free hp) upd_same nm r1 h1
    · exact h1.elim
/-- xs[i] = e -/
def putIx (st : Sto) (v : W) : W → W → Option Sto
  | .r j, .d (.int k) => (match st[j]? with
    | some (.lst ws) => (ixN ws.length k).map fun n => st.set j (.lst (ws.set n v))
    | _ => none)
  | _, _ => none
theorem putIx_ok {st st' : Sto} {v o i : W} (h : putIx st v o i = some st') : ∃ j k ws n, o = .r j ∧ i = .d (.int k) ∧ st[j]? = some (.lst ws) ∧ ixN ws.length k = some n ∧ st' = st.set j (.lst (ws.set n v)) := by
  cases o with
  | d _ => cases h
  | r j =>
    cases i with
    | r _ => cases h
    | d x =>
      cases x <;> first | (cases h; done) | skip
      rename_i k
      dsimp only [putIx] at h
      split at h
      · rename_i ws hs
        cases z : ixN ws.length k with
        | none => rw [z] at h; cases h
        | some n =>
          rw [z] at h
          exact ⟨j, k, ws, n, rfl, rfl, hs, z, (Option.some.inj h).symm⟩
      · cases h
def setIx (fo fi fv : Env → M W) : S := fun ρ => ofM (bnd (fv ρ) fun v => bnd (fo ρ) fun o => bnd (fi ρ) fun i => ret (v, o, i)) ρ fun p st => match putIx st p.1 p.2.1 p.2.2 with
  | some st' => .go (.nx ρ) st'
  | none => .bad
theorem WRs.set {K : PySem.W.Frag} {F : Hp} {m : List Addr} {x : W} {v : V} (r : WR K F m x v) : ∀ {ws : List W} {vs : List V} (n : Nat), WRs K F m ws vs → WRs K F m (ws.set n x) (vs.set n v)
  | _, _, _, .nil => .nil
  | _, _, 0, .cons h t => .cons r t
  | _, _, n + 1, .cons h t => .cons h (WRs.set r n t)
theorem ss_setIx (ho : SE X Wx a fa) (hi : SE X Wx b fb) (he : SE X Wx e f)
    (ha : ∀ v, assign (.Subscript a b p1) X.env v = (do
      let ov ← holding [v] (eval a X.env)
      let iv ← holding [v, ov] (eval b X.env)
      standAt p1
      holding [v, ov, iv] (setItem ov iv v)
      release [v, ov, iv] []) := by intro _; rfl)
    (hs : swapsWithSole [.Subscript a b p1] e pos.line X.env = pure false := by rfl) (hw : swappedStores [.Subscript a b p1] e X.env = pure none := by rfl)
    (h1 : (assignEach [.Subscript a b p1] X.env).map (·.2) = [assign (.Subscript a b p1) X.env] := by rfl) : SS X Wx (.Assign [.Subscript a b p1] e pos) (setIx fa fb f) :=
  PS.imp (ps_asg he (pg_sub ho hi set_list ha) hs hw h1) fun D σ H h => by
    obtain ⟨F, m, st, ρ, er, rl, h⟩ := h
    have h0 := (AfterS.ofM er h).bnd
    refine ⟨F, m, st, ρ, er, rl, After.mono (Same.refl F) (List.prefix_refl m) h0 fun x F1 m1 H1 s1 p1 ⟨st1, _, _, rl1, h1⟩ v r1 => ?_⟩
    refine ⟨F1, m1, st1, ρ, er.mono s1 p1, rl1, After.mono (Same.refl F1) (List.prefix_refl m1) h1.bnd fun y F2 m2 H2 s2 p2 ⟨st2, _, _, rl2, h2⟩ o r2 => ?_⟩
    refine ⟨F2, m2, st2, ρ, (er.mono s1 p1).mono s2 p2, rl2, After.mono (Same.refl F2) (List.prefix_refl m2) h2.bnd fun z F3 m3 H3 s3 p3 ⟨st3, _, _, rl3, h3⟩ i r3 => ?_⟩
    obtain ⟨st4, _, _, rl4, h4⟩ := h3.here rl3
    split at h4
    · rename_i st5 hst
      obtain ⟨j, k, ws, n, ey, ez, e1, e2, e3⟩ := putIx_ok hst
      have ey : y = .r j := ey
      have ez : z = .d (.int k) := ez
      subst ey ez e3
      obtain ⟨a, rfl, hm, vs, hH, rvs⟩ := rl4.at (r2.mono s3 p3) e1
      rw [dq_int r3]
      refine ⟨a, vs, _, n, rfl, rfl, hH, by rw [← PySem.Paired.length rvs]; exact e2, ?_⟩
      exact h4 F3 m3 _ σ (Same.refl _) (List.prefix_refl _) (rl4.put hm ⟨_, upd_same, WRs.set ((r1.mono s2 p2).mono s3 p3) n rvs⟩ e1) (((er.mono s1 p1).mono s2 p2).mono s3 p3)
    · exact h4.elim
/-- xs.append(e) -/
def isMut (st : Sto) : W → Option Unit
  | .r j => (match st[j]? with
    | some (.lst _) => some ()
    | _ => none)
  | .d _ => none
def putEnd (st : Sto) (v : W) : W → Option Sto
  | .r j => (match st[j]? with
    | some (.lst ws) => if ws.length < sizeLine then some (st.set j (.lst (ws ++ [v]))) else none
    | _ => none)
  | .d _ => none
theorem isMut_ok {st : Sto} {o : W} {u : Unit} (h : isMut st o = some u) : ∃ j ws, o = .r j ∧ st[j]? = some (.lst ws) := by
  cases o with
  | d _ => cases h
  | r j =>
    dsimp only [isMut] at h
    split at h
    · exact ⟨j, _, rfl, by assumption⟩
    · cases h
theorem putEnd_ok {st st' : Sto} {v o : W} (h : putEnd st v o = some st') : ∃ j ws, o = .r j ∧ st[j]? = some (.lst ws) ∧ ws.length < sizeLine ∧ st' = st.set j (.lst (ws ++ [v])) := by
  cases o with
  | d _ => cases h
  | r j =>
    dsimp only [putEnd] at h
    split at h
    · split at h
      · exact ⟨j, _, rfl, by assumption, by assumption, (Option.some.inj h).symm⟩
      · cases h
    · cases h
def appS (fo fv : Env → M W) : Env → M W := fun ρ => bnd (fo ρ) fun o => bnd (liftO fun st => isMut st o) fun _ => bnd (fv ρ) fun v => fun st => match putEnd st v o with
  | some st' => .ok (.d .none) st'
  | none => .bad
theorem se_app (ho : SE X Wx a fa) (he : SE X Wx e f) (hbase : attributeBase a "append" X.env (eval a X.env) = eval a X.env := by rfl)
    (hfew : ((backTo p2 (starEach (e :: []) X.env)).all (fun x => !x.1) && (backToKw p2 (keywordEach [] X.env)).all (fun x => x.1.isSome)
      && decide ((e :: []).length + ([] : List Keyword).length + (if ([] : List Keyword).isEmpty then 0 else 1) < 30)) = true := by rfl)
    (hline : (p1.endLine == p2.line) = true := by rfl) (hs : starEach (e :: []) X.env = (false, eval e X.env) :: starEach [] X.env := by rfl) (hplain : (backTo p2 (starEach [] X.env)).any (·.1) = false := by rfl) :
    SE X Wx (.Call (.Attribute a "append" p1) [e] [] p2) (appS fa f) :=
  PE.imp (pe_bm PySem.F.plainAttrs_list PySem.F.slot_list_append PySem.F.type_list_append mt_append ho (pa_cons he pa_nil hs) hbase hfew hline hs hplain) fun σ H Q h => by
    obtain ⟨F, m, st, ρ, er, rl, h⟩ := h
    refine ⟨F, m, st, ρ, er, rl, After.mono (Same.refl F) (List.prefix_refl m) h.bnd fun x F1 m1 H1 s1 p1 ⟨st1, _, _, rl1, h1⟩ v r1 => ?_⟩
    obtain ⟨_, e1, q1⟩ := h1.bnd.liftO
    obtain ⟨st2, _, _, rl2, h2⟩ := q1 F1 m1 H1 (Same.refl _) (List.prefix_refl _) rl1
    obtain ⟨j, ws, ex, hst⟩ := isMut_ok e1
    subst ex
    obtain ⟨a, rfl, hm, vs, hH, rvs⟩ := rl1.at r1 hst
    refine ⟨.inl ⟨rfl, _, SqL.of hH⟩, F1, m1, st2, ρ, er.mono s1 p1, rl2, After.mono (Same.refl F1) (List.prefix_refl m1) h2.bnd fun y F3 m3 H3 s3 p3 ⟨st3, _, _, rl3, h3⟩ u r3 => ?_⟩
    split at h3
    · rename_i st5 hp
      obtain ⟨j', ws3, ej, hst3, hz, rfl⟩ := putEnd_ok hp
      cases ej
      obtain ⟨a3, e3, hm3, vs3, hH3, rvs3⟩ := rl3.at (r1.mono s3 p3) hst3
      cases e3
      refine ⟨a, vs3, u, rfl, rfl, hH3, by rw [← PySem.Paired.length rvs3]; exact hz, ?_⟩
      exact h3 F3 m3 _ (Same.refl _) (List.prefix_refl _) (rl3.put hm3 ⟨_, upd_same, Paired.snoc rvs3 r3⟩ hst3) _ .non
    · exact h3.elim
end
end Ev
end
section
set_option Elab.async false
set_option linter.all false
set_option maxRecDepth 100000
set_option autoImplicit false
namespace Ev
open PySem PySem.Spec PyProof.Rows L2
/-! ## sets of texts, made of a list and met again at once -/
section
variable {P : Program} {w : World} {K : Type} [DecidableEq K] {knd : KeyKind P w K}
def El (knd : KeyKind P w K) (e : Int × Value) (k : K) : Prop := knd.is k e.2 = true ∧ e.1 = knd.hash k ∧ e.2.scannable = true
theorem paired_perm {α β : Type} {R : α → β → Prop} {l l' : List α} (p : l'.Perm l) : ∀ {ks : List β}, Paired R l ks → ∃ ks', ks'.Perm ks ∧ Paired R l' ks' := by
  induction p with
  | nil => intro ks h; exact ⟨ks, List.Perm.refl _, h⟩
  | cons x _ ih =>
    intro ks h
    cases h with
    | cons a t =>
      obtain ⟨ks', p1, h1⟩ := ih t
      exact ⟨_ :: ks', p1.cons _, .cons a h1⟩
  | swap x y l =>
    intro ks h
    cases h with
    | cons a t =>
      cases t with
      | cons b t => exact ⟨_ :: _ :: _, List.Perm.swap _ _ _, .cons b (.cons a t)⟩
  | trans _ _ ih1 ih2 =>
    intro ks h
    obtain ⟨k1, p1, h1⟩ := ih2 h
    obtain ⟨k2, p2, h2⟩ := ih1 h1
    exact ⟨k2, p2.trans p1, h2⟩
theorem els_of {l : List (Int × Value)} {ks : List K} (h : Paired (El knd) l ks) : ElemsOf knd l := by
  induction h with
  | nil => intro e he; cases he
  | @cons e k l ks a t ih =>
    intro e' he
    rcases List.mem_cons.mp he with z | z
    · rw [z]; exact ⟨⟨k, a.1, a.2.1⟩, a.2.2⟩
    · exact ih e' z
theorem els_mem {l : List (Int × Value)} {ks : List K} (h : Paired (El knd) l ks) (k : K) : k ∈ ks ↔ ∃ e ∈ l, knd.is k e.2 = true := by
  induction h with
  | nil => simp
  | @cons e k0 l ks a t ih =>
    rw [List.mem_cons, ih]
    constructor
    · rintro (rfl | ⟨e', h1, h2⟩)
      · exact ⟨e, List.mem_cons_self, a.1⟩
      · exact ⟨e', List.mem_cons_of_mem _ h1, h2⟩
    · rintro ⟨e', h1, h2⟩
      rcases List.mem_cons.mp h1 with rfl | h1
      · exact .inl (knd.inj _ _ _ h2 a.1)
      · exact .inr ⟨e', h1, h2⟩
theorem els_snoc {l : List (Int × Value)} {ks : List K} (h : Paired (El knd) l ks) {e : Int × Value} {k : K} (a : El knd e k) : Paired (El knd) (l ++ [e]) (ks ++ [k]) := by
  induction h with
  | nil => exact .cons a .nil
  | cons b t ih => exact .cons b ih
theorem paired_get {α β : Type} {R : α → β → Prop} : ∀ {l : List α} {ks : List β} {i : Nat} {v : α}, Paired R l ks → l[i]? = some v → ∃ k, ks[i]? = some k ∧ R v k
  | _, _, _, _, .nil, e => by simp at e
  | _, _, 0, v, .cons (b := k) h _, e => ⟨k, rfl, by have e' := Option.some.inj e; rw [← e']; exact h⟩
  | _, _, i + 1, v, .cons _ t, e => by
    obtain ⟨k, h1, h2⟩ := paired_get (i := i) (v := v) t (by simpa using e)
    exact ⟨k, by simpa using h1, h2⟩
theorem paired_map_left {α β γ : Type} {R : α → β → Prop} {R' : γ → β → Prop} {f : α → γ} {l : List α} {ks : List β} (h : Paired R l ks) (k : ∀ a b, R a b → R' (f a) b) : Paired R' (l.map f) ks := by
  induction h with
  | nil => exact .nil
  | cons a t ih => exact .cons (k _ _ a) ih
/-- the set at a: these keys, none twice -/
structure SetL (knd : KeyKind P w K) (h : Heap) (a : Addr) (ks : List K) : Prop where
  ex : ∃ o es ep t, h.get? a = some o ∧ o.ExactSet ∧ o.data = .set es ep t ∧ (∃ ks', Paired (El knd) es.toList ks' ∧ ks'.Perm ks) ∧ es.size < scanBound ∧ t.fits es.size = true ∧ Ris t.place.toList ∧ (w.params.followText "set-order" = true ∨ t.led = true)
  nd : ks.Nodup
theorem SetL.at {h h' : Heap} {a : Addr} {ks : List K} (R : SetL knd h a ks) (k : ∀ o, h.get? a = some o → h'.get? a = some o) : SetL knd h' a ks :=
  let ⟨⟨o, es, ep, t, ho, r⟩, nd⟩ := R; ⟨⟨o, es, ep, t, k o ho, r⟩, nd⟩
theorem SetL.len {h : Heap} {a : Addr} {ks : List K} (R : SetL knd h a ks) : ∃ o es ep t, h.get? a = some o ∧ o.ExactSet ∧ o.data = .set es ep t ∧ t.fits es.size = true ∧ es.size = ks.length ∧ es.size < scanBound := by
  obtain ⟨⟨o, es, ep, t, ho, hex, hd, ⟨ks', hp, pm⟩, hb, hf, _⟩, nd⟩ := R
  refine ⟨o, es, ep, t, ho, hex, hd, hf, ?_, hb⟩
  rw [← Array.length_toList, PySem.Paired.length hp, pm.length_eq]
variable {A : Around} {E : Value → Shared → Prop} {s : Shared} {a : Addr} {ks : List K}
theorem setL_store {g : Bool → Sem Unit} (hg : ∀ (b : Bool) (s₁ : Shared) (Q' : Unit → Shared → Prop), Q' () s₁ → wpAny (model P w) A (g b) Q' E s₁)
    {o : Obj} {es : Array (Int × Value)} {ep : Nat} {t : SetTable} (ho : s.heap.get? a = some o) (hex : o.ExactSet) (hd : o.data = .set es ep t)
    {es1 : Array (Int × Value)} {t2 : SetTable} {ks' : List K} (hp : Paired (El knd) es1.toList ks') (pm : ks'.Perm ks) (nd : ks.Nodup)
    (hb1 : es1.size < scanBound) (hf2 : t2.fits es1.size = true) (hr : Ris t2.place.toList) (hl : w.params.followText "set-order" = true ∨ t2.led = true) {wasDummy : Bool} {R : Option Bool → Shared → Prop}
    (hR : ∀ h', Heap.SameBut a s.heap h' → SetL knd h' a ks → R (some true) { s with heap := h' }) :
    wpAny (model P w) A (do
        storeSet a es1 t2
        if (!wasDummy && t2.tooFull) = true then do
            g (relayAll t2 es1 (SetTable.grown es1.size)).2.2
            storeSet a (relayAll t2 es1 (SetTable.grown es1.size)).1 (relayAll t2 es1 (SetTable.grown es1.size)).2.1
            pure (some true)
          else pure (some true)) R E s := by
  refine wpAny_bind (wpAny_storeSet_of ho hd ?_ (fits_of_scanBound hb1))
  have h1 := store_at (es' := es1) (t' := t2) ho hd
  have sb := Heap.SameBut.update s.heap a (Obj.putSet es1 t2)
  split
  · have q1 := relayAll_perm t2 es1 (SetTable.grown es1.size)
    have q2 := relayAll_fits t2 es1 (SetTable.grown es1.size)
    have q3 := relayAll_ris t2 es1 (SetTable.grown es1.size)
    have q4 := relayAll_led t2 es1 (SetTable.grown es1.size)
    generalize relayAll t2 es1 (SetTable.grown es1.size) = Z at q1 q2 q3 q4 ⊢
    obtain ⟨es2, t3, z⟩ := Z
    dsimp only at q1 q2 q3 q4 ⊢
    have hz : es2.size = es1.size := by rw [← Array.length_toList, q1.length_eq, Array.length_toList]
    obtain ⟨k2, p2, r2⟩ := paired_perm q1 hp
    refine wpAny_bind (hg _ _ _ (wpAny_bind (wpAny_storeSet_of h1 rfl (wpAny_pure (hR _ (sb.trans (Heap.SameBut.update _ a _)) ⟨⟨_, es2, _, t3, store_at h1 rfl, hex, rfl, ⟨k2, r2, p2.trans pm⟩, by rw [hz]; exact hb1, q2, q3, hl.imp id fun y => by rw [q4]; exact y⟩, nd⟩)) (fits_of_scanBound (by rw [hz]; exact hb1)))))
  · exact wpAny_pure (hR _ sb ⟨⟨_, es1, _, t2, h1, hex, rfl, ⟨ks', hp, pm⟩, hb1, hf2, hr, hl⟩, nd⟩)
theorem setL_add {k : K} {x : Value} {Q : Bool → Shared → Prop} (hk : knd.is k x = true) (hsc : x.scannable = true) (R : SetL knd s.heap a ks) (room : ks.length + 1 < scanBound)
    (hQ : ∀ h' ks2, Heap.SameBut a s.heap h' → SetL knd h' a ks2 → (∀ j, j ∈ ks2 ↔ j = k ∨ j ∈ ks) → ks2.length ≤ ks.length + 1 → Q (!decide (k ∈ ks)) { s with heap := h' }) :
    wpAny (model P w) A (setAddHashed a x (knd.hash k)) Q E s := by
  obtain ⟨⟨o, es, ep, t, ho, hex, hd, ⟨ks', hp, pm⟩, hb, hf, hr, hl⟩, nd⟩ := R
  have hel : ElemsOf knd es.toList := els_of hp
  have hsz : es.size = ks.length := by rw [← Array.length_toList, PySem.Paired.length hp, pm.length_eq]
  unfold setAddHashed setAddHashedIn
  refine wpAny_holding (wpAny_bind (wpAny_setState_of ho hd hf ?_))
  dsimp only
  rw [byScan_of hsc hb hel]
  simp only [↓reduceIte]
  unfold setAddByScan
  refine wpAny_bind (wpAny_bind (wpAny_rule (wpAny_bind (wpAny_setScan_of hk ho hd hf hel ?_))))
  cases hfi : List.findIdx? (fun e => knd.is k e.2) es.toList with
  | some j =>
    dsimp only
    obtain ⟨hj, pj, _⟩ := List.findIdx?_eq_some_iff_getElem.mp hfi
    have hin : k ∈ ks := pm.mem_iff.mp ((els_mem hp k).2 ⟨es.toList[j], List.getElem_mem hj, pj⟩)
    have q := hQ s.heap ks (Heap.SameBut.refl a s.heap) ⟨⟨o, es, ep, t, ho, hex, hd, ⟨ks', hp, pm⟩, hb, hf, hr, hl⟩, nd⟩ (fun i => ⟨.inr, fun z => z.elim (fun e => e ▸ hin) id⟩) (Nat.le_succ _)
    rw [decide_eq_true hin] at q
    exact wpAny_pure (wpAny_pure q)
  | none =>
    dsimp only
    have hn' : k ∉ ks' := fun z => by
      obtain ⟨e, he, q⟩ := (els_mem hp k).1 z
      have c := List.findIdx?_eq_none_iff.mp hfi e he
      rw [q] at c
      cases c
    have hnk : k ∉ ks := fun z => hn' (pm.mem_iff.mpr z)
    have hgw : ∀ (b : Bool) {s₁ : Shared} {Q' : Unit → Shared → Prop}, Q' () s₁ → wpAny (model P w) A (match b with | true => rule "set.scan.the-table-gave-way" | false => pure ()) Q' E s₁ :=
      fun b s₁ Q' q => by cases b <;> first | exact wpAny_pure q | exact wpAny_rule q
    have q1 := layNew_perm t es (knd.hash k) x
    have q2 := layNew_fits t es (knd.hash k) x
    have q3 := layNew_ris t es (knd.hash k) x hr
    have q4 := layNew_led t es (knd.hash k) x
    generalize layNew t es (knd.hash k) x = Z at q1 q2 q3 q4 ⊢
    obtain ⟨es1, t1, wasDummy, gave⟩ := Z
    dsimp only at q1 q2 q3 q4 ⊢
    rw [Array.toList_push] at q1
    have pc : es1.toList.Perm ((knd.hash k, x) :: es.toList) := q1.trans (List.perm_append_singleton _ _)
    have hc : Paired (El knd) ((knd.hash k, x) :: es.toList) (k :: ks') := .cons ⟨hk, rfl, hsc⟩ hp
    obtain ⟨k2, p2, r2⟩ := paired_perm pc hc
    have pm2 : k2.Perm (k :: ks) := p2.trans (pm.cons _)
    have nd2 : (k :: ks).Nodup := List.nodup_cons.mpr ⟨hnk, nd⟩
    have hz1 : es1.size < scanBound := by
      have : es1.size = ks.length + 1 := by rw [← Array.length_toList, pc.length_eq, List.length_cons, Array.length_toList, hsz]
      omega
    have hled : w.params.followText "set-order" = true ∨ t1.led = true := hl.imp id fun z => by rw [q4]; exact z
    have fin : ∀ h', Heap.SameBut a s.heap h' → SetL knd h' a (k :: ks) → Q true { s with heap := h' } := fun h' sb r => by
      have q := hQ h' (k :: ks) sb r (fun j => List.mem_cons) (Nat.le_refl _)
      rw [decide_eq_false hnk] at q
      exact q
    refine wpAny_bind (hgw _ ?_)
    split
    · refine wpAny_bind ?_
      rw [hashByValue_scannable 8 hsc]
      refine wpAny_pure ?_
      refine setL_store ?_ ho hex hd r2 pm2 nd2 hz1 ?_ ?_ ?_ ?_
      · intro b s₁ Q' q; cases b <;> first | exact wpAny_pure q | exact wpAny_rule q
      · first | (split <;> first | exact q2 | exact SetTable.fits_plain_off q2) | exact q2
      · first | (split <;> exact q3) | exact q3
      · first | (split <;> exact hled) | exact hled
      · intro h' sb r; dsimp only; exact wpAny_pure (fin h' sb r)
    · refine wpAny_bind (wpAny_pure ?_)
      simp only [↓reduceIte]
      refine setL_store ?_ ho hex hd r2 pm2 nd2 hz1 q2 q3 hled ?_
      · intro b s₁ Q' q; cases b <;> first | exact wpAny_pure q | exact wpAny_rule q
      · intro h' sb r; dsimp only; exact wpAny_pure (fin h' sb r)
def newSetObj (w : World) : Obj := { cls := .type "set", dict := none, data := .set #[] 0 (.fresh 0 0 (!w.params.followText "set-order")) }
theorem setL_new {h : Heap} {a : Addr} (ho : h.get? a = some (newSetObj w)) : SetL knd h a [] :=
  ⟨⟨_, #[], 0, _, ho, ⟨rfl, rfl, rfl⟩, rfl, ⟨[], .nil, List.Perm.refl _⟩, (by decide), (by rfl), List.Pairwise.nil, by
    show _ ∨ (!w.params.followText "set-order") = true
    cases w.params.followText "set-order"
    · exact .inr rfl
    · exact .inl rfl⟩, List.nodup_nil⟩
/-- set.update's loop over keys -/
theorem setL_loop {I : Addr} {fp wr : List Addr} {G : Array GenState → Array GenState → Prop} {n : Nat} {Pv : Nat → Value → Prop} {St : Nat → Shared → Prop} {R : Result → Shared → Prop}
    (W : WalksS P w A.in1 I fp wr G n Pv St) (S : Addr) (hSf : S ∉ fp) (xs : List K) (hn : n = xs.length) (hb : xs.length + 1 < scanBound) (hval : ∀ i v, Pv i v → ∃ k, xs[i]? = some k ∧ knd.is k v = true ∧ v.scannable = true) :
    ∀ (k i : Nat) (s : Shared), n - i = k → i ≤ n → St i s → (∃ ks, SetL knd s.heap S ks ∧ ks.length ≤ i ∧ ∀ j, j ∈ ks ↔ j ∈ xs.take i) →
      (∀ s' ks, Moved (S :: wr) G s s' → SetL knd s'.heap S ks → (∀ j, j ∈ ks ↔ j ∈ xs) → R (.ok (.ret .none)) s') →
      codeAny (model P w) A (.builtin "set.update.loop" ⟨[.ref S, .ref I], []⟩) R s := by
  have hSw : S ∉ wr := fun h => hSf (W.sub _ h)
  have hsub : ∀ b ∈ wr, b ∈ S :: wr := fun b hb => List.mem_cons_of_mem _ hb
  intro k
  induction k with
  | zero =>
    rintro i s hk' hi hst ⟨ks, hS, hlen, hm⟩ hR
    have hin : i = n := by omega
    subst hin
    refine codeAny_builtin F.entry_set_update_loop ?_
    rw [Around.under_plainId F.plain_set_update_loop _]
    show wpAny _ A.in1 (pyNext (.ref I) >>= _) _ _ s
    refine wpAny_bind (W.done s _ _ hst fun s' mv => ?_)
    show wpAny _ A.in1 (PySem.ret Value.none) _ _ s'
    rw [List.take_of_length_le (by omega)] at hm
    exact wpAny_pure (hR s' ks (mv.mono hsub) (hS.at fun o e => mv.heap S o hSw e) hm)
  | succ k ih =>
    rintro i s hk' hi hst ⟨ks, hS, hlen, hm⟩ hR
    have hlt : i < n := by omega
    refine codeAny_builtin F.entry_set_update_loop ?_
    rw [Around.under_plainId F.plain_set_update_loop _]
    show wpAny _ A.in1 (pyNext (.ref I) >>= _) _ _ s
    refine wpAny_bind (W.item i s _ _ hlt hst fun v s' hP hst' mv => ?_)
    obtain ⟨z, hz, hk1, hk2⟩ := hval i v hP
    have hS' : SetL knd s'.heap S ks := hS.at fun o e => mv.heap S o hSw e
    show wpAny _ A.in1 (holding [v] (setAdd S v) >>= _) _ _ s'
    refine wpAny_bind (wpAny_holding ?_)
    unfold setAdd
    refine wpAny_holding (wpAny_bind (knd.pyHash (k := z) hk1 ?_))
    refine setL_add (s := { s' with toks := s'.toks + 1 }) hk1 hk2 hS' (by omega) fun h' ks2 hsb hS2 hm2 hl2 => ?_
    refine wpAny_pure ⟨plainId_quiet F.plain_set_update_loop _, ih (i + 1) _ (by omega) hlt (W.frame _ s' _ _ hst' (Nat.le_succ _) fun b hb o e => ?_) ⟨ks2, hS2, by omega, fun j => ?_⟩ fun s'' k3 mv3 hS3 hm3 => ?_⟩
    · rw [hsb.2 b (fun h : b = S => hSf (by rw [← h]; exact hb))]; exact e
    · rw [hm2, hm, List.take_add_one, hz, List.mem_append]
      simp [or_comm]
    · refine hR s'' k3 (Moved.trans W.gtrans ((mv.mono hsub).then_heap (Nat.le_succ _) fun b o hb e => ?_) mv3) hS3 hm3
      rw [hsb.2 b (fun h : b = S => hb (by rw [h]; exact List.mem_cons_self))]; exact e
theorem set_made (a : Value) {Q₁ : Value → Shared → Prop} (h : Q₁ (.ref s.heap.objs.size) { s with heap := s.heap.push (newSetObj w) }) :
    codeAny (model P w) A (.call (.builtin "set.__new__") ⟨[.type "set", a], []⟩) (wants Q₁ E) s := code_set_led1 a h
set_option maxHeartbeats 3200000 in
/-- set(xs), xs a list of keys -/
theorem call_setL {l : Addr} {items : Array Value} (xs : List K) {Q : Value → Shared → Prop} (hh : A.handled = none) (hl : s.heap.IsList l items) (hit : Paired (fun v k => knd.is k v = true ∧ v.scannable = true) items.toList xs) (hb : xs.length + 1 < scanBound)
    (h : ∀ (h' : Heap) (tk : Nat) (ks : List K), SetL knd h' s.heap.objs.size ks → (∀ j, j ∈ ks ↔ j ∈ xs) → (∀ b o, s.heap.get? b = some o → h'.get? b = some o) → Q (.ref s.heap.objs.size) { s with heap := h', toks := tk }) :
    wpAny (model P w) A (call (.type "set") [.ref l]) Q E s := by
  have hisz : items.size = xs.length := by rw [← Array.length_toList]; exact PySem.Paired.length hit
  obtain ⟨c, tl, hmro⟩ := F.called_set.mro
  have f1 := F.called_set.made
  have f2 := F.called_set.sub
  have f3 := F.called_set.notType
  have f4 := F.called_set.canCreate
  have f5 := F.typeCall_set_1 (.ref l)
  have hS : (s.heap.push (newSetObj w)).get? s.heap.objs.size = some (newSetObj w) := Heap.get?_push_size _ rfl
  have hT : Shared.TypeIs { s with heap := s.heap.push (newSetObj w) } (.ref s.heap.objs.size) "set" := ⟨_, hS, rfl⟩
  refine wpAny_call (codeAny_of_tree ?_)
  show wpAny _ _ (callAny (.type "set") _) _ _ _
  refine wpAny_pure ⟨Code.quiet_builtin _ (by decide +kernel), codeAny_builtin F.entry_type_call ?_⟩
  rw [Around.under_plain (weight_type_call_type "set" [.ref l] []) rfl]
  repeat (any_goals (first | assumption | wp_step))
  refine codeAny_mono (set_made (.ref l) (E := E) (Q₁ := fun o s₁ => o = .ref s.heap.objs.size ∧ s₁ = { s with heap := s.heap.push (newSetObj w) }) ⟨rfl, rfl⟩) fun r s₁ hr => ?_
  match r, hr with
  | .error e, hr => exact hr
  | .ok (.ret o), hr =>
    obtain ⟨rfl, rfl⟩ := hr
    have f6 := F.called_set.init.lookup
    have f7 := F.called_set.init.bind (.ref s.heap.objs.size)
    repeat (any_goals (first | assumption | wp_step))
    refine codeAny_mono (codeAny_call_builtin (R := wants (fun r s₂ => r = .none ∧ ∃ h' tk ks, s₂ = { s with heap := h', toks := tk } ∧ SetL knd h' s.heap.objs.size ks ∧ (∀ j, j ∈ ks ↔ j ∈ xs) ∧
        (∀ b o, s.heap.get? b = some o → h'.get? b = some o)) E) F.called_set.init.plain F.entry_set_init (check_set_init_1 hT ?_)) fun r₂ s₂ hr₂ => ?_
    · obtain ⟨ol, hol, hcl, nl, hdl⟩ := hl
      obtain ⟨oc, od, ot, os⟩ := ol
      simp only at hcl hdl
      subst hcl; subst hdl
      have hol' : (s.heap.push (newSetObj w)).get? l = some { cls := .type "list", dict := od, data := .seq items nl, slots := os } := Heap.get?_push_of_some _ hol
      have g1 := F.sub_list_set
      have g2 := F.sub_list_frozenset
      have g3 : (Value.type "list" == Value.type "dict") = false := by decide
      have hl1 : (s.heap.push (newSetObj w)).IsList l items := ⟨_, hol', rfl, nl, rfl⟩
      unfold Builtin.«set.__init__» noKeywords Builtin.Frozenset.updateFrom
      generalize hPI : pyIter = PI
      wp_walk
      subst hPI
      refine wpAny_pyIter_list hl1 (wpAny_bind (wpAny_runValue ?_))
      have hlS : l < s.heap.objs.size := Heap.lt_size hol
      have hz : (s.heap.push (newSetObj w)).objs.size = s.heap.objs.size + 1 := Heap.size_push ..
      have n1 : l ≠ (s.heap.push (newSetObj w)).objs.size := by rw [hz]; exact Nat.ne_of_lt (Nat.lt_succ_of_lt hlS)
      have n2 : s.heap.objs.size ∉ [(s.heap.push (newSetObj w)).objs.size, l] := by
        rw [hz]; simp only [List.mem_cons, List.not_mem_nil, or_false, not_or]; exact ⟨Nat.ne_of_lt (Nat.lt_succ_self _), Nat.ne_of_gt hlS⟩
      refine setL_loop (knd := knd) ((Walks.list (by simp [hh]) _ l n1 items).toS) s.heap.objs.size n2 xs hisz hb (fun i v hv => ?_) (items.size - 0) 0 _ (by omega) (Nat.zero_le _)
        ⟨⟨_, Heap.get?_push_size _ rfl, rfl, rfl⟩, (hl1.push _)⟩ ⟨[], setL_new (Heap.get?_push_of_some _ hS), Nat.le_refl _, fun j => by simp⟩ fun s' ks mv hS' hm => ?_
      · have q : items.toList[i]? = some v := by rw [Array.getElem?_toList]; exact hv
        obtain ⟨k, h1, h2⟩ := paired_get hit q
        exact ⟨k, h1, h2⟩
      · obtain ⟨h', g2, d', tk', os'⟩ := s'
        have eg : g2 = s.gens := mv.gens
        have ed : d' = s.drawn := mv.drawn
        have eo : os' = s.os := mv.os
        subst eg; subst ed; subst eo
        show wpAny _ _ _ _ _ _
        refine wpAny_pure ?_
        show wpAny _ _ (PySem.ret Value.none) _ _ _
        refine wpAny_pure ⟨rfl, h', tk', ks, rfl, hS', hm, fun b o e => mv.heap b o ?_ (Heap.get?_push_of_some _ (Heap.get?_push_of_some _ e))⟩
        have hbl := Heap.lt_size e
        rw [hz]; simp only [List.mem_cons, List.not_mem_nil, or_false, not_or]; exact ⟨Nat.ne_of_lt hbl, Nat.ne_of_lt (Nat.lt_succ_of_lt hbl)⟩
    · match r₂, hr₂ with
      | .error e, hr₂ => exact hr₂
      | .ok (.ret r), hr₂ =>
        obtain ⟨rfl, h', tk, ks, rfl, hS', hm, hk'⟩ := hr₂
        repeat (any_goals (first | assumption | wp_step))
        exact h _ _ _ hS' hm hk'
set_option maxHeartbeats 3200000 in
/-- set(xs), xs a tuple of keys -/
theorem call_setT {l : Addr} {items : Array Value} (xs : List K) {Q : Value → Shared → Prop} (hh : A.handled = none) (hl : s.heap.IsTuple l items) (hit : Paired (fun v k => knd.is k v = true ∧ v.scannable = true) items.toList xs) (hb : xs.length + 1 < scanBound)
    (h : ∀ (h' : Heap) (tk : Nat) (ks : List K), SetL knd h' s.heap.objs.size ks → (∀ j, j ∈ ks ↔ j ∈ xs) → (∀ b o, s.heap.get? b = some o → h'.get? b = some o) → Q (.ref s.heap.objs.size) { s with heap := h', toks := tk }) :
    wpAny (model P w) A (call (.type "set") [.ref l]) Q E s := by
  have hisz : items.size = xs.length := by rw [← Array.length_toList]; exact PySem.Paired.length hit
  obtain ⟨c, tl, hmro⟩ := F.called_set.mro
  have f1 := F.called_set.made
  have f2 := F.called_set.sub
  have f3 := F.called_set.notType
  have f4 := F.called_set.canCreate
  have f5 := F.typeCall_set_1 (.ref l)
  have hS : (s.heap.push (newSetObj w)).get? s.heap.objs.size = some (newSetObj w) := Heap.get?_push_size _ rfl
  have hT : Shared.TypeIs { s with heap := s.heap.push (newSetObj w) } (.ref s.heap.objs.size) "set" := ⟨_, hS, rfl⟩
  refine wpAny_call (codeAny_of_tree ?_)
  show wpAny _ _ (callAny (.type "set") _) _ _ _
  refine wpAny_pure ⟨Code.quiet_builtin _ (by decide +kernel), codeAny_builtin F.entry_type_call ?_⟩
  rw [Around.under_plain (weight_type_call_type "set" [.ref l] []) rfl]
  repeat (any_goals (first | assumption | wp_step))
  refine codeAny_mono (set_made (.ref l) (E := E) (Q₁ := fun o s₁ => o = .ref s.heap.objs.size ∧ s₁ = { s with heap := s.heap.push (newSetObj w) }) ⟨rfl, rfl⟩) fun r s₁ hr => ?_
  match r, hr with
  | .error e, hr => exact hr
  | .ok (.ret o), hr =>
    obtain ⟨rfl, rfl⟩ := hr
    have f6 := F.called_set.init.lookup
    have f7 := F.called_set.init.bind (.ref s.heap.objs.size)
    repeat (any_goals (first | assumption | wp_step))
    refine codeAny_mono (codeAny_call_builtin (R := wants (fun r s₂ => r = .none ∧ ∃ h' tk ks, s₂ = { s with heap := h', toks := tk } ∧ SetL knd h' s.heap.objs.size ks ∧ (∀ j, j ∈ ks ↔ j ∈ xs) ∧
        (∀ b o, s.heap.get? b = some o → h'.get? b = some o)) E) F.called_set.init.plain F.entry_set_init (check_set_init_1 hT ?_)) fun r₂ s₂ hr₂ => ?_
    · obtain ⟨ol, hol, hcl, nl, hdl⟩ := hl
      obtain ⟨oc, od, ot, os⟩ := ol
      simp only at hcl hdl
      subst hcl; subst hdl
      have hol' : (s.heap.push (newSetObj w)).get? l = some { cls := .type "tuple", dict := od, data := .seq items nl, slots := os } := Heap.get?_push_of_some _ hol
      have g1 := F.sub_tuple_set
      have g2 := F.sub_tuple_frozenset
      have g3 : (Value.type "tuple" == Value.type "dict") = false := by decide
      have hl1 : (s.heap.push (newSetObj w)).IsTuple l items := ⟨_, hol', rfl, nl, rfl⟩
      unfold Builtin.«set.__init__» noKeywords Builtin.Frozenset.updateFrom
      generalize hPI : pyIter = PI
      wp_walk
      subst hPI
      refine wpAny_pyIter_tuple hl1 (wpAny_bind (wpAny_runValue ?_))
      have hlS : l < s.heap.objs.size := Heap.lt_size hol
      have hz : (s.heap.push (newSetObj w)).objs.size = s.heap.objs.size + 1 := Heap.size_push ..
      have n1 : l ≠ (s.heap.push (newSetObj w)).objs.size := by rw [hz]; exact Nat.ne_of_lt (Nat.lt_succ_of_lt hlS)
      have n2 : s.heap.objs.size ∉ [(s.heap.push (newSetObj w)).objs.size, l] := by
        rw [hz]; simp only [List.mem_cons, List.not_mem_nil, or_false, not_or]; exact ⟨Nat.ne_of_lt (Nat.lt_succ_self _), Nat.ne_of_gt hlS⟩
      refine setL_loop (knd := knd) ((Walks.tuple (by simp [hh]) _ l n1 items).toS) s.heap.objs.size n2 xs hisz hb (fun i v hv => ?_) (items.size - 0) 0 _ (by omega) (Nat.zero_le _)
        ⟨⟨_, Heap.get?_push_size _ rfl, rfl, rfl⟩, (hl1.push _)⟩ ⟨[], setL_new (Heap.get?_push_of_some _ hS), Nat.le_refl _, fun j => by simp⟩ fun s' ks mv hS' hm => ?_
      · have q : items.toList[i]? = some v := by rw [Array.getElem?_toList]; exact hv
        obtain ⟨k, h1, h2⟩ := paired_get hit q
        exact ⟨k, h1, h2⟩
      · obtain ⟨h', g2, d', tk', os'⟩ := s'
        have eg : g2 = s.gens := mv.gens
        have ed : d' = s.drawn := mv.drawn
        have eo : os' = s.os := mv.os
        subst eg; subst ed; subst eo
        show wpAny _ _ _ _ _ _
        refine wpAny_pure ?_
        show wpAny _ _ (PySem.ret Value.none) _ _ _
        refine wpAny_pure ⟨rfl, h', tk', ks, rfl, hS', hm, fun b o e => mv.heap b o ?_ (Heap.get?_push_of_some _ (Heap.get?_push_of_some _ e))⟩
        have hbl := Heap.lt_size e
        rw [hz]; simp only [List.mem_cons, List.not_mem_nil, or_false, not_or]; exact ⟨Nat.ne_of_lt hbl, Nat.ne_of_lt (Nat.lt_succ_of_lt hbl)⟩
    · match r₂, hr₂ with
      | .error e, hr₂ => exact hr₂
      | .ok (.ret r), hr₂ =>
        obtain ⟨rfl, h', tk, ks, rfl, hS', hm, hk'⟩ := hr₂
        repeat (any_goals (first | assumption | wp_step))
        exact h _ _ _ hS' hm hk'
/-- len of it -/
theorem len_setL {Q : Value → Shared → Prop} (R : SetL knd s.heap a ks) (h : Q (.int (ks.length : Nat) (s.toks + 1)) { s with toks := s.toks + 1 + 1 }) : wpAny (model P w) A (call (.builtin "len") [.ref a]) Q E s := by
  obtain ⟨o, es, ep, t, ho, hex, hd, hf, hn, hb⟩ := R.len
  refine call_len_set ho hex hd hf (by unfold scanBound at hb; omega) ?_
  rw [hn]
  exact h
/-- its members, gathered -/
theorem collect_setL {Q : List Value → Shared → Prop} (hh : A.handled = none) (R : SetL knd s.heap a ks)
    (hQ : ∀ s' out ks', (∀ b o, s.heap.get? b = some o → s'.heap.get? b = some o) → s.heap.objs.size ≤ s'.heap.objs.size → s'.gens = s.gens → s'.os = s.os → ks'.Perm ks → Paired (fun v k => knd.is k v = true ∧ v.scannable = true) out ks' → Q out s') :
    wpAny (model P w) A (collect (.ref a)) Q E s := by
  obtain ⟨⟨o, es, ep, t, ho, hex, hd, ⟨ks', hp, pm⟩, hb, hf, hr, hl⟩, nd⟩ := R
  refine collect_set hh ⟨o, ho, hex.1, hd⟩ hf hb hr hl fun s' out h1 h2 h3 h4 p => ?_
  have hv : Paired (fun v k => knd.is k v = true ∧ v.scannable = true) (es.toList.map (·.2)) ks' := paired_map_left hp fun e k q => ⟨q.1, q.2.2⟩
  obtain ⟨k2, p2, r2⟩ := paired_perm p hv
  exact hQ s' out k2 h1 h2 h3 h4 (p2.trans pm) r2
end
end Ev
end
section
set_option Elab.async false
set_option linter.all false
set_option maxRecDepth 100000
set_option autoImplicit false
namespace Ev
open PySem PySem.Spec PyProof.Rows L2
/-! ## texts in order, none twice -/
def ltS (a b : Str) : Bool := decide (a.cps.toList < b.cps.toList)
def leS (a b : Str) : Bool := decide (a.cps.toList ≤ b.cps.toList)
def insS (x : Str) : List Str → List Str
  | [] => [x]
  | y :: l => if x = y then y :: l else if ltS x y = true then x :: y :: l else y :: insS x l
def sortS : List Str → List Str
  | [] => []
  | x :: l => insS x (sortS l)
theorem str_ext {a b : Str} (h : a.cps.toList = b.cps.toList) : a = b := by
  cases a; cases b
  simp only [Str.mk.injEq]
  exact Array.toList_inj.mp h
theorem ltS_irr (a : Str) : ltS a a = false := decide_eq_false (List.lt_irrefl _)
theorem ltS_trans {a b c : Str} (h : ltS a b = true) (k : ltS b c = true) : ltS a c = true :=
  decide_eq_true (List.lt_trans (of_decide_eq_true h) (of_decide_eq_true k))
theorem leS_lt {a b : Str} (h : leS a b = true) (n : a ≠ b) : ltS a b = true := by
  refine decide_eq_true ?_
  rcases Classical.em (a.cps.toList < b.cps.toList) with c | c
  · exact c
  · exact absurd (str_ext (List.le_antisymm (of_decide_eq_true h) (List.not_lt.mp c))) n
theorem ltS_tri {a b : Str} (h : ltS a b = false) (n : a ≠ b) : ltS b a = true :=
  leS_lt (decide_eq_true (List.not_lt.mp (of_decide_eq_false h))) fun e => n e.symm
abbrev Up (l : List Str) : Prop := l.Pairwise (fun a b => ltS a b = true)
theorem up_eq : ∀ {l k : List Str}, Up l → Up k → (∀ x, x ∈ l ↔ x ∈ k) → l = k
  | [], [], _, _, _ => rfl
  | [], y :: k, _, _, h => by have := (h y).mpr List.mem_cons_self; cases this
  | x :: l, [], _, _, h => by have := (h x).mp List.mem_cons_self; cases this
  | x :: l, y :: k, hl, hk, h => by
    obtain ⟨a1, a2⟩ := List.pairwise_cons.mp hl
    obtain ⟨b1, b2⟩ := List.pairwise_cons.mp hk
    have e : x = y := by
      rcases List.mem_cons.mp ((h x).mp List.mem_cons_self) with e | e
      · exact e
      · rcases List.mem_cons.mp ((h y).mpr List.mem_cons_self) with e' | e'
        · exact e'.symm
        · have := ltS_trans (b1 x e) (a1 y e')
          rw [ltS_irr] at this
          cases this
    subst e
    have n1 : x ∉ l := fun z => by have := a1 x z; rw [ltS_irr] at this; cases this
    have n2 : x ∉ k := fun z => by have := b1 x z; rw [ltS_irr] at this; cases this
    rw [up_eq a2 b2 fun z => ?_]
    constructor
    · intro hz
      rcases List.mem_cons.mp ((h z).mp (List.mem_cons_of_mem _ hz)) with e | e
      · exact absurd (e ▸ hz) n1
      · exact e
    · intro hz
      rcases List.mem_cons.mp ((h z).mpr (List.mem_cons_of_mem _ hz)) with e | e
      · exact absurd (e ▸ hz) n2
      · exact e
theorem mem_insS {x z : Str} : ∀ {l : List Str}, z ∈ insS x l ↔ z = x ∨ z ∈ l
  | [] => by simp [insS]
  | y :: l => by
    unfold insS
    split
    · rename_i e; subst e; simp
    · split
      · simp
      · rw [List.mem_cons, mem_insS, List.mem_cons]
        constructor
        · rintro (h | h | h) <;> simp [h]
        · rintro (h | h | h) <;> simp [h]
theorem up_insS {x : Str} : ∀ {l : List Str}, Up l → Up (insS x l)
  | [], _ => List.pairwise_singleton _ _
  | y :: l, h => by
    obtain ⟨h1, h2⟩ := List.pairwise_cons.mp h
    unfold insS
    split
    · exact h
    · rename_i n
      split
      · rename_i c
        exact List.pairwise_cons.mpr ⟨fun z hz => by
          rcases List.mem_cons.mp hz with e | e
          · rw [e]; exact c
          · exact ltS_trans c (h1 z e), h⟩
      · rename_i c
        refine List.pairwise_cons.mpr ⟨fun z hz => ?_, up_insS h2⟩
        rcases mem_insS.mp hz with e | e
        · rw [e]; exact ltS_tri (by simpa using c) n
        · exact h1 z e
theorem mem_sortS {z : Str} : ∀ {l : List Str}, z ∈ sortS l ↔ z ∈ l
  | [] => Iff.rfl
  | x :: l => by
    show z ∈ insS x (sortS l) ↔ _
    rw [mem_insS, mem_sortS, List.mem_cons]
theorem up_sortS : ∀ (l : List Str), Up (sortS l)
  | [] => List.Pairwise.nil
  | _ :: l => up_insS (up_sortS l)
theorem up_merge {l : List Str} (nd : l.Nodup) : Up (l.mergeSort leS) := by
  have h1 := List.pairwise_mergeSort (le := leS) (fun a b c h k => decide_eq_true (List.le_trans (of_decide_eq_true h) (of_decide_eq_true k))) (fun a b => by
    rcases List.le_total a.cps.toList b.cps.toList with h | h
    · rw [show leS a b = true from decide_eq_true h]; rfl
    · rw [show leS b a = true from decide_eq_true h, Bool.or_true]) l
  have h2 : (l.mergeSort leS).Nodup := (List.mergeSort_perm l leS).nodup_iff.mpr nd
  exact (List.pairwise_and_iff.mpr ⟨h1, h2⟩).imp fun ⟨a, b⟩ => leS_lt a b
theorem merge_sortS {l k : List Str} (nd : k.Nodup) (h : ∀ x, x ∈ k ↔ x ∈ l) : k.mergeSort leS = sortS l :=
  up_eq (up_merge nd) (up_sortS l) fun x => by rw [(List.mergeSort_perm k leS).mem_iff, h, mem_sortS]
theorem up_nodup {l : List Str} (h : Up l) : l.Nodup := List.Pairwise.imp (fun {a b} c e => by rw [e, ltS_irr] at c; cases c) h
theorem len_sortS {l k : List Str} (nd : k.Nodup) (h : ∀ x, x ∈ k ↔ x ∈ l) : k.length = (sortS l).length := by
  rw [← merge_sortS nd h, (List.mergeSort_perm k leS).length_eq]

/-! ## set(e), met by sorted or len -/
def strsD : List PyData → Option (List Str)
  | [] => some []
  | .str x :: r => (strsD r).map (x :: ·)
  | _ :: _ => none
theorem strsD_eq : ∀ {ds : List PyData} {xs : List Str}, strsD ds = some xs → ds = xs.map .str
  | [], _, e => by cases Option.some.inj e; rfl
  | .str x :: r, xs, e => by
    have e : (strsD r).map (x :: ·) = some xs := e
    cases z : strsD r with
    | none => rw [z] at e; cases e
    | some ys =>
      rw [z] at e
      cases Option.some.inj e
      rw [strsD_eq z]; rfl
  | .none :: _, _, e => nomatch e
  | .int _ :: _, _, e => nomatch e
  | .bool _ :: _, _, e => nomatch e
  | .list _ :: _, _, e => nomatch e
  | .tuple _ :: _, _, e => nomatch e
  | .dict _ :: _, _, e => nomatch e
theorem strsD_map (xs : List Str) : strsD (xs.map .str) = some xs := by
  induction xs with
  | nil => rfl
  | cons x l ih => show (strsD (l.map .str)).map (x :: ·) = _; rw [ih]; rfl
theorem dq_strs {K : PySem.W.Frag} {F : Hp} : ∀ {xs : List Str} {vs : List V}, DqAll K F vs (xs.map .str) → vs = xs.map V.str
  | [], _, .nil => rfl
  | x :: xs, _, .cons h t => by cases h; rw [dq_strs t]; rfl
theorem vals_keys {P : Program} {w : World} : ∀ {xs : List Str} {us : List Value}, Vals (xs.map V.str) us → PySem.Paired (fun v k => (strKind P w).is k v = true ∧ v.scannable = true) us xs
  | [], _, .nil => .nil
  | x :: xs, _, .cons h t => by
    obtain ⟨tk, rfl⟩ := h
    exact .cons ⟨by show Value.isStrOf x (.str x tk) = true; simp [Value.isStrOf, Value.isStr], rfl⟩ (vals_keys t)
def SetO (P : Program) (w : World) (a : Addr) (ks : List Str) : HO := .ext fun h => SetL (strKind P w) h a ks
theorem setO_new {P : Program} {w : World} {H : Hp} {h : Heap} {a : Addr} {ks : List Str} (R : SetL (strKind P w) h a ks) : ObjOk P w H h a (SetO P w a ks) :=
  ⟨R, by obtain ⟨⟨o, _, _, _, ho, _⟩, _⟩ := R; exact ⟨o, ho⟩, fun h1 h2 p k => p.at k⟩
section
variable {X : Cx}
def textsW (st : Sto) (w : W) : Option (List Str) := (seqW st w).bind strsD
def rSet (X : Cx) : List V → Hp → VK → Prop := fun vs H Q => ∃ F m st w xs, WRs X.K F m [w] vs ∧ Rel X.K F m st H ∧ textsW st w = some xs ∧ xs.length < 4000 ∧
  ∀ p ks, H p = none → ks.Nodup → (∀ j, j ∈ ks ↔ j ∈ xs) → Q (.ref p) (upd H p (SetO X.prog X.w p ks))
theorem cr_set (hc : X.calm = true) : CallR X (.type "set") (rSet X) := by
  intro pins s σ H vs us Q I r hh
  obtain ⟨F, m, st, w, xs, rv, rl, e, hz, q⟩ := hh
  obtain ⟨v, rfl, r1⟩ := wrs1 rv
  unfold textsW at e
  cases z : seqW st w with
  | none => rw [z] at e; cases e
  | some ds =>
    rw [z] at e
    have ed := strsD_eq (show strsD ds = some xs from e)
    subst ed
    obtain ⟨a, ws, rfl, t, hs⟩ := seqW_ok rl r1 z
    rw [dq_strs t] at hs
    cases r with
    | cons ru rr =>
      cases rr
      cases ru
      have hd := I.ok.hd hc
      have fin : ∀ (h' : Heap) (tk : Nat) (ks : List Str), SetL (strKind X.prog X.w) h' s.heap.objs.size ks → (∀ j, j ∈ ks ↔ j ∈ xs) → (∀ b o, s.heap.get? b = some o → h'.get? b = some o) → EP X pins σ Q (.ref s.heap.objs.size) { s with heap := h', toks := tk } := fun h' tk ks R hm k =>
        ⟨.ref _, upd H s.heap.objs.size (SetO X.prog X.w s.heap.objs.size ks), I.laid (t' := tk) k (Nat.le_refl _) (setO_new R), rfl, q _ ks (I.hok.fresh (Nat.le_refl _)) R.nd hm⟩
      rcases hs with hs | ⟨hs, _⟩
      · obtain ⟨its, rv, hl, hz2⟩ := I.list hs
        exact call_setL xs hd hl.isList (vals_keys rv) (by unfold scanBound; omega) fin
      · obtain ⟨its, rv, hl, hz2⟩ := I.tuple hs
        exact call_setT xs hd hl (vals_keys rv) (by unfold scanBound; omega) fin
theorem setO_get {pins : List (Addr × Obj)} {σ : L2.St} {H : Hp} {s : Shared} {a : Addr} {ks : List Str} (I : Inv X pins σ H s) (ha : H a = some (SetO X.prog X.w a ks)) : SetL (strKind X.prog X.w) s.heap a ks := (I.hok a _ ha).1
theorem cr_lenSet : CallR X (.builtin "len") fun vs H Q => ∃ p ks, vs = [.ref p] ∧ H p = some (SetO X.prog X.w p ks) ∧ Q (.int (ks.length : Nat)) H := by
  intro pins s σ H vs us Q I r hh
  obtain ⟨p, ks, rfl, hp, q⟩ := hh
  obtain ⟨u, rfl, ru⟩ := vals1 r
  obtain rfl : u = Value.ref p := ru
  exact len_setL (setO_get I hp) ⟨.int (ks.length : Nat), H, I.tok _, ⟨_, rfl⟩, q⟩
theorem strs_vals : ∀ {us : List Value} {xs : List Str}, PySem.W.EachIs (fun v k => Value.isStrOf k v = true ∧ v.scannable = true) us xs → Vals (xs.map V.str) us
  | _, _, .nil => .nil
  | _, _, .cons h t => by
    obtain ⟨tk, e⟩ := Value.isStrOf_shape h.1
    exact .cons ⟨tk, e⟩ (strs_vals t)
theorem each_of {α β : Type} {R : α → β → Prop} : ∀ {l : List α} {k : List β}, PySem.Paired R l k → PySem.W.EachIs R l k
  | _, _, .nil => .nil
  | _, _, .cons h t => .cons h (each_of t)
theorem cr_sortSet (hc : X.calm = true) (hu : X.A.units + 65 < cLine) : CallR X (.builtin "sorted") fun vs H Q => ∃ p ks, vs = [.ref p] ∧ H p = some (SetO X.prog X.w p ks) ∧ ks.length < 4000 ∧
    ∀ q, H q = none → Q (.ref q) (upd H q (.lst ((ks.mergeSort leS).map V.str))) := by
  intro pins s σ H vs us Q I r hh
  obtain ⟨p, ks, rfl, hp, hz, q⟩ := hh
  obtain ⟨u, rfl, ru⟩ := vals1 r
  obtain rfl : u = Value.ref p := ru
  have hd := I.ok.hd hc
  have R := setO_get I hp
  refine Calls.call_function_entry kind_sorted plain_sorted entry_sorted (args_sorted1 _) ?_
  unfold Builtin.«sorted»
  refine wpAny_bind (m := checkCount "sorted" 1 1 _) (wpAny_pure ?_)
  refine wpAny_bind (collect_setL (A := X.A.in1) hd R fun s1 out ks' k1 hz1 g1 o1 pm hp1 => ?_)
  have nd' : ks'.Nodup := pm.nodup_iff.mpr R.nd
  have hlen : out.length = ks'.length := PySem.Paired.length hp1
  have hlk : ks'.length = ks.length := pm.length_eq
  refine wpAny_bind (wpAny_newList ?_ (by rw [hlen, hlk, sizeLine_eq]; omega))
  have hoL : (s1.heap.push (seqObj "list" out.toArray 0)).get? s1.heap.objs.size = some (seqObj "list" out.toArray 0) := Heap.get?_push_size _ rfl
  have e1 := each_of hp1
  have hL : ks'.length ≤ sizeLine := by rw [hlk, sizeLine_eq]; omega
  refine wpAny_bind (wpAny_holding (PySem.W.list_sort_data (s := { s1 with heap := s1.heap.push (seqObj "list" out.toArray 0) }) (enc := PyData.str) hoL e1 ?_ (PySem.W.AllAlike.of fun _ _ => rfl) (PySem.W.Sortable.others fun b => ⟨nofun, nofun⟩) hL (fun b _ => ?_) fun out2 hl2 eo => ?_))
  · refine e1.mono fun v k h => ?_
    obtain ⟨tk, e⟩ := Value.isStrOf_shape h.1
    rw [e]
    exact ⟨[], .str _ _, by simp⟩
  · have hu1 : X.A.in1.units = X.A.units + 1 := rfl
    have hdp : (PyData.str b).depth = 0 := by simp [PyData.depth]
    omega
  · obtain ⟨c, hc2⟩ := sortedHeap_at (vs := out) (out := List.toArray out2) hoL
    rw [PySem.W.dataLe_str (fun k : Str => k)] at eo
    have eo : PySem.W.EachIs (fun v k => Value.isStrOf k v = true ∧ v.scannable = true) out2 (ks'.mergeSort leS) := eo
    have em : ks'.mergeSort leS = ks.mergeSort leS := up_eq (up_merge nd') (up_merge R.nd) fun x => by rw [(List.mergeSort_perm ks' leS).mem_iff, (List.mergeSort_perm ks leS).mem_iff, pm.mem_iff]
    rw [em] at eo
    have kall : ∀ b o, s1.heap.get? b = some o → (sortedHeap (s1.heap.push (seqObj "list" out.toArray 0)) s1.heap.objs.size out (List.toArray out2)).get? b = some o := fun b o e => by
      have hlt := Heap.lt_size e
      rw [sortedHeap_old (Nat.ne_of_lt hlt) (by rw [size_push']; exact Nat.lt_succ_of_lt hlt)]
      exact Heap.get?_push_of_some _ e
    have I1 : Inv X pins σ H s1 := I.call' (ch := []) o1 (Un.kept k1) (I.hok.kept k1) (by rw [g1]; exact I.bare) (fun _ z => nomatch z)
    refine wpAny_pure ⟨_, rfl, .ref s1.heap.objs.size, upd H s1.heap.objs.size (.lst ((ks.mergeSort leS).map V.str)), I1.laid (t' := s1.toks) kall (Nat.le_refl _) ⟨?_, out2, c, strs_vals eo, hc2⟩, rfl, q _ (I1.hok.fresh (Nat.le_refl _))⟩
    rw [List.length_map, (List.mergeSort_perm ks leS).length_eq, ← hlk]; exact hL
end
section
variable {X : Cx} {Wx : WX} {e : Expr} {p1 p2 p3 p4 : Pos} {f : Env → M W}
def sortSetW (st : Sto) (w : W) : Option W := (textsW st w).bind fun xs => if xs.length < 4000 then some (.d (.list ((sortS xs).map .str))) else none
def lenSetW (st : Sto) (w : W) : Option W := (textsW st w).bind fun xs => if xs.length < 4000 then some (.d (.int (sortS xs).length)) else none
def op1 (op : Sto → W → Option W) (f : Env → M W) : Env → M W := fun ρ => bnd (f ρ) fun w => liftO fun st => op st w
theorem dq_ofStrs {K : PySem.W.Frag} {F : Hp} : ∀ (xs : List Str), DqAll K F (xs.map V.str) (xs.map .str)
  | [] => .nil
  | _ :: xs => .cons (.str _) (dq_ofStrs xs)
theorem nodup_sub {α : Type} [DecidableEq α] : ∀ (k l : List α), k.Nodup → (∀ x ∈ k, x ∈ l) → k.length ≤ l.length
  | [], _, _, _ => Nat.zero_le _
  | x :: k, l, nd, h => by
    obtain ⟨n1, n2⟩ := List.nodup_cons.mp nd
    have hx := h x List.mem_cons_self
    have ih := nodup_sub k (l.erase x) n2 fun y hy => (List.mem_erase_of_ne fun e => n1 (by rw [← e]; exact hy)).mpr (h y (List.mem_cons_of_mem _ hy))
    have e := List.length_erase_of_mem hx
    have p := List.length_pos_of_mem hx
    rw [List.length_cons]; omega
theorem nodup_le {k l : List Str} (nd : k.Nodup) (h : ∀ x, x ∈ k ↔ x ∈ l) : k.length ≤ l.length := nodup_sub k l nd fun x hx => (h x).mp hx
theorem Rel.drop {K : PySem.W.Frag} {F : Hp} {m : List Addr} {st : Sto} {H : Hp} (rl : Rel K F m st H) {p : Addr} (hp : H p = none) {o : HO} : Rel K F m st (upd H p o) := by
  have ne : ∀ a ∈ m, a ≠ p := fun a ha e => by obtain ⟨u, hu⟩ := rl.here a ha; rw [e, hp] at hu; cases hu
  exact ⟨fun a u e => by rw [upd_ne (fun z => by rw [z, rl.free hp] at e; cases e)]; exact rl.sub a u e, rl.len, rl.nd, rl.out, fun a ha => by rw [upd_ne (ne a ha)]; exact rl.here a ha,
    fun i a so e1 e2 => (rl.obj i a so e1 e2).keep (Same.refl _) (List.prefix_refl _) (upd_ne (ne a (List.mem_of_getElem? e1))), rl.nt⟩
theorem se_sortSet (hc : X.calm = true) (hu : X.A.units + 65 < cLine) (he : SE X Wx e f) (hg1 : Gl X "sorted") (hm1 : X.mg "sorted" = none) (hg2 : Gl X "set") (hm2 : X.mg "set" = none)
    (hs : starEach [e] X.env = [(false, eval e X.env)] := by rfl) (hs2 : starEach [.Call (.Name "set" p2) [e] [] p3] X.env = [(false, eval (.Call (.Name "set" p2) [e] [] p3) X.env)] := by rfl) :
    SE X Wx (.Call (.Name "sorted" p1) [.Call (.Name "set" p2) [e] [] p3] [] p4) (op1 sortSetW f) :=
  PE.imp (pe_callB (cr_sortSet hc hu) hg1 hm1 boot_sorted (pa_cons (pe_callTy (cr_set hc) hg2 hm2 boot_set (pa_cons he pa_nil hs) (he := hs)) pa_nil hs2) (he := hs2)) fun σ H Q h => by
    obtain ⟨F, m, st, ρ, er, rl, h⟩ := h
    refine ⟨F, m, st, ρ, er, rl, After.mono (Same.refl F) (List.prefix_refl m) h.bnd fun w F1 m1 H1 s1 p1 ⟨st1, _, _, rl1, h1⟩ v r1 => ?_⟩
    obtain ⟨w', e1, q⟩ := h1.liftO
    unfold sortSetW at e1
    cases z : textsW st1 w with
    | none => rw [z] at e1; cases e1
    | some xs =>
      rw [z] at e1
      have e1 : (if xs.length < 4000 then some (W.d (.list ((sortS xs).map .str))) else none) = some w' := e1
      split at e1
      · rename_i hz
        cases Option.some.inj e1
        refine ⟨F1, m1, st1, w, xs, .cons r1 .nil, rl1, z, hz, fun p ks hp nd hm => ?_⟩
        refine ⟨p, ks, rfl, upd_same, Nat.lt_of_le_of_lt (nodup_le nd hm) hz, fun q' hq' => ?_⟩
        rw [merge_sortS nd hm]
        have rl2 : Rel X.K F1 m1 st1 (upd H1 p (SetO X.prog X.w p ks)) := rl1.drop hp
        exact rM_lst (fun F' m' H' v s p r hv => q F' m' H' s p r v hv) rl2 hq' (dq_ofStrs _)
      · cases e1
theorem se_lenSet (hc : X.calm = true) (he : SE X Wx e f) (hg1 : Gl X "len") (hm1 : X.mg "len" = none) (hg2 : Gl X "set") (hm2 : X.mg "set" = none)
    (hs : starEach [e] X.env = [(false, eval e X.env)] := by rfl) (hs2 : starEach [.Call (.Name "set" p2) [e] [] p3] X.env = [(false, eval (.Call (.Name "set" p2) [e] [] p3) X.env)] := by rfl) :
    SE X Wx (.Call (.Name "len" p1) [.Call (.Name "set" p2) [e] [] p3] [] p4) (op1 lenSetW f) :=
  PE.imp (pe_callB cr_lenSet hg1 hm1 boot_len (pa_cons (pe_callTy (cr_set hc) hg2 hm2 boot_set (pa_cons he pa_nil hs) (he := hs)) pa_nil hs2) (he := hs2)) fun σ H Q h => by
    obtain ⟨F, m, st, ρ, er, rl, h⟩ := h
    refine ⟨F, m, st, ρ, er, rl, After.mono (Same.refl F) (List.prefix_refl m) h.bnd fun w F1 m1 H1 s1 p1 ⟨st1, _, _, rl1, h1⟩ v r1 => ?_⟩
    obtain ⟨w', e1, q⟩ := h1.liftO
    unfold lenSetW at e1
    cases z : textsW st1 w with
    | none => rw [z] at e1; cases e1
    | some xs =>
      rw [z] at e1
      have e1 : (if xs.length < 4000 then some (W.d (.int (sortS xs).length)) else none) = some w' := e1
      split at e1
      · rename_i hz
        cases Option.some.inj e1
        refine ⟨F1, m1, st1, w, xs, .cons r1 .nil, rl1, z, hz, fun p ks hp nd hm => ?_⟩
        refine ⟨p, ks, rfl, upd_same, ?_⟩
        rw [len_sortS nd hm]
        have rl2 : Rel X.K F1 m1 st1 (upd H1 p (SetO X.prog X.w p ks)) := rl1.drop hp
        exact q F1 m1 _ (Same.refl _) (List.prefix_refl _) rl2 _ (.int _)
      · cases e1
end
end Ev
end
section
set_option Elab.async false
set_option linter.all false
set_option maxRecDepth 100000
set_option autoImplicit false
namespace Ev
open PySem PySem.Spec PyProof.Rows L2 LamX
/-! ## a lambda without parameters, handed to a def that calls it -/
open Classical in
/-- a(), a in slot i: the thunk t, if it is the closure c -/
noncomputable def actF (i : Nat) (c : Cl) (t : M W) : Env → M W := fun ρ => match ρ[i]? with
  | some (some (.fn c')) => if c' = c then t else bad
  | _ => bad
theorem actF_at {i : Nat} {c : Cl} {t : M W} {ρ : Env} (h : ρ[i]? = some (some (.fn c))) : actF i c t ρ = t := by
  unfold actF; rw [h]; dsimp only; rw [if_pos rfl]
/-- the tables that the store tells of -/
def tabsOf (st : Sto) : List (Addr × Str) := st.filterMap fun so => match so with
  | .tab P q => some (P, q)
  | _ => none
theorem mem_tabs {st : Sto} {P : Addr} {q : Str} (h : (P, q) ∈ tabsOf st) : ∃ i : Nat, st[i]? = some (SO.tab P q) := by
  obtain ⟨so, h1, h2⟩ := List.mem_filterMap.mp h
  obtain ⟨i, hi⟩ := List.mem_iff_getElem?.mp h1
  cases so with
  | tab P' q' => cases Option.some.inj h2; exact ⟨i, hi⟩
  | lst ws => cases h2
  | dic ws => cases h2
  | dead => cases h2
theorem tabs_mem {st : Sto} {P : Addr} {q : Str} {i : Nat} (h : st[i]? = some (SO.tab P q)) : (P, q) ∈ tabsOf st := List.mem_filterMap.mpr ⟨_, List.mem_of_getElem? h, rfl⟩
section
variable {K : PySem.W.Frag} {F : Hp} {m : List Addr} {st : Sto} {H H1 : Hp}
theorem Rel.tab (rl : Rel K F m st H) {i : Nat} {P : Addr} {q : Str} (h : st[i]? = some (SO.tab P q)) : m[i]? = some P ∧ ∃ ps, H P = some (.tbl ps) ∧ TriplesOk ps.toList ∧ ∀ (pos : Pos) (cv : Value), codeAmong pos ps.toList = some cv → ∃ c, cv = .ref c ∧ F c = some (CodeO c q) := by
  have hl : i < m.length := by rw [rl.len]; exact (List.getElem?_eq_some_iff.mp h).1
  have hm : m[i]? = some m[i] := List.getElem?_eq_getElem hl
  obtain ⟨e, r⟩ := rl.obj i _ _ hm h
  rw [e] at hm
  exact ⟨hm, e ▸ r⟩
theorem Rel.tabs (rl : Rel K F m st H) : Tabs (tabsOf st) H := fun ⟨P, q⟩ hp => by
  obtain ⟨i, hi⟩ := mem_tabs hp
  obtain ⟨_, ps, h1, h2, h3⟩ := rl.tab hi
  exact ⟨ps, h1, h2, fun pos cv hc => let ⟨c, e1, e2⟩ := h3 pos cv hc; ⟨c, e1, rl.sub _ _ e2⟩⟩
theorem Rel.tab_one (rl : Rel K F m st H) {P : Addr} {q q' : Str} (h : (P, q) ∈ tabsOf st) (h' : (P, q') ∈ tabsOf st) : q' = q := by
  obtain ⟨i, hi⟩ := mem_tabs h
  obtain ⟨j, hj⟩ := mem_tabs h'
  have e := nodup_get rl.nd (rl.tab hi).1 (rl.tab hj).1
  subst e
  rw [hi] at hj
  cases Option.some.inj hj
  rfl
open Classical in
/-- the code objects of H1 are known from now on -/
noncomputable def withCodes (F H1 : Hp) : Hp := fun b => if (∃ q, H1 b = some (CodeO b q)) then H1 b else F b
theorem withCodes_at {b : Addr} {q : Str} (h : H1 b = some (CodeO b q)) : withCodes F H1 b = some (CodeO b q) := by
  unfold withCodes; rw [if_pos ⟨q, h⟩]; exact h
theorem withCodes_or (b : Addr) : withCodes F H1 b = F b ∨ (∃ q, H1 b = some (CodeO b q)) ∧ withCodes F H1 b = H1 b := by
  unfold withCodes
  split
  · rename_i h; exact .inr ⟨h, rfl⟩
  · exact .inl rfl
/-- what is behind a lambda's making -/
theorem Rel.made (rl : Rel K F m st H) (e : ExtN H H1) (t : Tabs (tabsOf st) H1) : Rel K (withCodes F H1) m st H1 ∧ Same F (withCodes F H1) := by
  have sub1 : ∀ b u, F b = some u → H1 b = some u := fun b u h => e b u (rl.sub b u h) fun ps z => rl.nt b ps (by rw [h, z])
  have same : Same F (withCodes F H1) := fun b u h => by
    rcases withCodes_or (F := F) (H1 := H1) b with z | ⟨_, z⟩
    · rw [z]; exact h
    · rw [z]; exact sub1 b u h
  have hobj : ∀ (i : Nat) (a : Addr) (so : SO), m[i]? = some a → st[i]? = some so → SR K (withCodes F H1) m H1 a so ∧ ∀ φ, H1 a ≠ some (.ext φ) := fun i a so h1 h2 => by
    have r := rl.obj i a so h1 h2
    cases so with
    | lst ws =>
      obtain ⟨vs, h3, h4⟩ := r
      have h5 := e a _ h3 nofun
      exact ⟨⟨vs, h5, h4.mono same (List.prefix_refl m)⟩, fun φ z => by rw [h5] at z; cases z⟩
    | dic ws =>
      obtain ⟨vs, h3, h4⟩ := r
      have h5 := e a _ h3 nofun
      exact ⟨⟨vs, h5, Paired.mapP h4 fun _ _ ⟨x, y⟩ => ⟨x, y.mono same (List.prefix_refl m)⟩⟩, fun φ z => by rw [h5] at z; cases z⟩
    | dead =>
      obtain ⟨vs, h3⟩ := r
      have h5 := e a _ h3 nofun
      exact ⟨⟨vs, h5⟩, fun φ z => by rw [h5] at z; cases z⟩
    | tab P q =>
      obtain ⟨rfl, r⟩ := r
      obtain ⟨ps, h3, h4, h5⟩ := t (a, q) (tabs_mem h2)
      exact ⟨⟨rfl, ps, h3, h4, fun pos cv hc => let ⟨c, e1, e2⟩ := h5 pos cv hc; ⟨c, e1, withCodes_at e2⟩⟩, fun φ z => by rw [h3] at z; cases z⟩
  have idx : ∀ a ∈ m, ∃ (i : Nat) (so : SO), m[i]? = some a ∧ st[i]? = some so := fun a ha => by
    obtain ⟨i, hi⟩ := List.mem_iff_getElem?.mp ha
    have hl : i < st.length := by rw [← rl.len]; exact (List.getElem?_eq_some_iff.mp hi).1
    exact ⟨i, _, hi, List.getElem?_eq_getElem hl⟩
  refine ⟨⟨fun b u h => ?_, rl.len, rl.nd, fun i a so h1 h2 h3 => ?_, fun a ha => ?_, fun i a so h1 h2 => (hobj i a so h1 h2).1, fun b ps h => ?_⟩, same⟩
  · rcases withCodes_or (F := F) (H1 := H1) b with z | ⟨_, z⟩
    · rw [z] at h; exact sub1 b u h
    · rw [z] at h; exact h
  · rcases withCodes_or (F := F) (H1 := H1) a with z | ⟨⟨q, hq⟩, _⟩
    · rw [z]; exact rl.out i a so h1 h2 h3
    · exact absurd hq ((hobj i a so h1 h2).2 _)
  · obtain ⟨i, so, h1, h2⟩ := idx a ha
    have r := (hobj i a so h1 h2).1
    cases so with
    | lst ws => obtain ⟨vs, h3, _⟩ := r; exact ⟨_, h3⟩
    | dic ws => obtain ⟨vs, h3, _⟩ := r; exact ⟨_, h3⟩
    | dead => obtain ⟨o, h3⟩ := r; exact ⟨_, h3⟩
    | tab P q => obtain ⟨rfl, ps, h3, _⟩ := r; exact ⟨_, h3⟩
  · rcases withCodes_or (F := F) (H1 := H1) b with z | ⟨⟨q, hq⟩, z⟩
    · rw [z] at h; exact rl.nt b ps h
    · rw [z, hq] at h; cases h
end

/-! ### the def that gets it -/
/-- a body run: its end -/
def runFn (n : Nat) (fb : S) (c : Cl) : M W := fun st => match fb (some (.fn c) :: List.replicate (n - 1) none) st with
  | .go (.nx _) st' => .ok (.d .none) st'
  | .go (.rt w) st' => .ok w st'
  | _ => .bad
/-- the def x of one parameter, handed a closure that does t, does gx t -/
structure LamDef (g : Gd) (x a : Str) (gx : M W → M W) : Prop where
  ex : ∃ (ga : Addr) (pg : Arguments) (bg : List Stmt) (sg : Scope) (dV kV doc pm cdv ct oc : Value) (an od : Option Addr) (osl : Array (Option Value)) (Ng : List Str) (fb : Cl → M W → S),
    g.mg x = some (.ref ga) ∧ PySem.W.keepIn g.K (.ref ga) = true ∧ g.K.lookup ga = some ⟨oc, od, .func (PySem.W.fnOf x x pg bg sg dV kV doc pm an cdv ct), osl⟩ ∧ PySem.W.codeIn g.K cdv x = true ∧
    L2.Binds g.K (PySem.W.fnOf x x pg bg sg dV kV doc pm an cdv ct) [a] [] ∧ FnScope Ng [a] sg ∧ Ng[0]? = some a ∧ Vis sg a ∧ (a == ("__debug__" : Str)) = false ∧ (a == ("__classdict__" : Str)) = false ∧ (x == ("__debug__" : Str)) = false ∧
    (∀ (c : Cl) (t : M W), runFn Ng.length (fb c t) c = gx t) ∧
    (∀ (A : Around) (outer : List PySem.Env) (s : Shared) (H : Hp) (c : Cl) (t : M W),
      (∀ (W : WX) (pn : List (Addr × Obj)) (xe : Value → Shared → Prop) (p1 p2 : Pos), Takes ((cxOf C8.CX0 g.P g.w g.K g.mg g.base Ng x sg ga cdv A outer s H C8.E0).tr pn xe) W →
        SE ((cxOf C8.CX0 g.P g.w g.K g.mg g.base Ng x sg ga cdv A outer s H C8.E0).tr pn xe) W (.Call (.Name a p1) [] [] p2) (actF 0 c t)) →
      SSs (cxOf C8.CX0 g.P g.w g.K g.mg g.base Ng x sg ga cdv A outer s H C8.E0).nox Wn bg (fb c t))
/-- x(lambda: body), the lambda's code found in or put into the table at P -/
def lamF (P : Addr) (q : Str) (gx : M W → M W) (fb : Env → M W) : Env → M W := fun ρ st => if (P, q) ∈ tabsOf st then gx (fb ρ) st else .bad
section
variable {X : Cx} {Wx : WX}
theorem takes_lam {A : Around} {outer : List PySem.Env} {s : Shared} {H : Hp} {E : XK} {scope : Scope} {f c' : Addr} : Takes (lamCx X A outer s H E scope f c') (fun c d _ H' => E c d H') :=
  takes_of rfl rfl rfl rfl
/-- a(), in the def that got the closure: what it may let out is told of the very frame -/
theorem pe_actE {Ng : List Str} {qg : Str} {sg : Scope} {g f c' : Addr} {cdg pm ctv : Value} {params : Arguments} {body : Expr} {scope : Scope} {k i : Nat} {a : Str} {pn : List (Addr × Obj)} {xe : Value → Shared → Prop} {W : WX} {t : XK → TE} {p1 p2 : Pos}
    {pins : List (Addr × Obj)} {σ : L2.St} {H : Hp} {s : Shared} (I : Inv X pins σ H s) (L : LamS X.env.scope scope) (hf : s.heap.get? f = some (PySem.W.kla_obj "<lambda>" (X.env.qual ++ "<lambda>") params body scope (cloFrom X.env.cells scope.names []) pm c' ctv)) (hfn : H f = none) (hfr : f ∉ frs X.stack)
    (hbind : bindArgs (PySem.W.kla_fn "<lambda>" (X.env.qual ++ "<lambda>") params body scope (cloFrom X.env.cells scope.names []) pm (.ref c') ctv) ⟨[], []⟩ = pure [])
    (tk : Takes ((cxOf C8.CX0 X.prog X.w X.K X.mg X.base Ng qg sg g cdg X.A X.stack s H C8.E0).tr pn xe) W) (hr : Room (k + 1) (X.A.deeper (envOfC qg sg s.heap.objs.size g cdg)))
    (hbody : ∀ (A : Around) (outer : List PySem.Env) (s : Shared) (H : Hp) (E : XK), Room k (A.deeper (lamEnv X scope s.heap.objs.size f c')) → PE (lamCx X A outer s H E scope f c') body (t E))
    (hN : Ng[i]? = some a) (hv : Vis sg a) (hd : (a == ("__debug__" : Str)) = false) (hcd : (a == ("__classdict__" : Str)) = false) :
    PE ((cxOf C8.CX0 X.prog X.w X.K X.mg X.base Ng qg sg g cdg X.A X.stack s H C8.E0).tr pn xe) (.Call (.Name a p1) [] [] p2)
      (fun σZ HZ Q => σZ[i]? = some (some (.ref f)) ∧ HZ c' = some (CodeO c' (X.env.qual ++ "<lambda>")) ∧ t (fun cls d H' => W cls d σZ H') σ HZ Q) := by
  refine ⟨fun pinsZ sZ σZ HZ Q IZ ⟨hs, hc, ht⟩ => ?_⟩
  refine wpAny_Call_Name_kw (thn ((pe_var (pos := p1) (i := i) hN hv hd hcd).run pinsZ sZ σZ HZ (fun v H1 => v = .ref f ∧ H1 = HZ) IZ ⟨.ref f, hs, rfl, rfl⟩) fun u s1 ⟨v, H1, I1, r1, ev, eH⟩ => ?_)
  subst ev eH
  cases (show u = Value.ref f from r1)
  have hob := I1.base.keep f _ hf hfn hfr (fun z => nomatch (show f ∈ ([] : List Addr) from z))
  refine PySem.W.callWith_F0 ⟨_, _, _, _, hob⟩ ?_
  have un : Un (frs X.stack) [] H H1 s.heap s1.heap := I1.base
  obtain ⟨⟨oc, vs, tt, hoc, hdc, hvc⟩, _, _⟩ := I1.hok c' _ hc
  have rc : codeAny (model X.prog X.w) (X.A.deeper (envOfC qg sg s.heap.objs.size g cdg)) (.call (.ref f) ⟨[], []⟩) (CR (L2.CX X.prog X.w) (envOfC qg sg s.heap.objs.size g cdg :: X.stack) X.prog X.w H1 s1 Q (fun cls d H' => W cls d σZ H')) s1 := by
    refine PySem.W.kla_callFunE hr.depth hob rfl L.co L.gen rfl ⟨c', oc, vs, tt, rfl, hoc, hdc, hvc⟩ ?_
    rw [hbind]
    refine wpAny_pure (wpAny_newFunctionEnv (fun y hy => (L.own y hy).2) (fun y hy => absurd hy (by simp)) (fun h₁ hns hsb => ⟨I1.nolimit.fresh _ hsb, ?_⟩) L.kind)
    have kp : ∀ b o, s1.heap.get? b = some o → h₁.get? b = some o := fun b o e => hsb.extBut b o (Nat.ne_of_lt (Heap.lt_size e)) (Heap.get?_push_of_some _ e)
    refine PySem.W.kla_codeExpr (wpAny_mono ((hbody _ _ s1 H1 (fun cls d H' => W cls d σZ H') (hr.deeper _)).run [] _ _ H1 Q (lam_start2 I L I1.env0 hr.hd un hns kp) ht) (fun v s' hq => ?_) fun e s' hq => hq)
    obtain ⟨w', H', J', rv, q⟩ := hq
    exact ⟨w', H', J'.os, J'.bare, J'.base, J'.hok, rv, q⟩
  refine wpAny_call (codeAny_mono rc fun r s' hq => ?_)
  cases r with
  | error e => exact tk e s' (XE.of_call I1 (fun cls d H' h => h) hq)
  | ok fl =>
    cases fl with
    | ret u => exact I1.after hq
    | next => exact False.elim hq
    | brk => exact False.elim hq
    | cont => exact False.elim hq
theorem envR_fn {g : Gd} {F : Hp} {m : List Addr} {c : Cl} {N : List Str} (h : SlR g F m (.fn c) (.ref c.f)) (hN : 0 < N.length := by assumption) : EnvR g F m (some (.fn c) :: List.replicate (N.length - 1) none) (L2.start N [.ref c.f]) := by
  refine ⟨by unfold L2.start; simp, fun i x e => ?_⟩
  cases i with
  | zero => cases Option.some.inj (Option.some.inj e); exact ⟨_, rfl, h⟩
  | succ i =>
    have e : (List.replicate (N.length - 1) (none : Option Sl))[i]? = some (some x) := e
    rw [List.getElem?_replicate] at e
    split at e <;> cases e
theorem se_lamcall {x a : Str} {gx : M W → M W} {c P : Addr} {k : Nat} {params : Arguments} {body : Expr} {scope : Scope} {p lpos pos : Pos} {fb : Env → M W} (d : LamDef (gd X) x a gx) (hg : Gl X x)
    (TB : TabB X.base X.mg c P) (hcode : X.env.code = .ref c) (hr : Room (k + 2) X.A) (L : LamS X.env.scope scope) (hdef : defaultsOf params X.env = ([], []))
    (hbind : ∀ (q : Str) (cl : List (Str × Addr)) (pm cv ctv : Value), bindArgs (PySem.W.kla_fn "<lambda>" q params body scope cl pm cv ctv) ⟨[], []⟩ = pure [])
    (hbody : ∀ (A : Around) (outer : List PySem.Env) (s : Shared) (H : Hp) (E : XK) (f c' : Addr), Room k (A.deeper (lamEnv X scope s.heap.objs.size f c')) → Takes (lamCx X A outer s H E scope f c') (fun c d _ H' => E c d H') →
      SE (lamCx X A outer s H E scope f c') (fun c d _ H' => E c d H') body fb) :
    SE X Wx (.Call (.Name x p) [.Lambda params body scope lpos] [] pos) (lamF P (X.env.qual ++ "<lambda>") gx fb) := by
  obtain ⟨ga, pg, bg, sg, dV, kV, doc, pm, cdv, ct, oc, an, od, osl, Ng, fbg, hm, hk, lk, hcg, hb, Sg, hN0, hva, hd, hcd, hdb, hgx, hG⟩ := d.ex
  refine ⟨fun pins s σ H Q I h => ?_⟩
  obtain ⟨F, m, st, ρ, er, rl, h⟩ := h
  unfold lamF at h
  have hT : (P, X.env.qual ++ "<lambda>") ∈ tabsOf st := Classical.byContradiction fun z => by rw [if_neg z] at h; exact h
  rw [if_pos hT] at h
  refine wpAny_Call_Name_kw (ld_glob I hg hm ?_ hdb)
  refine PySem.W.callWith_K (h₀ := X.base) I.ok.mod.kin hk ?_ (by rfl) (by rfl)
  show wpAny _ _ (spliced ((false, eval (.Lambda params body scope lpos) X.env) :: backTo pos (starEach [] X.env))) _ _ s
  refine Calls.spliced_cons (lam_make2 I TB hcode hT (fun p hp e => ?_) rl.tabs hdef (L.has I.ok) fun f c' pm' ctv H1 s' I1 eN T1 hf hfn hfr hco => ?_)
  · obtain ⟨P', q'⟩ := p
    cases (show P' = P from e)
    exact rl.tab_one hT hp
  refine Calls.spliced_nil ⟨I1.kIn, ?_⟩
  obtain ⟨rl1, s1⟩ := rl.made eN T1
  have er1 := er.mono s1 (List.prefix_refl m)
  have aft : After X.K X.mg (withCodes F H1) m (fun c d H' => Wx c d σ H') (gx (fb ρ) st) (fun w F' m' H' => ∀ v, WR X.K F' m' w v → Q v H') := After.mono s1 (List.prefix_refl m) h fun _ _ _ _ _ _ q => q
  have rc : codeAny (model X.prog X.w) X.A (.call (.ref ga) ⟨[.ref f], []⟩) (CR C8.CX0 X.stack X.prog X.w H1 s' Q C8.E0) s' := by
    refine run_ofS (N := Ng) (ps := [a]) (us := [.ref f]) (vs := [.ref f]) lk hcg Sg hr I1.env0 (hb s' [.ref f] I1.kIn rfl) (.cons rfl .nil) rfl fun hr' => ?_
    let cl : Cl := ⟨f, withCodes F H1, m⟩
    have body := hG X.A X.stack s' H1 cl (fb ρ) (fun W pn xe p1 p2 tk => PE.imp (pe_actE (i := 0) (t := fun E => tM X (fun c d _ H' => E c d H') fb) I1 L hf hfn hfr (hbind _ _ _ _ _) tk hr' (fun A outer s H E hr2 => hbody A outer s H E f c' hr2 takes_lam) hN0 hva hd hcd) fun σZ HZ Q' h2 => ?_)
    · refine ⟨_, PSs.nox body, withCodes F H1, m, st, some (.fn cl) :: List.replicate (Ng.length - 1) none, ?_, rl1, ?_⟩
      · exact envR_fn ⟨rfl, Same.refl _, List.prefix_refl _⟩ (List.getElem?_eq_some_iff.mp hN0).1
      · have e1 : runFn Ng.length (fbg cl (fb ρ)) cl st = gx (fb ρ) st := by rw [hgx]
        unfold runFn at e1
        cases z : fbg cl (fb ρ) (some (.fn cl) :: List.replicate (Ng.length - 1) none) st with
        | go fl st2 =>
          rw [z] at e1
          cases fl with
          | nx ρ' => rw [← e1] at aft; exact fun F' m' H' σ' s' p' r' er' => aft F' m' H' s' p' r' _ .non
          | rt v => rw [← e1] at aft; exact fun F' m' H' u s' p' r' hu => aft F' m' H' s' p' r' u hu
          | bk ρ' => rw [← e1] at aft; exact aft.elim
          | ct ρ' => rw [← e1] at aft; exact aft.elim
        | ex y ρ' st2 => rw [z] at e1; rw [← e1] at aft; exact aft.elim
        | bad => rw [z] at e1; rw [← e1] at aft; exact aft.elim
    · obtain ⟨F2, m2, st2, ρ2, er2, rl2, a2⟩ := h2
      have h0 : ρ2[0]? = some (some (.fn cl)) := Classical.byContradiction fun z => by
        have : actF 0 cl (fb ρ) ρ2 = bad := by
          unfold actF
          split
          · rename_i c2 h3
            split
            · rename_i e; rw [e] at h3; exact absurd h3 z
            · rfl
          · rfl
        rw [this] at a2
        exact a2
      rw [actF_at h0] at a2
      obtain ⟨v, hv, e, sF, pm⟩ := er2.at_ 0 _ h0
      have e : v = .ref f := e
      subst e
      exact ⟨hv, rl2.sub _ _ (sF _ _ (withCodes_at hco)), F2, m2, st2, ρ, er1.mono sF pm, rl2, a2⟩
  refine wpAny_call (codeAny_mono rc fun r s2 hq => ?_)
  cases r with
  | error e => exact (show False from hq).elim
  | ok fl =>
    cases fl with
    | ret u => exact I1.after hq
    | next => exact False.elim hq
    | brk => exact False.elim hq
    | cont => exact False.elim hq
end
end Ev
end
section
set_option Elab.async false
set_option linter.all false
set_option maxRecDepth 100000
set_option autoImplicit false
namespace Ev
open PySem PySem.Spec PyProof.Rows L2 LamX
/-! ## the script -/
section
variable {X : Cx} {Wx : WX} {x : Str} {p p1 p2 pos : Pos} {i k j : Nat}
theorem dq_ints {K : PySem.W.Frag} {F : Hp} : ∀ (ns : List Int), DqAll K F (ns.map V.int) (ns.map .int)
  | [] => .nil
  | _ :: ns => .cons (.int _) (dq_ints ns)
def scrF {α : Type} (i : Nat) (fn : List Int → M α) : Env → M α := fun ρ => match ρ[i]? with
  | some (some (.scr ns)) => fn ns
  | _ => bad
theorem scr_at {α : Type} {g : Gd} {F : Hp} {m : List Addr} {ρ : Env} {σ : L2.St} {i : Nat} {fn : List Int → M α} (er : EnvR g F m ρ σ) {st : Sto} {mg : Str → Option Value} {E : XK} {Q : α → Hp → List Addr → Hp → Prop} (h : After g.K mg F m E (scrF i fn ρ st) Q) :
    ∃ ns a, σ[i]? = some (some (.ref a)) ∧ SqL g.K F a (ns.map V.int) ∧ After g.K mg F m E (fn ns st) Q := by
  unfold scrF at h
  cases hn : ρ[i]? with
  | none => rw [hn] at h; exact h.elim
  | some o =>
    rw [hn] at h
    cases o with
    | none => exact h.elim
    | some sl =>
      cases sl with
      | w _ => exact h.elim
      | fn _ => exact h.elim
      | scr ns =>
        obtain ⟨v, h1, a, rfl, h2⟩ := er.at_ i _ hn
        exact ⟨ns, a, h1, h2, h⟩
theorem seqL_sub {K : PySem.W.Frag} {F H : Hp} (s : Same F H) {a : Addr} {xs : List V} (h : SqL K F a xs) : SqL K H a xs := seqL_mono s h
/-- list(script) -/
theorem se_listScr (i : Nat) (hN : X.N[i]? = some x := by rfl) (hv : Vis X.env.scope x := by first | exact Or.inl rfl | exact Or.inr (Or.inl rfl) | exact Or.inr (Or.inr rfl)) (hg : Gl X "list") (hm : X.mg "list" = none) (hd : (x == ("__debug__" : Str)) = false := by decide)
    (hcd : (x == ("__classdict__" : Str)) = false := by decide) (hs : starEach [.Name x p1] X.env = [(false, eval (.Name x p1) X.env)] := by rfl) :
    SE X Wx (.Call (.Name "list" p) [.Name x p1] [] pos) (scrF i fun ns => ret (.d (.list (ns.map .int)))) :=
  PE.imp (pe_callTy (T := "list") (r := fun vs H Q => ∃ (a : Addr) (ns : List Int), vs = [V.ref a] ∧ SqL X.K H a (ns.map V.int) ∧ ∀ p, H p = none → Q (.ref p) (upd H p (.lst (ns.map V.int)))) (fun pins s σ H vs us Q I r ⟨a, ns, e, hs, q⟩ => by
      subst e
      exact call_list_of pins s σ H _ us Q I r ⟨a, _, rfl, .inl hs, q⟩) hg hm boot_list (pa_cons (pe_var hN hv hd hcd) pa_nil hs) (he := hs)) fun σ H Q h => by
    obtain ⟨F, m, st, ρ, er, rl, h⟩ := h
    obtain ⟨ns, a, h1, h2, h3⟩ := scr_at er h
    refine ⟨_, h1, a, ns, rfl, seqL_mono rl.sub h2, fun p hp => ?_⟩
    exact rM_lst (fun F' m' H' v s p r hv => h3 F' m' H' s p r v hv) rl hp (dq_ints ns)
end
/-- x(script) -/
structure DefS (g : Gd) (x : Str) (k : Nat) (fn : List Int → M W) : Prop where
  ex : ∃ f fd ps, g.mg x = some (.ref f) ∧ PySem.W.keepIn g.K (.ref f) = true ∧ L2.Binds g.K fd ps [] ∧ ps.length = 1 ∧ FnOk g.P g.w g.K g.mg g.base (L2.CX g.P g.w) k f fd ps
    (fun vs H Q E => vs.length = 1 ∧ ∃ F m st a ns, vs = [.ref a] ∧ SqL g.K F a (ns.map V.int) ∧ Rel g.K F m st H ∧ After g.K g.mg F m E (fn ns st) (fun w F' m' H' => ∀ v, WR g.K F' m' w v → Q v H'))
section
variable {X : Cx} {Wx : WX} {x y : Str} {p p1 pos : Pos} {i k j : Nat} {fn : List Int → M W}
theorem se_userScr (i : Nat) (d : DefS (gd X) x k fn) (hr : Room j X.A) (hg : Gl X x) (tk : Takes X Wx) (hN : X.N[i]? = some y := by rfl) (hv : Vis X.env.scope y := by first | exact Or.inl rfl | exact Or.inr (Or.inl rfl) | exact Or.inr (Or.inr rfl))
    (hk : k ≤ j := by decide) (hdb : (x == ("__debug__" : Str)) = false := by decide) (hd : (y == ("__debug__" : Str)) = false := by decide) (hcd : (y == ("__classdict__" : Str)) = false := by decide)
    (he : starEach [.Name y p1] X.env = (false, eval (.Name y p1) X.env) :: starEach [] X.env := by rfl) (hpl : (backTo pos (starEach [] X.env)).any (·.1) = false := by rfl) : SE X Wx (.Call (.Name x p) [.Name y p1] [] pos) (scrF i fn) := by
  obtain ⟨f, fd, ps, hm, hkp, hb, hl, F⟩ := d.ex
  refine PE.imp (pe_callS F (hr.mono hk) hg hm hkp hb (fun σ => passAt tk σ) (pa_cons (pe_var hN hv hd hcd) pa_nil he) hdb he hpl) fun σ H Q h => ?_
  obtain ⟨F, m, st, ρ, er, rl, h⟩ := h
  obtain ⟨ns, a, h1, h2, h3⟩ := scr_at er h
  exact ⟨_, h1, rfl, F, m, st, a, ns, rfl, h2, rl, h3⟩
end
/-! ## the module's names -/
/-- x is this constant -/
def Con (g : Gd) (x : Str) (d : PyData) : Prop := ∃ u v, g.mg x = some u ∧ RelV v u ∧ ∀ F, Dq g.K F v d
section
variable {X : Cx} {Wx : WX} {x : Str} {pos p1 : Pos} {d : PyData}
theorem se_con (c : Con (gd X) x d) (hg : Gl X x) (hd : (x == ("__debug__" : Str)) = false := by decide) : SE X Wx (.Name x pos) (fun _ => ret (.d d)) := by
  obtain ⟨u, v, hm, r, hv⟩ := c
  refine PE.imp (pe_glob hg hm r hd) fun σ H Q h => ?_
  obtain ⟨F, m, st, ρ, er, rl, h⟩ := h
  exact After.here h rl _ (hv F)
end
/-- the dict of the top, texts to data -/
structure Tbl (g : Gd) (x : Str) (kvs : List (Str × PyData)) : Prop where
  ex : ∃ a es n, g.mg x = some (.ref a) ∧ KDict g.K g.w a es n ∧ ∀ z, match kvs.lookup z with
    | none => PySem.W.nsIn g.K a z = some none
    | some d => ∃ u v, PySem.W.nsIn g.K a z = some (some u) ∧ RelV v u ∧ ∀ F, Dq g.K F v d
def inT (kvs : List (Str × PyData)) (_ : Sto) : W → Option W
  | .d (.str z) => some (.d (.bool (kvs.lookup z).isSome))
  | _ => none
def notInT (kvs : List (Str × PyData)) (_ : Sto) : W → Option W
  | .d (.str z) => some (.d (.bool (!(kvs.lookup z).isSome)))
  | _ => none
def ixT (kvs : List (Str × PyData)) (_ : Sto) : W → Option W
  | .d (.str z) => (kvs.lookup z).map .d
  | _ => none
section
variable {X : Cx} {Wx : WX} {x : Str} {pos p1 : Pos} {e : Expr} {f : Env → M W} {kvs : List (Str × PyData)}
theorem tM_inT {a : Addr} {es : Array DictEntry} {n : Nat} (D : KDict X.K X.w a es n) (ht : ∀ z, match kvs.lookup z with
    | none => PySem.W.nsIn X.K a z = some none
    | some d => ∃ u v, PySem.W.nsIn X.K a z = some (some u) ∧ RelV v u ∧ ∀ F, Dq X.K F v d) {σ : L2.St} {H : Hp} {Q : VK} (h : tM X Wx (op1 (inT kvs) f) σ H Q) :
    tOp (fun x y H Q => ∃ (z : Str) (r : Option Value), x = .str z ∧ y = .ref a ∧ PySem.W.nsIn X.K a z = some r ∧ Q (.bl r.isSome) H) (tM X Wx f) (tC (.ref a)) σ H Q := by
  obtain ⟨F, m, st, ρ, er, rl, h⟩ := h
  refine ⟨F, m, st, ρ, er, rl, After.mono (Same.refl F) (List.prefix_refl m) h.bnd fun w F1 m1 H1 s1 p1 ⟨st1, _, _, rl1, h1⟩ v r1 => ?_⟩
  obtain ⟨w', e1, q⟩ := h1.liftO
  have ⟨z, ez⟩ : ∃ z, w = .d (.str z) := by
    cases w with
    | r i => cases e1
    | d y => cases y <;> first | (cases e1; done) | exact ⟨_, rfl⟩
  subst ez
  · skip
    cases Option.some.inj e1
    have hz := ht z
    cases hl : kvs.lookup z with
    | none => rw [hl] at hz q; exact ⟨z, none, dq_str r1, rfl, hz, q F1 m1 H1 (Same.refl _) (List.prefix_refl _) rl1 _ (.bl _)⟩
    | some d =>
      rw [hl] at hz q
      obtain ⟨u, v', h3, _⟩ := hz
      exact ⟨z, some u, dq_str r1, rfl, h3, q F1 m1 H1 (Same.refl _) (List.prefix_refl _) rl1 _ (.bl _)⟩
theorem se_inT (t : Tbl (gd X) x kvs) (he : SE X Wx e f) (hg : Gl X x) (hm : behindInMarks .In (.Name x p1) = false := by rfl) (hd : (x == ("__debug__" : Str)) = false := by decide) : SE X Wx (.Compare e [.In] [.Name x p1] pos) (op1 (inT kvs) f) := by
  obtain ⟨a, es, n, hma, D, ht⟩ := t.ex
  exact PE.imp (pe_cmpR (op_in_kd D) he (pe_glob hg hma (v := .ref a) rfl hd) hm) fun σ H Q h => tM_inT D ht h
theorem sb_inT (t : Tbl (gd X) x kvs) (he : SE X Wx e f) (hg : Gl X x) (hm : behindInMarks .In (.Name x p1) = false := by rfl) (hd : (x == ("__debug__" : Str)) = false := by decide) : SB X Wx (.Compare e [.In] [.Name x p1] pos) (toB (op1 (inT kvs) f)) := by
  obtain ⟨a, es, n, hma, D, ht⟩ := t.ex
  exact PT.imp (pt_cmpR (op_in_kd D) he (pe_glob hg hma (v := .ref a) rfl hd) hm) fun σ H Q h => tM_inT D ht (tM_toB h)
theorem tM_notInT {a : Addr} {es : Array DictEntry} {n : Nat} (D : KDict X.K X.w a es n) (ht : ∀ z, match kvs.lookup z with
    | none => PySem.W.nsIn X.K a z = some none
    | some d => ∃ u v, PySem.W.nsIn X.K a z = some (some u) ∧ RelV v u ∧ ∀ F, Dq X.K F v d) {σ : L2.St} {H : Hp} {Q : VK} (h : tM X Wx (op1 (notInT kvs) f) σ H Q) :
    tOp (fun x y H Q => ∃ (z : Str) (r : Option Value), x = .str z ∧ y = .ref a ∧ PySem.W.nsIn X.K a z = some r ∧ Q (.bl (!r.isSome)) H) (tM X Wx f) (tC (.ref a)) σ H Q := by
  obtain ⟨F, m, st, ρ, er, rl, h⟩ := h
  refine ⟨F, m, st, ρ, er, rl, After.mono (Same.refl F) (List.prefix_refl m) h.bnd fun w F1 m1 H1 s1 p1 ⟨st1, _, _, rl1, h1⟩ v r1 => ?_⟩
  obtain ⟨w', e1, q⟩ := h1.liftO
  have ⟨z, ez⟩ : ∃ z, w = .d (.str z) := by
    cases w with
    | r i => cases e1
    | d y => cases y <;> first | (cases e1; done) | exact ⟨_, rfl⟩
  subst ez
  · skip
    cases Option.some.inj e1
    have hz := ht z
    cases hl : kvs.lookup z with
    | none => rw [hl] at hz q; exact ⟨z, none, dq_str r1, rfl, hz, q F1 m1 H1 (Same.refl _) (List.prefix_refl _) rl1 _ (.bl _)⟩
    | some d =>
      rw [hl] at hz q
      obtain ⟨u, v', h3, _⟩ := hz
      exact ⟨z, some u, dq_str r1, rfl, h3, q F1 m1 H1 (Same.refl _) (List.prefix_refl _) rl1 _ (.bl _)⟩
theorem se_notInT (t : Tbl (gd X) x kvs) (he : SE X Wx e f) (hg : Gl X x) (hm : behindInMarks .NotIn (.Name x p1) = false := by rfl) (hd : (x == ("__debug__" : Str)) = false := by decide) : SE X Wx (.Compare e [.NotIn] [.Name x p1] pos) (op1 (notInT kvs) f) := by
  obtain ⟨a, es, n, hma, D, ht⟩ := t.ex
  exact PE.imp (pe_cmpR (op_notIn_kd D) he (pe_glob hg hma (v := .ref a) rfl hd) hm) fun σ H Q h => tM_notInT D ht h
theorem sb_notInT (t : Tbl (gd X) x kvs) (he : SE X Wx e f) (hg : Gl X x) (hm : behindInMarks .NotIn (.Name x p1) = false := by rfl) (hd : (x == ("__debug__" : Str)) = false := by decide) : SB X Wx (.Compare e [.NotIn] [.Name x p1] pos) (toB (op1 (notInT kvs) f)) := by
  obtain ⟨a, es, n, hma, D, ht⟩ := t.ex
  exact PT.imp (pt_cmpR (op_notIn_kd D) he (pe_glob hg hma (v := .ref a) rfl hd) hm) fun σ H Q h => tM_notInT D ht (tM_toB h)
theorem se_ixT (t : Tbl (gd X) x kvs) (he : SE X Wx e f) (hg : Gl X x) (hs : PlainIx e) (hd : (x == ("__debug__" : Str)) = false := by decide) : SE X Wx (.Subscript (.Name x p1) e pos) (op1 (ixT kvs) f) := by
  obtain ⟨a, es, n, hma, D, ht⟩ := t.ex
  refine PE.imp (pe_ix ix_kdict (pe_glob hg hma (v := .ref a) rfl hd) he hs) fun σ H Q h => ?_
  obtain ⟨F, m, st, ρ, er, rl, h⟩ := h
  refine ⟨F, m, st, ρ, er, rl, After.mono (Same.refl F) (List.prefix_refl m) h.bnd fun w F1 m1 H1 s1 p1 ⟨st1, _, _, rl1, h1⟩ v r1 => ?_⟩
  obtain ⟨w', e1, q⟩ := h1.liftO
  have ⟨z, ez⟩ : ∃ z, w = .d (.str z) := by
    cases w with
    | r i => cases e1
    | d y => cases y <;> first | (cases e1; done) | exact ⟨_, rfl⟩
  subst ez
  · skip
    have e1 : (kvs.lookup z).map W.d = some w' := e1
    have hz := ht z
    cases hl : kvs.lookup z with
    | none => rw [hl] at e1; cases e1
    | some d =>
      rw [hl] at hz e1
      cases Option.some.inj e1
      obtain ⟨u, v', h3, h4, h5⟩ := hz
      exact ⟨a, z, v', rfl, dq_str r1, ⟨es, n, u, D.at_, D.lit, h3, h4⟩, q F1 m1 H1 (Same.refl _) (List.prefix_refl _) rl1 _ (h5 F1)⟩
end
end Ev
end
section
set_option Elab.async false
set_option linter.all false
set_option maxRecDepth 100000
set_option autoImplicit false
namespace Ev
open PySem PySem.Spec PyProof.Rows L2 LamX
/-! ## the ground: what the head leaves -/
structure Gnd (fa : List He.Fa) (fn : List He.DefD) (ts : List He.Tab) (tf : List He.Defn) (ex : PySem.W.Frag → Bool) (g : Gd) : Prop where
  ex : ∃ h, g.K.In h ∧ h.Ns mainGlobals g.mg ∧ He.SaysX fa fn ts tf ex g.w h g.K
  tab : ∀ p ∈ tf, TabB g.base g.mg (He.cT g.K p).1 (He.cT g.K p).2
section
variable {fa : List He.Fa} {fn : List He.DefD} {ts : List He.Tab} {tf : List He.Defn} {ex : PySem.W.Frag → Bool} {g : Gd}
theorem Gnd.free (c : Gnd fa fn ts tf ex g) (i : Nat) {x : Str} (h : fa[i]? = some (.free x) := by rfl) : g.mg x = none := by
  obtain ⟨hp, X, G, s⟩ := c.ex
  exact He.free_ok X G (s.t.d.fact i h)
theorem Gnd.glo (c : Gnd fa fn ts tf ex g) (i : Nat) {x : Str} (h : fa[i]? = some (.glo x) := by rfl) : g.mg x = some (.ref (He.ga g.K x)) := by
  obtain ⟨hp, X, G, s⟩ := c.ex
  exact He.glo_ok X G (s.t.d.fact i h)
theorem Gnd.int (c : Gnd fa fn ts tf ex g) (i : Nat) {x : Str} {n : Int} (h : fa[i]? = some (.int x n) := by rfl) : Con g x (.int n) := by
  obtain ⟨hp, X, G, s⟩ := c.ex
  obtain ⟨t, e⟩ := He.int_ok X G (s.t.d.fact i h)
  exact ⟨_, .int n, e, ⟨t, rfl⟩, fun F => .int n⟩
theorem Gnd.str (c : Gnd fa fn ts tf ex g) (i : Nat) {x z : Str} (h : fa[i]? = some (.str x z) := by rfl) : Con g x (.str z) := by
  obtain ⟨hp, X, G, s⟩ := c.ex
  obtain ⟨t, e⟩ := He.str_ok X G (s.t.d.fact i h)
  exact ⟨_, .str z, e, ⟨t, rfl⟩, fun F => .str z⟩
theorem Gnd.more (c : Gnd fa fn ts tf ex g) : ex g.K = true := let ⟨_, _, _, s⟩ := c.ex; s.more
/-- a tuple of the top, of numbers and texts -/
def dvD : He.Dv → Option PyData
  | .int i => some (.int i)
  | .str x => some (.str x)
  | .bl b => some (.bool b)
  | .non => some .none
  | _ => none
def dvsD : List He.Dv → Option (List PyData)
  | [] => some []
  | d :: r => (dvD d).bind fun x => (dvsD r).map (x :: ·)
theorem dvD_ok {K : PySem.W.Frag} {F : Hp} {d : He.Dv} {x : PyData} (h : dvD d = some x) : Dq K F (d.v K) x := by
  cases d <;> first | (cases h; done) | (cases Option.some.inj h; first | exact .int _ | exact .str _ | exact .bl _ | exact .non)
theorem dvsD_ok {K : PySem.W.Frag} {F : Hp} : ∀ {ds : List He.Dv} {xs : List PyData}, dvsD ds = some xs → DqAll K F (ds.map (He.Dv.v K)) xs
  | [], xs, h => by cases Option.some.inj h; exact .nil
  | d :: r, xs, h => by
    have h : (dvD d).bind (fun x => (dvsD r).map (x :: ·)) = some xs := h
    cases e : dvD d with
    | none => rw [e] at h; cases h
    | some x =>
      rw [e] at h
      have h : (dvsD r).map (x :: ·) = some xs := h
      cases e2 : dvsD r with
      | none => rw [e2] at h; cases h
      | some ys =>
        rw [e2] at h
        cases Option.some.inj h
        exact .cons (dvD_ok e) (dvsD_ok e2)
theorem Gnd.tup (c : Gnd fa fn ts tf ex g) (i : Nat) {x : Str} {ds : List He.Dv} {xs : List PyData} (h : fa[i]? = some (.glo x)) (ht : He.tupB g.K x ds = true) (hd : dvsD ds = some xs) : Con g x (.tuple xs) :=
  ⟨_, .ref (He.ga g.K x), c.glo i h, rfl, fun F => .tup (He.tupB_ok ht F) (dvsD_ok hd)⟩
theorem nsIn_keys {K : PySem.W.Frag} {P : Params} {a : Addr} {ks : List Str} (h : He.dicW K a = some (He.keysIn P ks)) (z : Str) (hz : z ∉ ks) : PySem.W.nsIn K a z = some none := by
  unfold He.dicW at h
  unfold PySem.W.nsIn
  cases q : K.lookup a with
  | none => rw [q] at h; cases h
  | some o =>
    obtain ⟨oc, od, dt, osl⟩ := o
    rw [q] at h
    cases oc with
    | type cn =>
      cases od with
      | some _ => cases dt <;> cases h
      | none =>
        cases dt with
        | dict es n =>
          dsimp only at h ⊢
          split at h
          · have h := Option.some.inj h
            have hk : ∀ e ∈ es.toList, ∃ k t, e.key = .str k t ∧ k ∈ ks := fun e he => by
              have m : He.keyOf e ∈ He.keysIn P ks := h ▸ List.mem_map.mpr ⟨e, he, rfl⟩
              obtain ⟨k, hk, ek⟩ := List.mem_map.mp m
              unfold He.keyOf at ek
              cases ey : e.key with
              | str k' t => rw [ey] at ek; exact ⟨k', t, rfl, by rw [← (Prod.mk.inj (Option.some.inj ek)).1]; exact hk⟩
              | _ => rw [ey] at ek; cases ek
            have h1 : es.toList.find? (fun e => e.key.isStr z) = none := List.find?_eq_none.mpr fun e he => by
              obtain ⟨k, t, ek, hk'⟩ := hk e he
              rw [ek]
              intro e2
              have : k = z := by simpa [Value.isStr] using e2
              exact hz (this ▸ hk')
            rw [h1]
            have h2 : es.toList.any (·.refKey) = false := List.any_eq_false.mpr fun e he => by
              obtain ⟨k, t, ek, _⟩ := hk e he
              simp [DictEntry.refKey, ek]
            rw [h2]
            rfl
          · cases h
        | _ => cases h
    | _ => cases od <;> cases dt <;> cases h
theorem lookup_none {α : Type} : ∀ {l : List (Str × α)} {z : Str}, l.lookup z = none → z ∉ l.map (·.1)
  | [], _, _ => by simp
  | (k, a) :: l, z, h => by
    have h : (match z == k with | true => some a | false => l.lookup z) = none := h
    cases e : z == k with
    | true => rw [e] at h; cases h
    | false =>
      rw [e] at h
      simp only [List.map_cons, List.mem_cons, not_or]
      exact ⟨fun c => by rw [c] at e; simp at e, lookup_none h⟩
theorem lookup_some {α : Type} : ∀ {l : List (Str × α)} {z : Str} {a : α}, l.lookup z = some a → (z, a) ∈ l
  | [], _, _, h => by cases h
  | (k, b) :: l, z, a, h => by
    have h : (match z == k with | true => some b | false => l.lookup z) = some a := h
    cases e : z == k with
    | true => rw [e] at h; cases Option.some.inj h; rw [eq_of_beq e]; exact List.mem_cons_self
    | false => rw [e] at h; exact List.mem_cons_of_mem _ (lookup_some h)
/-- a table of the top: places in ts, fa; its values -/
theorem Gnd.tbl (c : Gnd fa fn ts tf ex g) (i j : Nat) {x : Str} {kvs : List (Str × He.Dv)} {kds : List (Str × PyData)} (h : fa[j]? = some (.glo x)) (ht : ts[i]? = some (fun K => He.ga K x, kvs.map (·.1)))
    (hv : He.valsB g.K (He.ga g.K x) kvs = true) (hd : kds = kvs.filterMap fun q => (dvD q.2).map fun d => (q.1, d)) (ha : (kvs.all fun q => (dvD q.2).isSome) = true) : Tbl g x kds := by
  obtain ⟨hp, X, G, s⟩ := c.ex
  have e : ts.map (fun t => He.dicW g.K (t.1 g.K)) = ts.map fun t => some (He.keysIn g.w.params t.2) := congrArg (fun z : He.AlT => z.2) s.t
  have e2 : (ts.map fun t => He.dicW g.K (t.1 g.K))[i]? = (ts.map fun t => some (He.keysIn g.w.params t.2))[i]? := by rw [e]
  rw [List.getElem?_map, List.getElem?_map, ht] at e2
  have e3 : He.dicW g.K (He.ga g.K x) = some (He.keysIn g.w.params (kvs.map (·.1))) := Option.some.inj e2
  obtain ⟨es, n, D⟩ := He.dicW_ok e3
  have hk : kds.map (·.1) = kvs.map (·.1) := by
    rw [hd]
    clear hd hv ht e2 e3 D
    induction kvs with
    | nil => rfl
    | cons q l ih =>
      have ⟨a1, a2⟩ := He.ba ha
      obtain ⟨d, ed⟩ := Option.isSome_iff_exists.mp a1
      rw [List.filterMap_cons, ed]
      show q.1 :: _ = q.1 :: _
      rw [ih a2]
  refine ⟨He.ga g.K x, es, n, c.glo j h, D, fun z => ?_⟩
  cases hl : kds.lookup z with
  | none => exact nsIn_keys e3 z (hk ▸ lookup_none hl)
  | some d =>
    have m := lookup_some hl
    rw [hd] at m
    obtain ⟨q, hq, eq⟩ := List.mem_filterMap.mp m
    cases e5 : dvD q.2 with
    | none => rw [e5] at eq; cases eq
    | some d' =>
      rw [e5] at eq
      cases Option.some.inj eq
      obtain ⟨u, h1, h2⟩ := He.valsB_ok hv hq
      exact ⟨u, q.2.v g.K, h1, h2, fun F => dvD_ok e5⟩
/-- a def of the top -/
structure FnAt (g : Gd) (x : Str) (args : Arguments) (body : List Stmt) (scope : Scope) : Prop where
  mg : g.mg x = some (.ref (He.ga g.K x))
  ex : ∃ fd, FunD g.K x x args body scope [] [] (He.ga g.K x) fd
theorem Gnd.fnAt (c : Gnd fa fn ts tf ex g) (i j : Nat) {x : Str} {args : Arguments} {body : List Stmt} {scope : Scope} (h : fn[i]? = some ⟨(x, none), x, x, args, body, scope, [], []⟩ := by rfl) (hj : fa[j]? = some (.glo x) := by rfl) : FnAt g x args body scope := by
  obtain ⟨hp, X, G, s⟩ := c.ex
  obtain ⟨fd, F⟩ := s.t.d.def_ i h
  exact ⟨He.glo_ok X G (s.t.d.fact j hj), fd, F⟩
end
/-- a def's parameters are bound one by one -/
def BindsAll (x : Str) (args : Arguments) (body : List Stmt) (scope : Scope) (ps : List Str) : Prop :=
  ∀ (kV doc pm : Value) (an : Option Addr) (cdv ct : Value) (us : List Value), us.length = ps.length → bindArgs (PySem.W.fnOf x x args body scope .none kV doc pm an cdv ct) ⟨us, []⟩ = pure (ps.zip us)
section
variable {g : Gd} {x : Str} {args : Arguments} {body : List Stmt} {scope : Scope} {N ps : List Str} {k : Nat} {fb : S}
abbrev cxD (g : Gd) (x : Str) (scope : Scope) (N : List Str) (f : Addr) (cdv : Value) (A : Around) (outer : List PySem.Env) (s : Shared) (H : Hp) (E : XK) : Cx := cxOf (L2.CX g.P g.w) g.P g.w g.K g.mg g.base N x scope f cdv A outer s H E
abbrev WxE (E : XK) : WX := fun c d _ H' => E c d H'
theorem takesD {f : Addr} {cdv : Value} {A : Around} {outer : List PySem.Env} {s : Shared} {H : Hp} {E : XK} : Takes (cxD g x scope N f cdv A outer s H E) (WxE E) := takes_of rfl rfl rfl rfl
theorem passD {f : Addr} {cdv : Value} {A : Around} {outer : List PySem.Env} {s : Shared} {H : Hp} {E : XK} : PassesOwn (model g.P g.w) (cxD g x scope N f cdv A outer s H E).A (cxD g x scope N f cdv A outer s H E).env (cxD g x scope N f cdv A outer s H E).xe := passes_of rfl
/-- the body's derivation, at every call -/
def Does (g : Gd) (x : Str) (body : List Stmt) (scope : Scope) (N : List Str) (k : Nat) (fb : S) : Prop :=
  ∀ (f : Addr) (cdv : Value) (A : Around) (outer : List PySem.Env) (s : Shared) (H : Hp) (E : XK), Room k (cxD g x scope N f cdv A outer s H E).A → cdv = .ref (He.codeOf g.K (x, none)) →
    SSs (cxD g x scope N f cdv A outer s H E) (WxE E) body fb
theorem FnAt.code (F : FnAt g x args body scope) {CX : CXT} {sp : Sp} (S : FnScope N ps scope) (len : ∀ vs H Q E, sp vs H Q E → vs.length = ps.length)
    (hb : ∀ (cdv : Value) (A : Around) (outer : List PySem.Env) (s : Shared) (H : Hp) (vs : List V) (Q : VK) (E : XK), Room k (A.deeper (envOfC x scope s.heap.objs.size (He.ga g.K x) cdv)) → cdv = .ref (He.codeOf g.K (x, none)) → sp vs H Q E →
      ∃ t, PSs (cxOf CX g.P g.w g.K g.mg g.base N x scope (He.ga g.K x) cdv A outer s H E) body t ∧ t { nx := fun _ H' => Q .non H', rt := Q } (L2.start N vs) H) : ∃ fd, FunD g.K x x args body scope [] [] (He.ga g.K x) fd ∧ FnOk g.P g.w g.K g.mg g.base CX (k + 1) (He.ga g.K x) fd ps sp := by
  obtain ⟨fd, F⟩ := F.ex
  obtain ⟨oc, od, dV, kV, doc, pm, an, cdv, ct, osl, rfl, lk, hcd, hD, hK⟩ := id F.ex
  obtain ⟨c, rfl⟩ := He.codeIn_ref hcd
  have ec : He.codeOf g.K (x, none) = c := He.codeOf_eq (p := (x, none)) lk rfl
  exact ⟨_, F, fn_of lk hcd S len fun A outer s H vs Q E hr hsp => hb _ A outer s H vs Q E hr (by rw [ec]) hsp⟩
theorem runB_end {F : Hp} {m : List Addr} {st : Sto} {E : XK} {Q : VK} {ρ : Env} {fb : S} (h : After g.K g.mg F m E (match fb ρ st with
    | .go (.nx _) st' => .ok (.d .none) st'
    | .go (.rt w) st' => .ok w st'
    | .ex x _ st' => .ex x st'
    | _ => R.bad) (fun w F' m' H' => ∀ v, WR g.K F' m' w v → Q v H')) : AfterS g F m (WxE E) (fb ρ st) { nx := fun _ H' => Q .non H', rt := Q } := by
  cases z : fb ρ st with
  | go fl st2 =>
    rw [z] at h
    cases fl with
    | nx ρ' => exact fun F' m' H' σ' s' p' r' er' => h F' m' H' s' p' r' _ .non
    | rt v => exact fun F' m' H' u s' p' r' hu => h F' m' H' s' p' r' u hu
    | bk ρ' => exact h.elim
    | ct ρ' => exact h.elim
  | ex y ρ' st2 => rw [z] at h; exact fun F' m' H' σ' c d s' p' r' er' e' => h F' m' H' c d s' p' r' e'
  | bad => rw [z] at h; exact h
theorem mkDef (F : FnAt g x args body scope) (S : FnScope N ps scope) (bd : BindsAll x args body scope ps) (hb : Does g x body scope N k fb) : Def g x (k + 1) ps.length (runB N.length fb) := by
  obtain ⟨fd, FD, ok⟩ := F.code (CX := L2.CX g.P g.w) (k := k) (sp := spM g ps.length (runB N.length fb)) S (fun vs H Q E h => h.1) fun cdv A outer s H vs Q E hr hc h => ⟨_, hb _ cdv A outer s H E hr hc, by
    obtain ⟨_, F1, m, st1, ws, r, rl, h⟩ := h
    exact ⟨F1, m, st1, startE N.length ws, envR_start r, rl, runB_end h⟩⟩
  exact ⟨_, fd, ps, F.mg, FD.kp, FD.bindsN bd, rfl, ok⟩
/-- the script's run -/
def runS (n : Nat) (fb : S) (ns : List Int) : M W := fun st => match fb (some (.scr ns) :: List.replicate (n - 1) none) st with
  | .go (.nx _) st' => .ok (.d .none) st'
  | .go (.rt w) st' => .ok w st'
  | .ex x _ st' => .ex x st'
  | _ => .bad
def spS (g : Gd) (fn : List Int → M W) : Sp := fun vs H Q E => vs.length = 1 ∧ ∃ F m st a ns, vs = [.ref a] ∧ SqL g.K F a (ns.map V.int) ∧ Rel g.K F m st H ∧ After g.K g.mg F m E (fn ns st) (fun w F' m' H' => ∀ v, WR g.K F' m' w v → Q v H')
theorem envR_scr {F : Hp} {m : List Addr} {a : Addr} {ns : List Int} (h : SqL g.K F a (ns.map V.int)) (hN : 0 < N.length) : EnvR g F m (some (.scr ns) :: List.replicate (N.length - 1) none) (L2.start N [.ref a]) := by
  refine ⟨by unfold L2.start; simp, fun i x e => ?_⟩
  cases i with
  | zero => cases Option.some.inj (Option.some.inj e); exact ⟨_, rfl, a, rfl, h⟩
  | succ i =>
    have e : (List.replicate (N.length - 1) (none : Option Sl))[i]? = some (some x) := e
    rw [List.getElem?_replicate] at e
    split at e <;> cases e
theorem fnS_ok {p1 : Str} (F : FnAt g x args body scope) (S : FnScope N [p1] scope) (hN : 0 < N.length) (hb : Does g x body scope N k fb) :
    ∃ fd, FunD g.K x x args body scope [] [] (He.ga g.K x) fd ∧ FnOk g.P g.w g.K g.mg g.base (L2.CX g.P g.w) (k + 1) (He.ga g.K x) fd [p1] (spS g (runS N.length fb)) :=
  F.code (CX := L2.CX g.P g.w) (k := k) (sp := spS g (runS N.length fb)) S (fun vs H Q E h => h.1) fun cdv A outer s H vs Q E hr hc h => ⟨_, hb _ cdv A outer s H E hr hc, by
    obtain ⟨_, F1, m, st1, a, ns, rfl, h1, rl, h⟩ := h
    exact ⟨F1, m, st1, _, envR_scr h1 hN, rl, runB_end h⟩⟩
theorem mkDefS {p1 : Str} (F : FnAt g x args body scope) (S : FnScope N [p1] scope) (hN : 0 < N.length) (bd : BindsAll x args body scope [p1]) (hb : Does g x body scope N k fb) : DefS g x (k + 1) (runS N.length fb) := by
  obtain ⟨fd, FD, ok⟩ := fnS_ok F S hN hb
  exact ⟨_, fd, [p1], F.mg, FD.kp, FD.bindsN bd, rfl, ok⟩
/-- the def that calls what it gets -/
def DoesL (g : Gd) (x a : Str) (body : List Stmt) (scope : Scope) (N : List Str) (fb : Cl → M W → S) : Prop :=
  ∀ (f : Addr) (cdv : Value) (A : Around) (outer : List PySem.Env) (s : Shared) (H : Hp) (c : Cl) (t : M W),
    (∀ (W : WX) (pn : List (Addr × Obj)) (xe : Value → Shared → Prop) (p1 p2 : Pos), Takes ((cxOf C8.CX0 g.P g.w g.K g.mg g.base N x scope f cdv A outer s H C8.E0).tr pn xe) W →
      SE ((cxOf C8.CX0 g.P g.w g.K g.mg g.base N x scope f cdv A outer s H C8.E0).tr pn xe) W (.Call (.Name a p1) [] [] p2) (actF 0 c t)) →
    SSs (cxOf C8.CX0 g.P g.w g.K g.mg g.base N x scope f cdv A outer s H C8.E0).nox Wn body (fb c t)
theorem mkLam {a : Str} {fb : Cl → M W → S} {gx : M W → M W} (F : FnAt g x args body scope) (S : FnScope N [a] scope) (hN0 : N[0]? = some a) (hva : Vis scope a) (bd : BindsAll x args body scope [a]) (hgx : ∀ (c : Cl) (t : M W), runFn N.length (fb c t) c = gx t) (hb : DoesL g x a body scope N fb)
    (h1 : (a == ("__debug__" : Str)) = false := by decide) (h2 : (a == ("__classdict__" : Str)) = false := by decide) (h3 : (x == ("__debug__" : Str)) = false := by decide) : LamDef g x a gx := by
  obtain ⟨fd, FD⟩ := F.ex
  have B := FD.bindsN bd
  obtain ⟨oc, od, dV, kV, doc, pm, an, cdv, ct, osl, rfl, lk, hcd, hD, hK⟩ := id FD.ex
  exact ⟨_, args, body, scope, dV, kV, doc, pm, cdv, ct, oc, an, od, osl, N, fb, F.mg, FD.kp, lk, hcd, B, S, hN0, hva, h1, h2, h3, hgx, fun A outer s H c t act => hb _ cdv A outer s H c t act⟩
end
/-! ## the law's end -/
/-- the tables as the store tells them -/
def tabs0 (K : PySem.W.Frag) (tf : List He.Defn) : Sto := tf.map fun p => .tab (He.cT K p).2 (p.1 ++ ".<locals>." ++ "<lambda>")
theorem walk_ofX {l : PySem.W.OpenLaw} {n k N : Nat} {q : Program} {loose : List Str} {XP : (Str → Option Value) → Heap → Prop} {d : DefRec} {fa : List He.Fa} {fn : List He.DefD} {ts : List He.Tab} {tf : List He.Defn} {ex : PySem.W.Frag → Bool} {x p1 : Str} {args : Arguments} {body : List Stmt} {scope : Scope}
    {N1 : List Str} {fb : S} {i j : Nat} (hn : l.most = some n) (hn2 : n ≤ sizeLine) (hdf : d.params.defaults = []) (hr : Room (k + 1) callerA) (hname : d.name = x) (hfn : fn[i]? = some ⟨(x, none), x, x, args, body, scope, [], []⟩) (hfa : fa[j]? = some (.glo x))
    (S : FnScope N1 [p1] scope) (hN : 0 < N1.length) (bd : BindsAll x args body scope [p1]) (hb : ∀ g : Gd, g.P = l.prog → Gnd fa fn ts tf ex g → Does g x body scope N1 k fb) (htf : ∀ K, ex K = true → (tf.map fun p => (He.cT K p).2).Nodup)
    (good : ∀ (K : PySem.W.Frag) (ns : List Int), ns.length ≤ n → (∀ z ∈ ns, Builtin.Int.intBits z ≤ 1048576) → ∃ st', runS N1.length fb ns (tabs0 K tf) = .ok (.d (.bool true)) st') :
    PySem.W.WalkO q loose XP (He.hookX N fa fn ts tf ex).says l.row.toRowW d [] (fun f vs => PySem.call f vs) := by
  refine Att.attach_callB hn hdf fun w s₀ s₁ mg mb fa' o pm cd doc a vs ns G Y ho hd hcd hmg hobj hints hlen hbits hg => ?_
  obtain ⟨K, KX, s⟩ := Y
  have mf : mg x = some (.ref (He.ga K x)) := He.glo_ok KX G.T.g (s.t.d.fact j hfa)
  rw [hname, mf] at hmg
  cases hmg
  obtain ⟨fd, FD⟩ := s.t.d.def_ i hfn
  have B := FD.bindsA bd
  have C : ∀ p ∈ tf.map (He.cT K), PySem.W.CodeHd s₁.heap p.1 p.2 := fun p hp => by
    obtain ⟨p', hp', rfl⟩ := List.mem_map.mp hp
    exact PySem.W.codeHd_of_K KX (s.hd p' hp')
  refine law_callTs (cs := tf.map (He.cT K)) (sp := spS ⟨l.prog, w, K, mg, s₁.heap⟩ (runS N1.length fb)) (CX := L2.CX l.prog w) (k := k + 1) (fd := fd) (x := p1) KX G.T.g G.T.b G.T.builtins G.T.nolimit hg (fun p hp => ?_) (fun p hp => ?_) C G.T.bmain hobj hints (Nat.le_trans hlen hn2) hr (fun base KB GB TB => ?_) (fun s u => B s [u] rfl) (fun H hT hS => ?_) fun H e s' h => ?_
  · obtain ⟨p', hp', rfl⟩ := List.mem_map.mp hp
    exact s.empty p' hp'
  · obtain ⟨p', hp', rfl⟩ := List.mem_map.mp hp
    exact s.out p' hp'
  · have GN : Gnd fa fn ts tf ex ⟨l.prog, w, K, mg, base⟩ := ⟨⟨s₁.heap, KX, G.T.g, s⟩, fun p hp => TB _ (List.mem_map.mpr ⟨p, hp, rfl⟩)⟩
    obtain ⟨fd2, FD2, ok⟩ := fnS_ok (GN.fnAt i j hfn hfa) S hN (hb _ rfl GN)
    have e : fd2 = fd := by
      obtain ⟨oc, od, dV, kV, doc, pm, an, cdv, ct, osl, r1, lk, _⟩ := FD.ex
      obtain ⟨oc2, od2, dV2, kV2, doc2, pm2, an2, cdv2, ct2, osl2, r2, lk2, _⟩ := FD2.ex
      have q := lk2.symm.trans lk
      cases Option.some.inj q
      rfl
    subst e
    exact ok
  · have hmem : ∀ p ∈ tf, H (He.cT K p).2 = some (.tbl #[]) := fun p hp => hT _ (List.mem_map.mpr ⟨p, hp, rfl⟩)
    obtain ⟨st', hgood⟩ := good K ns hlen hbits
    have key : ∃ F : Hp, SqL K F a (ns.map V.int) ∧ Same F H ∧ (∀ b ps, F b ≠ some (.tbl ps)) ∧ ∀ b ps, H b = some (.tbl ps) → F b = none := by
      rcases hS with hR | hK
      · have ha : ∃ o, H a = some o ∧ ∀ ps, o ≠ .tbl ps := by
          rcases hR with h | ⟨o, h⟩
          · exact ⟨_, h, nofun⟩
          · exact ⟨_, h, nofun⟩
        obtain ⟨o, ha, hn⟩ := ha
        have e1 : (fun b => if b = a then H b else none : Hp) a = H a := if_pos rfl
        have e2 : ∀ b, (fun b => if b = a then H b else none : Hp) b = none ∨ b = a := fun b => by
          by_cases hb : b = a
          · exact .inr hb
          · exact .inl (if_neg hb)
        refine ⟨fun b => if b = a then H b else none, .inl ?_, fun b u e => ?_, fun b ps e => ?_, fun b ps e => ?_⟩
        · rcases hR with h | ⟨o, h⟩
          · exact .inl (e1.trans h)
          · exact .inr ⟨o, e1.trans h⟩
        · rcases e2 b with z | z
          · rw [z] at e; cases e
          · subst z; rw [e1] at e; exact e
        · rcases e2 b with z | z
          · rw [z] at e; cases e
          · subst z; rw [e1, ha] at e; exact hn ps (Option.some.inj e)
        · rcases e2 b with z | z
          · exact z
          · subst z; rw [ha] at e; exact absurd (Option.some.inj e) (hn ps)
      · exact ⟨fun _ => none, .inr hK, nofun, nofun, fun _ _ _ => rfl⟩
    obtain ⟨F, f1, f2, f3, f4⟩ := key
    have rl : Rel K F (tf.map fun p => (He.cT K p).2) (tabs0 K tf) H := by
      refine ⟨f2, by simp [tabs0], ?_, fun i b so h1 h2 h3 => ?_, fun b hb => ?_, fun i b so h1 h2 => ?_, f3⟩
      · exact htf K s.more
      · obtain ⟨p, hp, rfl⟩ := List.mem_map.mp (List.mem_of_getElem? h1)
        exact f4 _ _ (hmem p hp)
      · obtain ⟨p, hp, rfl⟩ := List.mem_map.mp hb
        exact ⟨_, hmem p hp⟩
      · rw [List.getElem?_map] at h1
        unfold tabs0 at h2
        rw [List.getElem?_map] at h2
        cases hp : tf[i]? with
        | none => rw [hp] at h1; cases h1
        | some p =>
          rw [hp] at h1 h2
          cases Option.some.inj h1
          cases Option.some.inj h2
          exact ⟨rfl, #[], hmem p (List.mem_of_getElem? hp), trivial, fun pos cv e => by simp [codeAmong] at e⟩
    refine ⟨rfl, F, _, _, a, ns, rfl, f1, rl, ?_⟩
    show After _ _ _ _ _ (runS N1.length fb ns (tabs0 K tf)) _
    rw [hgood]
    exact fun F' m' H' _ _ _ v hv => dq_bool hv
  · obtain ⟨_, _, _, _, _, _, _, _, _, _, _, _, z⟩ := h
    exact z
end Ev
end
section
set_option Elab.async false
set_option linter.all false
set_option maxRecDepth 100000
set_option autoImplicit false
namespace Ev
open PySem PySem.Spec PyProof.Rows L2 LamX
section
variable {fa : List He.Fa} {fn : List He.DefD} {ts : List He.Tab} {tf : List He.Defn} {ex : PySem.W.Frag → Bool} {g : Gd}
theorem Gnd.exc (c : Gnd fa fn ts tf ex g) (i j : Nat) {x : Str} (h : fa[i]? = some (.glo x) := by rfl) (h2 : fa[j]? = some (.exc x) := by rfl) : ErrC g.K g.mg x := by
  obtain ⟨hp, X, G, s⟩ := c.ex
  obtain ⟨c1, c2, c3, c4⟩ := He.exc_ok (s.t.d.fact j h2)
  exact ⟨_, c.glo i h, c1, c2, c3, c4⟩
theorem Gnd.exm (c : Gnd fa fn ts tf ex g) (i : Nat) {x y : Str} {b : Bool} (h : fa[i]? = some (.exm x y b) := by rfl) : PySem.W.exmOne g.K (.ref (He.ga g.K x)) (.ref (He.ga g.K y)) = some b := by
  obtain ⟨hp, X, G, s⟩ := c.ex
  exact He.exm_ok (s.t.d.fact i h)
end
/-- nothing is told of it -/
theorem mkDef0 {g : Gd} {x : Str} {args : Arguments} {body : List Stmt} {scope : Scope} {N ps : List Str} {k : Nat} (F : FnAt g x args body scope) (S : FnScope N ps scope) (bd : BindsAll x args body scope ps) : Def g x (k + 1) ps.length (fun _ => bad) := by
  obtain ⟨fd, FD, ok⟩ := F.code (CX := L2.CX g.P g.w) (k := k) (sp := spM g ps.length (fun _ => bad)) S (fun vs H Q E h => h.1) fun cdv A outer s H vs Q E hr hc h => by
    obtain ⟨_, F1, m, st1, ws, r, rl, h⟩ := h
    exact h.elim
  exact ⟨_, fd, ps, F.mg, FD.kp, FD.bindsN bd, rfl, ok⟩
end Ev
end
section
set_option Elab.async false
set_option linter.all false
set_option maxRecDepth 100000
set_option autoImplicit false
namespace Ev
open PySem PySem.Spec PyProof.Rows L2
/-! ## plain reasoning about the functions: weakest preconditions -/
section
variable {α β : Type}
@[irreducible] def wpM (m : M α) (st : Sto) (Q : α → Sto → Prop) (E : Ex → Sto → Prop) : Prop := match m st with
  | .ok a st' => Q a st'
  | .ex x st' => E x st'
  | .bad => False
theorem wpM_def {m : M α} {st : Sto} {Q : α → Sto → Prop} {E : Ex → Sto → Prop} : wpM m st Q E = (match m st with
  | .ok a st' => Q a st'
  | .ex x st' => E x st'
  | .bad => False) := by unfold wpM; rfl
theorem wpM_of {m : M α} {st st' : Sto} {a : α} {Q : α → Sto → Prop} {E : Ex → Sto → Prop} (h : m st = .ok a st') (q : Q a st') : wpM m st Q E := by unfold wpM; rw [h]; exact q
theorem wpM_ofX {m : M α} {st st' : Sto} {x : Ex} {Q : α → Sto → Prop} {E : Ex → Sto → Prop} (h : m st = .ex x st') (q : E x st') : wpM m st Q E := by unfold wpM; rw [h]; exact q
theorem wpM_ok {m : M α} {st : Sto} {Q : α → Sto → Prop} (h : wpM m st Q fun _ _ => False) : ∃ a st', m st = .ok a st' ∧ Q a st' := by
  unfold wpM at h
  cases e : m st with
  | ok a st' => rw [e] at h; exact ⟨a, st', rfl, h⟩
  | ex x st' => rw [e] at h; exact h.elim
  | bad => rw [e] at h; exact h.elim
theorem wpM_mono {m : M α} {st : Sto} {Q Q' : α → Sto → Prop} {E E' : Ex → Sto → Prop} (h : wpM m st Q E) (hq : ∀ a s, Q a s → Q' a s) (he : ∀ x s, E x s → E' x s) : wpM m st Q' E' := by
  unfold wpM at h ⊢
  cases e : m st with
  | ok a st' => rw [e] at h; exact hq _ _ h
  | ex x st' => rw [e] at h; exact he _ _ h
  | bad => rw [e] at h; exact h
/-- an outcome, known by its wish -/
theorem wpM_val {m : M α} {st st' : Sto} {a : α} (h : wpM m st (fun b s => b = a ∧ s = st') fun _ _ => False) : m st = .ok a st' := by
  obtain ⟨b, s, e, rfl, rfl⟩ := wpM_ok h
  exact e
theorem wpM_valX {m : M α} {st st' : Sto} {x : Ex} (h : wpM m st (fun _ _ => False) (fun y s => y = x ∧ s = st')) : m st = .ex x st' := by
  unfold wpM at h
  cases e : m st with
  | ok a s => rw [e] at h; exact h.elim
  | ex y s => rw [e] at h; obtain ⟨rfl, rfl⟩ := h; rfl
  | bad => rw [e] at h; exact h.elim
variable {st : Sto} {Q : α → Sto → Prop} {E : Ex → Sto → Prop}
@[simp] theorem wp_ret (a : α) : wpM (ret a) st Q E = Q a st := wpM_def
@[simp] theorem wp_bnd {m : M β} {f : β → M α} : wpM (bnd m f) st Q E = wpM m st (fun b s => wpM (f b) s Q E) E := by
  unfold wpM bnd
  cases m st <;> rfl
@[simp] theorem wp_bad : wpM (bad : M α) st Q E = False := wpM_def
@[simp] theorem wp_ite {c : Prop} [Decidable c] {a b : M α} : wpM (if c then a else b) st Q E = if c then wpM a st Q E else wpM b st Q E := by split <;> rfl
theorem wp_lift {o : Sto → Option α} {a : α} (h : o st = some a) : wpM (liftO o) st Q E = Q a st := by unfold wpM liftO; rw [h]
@[simp] theorem wp_liftO {o : Sto → Option α} : wpM (liftO o) st Q E = (match o st with | some a => Q a st | none => False) := by
  unfold wpM liftO
  cases o st <;> rfl
theorem wp_noex {m : M α} (h : wpM m st Q fun _ _ => False) : wpM (noex m) st Q E := by
  unfold wpM noex at *
  cases e : m st with
  | ok a s => rw [e] at h; exact h
  | ex x s => rw [e] at h; exact h.elim
  | bad => rw [e] at h; exact h.elim
end
/-- where a statement may go -/
structure Dn where
  nx : Env → Sto → Prop
  rt : W → Sto → Prop
  bk : Env → Sto → Prop
  ct : Env → Sto → Prop
  ex : Ex → Env → Sto → Prop
@[irreducible] def wpS (s : S) (ρ : Env) (st : Sto) (D : Dn) : Prop := match s ρ st with
  | .go (.nx ρ') st' => D.nx ρ' st'
  | .go (.rt w) st' => D.rt w st'
  | .go (.bk ρ') st' => D.bk ρ' st'
  | .go (.ct ρ') st' => D.ct ρ' st'
  | .ex x ρ' st' => D.ex x ρ' st'
  | .bad => False
theorem wpS_def {s : S} {ρ : Env} {st : Sto} {D : Dn} : wpS s ρ st D = (match s ρ st with
  | .go (.nx ρ') st' => D.nx ρ' st'
  | .go (.rt w) st' => D.rt w st'
  | .go (.bk ρ') st' => D.bk ρ' st'
  | .go (.ct ρ') st' => D.ct ρ' st'
  | .ex x ρ' st' => D.ex x ρ' st'
  | .bad => False) := by unfold wpS; rfl
section
variable {ρ : Env} {st : Sto} {D : Dn} {Q : W → Sto → Prop} {E : Ex → Sto → Prop} {s t : S} {f : Env → M W} {g : Env → M Bool}
theorem wpS_mono {D' : Dn} (h : wpS s ρ st D) (h1 : ∀ r x, D.nx r x → D'.nx r x) (h2 : ∀ w x, D.rt w x → D'.rt w x) (h3 : ∀ r x, D.bk r x → D'.bk r x) (h4 : ∀ r x, D.ct r x → D'.ct r x) (h5 : ∀ e r x, D.ex e r x → D'.ex e r x) : wpS s ρ st D' := by
  unfold wpS at h ⊢
  cases e : s ρ st with
  | go fl s' => rw [e] at h; cases fl <;> first | exact h1 _ _ h | exact h2 _ _ h | exact h3 _ _ h | exact h4 _ _ h
  | ex x r s' => rw [e] at h; exact h5 _ _ _ h
  | bad => rw [e] at h; exact h
@[simp] theorem wp_seq : wpS (seqS s t) ρ st D = wpS s ρ st { D with nx := fun ρ' st' => wpS t ρ' st' D } := by
  unfold wpS seqS
  cases e : s ρ st with
  | go fl s' => cases fl <;> rfl
  | ex x r s' => rfl
  | bad => rfl
@[simp] theorem wp_nx : wpS nxS ρ st D = D.nx ρ st := wpS_def
theorem wp_ofM {α : Type} {m : M α} {k : α → Sto → RS} : (match ofM m ρ k st with
    | .go (.nx ρ') st' => D.nx ρ' st'
    | .go (.rt w) st' => D.rt w st'
    | .go (.bk ρ') st' => D.bk ρ' st'
    | .go (.ct ρ') st' => D.ct ρ' st'
    | .ex x ρ' st' => D.ex x ρ' st'
    | .bad => False) = wpM m st (fun a s' => match k a s' with
    | .go (.nx ρ') st' => D.nx ρ' st'
    | .go (.rt w) st' => D.rt w st'
    | .go (.bk ρ') st' => D.bk ρ' st'
    | .go (.ct ρ') st' => D.ct ρ' st'
    | .ex x ρ' st' => D.ex x ρ' st'
    | .bad => False) (fun x s' => D.ex x ρ s') := by
  unfold wpM ofM
  cases m st <;> rfl
@[simp] theorem wp_retS : wpS (retS f) ρ st D = wpM (f ρ) st D.rt fun x s => D.ex x ρ s := wpS_def.trans wp_ofM
@[simp] theorem wp_drop : wpS (dropS f) ρ st D = wpM (f ρ) st (fun _ s => D.nx ρ s) fun x s => D.ex x ρ s := wpS_def.trans wp_ofM
@[simp] theorem wp_asg {i : Nat} : wpS (asgS i f) ρ st D = wpM (f ρ) st (fun w s => D.nx (ρ.set i (some (.w w))) s) fun x s => D.ex x ρ s := wpS_def.trans wp_ofM
@[simp] theorem wp_if : wpS (ifS g s t) ρ st D = wpM (g ρ) st (fun k s' => if k = true then wpS s ρ s' D else wpS t ρ s' D) fun x s' => D.ex x ρ s' := by
  refine (wpS_def.trans wp_ofM).trans ?_
  congr 1
  funext k s'
  cases k with
  | true => rw [if_pos rfl, if_pos rfl, wpS_def]
  | false => rw [if_neg Bool.false_ne_true, if_neg Bool.false_ne_true, wpS_def]
@[simp] theorem wp_raise {x : Str} : wpS (raiseS x) ρ st D = D.ex ⟨x, []⟩ ρ st := wpS_def
@[simp] theorem wp_run {n : Nat} {fb : S} {ws : List W} : wpM (runB n fb ws) st Q E = wpS fb (startE n ws) st ⟨fun _ s => Q (.d .none) s, Q, fun _ _ => False, fun _ _ => False, fun x _ s => E x s⟩ := by
  unfold wpM runB wpS
  cases e : fb (startE n ws) st with
  | go fl s' => cases fl <;> rfl
  | ex x r s' => rfl
  | bad => rfl
@[simp] theorem wp_runS {n : Nat} {fb : S} {ns : List Int} : wpM (runS n fb ns) st Q E = wpS fb (some (.scr ns) :: List.replicate (n - 1) none) st ⟨fun _ s => Q (.d .none) s, Q, fun _ _ => False, fun _ _ => False, fun x _ s => E x s⟩ := by
  unfold wpM runS wpS
  cases e : fb (some (.scr ns) :: List.replicate (n - 1) none) st with
  | go fl s' => cases fl <;> rfl
  | ex x r s' => rfl
  | bad => rfl
@[simp] theorem wp_callU {n : Nat} {fn : List W → M W} {fs : Env → M (List W)} : wpM (callU n fn fs ρ) st Q E = wpM (fs ρ) st (fun ws s => if ws.length = n then wpM (fn ws) s Q E else False) E := by
  unfold callU
  rw [wp_bnd]
  congr 1
  funext ws s
  rw [wp_ite, wp_bad]
theorem wp_getV {i : Nat} {w : W} (h : ρ[i]? = some (some (.w w))) : wpM (getV i ρ) st Q E = Q w st := by unfold wpM getV; rw [h]
/-- a for over items that stay -/
@[simp] theorem wp_for {fi : Env → M Its} {asg : As} {body : S} : wpS (forS fi asg body) ρ st D = wpM (fi ρ) st (fun p s' => wpS (loopS p.2 asg body p.1) ρ s' D) fun x s' => D.ex x ρ s' := (wpS_def.trans wp_ofM).trans (by congr 1; funext p s'; rw [wpS_def])
theorem wp_loop {asg : As} {body : S} (Inv : List PyData → Env → Sto → Prop) (hs : ∀ d ds ρ st, Inv (d :: ds) ρ st → ∃ ρ1, asg d ρ = some ρ1 ∧ wpS body ρ1 st ⟨Inv ds, D.rt, D.nx, Inv ds, D.ex⟩) (he : ∀ ρ st, Inv [] ρ st → D.nx ρ st) :
    ∀ (ds : List PyData) (ρ : Env) (st : Sto), Inv ds ρ st → wpS (loopS always asg body ds) ρ st D
  | [], ρ, st, h => by rw [wpS_def]; exact he ρ st h
  | d :: ds, ρ, st, h => by
    obtain ⟨ρ1, e, h1⟩ := hs d ds ρ st h
    unfold wpS loopS
    rw [if_pos (show always st = true from rfl), e]
    dsimp only
    unfold wpS at h1
    cases z : body ρ1 st with
    | go fl s' =>
      rw [z] at h1
      cases fl with
      | nx r => have h2 := wp_loop Inv hs he ds r s' h1; rw [wpS_def] at h2; exact h2
      | ct r => have h2 := wp_loop Inv hs he ds r s' h1; rw [wpS_def] at h2; exact h2
      | bk r => exact h1
      | rt w => exact h1
    | ex x r s' => rw [z] at h1; exact h1
    | bad => rw [z] at h1; exact h1
/-- a comprehension over items that stay -/
@[simp] theorem wp_lc {fi : Env → M Its} {vs : List Nat} {asg : As} {gt : Env → M Bool} {fe : Env → M W} {fin : List W → M W} : wpM (lcF fi vs asg gt fe fin ρ) st Q E = wpM (fi ρ) st (fun p s' => if p.1.length < sizeLine then wpM (compL p.2 vs asg gt fe ρ p.1 []) s' (fun ws s'' => wpM (fin ws) s'' Q E) E else False) E := by
  unfold lcF
  rw [wp_bnd]
  congr 1
  funext p s
  rw [wp_ite, wp_bnd, wp_bad]
theorem wp_comp {vs : List Nat} {asg : As} {gt : Env → M Bool} {fe : Env → M W} {Qc : List W → Sto → Prop} (Inv : List PyData → List W → Sto → Prop)
    (hs : ∀ d ds acc st, Inv (d :: ds) acc st → ∃ ρ1, asg d (wipeE ρ vs) = some ρ1 ∧ wpM (gt ρ1) st (fun k s => if k = true then wpM (fe ρ1) s (fun w s' => Inv ds (acc ++ [w]) s') (fun _ _ => False) else Inv ds acc s) (fun _ _ => False)) (he : ∀ acc st, Inv [] acc st → Qc acc st) :
    ∀ (ds : List PyData) (acc : List W) (st : Sto), Inv ds acc st → wpM (compL always vs asg gt fe ρ ds acc) st Qc E
  | [], acc, st, h => by rw [wpM_def]; exact he acc st h
  | d :: ds, acc, st, h => by
    obtain ⟨ρ1, e, h1⟩ := hs d ds acc st h
    have e2 : compL always vs asg gt fe ρ (d :: ds) acc st = (bnd (noex (gt ρ1)) fun k => if k = true then bnd (noex (fe ρ1)) fun w => compL always vs asg gt fe ρ ds (acc ++ [w]) else compL always vs asg gt fe ρ ds acc) st := by
      show (if always st = true then (match asg d (wipeE ρ vs) with
        | none => R.bad
        | some ρ1 => bnd (noex (gt ρ1)) (fun k => if k = true then bnd (noex (fe ρ1)) fun w => compL always vs asg gt fe ρ ds (acc ++ [w]) else compL always vs asg gt fe ρ ds acc) st) else R.bad) = _
      rw [if_pos (show always st = true from rfl), e]
    rw [wpM_def, e2]
    have h2 : wpM (bnd (noex (gt ρ1)) fun k => if k = true then bnd (noex (fe ρ1)) fun w => compL always vs asg gt fe ρ ds (acc ++ [w]) else compL always vs asg gt fe ρ ds acc) st Qc E := by
      rw [wp_bnd]
      refine wp_noex (wpM_mono h1 (fun k s hk => ?_) fun _ _ z => z.elim)
      cases k with
      | true =>
        rw [if_pos rfl] at hk ⊢
        rw [wp_bnd]
        exact wp_noex (wpM_mono hk (fun w s' hw => wp_comp Inv hs he ds _ s' hw) fun _ _ z => z.elim)
      | false =>
        rw [if_neg Bool.false_ne_true] at hk ⊢
        exact wp_comp Inv hs he ds acc s hk
    rw [wpM_def] at h2
    exact h2
/-- one that asks nothing of the store and leaves it -/
theorem wp_comp_pure {vs : List Nat} {asg : As} {gt : Env → M Bool} {fe : Env → M W} {Qc : List W → Sto → Prop} (p : PyData → Bool) (v : PyData → W) (ds : List PyData) (st : Sto)
    (hs : ∀ d ∈ ds, ∃ ρ1, asg d (wipeE ρ vs) = some ρ1 ∧ gt ρ1 st = .ok (p d) st ∧ (p d = true → fe ρ1 st = .ok (v d) st)) (hq : Qc ((ds.filter p).map v) st) : wpM (compL always vs asg gt fe ρ ds []) st Qc E := by
  refine wp_comp (fun rest acc s => s = st ∧ (∀ d ∈ rest, d ∈ ds) ∧ acc ++ (rest.filter p).map v = (ds.filter p).map v) (fun d rest acc s h => ?_) (fun acc s h => ?_) ds [] st ⟨rfl, fun _ h => h, rfl⟩
  · obtain ⟨rfl, hm, hl⟩ := h
    obtain ⟨ρ1, h1, h2, h3⟩ := hs d (hm d List.mem_cons_self)
    refine ⟨ρ1, h1, wpM_of h2 ?_⟩
    cases hp : p d with
    | true =>
      rw [if_pos rfl]
      refine wpM_of (h3 hp) ⟨rfl, fun d' h' => hm d' (List.mem_cons_of_mem _ h'), ?_⟩
      rw [← hl, List.filter_cons_of_pos hp, List.map_cons, List.append_assoc]; rfl
    | false =>
      rw [if_neg Bool.false_ne_true]
      refine ⟨rfl, fun d' h' => hm d' (List.mem_cons_of_mem _ h'), ?_⟩
      rw [← hl, List.filter_cons_of_neg (by rw [hp]; exact Bool.false_ne_true)]
  · obtain ⟨rfl, _, hl⟩ := h
    rw [List.filter_nil, List.map_nil, List.append_nil] at hl
    rw [hl]; exact hq
theorem allD_map {α : Type} (f : α → PyData) : ∀ l : List α, allD (l.map fun x => W.d (f x)) = some (l.map f)
  | [] => rfl
  | x :: l => by
    show (allD (l.map fun x => W.d (f x))).map (f x :: ·) = _
    rw [allD_map f l]; rfl
@[simp] theorem wp_asData {ds : List PyData} : wpM (asData (ds.map .d)) st Q E = Q (.d (.list ds)) st := by
  unfold asData
  rw [wp_liftO]
  have h : allD (ds.map .d) = some ds := by
    have := allD_map (fun d : PyData => d) ds
    rw [List.map_id'] at this
    exact this
  rw [h]; rfl
@[simp] theorem wp_asMut {ws : List W} : wpM (asMut ws) st Q E = Q (.r st.length) (st ++ [.lst ws]) := wpM_def
@[simp] theorem wp_mut {g : Env → M (List W)} : wpM (mkMut g ρ) st Q E = wpM (g ρ) st (fun ws s => if ws.length ≤ sizeLine then Q (.r s.length) (s ++ [.lst ws]) else False) E := by
  unfold mkMut
  rw [wp_bnd]
  congr 1
  funext ws s
  rw [wp_ite, wp_bad, wp_asMut]
@[simp] theorem wp_tst {Q : Bool → Sto → Prop} : wpM (tst f ρ) st Q E = wpM (f ρ) st (fun w s => match truW s w with | some k => Q k s | none => False) E := by
  unfold tst
  rw [wp_bnd]
  congr 1
  funext w s
  rw [wp_liftO]
  cases truW s w <;> rfl
@[simp] theorem wp_app {fo fv : Env → M W} {Q : W → Sto → Prop} : wpM (appS fo fv ρ) st Q E = wpM (fo ρ) st (fun o s => match isMut s o with
    | some _ => wpM (fv ρ) s (fun v s' => match putEnd s' v o with
      | some s2 => Q (.d .none) s2
      | none => False) E
    | none => False) E := by
  unfold appS
  rw [wp_bnd]
  congr 1
  funext o s
  rw [wp_bnd, wp_liftO]
  cases isMut s o with
  | none => rfl
  | some u =>
    dsimp only
    unfold wpM bnd
    cases fv ρ s with
    | ok v s' => dsimp only; cases putEnd s' v o <;> rfl
    | ex x s' => rfl
    | bad => rfl
@[simp] theorem wp_setIx {fo fi fv : Env → M W} : wpS (setIx fo fi fv) ρ st D = wpM (fv ρ) st (fun v s => wpM (fo ρ) s (fun o s => wpM (fi ρ) s (fun i s => match putIx s v o i with
    | some s' => D.nx ρ s'
    | none => False) fun x s => D.ex x ρ s) fun x s => D.ex x ρ s) fun x s => D.ex x ρ s := by
  refine (wpS_def.trans wp_ofM).trans ?_
  rw [wp_bnd]
  congr 1
  funext v s
  rw [wp_bnd]
  congr 1
  funext o s
  rw [wp_bnd]
  congr 1
  funext i s
  rw [wp_ret]
  cases putIx s v o i <;> rfl
end
end Ev
end
section
set_option Elab.async false
set_option linter.all false
set_option maxRecDepth 100000
set_option autoImplicit false
namespace Ev
open PySem PySem.Spec PyProof.Rows L2
/-! ## rules for computing -/
section
variable {α : Type} {ρ : Env} {st : Sto} {Q : W → Sto → Prop} {E : Ex → Sto → Prop} {f fa fb : Env → M W}
@[simp] theorem wp_bin {op : Sto → W → W → Option W} : wpM (bin op fa fb ρ) st Q E = wpM (fa ρ) st (fun x s => wpM (fb ρ) s (fun y s' => match op s' x y with | some w => Q w s' | none => False) E) E := by
  unfold bin
  rw [wp_bnd]; congr 1; funext x s
  rw [wp_bnd]; congr 1; funext y s'
  rw [wp_liftO]
  cases op s' x y <;> rfl
@[simp] theorem wp_op1 {op : Sto → W → Option W} : wpM (op1 op f ρ) st Q E = wpM (f ρ) st (fun x s => match op s x with | some w => Q w s | none => False) E := by
  unfold op1
  rw [wp_bnd]; congr 1; funext x s
  rw [wp_liftO]
  cases op s x <;> rfl
@[simp] theorem wp_callF {op : Sto → List W → Option W} {fs : Env → M (List W)} : wpM (callF op fs ρ) st Q E = wpM (fs ρ) st (fun x s => match op s x with | some w => Q w s | none => False) E := by
  unfold callF
  rw [wp_bnd]; congr 1; funext x s
  rw [wp_liftO]
  cases op s x <;> rfl
@[simp] theorem wp_consA {fs : Env → M (List W)} {Q : List W → Sto → Prop} : wpM (consA f fs ρ) st Q E = wpM (f ρ) st (fun x s => wpM (fs ρ) s (fun xs s' => Q (x :: xs) s') E) E := by
  unfold consA
  rw [wp_bnd]; congr 1; funext x s
  rw [wp_bnd]; congr 1; funext xs s'
  rw [wp_ret]
@[simp] theorem wp_tup {fs : Env → M (List W)} : wpM (mkTup fs ρ) st Q E = wpM (fs ρ) st (fun ws s => match allD ws with | some ds => (if ds.length ≤ sizeLine then Q (.d (.tuple ds)) s else False) | none => False) E := by
  unfold mkTup
  rw [wp_bnd]; congr 1; funext ws s
  rw [wp_liftO]
  cases allD ws with
  | none => rfl
  | some ds =>
    rw [Option.bind_some]
    by_cases h : ds.length ≤ sizeLine
    · simp only [if_pos h]
    · simp only [if_neg h]
@[simp] theorem wp_lst {fs : Env → M (List W)} : wpM (mkLst fs ρ) st Q E = wpM (fs ρ) st (fun ws s => match allD ws with | some ds => (if ds.length ≤ sizeLine then Q (.d (.list ds)) s else False) | none => False) E := by
  unfold mkLst
  rw [wp_bnd]; congr 1; funext ws s
  rw [wp_liftO]
  cases allD ws with
  | none => rfl
  | some ds =>
    rw [Option.bind_some]
    by_cases h : ds.length ≤ sizeLine
    · simp only [if_pos h]
    · simp only [if_neg h]
@[simp] theorem wp_isi {T : Ty} : wpM (isiF T f ρ) st Q E = wpM (f ρ) st (fun w s => match w with | .d x => Q (.d (.bool (isTyD T x))) s | .r i => (match s[i]? with | some (.lst _) => Q (.d (.bool (isTyD T (.list [])))) s | _ => False)) E := by
  unfold isiF
  rw [wp_bnd]; congr 1; funext w s
  rw [wp_liftO]
  cases w with
  | d x => rfl
  | r i =>
    cases h : s[i]? with
    | none => simp [h]
    | some so => cases so <;> simp [h]
@[simp] theorem wp_neg : wpM (negW f ρ) st Q E = wpM (f ρ) st (fun w s => match w with | .d (.int i) => Q (.d (.int (-i))) s | _ => False) E := by
  unfold negW
  rw [wp_bnd]; congr 1; funext w s
  rw [wp_liftO]
  cases w with
  | r i => rfl
  | d x => cases x <;> rfl
@[simp] theorem wp_chain {op op' : Sto → W → W → Option W} : wpM (chain op op' f fa fb ρ) st Q E = wpM (f ρ) st (fun x s => wpM (fa ρ) s (fun y s1 => match op s1 x y with
    | some (.d (.bool true)) => wpM (fb ρ) s1 (fun w s2 => match op' s2 y w with | some v => Q v s2 | none => False) E
    | some (.d (.bool false)) => Q (.d (.bool false)) s1
    | _ => False) E) E := by
  unfold chain
  rw [wp_bnd]; congr 1; funext x s
  rw [wp_bnd]; congr 1; funext y s1
  rw [wp_bnd, wp_liftO]
  cases op s1 x y with
  | none => rfl
  | some w =>
    cases w with
    | r i => exact wp_bad
    | d z =>
      cases z <;> first | exact wp_bad | skip
      rename_i k
      cases k with
      | false => exact wp_ret _
      | true =>
        dsimp only
        rw [wp_bnd]; congr 1; funext w s2
        rw [wp_liftO]
        cases op' s2 y w <;> rfl
@[simp] theorem wp_part {Q : Option Int → Sto → Prop} : wpM (partF f ρ) st Q E = wpM (f ρ) st (fun w s => match w with | .d (.int i) => Q (some i) s | _ => False) E := by
  unfold partF
  rw [wp_bnd]; congr 1; funext w s
  rw [wp_liftO]
  cases w with
  | r i => rfl
  | d x => cases x <;> rfl
@[simp] theorem wp_slice {g h : Env → M (Option Int)} : wpM (sliceF f g h ρ) st Q E = wpM (f ρ) st (fun x s => wpM (g ρ) s (fun lo s1 => wpM (h ρ) s1 (fun hi s2 => match slW s2 x lo hi with | some v => Q v s2 | none => False) E) E) E := by
  unfold sliceF
  rw [wp_bnd]; congr 1; funext x s
  rw [wp_bnd]; congr 1; funext lo s1
  rw [wp_bnd]; congr 1; funext hi s2
  rw [wp_liftO]
  cases slW s2 x lo hi <;> rfl
@[simp] theorem wp_it {k : Sto → W → Option Its} {Q : Its → Sto → Prop} : wpM (itF k f ρ) st Q E = wpM (f ρ) st (fun w s => match k s w with | some p => Q p s | none => False) E := by
  unfold itF
  rw [wp_bnd]; congr 1; funext x s
  rw [wp_liftO]
  cases k s x <;> rfl
@[simp] theorem wp_range1 {fs : Env → M (List W)} {Q : Its → Sto → Prop} : wpM (range1 fs ρ) st Q E = wpM (fs ρ) st (fun ws s => match ws with | [.d (.int j)] => (if -(2 ^ 62) ≤ j ∧ j < 2 ^ 62 then Q (rangeL 0 j.toNat, always) s else False) | _ => False) E := by
  unfold range1
  rw [wp_bnd]; congr 1; funext ws s
  rw [wp_liftO]
  match ws with
  | [] => rfl
  | [.r i] => rfl
  | [.d (.int j)] =>
    by_cases h : -(2 ^ 62) ≤ j ∧ j < 2 ^ 62
    · simp only [if_pos h]
    · simp only [if_neg h]
  | [.d .none] => rfl
  | [.d (.bool _)] => rfl
  | [.d (.str _)] => rfl
  | [.d (.list _)] => rfl
  | [.d (.tuple _)] => rfl
  | [.d (.dict _)] => rfl
  | .d (.int _) :: _ :: _ => rfl
  | .d .none :: _ :: _ => rfl
  | .d (.bool _) :: _ :: _ => rfl
  | .d (.str _) :: _ :: _ => rfl
  | .d (.list _) :: _ :: _ => rfl
  | .d (.tuple _) :: _ :: _ => rfl
  | .d (.dict _) :: _ :: _ => rfl
  | .r _ :: _ :: _ => rfl
@[simp] theorem wp_get {i : Nat} : wpM (getV i ρ) st Q E = (match ρ[i]? with | some (some (.w w)) => Q w st | _ => False) := by
  unfold wpM getV
  cases h : ρ[i]? with
  | none => rfl
  | some o =>
    cases o with
    | none => rfl
    | some sl => cases sl <;> rfl
@[simp] theorem wp_scr {i : Nat} {fn : List Int → M W} : wpM (scrF i fn ρ) st Q E = (match ρ[i]? with | some (some (.scr ns)) => wpM (fn ns) st Q E | _ => False) := by
  unfold wpM scrF
  cases h : ρ[i]? with
  | none => rfl
  | some o =>
    cases o with
    | none => rfl
    | some sl => cases sl <;> rfl
@[simp] theorem wp_toB {Q : Bool → Sto → Prop} : wpM (toB f ρ) st Q E = wpM (f ρ) st (fun w s => match w with | .d (.bool k) => Q k s | _ => False) E := by
  unfold toB
  rw [wp_bnd]; congr 1; funext w s
  rw [wp_liftO]
  cases w with
  | r i => rfl
  | d x => cases x <;> rfl
variable {ga gb : Env → M Bool} {Qb : Bool → Sto → Prop}
@[simp] theorem wp_andB : wpM (andB ga gb ρ) st Qb E = wpM (ga ρ) st (fun k s => if k = true then wpM (gb ρ) s Qb E else Qb false s) E := by
  unfold andB
  rw [wp_bnd]; congr 1; funext k s
  rw [wp_ite, wp_ret]
@[simp] theorem wp_orB : wpM (orB ga gb ρ) st Qb E = wpM (ga ρ) st (fun k s => if k = true then Qb true s else wpM (gb ρ) s Qb E) E := by
  unfold orB
  rw [wp_bnd]; congr 1; funext k s
  rw [wp_ite, wp_ret]
@[simp] theorem wp_notB : wpM (notB ga ρ) st Qb E = wpM (ga ρ) st (fun k s => Qb (!k) s) E := by
  unfold notB
  rw [wp_bnd]; congr 1; funext k s
  rw [wp_ret]
@[simp] theorem wp_andW : wpM (andW fa fb ρ) st Q E = wpM (fa ρ) st (fun x s => match truW s x with | some true => wpM (fb ρ) s Q E | some false => Q x s | none => False) E := by
  unfold andW
  rw [wp_bnd]; congr 1; funext x s
  rw [wp_bnd, wp_liftO]
  cases truW s x with
  | none => rfl
  | some k => cases k <;> simp
@[simp] theorem wp_orW : wpM (orW fa fb ρ) st Q E = wpM (fa ρ) st (fun x s => match truW s x with | some true => Q x s | some false => wpM (fb ρ) s Q E | none => False) E := by
  unfold orW
  rw [wp_bnd]; congr 1; funext x s
  rw [wp_bnd, wp_liftO]
  cases truW s x with
  | none => rfl
  | some k => cases k <;> simp
@[simp] theorem wp_notW : wpM (notW fa ρ) st Q E = wpM (fa ρ) st (fun x s => match truW s x with | some k => Q (.d (.bool (!k))) s | none => False) E := by
  unfold notW
  rw [wp_bnd]; congr 1; funext x s
  rw [wp_bnd, wp_liftO]
  cases truW s x <;> simp
@[simp] theorem wp_ifW : wpM (ifW ga fa fb ρ) st Q E = wpM (ga ρ) st (fun k s => if k = true then wpM (fa ρ) s Q E else wpM (fb ρ) s Q E) E := by
  unfold ifW
  rw [wp_bnd]; congr 1; funext k s
  rw [wp_ite]
end
end Ev
end
section
set_option Elab.async false
set_option linter.all false
set_option maxRecDepth 100000
set_option autoImplicit false
namespace Ev
open PySem PySem.Spec PyProof.Rows L2
section
variable {st : Sto} {a b : PyData} {i j : Int} {x y z : Str} {xs ys : List PyData} {k : Bool}
@[simp] theorem onD_d {f : PyData → PyData → Option PyData} : onD f st (.d a) (.d b) = (f a b).map .d := rfl
@[simp] theorem truW_d : truW st (.d a) = truD a := rfl
@[simp] theorem truD_bool : truD (.bool k) = some k := rfl
@[simp] theorem truD_none : truD .none = some false := rfl
@[simp] theorem truD_int : truD (.int i) = some (i != 0) := rfl
@[simp] theorem truD_list : truD (.list xs) = some (!xs.isEmpty) := rfl
@[simp] theorem truD_tup : truD (.tuple xs) = some (!xs.isEmpty) := rfl
@[simp] theorem addD_int : addD (.int i) (.int j) = some (.int (i + j)) := rfl
@[simp] theorem subD_int : subD (.int i) (.int j) = some (.int (i - j)) := rfl
@[simp] theorem ltD_int : ltD (.int i) (.int j) = some (.bool (decide (i < j))) := rfl
@[simp] theorem leD_int : leD (.int i) (.int j) = some (.bool (decide (i ≤ j))) := rfl
@[simp] theorem gtD_int : gtD (.int i) (.int j) = some (.bool (decide (j < i))) := rfl
@[simp] theorem geD_int : geD (.int i) (.int j) = some (.bool (decide (j ≤ i))) := rfl
theorem addD_str (h : x.length + y.length ≤ sizeLine) : addD (.str x) (.str y) = some (.str (x ++ y)) := if_pos h
theorem addD_tup (h : xs.length + ys.length ≤ sizeLine) : addD (.tuple xs) (.tuple ys) = some (.tuple (xs ++ ys)) := if_pos h
theorem addD_lst (h : xs.length + ys.length ≤ sizeLine) : addD (.list xs) (.list ys) = some (.list (xs ++ ys)) := if_pos h
theorem mulD_intL (h : -(2 ^ 64) < i ∧ i < 2 ^ 64) : mulD (.int i) (.int j) = some (.int (i * j)) := if_pos (.inl h)
theorem mulD_intR (h : -(2 ^ 64) < j ∧ j < 2 ^ 64) : mulD (.int i) (.int j) = some (.int (i * j)) := if_pos (.inr h)
theorem modD_int (h : j ≠ 0) : modD (.int i) (.int j) = some (.int (i.fmod j)) := if_pos h
theorem fdivD_int (h : j ≠ 0 ∧ j.natAbs < 1073741824) : fdivD (.int i) (.int j) = some (.int (i.fdiv j)) := if_pos h
@[simp] theorem on1_one {f : Sto → W → Option W} {w : W} : on1 f st [w] = f st w := rfl
@[simp] theorem intW_int : intW st (.d (.int i)) = some (.d (.int i)) := rfl
@[simp] theorem absW_int : absW st (.d (.int i)) = some (.d (.int (if i < 0 then -i else i))) := rfl
@[simp] theorem lenW_list : lenW st (.d (.list xs)) = some (.d (.int xs.length)) := rfl
@[simp] theorem lenW_tup : lenW st (.d (.tuple xs)) = some (.d (.int xs.length)) := rfl
theorem lenW_str (h : x.length ≤ sizeLine) : lenW st (.d (.str x)) = some (.d (.int x.length)) := if_pos h
@[simp] theorem tupleW_list : tupleW st (.d (.list xs)) = some (.d (.tuple xs)) := rfl
@[simp] theorem tupleW_tup : tupleW st (.d (.tuple xs)) = some (.d (.tuple xs)) := rfl
@[simp] theorem listW_list : listW st (.d (.list xs)) = some (.d (.list xs)) := rfl
@[simp] theorem listW_tup : listW st (.d (.tuple xs)) = some (.d (.list xs)) := rfl
@[simp] theorem ixW_d : ixW st (.d a) (.d (.int i)) = (ixD a i).map .d := rfl
@[simp] theorem ixD_list : ixD (.list xs) i = atI xs i := rfl
@[simp] theorem ixD_tup : ixD (.tuple xs) i = atI xs i := rfl
theorem ixD_str (h : z.length ≤ sizeLine) : ixD (.str z) i = (atI z.cps.toList i).map fun c => .str ⟨#[c]⟩ := if_pos h
theorem atI_nat {α : Type} {l : List α} {n : Nat} : atI l (n : Int) = l[n]? := by
  unfold atI ixN
  rw [if_pos (Int.natCast_nonneg n)]
  by_cases h : (n : Int) < (l.length : Int)
  · rw [if_pos h]
    show l[(n : Int).toNat]? = _
    rw [Int.toNat_natCast]
  · rw [if_neg h, List.getElem?_eq_none (by omega)]; rfl
@[simp] theorem atI_0 {α : Type} {l : List α} : atI l 0 = l[0]? := atI_nat (n := 0)
@[simp] theorem atI_1 {α : Type} {l : List α} : atI l 1 = l[1]? := atI_nat (n := 1)
@[simp] theorem atI_2 {α : Type} {l : List α} : atI l 2 = l[2]? := atI_nat (n := 2)
@[simp] theorem itemsT_tup : itemsT st (.d (.tuple xs)) = some (xs, always) := rfl
@[simp] theorem itemsW_list : itemsW st (.d (.list xs)) = some (xs, always) := rfl
@[simp] theorem itemsS_str : itemsS st (.d (.str z)) = some (signsD z, always) := rfl
@[simp] theorem isTy_int : isTyD .int (.int i) = true := rfl
@[simp] theorem allD_nil : allD [] = some [] := rfl
@[simp] theorem allD_cons {ws : List W} : allD (.d a :: ws) = (allD ws).map (a :: ·) := rfl
@[simp] theorem aName_eq {n : Nat} {ρ : Env} : aName n a ρ = some (ρ.set n (some (.w (.d a)))) := rfl
@[simp] theorem wipe_nil {ρ : Env} : wipeE ρ [] = ρ := rfl
@[simp] theorem wipe_cons {ρ : Env} {v : Nat} {vs : List Nat} : wipeE ρ (v :: vs) = (wipeE ρ vs).set v none := rfl
theorem boolsD_map (l : List Bool) : boolsD (l.map .bool) = some l := by
  induction l with
  | nil => rfl
  | cons b l ih => show (boolsD (l.map .bool)).map (b :: ·) = _; rw [ih]; rfl
theorem allW_map (l : List Bool) : allW st (.d (.list (l.map .bool))) = some (.d (.bool (l.all id))) := by
  show (boolsD (l.map .bool)).map _ = _
  rw [boolsD_map]; rfl
theorem allW_fn {α : Type} (f : α → Bool) (l : List α) : allW st (.d (.list (l.map fun a => .bool (f a)))) = some (.d (.bool (l.all f))) := by
  have h := allW_map (st := st) (l.map f)
  rw [List.map_map, List.all_map] at h
  exact h
theorem eqD_of (ha : SeqAt.shaped a = true) (hb : SeqAt.shaped b = true) : eqD a b = some (.bool (PyData.eqv a b)) := if_pos ⟨ha, hb⟩
theorem neD_of (ha : SeqAt.shaped a = true) (hb : SeqAt.shaped b = true) : neD a b = some (.bool (!PyData.eqv a b)) := if_pos ⟨ha, hb⟩
theorem shaped_int : SeqAt.shaped (.int i) = true := by simp [SeqAt.shaped, PyData.canLay0, PyData.depth]
theorem shaped_bool : SeqAt.shaped (.bool k) = true := by simp [SeqAt.shaped, PyData.canLay0, PyData.depth]
theorem shaped_none : SeqAt.shaped .none = true := by simp [SeqAt.shaped, PyData.canLay0, PyData.depth]
@[simp] theorem eqD_int : eqD (.int i) (.int j) = some (.bool (i == j)) := by rw [eqD_of shaped_int shaped_int]; simp [PyData.eqv]
@[simp] theorem neD_int : neD (.int i) (.int j) = some (.bool (!(i == j))) := by rw [neD_of shaped_int shaped_int]; simp [PyData.eqv]

/-- a comprehension without tests, told item by item -/
theorem wp_comp_map {α : Type} {ρ : Env} {vs : List Nat} {asg : As} {gt : Env → M Bool} {fe : Env → M W} {Qc : List W → Sto → Prop} {E : Ex → Sto → Prop} {st : Sto} (g v : α → PyData) (l : List α)
    (hs : ∀ a ∈ l, ∃ ρ1, asg (g a) (wipeE ρ vs) = some ρ1 ∧ gt ρ1 st = .ok true st ∧ fe ρ1 st = .ok (.d (v a)) st) (hq : Qc ((l.map v).map .d) st) : wpM (compL always vs asg gt fe ρ (l.map g) []) st Qc E := by
  refine wp_comp (fun rest acc s => s = st ∧ ∃ r : List α, rest = r.map g ∧ (∀ a ∈ r, a ∈ l) ∧ acc ++ (r.map v).map .d = (l.map v).map .d) (fun d ds acc s h => ?_) (fun acc s h => ?_) _ [] st ⟨rfl, l, rfl, fun _ h => h, rfl⟩
  · obtain ⟨rfl, r, e, hm, hl⟩ := h
    cases r with
    | nil => cases e
    | cons a r =>
      cases e
      obtain ⟨ρ1, h1, h2, h3⟩ := hs a (hm a List.mem_cons_self)
      refine ⟨ρ1, h1, wpM_of h2 ?_⟩
      rw [if_pos rfl]
      refine wpM_of h3 ⟨rfl, r, rfl, fun b hb => hm b (List.mem_cons_of_mem _ hb), ?_⟩
      rw [← hl]
      simp
  · obtain ⟨rfl, r, e, _, hl⟩ := h
    cases r with
    | nil => rw [List.map_nil, List.map_nil, List.append_nil] at hl; rw [hl]; exact hq
    | cons a r => cases e
/-- one with a test -/
theorem wp_comp_flt {α : Type} {ρ : Env} {vs : List Nat} {asg : As} {gt : Env → M Bool} {fe : Env → M W} {Qc : List W → Sto → Prop} {E : Ex → Sto → Prop} {st : Sto} (g v : α → PyData) (p : α → Bool) (l : List α)
    (hs : ∀ a ∈ l, ∃ ρ1, asg (g a) (wipeE ρ vs) = some ρ1 ∧ gt ρ1 st = .ok (p a) st ∧ (p a = true → fe ρ1 st = .ok (.d (v a)) st)) (hq : Qc (((l.filter p).map v).map .d) st) : wpM (compL always vs asg gt fe ρ (l.map g) []) st Qc E := by
  refine wp_comp (fun rest acc s => s = st ∧ ∃ r : List α, rest = r.map g ∧ (∀ a ∈ r, a ∈ l) ∧ acc ++ ((r.filter p).map v).map .d = ((l.filter p).map v).map .d) (fun d ds acc s h => ?_) (fun acc s h => ?_) _ [] st ⟨rfl, l, rfl, fun _ h => h, rfl⟩
  · obtain ⟨rfl, r, e, hm, hl⟩ := h
    cases r with
    | nil => cases e
    | cons a r =>
      cases e
      obtain ⟨ρ1, h1, h2, h3⟩ := hs a (hm a List.mem_cons_self)
      refine ⟨ρ1, h1, wpM_of h2 ?_⟩
      cases hp : p a with
      | true =>
        rw [if_pos rfl]
        refine wpM_of (h3 hp) ⟨rfl, r, rfl, fun b hb => hm b (List.mem_cons_of_mem _ hb), ?_⟩
        rw [← hl, List.filter_cons_of_pos hp]
        simp
      | false =>
        rw [if_neg Bool.false_ne_true]
        refine ⟨rfl, r, rfl, fun b hb => hm b (List.mem_cons_of_mem _ hb), ?_⟩
        rw [← hl, List.filter_cons_of_neg (by rw [hp]; exact Bool.false_ne_true)]
  · obtain ⟨rfl, r, e, _, hl⟩ := h
    cases r with
    | nil => rw [List.filter_nil, List.map_nil, List.map_nil, List.append_nil] at hl; rw [hl]; exact hq
    | cons a r => cases e

@[simp] theorem wp_noexE {α : Type} {m : M α} {st : Sto} {Q : α → Sto → Prop} {E : Ex → Sto → Prop} : wpM (noex m) st Q E = wpM m st Q fun _ _ => False := by
  unfold wpM noex
  cases m st <;> rfl
@[simp] theorem wp_comp_nil {ρ : Env} {vs : List Nat} {asg : As} {gt : Env → M Bool} {fe : Env → M W} {Q : List W → Sto → Prop} {E : Ex → Sto → Prop} {st : Sto} {acc : List W} : wpM (compL always vs asg gt fe ρ [] acc) st Q E = Q acc st := wpM_def
@[simp] theorem wp_comp_cons {ρ : Env} {vs : List Nat} {asg : As} {gt : Env → M Bool} {fe : Env → M W} {Q : List W → Sto → Prop} {E : Ex → Sto → Prop} {st : Sto} {acc : List W} {d : PyData} {ds : List PyData} : wpM (compL always vs asg gt fe ρ (d :: ds) acc) st Q E =
    match asg d (wipeE ρ vs) with
    | none => False
    | some ρ1 => wpM (gt ρ1) st (fun k s => if k = true then wpM (fe ρ1) s (fun w s' => wpM (compL always vs asg gt fe ρ ds (acc ++ [w])) s' Q E) (fun _ _ => False) else wpM (compL always vs asg gt fe ρ ds acc) s Q E) (fun _ _ => False) := by
  cases e : asg d (wipeE ρ vs) with
  | none =>
    have e2 : compL always vs asg gt fe ρ (d :: ds) acc st = R.bad := by
      show (if always st = true then (match asg d (wipeE ρ vs) with
        | none => R.bad
        | some ρ1 => bnd (noex (gt ρ1)) (fun k => if k = true then bnd (noex (fe ρ1)) fun w => compL always vs asg gt fe ρ ds (acc ++ [w]) else compL always vs asg gt fe ρ ds acc) st) else R.bad) = _
      rw [if_pos (show always st = true from rfl), e]
    have e3 : wpM (compL always vs asg gt fe ρ (d :: ds) acc) st Q E = False := by
      unfold wpM
      rw [e2]
    exact e3
  | some ρ1 =>
    have e2 : compL always vs asg gt fe ρ (d :: ds) acc st = (bnd (noex (gt ρ1)) fun k => if k = true then bnd (noex (fe ρ1)) fun w => compL always vs asg gt fe ρ ds (acc ++ [w]) else compL always vs asg gt fe ρ ds acc) st := by
      show (if always st = true then (match asg d (wipeE ρ vs) with
        | none => R.bad
        | some ρ1 => bnd (noex (gt ρ1)) (fun k => if k = true then bnd (noex (fe ρ1)) fun w => compL always vs asg gt fe ρ ds (acc ++ [w]) else compL always vs asg gt fe ρ ds acc) st) else R.bad) = _
      rw [if_pos (show always st = true from rfl), e]
    have e3 : wpM (compL always vs asg gt fe ρ (d :: ds) acc) st Q E = wpM (bnd (noex (gt ρ1)) fun k => if k = true then bnd (noex (fe ρ1)) fun w => compL always vs asg gt fe ρ ds (acc ++ [w]) else compL always vs asg gt fe ρ ds acc) st Q E := by
      unfold wpM
      rw [e2]
    rw [e3, wp_bnd, wp_noexE]
    dsimp only
    congr 1
    funext k s
    rw [wp_ite, wp_bnd, wp_noexE]
@[simp] theorem wp_loop_nil {ρ : Env} {asg : As} {body : S} {st : Sto} {D : Dn} : wpS (loopS always asg body []) ρ st D = D.nx ρ st := wpS_def
@[simp] theorem wp_loop_cons {ρ : Env} {asg : As} {body : S} {st : Sto} {D : Dn} {d : PyData} {ds : List PyData} : wpS (loopS always asg body (d :: ds)) ρ st D = match asg d ρ with
    | none => False
    | some ρ1 => wpS body ρ1 st ⟨fun ρ' s => wpS (loopS always asg body ds) ρ' s D, D.rt, D.nx, fun ρ' s => wpS (loopS always asg body ds) ρ' s D, D.ex⟩ := by
  unfold wpS
  show (match (if always st = true then (match asg d ρ with
    | none => .bad
    | some ρ1 => (match body ρ1 st with
      | .go (.nx ρ2) st2 => loopS always asg body ds ρ2 st2
      | .go (.ct ρ2) st2 => loopS always asg body ds ρ2 st2
      | .go (.bk ρ2) st2 => .go (.nx ρ2) st2
      | .go (.rt w) st2 => .go (.rt w) st2
      | .ex x ρ2 st2 => .ex x ρ2 st2
      | .bad => .bad)) else .bad : RS) with
    | .go (.nx ρ') st' => D.nx ρ' st'
    | .go (.rt w) st' => D.rt w st'
    | .go (.bk ρ') st' => D.bk ρ' st'
    | .go (.ct ρ') st' => D.ct ρ' st'
    | .ex x ρ' st' => D.ex x ρ' st'
    | .bad => False) = _
  rw [if_pos (show always st = true from rfl)]
  cases asg d ρ with
  | none => rfl
  | some ρ1 =>
    dsimp only
    cases body ρ1 st with
    | go fl s => cases fl <;> rfl
    | ex x r s => rfl
    | bad => rfl
@[simp] theorem notInT_str {kvs : List (Str × PyData)} {st : Sto} {z : Str} : notInT kvs st (.d (.str z)) = some (.d (.bool (!(kvs.lookup z).isSome))) := rfl
@[simp] theorem inT_str {kvs : List (Str × PyData)} {st : Sto} {z : Str} : inT kvs st (.d (.str z)) = some (.d (.bool (kvs.lookup z).isSome)) := rfl
@[simp] theorem ixT_str {kvs : List (Str × PyData)} {st : Sto} {z : Str} : ixT kvs st (.d (.str z)) = (kvs.lookup z).map .d := rfl
@[simp] theorem slW_d {st : Sto} {x : PyData} {lo hi : Option Int} : slW st (.d x) lo hi = (slD lo hi x).map .d := rfl
@[simp] theorem slD_tup {xs : List PyData} {lo hi : Option Int} : slD lo hi (.tuple xs) = some (.tuple (cutL xs lo hi)) := rfl
@[simp] theorem slD_list {xs : List PyData} {lo hi : Option Int} : slD lo hi (.list xs) = some (.list (cutL xs lo hi)) := rfl
@[simp] theorem asData_eq {ds : List PyData} {st : Sto} {Q : W → Sto → Prop} {E : Ex → Sto → Prop} {ws : List W} (h : allD ws = some ds) : wpM (asData ws) st Q E = Q (.d (.list ds)) st := by
  unfold asData
  rw [wp_liftO, h]; rfl
theorem wpM_eq {α : Type} {m : M α} {st st' : Sto} {a : α} {Q : α → Sto → Prop} {E : Ex → Sto → Prop} (h : m st = .ok a st') : wpM m st Q E = Q a st' := by unfold wpM; rw [h]
theorem wpM_eqX {α : Type} {m : M α} {st st' : Sto} {x : Ex} {Q : α → Sto → Prop} {E : Ex → Sto → Prop} (h : m st = .ex x st') : wpM m st Q E = E x st' := by unfold wpM; rw [h]

theorem wp_loop_map {α : Type} {asg : As} {body : S} {D : Dn} (g : α → PyData) (Inv : List α → Env → Sto → Prop) (hs : ∀ a r ρ st, Inv (a :: r) ρ st → ∃ ρ1, asg (g a) ρ = some ρ1 ∧ wpS body ρ1 st ⟨Inv r, D.rt, D.nx, Inv r, D.ex⟩) (he : ∀ ρ st, Inv [] ρ st → D.nx ρ st) :
    ∀ (l : List α) (ρ : Env) (st : Sto), Inv l ρ st → wpS (loopS always asg body (l.map g)) ρ st D
  | [], ρ, st, h => by rw [List.map_nil, wp_loop_nil]; exact he ρ st h
  | a :: r, ρ, st, h => by
    obtain ⟨ρ1, e, h1⟩ := hs a r ρ st h
    rw [List.map_cons, wp_loop_cons, e]
    exact wpS_mono h1 (fun ρ' s h2 => wp_loop_map g Inv hs he r ρ' s h2) (fun _ _ h => h) (fun _ _ h => h) (fun ρ' s h2 => wp_loop_map g Inv hs he r ρ' s h2) (fun _ _ _ h => h)
@[simp] theorem aTup2 {n : Nat} {b : List PyData → Env → Option Env} {ds : List PyData} {ρ : Env} : aTup n b (.tuple ds) ρ = if ds.length = n then b ds ρ else none := rfl
@[simp] theorem aCons_eq {x : As} {b : List PyData → Env → Option Env} {d : PyData} {ds : List PyData} {ρ : Env} : aCons x b (d :: ds) ρ = (x d ρ).bind (b ds) := rfl
@[simp] theorem aNil_eq {ρ : Env} : aNil [] ρ = some ρ := rfl
theorem isMut_at {st : Sto} {j : Nat} {ws : List W} (h : st[j]? = some (.lst ws)) : isMut st (.r j) = some () := by
  simp [isMut, h]
theorem putEnd_at {st : Sto} {j : Nat} {ws : List W} {v : W} (h : st[j]? = some (.lst ws)) (hz : ws.length < sizeLine) : putEnd st v (.r j) = some (st.set j (.lst (ws ++ [v]))) := by
  simp [putEnd, h, hz]
theorem last_at {α : Type} {l : List α} {a : α} : (l ++ [a])[l.length]? = some a := by simp
theorem last_set {α : Type} {l : List α} {a b : α} : (l ++ [a]).set l.length b = l ++ [b] := by simp
theorem allD_fn {α : Type} (f : α → PyData) (l : List α) : allD (l.map fun a => W.d (f a)) = some (l.map f) := allD_map f l
theorem sortSet_at {st : Sto} {j : Nat} {xs : List Str} (h : st[j]? = some (.lst (xs.map fun z => .d (.str z)))) (hz : xs.length < 4000) : sortSetW st (.r j) = some (.d (.list ((sortS xs).map .str))) := by
  have e : seqW st (.r j) = some (xs.map .str) := by
    show (match st[j]? with | some (.lst ws) => allD ws | _ => none) = _
    rw [h]
    exact allD_fn PyData.str xs
  unfold sortSetW textsW
  rw [e, Option.bind_some, strsD_map, Option.bind_some, if_pos hz]
theorem sortSet_d {st : Sto} {xs : List Str} (hz : xs.length < 4000) : sortSetW st (.d (.list (xs.map .str))) = some (.d (.list ((sortS xs).map .str))) := by
  unfold sortSetW textsW seqW
  show (strsD (xs.map .str)).bind _ = _
  rw [strsD_map]
  exact if_pos hz
theorem sortSet_t {st : Sto} {xs : List Str} (hz : xs.length < 4000) : sortSetW st (.d (.tuple (xs.map .str))) = some (.d (.list ((sortS xs).map .str))) := by
  unfold sortSetW textsW seqW
  show (strsD (xs.map .str)).bind _ = _
  rw [strsD_map]
  exact if_pos hz
end
end Ev
end
section
set_option Elab.async false
set_option linter.all false
set_option maxRecDepth 100000
set_option autoImplicit false
namespace Ev
open PySem PySem.Spec PyProof.Rows L2 LamX
theorem walk_ofK {l : PySem.W.OpenLaw} {n k N : Nat} {q : Program} {loose : List Str} {XP : (Str → Option Value) → Heap → Prop} {d : DefRec} {fa : List He.Fa} {fn : List He.DefD} {ts : List He.Tab} {tf : List He.Defn} {ex : PySem.W.Frag → Bool} {x p1 : Str} {args : Arguments} {body : List Stmt} {scope : Scope}
    {N1 : List Str} {fb : PySem.W.Frag → S} {i j : Nat} (hn : l.most = some n) (hn2 : n ≤ sizeLine) (hdf : d.params.defaults = []) (hr : Room (k + 1) callerA) (hname : d.name = x) (hfn : fn[i]? = some ⟨(x, none), x, x, args, body, scope, [], []⟩) (hfa : fa[j]? = some (.glo x))
    (S : FnScope N1 [p1] scope) (hN : 0 < N1.length) (bd : BindsAll x args body scope [p1]) (hb : ∀ g : Gd, g.P = l.prog → Gnd fa fn ts tf ex g → Does g x body scope N1 k (fb g.K)) (htf : ∀ K, ex K = true → (tf.map fun p => (He.cT K p).2).Nodup)
    (good : ∀ (K : PySem.W.Frag) (ns : List Int), ns.length ≤ n → (∀ z ∈ ns, Builtin.Int.intBits z ≤ 1048576) → ∃ st', runS N1.length (fb K) ns (tabs0 K tf) = .ok (.d (.bool true)) st') :
    PySem.W.WalkO q loose XP (He.hookX N fa fn ts tf ex).says l.row.toRowW d [] (fun f vs => PySem.call f vs) := by
  refine Att.attach_callB hn hdf fun w s₀ s₁ mg mb fa' o pm cd doc a vs ns G Y ho hd hcd hmg hobj hints hlen hbits hg => ?_
  obtain ⟨K, KX, s⟩ := Y
  have mf : mg x = some (.ref (He.ga K x)) := He.glo_ok KX G.T.g (s.t.d.fact j hfa)
  rw [hname, mf] at hmg
  cases hmg
  obtain ⟨fd, FD⟩ := s.t.d.def_ i hfn
  have B := FD.bindsA bd
  have C : ∀ p ∈ tf.map (He.cT K), PySem.W.CodeHd s₁.heap p.1 p.2 := fun p hp => by
    obtain ⟨p', hp', rfl⟩ := List.mem_map.mp hp
    exact PySem.W.codeHd_of_K KX (s.hd p' hp')
  refine law_callTs (cs := tf.map (He.cT K)) (sp := spS ⟨l.prog, w, K, mg, s₁.heap⟩ (runS N1.length (fb K))) (CX := L2.CX l.prog w) (k := k + 1) (fd := fd) (x := p1) KX G.T.g G.T.b G.T.builtins G.T.nolimit hg (fun p hp => ?_) (fun p hp => ?_) C G.T.bmain hobj hints (Nat.le_trans hlen hn2) hr (fun base KB GB TB => ?_) (fun s u => B s [u] rfl) (fun H hT hS => ?_) fun H e s' h => ?_
  · obtain ⟨p', hp', rfl⟩ := List.mem_map.mp hp
    exact s.empty p' hp'
  · obtain ⟨p', hp', rfl⟩ := List.mem_map.mp hp
    exact s.out p' hp'
  · have GN : Gnd fa fn ts tf ex ⟨l.prog, w, K, mg, base⟩ := ⟨⟨s₁.heap, KX, G.T.g, s⟩, fun p hp => TB _ (List.mem_map.mpr ⟨p, hp, rfl⟩)⟩
    obtain ⟨fd2, FD2, ok⟩ := fnS_ok (GN.fnAt i j hfn hfa) S hN (hb _ rfl GN)
    have e : fd2 = fd := by
      obtain ⟨oc, od, dV, kV, doc, pm, an, cdv, ct, osl, r1, lk, _⟩ := FD.ex
      obtain ⟨oc2, od2, dV2, kV2, doc2, pm2, an2, cdv2, ct2, osl2, r2, lk2, _⟩ := FD2.ex
      have q := lk2.symm.trans lk
      cases Option.some.inj q
      rfl
    subst e
    exact ok
  · have hmem : ∀ p ∈ tf, H (He.cT K p).2 = some (.tbl #[]) := fun p hp => hT _ (List.mem_map.mpr ⟨p, hp, rfl⟩)
    obtain ⟨st', hgood⟩ := good K ns hlen hbits
    have key : ∃ F : Hp, SqL K F a (ns.map V.int) ∧ Same F H ∧ (∀ b ps, F b ≠ some (.tbl ps)) ∧ ∀ b ps, H b = some (.tbl ps) → F b = none := by
      rcases hS with hR | hK
      · have ha : ∃ o, H a = some o ∧ ∀ ps, o ≠ .tbl ps := by
          rcases hR with h | ⟨o, h⟩
          · exact ⟨_, h, nofun⟩
          · exact ⟨_, h, nofun⟩
        obtain ⟨o, ha, hn⟩ := ha
        have e1 : (fun b => if b = a then H b else none : Hp) a = H a := if_pos rfl
        have e2 : ∀ b, (fun b => if b = a then H b else none : Hp) b = none ∨ b = a := fun b => by
          by_cases hb : b = a
          · exact .inr hb
          · exact .inl (if_neg hb)
        refine ⟨fun b => if b = a then H b else none, .inl ?_, fun b u e => ?_, fun b ps e => ?_, fun b ps e => ?_⟩
        · rcases hR with h | ⟨o, h⟩
          · exact .inl (e1.trans h)
          · exact .inr ⟨o, e1.trans h⟩
        · rcases e2 b with z | z
          · rw [z] at e; cases e
          · subst z; rw [e1] at e; exact e
        · rcases e2 b with z | z
          · rw [z] at e; cases e
          · subst z; rw [e1, ha] at e; exact hn ps (Option.some.inj e)
        · rcases e2 b with z | z
          · exact z
          · subst z; rw [ha] at e; exact absurd (Option.some.inj e) (hn ps)
      · exact ⟨fun _ => none, .inr hK, nofun, nofun, fun _ _ _ => rfl⟩
    obtain ⟨F, f1, f2, f3, f4⟩ := key
    have rl : Rel K F (tf.map fun p => (He.cT K p).2) (tabs0 K tf) H := by
      refine ⟨f2, by simp [tabs0], ?_, fun i b so h1 h2 h3 => ?_, fun b hb => ?_, fun i b so h1 h2 => ?_, f3⟩
      · exact htf K s.more
      · obtain ⟨p, hp, rfl⟩ := List.mem_map.mp (List.mem_of_getElem? h1)
        exact f4 _ _ (hmem p hp)
      · obtain ⟨p, hp, rfl⟩ := List.mem_map.mp hb
        exact ⟨_, hmem p hp⟩
      · rw [List.getElem?_map] at h1
        unfold tabs0 at h2
        rw [List.getElem?_map] at h2
        cases hp : tf[i]? with
        | none => rw [hp] at h1; cases h1
        | some p =>
          rw [hp] at h1 h2
          cases Option.some.inj h1
          cases Option.some.inj h2
          exact ⟨rfl, #[], hmem p (List.mem_of_getElem? hp), trivial, fun pos cv e => by simp [codeAmong] at e⟩
    refine ⟨rfl, F, _, _, a, ns, rfl, f1, rl, ?_⟩
    show After _ _ _ _ _ (runS N1.length (fb K) ns (tabs0 K tf)) _
    rw [hgood]
    exact fun F' m' H' _ _ _ v hv => dq_bool hv
  · obtain ⟨_, _, _, _, _, _, _, _, _, _, _, _, z⟩ := h
    exact z
end Ev
end
section
set_option Elab.async false
set_option linter.all false
set_option maxRecDepth 100000
set_option autoImplicit false
namespace Ev
open PySem PySem.Spec PyProof.Rows L2
open Sem (wp)
/-! ## enumerate(tuple) -/
set_option maxHeartbeats 1000000 in
theorem meets_enumB {v : Value} {o : Obj} {H : Heap → Prop} (B : Begins v o H) :
    Meets (Builtin.«enumerate.__new__» ⟨[.type "enumerate", v], []⟩) (fun _ R s => H s.heap ∧
      R (.ok (.ret (.ref (s.heap.push o).objs.size))) { s with heap := (s.heap.push o).push { cls := .type "enumerate", data := .fields #[.none, .bool false, .ref s.heap.objs.size, rawInt 0, .none, .none] } }) :=
  .of_wp fun prog w A R s h => by
    obtain ⟨hp, g, d, tk, os⟩ := s; obtain ⟨h1, h⟩ := h
    have hsub := sub_enumerate
    have q1 : ∀ {A' : Around} {E : Value → Shared → Prop} {Q : Value → Shared → Prop}, Q (.ref hp.objs.size) ⟨hp.push o, g, d, tk, os⟩ → wpAny (model prog w) A' (pyIter v) Q E ⟨hp, g, d, tk, os⟩ :=
      fun q => B.iter prog w _ _ ⟨hp, g, d, tk, os⟩ _ h1 q
    wp_walk using q1
    refine wpAny_stack_any fun st => wpAny_pure ?_
    split
    · rename_i c _ _ _ _ _
      cases (c == Value.type "enumerate")
      · wp_walk using q1
        exact ⟨_, rfl, h⟩
      · wp_walk using q1
        exact ⟨_, rfl, h⟩
    · wp_walk using q1
      exact ⟨_, rfl, h⟩
section
variable {prog : Program} {w : World} {A : Around} {E : Value → Shared → Prop} {s : Shared}
theorem enumB {v : Value} {o : Obj} {H : Heap → Prop} {Q : Value → Shared → Prop} (B : Begins v o H) (h1 : H s.heap)
    (h : ∀ h', IsEnum h' (s.heap.objs.size + 1) s.heap.objs.size 0 .none → h'.get? s.heap.objs.size = some o → h'.objs.size = s.heap.objs.size + 2 →
      (∀ b o, s.heap.get? b = some o → h'.get? b = some o) → Q (.ref (s.heap.objs.size + 1)) { s with heap := h' }) :
    wpAny (model prog w) A (call (.type "enumerate") [v]) Q E s := by
  refine callType_new F.called_enumerate (by decide) (F.typeCall_enumerate_1 _) (F.newCall_enumerate_1 _) (fun obj => F.args_object_init_2 obj _) F.entry_enumerate_new
    (meets_enumB B) ⟨h1, ?_⟩
  have hz : (s.heap.push o).objs.size = s.heap.objs.size + 1 := Heap.size_push ..
  show _ ∧ _
  rw [hz]
  have he : IsEnum ((s.heap.push o).push { cls := .type "enumerate", data := .fields #[.none, .bool false, .ref s.heap.objs.size, rawInt 0, .none, .none] }) (s.heap.objs.size + 1) s.heap.objs.size 0 .none := by
    have := Heap.get?_push_size (s.heap.push o) (o := { cls := .type "enumerate", data := .fields #[.none, .bool false, .ref s.heap.objs.size, rawInt 0, .none, .none] }) rfl
    rw [hz] at this; exact this
  refine ⟨⟨_, he, rfl⟩, h _ he (Heap.get?_push_of_some _ (Heap.get?_push_size _ B.free)) (by rw [Heap.size_push, hz]) fun b o x => Heap.get?_push_of_some _ (Heap.get?_push_of_some _ x)⟩
end
/-- the tuple at a, each item in a new pair -/
def IteT (K : PySem.W.Frag) (a : Addr) : It :=
  ⟨fun i H => ∃ (xs : List V) (x : V), SqT K H a xs ∧ xs[i]? = some x, fun i H v H' => ∃ T x, v = .ref T ∧ H T = none ∧ H' = upd H T (.tup [.int (i : Nat), x]) ∧ ∀ xs, SqT K H a xs → xs[i]? = some x, fun i H => ∃ xs : List V, SqT K H a xs ∧ xs.length ≤ i⟩
theorem turn_enumT {P : Program} {w : World} {K : PySem.W.Frag} {elts : List Expr} {kk : Nat} {tpos : Pos} (a e it : Addr) :
    Turn P w K (.Tuple elts kk tpos) (IteT K a) [e, it] e (fun i h => (∃ old, IsEnum h e it ((i : Nat) : Int) old) ∧ h.IsTupleIter it a i ∧ e ≠ it ∧ e ≠ a ∧ a ≠ it) where
  mem := by simp
  obj := fun i h st b hb => by
    obtain ⟨⟨old, he⟩, ⟨o, ho, hc, hd⟩, _⟩ := st
    have e' : b = e ∨ b = it := by simpa using hb
    rcases e' with z | z
    · rw [z]; exact ⟨_, he, fun v q => nomatch q⟩
    · rw [z]; exact ⟨o, ho, fun v q => by rw [hd] at q; cases q⟩
  keep := fun i h h' st k => let ⟨⟨old, he⟩, hi, hne⟩ := st; ⟨⟨old, k e (by simp) _ he⟩, hi.at fun o q => k it (by simp) o q, hne⟩
  item := by
    intro X hP hw hK hc i pins s σ H E I hf st hg
    subst hP hw hK
    obtain ⟨⟨old, he⟩, hit, hne, hea, hai⟩ := st
    obtain ⟨xs, x, hq, hx⟩ := hg
    obtain ⟨its, rv, p, hz⟩ := I.tuple hq
    obtain ⟨u, hu, ru⟩ := rv.get hx
    have hel : e < s.heap.objs.size := Heap.lt_size he
    have hil : it < s.heap.objs.size := by obtain ⟨_, q, _⟩ := hit; exact Heap.lt_size q
    have hlt : i < its.toArray.size := by
      have := (List.getElem?_eq_some_iff.mp hu).1
      simpa using this
    refine wpAny_pyNext_enum_itemD (Draws.tuple (prog := X.prog) (w := X.w) (A := X.A.in1) (I.ok.hd hc) it a hai its.toArray) he ⟨hit, show s.heap.IsTuple a its.toArray from p⟩ hlt hne (by simp [hne, hea]) fun x' h' tk hx' ho hst hT hsz hk => ?_
    have ex : x' = u := by
      have h1 : its.toArray[i]? = some x' := hx'
      have h2 : its.toArray[i]? = some u := by simpa using hu
      rw [h2] at h1; exact (Option.some.inj h1).symm
    subst ex
    refine ⟨_, rfl, wpAny_letOwnedTupleGo_enum (s := { s with heap := h', toks := tk + 1 }) ho fun h'' he' sb => ?_⟩
    have hT2 : h''.get? s.heap.objs.size = some { cls := .type "tuple", data := .seq #[.int i tk, x'] } := (sb.2 _ (Nat.ne_of_gt hel)).trans hT
    have new : ObjOk X.prog X.w (upd H s.heap.objs.size (.tup [.int (i : Nat), x])) h'' s.heap.objs.size (.tup [.int (i : Nat), x]) :=
      ⟨by show 2 ≤ sizeLine; decide, [.int i tk, x'], .cons ⟨_, rfl⟩ (.cons ru .nil), ⟨_, hT2, rfl, _, rfl⟩⟩
    have I1 : Inv X pins σ (upd H s.heap.objs.size (.tup [.int (i : Nat), x])) { s with heap := h'', toks := tk + 1 } :=
      I.turnedNew (ch := [e, it]) (fun b ob hb q => (sb.2 b (fun z => hb (by simp [z]))).trans (hk b ob (fun z => hb (by simp [z])) (fun z => hb (by simp [z])) q)) hf (Nat.le_refl _) new
    refine ⟨.ref s.heap.objs.size, _, I1, rfl, ⟨_, x, rfl, I.hok.fresh (Nat.le_refl _), rfl, fun ys hy => by rw [I.tuple_inj hy hq]; exact hx⟩, ⟨⟨x', ?_⟩, hst.1.at fun o q => (sb.2 it (Ne.symm hne)).trans q, hne, hea, hai⟩, fun b hb => ?_⟩
    · have e1 : ((i + 1 : Nat) : Int) = (i : Int) + 1 := by omega
      rw [e1]; exact he'
    · have hb' : b < s.heap.objs.size := by
        have e' : b = e ∨ b = it := by simpa using hb
        rcases e' with z | z
        · rw [z]; exact hel
        · rw [z]; exact hil
      rw [upd_ne (Nat.ne_of_lt hb')]
      exact (hf b hb).1
  done := by
    intro X hP hw hK hc i pins s σ H E I hf st hg
    subst hP hw hK
    obtain ⟨⟨old, he⟩, hit, hne, hea, hai⟩ := st
    obtain ⟨xs, hq, hx⟩ := hg
    obtain ⟨its, rv, p, hz⟩ := I.tuple hq
    obtain ⟨f0, f1, f2, f3, f4, f5⟩ := hf it (by simp)
    have hl := rv.length
    have hT : s.TypeIs (.ref e) "enumerate" := ⟨_, he, rfl⟩
    unfold pyNext
    refine wpAny_bind (wpAny_attempt (wpAny_callSpecial?_slot (name := Str.ofString "__next__") hT F.slot_enumerate_next
      (wpAny_call_entry F.slot_enumerate_next hT F.entry_enumerate_next ?_ (F.args_enumerate_next_1 _))))
    show wpAny _ _ (field (.ref e) 2 >>= _) _ _ _
    refine wpAny_bind (wpAny_field he rfl (x := .ref it) rfl ?_)
    refine wpAny_bind (wpAny_nextOf_tuple_end (I.ok.hd hc) hit (show s.heap.IsTuple a its.toArray from p) (by simp; omega) fun h' x he' hx' => ?_)
    obtain ⟨o, ho, hc2⟩ := hx'
    refine wpAny_bind (wpAny_isInstance (T := "StopIteration") (b := true) ⟨o, ho, hc2⟩ isSubtype_stop ?_)
    exact wpAny_pure ⟨rfl, I.turned (t' := s.toks) (fun b o hb q => he' b o hb q) f0 f1 f3 f4 f5⟩
  self := fun A i s Q E st h => let ⟨⟨_, he⟩, _⟩ := st; wpAny_pyIter_enum he h
def iEnumT (K : PySem.W.Frag) (ta : TA) : TI := fun σ H R => ta σ H fun vs H1 => ∃ a xs, vs = [.ref a] ∧ SqT K H1 a xs ∧ R (IteT K a) H1
theorem pi_enumT {X : Cx} {e : Expr} {ta : TA} {p pos tpos : Pos} {elts : List Expr} {kk : Nat} (hg : Gl X "enumerate") (hm : X.mg "enumerate" = none) (ha : PA X [e] ta) (hs : starEach [e] X.env = [(false, eval e X.env)] := by rfl) :
    PI X (.Tuple elts kk tpos) (.Call (.Name "enumerate" p) [e] [] pos) (iEnumT X.K ta) := by
  refine ⟨fun pins s σ H R I h => ?_⟩
  refine Call_ (ld_blt I hg hm boot_enumerate (PyProof.Rows.callWith_type1 (thn (ha.run pos pins s σ H _ I h) fun us s1 ⟨vs, H1, I1, r1, q1⟩ => ?_) hs rfl))
  obtain ⟨a, xs, ex, hq, q⟩ := q1
  subst ex
  cases r1 with
  | cons r rr =>
    cases rr
    cases r
    obtain ⟨its, rv, p', hz⟩ := I1.tuple hq
    have hal : a < s1.heap.objs.size := by obtain ⟨o, q, _⟩ := p'; exact Heap.lt_size q
    refine enumB (begins_tuple a its.toArray) (show s1.heap.IsTuple a its.toArray from p') fun h' he hit hsz hk => wpAny_pyIter_enum he ?_
    have I2 : Inv X pins σ H1 { s1 with heap := h' } := I1.kept (t' := s1.toks) hk
    refine ⟨s1.heap.objs.size + 1, [s1.heap.objs.size + 1, s1.heap.objs.size], _, _, H1, rfl, I2, turn_enumT a (s1.heap.objs.size + 1) s1.heap.objs.size, ⟨⟨.none, he⟩, ⟨_, hit, rfl, rfl⟩, Nat.succ_ne_self _, fun z => ?_, Nat.ne_of_lt hal⟩, fun b hb => ?_, q⟩
    · have z' : s1.heap.objs.size + 1 = a := z
      exact absurd hal (by rw [← z']; exact Nat.not_lt.mpr (Nat.le_succ _))
    have e' : b = s1.heap.objs.size + 1 ∨ b = s1.heap.objs.size := by simpa using hb
    have hle : s1.heap.objs.size ≤ b := by
      rcases e' with z | z
      · rw [z]; exact Nat.le_add_right _ _
      · rw [z]; exact Nat.le_refl _
    exact I1.fpOk hle (I1.hok.fresh hle)
/-- the pairs of enumerate -/
def enumL : Nat → List PyData → List PyData
  | _, [] => []
  | i, d :: r => .tuple [.int (i : Nat), d] :: enumL (i + 1) r
theorem enumL_get : ∀ {ds : List PyData} {k i : Nat}, (enumL k ds)[i]? = ds[i]?.map fun d => .tuple [.int ((k + i : Nat) : Int), d]
  | [], _, _ => rfl
  | d :: r, k, 0 => rfl
  | d :: r, k, i + 1 => by
    show (enumL (k + 1) r)[i]? = _
    rw [enumL_get, show k + 1 + i = k + (i + 1) from by omega]
    rfl
theorem enumL_len : ∀ {ds : List PyData} {k : Nat}, (enumL k ds).length = ds.length
  | [], _ => rfl
  | _ :: _, _ => congrArg (· + 1) enumL_len
section
variable {X : Cx} {Wx : WX} {tg e a b : Expr} {f fa fb : Env → M W} {p pos : Pos} {K : PySem.W.Frag} {F : Hp} {m : List Addr} {xs : List V} {ds : List PyData} {ad : Addr}
theorem walk_enumT : Walk (IteT K ad) xs.length (fun H => SqT K H ad xs) (YPair (fun i => some (.int (i : Nat))) (fun i => xs[i]?)) := by
  refine ⟨fun i _ hi q => ⟨xs, xs[i], q, by simp [hi]⟩, fun _ q => ⟨xs, q, Nat.le_refl _⟩, fun i H v H' _ q y => ?_⟩
  obtain ⟨T, x, h1, h2, h3, h4⟩ := y
  exact ⟨T, .int (i : Nat), x, h1, h2, h3, rfl, h4 xs q⟩
theorem io_pair {J : It} {G : Hp → Prop} (w : Walk J xs.length G (YPair (fun i => some (.int (i : Nat))) (fun i => xs[i]?))) (hG : ∀ F1 H, Same F F1 → Same F1 H → G H) (t : DqAll K F xs ds) : IOk K F m J (enumL 0 ds, always) := by
  refine ⟨_, _, by rw [show (enumL 0 ds).length = xs.length from enumL_len.trans t.length.symm]; exact w, fun F1 m1 st1 H s p r _ => hG F1 H s r.sub, fun i H x H' F1 m1 st1 s p r _ y => ?_⟩
  obtain ⟨T, u, v, rfl, hT, rfl, eu, y⟩ := y
  cases Option.some.inj eu
  obtain ⟨d, h1, h2⟩ := t.get' y
  have sm := same_new (o := .tup [.int (i : Nat), v]) r hT
  refine ⟨upd F1 T (.tup [.int (i : Nat), v]), .tuple [.int (i : Nat), d], sm, r.new hT, ?_, .tup (.inl (.inl (upd_same))) (.cons (.int _) (.cons (h2.mono (s.trans sm)) .nil)), fun b o z => ?_, fun b o z => ?_⟩
  · show (enumL 0 ds)[i]? = _
    rw [enumL_get, h1, Nat.zero_add]; rfl
  · rw [upd_ne (ne_of_none z hT)]; exact z
  · rw [upd_ne (ne_of_none z hT)]
theorem io_enumT (h : SqT K F ad xs) (t : DqAll K F xs ds) : IOk K F m (IteT K ad) (enumL 0 ds, always) := io_pair walk_enumT (fun F1 H s r => seqT_mono (s.trans r) h) t
theorem io_enum (h : SqL K F ad xs) (t : DqAll K F xs ds) : IOk K F m (Ite K ad) (enumL 0 ds, always) := io_pair walk_enum (fun F1 H s r => seqL_mono (s.trans r) h) t
def enumT (fs : Env → M (List W)) : Env → M Its := fun ρ => bnd (fs ρ) fun ws => liftO fun _ => match ws with
  | [.d (.tuple xs)] => some (enumL 0 xs, always)
  | _ => none
def enumW (fs : Env → M (List W)) : Env → M Its := fun ρ => bnd (fs ρ) fun ws => liftO fun _ => match ws with
  | [.d (.list xs)] => some (enumL 0 xs, always)
  | _ => none
theorem si_enumT {fs : Env → M (List W)} {tp : Pos} {es : List Expr} {kk : Nat} (hg : Gl X "enumerate") (hm : X.mg "enumerate" = none) (ha : SA X Wx [a] fs) (hs : starEach [a] X.env = [(false, eval a X.env)] := by rfl) : SI X Wx (.Tuple es kk tp) (.Call (.Name "enumerate" p) [a] [] pos) (enumT fs) :=
  PI.imp (pi_enumT hg hm ha hs) fun σ H R hh => by
    obtain ⟨F, m, st, ρ, er, rl, hh⟩ := hh
    refine ⟨F, m, st, ρ, er, rl, After.mono (Same.refl F) (List.prefix_refl m) hh.bnd fun w F1 m1 H1 s1 p1 ⟨st1, _, _, rl1, h1⟩ vs r1 => ?_⟩
    obtain ⟨q, e, k⟩ := h1.liftO
    split at e
    · obtain ⟨v, rfl, rv⟩ := wrs1 r1
      obtain ⟨a, xs, rfl, h2, t⟩ := dq_tup rv
      cases Option.some.inj e
      exact ⟨a, xs, rfl, seqT_mono rl1.sub h2, k F1 m1 H1 (Same.refl _) (List.prefix_refl _) rl1 _ (io_enumT h2 t)⟩
    · cases e
theorem si_enumW {fs : Env → M (List W)} {tp : Pos} {es : List Expr} {kk : Nat} (hg : Gl X "enumerate") (hm : X.mg "enumerate" = none) (ha : SA X Wx [a] fs) (hs : starEach [a] X.env = [(false, eval a X.env)] := by rfl) : SI X Wx (.Tuple es kk tp) (.Call (.Name "enumerate" p) [a] [] pos) (enumW fs) :=
  PI.imp (pi_enum hg hm ha hs) fun σ H R hh => by
    obtain ⟨F, m, st, ρ, er, rl, hh⟩ := hh
    refine ⟨F, m, st, ρ, er, rl, After.mono (Same.refl F) (List.prefix_refl m) hh.bnd fun w F1 m1 H1 s1 p1 ⟨st1, _, _, rl1, h1⟩ vs r1 => ?_⟩
    obtain ⟨q, e, k⟩ := h1.liftO
    split at e
    · obtain ⟨v, rfl, rv⟩ := wrs1 r1
      obtain ⟨a, xs, rfl, h2, t⟩ := dq_lst rv
      cases Option.some.inj e
      exact ⟨a, xs, rfl, SqL.of (rl1.sub _ _ h2), k F1 m1 H1 (Same.refl _) (List.prefix_refl _) rl1 _ (io_enum (SqL.of h2) t)⟩
    · cases e
end
end Ev
end
section
set_option Elab.async false
set_option linter.all false
set_option maxRecDepth 100000
set_option autoImplicit false
namespace Ev
open PySem PySem.Spec PyProof.Rows L2
/-! ## sorted(texts), a list or a tuple -/
section
variable {X : Cx}
theorem vals_strs {P : Program} {w : World} : ∀ {xs : List Str} {us : List Value}, Vals (xs.map V.str) us → PySem.W.EachIs (fun v k => Value.isStrOf k v = true ∧ v.scannable = true) us xs
  | [], _, .nil => .nil
  | x :: xs, _, .cons h t => by
    obtain ⟨tk, rfl⟩ := h
    exact .cons ⟨by simp [Value.isStrOf, Value.isStr], rfl⟩ (vals_strs (P := P) (w := w) t)
def rSortSq (X : Cx) : List V → Hp → VK → Prop := fun vs H Q => ∃ (a : Addr) (xs : List Str), vs = [.ref a] ∧ (SqL X.K H a (xs.map V.str) ∨ SqT X.K H a (xs.map V.str)) ∧ xs.length < 4000 ∧
    ∀ q, H q = none → Q (.ref q) (upd H q (.lst ((xs.mergeSort leS).map V.str)))
theorem cr_sortSq (hu : X.A.units + 65 < cLine) : CallR X (.builtin "sorted") (rSortSq X) := by
  intro pins s σ H vs us Q I r hh
  obtain ⟨a, xs, rfl, hq, hz, q⟩ := hh
  obtain ⟨u, rfl, ru⟩ := vals1 r
  obtain rfl : u = Value.ref a := ru
  have get : ∃ (its : List Value) (T : String) (o : Obj) (n : Nat), Vals (xs.map V.str) its ∧ (T = "list" ∨ T = "tuple") ∧ s.heap.get? a = some o ∧ o.cls = .type T ∧ o.data = .seq its.toArray n := by
    rcases hq with hq | hq
    · obtain ⟨its, rv, hl, _⟩ := I.list hq
      obtain ⟨o, h1, h2, n, h3⟩ := hl.isList
      exact ⟨its, "list", o, n, rv, .inl rfl, h1, h2, h3⟩
    · obtain ⟨its, rv, hl, _⟩ := I.tuple hq
      obtain ⟨o, h1, h2, n, h3⟩ := hl
      exact ⟨its, "tuple", o, n, rv, .inr rfl, h1, h2, h3⟩
  obtain ⟨its, T, o, n, rv, hT, ho, hc, hd⟩ := get
  have hlen : its.length = xs.length := by rw [← rv.length, List.length_map]
  refine Calls.call_function_entry kind_sorted plain_sorted entry_sorted (args_sorted1 _) ?_
  unfold Builtin.«sorted»
  refine wpAny_bind (m := checkCount "sorted" 1 1 _) (wpAny_pure ?_)
  refine wpAny_bind (wpAny_collect_seq a hT ho hc hd (fun h1 k1 => ?_) (by show its.toArray.size ≤ sizeLine; rw [List.size_toArray, hlen, sizeLine_eq]; omega))
  refine wpAny_bind (wpAny_newList ?_ (by show its.toArray.toList.length ≤ _; rw [List.toList_toArray, hlen, sizeLine_eq]; omega))
  have hoL : (h1.push (seqObj "list" its.toArray 0)).get? h1.objs.size = some (seqObj "list" its.toArray 0) := Heap.get?_push_size _ rfl
  have e1 := vals_strs (P := X.prog) (w := X.w) rv
  have hL : xs.length ≤ sizeLine := by rw [sizeLine_eq]; omega
  refine wpAny_bind (wpAny_holding (PySem.W.list_sort_data (s := { s with heap := h1.push (seqObj "list" its.toArray 0) }) (enc := PyData.str) hoL e1 ?_ (PySem.W.AllAlike.of fun _ _ => rfl) (PySem.W.Sortable.others fun b => ⟨nofun, nofun⟩) hL (fun b _ => ?_) fun out2 hl2 eo => ?_))
  · refine e1.mono fun v k h => ?_
    obtain ⟨tk, e⟩ := Value.isStrOf_shape h.1
    rw [e]
    exact ⟨[], .str _ _, by simp⟩
  · have hu1 : X.A.in1.units = X.A.units + 1 := rfl
    have hdp : (PyData.str b).depth = 0 := by simp [PyData.depth]
    omega
  · obtain ⟨c, hc2⟩ := sortedHeap_at (vs := its) (out := List.toArray out2) hoL
    rw [PySem.W.dataLe_str (fun k : Str => k)] at eo
    have eo : PySem.W.EachIs (fun v k => Value.isStrOf k v = true ∧ v.scannable = true) out2 (xs.mergeSort leS) := eo
    have kall : ∀ b o, h1.get? b = some o → (sortedHeap (h1.push (seqObj "list" its.toArray 0)) h1.objs.size its (List.toArray out2)).get? b = some o := fun b o e => by
      have hlt := Heap.lt_size e
      rw [sortedHeap_old (Nat.ne_of_lt hlt) (by rw [size_push']; exact Nat.lt_succ_of_lt hlt)]
      exact Heap.get?_push_of_some _ e
    have I1 : Inv X pins σ H { s with heap := h1 } := I.kept (t' := s.toks) k1
    refine wpAny_pure ⟨_, rfl, .ref h1.objs.size, upd H h1.objs.size (.lst ((xs.mergeSort leS).map V.str)), I1.laid (t' := s.toks) kall (Nat.le_refl _) ⟨?_, out2, c, strs_vals eo, hc2⟩, rfl, q _ (I1.hok.fresh (Nat.le_refl _))⟩
    rw [List.length_map, (List.mergeSort_perm xs leS).length_eq]; exact hL
end
section
variable {X : Cx} {Wx : WX} {e : Expr} {p1 p4 : Pos} {f : Env → M W}
def sortW (st : Sto) (w : W) : Option W := (textsW st w).bind fun xs => if xs.length < 4000 then some (.d (.list ((xs.mergeSort leS).map .str))) else none
theorem se_sortW (hu : X.A.units + 65 < cLine) (he : SE X Wx e f) (hg1 : Gl X "sorted") (hm1 : X.mg "sorted" = none) (hs : starEach [e] X.env = [(false, eval e X.env)] := by rfl) :
    SE X Wx (.Call (.Name "sorted" p1) [e] [] p4) (op1 sortW f) :=
  PE.imp (pe_callB (cr_sortSq hu) hg1 hm1 boot_sorted (pa_cons he pa_nil hs) (he := hs)) fun σ H Q h => by
    obtain ⟨F, m, st, ρ, er, rl, h⟩ := h
    refine ⟨F, m, st, ρ, er, rl, After.mono (Same.refl F) (List.prefix_refl m) h.bnd fun w F1 m1 H1 s1 p1 ⟨st1, _, _, rl1, h1⟩ v r1 => ?_⟩
    obtain ⟨w', e1, q⟩ := h1.liftO
    unfold sortW textsW at e1
    cases z : seqW st1 w with
    | none => rw [z] at e1; cases e1
    | some ds =>
      rw [z] at e1
      cases z2 : strsD ds with
      | none => rw [show (some ds : Option (List PyData)).bind strsD = none from z2] at e1; cases e1
      | some xs =>
        rw [show (some ds : Option (List PyData)).bind strsD = some xs from z2] at e1
        have e1 : (if xs.length < 4000 then some (W.d (.list ((xs.mergeSort leS).map .str))) else none) = some w' := e1
        split at e1
        · rename_i hz
          cases Option.some.inj e1
          have ed := strsD_eq z2
          subst ed
          obtain ⟨a, ws, rfl, t, hs'⟩ := seqW_ok rl1 r1 z
          rw [dq_strs t] at hs'
          refine ⟨a, xs, rfl, hs'.imp id (·.1), hz, fun q' hq' => ?_⟩
          exact rM_lst (fun F' m' H' v s p r hv => q F' m' H' s p r v hv) rl1 hq' (dq_ofStrs _)
        · cases e1
end
end Ev
end
section
set_option Elab.async false
set_option linter.all false
set_option maxRecDepth 100000
set_option autoImplicit false
namespace Ev
open PySem PySem.Spec PyProof.Rows L2
/-! ## a dict display that is indexed at once -/
section
variable {K : PySem.W.Frag} {F : Hp} {D : Addr} {m : List Addr} {st : Sto} {H : Hp}
theorem seqT_forgetK (e : F D = some (.dK [])) {a : Addr} {xs : List V} (h : SqT K F a xs) : SqT K (delA F D) a xs := by
  rcases h with (h | ⟨o, h⟩) | h
  · exact .inl (.inl (by rw [delA_ne (fun z => by rw [z, e] at h; cases h)]; exact h))
  · exact .inl (.inr ⟨o, by rw [delA_ne (fun z => by rw [z, e] at h; cases h)]; exact h⟩)
  · exact .inr h
mutual
theorem Dq.forgetK (e : F D = some (.dK [])) : ∀ {v : V} {d : PyData}, Dq K F v d → Dq K (delA F D) v d
  | _, _, .non => .non
  | _, _, .bl b => .bl b
  | _, _, .int i => .int i
  | _, _, .str x => .str x
  | _, _, .lst h t => .lst (by rw [delA_ne (fun z => by rw [z, e] at h; cases h)]; exact h) (DqAll.forgetK e t)
  | _, _, .tup h t => .tup (seqT_forgetK e h) (DqAll.forgetK e t)
theorem DqAll.forgetK (e : F D = some (.dK [])) : ∀ {vs : List V} {ds : List PyData}, DqAll K F vs ds → DqAll K (delA F D) vs ds
  | _, _, .nil => .nil
  | _, _, .cons h t => .cons (Dq.forgetK e h) (DqAll.forgetK e t)
end
theorem WR.forgetK (e : F D = some (.dK [])) : ∀ {w : W} {v : V}, WR K F m w v → WR K (delA F D) m w v
  | .d x, v, h => Dq.forgetK e h
  | .r i, v, h => h
theorem WRs.forgetK (e : F D = some (.dK [])) : ∀ {w : List W} {v : List V}, WRs K F m w v → WRs K (delA F D) m w v
  | _, _, .nil => .nil
  | _, _, .cons h t => .cons (h.forgetK e) (WRs.forgetK e t)
theorem SR.forgetK {a : Addr} {H' : Hp} (e : F D = some (.dK [])) (eH : H' a = H a) : ∀ {so : SO}, SR K F m H a so → SR K (delA F D) m H' a so
  | .lst ws, ⟨vs, h1, h2⟩ => ⟨vs, by rw [eH]; exact h1, h2.forgetK e⟩
  | .dic kvs, ⟨ps, h1, h2⟩ => ⟨ps, by rw [eH]; exact h1, Paired.mapP h2 fun _ _ ⟨x, y⟩ => ⟨x, y.forgetK e⟩⟩
  | .dead, ⟨o, h1⟩ => ⟨o, by rw [eH]; exact h1⟩
  | .tab P q, ⟨ea, ps, h1, h2, h3⟩ => ⟨ea, ps, by rw [eH]; exact h1, h2, fun p cv h => let ⟨c, e1, e2⟩ := h3 p cv h; ⟨c, e1, by rw [delA_ne (fun z => by rw [z, e] at e2; cases e2)]; exact e2⟩⟩
theorem Rel.unlockK {o : HO} (rl : Rel K F m st H) (e : F D = some (.dK [])) : Rel K (delA F D) m st (upd H D o) ∧ D ∉ m := by
  have hm : D ∉ m := rl.notIn e nofun
  have ne : ∀ a ∈ m, a ≠ D := fun a ha z => hm (z ▸ ha)
  refine ⟨⟨fun a u e1 => ?_, rl.len, rl.nd, fun i a so e1 e2 e3 => by rw [delA_ne (ne a (List.mem_of_getElem? e1))]; exact rl.out i a so e1 e2 e3, fun a ha => by rw [upd_ne (ne a ha)]; exact rl.here a ha, fun i a so h1 h2 => ?_, fun b ps z => ?_⟩, hm⟩
  · by_cases ha : a = D
    · subst ha; rw [delA_self] at e1; cases e1
    · rw [delA_ne ha] at e1; rw [upd_ne ha]; exact rl.sub a u e1
  · exact (rl.obj i a so h1 h2).forgetK e (upd_ne (ne a (List.mem_of_getElem? h1)))
  · by_cases hb : b = D
    · subst hb; rw [delA_self] at z; cases z
    · rw [delA_ne hb] at z; exact rl.nt b ps z
theorem same_unlockK {F0 F' : Hp} (s : Same (upd F0 D (.dK [])) F') (h0 : F0 D = none) : Same F0 (delA F' D) := fun a u e => by
  have ha : a ≠ D := fun z => by rw [z, h0] at e; cases e
  rw [delA_ne ha]
  exact s a u (by rw [upd_ne ha]; exact e)

end
section
variable {X : Cx} {Wx : WX}
def SPP (X : Cx) (Wx : WX) (pos : Pos) (keys : List (Option Expr)) (values : List Expr) (ks : List Str) (fs : Env → M (List W)) : Prop :=
  ∃ trs, PPs X pos keys values trs ∧ ∀ σ H R, (∃ F m st ρ, EnvR (gd X) F m ρ σ ∧ Rel X.K F m st H ∧ After X.K X.mg F m (fun c d H' => Wx c d σ H') (fs ρ st) (fun ws F' m' H' => ws.length = ks.length ∧ ∀ vs, WRs X.K F' m' ws vs → R ((ks.map V.str).zip vs) H')) → tPairs trs σ H R
theorem spp_nil {pos : Pos} : SPP X Wx pos [] [] [] (fun _ => ret []) := ⟨[], pps_nil, fun σ H R ⟨F, m, st, ρ, er, rl, h⟩ => (h.here rl).2 [] .nil⟩
theorem spp_cons {pos p : Pos} {k : Str} {j : Nat} {v : Expr} {f : Env → M W} {keys : List (Option Expr)} {values : List Expr} {ks : List Str} {fs : Env → M (List W)} (hv : SE X Wx v f) (hr : SPP X Wx pos keys values ks fs) :
    SPP X Wx pos (some (.Constant (.str k) j p) :: keys) (v :: values) (k :: ks) (consA f fs) := by
  obtain ⟨trs, P, hr⟩ := hr
  refine ⟨_, pps_cons (se_str (Wx := Wx)) hv P, fun σ H R ⟨F, m, st, ρ, er, rl, h⟩ => ?_⟩
  refine ⟨F, m, st, ρ, er, rl, fun F0 m0 H0 s0 p0 r0 x hx => ?_⟩
  obtain rfl := dq_str hx
  refine ⟨F0, m0, st, ρ, er.mono s0 p0, r0, After.mono s0 p0 h.bnd fun w F1 m1 H1 s1 p1 ⟨st1, _, _, rl1, h1⟩ y r1 => ?_⟩
  refine hr σ H1 _ ⟨F1, m1, st1, ρ, er.mono (s0.trans s1) (pre_trans p0 p1), rl1, After.mono (Same.refl F1) (List.prefix_refl m1) h1.bnd fun ws F2 m2 H2 s2 p2 ⟨st2, _, _, rl2, h2⟩ => ?_⟩
  obtain ⟨e, z⟩ := h2.here rl2
  exact ⟨Nat.succ.inj e, fun vs r2 => z (y :: vs) (.cons (r1.mono s2 p2) r2)⟩
theorem putK_new {kvs : List (L2.Key × V)} {k : L2.Key} {v : V} (h : k ∉ kvs.map (·.1)) : putK kvs k v = kvs ++ [(k, v)] := by
  unfold putK
  rw [if_neg]
  intro z
  obtain ⟨kv, h1, h2⟩ := List.any_eq_true.mp z
  exact h (List.mem_map.mpr ⟨kv, h1, of_decide_eq_true h2⟩)
theorem merge_new : ∀ (kvs acc : List (L2.Key × V)), ((acc ++ kvs).map (·.1)).Nodup → mergeK acc kvs = acc ++ kvs
  | [], acc, _ => (List.append_nil acc).symm
  | (k, v) :: r, acc, h => by
    show mergeK (putK acc k v) r = _
    have hk : k ∉ acc.map (·.1) := fun z => by
      rw [List.map_append, List.map_cons] at h
      exact (List.nodup_append.mp h).2.2 k z k List.mem_cons_self rfl
    rw [putK_new hk, merge_new r _ (by rw [List.append_assoc]; exact h), List.append_assoc]; rfl
def lookS : List Str → List W → Str → Option W
  | k :: ks, w :: ws, z => if k = z then some w else lookS ks ws z
  | _, _, _ => none
theorem look_ok {K : PySem.W.Frag} {F : Hp} {m : List Addr} : ∀ {ks : List Str} {ws : List W} {vs : List V} {z : Str} {w : W}, WRs K F m ws vs → lookS ks ws z = some w → ∃ v, valV ((ks.map fun k => (Sum.inr k : L2.Key)).zip vs) (.inr z) = some v ∧ WR K F m w v
  | [], _, _, _, _, _, e => nomatch e
  | _ :: _, [], _, _, _, _, e => nomatch e
  | k :: ks, w :: ws, v :: vs, z, _, .cons h t, e => by
    unfold lookS at e
    show ∃ u, valV ((Sum.inr k, v) :: (ks.map fun k => (Sum.inr k : L2.Key)).zip vs) (.inr z) = some u ∧ _
    split at e
    · rename_i c
      subst c
      cases Option.some.inj e
      exact ⟨v, valV_pos rfl, h⟩
    · rename_i c
      obtain ⟨u, h1, h2⟩ := look_ok t e
      refine ⟨u, ?_, h2⟩
      unfold valV
      rw [List.find?_cons_of_neg (by simpa using c)]
      exact h1
def dispIx (ks : List Str) (fs : Env → M (List W)) (fi : Env → M W) : Env → M W := fun ρ => bnd (fs ρ) fun ws st => if ws.length = ks.length then bnd (fi ρ) (fun w => liftO fun _ => match w with
  | .d (.str z) => lookS ks ws z
  | _ => none) st else .bad
theorem zip_keys {vs : List V} : ∀ {ks : List Str}, (ks.map V.str).zip vs = ((ks.map fun k => (Sum.inr k : L2.Key)).zip vs).map (fun kv => (kV kv.1, kv.2)) := by
  induction vs with
  | nil => intro ks; simp
  | cons v vs ih => intro ks; cases ks with
    | nil => rfl
    | cons k ks => exact congrArg ((V.str k, v) :: ·) ih
theorem zip_sub : ∀ {ks : List L2.Key} {vs : List V}, ((ks.zip vs).map (·.1)).Sublist ks
  | [], _ => List.Sublist.slnil
  | _ :: _, [] => List.nil_sublist _
  | k :: ks, v :: vs => List.Sublist.cons₂ k zip_sub
theorem zip_nodup {ks : List Str} {vs : List V} (nd : ks.Nodup) : (((ks.map fun k => (Sum.inr k : L2.Key)).zip vs).map (·.1)).Nodup := by
  have h : (ks.map fun k => (Sum.inr k : L2.Key)).Nodup := List.Pairwise.map _ (fun a b (n : a ≠ b) e => n (Sum.inr.inj e)) nd
  refine List.Sublist.nodup ?_ h
  exact zip_sub
theorem se_dispIx {pos p2 : Pos} {keys : List (Option Expr)} {values : List Expr} {ks : List Str} {fs : Env → M (List W)} {i : Expr} {fi : Env → M W} (hu : X.A.units + 1 < cLine) (hP : SPP X Wx pos keys values ks fs) (hi : SE X Wx i fi) (hs : NoSl i) (nd : ks.Nodup)
    (hall : keys.all (·.isSome) = true := by rfl) (hl : keys.length = values.length := by rfl) (h0 : keys ≠ [] := by nofun) (h15 : keys.length ≤ 15 := by decide) (hk15 : ks.length ≤ 15 := by decide) :
    SE X Wx (.Subscript (.Dict keys values pos) i p2) (dispIx ks fs fi) := by
  obtain ⟨trs, P, hP⟩ := hP
  refine PE.imp (pe_dget hu (pe_disp P hall hl h0 h15) hi hs) fun σ H Q h => ?_
  obtain ⟨F, m, st, ρ, er, rl, h⟩ := h
  intro p hp
  have sm := same_new (o := .dK []) rl hp
  refine hP σ _ _ ⟨upd F p (.dK []), m, st, ρ, er.mono sm (List.prefix_refl m), rl.new hp, After.mono sm (List.prefix_refl m) h.bnd0 fun ws F2 m2 H2 s2 p2 ⟨st2, rl2, h2⟩ => ?_⟩
  have h2 : After X.K X.mg F m (fun c d H' => Wx c d σ H') (if ws.length = ks.length then bnd (fi ρ) (fun w => liftO fun _ => match w with
    | .d (.str z) => lookS ks ws z
    | _ => none) st2 else .bad) (fun w F' m' H' => ∀ v, WR X.K F' m' w v → Q v H') := h2
  by_cases hlen : ws.length = ks.length
  · rw [if_pos hlen] at h2
    refine ⟨hlen, fun vs r2 => ?_⟩
    have e2 : F2 p = some (.dK []) := s2 p _ upd_same
    refine ⟨rl2.sub _ _ e2, (ks.map fun k => (Sum.inr k : L2.Key)).zip vs, zip_keys, ?_, ?_⟩
    · rw [List.length_zip, List.length_map]; omega
    have em : mergeK [] ((ks.map fun k => (Sum.inr k : L2.Key)).zip vs) = (ks.map fun k => (Sum.inr k : L2.Key)).zip vs := (merge_new _ [] (zip_nodup nd)).trans (List.nil_append _)
    rw [em]
    obtain ⟨rl3, hm⟩ := rl2.unlockK e2 (o := .dK ((ks.map fun k => (Sum.inr k : L2.Key)).zip vs))
    have rl4 := rl3.adopt delA_self upd_same hm
    have s34 : Same (delA F2 p) (upd (delA F2 p) p (.dK ((ks.map fun k => (Sum.inr k : L2.Key)).zip vs))) := same_lock delA_self
    have s04 : Same F (upd (delA F2 p) p (.dK ((ks.map fun k => (Sum.inr k : L2.Key)).zip vs))) := (same_unlockK s2 (rl.free hp)).trans s34
    refine ⟨_, m2, st2, ρ, er.mono s04 p2, rl4, After.mono s04 p2 h2.bnd fun w F5 m5 H5 s5 p5 ⟨st5, _, _, rl5, h5⟩ y ry => ?_⟩
    obtain ⟨w', e, k⟩ := h5.liftO
    split at e
    · obtain rfl := dq_str ry
      obtain ⟨v, hv, wv⟩ := look_ok ((r2.forgetK e2).mono s34 (List.prefix_refl _)) e
      have e5 : H5 p = some (.dK ((ks.map fun k => (Sum.inr k : L2.Key)).zip vs)) := rl5.sub _ _ (s5 p _ upd_same)
      exact ⟨p, v, rfl, by rw [← hv]; exact DGet.k (k := Sum.inr _) e5, k F5 m5 H5 (Same.refl _) (List.prefix_refl _) rl5 v (wv.mono s5 p5)⟩
    · cases e
  · rw [if_neg hlen] at h2
    exact h2.elim
end
end Ev
end
section
set_option Elab.async false
set_option linter.all false
set_option maxRecDepth 100000
set_option autoImplicit false
namespace Ev
open PySem PySem.Spec PyProof.Rows L2
section
variable {ρ : Env} {st : Sto} {E : Ex → Sto → Prop}
@[simp] theorem wp_enumT {fs : Env → M (List W)} {Q : Its → Sto → Prop} : wpM (enumT fs ρ) st Q E = wpM (fs ρ) st (fun ws s => match ws with | [.d (.tuple xs)] => Q (enumL 0 xs, always) s | _ => False) E := by
  unfold enumT
  rw [wp_bnd]; congr 1; funext ws s
  rw [wp_liftO]
  match ws with
  | [] => rfl
  | [.r i] => rfl
  | [.d (.tuple xs)] => rfl
  | [.d .none] => rfl
  | [.d (.int j)] => rfl
  | [.d (.bool j)] => rfl
  | [.d (.str j)] => rfl
  | [.d (.list j)] => rfl
  | [.d (.dict j)] => rfl
  | x :: y :: r => cases x with
    | r i => rfl
    | d x => cases x <;> rfl
@[simp] theorem wp_asgT {a : As} {f : Env → M W} {D : Dn} : wpS (asgT a f) ρ st D = wpM (f ρ) st (fun w s => match w with | .d d => (match a d ρ with | some ρ' => D.nx ρ' s | none => False) | .r _ => False) fun x s => D.ex x ρ s := (wpS_def.trans wp_ofM).trans (by
  congr 1; funext w s
  cases w with
  | r i => rfl
  | d d => cases h : a d ρ <;> simp [h])
end
end Ev
end
section
set_option Elab.async false
set_option linter.all false
set_option maxRecDepth 100000
set_option autoImplicit false
namespace Ev
open PySem PySem.Spec PyProof.Rows L2
/-! ## constants of the top, of any depth -/
def deepV : PyData → Value → V
  | .none, _ => .non
  | .bool b, _ => .bl b
  | .int i, _ => .int i
  | .str x, _ => .str x
  | _, .ref a => .ref a
  | _, _ => .non
def tupAt (K : PySem.W.Frag) (a : Addr) : Option (List Value) := match K.lookup a with
  | some ⟨.type c, _, .seq its _, _⟩ => if c = "tuple" ∧ its.size ≤ sizeLine then some its.toList else none
  | _ => none
theorem tupAt_ok {K : PySem.W.Frag} {a : Addr} {us : List Value} (h : tupAt K a = some us) {xs : List V} (hv : Vals xs us) (H : Hp) : SqT K H a xs := by
  unfold tupAt at h
  cases q : K.lookup a with
  | none => rw [q] at h; cases h
  | some o =>
    obtain ⟨oc, od, dt, osl⟩ := o
    rw [q] at h
    cases oc with
    | type c =>
      cases dt with
      | seq its n =>
        have h : (if c = "tuple" ∧ its.size ≤ sizeLine then some its.toList else none) = some us := h
        split at h
        · rename_i hc
          cases Option.some.inj h
          exact .inr ⟨_, its, n, q, congrArg Value.type hc.1, rfl, hc.2, hv⟩
        · cases h
      | _ => cases h
    | _ => cases dt <;> cases h
mutual
def deepB (K : PySem.W.Frag) : PyData → Value → Bool
  | .tuple ds, .ref a => match tupAt K a with
    | some us => deepsB K ds us
    | none => false
  | .none, u => He.relB .non u
  | .bool b, u => He.relB (.bl b) u
  | .int i, u => He.relB (.int i) u
  | .str x, u => He.relB (.str x) u
  | _, _ => false
def deepsB (K : PySem.W.Frag) : List PyData → List Value → Bool
  | [], [] => true
  | d :: ds, u :: us => deepB K d u && deepsB K ds us
  | _, _ => false
end
def deepsV : List PyData → List Value → List V
  | d :: ds, u :: us => deepV d u :: deepsV ds us
  | _, _ => []
theorem relB_ok {v : V} {u : Value} (h : He.relB v u = true) : RelV v u := by
  have : He.relAll [v] [u] = true := by show (He.relB v u && true) = true; rw [h]; rfl
  cases He.relAll_ok this with
  | cons h _ => exact h
mutual
theorem deepB_ok {K : PySem.W.Frag} : ∀ (d : PyData) (u : Value), deepB K d u = true → RelV (deepV d u) u ∧ ∀ F, Dq K F (deepV d u) d
  | .none, u, h => by unfold deepB at h; exact ⟨relB_ok h, fun F => .non⟩
  | .bool b, u, h => by unfold deepB at h; exact ⟨relB_ok h, fun F => .bl b⟩
  | .int b, u, h => by unfold deepB at h; exact ⟨relB_ok h, fun F => .int b⟩
  | .str b, u, h => by unfold deepB at h; exact ⟨relB_ok h, fun F => .str b⟩
  | .list ds, u, h => by unfold deepB at h; cases h
  | .dict ds, u, h => by unfold deepB at h; cases h
  | .tuple ds, u, h => by
    cases u with
    | ref a =>
      unfold deepB at h
      cases e : tupAt K a with
      | none => rw [e] at h; cases h
      | some us =>
        rw [e] at h
        obtain ⟨h1, h2⟩ := deepsB_ok ds us h
        exact ⟨rfl, fun F => .tup (tupAt_ok e h1 F) (h2 F)⟩
    | _ => unfold deepB at h; cases h
theorem deepsB_ok {K : PySem.W.Frag} : ∀ (ds : List PyData) (us : List Value), deepsB K ds us = true → Vals (deepsV ds us) us ∧ ∀ F, DqAll K F (deepsV ds us) ds
  | [], [], _ => ⟨.nil, fun F => .nil⟩
  | [], _ :: _, h => by unfold deepsB at h; cases h
  | _ :: _, [], h => by unfold deepsB at h; cases h
  | d :: ds, u :: us, h => by
    unfold deepsB at h
    rw [Bool.and_eq_true] at h
    obtain ⟨a1, a2⟩ := deepB_ok d u h.1
    obtain ⟨b1, b2⟩ := deepsB_ok ds us h.2
    exact ⟨.cons a1 b1, fun F => .cons (a2 F) (b2 F)⟩
end
section
variable {fa : List He.Fa} {fn : List He.DefD} {ts : List He.Tab} {tf : List He.Defn} {ex : PySem.W.Frag → Bool} {g : Gd}
theorem Gnd.deep (c : Gnd fa fn ts tf ex g) (i : Nat) {x : Str} {d : PyData} (h : fa[i]? = some (.glo x)) (ht : deepB g.K d (.ref (He.ga g.K x)) = true) : Con g x d :=
  ⟨_, deepV d (.ref (He.ga g.K x)), c.glo i h, (deepB_ok _ _ ht).1, (deepB_ok _ _ ht).2⟩
end
/-! ## sorted of data -/
def sortD (ds : List PyData) : List PyData := ds.mergeSort (PySem.W.dataLe false id)
def tupNe : PyData → Bool
  | .tuple (_ :: _) => true
  | _ => false
def notTN : PyData → Bool
  | .tuple _ => false
  | .none => false
  | _ => true
def okSort (ds : List PyData) : Bool := (ds.all fun d => ds.all fun d' => PySem.W.alike d d') && ((ds.all tupNe || ds.all notTN) && (decide (ds.length < 4000) && ds.all fun d => decide (d.depth ≤ 20)))
def sortDW (st : Sto) (w : W) : Option W := (seqW st w).bind fun ds => if okSort ds = true then some (.d (.list (sortD ds))) else none
theorem okSort_ok {ds : List PyData} (h : okSort ds = true) : PySem.W.AllAlike ds ∧ PySem.W.Sortable ds ∧ ds.length < 4000 ∧ ∀ d ∈ ds, d.depth ≤ 20 := by
  unfold okSort at h
  simp only [Bool.and_eq_true, Bool.or_eq_true, decide_eq_true_eq, List.all_eq_true] at h
  obtain ⟨h1, h2, h3, h4⟩ := h
  refine ⟨h1, ?_, h3, h4⟩
  rcases h2 with h2 | h2
  · refine .inl fun d hd => ?_
    have := h2 d hd
    cases d with
    | tuple xs => cases xs with
      | nil => cases this
      | cons x r => exact ⟨x, r, rfl⟩
    | _ => cases this
  · refine .inr fun d hd => ?_
    have := h2 d hd
    cases d <;> first | (cases this; done) | exact ⟨nofun, nofun⟩
section
variable {X : Cx}
def RD (K : PySem.W.Frag) (F : Hp) (u : Value) (d : PyData) : Prop := ∃ x, RelV x u ∧ Dq K F x d
theorem each_dq {K : PySem.W.Frag} {F : Hp} : ∀ {vs : List V} {ds : List PyData} {us : List Value}, DqAll K F vs ds → Vals vs us → PySem.W.EachIs (RD K F) us ds
  | _, _, _, .nil, .nil => .nil
  | _, _, _, .cons h t, .cons r rs => .cons ⟨_, r, h⟩ (each_dq t rs)
theorem dq_each {K : PySem.W.Frag} {F : Hp} : ∀ {ds : List PyData} {us : List Value}, PySem.W.EachIs (RD K F) us ds → ∃ vs, DqAll K F vs ds ∧ Vals vs us
  | _, _, .nil => ⟨[], .nil, .nil⟩
  | _, _, .cons ⟨x, r, h⟩ t => let ⟨vs, h1, h2⟩ := dq_each t; ⟨x :: vs, .cons h h1, .cons r h2⟩
def rSortD (X : Cx) : List V → Hp → VK → Prop := fun vs H Q => ∃ (F : Hp) (a : Addr) (xs : List V) (ds : List PyData), vs = [.ref a] ∧ Same F H ∧ (SqL X.K H a xs ∨ SqT X.K H a xs) ∧ DqAll X.K F xs ds ∧ okSort ds = true ∧
    ∀ q ys, H q = none → DqAll X.K F ys (sortD ds) → Q (.ref q) (upd H q (.lst ys))
theorem cr_sortD (hu : X.A.units + 65 < cLine) : CallR X (.builtin "sorted") (rSortD X) := by
  intro pins s σ H vs us Q I r hh
  obtain ⟨F, a, xs, ds, rfl, hF, hq, dq, hz, q⟩ := hh
  obtain ⟨u, rfl, ru⟩ := vals1 r
  obtain rfl : u = Value.ref a := ru
  have get : ∃ (its : List Value) (T : String) (o : Obj) (n : Nat), Vals xs its ∧ (T = "list" ∨ T = "tuple") ∧ s.heap.get? a = some o ∧ o.cls = .type T ∧ o.data = .seq its.toArray n := by
    rcases hq with hq | hq
    · obtain ⟨its, rv, hl, _⟩ := I.list hq
      obtain ⟨o, h1, h2, n, h3⟩ := hl.isList
      exact ⟨its, "list", o, n, rv, .inl rfl, h1, h2, h3⟩
    · obtain ⟨its, rv, hl, _⟩ := I.tuple hq
      obtain ⟨o, h1, h2, n, h3⟩ := hl
      exact ⟨its, "tuple", o, n, rv, .inr rfl, h1, h2, h3⟩
  obtain ⟨its, T, o, n, rv, hT, ho, hc, hd⟩ := get
  obtain ⟨hal, hk, hL4, hdp⟩ := okSort_ok hz
  have hlen : its.length = ds.length := by rw [← rv.length, dq.length]
  refine Calls.call_function_entry kind_sorted plain_sorted entry_sorted (args_sorted1 _) ?_
  unfold Builtin.«sorted»
  refine wpAny_bind (m := checkCount "sorted" 1 1 _) (wpAny_pure ?_)
  refine wpAny_bind (wpAny_collect_seq a hT ho hc hd (fun h1 k1 => ?_) (by show its.toArray.size ≤ sizeLine; rw [List.size_toArray, hlen, sizeLine_eq]; omega))
  refine wpAny_bind (wpAny_newList ?_ (by show its.toArray.toList.length ≤ _; rw [List.toList_toArray, hlen, sizeLine_eq]; omega))
  have hoL : (h1.push (seqObj "list" its.toArray 0)).get? h1.objs.size = some (seqObj "list" its.toArray 0) := Heap.get?_push_size _ rfl
  have I1 : Inv X pins σ H { s with heap := h1 } := I.kept (t' := s.toks) k1
  have e1 : PySem.W.EachIs (RD X.K F) its ds := each_dq dq rv
  have hL : ds.length ≤ sizeLine := by rw [sizeLine_eq]; omega
  have hmap : ds.map id = ds := List.map_id ds
  have er : PySem.W.EachIs (fun v b => ∃ as, Reads h1 v (id b) as) its ds := e1.mono fun v d h => by
    obtain ⟨x, rx, hx⟩ := h
    exact Dp.reads I1 d x v ((hx.mono hF).dp) rx
  have er2 : PySem.W.EachIs (fun v b => ∃ as, Reads (h1.push (seqObj "list" its.toArray 0)) v (id b) as ∧ h1.objs.size ∉ as) its ds := er.mono fun v d h => by
    obtain ⟨as, hr⟩ := h
    refine ⟨as, PyProof.Rows.Reads.keeps (fun b o e => Heap.get?_push_of_some _ e) hr, fun hm => ?_⟩
    obtain ⟨o', ho'⟩ := PyProof.On.reads_mem_get hr _ hm
    exact absurd (Heap.lt_size ho') (Nat.lt_irrefl _)
  refine wpAny_bind (wpAny_holding (PySem.W.list_sort_data (s := { s with heap := h1.push (seqObj "list" its.toArray 0) }) (enc := id) hoL e1 er2 (by rw [hmap]; exact hal) (by rw [hmap]; exact hk) hL (fun b hb => ?_) fun out2 hl2 eo => ?_))
  · have hu1 : X.A.in1.units = X.A.units + 1 := rfl
    have := hdp b hb
    show X.A.in1.units + 1 + b.depth < cLine
    omega
  · obtain ⟨c, hc2⟩ := sortedHeap_at (vs := its) (out := List.toArray out2) hoL
    have eo : PySem.W.EachIs (RD X.K F) out2 (sortD ds) := eo
    obtain ⟨ys, dy, vy⟩ := dq_each eo
    have kall : ∀ b o, h1.get? b = some o → (sortedHeap (h1.push (seqObj "list" its.toArray 0)) h1.objs.size its (List.toArray out2)).get? b = some o := fun b o e => by
      have hlt := Heap.lt_size e
      rw [sortedHeap_old (Nat.ne_of_lt hlt) (by rw [size_push']; exact Nat.lt_succ_of_lt hlt)]
      exact Heap.get?_push_of_some _ e
    refine wpAny_pure ⟨_, rfl, .ref h1.objs.size, upd H h1.objs.size (.lst ys), I1.laid (t' := s.toks) kall (Nat.le_refl _) ⟨?_, out2, c, vy, hc2⟩, rfl, q _ _ (I1.hok.fresh (Nat.le_refl _)) dy⟩
    rw [vy.length, hl2]; exact hL
end
section
variable {X : Cx} {Wx : WX} {e : Expr} {p1 p4 : Pos} {f : Env → M W}
theorem se_sortDW (hu : X.A.units + 65 < cLine) (he : SE X Wx e f) (hg1 : Gl X "sorted") (hm1 : X.mg "sorted" = none) (hs : starEach [e] X.env = [(false, eval e X.env)] := by rfl) :
    SE X Wx (.Call (.Name "sorted" p1) [e] [] p4) (op1 sortDW f) :=
  PE.imp (pe_callB (cr_sortD hu) hg1 hm1 boot_sorted (pa_cons he pa_nil hs) (he := hs)) fun σ H Q h => by
    obtain ⟨F, m, st, ρ, er, rl, h⟩ := h
    refine ⟨F, m, st, ρ, er, rl, After.mono (Same.refl F) (List.prefix_refl m) h.bnd fun w F1 m1 H1 s1 p1 ⟨st1, _, _, rl1, h1⟩ v r1 => ?_⟩
    obtain ⟨w', e1, q⟩ := h1.liftO
    unfold sortDW at e1
    cases z : seqW st1 w with
    | none => rw [z] at e1; cases e1
    | some ds =>
      rw [z] at e1
      have e1 : (if okSort ds = true then some (W.d (.list (sortD ds))) else none) = some w' := e1
      split at e1
      · rename_i hz
        cases Option.some.inj e1
        obtain ⟨a, ws, rfl, t, hs'⟩ := seqW_ok rl1 r1 z
        refine ⟨F1, a, ws, ds, rfl, rl1.sub, hs'.imp id (·.1), t, hz, fun q' ys hq' dy => ?_⟩
        exact rM_lst (fun F' m' H' v s p r hv => q F' m' H' s p r v hv) rl1 hq' dy
      · cases e1
end
end Ev
end
section
set_option Elab.async false
set_option linter.all false
set_option maxRecDepth 100000
set_option autoImplicit false
namespace Ev
open PySem PySem.Spec PyProof.Rows L2
/-! ## operators of data, lists of the store taken as data -/
def datW (st : Sto) : W → Option PyData
  | .d x => some x
  | .r i => (match st[i]? with
    | some (.lst ws) => (allD ws).map .list
    | _ => none)
def onW (f : PyData → PyData → Option PyData) (st : Sto) (a b : W) : Option W := (datW st a).bind fun x => (datW st b).bind fun y => (f x y).map .d
@[simp] theorem datW_d {st : Sto} {x : PyData} : datW st (.d x) = some x := rfl
@[simp] theorem onW_d {f : PyData → PyData → Option PyData} {st : Sto} {x y : PyData} : onW f st (.d x) (.d y) = (f x y).map .d := rfl
theorem datW_at {st : Sto} {i : Nat} {ws : List W} {ds : List PyData} (h : st[i]? = some (.lst ws)) (e : allD ws = some ds) : datW st (.r i) = some (.list ds) := by
  show (match st[i]? with | some (.lst ws) => (allD ws).map PyData.list | _ => none) = _
  rw [h]; show (allD ws).map PyData.list = _; rw [e]; rfl
theorem datW_dp {K : PySem.W.Frag} {F : Hp} {m : List Addr} {st : Sto} {H : Hp} (rl : Rel K F m st H) {w : W} {v : V} (h : WR K F m w v) {x : PyData} (e : datW st w = some x) : Dp K H v x := by
  cases w with
  | d y =>
    cases Option.some.inj e
    exact (Dq.mono rl.sub h).dp
  | r i =>
    dsimp only [datW] at e
    split at e
    · rename_i ws hs
      obtain ⟨a, rfl, h1, vs, h2, h3⟩ := rl.at h hs
      cases z : allD ws with
      | none => rw [z] at e; cases e
      | some ds =>
        rw [z] at e
        cases Option.some.inj e
        exact .lst (SqL.of h2) ((allD_ok h3 z).mono rl.sub).dp
    · cases e
section
variable {X : Cx}
theorem om_ofW {f : Value → Value → Sem Value} {op : PyData → PyData → Option PyData}
    (h : ∀ (pins : List (Addr × Obj)) (s : Shared) (σ : L2.St) (H : Hp) (x y : V) (v u : Value) (Q : VK) (F : Hp) (m : List Addr) (st : Sto) (a b c : PyData), Inv X pins σ H s → RelV x v → RelV y u → Dp X.K H x a → Dp X.K H y b → Rel X.K F m st H → op a b = some c →
      QV X.K F m st Q (.d c) → wpAny (model X.prog X.w) X.A (f v u) (EP X pins σ Q) X.xe s) : OpM X f (onW op) := by
  intro pins s σ H x y v u Q I rx ry hh
  obtain ⟨F, m, st, a, b, w, ra, rb, rl, e, q⟩ := hh
  unfold onW at e
  cases z1 : datW st a with
  | none => rw [z1] at e; cases e
  | some a' =>
    rw [z1, Option.bind_some] at e
    cases z2 : datW st b with
    | none => rw [z2] at e; cases e
    | some b' =>
      rw [z2, Option.bind_some] at e
      cases z : op a' b' with
      | none => rw [z] at e; cases e
      | some c =>
        rw [z] at e
        cases Option.some.inj e
        exact h pins s σ H x y v u Q F m st a' b' c I rx ry (datW_dp rl ra z1) (datW_dp rl rb z2) rl z q
theorem om_eqW (hu : X.A.units + 64 < cLine) : OpM X (compareOp .Eq) (onW eqD) := om_ofW fun pins s σ H x y v u Q F m st a b c I rx ry ra rb rl e q => by
  unfold eqD at e
  split at e
  · rename_i hz
    cases Option.some.inj e
    exact op_eqD hu pins s σ H _ _ v u Q I rx ry ⟨_, _, ra, rb, hz.1, hz.2, rM_ok q rl (.bl _)⟩
  · cases e
theorem om_neW (hu : X.A.units + 64 < cLine) : OpM X (compareOp .NotEq) (onW neD) := om_ofW fun pins s σ H x y v u Q F m st a b c I rx ry ra rb rl e q => by
  unfold neD at e
  split at e
  · rename_i hz
    cases Option.some.inj e
    exact op_neD hu pins s σ H _ _ v u Q I rx ry ⟨_, _, ra, rb, hz.1, hz.2, rM_ok q rl (.bl _)⟩
  · cases e
theorem dp_str {K : PySem.W.Frag} {H : Hp} {v : V} {z : Str} (h : Dp K H v (.str z)) : v = .str z := by cases h; rfl
theorem om_inW (hu : X.A.units + 65 < cLine) : OpM X (compareOp .In) (onW inD) := om_ofW fun pins s σ H x y v u Q F m st a b c I rx ry ra rb rl e q => by
  have e : (inB a b).map PyData.bool = some c := e
  cases z : inB a b with
  | none => rw [z] at e; cases e
  | some k =>
    rw [z] at e
    cases Option.some.inj e
    rcases inB_cases z with ⟨c, z, rfl, rfl, rfl⟩ | ⟨ds, rfl, h1, h2, rfl⟩ | ⟨ds, rfl, h1, h2, rfl⟩
    · have e1 := dp_str ra; have e2 := dp_str rb; subst e1 e2
      exact op_in_sign pins s σ H _ _ v u Q I rx ry ⟨_, _, rfl, rfl, rM_ok q rl (.bl _)⟩
    · exact op_inD hu pins s σ H _ _ v u Q I rx ry ⟨_, _, ra, rb, h1, h2, rM_ok q rl (.bl _)⟩
    · obtain ⟨as, r1⟩ := Dp.reads I a x v ra rx
      obtain ⟨bs, r2⟩ := Dp.reads I (.tuple ds) y u rb ry
      exact SeqAt.in_tuple_reads r2 r1 (SeqAt.canLay_of_shaped h2) (SeqAt.canLay_of_shaped h1) (room_in_shaped h1 hu) ⟨.bl _, H, I, rfl, rM_ok q rl (.bl _)⟩
theorem om_notinW (hu : X.A.units + 65 < cLine) : OpM X (compareOp .NotIn) (onW notInD) := om_ofW fun pins s σ H x y v u Q F m st a b c I rx ry ra rb rl e q => by
  have e : (inB a b).map (fun k => PyData.bool (!k)) = some c := e
  cases z : inB a b with
  | none => rw [z] at e; cases e
  | some k =>
    rw [z] at e
    cases Option.some.inj e
    rcases inB_cases z with ⟨c, z, rfl, rfl, rfl⟩ | ⟨ds, rfl, h1, h2, rfl⟩ | ⟨ds, rfl, h1, h2, rfl⟩
    · have e1 := dp_str ra; have e2 := dp_str rb; subst e1 e2
      exact op_notIn_sign pins s σ H _ _ v u Q I rx ry ⟨_, _, rfl, rfl, rM_ok q rl (.bl _)⟩
    · exact op_notInD hu pins s σ H _ _ v u Q I rx ry ⟨_, _, ra, rb, h1, h2, rM_ok q rl (.bl _)⟩
    · obtain ⟨as, r1⟩ := Dp.reads I a x v ra rx
      obtain ⟨bs, r2⟩ := Dp.reads I (.tuple ds) y u rb ry
      exact SeqAt.notIn_tuple_reads r2 r1 (SeqAt.canLay_of_shaped h2) (SeqAt.canLay_of_shaped h1) (room_in_shaped h1 hu) ⟨.bl _, H, I, rfl, rM_ok q rl (.bl _)⟩
/-- a list of the store, plus a list -/
def addW (st : Sto) (a b : W) : Option W := match a, b with
  | .d x, .d y => (addD x y).map .d
  | a, b => (match datW st a, datW st b with
    | some (.list xs), some (.list ys) => if xs.length + ys.length ≤ sizeLine then some (.d (.list (xs ++ ys))) else none
    | _, _ => none)
@[simp] theorem addW_d {st : Sto} {x y : PyData} : addW st (.d x) (.d y) = (addD x y).map .d := rfl
theorem datW_lst {K : PySem.W.Frag} {F : Hp} {m : List Addr} {st : Sto} {H : Hp} (rl : Rel K F m st H) {w : W} {v : V} (h : WR K F m w v) {ds : List PyData} (e : datW st w = some (.list ds)) :
    ∃ a vs, v = .ref a ∧ DqAll K F vs ds ∧ H a = some (.lst vs) := by
  cases w with
  | d y =>
    cases Option.some.inj e
    obtain ⟨a, xs, rfl, h1, h2⟩ := dq_lst h
    exact ⟨a, xs, rfl, h2, rl.sub _ _ h1⟩
  | r i =>
    dsimp only [datW] at e
    split at e
    · rename_i ws hs
      obtain ⟨a, rfl, h1, vs, h2, h3⟩ := rl.at h hs
      cases z : allD ws with
      | none => rw [z] at e; cases e
      | some ds' =>
        rw [z] at e
        cases Option.some.inj e
        exact ⟨a, vs, rfl, allD_ok h3 z, h2⟩
    · cases e
theorem om_addW : OpM X (binaryOp .Add) addW := by
  intro pins s σ H x y v u Q I rx ry hh
  obtain ⟨F, m, st, a, b, w, ra, rb, rl, e, q⟩ := hh
  have key : ∀ {xs ys : List PyData}, datW st a = some (.list xs) → datW st b = some (.list ys) → xs.length + ys.length ≤ sizeLine → w = .d (.list (xs ++ ys)) → wpAny (model X.prog X.w) X.A (binaryOp .Add v u) (EP X pins σ Q) X.xe s := by
    intro xs ys ha hb hz hw
    subst hw
    obtain ⟨p, vs, rfl, t1, h1⟩ := datW_lst rl ra ha
    obtain ⟨q', ws, rfl, t2, h2⟩ := datW_lst rl rb hb
    exact op_cat pins s σ H _ _ v u Q I rx ry ⟨_, _, _, _, rfl, rfl, h1, h2, by rw [t1.length, t2.length]; exact hz, fun p hp => rM_lst q rl hp (t1.append t2)⟩
  have oth : (match datW st a, datW st b with
    | some (.list xs), some (.list ys) => if xs.length + ys.length ≤ sizeLine then some (W.d (.list (xs ++ ys))) else none
    | _, _ => none) = some w → wpAny (model X.prog X.w) X.A (binaryOp .Add v u) (EP X pins σ Q) X.xe s := by
    intro e
    split at e
    · rename_i xs ys h1 h2
      split at e
      · rename_i hz
        exact key h1 h2 hz (Option.some.inj e).symm
      · cases e
    · cases e
  cases a with
  | d a =>
    cases b with
    | d b => exact om_add pins s σ H x y v u Q I rx ry ⟨F, m, st, .d a, .d b, w, ra, rb, rl, e, q⟩
    | r j => exact oth e
  | r i => exact oth e
end
end Ev
end
section
set_option Elab.async false
set_option linter.all false
set_option maxRecDepth 100000
set_option autoImplicit false
namespace Ev
open PySem PySem.Spec PyProof.Rows L2
/-! ## dicts of the store: text and number keys -/
def keyD : PyData → Option Key
  | .int i => some (.inl i)
  | .str x => some (.inr x)
  | _ => none
def valWk (kvs : List (Key × W)) (k : Key) : Option W := (kvs.find? fun kv => decide (kv.1 = k)).map (·.2)
def putWk (kvs : List (Key × W)) (k : Key) (v : W) : List (Key × W) := if (kvs.any fun kv => decide (kv.1 = k)) = true then kvs.map (fun kv => if kv.1 = k then (kv.1, v) else kv) else kvs ++ [(k, v)]
def ixK (st : Sto) : W → W → Option W
  | .r j, .d y => (match st[j]?, keyD y with
    | some (.dic kvs), some k => valWk kvs k
    | _, _ => none)
  | _, _ => none
def inK (st : Sto) : W → W → Option W
  | .d y, .r j => (match st[j]?, keyD y with
    | some (.dic kvs), some k => some (.d (.bool (valWk kvs k).isSome))
    | _, _ => none)
  | _, _ => none
def notInK (st : Sto) : W → W → Option W
  | .d y, .r j => (match st[j]?, keyD y with
    | some (.dic kvs), some k => some (.d (.bool (!(valWk kvs k).isSome)))
    | _, _ => none)
  | _, _ => none
def putKx (st : Sto) (v : W) : W → W → Option Sto
  | .r j, .d y => (match st[j]?, keyD y with
    | some (.dic kvs), some k => if kvs.length < sizeLine then some (st.set j (.dic (putWk kvs k v))) else none
    | _, _ => none)
  | _, _ => none
theorem key_dq {K : PySem.W.Frag} {F : Hp} {m : List Addr} {y : PyData} {v : V} {k : Key} (e : keyD y = some k) (h : WR K F m (.d y) v) : v = kV k := by
  cases y with
  | int i => cases Option.some.inj e; exact dq_int h
  | str x => cases Option.some.inj e; exact dq_str h
  | _ => cases e
abbrev KVR (K : PySem.W.Frag) (F : Hp) (m : List Addr) (p : Key × W) (q : Key × V) : Prop := p.1 = q.1 ∧ WR K F m p.2 q.2
theorem valWk_ok {K : PySem.W.Frag} {F : Hp} {m : List Addr} (k : Key) : ∀ {kvs : List (Key × W)} {ps : List (Key × V)}, Paired (KVR K F m) kvs ps →
    (valWk kvs k = none ∧ valV ps k = none) ∨ ∃ w v, valWk kvs k = some w ∧ valV ps k = some v ∧ WR K F m w v
  | _, _, .nil => .inl ⟨rfl, rfl⟩
  | p :: r, q :: r', .cons ⟨h1, h2⟩ t => by
    unfold valWk valV
    rw [List.find?_cons, List.find?_cons, ← h1]
    by_cases e : p.1 = k
    · rw [decide_eq_true e]; exact .inr ⟨_, _, rfl, rfl, h2⟩
    · rw [decide_eq_false e]; exact valWk_ok k t
theorem any_kvr {K : PySem.W.Frag} {F : Hp} {m : List Addr} (k : Key) : ∀ {kvs : List (Key × W)} {ps : List (Key × V)}, Paired (KVR K F m) kvs ps → (kvs.any fun kv => decide (kv.1 = k)) = ps.any fun kv => decide (kv.1 = k)
  | _, _, .nil => rfl
  | p :: r, q :: r', .cons ⟨h1, h2⟩ t => by rw [List.any_cons, List.any_cons, h1, any_kvr k t]
theorem map_kvr {K : PySem.W.Frag} {F : Hp} {m : List Addr} (k : Key) {w : W} {v : V} (hv : WR K F m w v) : ∀ {kvs : List (Key × W)} {ps : List (Key × V)}, Paired (KVR K F m) kvs ps → Paired (KVR K F m) (kvs.map fun kv => if kv.1 = k then (kv.1, w) else kv) (ps.map fun kv => if kv.1 = k then (kv.1, v) else kv)
  | _, _, .nil => .nil
  | p :: r, q :: r', .cons h1 t => by
    rw [List.map_cons, List.map_cons]
    refine .cons ?_ (map_kvr k hv t)
    rw [h1.1]
    split
    · exact ⟨rfl, hv⟩
    · exact h1
theorem snoc_kvr {K : PySem.W.Frag} {F : Hp} {m : List Addr} (k : Key) {w : W} {v : V} (hv : WR K F m w v) : ∀ {kvs : List (Key × W)} {ps : List (Key × V)}, Paired (KVR K F m) kvs ps → Paired (KVR K F m) (kvs ++ [(k, w)]) (ps ++ [(k, v)])
  | _, _, .nil => .cons ⟨rfl, hv⟩ .nil
  | _, _, .cons h1 t => .cons h1 (snoc_kvr k hv t)
theorem put_kvr {K : PySem.W.Frag} {F : Hp} {m : List Addr} (k : Key) {w : W} {v : V} (hv : WR K F m w v) {kvs : List (Key × W)} {ps : List (Key × V)} (h : Paired (KVR K F m) kvs ps) : Paired (KVR K F m) (putWk kvs k w) (putK ps k v) := by
  unfold putWk putK
  rw [any_kvr k h]
  split
  · exact map_kvr k hv h
  · exact snoc_kvr k hv h
def mkDic : Env → M W := fun _ st => .ok (.r st.length) (st ++ [.dic []])
section
variable {X : Cx} {Wx : WX} {e a b : Expr} {p1 pos : Pos} {f fa fb : Env → M W}
theorem Rel.fresh {K : PySem.W.Frag} {F : Hp} {m : List Addr} {st : Sto} {H : Hp} (rl : Rel K F m st H) {p : Addr} {o : HO} {so : SO} (hp : H p = none) (hs : SR K F (m ++ [p]) (upd H p o) p so) : Rel K F (m ++ [p]) (st ++ [so]) (upd H p o) := by
  have nm : p ∉ m := fun z => by obtain ⟨o, ho⟩ := rl.here p z; rw [hp] at ho; cases ho
  have ne : ∀ a ∈ m, a ≠ p := fun a ha e => nm (e ▸ ha)
  have rl2 : Rel K F m st (upd H p o) := ⟨fun a u e => by rw [upd_ne (fun z => by rw [z, rl.free hp] at e; cases e)]; exact rl.sub a u e, rl.len, rl.nd, rl.out, fun a ha => by rw [upd_ne (ne a ha)]; exact rl.here a ha,
    fun i a so e1 e2 => (rl.obj i a so e1 e2).keep (Same.refl _) (List.prefix_refl _) (upd_ne (ne a (List.mem_of_getElem? e1))), rl.nt⟩
  exact rl2.enroll (rl.free hp) upd_same nm hs
theorem last_m {K : PySem.W.Frag} {F : Hp} {m : List Addr} {st : Sto} {H : Hp} (rl : Rel K F m st H) (p : Addr) : (m ++ [p])[st.length]? = some p := by
  rw [← rl.len, List.getElem?_append_right (Nat.le_refl _), Nat.sub_self]; rfl
theorem se_dic : SE X Wx (.Dict [] [] pos) mkDic :=
  PE.imp pe_dnewK fun σ H Q h => by
    obtain ⟨F, m, st, ρ, er, rl, h⟩ := h
    intro p hp
    have h : After X.K X.mg F m _ (R.ok (W.r st.length) (st ++ [SO.dic []])) _ := h
    exact h F (m ++ [p]) _ (Same.refl F) (List.prefix_append m [p]) (rl.fresh hp ⟨[], upd_same, .nil⟩) _ ⟨p, last_m rl p, rfl⟩
theorem ixK_ok {st : Sto} {o i w : W} (h : ixK st o i = some w) : ∃ j y k kvs, o = .r j ∧ i = .d y ∧ keyD y = some k ∧ st[j]? = some (.dic kvs) ∧ valWk kvs k = some w := by
  cases o with
  | d _ => cases h
  | r j =>
    cases i with
    | r _ => cases h
    | d y =>
      dsimp only [ixK] at h
      split at h
      · rename_i kvs k e1 e2; exact ⟨j, y, k, kvs, rfl, rfl, e2, e1, h⟩
      · cases h
theorem se_dget (hu : X.A.units + 1 < cLine) (ha : SE X Wx a fa) (hb : SE X Wx b fb) (hs : NoSl b) : SE X Wx (.Subscript a b pos) (bin ixK fa fb) :=
  PE.imp (pe_dget hu ha hb hs) fun σ H Q h => by
    obtain ⟨F, m, st, ρ, er, rl, h⟩ := h
    refine ⟨F, m, st, ρ, er, rl, After.mono (Same.refl F) (List.prefix_refl m) h.bnd fun x F1 m1 H1 s1 p1 ⟨st1, _, _, rl1, h1⟩ v r1 => ?_⟩
    refine ⟨F1, m1, st1, ρ, er.mono s1 p1, rl1, After.mono (Same.refl F1) (List.prefix_refl m1) h1.bnd fun y F2 m2 H2 s2 p2 ⟨st2, _, _, rl2, h2⟩ u r2 => ?_⟩
    obtain ⟨w, e, q⟩ := h2.liftO
    obtain ⟨j, y', k, kvs, rfl, rfl, hk, hst, hv⟩ := ixK_ok e
    obtain ⟨a', rfl, hm, ps, hH, rps⟩ := rl2.at (r1.mono s2 p2) hst
    rw [key_dq hk r2]
    rcases valWk_ok k rps with ⟨h0, _⟩ | ⟨w', v', h3, h4, h5⟩
    · rw [hv] at h0; cases h0
    · rw [hv] at h3; cases Option.some.inj h3
      exact ⟨a', v', rfl, h4 ▸ DGet.k hH, q F2 m2 H2 (Same.refl _) (List.prefix_refl _) rl2 _ h5⟩
theorem inK_ok {st : Sto} {o i w : W} (h : inK st i o = some w) : ∃ j y k kvs, o = .r j ∧ i = .d y ∧ keyD y = some k ∧ st[j]? = some (.dic kvs) ∧ w = .d (.bool (valWk kvs k).isSome) := by
  cases i with
  | r _ => cases h
  | d y =>
    cases o with
    | d _ => cases h
    | r j =>
      dsimp only [inK] at h
      split at h
      · rename_i kvs k e1 e2; exact ⟨j, y, k, kvs, rfl, rfl, e2, e1, (Option.some.inj h).symm⟩
      · cases h
theorem notInK_ok {st : Sto} {o i w : W} (h : notInK st i o = some w) : ∃ j y k kvs, o = .r j ∧ i = .d y ∧ keyD y = some k ∧ st[j]? = some (.dic kvs) ∧ w = .d (.bool (!(valWk kvs k).isSome)) := by
  cases i with
  | r _ => cases h
  | d y =>
    cases o with
    | d _ => cases h
    | r j =>
      dsimp only [notInK] at h
      split at h
      · rename_i kvs k e1 e2; exact ⟨j, y, k, kvs, rfl, rfl, e2, e1, (Option.some.inj h).symm⟩
      · cases h
def setK (fo fi fv : Env → M W) : S := fun ρ st => ofM (bnd (fv ρ) fun v => bnd (fo ρ) fun o => bnd (fi ρ) fun i => ret (v, o, i)) ρ (fun p s => match putKx s p.1 p.2.1 p.2.2 with
  | some s' => .go (.nx ρ) s'
  | none => .bad) st
theorem putKx_ok {st st' : Sto} {v o i : W} (h : putKx st v o i = some st') : ∃ j y k kvs, o = .r j ∧ i = .d y ∧ keyD y = some k ∧ st[j]? = some (.dic kvs) ∧ kvs.length < sizeLine ∧ st' = st.set j (.dic (putWk kvs k v)) := by
  cases o with
  | d _ => cases h
  | r j =>
    cases i with
    | r _ => cases h
    | d y =>
      dsimp only [putKx] at h
      split at h
      · rename_i kvs k e1 e2
        split at h
        · exact ⟨j, y, k, kvs, rfl, rfl, e2, e1, by assumption, (Option.some.inj h).symm⟩
        · cases h
      · cases h
theorem ss_setK (hu : X.A.units + 1 < cLine) (ho : SE X Wx a fa) (hi : SE X Wx b fb) (he : SE X Wx e f) (hs : swapsWith e (some (.Subscript a b p1)) pos.line X.env = pure false := by rfl) :
    SS X Wx (.Assign [.Subscript a b p1] e pos) (setK fa fb f) :=
  PS.imp (ps_dput hu ho hi he hs) fun D σ H h => by
    obtain ⟨F, m, st, ρ, er, rl, h⟩ := h
    have h0 := (AfterS.ofM er h).bnd
    refine ⟨F, m, st, ρ, er, rl, After.mono (Same.refl F) (List.prefix_refl m) h0 fun x F1 m1 H1 s1 p1 ⟨st1, _, _, rl1, h1⟩ v r1 => ?_⟩
    refine ⟨F1, m1, st1, ρ, er.mono s1 p1, rl1, After.mono (Same.refl F1) (List.prefix_refl m1) h1.bnd fun y F2 m2 H2 s2 p2 ⟨st2, _, _, rl2, h2⟩ o r2 => ?_⟩
    refine ⟨F2, m2, st2, ρ, (er.mono s1 p1).mono s2 p2, rl2, After.mono (Same.refl F2) (List.prefix_refl m2) h2.bnd fun z F3 m3 H3 s3 p3 ⟨st3, _, _, rl3, h3⟩ i r3 => ?_⟩
    obtain ⟨st4, _, _, rl4, h4⟩ := h3 F3 m3 H3 (Same.refl _) (List.prefix_refl _) rl3
    dsimp only at h4
    split at h4
    · rename_i st5 hst
      obtain ⟨j, y', k, kvs, ey, ez, hk, e1, hz, e3⟩ := putKx_ok hst
      have ey : y = .r j := ey
      have ez : z = .d y' := ez
      subst ey ez e3
      obtain ⟨a', rfl, hm, ps, hH, rps⟩ := rl4.at (r2.mono s3 p3) e1
      rw [key_dq hk r3]
      refine ⟨a', _, rfl, DPut.k hH (by rw [← PySem.Paired.length rps]; exact hz), ?_⟩
      exact h4 F3 m3 _ σ (Same.refl _) (List.prefix_refl _) (rl4.put hm ⟨_, upd_same, put_kvr k ((r1.mono s2 p2).mono s3 p3) rps⟩ e1) (((er.mono s1 p1).mono s2 p2).mono s3 p3)
    · exact h4.elim
end
/-! ## joined texts, the lesser of two numbers -/
def joinW (st : Sto) : W → W → Option W
  | .d (.str a), w => (textsW st w).bind fun ys => if (ys.map (·.length)).sum + ys.length * a.length ≤ 16777216 then some (.d (.str (Txt.join a ys))) else none
  | _, _ => none
section
variable {X : Cx} {Wx : WX} {e a b : Expr} {p1 pos : Pos} {f fa fb : Env → M W}
theorem dqs_strs {K : PySem.W.Frag} {F : Hp} : ∀ {vs : List V} {xs : List Str}, DqAll K F vs (xs.map .str) → vs = xs.map V.str
  | _, [], h => by cases h; rfl
  | _, x :: xs, h => by
    cases h with
    | cons h1 t => rw [dqs_strs t]; cases h1; rfl
def isStrW : W → Option Unit
  | .d (.str _) => some ()
  | _ => none
theorem isStrW_ok {x : W} {u : Unit} (h : isStrW x = some u) : ∃ z, x = .d (.str z) := by
  cases x with
  | r _ => cases h
  | d x => cases x <;> first | (cases h; done) | exact ⟨_, rfl⟩
def joinF (fa f : Env → M W) : Env → M W := fun ρ => bnd (fa ρ) fun x => bnd (liftO fun _ => isStrW x) fun _ => bnd (f ρ) fun y => liftO fun st => joinW st x y
theorem se_join (ha : SE X Wx a fa) (he : SE X Wx e f) (hs : starEach [e] X.env = [(false, eval e X.env)] := by rfl) (hbase : attributeBase a "join" X.env (eval a X.env) = eval a X.env := by rfl) (hline : (p1.endLine == pos.line) = true := by rfl) :
    SE X Wx (.Call (.Attribute a "join" p1) [e] [] pos) (joinF fa f) :=
  PE.imp (pe_join ha he hs hbase hline) fun σ H Q h => by
    obtain ⟨F, m, st, ρ, er, rl, h⟩ := h
    refine ⟨F, m, st, ρ, er, rl, After.mono (Same.refl F) (List.prefix_refl m) h.bnd fun x F1 m1 H1 s1 p1 ⟨st1, _, _, rl1, h1⟩ v r1 => ?_⟩
    obtain ⟨_, e1, q1⟩ := h1.bnd.liftO
    obtain ⟨z, rfl⟩ := isStrW_ok e1
    obtain ⟨st1', _, _, rl1', h1'⟩ := q1 F1 m1 H1 (Same.refl _) (List.prefix_refl _) rl1
    rw [dq_str r1]
    refine ⟨⟨z, rfl⟩, F1, m1, st1', ρ, er.mono s1 p1, rl1', After.mono (Same.refl F1) (List.prefix_refl m1) h1'.bnd fun y F2 m2 H2 s2 p2 ⟨st2, _, _, rl2, h2⟩ u r2 => ?_⟩
    obtain ⟨w, ew, q⟩ := h2.liftO
    dsimp only [joinW] at ew
    cases zt : textsW st2 y with
    | none => rw [zt] at ew; cases ew
    | some ys =>
      rw [zt, Option.bind_some] at ew
      split at ew
      · rename_i hz
        cases Option.some.inj ew
        unfold textsW at zt
        cases zs : seqW st2 y with
        | none => rw [zs] at zt; cases zt
        | some ds =>
          rw [zs, Option.bind_some] at zt
          have ed := strsD_eq zt
          subst ed
          obtain ⟨p, vs, rfl, t, hs'⟩ := seqW_ok rl2 r2 zs
          have := dqs_strs t
          subst this
          exact ⟨z, p, ys, rfl, rfl, hs'.imp id (·.1), hz, q F2 m2 H2 (Same.refl _) (List.prefix_refl _) rl2 _ (.str _)⟩
      · cases ew
end
def minW (_ : Sto) : List W → Option W
  | [.d (.int i), .d (.int j)] => some (.d (.int (if j < i then j else i)))
  | _ => none
def maxW (_ : Sto) : List W → Option W
  | [.d (.int i), .d (.int j)] => some (.d (.int (if j > i then j else i)))
  | _ => none
section
variable {X : Cx}
theorem cm_min (hc : X.calm = true) : CallM X (.builtin "min") minW := by
  intro pins s σ H vs us Q I r hh
  obtain ⟨F, m, st, ws, w, rv, rl, e, q⟩ := hh
  unfold minW at e
  split at e
  · cases Option.some.inj e
    obtain ⟨v, v', rfl, r1, r2⟩ := wrs2 rv
    rw [dq_int r1, dq_int r2] at r
    exact call_min2 hc pins s σ H _ us Q I r ⟨_, _, rfl, q F m H _ (Same.refl _) (List.prefix_refl _) rl (.int _)⟩
  · cases e
theorem cm_max (hc : X.calm = true) : CallM X (.builtin "max") maxW := by
  intro pins s σ H vs us Q I r hh
  obtain ⟨F, m, st, ws, w, rv, rl, e, q⟩ := hh
  unfold maxW at e
  split at e
  · cases Option.some.inj e
    obtain ⟨v, v', rfl, r1, r2⟩ := wrs2 rv
    rw [dq_int r1, dq_int r2] at r
    exact call_max2 hc pins s σ H _ us Q I r ⟨_, _, rfl, q F m H _ (Same.refl _) (List.prefix_refl _) rl (.int _)⟩
  · cases e
end
end Ev
end
section
set_option Elab.async false
set_option linter.all false
set_option maxRecDepth 100000
set_option autoImplicit false
namespace Ev
open PySem PySem.Spec PyProof.Rows L2
theorem units1 {k : Nat} {A : Around} (r : Room k A) : A.units + 1 < cLine := by have := r.un; omega
/-! ## a slice that is a list of the store -/
def slMut (st : Sto) (w : W) (lo hi : Option Int) : Option (List W) := match w with
  | .d (.list ds) => some (cutL (ds.map .d) lo hi)
  | .r i => (match st[i]? with
    | some (.lst ws) => some (cutL ws lo hi)
    | _ => none)
  | _ => none
theorem wrs_ofD {K : PySem.W.Frag} {F : Hp} {m : List Addr} : ∀ {vs : List V} {ds : List PyData}, DqAll K F vs ds → WRs K F m (ds.map .d) vs
  | _, _, .nil => .nil
  | _, _, .cons h t => .cons h (wrs_ofD t)
theorem wrs_len {K : PySem.W.Frag} {F : Hp} {m : List Addr} {ws : List W} {vs : List V} (h : WRs K F m ws vs) : ws.length = vs.length := PySem.Paired.length h
theorem wrs_drop {K : PySem.W.Frag} {F : Hp} {m : List Addr} : ∀ (n : Nat) {ws : List W} {vs : List V}, WRs K F m ws vs → WRs K F m (ws.drop n) (vs.drop n)
  | 0, _, _, h => h
  | n + 1, _, _, .nil => .nil
  | n + 1, _, _, .cons _ t => wrs_drop n t
theorem wrs_take {K : PySem.W.Frag} {F : Hp} {m : List Addr} : ∀ (n : Nat) {ws : List W} {vs : List V}, WRs K F m ws vs → WRs K F m (ws.take n) (vs.take n)
  | 0, _, _, _ => by simp; exact .nil
  | n + 1, _, _, .nil => .nil
  | n + 1, _, _, .cons h t => .cons h (wrs_take n t)
theorem wrs_cut {K : PySem.W.Frag} {F : Hp} {m : List Addr} {ws : List W} {vs : List V} (h : WRs K F m ws vs) (lo hi : Option Int) : WRs K F m (cutL ws lo hi) (cutV vs lo hi) := by
  unfold cutV cutL
  rw [wrs_len h]
  exact wrs_take _ (wrs_drop _ h)
def thawSl (x : W) (lo hi : Option Int) : M W := fun st => match slMut st x lo hi with
  | some ws => .ok (.r st.length) (st ++ [.lst ws])
  | none => .bad
def sliceM (f : Env → M W) (g h : Env → M (Option Int)) : Env → M W := fun ρ => bnd (f ρ) fun x => bnd (g ρ) fun lo => bnd (h ρ) fun hi => thawSl x lo hi
section
variable {X : Cx} {Wx : WX} {e : Expr} {lo hi : Option Expr} {p2 pos : Pos} {f : Env → M W}
theorem se_sliceM {g h : Env → M (Option Int)} (he : SE X Wx e f) (hl : SO' X Wx lo g) (hu : SO' X Wx hi h) : SE X Wx (.Subscript e (.Slice lo hi none p2) pos) (sliceM f g h) :=
  PE.imp (pe_slice sl_list he hl hu) fun σ H Q hh => by
    obtain ⟨F, m, st, ρ, er, rl, hh⟩ := hh
    refine ⟨F, m, st, ρ, er, rl, After.mono (Same.refl F) (List.prefix_refl m) hh.bnd fun x F1 m1 H1 s1 p1 ⟨st1, _, _, rl1, h1⟩ v r1 => ?_⟩
    refine ⟨F1, m1, st1, ρ, er.mono s1 p1, rl1, After.mono (Same.refl F1) (List.prefix_refl m1) h1.bnd fun l F2 m2 H2 s2 p2 ⟨st2, _, _, rl2, h2⟩ => ?_⟩
    refine ⟨F2, m2, st2, ρ, (er.mono s1 p1).mono s2 p2, rl2, After.mono (Same.refl F2) (List.prefix_refl m2) h2.bnd fun u F3 m3 H3 s3 p3 ⟨st3, _, _, rl3, h3⟩ => ?_⟩
    have r3 := (r1.mono s2 p2).mono s3 p3
    cases z : slMut st3 x l u with
    | none =>
      have h3 : After X.K X.mg F3 m3 _ (match slMut st3 x l u with | some ws => R.ok (W.r st3.length) (st3 ++ [SO.lst ws]) | none => R.bad) _ := h3
      rw [z] at h3; exact h3.elim
    | some ws =>
      have h3 : After X.K X.mg F3 m3 _ (match slMut st3 x l u with | some ws => R.ok (W.r st3.length) (st3 ++ [SO.lst ws]) | none => R.bad) _ := h3
      rw [z] at h3
      have fin : ∀ (vs : List V) (q : Addr), H3 q = none → WRs X.K F3 m3 ws (cutV vs l u) → Q (.ref q) (upd H3 q (.lst (cutV vs l u))) := fun vs q hq hw =>
        h3 F3 (m3 ++ [q]) _ (Same.refl F3) (List.prefix_append m3 [q]) (rl3.fresh hq ⟨_, upd_same, hw.mono (Same.refl _) (List.prefix_append m3 [q])⟩) _ ⟨q, last_m rl3 q, rfl⟩
      cases x with
      | d y =>
        cases y with
        | list ds =>
          cases Option.some.inj z
          obtain ⟨p, vs, rfl, h4, t⟩ := dq_lst r3
          exact ⟨p, vs, rfl, SqL.of (rl3.sub _ _ h4), fun q hq => fin vs q hq (wrs_cut (wrs_ofD t) l u)⟩
        | _ => cases z
      | r i =>
        dsimp only [slMut] at z
        split at z
        · rename_i ws' hst
          cases Option.some.inj z
          obtain ⟨p, rfl, hm, vs, hH, rvs⟩ := rl3.at r3 hst
          exact ⟨p, vs, rfl, SqL.of hH, fun q hq => fin vs q hq (wrs_cut rvs l u)⟩
        · cases z
end
section
variable {ρ : Env} {st : Sto} {E : Ex → Sto → Prop} {Q : W → Sto → Prop}
@[simp] theorem wp_dic : wpM (mkDic ρ) st Q E = Q (.r st.length) (st ++ [.dic []]) := wpM_def
theorem wp_thawSl {x : W} {lo hi : Option Int} : wpM (thawSl x lo hi) st Q E = (match slMut st x lo hi with | some ws => Q (.r st.length) (st ++ [.lst ws]) | none => False) := by
  refine wpM_def.trans ?_
  unfold thawSl
  cases slMut st x lo hi <;> rfl
@[simp] theorem wp_sliceM {f : Env → M W} {g h : Env → M (Option Int)} : wpM (sliceM f g h ρ) st Q E = wpM (f ρ) st (fun x s => wpM (g ρ) s (fun lo s => wpM (h ρ) s (fun hi s => match slMut s x lo hi with | some ws => Q (.r s.length) (s ++ [.lst ws]) | none => False) E) E) E := by
  unfold sliceM
  rw [wp_bnd]; congr 1; funext x s
  rw [wp_bnd]; congr 1; funext lo s
  rw [wp_bnd]; congr 1; funext hi s
  exact wp_thawSl
@[simp] theorem wp_joinF {fa f : Env → M W} : wpM (joinF fa f ρ) st Q E = wpM (fa ρ) st (fun x s => match isStrW x with | some _ => wpM (f ρ) s (fun y s => match joinW s x y with | some w => Q w s | none => False) E | none => False) E := by
  unfold joinF
  rw [wp_bnd]; congr 1; funext x s
  rw [wp_bnd, wp_liftO]
  cases isStrW x with
  | none => rfl
  | some u =>
    dsimp only
    rw [wp_bnd]; congr 1; funext y s
    rw [wp_liftO]
    cases joinW s x y <;> rfl
@[simp] theorem wp_setK {fo fi fv : Env → M W} {D : Dn} : wpS (setK fo fi fv) ρ st D = wpM (fv ρ) st (fun v s => wpM (fo ρ) s (fun o s => wpM (fi ρ) s (fun i s => match putKx s v o i with
    | some s' => D.nx ρ s'
    | none => False) fun x s => D.ex x ρ s) fun x s => D.ex x ρ s) fun x s => D.ex x ρ s := by
  refine (wpS_def.trans wp_ofM).trans ?_
  rw [wp_bnd]
  congr 1
  funext v s
  rw [wp_bnd]
  congr 1
  funext o s
  rw [wp_bnd]
  congr 1
  funext i s
  rw [wp_ret]
  cases putKx s v o i <;> rfl
end
end Ev
end
section
set_option Elab.async false
set_option linter.all false
set_option maxRecDepth 100000
set_option autoImplicit false
namespace Ev
open PySem PySem.Spec PyProof.Rows L2
/-! ## computing from without inwards -/
class Kt (α : Type) where
  q : α → Sto → Prop
  e : Ex → Sto → Prop
class Kp (α : Type) where
  q : α → Prop
class K2 where
  a : Prop
  b : Prop
class KD where
  nx : Env → Sto → Prop
  rt : W → Sto → Prop
  bk : Env → Sto → Prop
  ct : Env → Sto → Prop
  ex : Ex → Env → Sto → Prop
@[simp ↓] theorem Kt_q {α : Type} {q : α → Sto → Prop} {e : Ex → Sto → Prop} {a : α} {s : Sto} : @Kt.q α ⟨q, e⟩ a s = q a s := propext Iff.rfl
@[simp ↓] theorem Kt_e {α : Type} {q : α → Sto → Prop} {e : Ex → Sto → Prop} {a : Ex} {s : Sto} : @Kt.e α ⟨q, e⟩ a s = e a s := propext Iff.rfl
@[simp ↓] theorem Kp_q {α : Type} {q : α → Prop} {a : α} : @Kp.q α ⟨q⟩ a = q a := propext Iff.rfl
@[simp ↓] theorem K2_a {a b : Prop} : @K2.a ⟨a, b⟩ = a := propext Iff.rfl
@[simp ↓] theorem K2_b {a b : Prop} : @K2.b ⟨a, b⟩ = b := propext Iff.rfl
section
variable {n c b : Env → Sto → Prop} {r : W → Sto → Prop} {x : Ex → Env → Sto → Prop}
@[simp ↓] theorem KD_nx {ρ : Env} {s : Sto} : @KD.nx ⟨n, r, b, c, x⟩ ρ s = n ρ s := propext Iff.rfl
@[simp ↓] theorem KD_rt {w : W} {s : Sto} : @KD.rt ⟨n, r, b, c, x⟩ w s = r w s := propext Iff.rfl
@[simp ↓] theorem KD_bk {ρ : Env} {s : Sto} : @KD.bk ⟨n, r, b, c, x⟩ ρ s = b ρ s := propext Iff.rfl
@[simp ↓] theorem KD_ct {ρ : Env} {s : Sto} : @KD.ct ⟨n, r, b, c, x⟩ ρ s = c ρ s := propext Iff.rfl
@[simp ↓] theorem KD_ex {e : Ex} {ρ : Env} {s : Sto} : @KD.ex ⟨n, r, b, c, x⟩ e ρ s = x e ρ s := propext Iff.rfl
end
def qM {α : Type} (m : M α) (st : Sto) [K : Kt α] : Prop := wpM m st K.q K.e
def qS (s : S) (ρ : Env) (st : Sto) [K : KD] : Prop := wpS s ρ st ⟨K.nx, K.rt, K.bk, K.ct, K.ex⟩
def qO {α : Type} (o : Option α) [K : Kp α] : Prop := match o with
  | some a => K.q a
  | none => False
def qB (k : Bool) [K : K2] : Prop := if k = true then K.a else K.b
theorem qM_in {α : Type} {m : M α} {st : Sto} {Q : α → Sto → Prop} {E : Ex → Sto → Prop} : wpM m st Q E = @qM α m st ⟨Q, E⟩ := rfl
theorem qS_in {s : S} {ρ : Env} {st : Sto} {D : Dn} : wpS s ρ st D = @qS s ρ st ⟨D.nx, D.rt, D.bk, D.ct, D.ex⟩ := rfl
@[simp ↓] theorem qM_in' {α : Type} {m : M α} {st : Sto} {Q : α → Sto → Prop} {E : Ex → Sto → Prop} : wpM m st Q E = @qM α m st ⟨Q, E⟩ := propext Iff.rfl
theorem qS_in' {s : S} {ρ : Env} {st : Sto} {D : Dn} : wpS s ρ st D = @qS s ρ st ⟨D.nx, D.rt, D.bk, D.ct, D.ex⟩ := propext Iff.rfl
@[simp] theorem qO_some {α : Type} {a : α} {K : Kp α} : @qO α (some a) K = K.q a := propext Iff.rfl
@[simp] theorem qO_none {α : Type} {K : Kp α} : @qO α none K = False := propext Iff.rfl
theorem qO_of {α : Type} {o : Option α} {a : α} {K : Kp α} (h : o = some a) (q : K.q a) : @qO α o K := by rw [h]; exact q
@[simp] theorem qB_true {K : K2} : @qB true K = K.a := if_pos rfl
@[simp] theorem qB_false {K : K2} : @qB false K = K.b := if_neg Bool.false_ne_true
theorem qB_dec {p : Prop} [Decidable p] {K : K2} (h1 : p → K.a) (h2 : ¬ p → K.b) : @qB (decide p) K := by
  by_cases h : p
  · rw [decide_eq_true h]; exact h1 h
  · rw [decide_eq_false h]; exact h2 h
theorem qB_cases {k : Bool} {K : K2} (h1 : k = true → K.a) (h2 : k = false → K.b) : @qB k K := by
  cases k with
  | true => exact h1 rfl
  | false => exact h2 rfl
def wO : W → Option PyData
  | .d x => some x
  | .r _ => none
def bO : W → Option Bool
  | .d (.bool k) => some k
  | _ => none
def iO : W → Option Int
  | .d (.int k) => some k
  | _ => none
@[simp] theorem wO_d {x : PyData} : wO (.d x) = some x := rfl
@[simp] theorem bO_b {x : Bool} : bO (.d (.bool x)) = some x := rfl
@[simp] theorem iO_i {x : Int} : iO (.d (.int x)) = some x := rfl
def getO (ρ : Env) (i : Nat) : Option W := match ρ[i]? with
  | some (some (.w w)) => some w
  | _ => none
theorem getO_eq (ρ : Env) (i : Nat) : getO ρ i = match ρ[i]? with
  | some (some (.w w)) => some w
  | _ => none := rfl
@[simp] theorem getO_0 {w : W} {r : Env} : getO (some (.w w) :: r) 0 = some w := rfl
@[simp] theorem getO_s {x : Option Sl} {r : Env} {i : Nat} : getO (x :: r) (i + 1) = getO r i := by unfold getO; rw [List.getElem?_cons_succ]
def tupO (ws : List W) : Option PyData := (allD ws).bind fun ds => if ds.length ≤ 16777216 then some (.tuple ds) else none
def lstO (ws : List W) : Option PyData := (allD ws).bind fun ds => if ds.length ≤ 16777216 then some (.list ds) else none
@[simp] theorem tupO_eq {ws : List W} : tupO ws = (allD ws).bind fun ds => if ds.length ≤ 16777216 then some (.tuple ds) else none := rfl
@[simp] theorem lstO_eq {ws : List W} : lstO ws = (allD ws).bind fun ds => if ds.length ≤ 16777216 then some (.list ds) else none := rfl
def isiO (T : Ty) (s : Sto) : W → Option Bool
  | .d x => some (isTyD T x)
  | .r i => (match s[i]? with
    | some (.lst _) => some (isTyD T (.list []))
    | _ => none)
@[simp] theorem isiO_d {T : Ty} {s : Sto} {x : PyData} : isiO T s (.d x) = some (isTyD T x) := rfl
def rngO : List W → Option Its
  | [.d (.int j)] => if -(2 ^ 62) ≤ j ∧ j < 2 ^ 62 then some (rangeL 0 j.toNat, always) else none
  | _ => none
@[simp] theorem rngO_i {j : Int} : rngO [.d (.int j)] = if -(2 ^ 62) ≤ j ∧ j < 2 ^ 62 then some (rangeL 0 j.toNat, always) else none := rfl
def enumO : List W → Option Its
  | [.d (.tuple xs)] => some (enumL 0 xs, always)
  | _ => none
@[simp] theorem enumO_t {xs : List PyData} : enumO [.d (.tuple xs)] = some (enumL 0 xs, always) := rfl
section
variable {α : Type} {ρ : Env} {st : Sto} {K : Kt W} {f fa fb : Env → M W} {ga gb : Env → M Bool} {fs : Env → M (List W)} {s t : S}
theorem qM_eq {α : Type} {m : M α} {st : Sto} {K : Kt α} {Q : α → Sto → Prop} {E : Ex → Sto → Prop} {P : Prop} (h : wpM m st Q E = P) (hq : Q = K.q) (he : E = K.e) : @qM α m st K = P := by subst hq he; exact h
theorem q_ret {a : α} {K : Kt α} : @qM α (ret a) st K = K.q a st := wpM_def
theorem q_bnd {β : Type} {m : M β} {f : β → M α} {K : Kt α} : @qM α (bnd m f) st K = @qM β m st ⟨fun b s => @qM α (f b) s K, K.e⟩ := wp_bnd
theorem q_get {i : Nat} : @qM W (getV i ρ) st K = @qO _ (getO ρ i) ⟨fun w => K.q w st⟩ := by
  refine wp_get.trans ?_; unfold getO
  cases ρ[i]? with
  | none => rfl
  | some x => cases x with
    | none => rfl
    | some x => cases x <;> rfl
theorem q_bin {op : Sto → W → W → Option W} : @qM W (bin op fa fb ρ) st K = @qM W (fa ρ) st ⟨fun x s => @qM W (fb ρ) s ⟨fun y s => @qO _ (op s x y) ⟨fun w => K.q w s⟩, K.e⟩, K.e⟩ := by
  refine wp_bin.trans ?_; unfold qM; congr 1; funext x s; (try dsimp only [Kt_q, Kt_e]); congr 1; funext y s; (try dsimp only [Kt_q, Kt_e]); cases op s x y <;> rfl
theorem q_op1 {op : Sto → W → Option W} : @qM W (op1 op f ρ) st K = @qM W (f ρ) st ⟨fun x s => @qO _ (op s x) ⟨fun w => K.q w s⟩, K.e⟩ := by
  refine wp_op1.trans ?_; unfold qM; congr 1; funext x s; (try dsimp only [Kt_q, Kt_e]); cases op s x <;> rfl
theorem q_callF {op : Sto → List W → Option W} : @qM W (callF op fs ρ) st K = @qM _ (fs ρ) st ⟨fun x s => @qO _ (op s x) ⟨fun w => K.q w s⟩, K.e⟩ := by
  refine wp_callF.trans ?_; unfold qM; congr 1; funext x s; (try dsimp only [Kt_q, Kt_e]); cases op s x <;> rfl
theorem q_consA {K : Kt (List W)} : @qM _ (consA f fs ρ) st K = @qM W (f ρ) st ⟨fun x s => @qM _ (fs ρ) s ⟨fun xs s => K.q (x :: xs) s, K.e⟩, K.e⟩ := wp_consA
theorem q_tup : @qM W (mkTup fs ρ) st K = @qM _ (fs ρ) st ⟨fun ws s => @qO _ (tupO ws) ⟨fun d => K.q (.d d) s⟩, K.e⟩ := by
  refine wp_tup.trans ?_; unfold qM; congr 1; funext ws s; (try dsimp only [Kt_q, Kt_e]); unfold tupO; rw [← sizeLine_eq]
  cases allD ws with
  | none => rfl
  | some ds => dsimp only [Option.bind_some]; split <;> rfl
theorem q_lst : @qM W (mkLst fs ρ) st K = @qM _ (fs ρ) st ⟨fun ws s => @qO _ (lstO ws) ⟨fun d => K.q (.d d) s⟩, K.e⟩ := by
  refine wp_lst.trans ?_; unfold qM; congr 1; funext ws s; (try dsimp only [Kt_q, Kt_e]); unfold lstO; rw [← sizeLine_eq]
  cases allD ws with
  | none => rfl
  | some ds => dsimp only [Option.bind_some]; split <;> rfl
theorem q_isi {T : Ty} : @qM W (isiF T f ρ) st K = @qM W (f ρ) st ⟨fun w s => @qO _ (isiO T s w) ⟨fun k => K.q (.d (.bool k)) s⟩, K.e⟩ := by
  refine wp_isi.trans ?_; unfold qM; congr 1; funext w s; (try dsimp only [Kt_q, Kt_e])
  cases w with
  | d x => rfl
  | r i =>
    unfold isiO
    dsimp only
    cases s[i]? with
    | none => rfl
    | some o => cases o <;> rfl
theorem q_neg : @qM W (negW f ρ) st K = @qM W (f ρ) st ⟨fun w s => @qO _ (iO w) ⟨fun i => K.q (.d (.int (-i))) s⟩, K.e⟩ := by
  refine wp_neg.trans ?_; unfold qM; congr 1; funext w s; (try dsimp only [Kt_q, Kt_e])
  cases w with
  | r i => rfl
  | d x => cases x <;> rfl
theorem q_part {K : Kt (Option Int)} : @qM _ (partF f ρ) st K = @qM W (f ρ) st ⟨fun w s => @qO _ (iO w) ⟨fun i => K.q (some i) s⟩, K.e⟩ := by
  refine wp_part.trans ?_; unfold qM; congr 1; funext w s; (try dsimp only [Kt_q, Kt_e])
  cases w with
  | r i => rfl
  | d x => cases x <;> rfl
theorem q_slice {g h : Env → M (Option Int)} : @qM W (sliceF f g h ρ) st K = @qM W (f ρ) st ⟨fun x s => @qM _ (g ρ) s ⟨fun lo s => @qM _ (h ρ) s ⟨fun hi s => @qO _ (slW s x lo hi) ⟨fun v => K.q v s⟩, K.e⟩, K.e⟩, K.e⟩ := by
  refine wp_slice.trans ?_; unfold qM; congr 1; funext x s; (try dsimp only [Kt_q, Kt_e]); congr 1; funext lo s; (try dsimp only [Kt_q, Kt_e]); congr 1; funext hi s; (try dsimp only [Kt_q, Kt_e]); cases slW s x lo hi <;> rfl
theorem q_it {k : Sto → W → Option Its} {K : Kt Its} : @qM _ (itF k f ρ) st K = @qM W (f ρ) st ⟨fun w s => @qO _ (k s w) ⟨fun p => K.q p s⟩, K.e⟩ := by
  refine wp_it.trans ?_; unfold qM; congr 1; funext x s; (try dsimp only [Kt_q, Kt_e]); cases k s x <;> rfl
theorem q_range1 {K : Kt Its} : @qM _ (range1 fs ρ) st K = @qM _ (fs ρ) st ⟨fun ws s => @qO _ (rngO ws) ⟨fun p => K.q p s⟩, K.e⟩ := by
  refine wp_range1.trans ?_; unfold qM; congr 1; funext ws s; (try dsimp only [Kt_q, Kt_e])
  match ws with
  | [] => rfl
  | [.r i] => rfl
  | [.d (.int j)] => by_cases h : -(2 ^ 62) ≤ j ∧ j < 2 ^ 62
                     · simp only [rngO, if_pos h]; rfl
                     · simp only [rngO, if_neg h]; rfl
  | [.d .none] => rfl
  | [.d (.tuple xs)] => rfl
  | [.d (.bool j)] => rfl
  | [.d (.str j)] => rfl
  | [.d (.list j)] => rfl
  | [.d (.dict j)] => rfl
  | x :: y :: r => cases x with
    | r i => rfl
    | d x => cases x <;> rfl
theorem q_enumT {K : Kt Its} : @qM _ (enumT fs ρ) st K = @qM _ (fs ρ) st ⟨fun ws s => @qO _ (enumO ws) ⟨fun p => K.q p s⟩, K.e⟩ := by
  refine wp_enumT.trans ?_; unfold qM; congr 1; funext ws s; (try dsimp only [Kt_q, Kt_e])
  match ws with
  | [] => rfl
  | [.r i] => rfl
  | [.d (.int j)] => rfl
  | [.d .none] => rfl
  | [.d (.tuple xs)] => rfl
  | [.d (.bool j)] => rfl
  | [.d (.str j)] => rfl
  | [.d (.list j)] => rfl
  | [.d (.dict j)] => rfl
  | x :: y :: r => cases x with
    | r i => rfl
    | d x => cases x <;> rfl
theorem q_toB {K : Kt Bool} : @qM _ (toB f ρ) st K = @qM W (f ρ) st ⟨fun w s => @qO _ (bO w) ⟨fun k => K.q k s⟩, K.e⟩ := by
  refine wp_toB.trans ?_; unfold qM; congr 1; funext w s; (try dsimp only [Kt_q, Kt_e])
  cases w with
  | r i => rfl
  | d x => cases x <;> rfl
theorem q_tst {K : Kt Bool} : @qM _ (tst f ρ) st K = @qM W (f ρ) st ⟨fun w s => @qO _ (truW s w) ⟨fun k => K.q k s⟩, K.e⟩ := by
  refine wp_tst.trans ?_; unfold qM; congr 1; funext w s; (try dsimp only [Kt_q, Kt_e]); cases truW s w <;> rfl
theorem q_andB {K : Kt Bool} : @qM _ (andB ga gb ρ) st K = @qM _ (ga ρ) st ⟨fun k s => @qB k ⟨(@qM _ (gb ρ) s K), (K.q false s)⟩, K.e⟩ := wp_andB
theorem q_orB {K : Kt Bool} : @qM _ (orB ga gb ρ) st K = @qM _ (ga ρ) st ⟨fun k s => @qB k ⟨(K.q true s), (@qM _ (gb ρ) s K)⟩, K.e⟩ := wp_orB
theorem q_notB {K : Kt Bool} : @qM _ (notB ga ρ) st K = @qM _ (ga ρ) st ⟨fun k s => K.q (!k) s, K.e⟩ := wp_notB
theorem q_tt {K : Kt Bool} : @qM _ (ret true : M Bool) st K = K.q true st := wpM_def
theorem q_andW : @qM W (andW fa fb ρ) st K = @qM W (fa ρ) st ⟨fun x s => @qO _ (truW s x) ⟨fun k => @qB k ⟨(@qM W (fb ρ) s K), (K.q x s)⟩⟩, K.e⟩ := by
  refine wp_andW.trans ?_; unfold qM; congr 1; funext x s; (try dsimp only [Kt_q, Kt_e])
  cases truW s x with
  | none => rfl
  | some k => cases k <;> rfl
theorem q_orW : @qM W (orW fa fb ρ) st K = @qM W (fa ρ) st ⟨fun x s => @qO _ (truW s x) ⟨fun k => @qB k ⟨(K.q x s), (@qM W (fb ρ) s K)⟩⟩, K.e⟩ := by
  refine wp_orW.trans ?_; unfold qM; congr 1; funext x s; (try dsimp only [Kt_q, Kt_e])
  cases truW s x with
  | none => rfl
  | some k => cases k <;> rfl
theorem q_notW : @qM W (notW fa ρ) st K = @qM W (fa ρ) st ⟨fun x s => @qO _ (truW s x) ⟨fun k => K.q (.d (.bool (!k))) s⟩, K.e⟩ := by
  refine wp_notW.trans ?_; unfold qM; congr 1; funext x s; (try dsimp only [Kt_q, Kt_e]); cases truW s x <;> rfl
theorem q_ifW : @qM W (ifW ga fa fb ρ) st K = @qM _ (ga ρ) st ⟨fun k s => @qB k ⟨(@qM W (fa ρ) s K), (@qM W (fb ρ) s K)⟩, K.e⟩ := wp_ifW
theorem q_chain {op op' : Sto → W → W → Option W} : @qM W (chain op op' f fa fb ρ) st K = @qM W (f ρ) st ⟨fun x s => @qM W (fa ρ) s ⟨fun y s => @qO _ ((op s x y).bind bO) ⟨fun k => @qB k ⟨(@qM W (fb ρ) s ⟨fun z s => @qO _ (op' s y z) ⟨fun w => K.q w s⟩, K.e⟩), (K.q (.d (.bool false)) s)⟩⟩, K.e⟩, K.e⟩ := by
  refine wp_chain.trans ?_; unfold qM; congr 1; funext x s; (try dsimp only [Kt_q, Kt_e]); congr 1; funext y s; (try dsimp only [Kt_q, Kt_e])
  cases op s x y with
  | none => rfl
  | some w =>
    cases w with
    | r i => rfl
    | d w =>
      cases w with
      | bool k =>
        cases k with
        | true =>
          show _ = wpM (fb ρ) s _ _
          dsimp only
          congr 1; funext z s; (try dsimp only [Kt_q, Kt_e]); cases op' s y z <;> rfl
        | false => rfl
      | _ => rfl
theorem q_callU {n : Nat} {fn : List W → M W} : @qM W (callU n fn fs ρ) st K = @qM _ (fs ρ) st ⟨fun ws s => @qB (decide (ws.length = n)) ⟨(@qM W (fn ws) s K), False⟩, K.e⟩ := by
  refine wp_callU.trans ?_; unfold qM; congr 1; funext ws s; (try dsimp only [Kt_q, Kt_e]); simp only [qB, decide_eq_true_eq]
theorem q_run {n : Nat} {fb : S} {ws : List W} : @qM W (runB n fb ws) st K = @qS fb (startE n ws) st ⟨fun _ s => K.q (.d .none) s, K.q, fun _ _ => False, fun _ _ => False, fun x _ s => K.e x s⟩ := wp_run
theorem q_runS {n : Nat} {fb : S} {ns : List Int} : @qM W (runS n fb ns) st K = @qS fb (some (.scr ns) :: List.replicate (n - 1) none) st ⟨fun _ s => K.q (.d .none) s, K.q, fun _ _ => False, fun _ _ => False, fun x _ s => K.e x s⟩ := wp_runS
theorem q_asData {ws : List W} : @qM W (asData ws) st K = @qO _ (allD ws) ⟨fun ds => K.q (.d (.list ds)) st⟩ := by
  unfold asData qM
  rw [wp_liftO]
  cases allD ws <;> rfl
theorem q_asMut {ws : List W} : @qM W (asMut ws) st K = K.q (.r st.length) (st ++ [.lst ws]) := wp_asMut
theorem q_mut : @qM W (mkMut fs ρ) st K = @qM _ (fs ρ) st ⟨fun ws s => @qB (decide (ws.length ≤ 16777216)) ⟨(K.q (.r s.length) (s ++ [.lst ws])), False⟩, K.e⟩ := by
  refine wp_mut.trans ?_; unfold qM; congr 1; funext ws s; (try dsimp only [Kt_q, Kt_e]); rw [sizeLine_eq]; simp only [qB, decide_eq_true_eq]
theorem q_dic : @qM W (mkDic ρ) st K = K.q (.r st.length) (st ++ [.dic []]) := wp_dic
theorem q_sliceM {g h : Env → M (Option Int)} : @qM W (sliceM f g h ρ) st K = @qM W (f ρ) st ⟨fun x s => @qM _ (g ρ) s ⟨fun lo s => @qM _ (h ρ) s ⟨fun hi s => @qO _ (slMut s x lo hi) ⟨fun ws => K.q (.r s.length) (s ++ [.lst ws])⟩, K.e⟩, K.e⟩, K.e⟩ := by
  refine wp_sliceM.trans ?_; unfold qM; congr 1; funext x s; (try dsimp only [Kt_q, Kt_e]); congr 1; funext lo s; (try dsimp only [Kt_q, Kt_e]); congr 1; funext hi s; (try dsimp only [Kt_q, Kt_e]); cases slMut s x lo hi <;> rfl
theorem q_joinF : @qM W (joinF fa f ρ) st K = @qM W (fa ρ) st ⟨fun x s => @qO _ (isStrW x) ⟨fun _ => @qM W (f ρ) s ⟨fun y s => @qO _ (joinW s x y) ⟨fun w => K.q w s⟩, K.e⟩⟩, K.e⟩ := by
  refine wp_joinF.trans ?_; unfold qM; congr 1; funext x s; (try dsimp only [Kt_q, Kt_e])
  cases isStrW x with
  | none => rfl
  | some u => show wpM _ _ _ _ = wpM _ _ _ _; congr 1; funext y s; (try dsimp only [Kt_q, Kt_e]); cases joinW s x y <;> rfl
theorem q_app {fo fv : Env → M W} : @qM W (appS fo fv ρ) st K = @qM W (fo ρ) st ⟨fun o s => @qO _ (isMut s o) ⟨fun _ => @qM W (fv ρ) s ⟨fun v s => @qO _ (putEnd s v o) ⟨fun s => K.q (.d .none) s⟩, K.e⟩⟩, K.e⟩ := by
  refine wp_app.trans ?_; unfold qM; congr 1; funext o s; (try dsimp only [Kt_q, Kt_e])
  cases isMut s o with
  | none => rfl
  | some u => show wpM _ _ _ _ = wpM _ _ _ _; congr 1; funext v s; (try dsimp only [Kt_q, Kt_e]); cases putEnd s v o <;> rfl
theorem q_lc {fi : Env → M Its} {vs : List Nat} {asg : As} {gt : Env → M Bool} {fe : Env → M W} {fin : List W → M W} : @qM W (lcF fi vs asg gt fe fin ρ) st K = @qM _ (fi ρ) st ⟨fun p s => @qB (decide (p.1.length < 16777216)) ⟨(@qM _ (compL p.2 vs asg gt fe ρ p.1 []) s ⟨fun ws s => @qM W (fin ws) s K, K.e⟩), False⟩, K.e⟩ := by
  refine wp_lc.trans ?_; unfold qM; congr 1; funext p s; (try dsimp only [Kt_q, Kt_e]); rw [sizeLine_eq]; simp only [qB, decide_eq_true_eq]
theorem q_scr {fn : List Int → M W} {ns : List Int} {r : Env} : @qM W (scrF 0 fn (some (.scr ns) :: r)) st K = @qM W (fn ns) st K := wp_scr
/-! statements -/
variable {D : KD}
theorem q_seq : @qS (seqS s t) ρ st D = @qS s ρ st ⟨fun ρ' st' => @qS t ρ' st' D, D.rt, D.bk, D.ct, D.ex⟩ := wp_seq
theorem q_nx : @qS nxS ρ st D = D.nx ρ st := wp_nx
theorem q_retS : @qS (retS f) ρ st D = @qM W (f ρ) st ⟨D.rt, fun x s => D.ex x ρ s⟩ := wp_retS
theorem q_drop : @qS (dropS f) ρ st D = @qM W (f ρ) st ⟨fun _ s => D.nx ρ s, fun x s => D.ex x ρ s⟩ := wp_drop
theorem q_asg {i : Nat} : @qS (asgS i f) ρ st D = @qM W (f ρ) st ⟨fun w s => D.nx (ρ.set i (some (.w w))) s, fun x s => D.ex x ρ s⟩ := wp_asg
theorem q_if : @qS (ifS ga s t) ρ st D = @qM _ (ga ρ) st ⟨fun k s' => @qB k ⟨(@qS s ρ s' D), (@qS t ρ s' D)⟩, fun x s' => D.ex x ρ s'⟩ := wp_if
theorem q_raise {x : Str} : @qS (raiseS x) ρ st D = D.ex ⟨x, []⟩ ρ st := wp_raise
theorem q_for {fi : Env → M Its} {asg : As} {body : S} : @qS (forS fi asg body) ρ st D = @qM _ (fi ρ) st ⟨fun p s' => @qS (loopS p.2 asg body p.1) ρ s' D, fun x s' => D.ex x ρ s'⟩ := wp_for
theorem q_asgT {a : As} : @qS (asgT a f) ρ st D = @qM W (f ρ) st ⟨fun w s => @qO _ ((wO w).bind fun d => a d ρ) ⟨fun ρ' => D.nx ρ' s⟩, fun x s => D.ex x ρ s⟩ := by
  refine wp_asgT.trans ?_; unfold qM; congr 1; funext w s; (try dsimp only [Kt_q, Kt_e])
  cases w with
  | r i => rfl
  | d d => dsimp only [wO, Option.bind_some]; cases a d ρ <;> rfl
theorem q_setIx {fo fi fv : Env → M W} : @qS (setIx fo fi fv) ρ st D = @qM W (fv ρ) st ⟨fun v s => @qM W (fo ρ) s ⟨fun o s => @qM W (fi ρ) s ⟨fun i s => @qO _ (putIx s v o i) ⟨fun s' => D.nx ρ s'⟩, fun x s => D.ex x ρ s⟩, fun x s => D.ex x ρ s⟩, fun x s => D.ex x ρ s⟩ := by
  refine wp_setIx.trans ?_; unfold qM; congr 1; funext v s; (try dsimp only [Kt_q, Kt_e]); congr 1; funext o s; (try dsimp only [Kt_q, Kt_e]); congr 1; funext i s; (try dsimp only [Kt_q, Kt_e]); cases putIx s v o i <;> rfl
theorem q_setK {fo fi fv : Env → M W} : @qS (setK fo fi fv) ρ st D = @qM W (fv ρ) st ⟨fun v s => @qM W (fo ρ) s ⟨fun o s => @qM W (fi ρ) s ⟨fun i s => @qO _ (putKx s v o i) ⟨fun s' => D.nx ρ s'⟩, fun x s => D.ex x ρ s⟩, fun x s => D.ex x ρ s⟩, fun x s => D.ex x ρ s⟩ := by
  refine wp_setK.trans ?_; unfold qM; congr 1; funext v s; (try dsimp only [Kt_q, Kt_e]); congr 1; funext o s; (try dsimp only [Kt_q, Kt_e]); congr 1; funext i s; (try dsimp only [Kt_q, Kt_e]); cases putKx s v o i <;> rfl
theorem q_loop_nil {asg : As} {body : S} : @qS (loopS always asg body []) ρ st D = D.nx ρ st := wp_loop_nil
theorem q_loop_cons {asg : As} {body : S} {d : PyData} {ds : List PyData} : @qS (loopS always asg body (d :: ds)) ρ st D = @qO _ (asg d ρ) ⟨fun ρ1 => @qS body ρ1 st ⟨fun ρ' s => @qS (loopS always asg body ds) ρ' s D, D.rt, D.nx, fun ρ' s => @qS (loopS always asg body ds) ρ' s D, D.ex⟩⟩ := by
  refine wp_loop_cons.trans ?_; cases asg d ρ <;> rfl
theorem q_comp_nil {vs : List Nat} {asg : As} {gt : Env → M Bool} {fe : Env → M W} {K : Kt (List W)} {acc : List W} : @qM _ (compL always vs asg gt fe ρ [] acc) st K = K.q acc st := wp_comp_nil
theorem q_comp_cons {vs : List Nat} {asg : As} {gt : Env → M Bool} {fe : Env → M W} {K : Kt (List W)} {acc : List W} {d : PyData} {ds : List PyData} : @qM _ (compL always vs asg gt fe ρ (d :: ds) acc) st K =
    @qO _ (asg d (wipeE ρ vs)) ⟨fun ρ1 => @qM _ (gt ρ1) st ⟨fun k s => @qB k ⟨(@qM _ (fe ρ1) s ⟨fun w s' => @qM _ (compL always vs asg gt fe ρ ds (acc ++ [w])) s' K, fun _ _ => False⟩), (@qM _ (compL always vs asg gt fe ρ ds acc) s K)⟩, fun _ _ => False⟩⟩ := by
  refine wp_comp_cons.trans ?_; cases asg d (wipeE ρ vs) with
  | none => rfl
  | some ρ1 => show wpM _ _ _ _ = wpM _ _ _ _; congr 1
end
/-- two names at once -/
def parO (i j : Nat) (ρ : Env) : List W → Option Env
  | [a, b] => some ((ρ.set i (some (.w a))).set j (some (.w b)))
  | _ => none
@[simp] theorem parO_2 {i j : Nat} {ρ : Env} {a b : W} : parO i j ρ [a, b] = some ((ρ.set i (some (.w a))).set j (some (.w b))) := rfl
theorem q_par {i j : Nat} {fs : Env → M (List W)} {ρ : Env} {st : Sto} {D : KD} : @qS (parS i j fs) ρ st D = @qM _ (fs ρ) st ⟨fun ws s => @qO _ (parO i j ρ ws) ⟨fun ρ' => D.nx ρ' s⟩, fun x s => D.ex x ρ s⟩ := by
  refine (wpS_def.trans wp_ofM).trans ?_
  unfold qM
  congr 1; funext ws s; (try dsimp only [Kt_q, Kt_e])
  match ws with
  | [] => rfl
  | [a] => rfl
  | [a, b] => rfl
  | a :: b :: c :: r => rfl
/-- what is known of a call is used -/
theorem qM_ok {α : Type} {m : M α} {st st' : Sto} {a : α} {K : Kt α} (h : m st = .ok a st') : @qM α m st K = K.q a st' := wpM_eq h
theorem qM_exc {α : Type} {m : M α} {st st' : Sto} {x : Ex} {K : Kt α} (h : m st = .ex x st') : @qM α m st K = K.e x st' := wpM_eqX h
@[simp] theorem startE_eq (n : Nat) (ws : List W) : startE n ws = ws.map (fun w => some (Sl.w w)) ++ List.replicate (n - ws.length) none := rfl
@[simp] theorem allD_mapd (ds : List PyData) : allD (ds.map W.d) = some ds := by
  have := allD_map (fun d : PyData => d) ds
  rw [List.map_id'] at this
  exact this
@[simp] theorem allD_comp {α : Type} (f : α → PyData) (l : List α) : allD (l.map (W.d ∘ f)) = some (l.map f) := allD_map f l
theorem lc_map {α : Type} {ρ : Env} {vs : List Nat} {asg : As} {gt : Env → M Bool} {fe : Env → M W} {K : Kt W} {E : Ex → Sto → Prop} {st : Sto} (g v : α → PyData) (l : List α)
    (hs : ∀ a ∈ l, ∃ ρ1, asg (g a) (wipeE ρ vs) = some ρ1 ∧ gt ρ1 st = .ok true st ∧ fe ρ1 st = .ok (.d (v a)) st) (hq : K.q (.d (.list (l.map v))) st) :
    @qM _ (compL always vs asg gt fe ρ (l.map g) []) st ⟨fun ws s => @qM W (asData ws) s K, E⟩ := by
  refine wp_comp_map g v l hs ?_
  show @qM W (asData _) st K
  rw [q_asData, allD_mapd, qO_some]
  exact hq
theorem lc_flt {α : Type} {ρ : Env} {vs : List Nat} {asg : As} {gt : Env → M Bool} {fe : Env → M W} {K : Kt W} {E : Ex → Sto → Prop} {st : Sto} (g v : α → PyData) (p : α → Bool) (l : List α)
    (hs : ∀ a ∈ l, ∃ ρ1, asg (g a) (wipeE ρ vs) = some ρ1 ∧ gt ρ1 st = .ok (p a) st ∧ (p a = true → fe ρ1 st = .ok (.d (v a)) st)) (hq : K.q (.d (.list ((l.filter p).map v))) st) :
    @qM _ (compL always vs asg gt fe ρ (l.map g) []) st ⟨fun ws s => @qM W (asData ws) s K, E⟩ := by
  refine wp_comp_flt g v p l hs ?_
  show @qM W (asData _) st K
  rw [q_asData, allD_mapd, qO_some]
  exact hq
theorem lc_fltM {α : Type} {ρ : Env} {vs : List Nat} {asg : As} {gt : Env → M Bool} {fe : Env → M W} {K : Kt W} {E : Ex → Sto → Prop} {st : Sto} (g v : α → PyData) (p : α → Bool) (l : List α)
    (hs : ∀ a ∈ l, ∃ ρ1, asg (g a) (wipeE ρ vs) = some ρ1 ∧ gt ρ1 st = .ok (p a) st ∧ (p a = true → fe ρ1 st = .ok (.d (v a)) st)) (hq : K.q (.r st.length) (st ++ [.lst (((l.filter p).map v).map .d)])) :
    @qM _ (compL always vs asg gt fe ρ (l.map g) []) st ⟨fun ws s => @qM W (asMut ws) s K, E⟩ := by
  refine wp_comp_flt g v p l hs ?_
  show @qM W (asMut _) st K
  rw [q_asMut]
  exact hq
/-- a test that is known -/
theorem gt_of {m : M Bool} {st : Sto} {k : Bool} (h : @qM _ m st ⟨fun b s => b = k ∧ s = st, fun _ _ => False⟩) : m st = .ok k st := wpM_val h
theorem fe_of {m : M W} {st : Sto} {w : W} (h : @qM _ m st ⟨fun b s => b = w ∧ s = st, fun _ _ => False⟩) : m st = .ok w st := wpM_val h
section
variable {α : Type} {ρ : Env} {st : Sto} {f fa fb : Env → M W} {ga gb : Env → M Bool} {fs : Env → M (List W)} {s t : S}
@[simp ↓] theorem r_ret {kq : α → Sto → Prop} {ke : Ex → Sto → Prop} {a : α} : @qM α (ret a) st ⟨kq, ke⟩ = kq a st := q_ret
@[simp ↓] theorem r_bnd {kq : α → Sto → Prop} {ke : Ex → Sto → Prop} {β : Type} {m : M β} {f : β → M α} : @qM α (bnd m f) st ⟨kq, ke⟩ = @qM β m st ⟨fun b s => @qM α (f b) s ⟨kq, ke⟩, ke⟩ := q_bnd
@[simp ↓] theorem r_get {kq : W → Sto → Prop} {ke : Ex → Sto → Prop} {i : Nat} : @qM W (getV i ρ) st ⟨kq, ke⟩ = @qO _ (getO ρ i) ⟨fun w => kq w st⟩ := q_get
@[simp ↓] theorem r_bin {kq : W → Sto → Prop} {ke : Ex → Sto → Prop} {op : Sto → W → W → Option W} : @qM W (bin op fa fb ρ) st ⟨kq, ke⟩ = @qM W (fa ρ) st ⟨fun x s => @qM W (fb ρ) s ⟨fun y s => @qO _ (op s x y) ⟨fun w => kq w s⟩, ke⟩, ke⟩ := q_bin
@[simp ↓] theorem r_op1 {kq : W → Sto → Prop} {ke : Ex → Sto → Prop} {op : Sto → W → Option W} : @qM W (op1 op f ρ) st ⟨kq, ke⟩ = @qM W (f ρ) st ⟨fun x s => @qO _ (op s x) ⟨fun w => kq w s⟩, ke⟩ := q_op1
@[simp ↓] theorem r_callF {kq : W → Sto → Prop} {ke : Ex → Sto → Prop} {op : Sto → List W → Option W} : @qM W (callF op fs ρ) st ⟨kq, ke⟩ = @qM _ (fs ρ) st ⟨fun x s => @qO _ (op s x) ⟨fun w => kq w s⟩, ke⟩ := q_callF
@[simp ↓] theorem r_consA {kq : (List W) → Sto → Prop} {ke : Ex → Sto → Prop} : @qM _ (consA f fs ρ) st ⟨kq, ke⟩ = @qM W (f ρ) st ⟨fun x s => @qM _ (fs ρ) s ⟨fun xs s => kq (x :: xs) s, ke⟩, ke⟩ := q_consA
@[simp ↓] theorem r_tup {kq : W → Sto → Prop} {ke : Ex → Sto → Prop} : @qM W (mkTup fs ρ) st ⟨kq, ke⟩ = @qM _ (fs ρ) st ⟨fun ws s => @qO _ (tupO ws) ⟨fun d => kq (.d d) s⟩, ke⟩ := q_tup
@[simp ↓] theorem r_lst {kq : W → Sto → Prop} {ke : Ex → Sto → Prop} : @qM W (mkLst fs ρ) st ⟨kq, ke⟩ = @qM _ (fs ρ) st ⟨fun ws s => @qO _ (lstO ws) ⟨fun d => kq (.d d) s⟩, ke⟩ := q_lst
@[simp ↓] theorem r_isi {kq : W → Sto → Prop} {ke : Ex → Sto → Prop} {T : Ty} : @qM W (isiF T f ρ) st ⟨kq, ke⟩ = @qM W (f ρ) st ⟨fun w s => @qO _ (isiO T s w) ⟨fun k => kq (.d (.bool k)) s⟩, ke⟩ := q_isi
@[simp ↓] theorem r_neg {kq : W → Sto → Prop} {ke : Ex → Sto → Prop} : @qM W (negW f ρ) st ⟨kq, ke⟩ = @qM W (f ρ) st ⟨fun w s => @qO _ (iO w) ⟨fun i => kq (.d (.int (-i))) s⟩, ke⟩ := q_neg
@[simp ↓] theorem r_part {kq : (Option Int) → Sto → Prop} {ke : Ex → Sto → Prop} : @qM _ (partF f ρ) st ⟨kq, ke⟩ = @qM W (f ρ) st ⟨fun w s => @qO _ (iO w) ⟨fun i => kq (some i) s⟩, ke⟩ := q_part
@[simp ↓] theorem r_slice {kq : W → Sto → Prop} {ke : Ex → Sto → Prop} {g h : Env → M (Option Int)} : @qM W (sliceF f g h ρ) st ⟨kq, ke⟩ = @qM W (f ρ) st ⟨fun x s => @qM _ (g ρ) s ⟨fun lo s => @qM _ (h ρ) s ⟨fun hi s => @qO _ (slW s x lo hi) ⟨fun v => kq v s⟩, ke⟩, ke⟩, ke⟩ := q_slice
@[simp ↓] theorem r_it {kq : Its → Sto → Prop} {ke : Ex → Sto → Prop} {k : Sto → W → Option Its} : @qM _ (itF k f ρ) st ⟨kq, ke⟩ = @qM W (f ρ) st ⟨fun w s => @qO _ (k s w) ⟨fun p => kq p s⟩, ke⟩ := q_it
@[simp ↓] theorem r_range1 {kq : Its → Sto → Prop} {ke : Ex → Sto → Prop} : @qM _ (range1 fs ρ) st ⟨kq, ke⟩ = @qM _ (fs ρ) st ⟨fun ws s => @qO _ (rngO ws) ⟨fun p => kq p s⟩, ke⟩ := q_range1
@[simp ↓] theorem r_enumT {kq : Its → Sto → Prop} {ke : Ex → Sto → Prop} : @qM _ (enumT fs ρ) st ⟨kq, ke⟩ = @qM _ (fs ρ) st ⟨fun ws s => @qO _ (enumO ws) ⟨fun p => kq p s⟩, ke⟩ := q_enumT
@[simp ↓] theorem r_toB {kq : Bool → Sto → Prop} {ke : Ex → Sto → Prop} : @qM _ (toB f ρ) st ⟨kq, ke⟩ = @qM W (f ρ) st ⟨fun w s => @qO _ (bO w) ⟨fun k => kq k s⟩, ke⟩ := q_toB
@[simp ↓] theorem r_tst {kq : Bool → Sto → Prop} {ke : Ex → Sto → Prop} : @qM _ (tst f ρ) st ⟨kq, ke⟩ = @qM W (f ρ) st ⟨fun w s => @qO _ (truW s w) ⟨fun k => kq k s⟩, ke⟩ := q_tst
@[simp ↓] theorem r_andB {kq : Bool → Sto → Prop} {ke : Ex → Sto → Prop} : @qM _ (andB ga gb ρ) st ⟨kq, ke⟩ = @qM _ (ga ρ) st ⟨fun k s => @qB k ⟨(@qM _ (gb ρ) s ⟨kq, ke⟩), (kq false s)⟩, ke⟩ := q_andB
@[simp ↓] theorem r_orB {kq : Bool → Sto → Prop} {ke : Ex → Sto → Prop} : @qM _ (orB ga gb ρ) st ⟨kq, ke⟩ = @qM _ (ga ρ) st ⟨fun k s => @qB k ⟨(kq true s), (@qM _ (gb ρ) s ⟨kq, ke⟩)⟩, ke⟩ := q_orB
@[simp ↓] theorem r_notB {kq : Bool → Sto → Prop} {ke : Ex → Sto → Prop} : @qM _ (notB ga ρ) st ⟨kq, ke⟩ = @qM _ (ga ρ) st ⟨fun k s => kq (!k) s, ke⟩ := q_notB
@[simp ↓] theorem r_tt {kq : Bool → Sto → Prop} {ke : Ex → Sto → Prop} : @qM _ (ret true : M Bool) st ⟨kq, ke⟩ = kq true st := q_tt
@[simp ↓] theorem r_andW {kq : W → Sto → Prop} {ke : Ex → Sto → Prop} : @qM W (andW fa fb ρ) st ⟨kq, ke⟩ = @qM W (fa ρ) st ⟨fun x s => @qO _ (truW s x) ⟨fun k => @qB k ⟨(@qM W (fb ρ) s ⟨kq, ke⟩), (kq x s)⟩⟩, ke⟩ := q_andW
@[simp ↓] theorem r_orW {kq : W → Sto → Prop} {ke : Ex → Sto → Prop} : @qM W (orW fa fb ρ) st ⟨kq, ke⟩ = @qM W (fa ρ) st ⟨fun x s => @qO _ (truW s x) ⟨fun k => @qB k ⟨(kq x s), (@qM W (fb ρ) s ⟨kq, ke⟩)⟩⟩, ke⟩ := q_orW
@[simp ↓] theorem r_notW {kq : W → Sto → Prop} {ke : Ex → Sto → Prop} : @qM W (notW fa ρ) st ⟨kq, ke⟩ = @qM W (fa ρ) st ⟨fun x s => @qO _ (truW s x) ⟨fun k => kq (.d (.bool (!k))) s⟩, ke⟩ := q_notW
@[simp ↓] theorem r_ifW {kq : W → Sto → Prop} {ke : Ex → Sto → Prop} : @qM W (ifW ga fa fb ρ) st ⟨kq, ke⟩ = @qM _ (ga ρ) st ⟨fun k s => @qB k ⟨(@qM W (fa ρ) s ⟨kq, ke⟩), (@qM W (fb ρ) s ⟨kq, ke⟩)⟩, ke⟩ := q_ifW
@[simp ↓] theorem r_chain {kq : W → Sto → Prop} {ke : Ex → Sto → Prop} {op op' : Sto → W → W → Option W} : @qM W (chain op op' f fa fb ρ) st ⟨kq, ke⟩ = @qM W (f ρ) st ⟨fun x s => @qM W (fa ρ) s ⟨fun y s => @qO _ ((op s x y).bind bO) ⟨fun k => @qB k ⟨(@qM W (fb ρ) s ⟨fun z s => @qO _ (op' s y z) ⟨fun w => kq w s⟩, ke⟩), (kq (.d (.bool false)) s)⟩⟩, ke⟩, ke⟩ := q_chain
@[simp ↓] theorem r_callU {kq : W → Sto → Prop} {ke : Ex → Sto → Prop} {n : Nat} {fn : List W → M W} : @qM W (callU n fn fs ρ) st ⟨kq, ke⟩ = @qM _ (fs ρ) st ⟨fun ws s => @qB (decide (ws.length = n)) ⟨(@qM W (fn ws) s ⟨kq, ke⟩), False⟩, ke⟩ := q_callU
@[simp ↓] theorem r_run {kq : W → Sto → Prop} {ke : Ex → Sto → Prop} {n : Nat} {fb : S} {ws : List W} : @qM W (runB n fb ws) st ⟨kq, ke⟩ = @qS fb (startE n ws) st ⟨fun _ s => kq (.d .none) s, kq, fun _ _ => False, fun _ _ => False, fun x _ s => ke x s⟩ := q_run
@[simp ↓] theorem r_runS {kq : W → Sto → Prop} {ke : Ex → Sto → Prop} {n : Nat} {fb : S} {ns : List Int} : @qM W (runS n fb ns) st ⟨kq, ke⟩ = @qS fb (some (.scr ns) :: List.replicate (n - 1) none) st ⟨fun _ s => kq (.d .none) s, kq, fun _ _ => False, fun _ _ => False, fun x _ s => ke x s⟩ := q_runS
@[simp ↓] theorem r_asData {kq : W → Sto → Prop} {ke : Ex → Sto → Prop} {ws : List W} : @qM W (asData ws) st ⟨kq, ke⟩ = @qO _ (allD ws) ⟨fun ds => kq (.d (.list ds)) st⟩ := q_asData
@[simp ↓] theorem r_asMut {kq : W → Sto → Prop} {ke : Ex → Sto → Prop} {ws : List W} : @qM W (asMut ws) st ⟨kq, ke⟩ = kq (.r st.length) (st ++ [.lst ws]) := q_asMut
@[simp ↓] theorem r_mut {kq : W → Sto → Prop} {ke : Ex → Sto → Prop} : @qM W (mkMut fs ρ) st ⟨kq, ke⟩ = @qM _ (fs ρ) st ⟨fun ws s => @qB (decide (ws.length ≤ 16777216)) ⟨(kq (.r s.length) (s ++ [.lst ws])), False⟩, ke⟩ := q_mut
@[simp ↓] theorem r_dic {kq : W → Sto → Prop} {ke : Ex → Sto → Prop} : @qM W (mkDic ρ) st ⟨kq, ke⟩ = kq (.r st.length) (st ++ [.dic []]) := q_dic
@[simp ↓] theorem r_sliceM {kq : W → Sto → Prop} {ke : Ex → Sto → Prop} {g h : Env → M (Option Int)} : @qM W (sliceM f g h ρ) st ⟨kq, ke⟩ = @qM W (f ρ) st ⟨fun x s => @qM _ (g ρ) s ⟨fun lo s => @qM _ (h ρ) s ⟨fun hi s => @qO _ (slMut s x lo hi) ⟨fun ws => kq (.r s.length) (s ++ [.lst ws])⟩, ke⟩, ke⟩, ke⟩ := q_sliceM
@[simp ↓] theorem r_joinF {kq : W → Sto → Prop} {ke : Ex → Sto → Prop} : @qM W (joinF fa f ρ) st ⟨kq, ke⟩ = @qM W (fa ρ) st ⟨fun x s => @qO _ (isStrW x) ⟨fun _ => @qM W (f ρ) s ⟨fun y s => @qO _ (joinW s x y) ⟨fun w => kq w s⟩, ke⟩⟩, ke⟩ := q_joinF
@[simp ↓] theorem r_app {kq : W → Sto → Prop} {ke : Ex → Sto → Prop} {fo fv : Env → M W} : @qM W (appS fo fv ρ) st ⟨kq, ke⟩ = @qM W (fo ρ) st ⟨fun o s => @qO _ (isMut s o) ⟨fun _ => @qM W (fv ρ) s ⟨fun v s => @qO _ (putEnd s v o) ⟨fun s => kq (.d .none) s⟩, ke⟩⟩, ke⟩ := q_app
@[simp ↓] theorem r_lc {kq : W → Sto → Prop} {ke : Ex → Sto → Prop} {fi : Env → M Its} {vs : List Nat} {asg : As} {gt : Env → M Bool} {fe : Env → M W} {fin : List W → M W} : @qM W (lcF fi vs asg gt fe fin ρ) st ⟨kq, ke⟩ = @qM _ (fi ρ) st ⟨fun p s => @qB (decide (p.1.length < 16777216)) ⟨(@qM _ (compL p.2 vs asg gt fe ρ p.1 []) s ⟨fun ws s => @qM W (fin ws) s ⟨kq, ke⟩, ke⟩), False⟩, ke⟩ := q_lc
@[simp ↓] theorem r_scr {kq : W → Sto → Prop} {ke : Ex → Sto → Prop} {fn : List Int → M W} {ns : List Int} {r : Env} : @qM W (scrF 0 fn (some (.scr ns) :: r)) st ⟨kq, ke⟩ = @qM W (fn ns) st ⟨kq, ke⟩ := q_scr
@[simp ↓] theorem r_seq {dn db dc : Env → Sto → Prop} {dr : W → Sto → Prop} {dx : Ex → Env → Sto → Prop} : @qS (seqS s t) ρ st ⟨dn, dr, db, dc, dx⟩ = @qS s ρ st ⟨fun ρ' st' => @qS t ρ' st' ⟨dn, dr, db, dc, dx⟩, dr, db, dc, dx⟩ := q_seq
@[simp ↓] theorem r_nx {dn db dc : Env → Sto → Prop} {dr : W → Sto → Prop} {dx : Ex → Env → Sto → Prop} : @qS nxS ρ st ⟨dn, dr, db, dc, dx⟩ = dn ρ st := q_nx
@[simp ↓] theorem r_retS {dn db dc : Env → Sto → Prop} {dr : W → Sto → Prop} {dx : Ex → Env → Sto → Prop} : @qS (retS f) ρ st ⟨dn, dr, db, dc, dx⟩ = @qM W (f ρ) st ⟨dr, fun x s => dx x ρ s⟩ := q_retS
@[simp ↓] theorem r_drop {dn db dc : Env → Sto → Prop} {dr : W → Sto → Prop} {dx : Ex → Env → Sto → Prop} : @qS (dropS f) ρ st ⟨dn, dr, db, dc, dx⟩ = @qM W (f ρ) st ⟨fun _ s => dn ρ s, fun x s => dx x ρ s⟩ := q_drop
@[simp ↓] theorem r_asg {dn db dc : Env → Sto → Prop} {dr : W → Sto → Prop} {dx : Ex → Env → Sto → Prop} {i : Nat} : @qS (asgS i f) ρ st ⟨dn, dr, db, dc, dx⟩ = @qM W (f ρ) st ⟨fun w s => dn (ρ.set i (some (.w w))) s, fun x s => dx x ρ s⟩ := q_asg
@[simp ↓] theorem r_if {dn db dc : Env → Sto → Prop} {dr : W → Sto → Prop} {dx : Ex → Env → Sto → Prop} : @qS (ifS ga s t) ρ st ⟨dn, dr, db, dc, dx⟩ = @qM _ (ga ρ) st ⟨fun k s' => @qB k ⟨(@qS s ρ s' ⟨dn, dr, db, dc, dx⟩), (@qS t ρ s' ⟨dn, dr, db, dc, dx⟩)⟩, fun x s' => dx x ρ s'⟩ := q_if
@[simp ↓] theorem r_raise {dn db dc : Env → Sto → Prop} {dr : W → Sto → Prop} {dx : Ex → Env → Sto → Prop} {x : Str} : @qS (raiseS x) ρ st ⟨dn, dr, db, dc, dx⟩ = dx ⟨x, []⟩ ρ st := q_raise
@[simp ↓] theorem r_for {dn db dc : Env → Sto → Prop} {dr : W → Sto → Prop} {dx : Ex → Env → Sto → Prop} {fi : Env → M Its} {asg : As} {body : S} : @qS (forS fi asg body) ρ st ⟨dn, dr, db, dc, dx⟩ = @qM _ (fi ρ) st ⟨fun p s' => @qS (loopS p.2 asg body p.1) ρ s' ⟨dn, dr, db, dc, dx⟩, fun x s' => dx x ρ s'⟩ := q_for
@[simp ↓] theorem r_asgT {dn db dc : Env → Sto → Prop} {dr : W → Sto → Prop} {dx : Ex → Env → Sto → Prop} {a : As} : @qS (asgT a f) ρ st ⟨dn, dr, db, dc, dx⟩ = @qM W (f ρ) st ⟨fun w s => @qO _ ((wO w).bind fun d => a d ρ) ⟨fun ρ' => dn ρ' s⟩, fun x s => dx x ρ s⟩ := q_asgT
@[simp ↓] theorem r_setIx {dn db dc : Env → Sto → Prop} {dr : W → Sto → Prop} {dx : Ex → Env → Sto → Prop} {fo fi fv : Env → M W} : @qS (setIx fo fi fv) ρ st ⟨dn, dr, db, dc, dx⟩ = @qM W (fv ρ) st ⟨fun v s => @qM W (fo ρ) s ⟨fun o s => @qM W (fi ρ) s ⟨fun i s => @qO _ (putIx s v o i) ⟨fun s' => dn ρ s'⟩, fun x s => dx x ρ s⟩, fun x s => dx x ρ s⟩, fun x s => dx x ρ s⟩ := q_setIx
@[simp ↓] theorem r_setK {dn db dc : Env → Sto → Prop} {dr : W → Sto → Prop} {dx : Ex → Env → Sto → Prop} {fo fi fv : Env → M W} : @qS (setK fo fi fv) ρ st ⟨dn, dr, db, dc, dx⟩ = @qM W (fv ρ) st ⟨fun v s => @qM W (fo ρ) s ⟨fun o s => @qM W (fi ρ) s ⟨fun i s => @qO _ (putKx s v o i) ⟨fun s' => dn ρ s'⟩, fun x s => dx x ρ s⟩, fun x s => dx x ρ s⟩, fun x s => dx x ρ s⟩ := q_setK
@[simp ↓] theorem r_loop_nil {dn db dc : Env → Sto → Prop} {dr : W → Sto → Prop} {dx : Ex → Env → Sto → Prop} {asg : As} {body : S} : @qS (loopS always asg body []) ρ st ⟨dn, dr, db, dc, dx⟩ = dn ρ st := q_loop_nil
@[simp ↓] theorem r_comp_nil {kq : (List W) → Sto → Prop} {ke : Ex → Sto → Prop} {vs : List Nat} {asg : As} {gt : Env → M Bool} {fe : Env → M W} {acc : List W} : @qM _ (compL always vs asg gt fe ρ [] acc) st ⟨kq, ke⟩ = kq acc st := q_comp_nil
@[simp ↓] theorem r_par {dn db dc : Env → Sto → Prop} {dr : W → Sto → Prop} {dx : Ex → Env → Sto → Prop} {i j : Nat} {fs : Env → M (List W)} {ρ : Env} {st : Sto} : @qS (parS i j fs) ρ st ⟨dn, dr, db, dc, dx⟩ = @qM _ (fs ρ) st ⟨fun ws s => @qO _ (parO i j ρ ws) ⟨fun ρ' => dn ρ' s⟩, fun x s => dx x ρ s⟩ := q_par
@[simp ↓] theorem qS_in2 {dn db dc : Env → Sto → Prop} {dr : W → Sto → Prop} {dx : Ex → Env → Sto → Prop} : wpS s ρ st ⟨dn, dr, db, dc, dx⟩ = @qS s ρ st ⟨dn, dr, db, dc, dx⟩ := propext Iff.rfl
theorem r_loop_cons {asg : As} {body : S} {d : PyData} {ds : List PyData} {dn db dc : Env → Sto → Prop} {dr : W → Sto → Prop} {dx : Ex → Env → Sto → Prop} : @qS (loopS always asg body (d :: ds)) ρ st ⟨dn, dr, db, dc, dx⟩ = @qO _ (asg d ρ) ⟨fun ρ1 => @qS body ρ1 st ⟨fun ρ' s => @qS (loopS always asg body ds) ρ' s ⟨dn, dr, db, dc, dx⟩, dr, dn, fun ρ' s => @qS (loopS always asg body ds) ρ' s ⟨dn, dr, db, dc, dx⟩, dx⟩⟩ := q_loop_cons
theorem r_comp_cons {vs : List Nat} {asg : As} {gt : Env → M Bool} {fe : Env → M W} {kq : List W → Sto → Prop} {ke : Ex → Sto → Prop} {acc : List W} {d : PyData} {ds : List PyData} : @qM _ (compL always vs asg gt fe ρ (d :: ds) acc) st ⟨kq, ke⟩ =
    @qO _ (asg d (wipeE ρ vs)) ⟨fun ρ1 => @qM _ (gt ρ1) st ⟨fun k s => @qB k ⟨@qM _ (fe ρ1) s ⟨fun w s' => @qM _ (compL always vs asg gt fe ρ ds (acc ++ [w])) s' ⟨kq, ke⟩, fun _ _ => False⟩, @qM _ (compL always vs asg gt fe ρ ds acc) s ⟨kq, ke⟩⟩, fun _ _ => False⟩⟩ := q_comp_cons
/-- a loop by what is kept -/
theorem q_loopI {β : Type} {asg : As} {body : S} {dn db dc : Env → Sto → Prop} {dr : W → Sto → Prop} {dx : Ex → Env → Sto → Prop} (g : β → PyData) (Inv : List β → Env → Sto → Prop) (l : List β) (h0 : Inv l ρ st)
    (hs : ∀ a r ρ st, Inv (a :: r) ρ st → ∃ ρ1, asg (g a) ρ = some ρ1 ∧ @qS body ρ1 st ⟨Inv r, dr, dn, Inv r, dx⟩) (he : ∀ ρ st, Inv [] ρ st → dn ρ st) : @qS (loopS always asg body (l.map g)) ρ st ⟨dn, dr, db, dc, dx⟩ :=
  wp_loop_map (D := ⟨dn, dr, db, dc, dx⟩) g Inv hs he l ρ st h0
theorem q_loopD {asg : As} {body : S} {dn db dc : Env → Sto → Prop} {dr : W → Sto → Prop} {dx : Ex → Env → Sto → Prop} (Inv : List PyData → Env → Sto → Prop) (l : List PyData) (h0 : Inv l ρ st)
    (hs : ∀ a r ρ st, Inv (a :: r) ρ st → ∃ ρ1, asg a ρ = some ρ1 ∧ @qS body ρ1 st ⟨Inv r, dr, dn, Inv r, dx⟩) (he : ∀ ρ st, Inv [] ρ st → dn ρ st) : @qS (loopS always asg body l) ρ st ⟨dn, dr, db, dc, dx⟩ :=
  wp_loop (D := ⟨dn, dr, db, dc, dx⟩) Inv hs he l ρ st h0
end
end Ev
end
section
set_option Elab.async false
set_option linter.all false
set_option maxRecDepth 100000
set_option autoImplicit false
namespace Ev
open PySem PySem.Spec PyProof.Rows L2
/-! ## lists of the store that become data (no change behind) -/
theorem Rel.freeze {K : PySem.W.Frag} {F : Hp} {m : List Addr} {st : Sto} {H : Hp} (rl : Rel K F m st H) {i : Nat} {a : Addr} {ws : List W} {ds : List PyData} (hi : m[i]? = some a) (hs : st[i]? = some (.lst ws)) (hd : allD ws = some ds) :
    ∃ F', Same F F' ∧ Rel K F' m (st.set i .dead) H ∧ Dq K F' (.ref a) (.list ds) := by
  obtain ⟨vs, hH, hw⟩ := rl.obj i a _ hi hs
  have hF : F a = none := rl.out i a _ hi hs rfl
  have s1 : Same F (upd F a (.lst vs)) := same_lock hF
  refine ⟨upd F a (.lst vs), s1, ⟨fun b u e => ?_, by rw [List.length_set]; exact rl.len, rl.nd, fun j b so h1 h2 h3 => ?_, rl.here, fun j b so h1 h2 => ?_, nt_upd rl.nt nofun⟩, .lst upd_same ((allD_ok hw hd).mono s1)⟩
  · by_cases hb : b = a
    · subst hb; rw [upd_same] at e; rw [← e]; exact hH
    · rw [upd_ne hb] at e; exact rl.sub b u e
  · by_cases hj : i = j
    · subst hj
      rw [List.getElem?_set_self (List.getElem?_eq_some_iff.mp hs).1] at h2
      cases Option.some.inj h2
      cases h3
    · rw [List.getElem?_set_ne hj] at h2
      rw [upd_ne (fun e => by subst e; exact hj (nodup_get rl.nd hi h1))]
      exact rl.out j b so h1 h2 h3
  · by_cases hj : i = j
    · subst hj
      rw [List.getElem?_set_self (List.getElem?_eq_some_iff.mp hs).1] at h2
      cases Option.some.inj h2
      rw [hi] at h1
      cases Option.some.inj h1
      exact ⟨vs, hH⟩
    · rw [List.getElem?_set_ne hj] at h2
      exact (rl.obj j b so h1 h2).keep s1 (List.prefix_refl m) rfl
/-- the value as data; a list of the store is dead behind -/
def frzM (w : W) : M W := fun st => match w with
  | .d x => .ok (.d x) st
  | .r i => (match st[i]? with
    | some (.lst ws) => (match allD ws with
      | some ds => .ok (.d (.list ds)) (st.set i .dead)
      | none => .bad)
    | _ => .bad)
def frzF (f : Env → M W) : Env → M W := fun ρ => bnd (f ρ) fun w => frzM w
section
variable {X : Cx} {Wx : WX} {e : Expr} {f : Env → M W}
theorem se_frz (he : SE X Wx e f) : SE X Wx e (frzF f) :=
  PE.imp he fun σ H Q h => by
    obtain ⟨F, m, st, ρ, er, rl, h⟩ := h
    refine ⟨F, m, st, ρ, er, rl, After.mono (Same.refl F) (List.prefix_refl m) h.bnd fun w F1 m1 H1 s1 p1 ⟨st1, _, _, rl1, h1⟩ v r1 => ?_⟩
    cases w with
    | d x => exact After.here h1 rl1 v r1
    | r i =>
      have h1 : After X.K X.mg F1 m1 _ (match st1[i]? with
        | some (.lst ws) => (match allD ws with
          | some ds => R.ok (W.d (.list ds)) (st1.set i .dead)
          | none => R.bad)
        | _ => R.bad) _ := h1
      split at h1
      · rename_i ws hs
        cases hd : allD ws with
        | none => rw [hd] at h1; exact h1.elim
        | some ds =>
          rw [hd] at h1
          obtain ⟨a, hi, rfl⟩ := r1
          obtain ⟨F', s2, rl2, dq⟩ := rl1.freeze hi hs hd
          exact h1 F' m1 H1 s2 (List.prefix_refl m1) rl2 _ dq
      · exact h1.elim
end
section
variable {ρ : Env} {st : Sto} {f : Env → M W} {kq : W → Sto → Prop} {ke : Ex → Sto → Prop}
@[simp ↓] theorem r_frz : @qM W (frzF f ρ) st ⟨kq, ke⟩ = @qM W (f ρ) st ⟨fun w s => @qM W (frzM w) s ⟨kq, ke⟩, ke⟩ := q_bnd
@[simp ↓] theorem r_frzD {x : PyData} : @qM W (frzM (.d x)) st ⟨kq, ke⟩ = kq (.d x) st := by
  unfold qM; rw [wpM_def]; rfl
theorem r_frzR {i : Nat} {ws : List W} {ds : List PyData} (hs : st[i]? = some (.lst ws)) (hd : allD ws = some ds) : @qM W (frzM (.r i)) st ⟨kq, ke⟩ = kq (.d (.list ds)) (st.set i .dead) := by
  refine (wpM_eq (st' := st.set i .dead) (a := W.d (.list ds)) ?_)
  show (match st[i]? with
    | some (.lst ws) => (match allD ws with
      | some ds => R.ok (W.d (.list ds)) (st.set i .dead)
      | none => R.bad)
    | _ => R.bad) = _
  rw [hs]
  dsimp only
  rw [hd]
end
end Ev
end
section
set_option Elab.async false
set_option linter.all false
set_option maxRecDepth 100000
set_option maxHeartbeats 4000000
set_option autoImplicit false
namespace PK
open PySem PySem.Spec PyProof.Rows L2 Ev 
/-! ## plain functions (printed by base.py) -/
def kd_LETTERS : PyData := .str ("abcdefghijklmnopqrstuvwxyz" : Str)
def kd_SIGNS : PyData := .str ("abcdefghijklmnopqrstuvwxyz0123456789" : Str)
def N_fits_word : List Str := [("value" : Str), ("sign" : Str)]
@[simp] theorem Nl_fits_word : N_fits_word.length = 2 := rfl
def b_fits_word : S :=
  (seqS (ifS (orB (notB (tst (isiF .str (getV 0)))) (notB (toB (chain (onD leD) (onD leD) (fun _ => ret (.d (.int 1))) (callF (on1 lenW) (consA (getV 0) (fun _ => ret []))) (fun _ => ret (.d (.int 12))))))) (retS (fun _ => ret (.d (.bool false)))) nxS) (retS (andW (bin (onW inD) (bin ixW (getV 0) (fun _ => ret (.d (.int 0)))) (fun _ => ret (.d kd_LETTERS))) (callF (on1 allW) (consA (lcF (itF itemsS (getV 0)) [1] (aName 1) (fun _ => ret true) (bin (onW inD) (getV 1) (fun _ => ret (.d kd_SIGNS))) asData) (fun _ => ret []))))))
def f_fits_word : List W → M W := runB N_fits_word.length b_fits_word
def N_fits_value : List Str := [("value" : Str)]
@[simp] theorem Nl_fits_value : N_fits_value.length = 1 := rfl
def b_fits_value : S :=
  (retS (andW (isiF .int (getV 0)) (andW (notW (isiF .bool (getV 0))) (chain (onD leD) (onD leD) (negW (fun _ => ret (.d (.int 99)))) (getV 0) (fun _ => ret (.d (.int 99)))))))
def f_fits_value : List W → M W := runB N_fits_value.length b_fits_value
def kv_NAMES : List (Str × He.Dv) := [(("read" : Str), .int 1), (("write" : Str), .int 1), (("take" : Str), .int 1), (("give" : Str), .int 1), (("begin" : Str), .int 1), (("await" : Str), .int 1), (("send" : Str), .int 1), (("get" : Str), .int 1), (("wait" : Str), .int 2), (("woken" : Str), .int 1), (("wake" : Str), .int 1), (("end" : Str), .int 0)]
def kt_NAMES : List (Str × PyData) := [(("read" : Str), .int 1), (("write" : Str), .int 1), (("take" : Str), .int 1), (("give" : Str), .int 1), (("begin" : Str), .int 1), (("await" : Str), .int 1), (("send" : Str), .int 1), (("get" : Str), .int 1), (("wait" : Str), .int 2), (("woken" : Str), .int 1), (("wake" : Str), .int 1), (("end" : Str), .int 0)]
def kd_VALUES : PyData := .tuple [.str ("read" : Str), .str ("write" : Str), .str ("send" : Str), .str ("get" : Str)]
def N_fits_deed : List Str := [("value" : Str), ("names" : Str), ("one" : Str)]
@[simp] theorem Nl_fits_deed : N_fits_deed.length = 3 := rfl
def b_fits_deed : S :=
  (seqS (ifS (orB (notB (tst (isiF .tuple (getV 0)))) (orB (toB (bin (onW eqD) (callF (on1 lenW) (consA (getV 0) (fun _ => ret []))) (fun _ => ret (.d (.int 0))))) (orB (notB (tst (isiF .str (bin ixW (getV 0) (fun _ => ret (.d (.int 0))))))) (toB (op1 (notInT kt_NAMES) (bin ixW (getV 0) (fun _ => ret (.d (.int 0))))))))) (retS (fun _ => ret (.d (.bool false)))) nxS) (seqS (asgS 1 (op1 (ixT kt_NAMES) (bin ixW (getV 0) (fun _ => ret (.d (.int 0)))))) (seqS (ifS (notB (tst (callF (on1 allW) (consA (lcF (itF itemsT (sliceF (getV 0) (partF (fun _ => ret (.d (.int 1)))) (partF (bin addW (getV 1) (fun _ => ret (.d (.int 1))))))) [2] (aName 2) (fun _ => ret true) (callU 1 f_fits_word (consA (getV 2) (fun _ => ret []))) asData) (fun _ => ret []))))) (retS (fun _ => ret (.d (.bool false)))) nxS) (seqS (ifS (toB (bin (onW inD) (bin ixW (getV 0) (fun _ => ret (.d (.int 0)))) (fun _ => ret (.d kd_VALUES)))) (retS (andW (bin (onW eqD) (callF (on1 lenW) (consA (getV 0) (fun _ => ret []))) (fun _ => ret (.d (.int 3)))) (callU 1 f_fits_value (consA (bin ixW (getV 0) (fun _ => ret (.d (.int 2)))) (fun _ => ret []))))) nxS) (retS (bin (onW eqD) (callF (on1 lenW) (consA (getV 0) (fun _ => ret []))) (bin addW (getV 1) (fun _ => ret (.d (.int 1))))))))))
def f_fits_deed : List W → M W := runB N_fits_deed.length b_fits_deed
def N_fits_turn : List Str := [("value" : Str)]
@[simp] theorem Nl_fits_turn : N_fits_turn.length = 1 := rfl
def b_fits_turn : S :=
  (retS (andW (isiF .tuple (getV 0)) (andW (bin (onW eqD) (callF (on1 lenW) (consA (getV 0) (fun _ => ret []))) (fun _ => ret (.d (.int 2)))) (andW (callU 1 f_fits_word (consA (bin ixW (getV 0) (fun _ => ret (.d (.int 0)))) (fun _ => ret []))) (callU 1 f_fits_deed (consA (bin ixW (getV 0) (fun _ => ret (.d (.int 1)))) (fun _ => ret [])))))))
def f_fits_turn : List W → M W := runB N_fits_turn.length b_fits_turn
def N_all_threads : List Str := [("row" : Str), ("found" : Str), ("thread" : Str), ("deed" : Str)]
@[simp] theorem Nl_all_threads : N_all_threads.length = 4 := rfl
def b_all_threads : S :=
  (seqS (asgS 1 (mkMut (consA (fun _ => ret (.d (.str ("root" : Str)))) (fun _ => ret [])))) (seqS (forS (itF itemsT (getV 0)) (aTup 2 (aCons (aName 2) (aCons (aName 3) aNil))) (seqS (dropS (appS (getV 1) (getV 2))) (ifS (toB (bin (onW eqD) (bin ixW (getV 3) (fun _ => ret (.d (.int 0)))) (fun _ => ret (.d (.str ("begin" : Str)))))) (dropS (appS (getV 1) (bin ixW (getV 3) (fun _ => ret (.d (.int 1)))))) nxS))) (retS (callF (on1 tupleW) (consA (op1 sortSetW (getV 1)) (fun _ => ret []))))))
def f_all_threads : List W → M W := runB N_all_threads.length b_all_threads
def kd_THREADS : PyData := .int 8
def kd_DEEDS : PyData := .int 60
def N_fits_row : List Str := [("value" : Str), ("turn" : Str)]
@[simp] theorem Nl_fits_row : N_fits_row.length = 2 := rfl
def b_fits_row : S :=
  (seqS (ifS (orB (notB (tst (isiF .tuple (getV 0)))) (orB (toB (bin (onD gtD) (callF (on1 lenW) (consA (getV 0) (fun _ => ret []))) (fun _ => ret (.d kd_DEEDS)))) (notB (tst (callF (on1 allW) (consA (lcF (itF itemsT (getV 0)) [1] (aName 1) (fun _ => ret true) (callU 1 f_fits_turn (consA (getV 1) (fun _ => ret []))) asData) (fun _ => ret []))))))) (retS (fun _ => ret (.d (.bool false)))) nxS) (retS (bin (onD leD) (callF (on1 lenW) (consA (callU 1 f_all_threads (consA (getV 0) (fun _ => ret []))) (fun _ => ret []))) (fun _ => ret (.d kd_THREADS)))))
def f_fits_row : List W → M W := runB N_fits_row.length b_fits_row
def kv_HEARD : List (Str × He.Dv) := [(("read" : Str), .int 1), (("get" : Str), .int 1)]
def kt_HEARD : List (Str × PyData) := [(("read" : Str), .int 1), (("get" : Str), .int 1)]
def N_bare_intent : List Str := [("deed" : Str)]
@[simp] theorem Nl_bare_intent : N_bare_intent.length = 1 := rfl
def b_bare_intent : S :=
  (seqS (ifS (toB (bin (onW eqD) (bin ixW (getV 0) (fun _ => ret (.d (.int 0)))) (fun _ => ret (.d (.str ("woken" : Str)))))) (retS (fun _ => ret (.d .none))) nxS) (retS (ifW (toB (op1 (inT kt_HEARD) (bin ixW (getV 0) (fun _ => ret (.d (.int 0)))))) (sliceF (getV 0) (fun _ => ret none) (partF (fun _ => ret (.d (.int 2))))) (getV 0))))
def f_bare_intent : List W → M W := runB N_bare_intent.length b_bare_intent
def N_need_row : List Str := [("value" : Str)]
@[simp] theorem Nl_need_row : N_need_row.length = 1 := rfl
def b_need_row : S :=
  (ifS (notB (tst (callU 1 f_fits_row (consA (getV 0) (fun _ => ret []))))) (raiseS ("InvalidRow" : Str)) nxS)
def f_need_row : List W → M W := runB N_need_row.length b_need_row
def N_told_of : List Str := [("pairs" : Str), ("key" : Str), ("other" : Str), ("one" : Str), ("value" : Str)]
@[simp] theorem Nl_told_of : N_told_of.length = 5 := rfl
def b_told_of : S :=
  (seqS (forS (itF itemsT (getV 0)) (aTup 2 (aCons (aName 3) (aCons (aName 4) aNil))) (ifS (toB (bin (onW eqD) (getV 3) (getV 1))) (retS (getV 4)) nxS)) (retS (getV 2)))
def f_told_of : List W → M W := runB N_told_of.length b_told_of
def N_with_pair : List Str := [("pairs" : Str), ("key" : Str), ("value" : Str), ("rest" : Str), ("one" : Str)]
@[simp] theorem Nl_with_pair : N_with_pair.length = 5 := rfl
def b_with_pair : S :=
  (seqS (asgS 3 (lcF (itF itemsT (getV 0)) [4] (aName 4) (toB (bin (onW neD) (bin ixW (getV 4) (fun _ => ret (.d (.int 0)))) (getV 1))) (getV 4) asData)) (retS (callF (on1 tupleW) (consA (op1 sortDW (bin addW (getV 3) (ifW (toB (bin pyIsNot (getV 2) (fun _ => ret (.d .none)))) (mkLst (consA (mkTup (consA (getV 1) (consA (getV 2) (fun _ => ret [])))) (fun _ => ret []))) (mkLst (fun _ => ret []))))) (fun _ => ret [])))))
def f_with_pair : List W → M W := runB N_with_pair.length b_with_pair
def N_asleep_at : List Str := [("moment" : Str), ("thread" : Str), ("call" : Str), ("row" : Str), ("one" : Str), ("lock" : Str)]
@[simp] theorem Nl_asleep_at : N_asleep_at.length = 6 := rfl
def b_asleep_at : S :=
  (seqS (forS (itF itemsT (bin ixW (getV 0) (fun _ => ret (.d (.int 3))))) (aTup 2 (aCons (aName 2) (aCons (aName 3) aNil))) (forS (itF itemsT (getV 3)) (aTup 2 (aCons (aName 4) (aCons (aName 5) aNil))) (ifS (toB (bin (onW eqD) (getV 4) (getV 1))) (retS (mkTup (consA (getV 2) (consA (getV 5) (fun _ => ret []))))) nxS))) (retS (fun _ => ret (.d .none))))
def f_asleep_at : List W → M W := runB N_asleep_at.length b_asleep_at
def N_gone_from : List Str := [("moment" : Str), ("thread" : Str), ("one" : Str), ("call" : Str), ("lock" : Str)]
@[simp] theorem Nl_gone_from : N_gone_from.length = 5 := rfl
def b_gone_from : S :=
  (seqS (forS (itF itemsT (bin ixW (getV 0) (fun _ => ret (.d (.int 4))))) (aTup 3 (aCons (aName 2) (aCons (aName 3) (aCons (aName 4) aNil)))) (ifS (toB (bin (onW eqD) (getV 2) (getV 1))) (retS (mkTup (consA (getV 3) (consA (getV 4) (fun _ => ret []))))) nxS)) (retS (fun _ => ret (.d .none))))
def f_gone_from : List W → M W := runB N_gone_from.length b_gone_from
def N_is_let : List Str := [("moment" : Str), ("thread" : Str), ("intent" : Str), ("word" : Str), ("holds" : Str)]
@[simp] theorem Nl_is_let : N_is_let.length = 5 := rfl
def b_is_let : S :=
  (seqS (parS 3 4 (consA (bin ixW (getV 2) (fun _ => ret (.d (.int 0)))) (consA (bin ixW (getV 0) (fun _ => ret (.d (.int 1)))) (fun _ => ret [])))) (seqS (ifS (toB (bin (onW eqD) (getV 3) (fun _ => ret (.d (.str ("take" : Str)))))) (retS (bin pyIs (callU 3 f_told_of (consA (getV 4) (consA (bin ixW (getV 2) (fun _ => ret (.d (.int 1)))) (consA (fun _ => ret (.d .none)) (fun _ => ret []))))) (fun _ => ret (.d .none)))) nxS) (seqS (ifS (toB (bin (onW inD) (getV 3) (mkTup (consA (fun _ => ret (.d (.str ("give" : Str)))) (consA (fun _ => ret (.d (.str ("wait" : Str)))) (fun _ => ret [])))))) (retS (bin (onW eqD) (callU 3 f_told_of (consA (getV 4) (consA (bin ixW (getV 2) (negW (fun _ => ret (.d (.int 1))))) (consA (fun _ => ret (.d .none)) (fun _ => ret []))))) (getV 1))) nxS) (seqS (ifS (toB (bin (onW eqD) (getV 3) (fun _ => ret (.d (.str ("begin" : Str)))))) (retS (bin (onW notInD) (bin ixW (getV 2) (fun _ => ret (.d (.int 1)))) (bin ixW (getV 0) (fun _ => ret (.d (.int 5)))))) nxS) (retS (orW (bin (onW neD) (getV 3) (fun _ => ret (.d (.str ("await" : Str))))) (bin (onW inD) (bin ixW (getV 2) (fun _ => ret (.d (.int 1)))) (bin ixW (getV 0) (fun _ => ret (.d (.int 6)))))))))))
def f_is_let : List W → M W := runB N_is_let.length b_is_let
def N_deed_at : List Str := [("moment" : Str), ("thread" : Str), ("intent" : Str), ("gone" : Str), ("word" : Str), ("is_fine" : Str), ("letters" : Str)]
@[simp] theorem Nl_deed_at : N_deed_at.length = 7 := rfl
def b_deed_at : S :=
  (seqS (ifS (orB (toB (bin (onW notInD) (getV 1) (bin ixW (getV 0) (fun _ => ret (.d (.int 5)))))) (orB (toB (bin (onW inD) (getV 1) (bin ixW (getV 0) (fun _ => ret (.d (.int 6)))))) (toB (bin pyIsNot (callU 2 f_asleep_at (consA (getV 0) (consA (getV 1) (fun _ => ret [])))) (fun _ => ret (.d .none)))))) (retS (fun _ => ret (.d .none))) nxS) (seqS (parS 3 4 (consA (callU 2 f_gone_from (consA (getV 0) (consA (getV 1) (fun _ => ret [])))) (consA (bin ixW (getV 2) (fun _ => ret (.d (.int 0)))) (fun _ => ret [])))) (seqS (ifS (orB (toB (bin pyIsNot (getV 3) (fun _ => ret (.d .none)))) (toB (bin (onW eqD) (getV 4) (fun _ => ret (.d (.str ("woken" : Str))))))) (seqS (asgS 5 (andW (bin pyIsNot (getV 3) (fun _ => ret (.d .none))) (andW (bin (onW eqD) (getV 2) (mkTup (consA (fun _ => ret (.d (.str ("woken" : Str)))) (consA (bin ixW (getV 3) (fun _ => ret (.d (.int 0)))) (fun _ => ret []))))) (bin pyIs (callU 3 f_told_of (consA (bin ixW (getV 0) (fun _ => ret (.d (.int 1)))) (consA (bin ixW (getV 3) (fun _ => ret (.d (.int 1)))) (consA (fun _ => ret (.d .none)) (fun _ => ret []))))) (fun _ => ret (.d .none)))))) (retS (ifW (tst (getV 5)) (getV 2) (fun _ => ret (.d .none))))) nxS) (seqS (ifS (toB (bin (onW eqD) (getV 4) (fun _ => ret (.d (.str ("read" : Str)))))) (retS (bin addW (getV 2) (mkTup (consA (callU 3 f_told_of (consA (bin ixW (getV 0) (fun _ => ret (.d (.int 0)))) (consA (bin ixW (getV 2) (fun _ => ret (.d (.int 1)))) (consA (fun _ => ret (.d (.int 0))) (fun _ => ret []))))) (fun _ => ret []))))) nxS) (seqS (ifS (toB (bin (onW eqD) (getV 4) (fun _ => ret (.d (.str ("get" : Str)))))) (seqS (asgS 6 (callU 3 f_told_of (consA (bin ixW (getV 0) (fun _ => ret (.d (.int 2)))) (consA (bin ixW (getV 2) (fun _ => ret (.d (.int 1)))) (consA (mkTup (fun _ => ret [])) (fun _ => ret [])))))) (retS (ifW (toB (bin (onW neD) (getV 6) (mkTup (fun _ => ret [])))) (bin addW (getV 2) (sliceF (getV 6) (fun _ => ret none) (partF (fun _ => ret (.d (.int 1)))))) (fun _ => ret (.d .none))))) nxS) (retS (ifW (tst (callU 3 f_is_let (consA (getV 0) (consA (getV 1) (consA (getV 2) (fun _ => ret [])))))) (getV 2) (fun _ => ret (.d .none)))))))))
def f_deed_at : List W → M W := runB N_deed_at.length b_deed_at
def N_lets : List Str := [("moment" : Str), ("thread" : Str), ("deed" : Str), ("intent" : Str)]
@[simp] theorem Nl_lets : N_lets.length = 4 := rfl
def b_lets : S :=
  (seqS (asgS 3 (ifW (toB (bin (onW eqD) (bin ixW (getV 2) (fun _ => ret (.d (.int 0)))) (fun _ => ret (.d (.str ("woken" : Str)))))) (getV 2) (callU 1 f_bare_intent (consA (getV 2) (fun _ => ret []))))) (retS (bin (onW eqD) (callU 3 f_deed_at (consA (getV 0) (consA (getV 1) (consA (getV 3) (fun _ => ret []))))) (getV 2))))
def f_lets : List W → M W := runB N_lets.length b_lets
def N_behind_call : List Str := [("moment" : Str), ("thread" : Str), ("deed" : Str), ("call" : Str), ("row" : Str), ("cells" : Str), ("holds" : Str), ("boxes" : Str), ("sleepers" : Str), ("woken" : Str), ("begun" : Str), ("ended" : Str), ("one" : Str)]
@[simp] theorem Nl_behind_call : N_behind_call.length = 13 := rfl
def b_behind_call : S :=
  (seqS (asgT (aTup 7 (aCons (aName 5) (aCons (aName 6) (aCons (aName 7) (aCons (aName 8) (aCons (aName 9) (aCons (aName 10) (aCons (aName 11) aNil)))))))) (getV 0)) (seqS (asgS 3 (bin ixW (getV 2) (fun _ => ret (.d (.int 1))))) (seqS (asgS 4 (callU 3 f_told_of (consA (getV 8) (consA (getV 3) (consA (mkTup (fun _ => ret [])) (fun _ => ret [])))))) (seqS (ifS (toB (bin (onW eqD) (bin ixW (getV 2) (fun _ => ret (.d (.int 0)))) (fun _ => ret (.d (.str ("wait" : Str)))))) (seqS (asgS 6 (callU 3 f_with_pair (consA (getV 6) (consA (bin ixW (getV 2) (fun _ => ret (.d (.int 2)))) (consA (fun _ => ret (.d .none)) (fun _ => ret [])))))) (asgS 8 (callU 3 f_with_pair (consA (getV 8) (consA (getV 3) (consA (bin addW (getV 4) (mkTup (consA (mkTup (consA (getV 1) (consA (bin ixW (getV 2) (fun _ => ret (.d (.int 2)))) (fun _ => ret [])))) (fun _ => ret [])))) (fun _ => ret []))))))) (ifS (toB (bin (onW eqD) (bin ixW (getV 2) (fun _ => ret (.d (.int 0)))) (fun _ => ret (.d (.str ("woken" : Str)))))) (seqS (asgS 6 (callU 3 f_with_pair (consA (getV 6) (consA (bin ixW (callU 2 f_gone_from (consA (getV 0) (consA (getV 1) (fun _ => ret [])))) (fun _ => ret (.d (.int 1)))) (consA (getV 1) (fun _ => ret [])))))) (asgS 9 (callF (on1 tupleW) (consA (lcF (itF itemsT (getV 9)) [12] (aName 12) (toB (bin (onW neD) (bin ixW (getV 12) (fun _ => ret (.d (.int 0)))) (getV 1))) (getV 12) asData) (fun _ => ret []))))) (ifS (toB (bin (onW neD) (getV 4) (mkTup (fun _ => ret [])))) (seqS (asgS 9 (callF (on1 tupleW) (consA (op1 sortDW (bin addW (getV 9) (mkTup (consA (mkTup (consA (bin ixW (bin ixW (getV 4) (fun _ => ret (.d (.int 0)))) (fun _ => ret (.d (.int 0)))) (consA (getV 3) (consA (bin ixW (bin ixW (getV 4) (fun _ => ret (.d (.int 0)))) (fun _ => ret (.d (.int 1)))) (fun _ => ret []))))) (fun _ => ret []))))) (fun _ => ret [])))) (asgS 8 (callU 3 f_with_pair (consA (getV 8) (consA (getV 3) (consA (ifW (toB (bin (onD gtD) (callF (on1 lenW) (consA (getV 4) (fun _ => ret []))) (fun _ => ret (.d (.int 1))))) (sliceF (getV 4) (partF (fun _ => ret (.d (.int 1)))) (fun _ => ret none)) (fun _ => ret (.d .none))) (fun _ => ret []))))))) nxS))) (retS (mkTup (consA (getV 5) (consA (getV 6) (consA (getV 7) (consA (getV 8) (consA (getV 9) (consA (getV 10) (consA (getV 11) (fun _ => ret []))))))))))))))
def f_behind_call : List W → M W := runB N_behind_call.length b_behind_call
def N_behind : List Str := [("moment" : Str), ("thread" : Str), ("deed" : Str), ("word" : Str), ("cells" : Str), ("holds" : Str), ("boxes" : Str), ("sleepers" : Str), ("woken" : Str), ("begun" : Str), ("ended" : Str), ("letters" : Str)]
@[simp] theorem Nl_behind : N_behind.length = 12 := rfl
def b_behind : S :=
  (seqS (asgT (aTup 7 (aCons (aName 4) (aCons (aName 5) (aCons (aName 6) (aCons (aName 7) (aCons (aName 8) (aCons (aName 9) (aCons (aName 10) aNil)))))))) (getV 0)) (seqS (asgS 3 (bin ixW (getV 2) (fun _ => ret (.d (.int 0))))) (seqS (ifS (toB (bin (onW inD) (getV 3) (mkTup (consA (fun _ => ret (.d (.str ("wait" : Str)))) (consA (fun _ => ret (.d (.str ("wake" : Str)))) (consA (fun _ => ret (.d (.str ("woken" : Str)))) (fun _ => ret []))))))) (retS (callU 3 f_behind_call (consA (getV 0) (consA (getV 1) (consA (getV 2) (fun _ => ret [])))))) nxS) (seqS (ifS (toB (bin (onW eqD) (getV 3) (fun _ => ret (.d (.str ("write" : Str)))))) (asgS 4 (callU 3 f_with_pair (consA (getV 4) (consA (bin ixW (getV 2) (fun _ => ret (.d (.int 1)))) (consA (bin ixW (getV 2) (fun _ => ret (.d (.int 2)))) (fun _ => ret [])))))) (ifS (toB (bin (onW eqD) (getV 3) (fun _ => ret (.d (.str ("take" : Str)))))) (asgS 5 (callU 3 f_with_pair (consA (getV 5) (consA (bin ixW (getV 2) (fun _ => ret (.d (.int 1)))) (consA (getV 1) (fun _ => ret [])))))) (ifS (toB (bin (onW eqD) (getV 3) (fun _ => ret (.d (.str ("give" : Str)))))) (asgS 5 (callU 3 f_with_pair (consA (getV 5) (consA (bin ixW (getV 2) (fun _ => ret (.d (.int 1)))) (consA (fun _ => ret (.d .none)) (fun _ => ret [])))))) (ifS (toB (bin (onW eqD) (getV 3) (fun _ => ret (.d (.str ("send" : Str)))))) (asgS 6 (callU 3 f_with_pair (consA (getV 6) (consA (bin ixW (getV 2) (fun _ => ret (.d (.int 1)))) (consA (bin addW (callU 3 f_told_of (consA (getV 6) (consA (bin ixW (getV 2) (fun _ => ret (.d (.int 1)))) (consA (mkTup (fun _ => ret [])) (fun _ => ret []))))) (mkTup (consA (bin ixW (getV 2) (fun _ => ret (.d (.int 2)))) (fun _ => ret [])))) (fun _ => ret [])))))) (ifS (toB (bin (onW eqD) (getV 3) (fun _ => ret (.d (.str ("get" : Str)))))) (seqS (asgS 11 (sliceF (callU 3 f_told_of (consA (getV 6) (consA (bin ixW (getV 2) (fun _ => ret (.d (.int 1)))) (consA (mkTup (fun _ => ret [])) (fun _ => ret []))))) (partF (fun _ => ret (.d (.int 1)))) (fun _ => ret none))) (asgS 6 (callU 3 f_with_pair (consA (getV 6) (consA (bin ixW (getV 2) (fun _ => ret (.d (.int 1)))) (consA (ifW (toB (bin (onW neD) (getV 11) (mkTup (fun _ => ret [])))) (getV 11) (fun _ => ret (.d .none))) (fun _ => ret []))))))) (ifS (toB (bin (onW eqD) (getV 3) (fun _ => ret (.d (.str ("begin" : Str)))))) (asgS 9 (callF (on1 tupleW) (consA (op1 sortDW (bin addW (getV 9) (mkTup (consA (bin ixW (getV 2) (fun _ => ret (.d (.int 1)))) (fun _ => ret []))))) (fun _ => ret [])))) (ifS (toB (bin (onW eqD) (getV 3) (fun _ => ret (.d (.str ("end" : Str)))))) (asgS 10 (callF (on1 tupleW) (consA (op1 sortDW (bin addW (getV 10) (mkTup (consA (getV 1) (fun _ => ret []))))) (fun _ => ret [])))) nxS))))))) (retS (mkTup (consA (getV 4) (consA (getV 5) (consA (getV 6) (consA (getV 7) (consA (getV 8) (consA (getV 9) (consA (getV 10) (fun _ => ret []))))))))))))))
def f_behind : List W → M W := runB N_behind.length b_behind
def N_moved : List Str := [("moment" : Str), ("thread" : Str), ("deed" : Str)]
@[simp] theorem Nl_moved : N_moved.length = 3 := rfl
def b_moved : S :=
  (retS (ifW (tst (callU 3 f_lets (consA (getV 0) (consA (getV 1) (consA (getV 2) (fun _ => ret [])))))) (callU 3 f_behind (consA (getV 0) (consA (getV 1) (consA (getV 2) (fun _ => ret []))))) (fun _ => ret (.d .none))))
def f_moved : List W → M W := runB N_moved.length b_moved
def kd_FIRST : PyData := .tuple [.tuple [], .tuple [], .tuple [], .tuple [], .tuple [], .tuple [.str ("root" : Str)], .tuple []]
def N_walked : List Str := [("row" : Str), ("moment" : Str), ("place" : Str), ("following" : Str), ("thread" : Str), ("deed" : Str)]
@[simp] theorem Nl_walked : N_walked.length = 6 := rfl
def b_walked : S :=
  (seqS (asgS 1 (fun _ => ret (.d kd_FIRST))) (seqS (forS (enumT (consA (getV 0) (fun _ => ret []))) (aTup 2 (aCons (aName 2) (aCons (aTup 2 (aCons (aName 4) (aCons (aName 5) aNil))) aNil))) (seqS (asgS 3 (callU 3 f_moved (consA (getV 1) (consA (getV 4) (consA (getV 5) (fun _ => ret [])))))) (seqS (ifS (toB (bin pyIs (getV 3) (fun _ => ret (.d .none)))) (retS (mkTup (consA (getV 2) (consA (getV 1) (fun _ => ret []))))) nxS) (asgS 1 (getV 3))))) (retS (mkTup (consA (fun _ => ret (.d .none)) (consA (getV 1) (fun _ => ret [])))))))
def f_walked : List W → M W := runB N_walked.length b_walked
def N_bad_place : List Str := [("row" : Str)]
@[simp] theorem Nl_bad_place : N_bad_place.length = 1 := rfl
def b_bad_place : S :=
  (retS (bin ixW (callU 1 f_walked (consA (getV 0) (fun _ => ret []))) (fun _ => ret (.d (.int 0)))))
def f_bad_place : List W → M W := runB N_bad_place.length b_bad_place
def N_first_bad : List Str := [("row" : Str)]
@[simp] theorem Nl_first_bad : N_first_bad.length = 1 := rfl
def b_first_bad : S :=
  (seqS (dropS (callU 1 f_need_row (consA (getV 0) (fun _ => ret [])))) (retS (callU 1 f_bad_place (consA (getV 0) (fun _ => ret [])))))
def f_first_bad : List W → M W := runB N_first_bad.length b_first_bad
def N_is_run : List Str := [("row" : Str)]
@[simp] theorem Nl_is_run : N_is_run.length = 1 := rfl
def b_is_run : S :=
  (seqS (dropS (callU 1 f_need_row (consA (getV 0) (fun _ => ret [])))) (retS (bin pyIs (callU 1 f_bad_place (consA (getV 0) (fun _ => ret []))) (fun _ => ret (.d .none)))))
def f_is_run : List W → M W := runB N_is_run.length b_is_run
def N__law_same : List Str := [("told" : Str), ("due" : Str), ("at" : Str)]
@[simp] theorem Nl__law_same : N__law_same.length = 3 := rfl
def b__law_same (rec : List W → M W) : S :=
  (seqS (ifS (tst (isiF .tuple (getV 1))) (seqS (ifS (orB (notB (tst (isiF .tuple (getV 0)))) (toB (bin (onW neD) (callF (on1 lenW) (consA (getV 0) (fun _ => ret []))) (callF (on1 lenW) (consA (getV 1) (fun _ => ret [])))))) (retS (fun _ => ret (.d (.bool false)))) nxS) (retS (callF (on1 allW) (consA (lcF (range1 (consA (callF (on1 lenW) (consA (getV 1) (fun _ => ret []))) (fun _ => ret []))) [2] (aName 2) (fun _ => ret true) (callU 2 rec (consA (bin ixW (getV 0) (getV 2)) (consA (bin ixW (getV 1) (getV 2)) (fun _ => ret [])))) asData) (fun _ => ret []))))) nxS) (seqS (ifS (toB (bin pyIs (getV 1) (fun _ => ret (.d .none)))) (retS (bin pyIs (getV 0) (fun _ => ret (.d .none)))) nxS) (seqS (ifS (tst (isiF .bool (getV 1))) (retS (ifW (tst (getV 1)) (bin pyIs (getV 0) (fun _ => ret (.d (.bool true)))) (bin pyIs (getV 0) (fun _ => ret (.d (.bool false)))))) nxS) (seqS (ifS (tst (isiF .int (getV 1))) (retS (andW (isiF .int (getV 0)) (andW (notW (isiF .bool (getV 0))) (bin (onW eqD) (callF (on1 intW) (consA (getV 0) (fun _ => ret []))) (getV 1))))) nxS) (retS (andW (isiF .str (getV 0)) (bin (onW eqD) (callF (on1 strIW) (consA (getV 0) (fun _ => ret []))) (getV 1))))))))
def fr__law_same : Nat → List W → M W
  | 0 => fun _ => bad
  | n + 1 => runB N__law_same.length (b__law_same (fr__law_same n))
def f__law_same : List W → M W := fr__law_same 8
def N__law_cup : List Str := [("script" : Str), ("cell" : Str)]
@[simp] theorem Nl__law_cup : N__law_cup.length = 2 := rfl
def b__law_cup : S :=
  (seqS (asgS 1 (callF (on1 absW) (consA (bin ixW (bin addW (scrF 0 fun ns => ret (.d (.list (ns.map .int)))) (mkLst (consA (fun _ => ret (.d (.int 0))) (fun _ => ret [])))) (fun _ => ret (.d (.int 0)))) (fun _ => ret [])))) (retS (mkMut (consA (ifW (toB (bin (onD geD) (getV 1) (bin (onD powD) (fun _ => ret (.d (.int 10))) (fun _ => ret (.d (.int 18)))))) (bin (onD fdivD) (getV 1) (fun _ => ret (.d (.int 89)))) (fun _ => ret (.d (.int 0)))) (consA (bin addW (bin (onD modD) (callF (on1 intW) (consA (bin addW (bin (onD mulD) (getV 1) (fun _ => ret (.d (.int 271)))) (fun _ => ret (.d (.int 3331)))) (fun _ => ret []))) (fun _ => ret (.d (.int 2077504519)))) (fun _ => ret (.d (.int 223)))) (fun _ => ret []))))))
def f__law_cup : List Int → M W := runS N__law_cup.length b__law_cup
def N__law_roll : List Str := [("cup" : Str), ("many" : Str), ("deep" : Str), ("found" : Str)]
@[simp] theorem Nl__law_roll : N__law_roll.length = 4 := rfl
def b__law_roll : S :=
  (seqS (ifS (toB (bin (onD gtD) (bin ixW (getV 0) (fun _ => ret (.d (.int 0)))) (fun _ => ret (.d (.int 0))))) (seqS (asgS 3 (bin (onD modD) (callF (on1 intW) (consA (bin ixW (getV 0) (fun _ => ret (.d (.int 0)))) (fun _ => ret []))) (getV 1))) (seqS (setIx (getV 0) (fun _ => ret (.d (.int 0))) (bin (onD fdivD) (bin ixW (getV 0) (fun _ => ret (.d (.int 0)))) (getV 1))) (retS (getV 3)))) nxS) (seqS (setIx (getV 0) (fun _ => ret (.d (.int 1))) (bin (onD modD) (callF (on1 intW) (consA (bin addW (bin (onD mulD) (bin ixW (getV 0) (fun _ => ret (.d (.int 1)))) (fun _ => ret (.d (.int 31139)))) (fun _ => ret (.d (.int 8231)))) (fun _ => ret []))) (fun _ => ret (.d (.int 2147483249))))) (seqS (asgS 2 (bin (onD modD) (callF (on1 intW) (consA (bin (onD mulD) (bin ixW (getV 0) (fun _ => ret (.d (.int 1)))) (bin addW (bin ixW (getV 0) (fun _ => ret (.d (.int 1)))) (fun _ => ret (.d (.int 277))))) (fun _ => ret []))) (fun _ => ret (.d (.int 2147483549))))) (retS (bin (onD modD) (callF (on1 intW) (consA (bin (onD fdivD) (getV 2) (fun _ => ret (.d (.int 877)))) (fun _ => ret []))) (getV 1))))))
def f__law_roll : List W → M W := runB N__law_roll.length b__law_roll
def N__law_some : List Str := [("cup" : Str), ("things" : Str)]
@[simp] theorem Nl__law_some : N__law_some.length = 2 := rfl
def b__law_some : S :=
  (retS (bin ixW (getV 1) (callU 2 f__law_roll (consA (getV 0) (consA (callF (on1 lenW) (consA (getV 1) (fun _ => ret []))) (fun _ => ret []))))))
def f__law_some : List W → M W := runB N__law_some.length b__law_some
def N__law_pool : List Str := [("cup" : Str), ("at" : Str), ("signs" : Str), ("head" : Str), ("sign" : Str), ("turn" : Str)]
@[simp] theorem Nl__law_pool : N__law_pool.length = 6 := rfl
def b__law_pool : S :=
  (seqS (asgT (aTup 2 (aCons (aName 2) (aCons (aName 3) aNil))) (mkTup (consA (fun _ => ret (.d (.str ("abcdefghijklmnopqrstuvwxyz0123456789" : Str)))) (consA (fun _ => ret (.d (.str ("" : Str)))) (fun _ => ret []))))) (seqS (ifS (toB (bin (onD gtD) (callU 2 f__law_roll (consA (getV 0) (consA (fun _ => ret (.d (.int 4))) (fun _ => ret [])))) (fun _ => ret (.d (.int 0))))) (asgS 3 (bin addW (bin ixW (getV 2) (callU 2 f__law_roll (consA (getV 0) (consA (fun _ => ret (.d (.int 26))) (fun _ => ret []))))) (joinF (fun _ => ret (.d (.str ("" : Str)))) (lcF (range1 (consA (callU 2 f__law_roll (consA (getV 0) (consA (fun _ => ret (.d (.int 11))) (fun _ => ret [])))) (fun _ => ret []))) [5] (aName 5) (fun _ => ret true) (bin ixW (getV 2) (callU 2 f__law_roll (consA (getV 0) (consA (fun _ => ret (.d (.int 36))) (fun _ => ret []))))) asData)))) nxS) (seqS (asgS 1 (callU 2 f__law_roll (consA (getV 0) (consA (bin addW (callF (on1 lenW) (consA (getV 3) (fun _ => ret []))) (fun _ => ret (.d (.int 1)))) (fun _ => ret []))))) (retS (lcF (itF itemsS (fun _ => ret (.d (.str ("bcdefgh" : Str))))) [4] (aName 4) (fun _ => ret true) (bin addW (bin addW (sliceF (getV 3) (fun _ => ret none) (partF (getV 1))) (getV 4)) (sliceF (getV 3) (partF (getV 1)) (fun _ => ret none))) asData)))))
def f__law_pool : List W → M W := runB N__law_pool.length b__law_pool
def N__law_value : List Str := [("cup" : Str)]
@[simp] theorem Nl__law_value : N__law_value.length = 1 := rfl
def b__law_value : S :=
  (retS (callU 2 f__law_some (consA (getV 0) (consA (mkLst (consA (fun _ => ret (.d (.int 0))) (consA (fun _ => ret (.d (.int 1))) (consA (negW (fun _ => ret (.d (.int 1)))) (consA (fun _ => ret (.d (.int 99))) (consA (negW (fun _ => ret (.d (.int 99)))) (consA (bin (onD subD) (callU 2 f__law_roll (consA (getV 0) (consA (fun _ => ret (.d (.int 199))) (fun _ => ret [])))) (fun _ => ret (.d (.int 99)))) (fun _ => ret [])))))))) (fun _ => ret [])))))
def f__law_value : List W → M W := runB N__law_value.length b__law_value
def N__law_begun : List Str := [("row" : Str), ("thread" : Str), ("deed" : Str)]
@[simp] theorem Nl__law_begun : N__law_begun.length = 3 := rfl
def b__law_begun : S :=
  (retS (bin addW (mkLst (consA (fun _ => ret (.d (.str ("root" : Str)))) (fun _ => ret []))) (lcF (itF itemsT (getV 0)) [1, 2] (aTup 2 (aCons (aName 1) (aCons (aName 2) aNil))) (toB (bin (onW eqD) (bin ixW (getV 2) (fun _ => ret (.d (.int 0)))) (fun _ => ret (.d (.str ("begin" : Str)))))) (bin ixW (getV 2) (fun _ => ret (.d (.int 1)))) asData)))
def f__law_begun : List W → M W := runB N__law_begun.length b__law_begun
def N__law_own : List Str := [("row" : Str), ("thread" : Str), ("who" : Str), ("deed" : Str)]
@[simp] theorem Nl__law_own : N__law_own.length = 4 := rfl
def b__law_own : S :=
  (retS (lcF (itF itemsT (getV 0)) [2, 3] (aTup 2 (aCons (aName 2) (aCons (aName 3) aNil))) (toB (bin (onW eqD) (getV 2) (getV 1))) (getV 3) asData))
def f__law_own : List W → M W := runB N__law_own.length b__law_own
def N__law_worth : List Str := [("row" : Str), ("cell" : Str), ("thread" : Str), ("deed" : Str)]
@[simp] theorem Nl__law_worth : N__law_worth.length = 4 := rfl
def b__law_worth : S :=
  (retS (bin ixW (bin addW (mkLst (consA (fun _ => ret (.d (.int 0))) (fun _ => ret []))) (lcF (itF itemsT (getV 0)) [2, 3] (aTup 2 (aCons (aName 2) (aCons (aName 3) aNil))) (toB (bin (onW eqD) (sliceF (getV 3) (fun _ => ret none) (partF (fun _ => ret (.d (.int 2))))) (mkTup (consA (fun _ => ret (.d (.str ("write" : Str)))) (consA (getV 1) (fun _ => ret [])))))) (bin ixW (getV 3) (fun _ => ret (.d (.int 2)))) asData)) (negW (fun _ => ret (.d (.int 1))))))
def f__law_worth : List W → M W := runB N__law_worth.length b__law_worth
def N__law_letters : List Str := [("row" : Str), ("box" : Str), ("sent" : Str), ("thread" : Str), ("deed" : Str)]
@[simp] theorem Nl__law_letters : N__law_letters.length = 5 := rfl
def b__law_letters : S :=
  (seqS (asgS 2 (lcF (itF itemsT (getV 0)) [3, 4] (aTup 2 (aCons (aName 3) (aCons (aName 4) aNil))) (toB (bin (onW eqD) (sliceF (getV 4) (fun _ => ret none) (partF (fun _ => ret (.d (.int 2))))) (mkTup (consA (fun _ => ret (.d (.str ("send" : Str)))) (consA (getV 1) (fun _ => ret [])))))) (bin ixW (getV 4) (fun _ => ret (.d (.int 2)))) asData)) (retS (sliceF (getV 2) (partF (callF (on1 lenW) (consA (lcF (itF itemsT (getV 0)) [3, 4] (aTup 2 (aCons (aName 3) (aCons (aName 4) aNil))) (toB (bin (onW eqD) (sliceF (getV 4) (fun _ => ret none) (partF (fun _ => ret (.d (.int 2))))) (mkTup (consA (fun _ => ret (.d (.str ("get" : Str)))) (consA (getV 1) (fun _ => ret [])))))) (fun _ => ret (.d (.int 1))) asData) (fun _ => ret [])))) (fun _ => ret none))))
def f__law_letters : List W → M W := runB N__law_letters.length b__law_letters
def N__law_holder : List Str := [("row" : Str), ("lock" : Str), ("holder" : Str), ("given" : Str), ("thread" : Str), ("deed" : Str)]
@[simp] theorem Nl__law_holder : N__law_holder.length = 6 := rfl
def b__law_holder : S :=
  (seqS (parS 2 3 (consA (fun _ => ret (.d .none)) (consA mkDic (fun _ => ret [])))) (seqS (forS (itF itemsT (getV 0)) (aTup 2 (aCons (aName 4) (aCons (aName 5) aNil))) (seqS (ifS (toB (bin (onW eqD) (bin ixW (getV 5) (fun _ => ret (.d (.int 0)))) (fun _ => ret (.d (.str ("wait" : Str)))))) (setK (getV 3) (getV 4) (bin ixW (getV 5) (fun _ => ret (.d (.int 2))))) nxS) (seqS (ifS (orB (toB (bin (onW eqD) (getV 5) (mkTup (consA (fun _ => ret (.d (.str ("take" : Str)))) (consA (getV 1) (fun _ => ret [])))))) (andB (toB (bin (onW eqD) (bin ixW (getV 5) (fun _ => ret (.d (.int 0)))) (fun _ => ret (.d (.str ("woken" : Str)))))) (toB (bin (onW eqD) (bin ixK (getV 3) (getV 4)) (getV 1))))) (asgS 2 (getV 4)) nxS) (ifS (andB (toB (bin (onW inD) (bin ixW (getV 5) (fun _ => ret (.d (.int 0)))) (mkTup (consA (fun _ => ret (.d (.str ("give" : Str)))) (consA (fun _ => ret (.d (.str ("wait" : Str)))) (fun _ => ret [])))))) (toB (bin (onW eqD) (bin ixW (getV 5) (negW (fun _ => ret (.d (.int 1))))) (getV 1)))) (asgS 2 (fun _ => ret (.d .none))) nxS)))) (retS (getV 2))))
def f__law_holder : List W → M W := runB N__law_holder.length b__law_holder
def N__law_called : List Str := [("row" : Str), ("call" : Str), ("asleep" : Str), ("gone" : Str), ("thread" : Str), ("deed" : Str), ("one" : Str)]
@[simp] theorem Nl__law_called : N__law_called.length = 7 := rfl
def b__law_called : S :=
  (seqS (parS 2 3 (consA (mkMut (fun _ => ret [])) (consA (mkMut (fun _ => ret [])) (fun _ => ret [])))) (seqS (forS (itF itemsT (getV 0)) (aTup 2 (aCons (aName 4) (aCons (aName 5) aNil))) (seqS (ifS (toB (bin (onW eqD) (sliceF (getV 5) (fun _ => ret none) (partF (fun _ => ret (.d (.int 2))))) (mkTup (consA (fun _ => ret (.d (.str ("wait" : Str)))) (consA (getV 1) (fun _ => ret [])))))) (dropS (appS (getV 2) (getV 4))) nxS) (seqS (ifS (andB (toB (bin (onW eqD) (getV 5) (mkTup (consA (fun _ => ret (.d (.str ("wake" : Str)))) (consA (getV 1) (fun _ => ret [])))))) (toB (bin (onW neD) (getV 2) (mkLst (fun _ => ret []))))) (seqS (dropS (appS (getV 3) (bin ixW (getV 2) (fun _ => ret (.d (.int 0)))))) (asgS 2 (sliceM (getV 2) (partF (fun _ => ret (.d (.int 1)))) (fun _ => ret none)))) nxS) (ifS (toB (bin (onW eqD) (getV 5) (mkTup (consA (fun _ => ret (.d (.str ("woken" : Str)))) (consA (getV 1) (fun _ => ret [])))))) (asgS 3 (lcF (itF itemsW (getV 3)) [6] (aName 6) (toB (bin (onW neD) (getV 6) (getV 4))) (getV 6) asMut)) nxS)))) (retS (mkTup (consA (frzF (getV 2)) (consA (frzF (getV 3)) (fun _ => ret [])))))))
def f__law_called : List W → M W := runB N__law_called.length b__law_called
def N__law_lets : List Str := [("row" : Str), ("thread" : Str), ("deed" : Str), ("own" : Str), ("word" : Str)]
@[simp] theorem Nl__law_lets : N__law_lets.length = 5 := rfl
def b__law_lets : S :=
  (seqS (parS 3 4 (consA (callU 2 f__law_own (consA (getV 0) (consA (getV 1) (fun _ => ret [])))) (consA (bin ixW (getV 2) (fun _ => ret (.d (.int 0)))) (fun _ => ret [])))) (seqS (ifS (orB (toB (bin (onW notInD) (getV 1) (callU 1 f__law_begun (consA (getV 0) (fun _ => ret []))))) (toB (bin (onW inD) (mkTup (consA (fun _ => ret (.d (.str ("end" : Str)))) (fun _ => ret []))) (getV 3)))) (retS (fun _ => ret (.d (.bool false)))) nxS) (seqS (ifS (orB (andB (toB (bin (onW neD) (getV 3) (mkLst (fun _ => ret [])))) (toB (bin (onW eqD) (bin ixW (bin ixW (getV 3) (negW (fun _ => ret (.d (.int 1))))) (fun _ => ret (.d (.int 0)))) (fun _ => ret (.d (.str ("wait" : Str))))))) (toB (bin (onW eqD) (getV 4) (fun _ => ret (.d (.str ("woken" : Str))))))) (seqS (ifS (orB (toB (bin (onW eqD) (getV 3) (mkLst (fun _ => ret [])))) (orB (toB (bin (onW neD) (bin ixW (bin ixW (getV 3) (negW (fun _ => ret (.d (.int 1))))) (fun _ => ret (.d (.int 0)))) (fun _ => ret (.d (.str ("wait" : Str)))))) (toB (bin (onW neD) (getV 2) (mkTup (consA (fun _ => ret (.d (.str ("woken" : Str)))) (consA (bin ixW (bin ixW (getV 3) (negW (fun _ => ret (.d (.int 1))))) (fun _ => ret (.d (.int 1)))) (fun _ => ret [])))))))) (retS (fun _ => ret (.d (.bool false)))) nxS) (retS (andW (bin (onW inD) (getV 1) (bin ixW (callU 2 f__law_called (consA (getV 0) (consA (bin ixW (getV 2) (fun _ => ret (.d (.int 1)))) (fun _ => ret [])))) (fun _ => ret (.d (.int 1))))) (bin pyIs (callU 2 f__law_holder (consA (getV 0) (consA (bin ixW (bin ixW (getV 3) (negW (fun _ => ret (.d (.int 1))))) (fun _ => ret (.d (.int 2)))) (fun _ => ret [])))) (fun _ => ret (.d .none)))))) nxS) (seqS (ifS (toB (bin (onW eqD) (getV 4) (fun _ => ret (.d (.str ("read" : Str)))))) (retS (bin (onW eqD) (bin ixW (getV 2) (fun _ => ret (.d (.int 2)))) (callU 2 f__law_worth (consA (getV 0) (consA (bin ixW (getV 2) (fun _ => ret (.d (.int 1)))) (fun _ => ret [])))))) nxS) (seqS (ifS (toB (bin (onW eqD) (getV 4) (fun _ => ret (.d (.str ("get" : Str)))))) (retS (bin (onW eqD) (sliceF (callU 2 f__law_letters (consA (getV 0) (consA (bin ixW (getV 2) (fun _ => ret (.d (.int 1)))) (fun _ => ret [])))) (fun _ => ret none) (partF (fun _ => ret (.d (.int 1))))) (mkLst (consA (bin ixW (getV 2) (fun _ => ret (.d (.int 2)))) (fun _ => ret []))))) nxS) (seqS (ifS (toB (bin (onW eqD) (getV 4) (fun _ => ret (.d (.str ("take" : Str)))))) (retS (bin pyIs (callU 2 f__law_holder (consA (getV 0) (consA (bin ixW (getV 2) (fun _ => ret (.d (.int 1)))) (fun _ => ret [])))) (fun _ => ret (.d .none)))) nxS) (seqS (ifS (toB (bin (onW inD) (getV 4) (mkTup (consA (fun _ => ret (.d (.str ("give" : Str)))) (consA (fun _ => ret (.d (.str ("wait" : Str)))) (fun _ => ret [])))))) (retS (bin (onW eqD) (callU 2 f__law_holder (consA (getV 0) (consA (bin ixW (getV 2) (negW (fun _ => ret (.d (.int 1))))) (fun _ => ret [])))) (getV 1))) nxS) (seqS (ifS (toB (bin (onW eqD) (getV 4) (fun _ => ret (.d (.str ("begin" : Str)))))) (retS (bin (onW notInD) (bin ixW (getV 2) (fun _ => ret (.d (.int 1)))) (callU 1 f__law_begun (consA (getV 0) (fun _ => ret []))))) nxS) (retS (orW (bin (onW neD) (getV 4) (fun _ => ret (.d (.str ("await" : Str))))) (bin (onW inD) (mkTup (consA (bin ixW (getV 2) (fun _ => ret (.d (.int 1)))) (consA (mkTup (consA (fun _ => ret (.d (.str ("end" : Str)))) (fun _ => ret []))) (fun _ => ret [])))) (getV 0))))))))))))
def f__law_lets : List W → M W := runB N__law_lets.length b__law_lets
def N__law_move : List Str := [("cup" : Str), ("pool" : Str), ("row" : Str), ("words" : Str), ("own" : Str), ("lock" : Str), ("thread" : Str), ("word" : Str), ("name" : Str), ("one" : Str)]
@[simp] theorem Nl__law_move : N__law_move.length = 10 := rfl
def b__law_move : S :=
  (seqS (asgT (aTup 3 (aCons (aName 6) (aCons (aName 7) (aCons (aName 8) aNil)))) (mkTup (consA (callU 2 f__law_some (consA (getV 0) (consA (callU 1 f__law_begun (consA (getV 2) (fun _ => ret []))) (fun _ => ret [])))) (consA (callU 2 f__law_some (consA (getV 0) (consA (getV 3) (fun _ => ret [])))) (consA (callU 2 f__law_some (consA (getV 0) (consA (sliceF (getV 1) (fun _ => ret none) (partF (fun _ => ret (.d (.int 2))))) (fun _ => ret [])))) (fun _ => ret [])))))) (seqS (asgS 4 (callU 2 f__law_own (consA (getV 2) (consA (getV 6) (fun _ => ret []))))) (seqS (ifS (andB (toB (bin (onW neD) (getV 4) (mkLst (fun _ => ret [])))) (toB (bin (onW eqD) (bin ixW (bin ixW (getV 4) (negW (fun _ => ret (.d (.int 1))))) (fun _ => ret (.d (.int 0)))) (fun _ => ret (.d (.str ("wait" : Str))))))) (retS (mkTup (consA (getV 6) (consA (mkTup (consA (fun _ => ret (.d (.str ("woken" : Str)))) (consA (bin ixW (bin ixW (getV 4) (negW (fun _ => ret (.d (.int 1))))) (fun _ => ret (.d (.int 1)))) (fun _ => ret [])))) (fun _ => ret []))))) nxS) (seqS (ifS (toB (bin (onW eqD) (getV 7) (fun _ => ret (.d (.str ("read" : Str)))))) (retS (mkTup (consA (getV 6) (consA (mkTup (consA (getV 7) (consA (getV 8) (consA (callU 2 f__law_worth (consA (getV 2) (consA (getV 8) (fun _ => ret [])))) (fun _ => ret []))))) (fun _ => ret []))))) nxS) (seqS (ifS (orB (toB (bin (onW eqD) (getV 7) (fun _ => ret (.d (.str ("write" : Str)))))) (toB (bin (onW eqD) (getV 7) (fun _ => ret (.d (.str ("send" : Str))))))) (retS (mkTup (consA (getV 6) (consA (mkTup (consA (getV 7) (consA (getV 8) (consA (callU 1 f__law_value (consA (getV 0) (fun _ => ret []))) (fun _ => ret []))))) (fun _ => ret []))))) nxS) (seqS (ifS (toB (bin (onW eqD) (getV 7) (fun _ => ret (.d (.str ("get" : Str)))))) (retS (mkTup (consA (getV 6) (consA (mkTup (consA (getV 7) (consA (getV 8) (consA (bin ixW (bin addW (callU 2 f__law_letters (consA (getV 2) (consA (getV 8) (fun _ => ret [])))) (mkLst (consA (fun _ => ret (.d (.int 0))) (fun _ => ret [])))) (fun _ => ret (.d (.int 0)))) (fun _ => ret []))))) (fun _ => ret []))))) nxS) (seqS (ifS (orB (toB (bin (onW eqD) (getV 7) (fun _ => ret (.d (.str ("begin" : Str)))))) (toB (bin (onW eqD) (getV 7) (fun _ => ret (.d (.str ("await" : Str))))))) (retS (mkTup (consA (getV 6) (consA (mkTup (consA (getV 7) (consA (callU 2 f__law_some (consA (getV 0) (consA (ifW (toB (bin (onW eqD) (getV 7) (fun _ => ret (.d (.str ("begin" : Str)))))) (getV 1) (callU 1 f__law_begun (consA (getV 2) (fun _ => ret [])))) (fun _ => ret [])))) (fun _ => ret [])))) (fun _ => ret []))))) nxS) (seqS (asgS 5 (callU 2 f__law_some (consA (getV 0) (consA (ifW (toB (bin (onW eqD) (getV 7) (fun _ => ret (.d (.str ("take" : Str)))))) (sliceF (getV 1) (fun _ => ret none) (partF (fun _ => ret (.d (.int 3))))) (bin addW (lcF (itF itemsW (sliceF (getV 1) (fun _ => ret none) (partF (fun _ => ret (.d (.int 3)))))) [9] (aName 9) (toB (bin (onW eqD) (callU 2 f__law_holder (consA (getV 2) (consA (getV 9) (fun _ => ret [])))) (getV 6))) (getV 9) asData) (mkLst (consA (getV 8) (fun _ => ret []))))) (fun _ => ret []))))) (seqS (ifS (toB (bin (onW eqD) (getV 7) (fun _ => ret (.d (.str ("wait" : Str)))))) (retS (mkTup (consA (getV 6) (consA (mkTup (consA (getV 7) (consA (getV 8) (consA (getV 5) (fun _ => ret []))))) (fun _ => ret []))))) nxS) (retS (mkTup (consA (getV 6) (consA (ifW (toB (bin (onW neD) (getV 7) (fun _ => ret (.d (.str ("end" : Str)))))) (mkTup (consA (getV 7) (consA (ifW (toB (bin (onW eqD) (getV 7) (fun _ => ret (.d (.str ("wake" : Str)))))) (getV 8) (getV 5)) (fun _ => ret [])))) (mkTup (consA (getV 7) (fun _ => ret [])))) (fun _ => ret []))))))))))))))
def f__law_move : List W → M W := runB N__law_move.length b__law_move
def N__law_run : List Str := [("cup" : Str), ("pool" : Str), ("many" : Str), ("words" : Str), ("row" : Str), ("turn" : Str), ("thread" : Str), ("deed" : Str), ("one" : Str)]
@[simp] theorem Nl__law_run : N__law_run.length = 9 := rfl
def b__law_run : S :=
  (seqS (asgS 4 (callF (on1 tupleW) (consA (lcF (itF itemsW (sliceF (getV 1) (fun _ => ret none) (partF (callF minW (consA (getV 2) (consA (callU 2 f__law_roll (consA (getV 0) (consA (fun _ => ret (.d (.int 8))) (fun _ => ret [])))) (fun _ => ret []))))))) [8] (aName 8) (fun _ => ret true) (mkTup (consA (fun _ => ret (.d (.str ("root" : Str)))) (consA (mkTup (consA (fun _ => ret (.d (.str ("begin" : Str)))) (consA (getV 8) (fun _ => ret [])))) (fun _ => ret [])))) asData) (fun _ => ret [])))) (seqS (forS (range1 (consA (bin addW (getV 2) (fun _ => ret (.d (.int 12)))) (fun _ => ret []))) (aName 5) (seqS (asgT (aTup 2 (aCons (aName 6) (aCons (aName 7) aNil))) (callU 4 f__law_move (consA (getV 0) (consA (getV 1) (consA (getV 4) (consA (getV 3) (fun _ => ret []))))))) (ifS (andB (toB (bin (onD ltD) (callF (on1 lenW) (consA (getV 4) (fun _ => ret []))) (getV 2))) (tst (callU 3 f__law_lets (consA (getV 4) (consA (getV 6) (consA (getV 7) (fun _ => ret []))))))) (asgS 4 (bin addW (getV 4) (mkTup (consA (mkTup (consA (getV 6) (consA (getV 7) (fun _ => ret [])))) (fun _ => ret []))))) nxS))) (retS (getV 4))))
def f__law_run : List W → M W := runB N__law_run.length b__law_run
def N__law_any : List Str := [("cup" : Str), ("pool" : Str), ("word" : Str), ("more" : Str), ("thread" : Str), ("name" : Str)]
@[simp] theorem Nl__law_any : N__law_any.length = 6 := rfl
def b__law_any : S :=
  (seqS (parS 4 5 (consA (callU 2 f__law_some (consA (getV 0) (consA (bin addW (mkLst (consA (fun _ => ret (.d (.str ("root" : Str)))) (fun _ => ret []))) (getV 1)) (fun _ => ret [])))) (consA (callU 2 f__law_some (consA (getV 0) (consA (sliceF (getV 1) (fun _ => ret none) (partF (fun _ => ret (.d (.int 3))))) (fun _ => ret [])))) (fun _ => ret [])))) (seqS (asgS 2 (callU 2 f__law_some (consA (getV 0) (consA (mkLst (consA (fun _ => ret (.d (.str ("read" : Str)))) (consA (fun _ => ret (.d (.str ("write" : Str)))) (consA (fun _ => ret (.d (.str ("take" : Str)))) (consA (fun _ => ret (.d (.str ("give" : Str)))) (consA (fun _ => ret (.d (.str ("begin" : Str)))) (consA (fun _ => ret (.d (.str ("await" : Str)))) (consA (fun _ => ret (.d (.str ("send" : Str)))) (consA (fun _ => ret (.d (.str ("get" : Str)))) (consA (fun _ => ret (.d (.str ("wait" : Str)))) (consA (fun _ => ret (.d (.str ("woken" : Str)))) (consA (fun _ => ret (.d (.str ("wake" : Str)))) (consA (fun _ => ret (.d (.str ("end" : Str)))) (fun _ => ret [])))))))))))))) (fun _ => ret []))))) (seqS (ifS (toB (bin (onW inD) (getV 2) (mkTup (consA (fun _ => ret (.d (.str ("read" : Str)))) (consA (fun _ => ret (.d (.str ("write" : Str)))) (consA (fun _ => ret (.d (.str ("send" : Str)))) (consA (fun _ => ret (.d (.str ("get" : Str)))) (fun _ => ret [])))))))) (retS (mkTup (consA (getV 4) (consA (mkTup (consA (getV 2) (consA (getV 5) (consA (callU 1 f__law_value (consA (getV 0) (fun _ => ret []))) (fun _ => ret []))))) (fun _ => ret []))))) nxS) (seqS (ifS (toB (bin (onW inD) (getV 2) (mkTup (consA (fun _ => ret (.d (.str ("begin" : Str)))) (consA (fun _ => ret (.d (.str ("await" : Str)))) (fun _ => ret [])))))) (retS (mkTup (consA (getV 4) (consA (mkTup (consA (getV 2) (consA (callU 2 f__law_some (consA (getV 0) (consA (bin addW (getV 1) (mkLst (consA (fun _ => ret (.d (.str ("root" : Str)))) (fun _ => ret [])))) (fun _ => ret [])))) (fun _ => ret [])))) (fun _ => ret []))))) nxS) (seqS (asgS 3 (ifW (toB (bin (onW eqD) (getV 2) (fun _ => ret (.d (.str ("wait" : Str)))))) (mkTup (consA (callU 2 f__law_some (consA (getV 0) (consA (sliceF (getV 1) (fun _ => ret none) (partF (fun _ => ret (.d (.int 3))))) (fun _ => ret [])))) (fun _ => ret []))) (mkTup (fun _ => ret [])))) (retS (mkTup (consA (getV 4) (consA (ifW (toB (bin (onW neD) (getV 2) (fun _ => ret (.d (.str ("end" : Str)))))) (bin addW (mkTup (consA (getV 2) (consA (getV 5) (fun _ => ret [])))) (getV 3)) (mkTup (consA (getV 2) (fun _ => ret [])))) (fun _ => ret []))))))))))
def f__law_any : List W → M W := runB N__law_any.length b__law_any
def N__law_bad : List Str := [("row" : Str), ("start" : Str), ("place" : Str)]
@[simp] theorem Nl__law_bad : N__law_bad.length = 3 := rfl
def b__law_bad : S :=
  (seqS (forS (range2 (consA (getV 1) (consA (callF (on1 lenW) (consA (getV 0) (fun _ => ret []))) (fun _ => ret [])))) (aName 2) (ifS (notB (tst (callU 3 f__law_lets (consA (sliceF (getV 0) (fun _ => ret none) (partF (getV 2))) (consA (bin ixW (bin ixW (getV 0) (getV 2)) (fun _ => ret (.d (.int 0)))) (consA (bin ixW (bin ixW (getV 0) (getV 2)) (fun _ => ret (.d (.int 1)))) (fun _ => ret []))))))) (retS (getV 2)) nxS)) (retS (fun _ => ret (.d .none))))
def f__law_bad : List W → M W := runB N__law_bad.length b__law_bad
def N__law_words : List Str := []
@[simp] theorem Nl__law_words : N__law_words.length = 0 := rfl
def b__law_words : S :=
  (retS (mkLst (consA (fun _ => ret (.d (.str ("read" : Str)))) (consA (fun _ => ret (.d (.str ("write" : Str)))) (consA (fun _ => ret (.d (.str ("take" : Str)))) (consA (fun _ => ret (.d (.str ("take" : Str)))) (consA (fun _ => ret (.d (.str ("give" : Str)))) (consA (fun _ => ret (.d (.str ("begin" : Str)))) (consA (fun _ => ret (.d (.str ("await" : Str)))) (consA (fun _ => ret (.d (.str ("send" : Str)))) (consA (fun _ => ret (.d (.str ("send" : Str)))) (consA (fun _ => ret (.d (.str ("get" : Str)))) (consA (fun _ => ret (.d (.str ("wait" : Str)))) (consA (fun _ => ret (.d (.str ("wait" : Str)))) (consA (fun _ => ret (.d (.str ("wake" : Str)))) (consA (fun _ => ret (.d (.str ("end" : Str)))) (fun _ => ret [])))))))))))))))))
def f__law_words : List W → M W := runB N__law_words.length b__law_words
def N__law_changed : List Str := [("cup" : Str), ("pool" : Str), ("row" : Str), ("at" : Str), ("other" : Str), ("kind" : Str)]
@[simp] theorem Nl__law_changed : N__law_changed.length = 6 := rfl
def b__law_changed : S :=
  (seqS (asgS 4 (callU 2 f__law_any (consA (getV 0) (consA (getV 1) (fun _ => ret []))))) (seqS (asgS 5 (callU 2 f__law_roll (consA (getV 0) (consA (fun _ => ret (.d (.int 4))) (fun _ => ret []))))) (seqS (ifS (toB (bin (onW eqD) (getV 5) (fun _ => ret (.d (.int 0))))) (retS (bin addW (bin addW (sliceF (getV 2) (fun _ => ret none) (partF (getV 3))) (mkTup (consA (getV 4) (fun _ => ret [])))) (sliceF (getV 2) (partF (bin addW (getV 3) (fun _ => ret (.d (.int 1))))) (fun _ => ret none)))) nxS) (seqS (ifS (toB (bin (onW eqD) (getV 5) (fun _ => ret (.d (.int 1))))) (retS (bin addW (sliceF (getV 2) (fun _ => ret none) (partF (getV 3))) (sliceF (getV 2) (partF (bin addW (getV 3) (fun _ => ret (.d (.int 1))))) (fun _ => ret none)))) nxS) (retS (bin addW (bin addW (sliceF (getV 2) (fun _ => ret none) (partF (getV 3))) (ifW (toB (bin (onW eqD) (getV 5) (fun _ => ret (.d (.int 2))))) (bin addW (sliceF (getV 2) (partF (bin addW (getV 3) (fun _ => ret (.d (.int 1))))) (partF (bin addW (getV 3) (fun _ => ret (.d (.int 2)))))) (sliceF (getV 2) (partF (getV 3)) (partF (bin addW (getV 3) (fun _ => ret (.d (.int 1))))))) (bin addW (mkTup (consA (getV 4) (fun _ => ret []))) (sliceF (getV 2) (partF (getV 3)) (partF (bin addW (getV 3) (fun _ => ret (.d (.int 2))))))))) (sliceF (getV 2) (partF (bin addW (getV 3) (fun _ => ret (.d (.int 2))))) (fun _ => ret none))))))))
def f__law_changed : List W → M W := runB N__law_changed.length b__law_changed
def N__law_right : List Str := [("row" : Str), ("due" : Str)]
@[simp] theorem Nl__law_right : N__law_right.length = 2 := rfl
def b__law_right : S :=
  (retS (andW (callU 2 f__law_same (consA (callU 1 f_first_bad (consA (getV 0) (fun _ => ret []))) (consA (getV 1) (fun _ => ret [])))) (callU 2 f__law_same (consA (callU 1 f_is_run (consA (getV 0) (fun _ => ret []))) (consA (bin pyIs (getV 1) (fun _ => ret (.d .none))) (fun _ => ret []))))))
def f__law_right : List W → M W := runB N__law_right.length b__law_right
def N__law_rows : List Str := [("rows" : Str), ("sleeps" : Str), ("sent" : Str), ("take" : Str), ("wait" : Str), ("wake" : Str), ("woken" : Str), ("begin" : Str), ("end" : Str), ("other" : Str)]
@[simp] theorem Nl__law_rows : N__law_rows.length = 10 := rfl
def b__law_rows : S :=
  (seqS (asgT (aTup 4 (aCons (aName 3) (aCons (aName 4) (aCons (aName 5) (aCons (aName 6) aNil))))) (mkTup (consA (mkTup (consA (fun _ => ret (.d (.str ("root" : Str)))) (consA (mkTup (consA (fun _ => ret (.d (.str ("take" : Str)))) (consA (fun _ => ret (.d (.str ("l" : Str)))) (fun _ => ret [])))) (fun _ => ret [])))) (consA (mkTup (consA (fun _ => ret (.d (.str ("root" : Str)))) (consA (mkTup (consA (fun _ => ret (.d (.str ("wait" : Str)))) (consA (fun _ => ret (.d (.str ("c" : Str)))) (consA (fun _ => ret (.d (.str ("l" : Str)))) (fun _ => ret []))))) (fun _ => ret [])))) (consA (mkTup (consA (fun _ => ret (.d (.str ("a" : Str)))) (consA (mkTup (consA (fun _ => ret (.d (.str ("wake" : Str)))) (consA (fun _ => ret (.d (.str ("c" : Str)))) (fun _ => ret [])))) (fun _ => ret [])))) (consA (mkTup (consA (fun _ => ret (.d (.str ("root" : Str)))) (consA (mkTup (consA (fun _ => ret (.d (.str ("woken" : Str)))) (consA (fun _ => ret (.d (.str ("c" : Str)))) (fun _ => ret [])))) (fun _ => ret [])))) (fun _ => ret []))))))) (seqS (asgT (aTup 3 (aCons (aName 7) (aCons (aName 8) (aCons (aName 9) aNil)))) (mkTup (consA (mkTup (consA (fun _ => ret (.d (.str ("root" : Str)))) (consA (mkTup (consA (fun _ => ret (.d (.str ("begin" : Str)))) (consA (fun _ => ret (.d (.str ("a" : Str)))) (fun _ => ret [])))) (fun _ => ret [])))) (consA (mkTup (consA (fun _ => ret (.d (.str ("a" : Str)))) (consA (mkTup (consA (fun _ => ret (.d (.str ("end" : Str)))) (fun _ => ret []))) (fun _ => ret [])))) (consA (mkTup (consA (fun _ => ret (.d (.str ("root" : Str)))) (consA (mkTup (consA (fun _ => ret (.d (.str ("begin" : Str)))) (consA (fun _ => ret (.d (.str ("b" : Str)))) (fun _ => ret [])))) (fun _ => ret [])))) (fun _ => ret [])))))) (seqS (asgS 0 (mkLst (consA (mkTup (consA (mkTup (consA (getV 7) (consA (getV 7) (fun _ => ret [])))) (consA (fun _ => ret (.d (.int 1))) (fun _ => ret [])))) (consA (mkTup (consA (mkTup (consA (mkTup (consA (fun _ => ret (.d (.str ("root" : Str)))) (consA (mkTup (consA (fun _ => ret (.d (.str ("begin" : Str)))) (consA (fun _ => ret (.d (.str ("root" : Str)))) (fun _ => ret [])))) (fun _ => ret [])))) (fun _ => ret []))) (consA (fun _ => ret (.d (.int 0))) (fun _ => ret [])))) (consA (mkTup (consA (mkTup (consA (getV 8) (fun _ => ret []))) (consA (fun _ => ret (.d (.int 0))) (fun _ => ret [])))) (consA (mkTup (consA (mkTup (consA (getV 7) (consA (mkTup (consA (fun _ => ret (.d (.str ("a" : Str)))) (consA (mkTup (consA (fun _ => ret (.d (.str ("begin" : Str)))) (consA (fun _ => ret (.d (.str ("a" : Str)))) (fun _ => ret [])))) (fun _ => ret [])))) (fun _ => ret [])))) (consA (fun _ => ret (.d (.int 1))) (fun _ => ret [])))) (fun _ => ret []))))))) (seqS (asgS 0 (bin addW (getV 0) (mkLst (consA (mkTup (consA (mkTup (consA (getV 7) (consA (getV 8) (consA (getV 7) (fun _ => ret []))))) (consA (fun _ => ret (.d (.int 2))) (fun _ => ret [])))) (consA (mkTup (consA (mkTup (consA (getV 7) (consA (getV 8) (consA (mkTup (consA (fun _ => ret (.d (.str ("a" : Str)))) (consA (mkTup (consA (fun _ => ret (.d (.str ("write" : Str)))) (consA (fun _ => ret (.d (.str ("x" : Str)))) (consA (fun _ => ret (.d (.int 1))) (fun _ => ret []))))) (fun _ => ret [])))) (fun _ => ret []))))) (consA (fun _ => ret (.d (.int 2))) (fun _ => ret [])))) (consA (mkTup (consA (mkTup (consA (getV 7) (consA (mkTup (consA (fun _ => ret (.d (.str ("root" : Str)))) (consA (mkTup (consA (fun _ => ret (.d (.str ("await" : Str)))) (consA (fun _ => ret (.d (.str ("a" : Str)))) (fun _ => ret [])))) (fun _ => ret [])))) (fun _ => ret [])))) (consA (fun _ => ret (.d (.int 1))) (fun _ => ret [])))) (fun _ => ret []))))))) (seqS (asgS 0 (bin addW (getV 0) (mkLst (consA (mkTup (consA (mkTup (consA (getV 7) (consA (getV 8) (consA (mkTup (consA (fun _ => ret (.d (.str ("root" : Str)))) (consA (mkTup (consA (fun _ => ret (.d (.str ("await" : Str)))) (consA (fun _ => ret (.d (.str ("a" : Str)))) (fun _ => ret [])))) (fun _ => ret [])))) (consA (mkTup (consA (fun _ => ret (.d (.str ("root" : Str)))) (consA (mkTup (consA (fun _ => ret (.d (.str ("await" : Str)))) (consA (fun _ => ret (.d (.str ("a" : Str)))) (fun _ => ret [])))) (fun _ => ret [])))) (fun _ => ret [])))))) (consA (fun _ => ret (.d .none)) (fun _ => ret [])))) (consA (mkTup (consA (mkTup (consA (mkTup (consA (fun _ => ret (.d (.str ("root" : Str)))) (consA (mkTup (consA (fun _ => ret (.d (.str ("await" : Str)))) (consA (fun _ => ret (.d (.str ("root" : Str)))) (fun _ => ret [])))) (fun _ => ret [])))) (fun _ => ret []))) (consA (fun _ => ret (.d (.int 0))) (fun _ => ret [])))) (fun _ => ret [])))))) (seqS (asgS 0 (bin addW (getV 0) (mkLst (consA (mkTup (consA (mkTup (consA (getV 7) (consA (mkTup (consA (fun _ => ret (.d (.str ("root" : Str)))) (consA (mkTup (consA (fun _ => ret (.d (.str ("end" : Str)))) (fun _ => ret []))) (fun _ => ret [])))) (consA (mkTup (consA (fun _ => ret (.d (.str ("a" : Str)))) (consA (mkTup (consA (fun _ => ret (.d (.str ("await" : Str)))) (consA (fun _ => ret (.d (.str ("root" : Str)))) (fun _ => ret [])))) (fun _ => ret [])))) (fun _ => ret []))))) (consA (fun _ => ret (.d .none)) (fun _ => ret [])))) (consA (mkTup (consA (mkTup (consA (getV 7) (consA (getV 3) (consA (mkTup (consA (fun _ => ret (.d (.str ("a" : Str)))) (consA (mkTup (consA (fun _ => ret (.d (.str ("take" : Str)))) (consA (fun _ => ret (.d (.str ("l" : Str)))) (fun _ => ret [])))) (fun _ => ret [])))) (fun _ => ret []))))) (consA (fun _ => ret (.d (.int 2))) (fun _ => ret [])))) (fun _ => ret [])))))) (seqS (asgS 0 (bin addW (getV 0) (mkLst (consA (mkTup (consA (mkTup (consA (getV 3) (consA (getV 3) (fun _ => ret [])))) (consA (fun _ => ret (.d (.int 1))) (fun _ => ret [])))) (consA (mkTup (consA (mkTup (consA (mkTup (consA (fun _ => ret (.d (.str ("root" : Str)))) (consA (mkTup (consA (fun _ => ret (.d (.str ("give" : Str)))) (consA (fun _ => ret (.d (.str ("l" : Str)))) (fun _ => ret [])))) (fun _ => ret [])))) (fun _ => ret []))) (consA (fun _ => ret (.d (.int 0))) (fun _ => ret [])))) (consA (mkTup (consA (mkTup (consA (getV 7) (consA (getV 3) (consA (mkTup (consA (fun _ => ret (.d (.str ("a" : Str)))) (consA (mkTup (consA (fun _ => ret (.d (.str ("give" : Str)))) (consA (fun _ => ret (.d (.str ("l" : Str)))) (fun _ => ret [])))) (fun _ => ret [])))) (fun _ => ret []))))) (consA (fun _ => ret (.d (.int 2))) (fun _ => ret [])))) (fun _ => ret []))))))) (seqS (asgS 0 (bin addW (getV 0) (mkLst (consA (mkTup (consA (mkTup (consA (getV 3) (consA (mkTup (consA (fun _ => ret (.d (.str ("root" : Str)))) (consA (mkTup (consA (fun _ => ret (.d (.str ("give" : Str)))) (consA (fun _ => ret (.d (.str ("l" : Str)))) (fun _ => ret [])))) (fun _ => ret [])))) (consA (mkTup (consA (fun _ => ret (.d (.str ("root" : Str)))) (consA (mkTup (consA (fun _ => ret (.d (.str ("give" : Str)))) (consA (fun _ => ret (.d (.str ("l" : Str)))) (fun _ => ret [])))) (fun _ => ret [])))) (fun _ => ret []))))) (consA (fun _ => ret (.d (.int 2))) (fun _ => ret [])))) (consA (mkTup (consA (mkTup (consA (getV 7) (consA (getV 3) (consA (mkTup (consA (fun _ => ret (.d (.str ("root" : Str)))) (consA (mkTup (consA (fun _ => ret (.d (.str ("end" : Str)))) (fun _ => ret []))) (fun _ => ret [])))) (consA (mkTup (consA (fun _ => ret (.d (.str ("a" : Str)))) (consA (mkTup (consA (fun _ => ret (.d (.str ("take" : Str)))) (consA (fun _ => ret (.d (.str ("l" : Str)))) (fun _ => ret [])))) (fun _ => ret [])))) (fun _ => ret [])))))) (consA (fun _ => ret (.d (.int 3))) (fun _ => ret [])))) (fun _ => ret [])))))) (seqS (asgS 0 (bin addW (getV 0) (mkLst (consA (mkTup (consA (mkTup (consA (getV 4) (fun _ => ret []))) (consA (fun _ => ret (.d (.int 0))) (fun _ => ret [])))) (consA (mkTup (consA (mkTup (consA (getV 7) (consA (getV 3) (consA (mkTup (consA (fun _ => ret (.d (.str ("a" : Str)))) (consA (mkTup (consA (fun _ => ret (.d (.str ("wait" : Str)))) (consA (fun _ => ret (.d (.str ("c" : Str)))) (consA (fun _ => ret (.d (.str ("l" : Str)))) (fun _ => ret []))))) (fun _ => ret [])))) (fun _ => ret []))))) (consA (fun _ => ret (.d (.int 2))) (fun _ => ret [])))) (consA (mkTup (consA (mkTup (consA (getV 3) (consA (getV 4) (consA (mkTup (consA (fun _ => ret (.d (.str ("root" : Str)))) (consA (mkTup (consA (fun _ => ret (.d (.str ("end" : Str)))) (fun _ => ret []))) (fun _ => ret [])))) (fun _ => ret []))))) (consA (fun _ => ret (.d (.int 2))) (fun _ => ret [])))) (consA (mkTup (consA (mkTup (consA (getV 3) (consA (getV 4) (consA (getV 6) (fun _ => ret []))))) (consA (fun _ => ret (.d (.int 2))) (fun _ => ret [])))) (fun _ => ret [])))))))) (seqS (asgS 0 (bin addW (getV 0) (mkLst (consA (mkTup (consA (mkTup (consA (getV 7) (consA (getV 3) (consA (getV 4) (consA (getV 5) (consA (getV 6) (consA (mkTup (consA (fun _ => ret (.d (.str ("root" : Str)))) (consA (mkTup (consA (fun _ => ret (.d (.str ("give" : Str)))) (consA (fun _ => ret (.d (.str ("l" : Str)))) (fun _ => ret [])))) (fun _ => ret [])))) (fun _ => ret [])))))))) (consA (fun _ => ret (.d .none)) (fun _ => ret [])))) (consA (mkTup (consA (mkTup (consA (getV 7) (consA (getV 3) (consA (getV 4) (consA (getV 5) (consA (mkTup (consA (fun _ => ret (.d (.str ("root" : Str)))) (consA (mkTup (consA (fun _ => ret (.d (.str ("woken" : Str)))) (consA (fun _ => ret (.d (.str ("d" : Str)))) (fun _ => ret [])))) (fun _ => ret [])))) (fun _ => ret []))))))) (consA (fun _ => ret (.d (.int 4))) (fun _ => ret [])))) (fun _ => ret [])))))) (seqS (asgS 0 (bin addW (getV 0) (mkLst (consA (mkTup (consA (mkTup (consA (getV 7) (consA (getV 3) (consA (getV 4) (consA (getV 5) (consA (mkTup (consA (fun _ => ret (.d (.str ("root" : Str)))) (consA (mkTup (consA (fun _ => ret (.d (.str ("write" : Str)))) (consA (fun _ => ret (.d (.str ("x" : Str)))) (consA (fun _ => ret (.d (.int 1))) (fun _ => ret []))))) (fun _ => ret [])))) (fun _ => ret []))))))) (consA (fun _ => ret (.d (.int 4))) (fun _ => ret [])))) (consA (mkTup (consA (mkTup (consA (getV 7) (consA (getV 3) (consA (getV 4) (consA (getV 5) (consA (mkTup (consA (fun _ => ret (.d (.str ("a" : Str)))) (consA (mkTup (consA (fun _ => ret (.d (.str ("take" : Str)))) (consA (fun _ => ret (.d (.str ("l" : Str)))) (fun _ => ret [])))) (fun _ => ret [])))) (consA (getV 6) (fun _ => ret [])))))))) (consA (fun _ => ret (.d (.int 5))) (fun _ => ret [])))) (fun _ => ret [])))))) (seqS (asgS 0 (bin addW (getV 0) (mkLst (consA (mkTup (consA (mkTup (consA (getV 7) (consA (getV 3) (consA (getV 4) (consA (mkTup (consA (fun _ => ret (.d (.str ("a" : Str)))) (consA (mkTup (consA (fun _ => ret (.d (.str ("wake" : Str)))) (consA (fun _ => ret (.d (.str ("d" : Str)))) (fun _ => ret [])))) (fun _ => ret [])))) (consA (getV 6) (fun _ => ret []))))))) (consA (fun _ => ret (.d (.int 4))) (fun _ => ret [])))) (consA (mkTup (consA (mkTup (consA (getV 7) (consA (getV 5) (consA (getV 5) (consA (getV 3) (consA (getV 4) (consA (getV 6) (fun _ => ret [])))))))) (consA (fun _ => ret (.d (.int 5))) (fun _ => ret [])))) (consA (mkTup (consA (mkTup (consA (getV 6) (fun _ => ret []))) (consA (fun _ => ret (.d (.int 0))) (fun _ => ret [])))) (fun _ => ret []))))))) (seqS (asgS 1 (mkTup (consA (getV 7) (consA (getV 9) (consA (mkTup (consA (fun _ => ret (.d (.str ("a" : Str)))) (consA (mkTup (consA (fun _ => ret (.d (.str ("take" : Str)))) (consA (fun _ => ret (.d (.str ("l" : Str)))) (fun _ => ret [])))) (fun _ => ret [])))) (consA (mkTup (consA (fun _ => ret (.d (.str ("a" : Str)))) (consA (mkTup (consA (fun _ => ret (.d (.str ("wait" : Str)))) (consA (fun _ => ret (.d (.str ("c" : Str)))) (consA (fun _ => ret (.d (.str ("l" : Str)))) (fun _ => ret []))))) (fun _ => ret [])))) (consA (mkTup (consA (fun _ => ret (.d (.str ("b" : Str)))) (consA (mkTup (consA (fun _ => ret (.d (.str ("take" : Str)))) (consA (fun _ => ret (.d (.str ("l" : Str)))) (fun _ => ret [])))) (fun _ => ret [])))) (consA (mkTup (consA (fun _ => ret (.d (.str ("b" : Str)))) (consA (mkTup (consA (fun _ => ret (.d (.str ("wait" : Str)))) (consA (fun _ => ret (.d (.str ("c" : Str)))) (consA (fun _ => ret (.d (.str ("l" : Str)))) (fun _ => ret []))))) (fun _ => ret [])))) (fun _ => ret []))))))))) (seqS (asgS 1 (bin addW (getV 1) (mkTup (consA (mkTup (consA (fun _ => ret (.d (.str ("root" : Str)))) (consA (mkTup (consA (fun _ => ret (.d (.str ("wake" : Str)))) (consA (fun _ => ret (.d (.str ("c" : Str)))) (fun _ => ret [])))) (fun _ => ret [])))) (fun _ => ret []))))) (seqS (asgS 0 (bin addW (getV 0) (mkLst (consA (mkTup (consA (bin addW (getV 1) (mkTup (consA (mkTup (consA (fun _ => ret (.d (.str ("b" : Str)))) (consA (mkTup (consA (fun _ => ret (.d (.str ("woken" : Str)))) (consA (fun _ => ret (.d (.str ("c" : Str)))) (fun _ => ret [])))) (fun _ => ret [])))) (fun _ => ret [])))) (consA (fun _ => ret (.d (.int 7))) (fun _ => ret [])))) (consA (mkTup (consA (bin addW (getV 1) (mkTup (consA (mkTup (consA (fun _ => ret (.d (.str ("a" : Str)))) (consA (mkTup (consA (fun _ => ret (.d (.str ("woken" : Str)))) (consA (fun _ => ret (.d (.str ("c" : Str)))) (fun _ => ret [])))) (fun _ => ret [])))) (fun _ => ret [])))) (consA (fun _ => ret (.d .none)) (fun _ => ret [])))) (fun _ => ret [])))))) (seqS (asgS 0 (bin addW (getV 0) (mkLst (consA (mkTup (consA (mkTup (consA (mkTup (consA (fun _ => ret (.d (.str ("root" : Str)))) (consA (mkTup (consA (fun _ => ret (.d (.str ("read" : Str)))) (consA (fun _ => ret (.d (.str ("x" : Str)))) (consA (fun _ => ret (.d (.int 0))) (fun _ => ret []))))) (fun _ => ret [])))) (fun _ => ret []))) (consA (fun _ => ret (.d .none)) (fun _ => ret [])))) (consA (mkTup (consA (mkTup (consA (mkTup (consA (fun _ => ret (.d (.str ("root" : Str)))) (consA (mkTup (consA (fun _ => ret (.d (.str ("read" : Str)))) (consA (fun _ => ret (.d (.str ("x" : Str)))) (consA (fun _ => ret (.d (.int 1))) (fun _ => ret []))))) (fun _ => ret [])))) (fun _ => ret []))) (consA (fun _ => ret (.d (.int 0))) (fun _ => ret [])))) (fun _ => ret [])))))) (seqS (asgS 0 (bin addW (getV 0) (mkLst (consA (mkTup (consA (mkTup (consA (mkTup (consA (fun _ => ret (.d (.str ("root" : Str)))) (consA (mkTup (consA (fun _ => ret (.d (.str ("write" : Str)))) (consA (fun _ => ret (.d (.str ("x" : Str)))) (consA (fun _ => ret (.d (.int 2))) (fun _ => ret []))))) (fun _ => ret [])))) (consA (mkTup (consA (fun _ => ret (.d (.str ("root" : Str)))) (consA (mkTup (consA (fun _ => ret (.d (.str ("read" : Str)))) (consA (fun _ => ret (.d (.str ("x" : Str)))) (consA (fun _ => ret (.d (.int 0))) (fun _ => ret []))))) (fun _ => ret [])))) (fun _ => ret [])))) (consA (fun _ => ret (.d (.int 1))) (fun _ => ret [])))) (fun _ => ret []))))) (seqS (asgS 0 (bin addW (getV 0) (mkLst (consA (mkTup (consA (mkTup (consA (mkTup (consA (fun _ => ret (.d (.str ("root" : Str)))) (consA (mkTup (consA (fun _ => ret (.d (.str ("get" : Str)))) (consA (fun _ => ret (.d (.str ("m" : Str)))) (consA (fun _ => ret (.d (.int 0))) (fun _ => ret []))))) (fun _ => ret [])))) (fun _ => ret []))) (consA (fun _ => ret (.d (.int 0))) (fun _ => ret [])))) (consA (mkTup (consA (mkTup (consA (mkTup (consA (fun _ => ret (.d (.str ("root" : Str)))) (consA (mkTup (consA (fun _ => ret (.d (.str ("send" : Str)))) (consA (fun _ => ret (.d (.str ("m" : Str)))) (consA (fun _ => ret (.d (.int 3))) (fun _ => ret []))))) (fun _ => ret [])))) (consA (mkTup (consA (fun _ => ret (.d (.str ("root" : Str)))) (consA (mkTup (consA (fun _ => ret (.d (.str ("read" : Str)))) (consA (fun _ => ret (.d (.str ("m" : Str)))) (consA (fun _ => ret (.d (.int 3))) (fun _ => ret []))))) (fun _ => ret [])))) (fun _ => ret [])))) (consA (fun _ => ret (.d (.int 1))) (fun _ => ret [])))) (consA (mkTup (consA (mkTup (fun _ => ret [])) (consA (fun _ => ret (.d .none)) (fun _ => ret [])))) (fun _ => ret []))))))) (seqS (asgS 2 (mkTup (consA (mkTup (consA (fun _ => ret (.d (.str ("root" : Str)))) (consA (mkTup (consA (fun _ => ret (.d (.str ("send" : Str)))) (consA (fun _ => ret (.d (.str ("m" : Str)))) (consA (fun _ => ret (.d (.int 4))) (fun _ => ret []))))) (fun _ => ret [])))) (consA (mkTup (consA (fun _ => ret (.d (.str ("root" : Str)))) (consA (mkTup (consA (fun _ => ret (.d (.str ("send" : Str)))) (consA (fun _ => ret (.d (.str ("m" : Str)))) (consA (fun _ => ret (.d (.int 5))) (fun _ => ret []))))) (fun _ => ret [])))) (fun _ => ret []))))) (retS (bin addW (getV 0) (mkLst (consA (mkTup (consA (bin addW (getV 2) (mkTup (consA (mkTup (consA (fun _ => ret (.d (.str ("root" : Str)))) (consA (mkTup (consA (fun _ => ret (.d (.str ("get" : Str)))) (consA (fun _ => ret (.d (.str ("m" : Str)))) (consA (fun _ => ret (.d (.int 5))) (fun _ => ret []))))) (fun _ => ret [])))) (fun _ => ret [])))) (consA (fun _ => ret (.d (.int 2))) (fun _ => ret [])))) (consA (mkTup (consA (bin addW (sliceF (getV 2) (fun _ => ret none) (partF (fun _ => ret (.d (.int 1))))) (mkTup (consA (mkTup (consA (fun _ => ret (.d (.str ("root" : Str)))) (consA (mkTup (consA (fun _ => ret (.d (.str ("get" : Str)))) (consA (fun _ => ret (.d (.str ("m" : Str)))) (consA (fun _ => ret (.d (.int 4))) (fun _ => ret []))))) (fun _ => ret [])))) (consA (mkTup (consA (fun _ => ret (.d (.str ("root" : Str)))) (consA (mkTup (consA (fun _ => ret (.d (.str ("get" : Str)))) (consA (fun _ => ret (.d (.str ("m" : Str)))) (consA (fun _ => ret (.d (.int 4))) (fun _ => ret []))))) (fun _ => ret [])))) (fun _ => ret []))))) (consA (fun _ => ret (.d (.int 2))) (fun _ => ret [])))) (fun _ => ret [])))))))))))))))))))))))))
def f__law_rows : List W → M W := runB N__law_rows.length b__law_rows
def N_locks_of : List Str := [("history" : Str), ("held" : Str), ("lock" : Str), ("place" : Str), ("deed" : Str), ("before" : Str), ("one" : Str)]
@[simp] theorem Nl_locks_of : N_locks_of.length = 7 := rfl
def b_locks_of : S :=
  (seqS (asgT (aTup 2 (aCons (aName 1) (aCons (aName 2) aNil))) (mkTup (consA (mkLst (fun _ => ret [])) (consA (fun _ => ret (.d .none)) (fun _ => ret []))))) (seqS (forS (enumT (consA (getV 0) (fun _ => ret []))) (aTup 2 (aCons (aName 3) (aCons (aName 4) aNil))) (seqS (asgS 5 (ifW (toB (bin (onD gtD) (getV 3) (fun _ => ret (.d (.int 0))))) (bin ixW (getV 0) (bin (onD subD) (getV 3) (fun _ => ret (.d (.int 1))))) (mkTup (consA (fun _ => ret (.d (.str ("" : Str)))) (fun _ => ret []))))) (seqS (ifS (orB (toB (bin (onW eqD) (bin ixW (getV 5) (fun _ => ret (.d (.int 0)))) (fun _ => ret (.d (.str ("end" : Str)))))) (toB (bin (onW neD) (bin (onW eqD) (bin ixW (getV 5) (fun _ => ret (.d (.int 0)))) (fun _ => ret (.d (.str ("wait" : Str))))) (bin (onW eqD) (bin ixW (getV 4) (fun _ => ret (.d (.int 0)))) (fun _ => ret (.d (.str ("woken" : Str)))))))) (retS (fun _ => ret (.d .none))) nxS) (seqS (ifS (toB (bin (onW eqD) (bin ixW (getV 4) (fun _ => ret (.d (.int 0)))) (fun _ => ret (.d (.str ("woken" : Str)))))) (seqS (ifS (toB (bin (onW neD) (bin ixW (getV 4) (fun _ => ret (.d (.int 1)))) (bin ixW (getV 5) (fun _ => ret (.d (.int 1)))))) (retS (fun _ => ret (.d .none))) nxS) (asgS 1 (bin addW (getV 1) (mkLst (consA (getV 2) (fun _ => ret [])))))) nxS) (seqS (ifS (toB (bin (onW eqD) (bin ixW (getV 4) (fun _ => ret (.d (.int 0)))) (fun _ => ret (.d (.str ("take" : Str)))))) (seqS (ifS (toB (bin (onW inD) (bin ixW (getV 4) (fun _ => ret (.d (.int 1)))) (getV 1))) (retS (fun _ => ret (.d .none))) nxS) (asgS 1 (bin addW (getV 1) (mkLst (consA (bin ixW (getV 4) (fun _ => ret (.d (.int 1)))) (fun _ => ret [])))))) nxS) (ifS (toB (bin (onW inD) (bin ixW (getV 4) (fun _ => ret (.d (.int 0)))) (mkTup (consA (fun _ => ret (.d (.str ("give" : Str)))) (consA (fun _ => ret (.d (.str ("wait" : Str)))) (fun _ => ret [])))))) (seqS (asgS 2 (bin ixW (getV 4) (negW (fun _ => ret (.d (.int 1)))))) (seqS (ifS (toB (bin (onW notInD) (getV 2) (getV 1))) (retS (fun _ => ret (.d .none))) nxS) (asgS 1 (lcF (itF itemsW (getV 1)) [6] (aName 6) (toB (bin (onW neD) (getV 6) (getV 2))) (getV 6) asData)))) nxS)))))) (retS (getV 1))))
def f_locks_of : List W → M W := runB N_locks_of.length b_locks_of
def kd_OWN : PyData := .int 64
def N_fits_history : List Str := [("value" : Str), ("begun" : Str), ("deed" : Str)]
@[simp] theorem Nl_fits_history : N_fits_history.length = 3 := rfl
def b_fits_history : S :=
  (seqS (ifS (orB (notB (tst (isiF .tuple (getV 0)))) (orB (toB (bin (onD gtD) (callF (on1 lenW) (consA (getV 0) (fun _ => ret []))) (fun _ => ret (.d kd_OWN)))) (notB (tst (callF (on1 allW) (consA (lcF (itF itemsT (getV 0)) [2] (aName 2) (fun _ => ret true) (callU 1 f_fits_deed (consA (getV 2) (fun _ => ret []))) asData) (fun _ => ret []))))))) (retS (fun _ => ret (.d (.bool false)))) nxS) (seqS (asgS 1 (lcF (itF itemsT (getV 0)) [2] (aName 2) (toB (bin (onW eqD) (bin ixW (getV 2) (fun _ => ret (.d (.int 0)))) (fun _ => ret (.d (.str ("begin" : Str)))))) (bin ixW (getV 2) (fun _ => ret (.d (.int 1)))) asData)) (retS (andW (bin (onW notInD) (fun _ => ret (.d (.str ("root" : Str)))) (getV 1)) (andW (bin (onW eqD) (op1 lenSetW (getV 1)) (callF (on1 lenW) (consA (getV 1) (fun _ => ret [])))) (bin pyIsNot (callU 1 f_locks_of (consA (getV 0) (fun _ => ret []))) (fun _ => ret (.d .none))))))))
def f_fits_history : List W → M W := runB N_fits_history.length b_fits_history
def N_wants : List Str := [("history" : Str)]
@[simp] theorem Nl_wants : N_wants.length = 1 := rfl
def b_wants : S :=
  (retS (orW (bin (onW eqD) (getV 0) (mkTup (fun _ => ret []))) (bin (onW notInD) (bin ixW (bin ixW (getV 0) (negW (fun _ => ret (.d (.int 1))))) (fun _ => ret (.d (.int 0)))) (mkTup (consA (fun _ => ret (.d (.str ("wait" : Str)))) (consA (fun _ => ret (.d (.str ("end" : Str)))) (fun _ => ret [])))))))
def f_wants : List W → M W := runB N_wants.length b_wants
def N_need_history : List Str := [("value" : Str)]
@[simp] theorem Nl_need_history : N_need_history.length = 1 := rfl
def b_need_history : S :=
  (ifS (notB (tst (callU 1 f_fits_history (consA (getV 0) (fun _ => ret []))))) (raiseS ("InvalidHistory" : Str)) nxS)
def f_need_history : List W → M W := runB N_need_history.length b_need_history
def N_is_history : List Str := [("value" : Str)]
@[simp] theorem Nl_is_history : N_is_history.length = 1 := rfl
def b_is_history : S :=
  (retS (callU 1 f_fits_history (consA (getV 0) (fun _ => ret []))))
def f_is_history : List W → M W := runB N_is_history.length b_is_history
def N_needs_intent : List Str := [("history" : Str)]
@[simp] theorem Nl_needs_intent : N_needs_intent.length = 1 := rfl
def b_needs_intent : S :=
  (seqS (dropS (callU 1 f_need_history (consA (getV 0) (fun _ => ret [])))) (retS (callU 1 f_wants (consA (getV 0) (fun _ => ret [])))))
def f_needs_intent : List W → M W := runB N_needs_intent.length b_needs_intent
def N_locks_held : List Str := [("history" : Str)]
@[simp] theorem Nl_locks_held : N_locks_held.length = 1 := rfl
def b_locks_held : S :=
  (seqS (dropS (callU 1 f_need_history (consA (getV 0) (fun _ => ret [])))) (retS (callF (on1 tupleW) (consA (op1 sortDW (callU 1 f_locks_of (consA (getV 0) (fun _ => ret [])))) (fun _ => ret [])))))
def f_locks_held : List W → M W := runB N_locks_held.length b_locks_held
def N__law_takes : List Str := [("deeds" : Str), ("lock" : Str), ("found" : Str), ("at" : Str), ("deed" : Str), ("before" : Str)]
@[simp] theorem Nl__law_takes : N__law_takes.length = 6 := rfl
def b__law_takes : S :=
  (seqS (asgS 2 (mkMut (fun _ => ret []))) (seqS (forS (enumT (consA (getV 0) (fun _ => ret []))) (aTup 2 (aCons (aName 3) (aCons (aName 4) aNil))) (seqS (asgS 5 (ifW (toB (bin (onD gtD) (getV 3) (fun _ => ret (.d (.int 0))))) (bin ixW (getV 0) (bin (onD subD) (getV 3) (fun _ => ret (.d (.int 1))))) (mkTup (consA (fun _ => ret (.d (.str ("" : Str)))) (fun _ => ret []))))) (seqS (ifS (orB (toB (bin (onW eqD) (getV 4) (mkTup (consA (fun _ => ret (.d (.str ("take" : Str)))) (consA (getV 1) (fun _ => ret [])))))) (andB (toB (bin (onW eqD) (bin ixW (getV 4) (fun _ => ret (.d (.int 0)))) (fun _ => ret (.d (.str ("woken" : Str)))))) (andB (toB (bin (onW eqD) (bin ixW (getV 5) (fun _ => ret (.d (.int 0)))) (fun _ => ret (.d (.str ("wait" : Str)))))) (toB (bin (onW eqD) (bin ixW (getV 5) (fun _ => ret (.d (.int 2)))) (getV 1)))))) (dropS (appS (getV 2) (fun _ => ret (.d (.int 1))))) nxS) (ifS (orB (toB (bin (onW eqD) (getV 4) (mkTup (consA (fun _ => ret (.d (.str ("give" : Str)))) (consA (getV 1) (fun _ => ret [])))))) (andB (toB (bin (onW eqD) (bin ixW (getV 4) (fun _ => ret (.d (.int 0)))) (fun _ => ret (.d (.str ("wait" : Str)))))) (toB (bin (onW eqD) (bin ixW (getV 4) (fun _ => ret (.d (.int 2)))) (getV 1))))) (dropS (appS (getV 2) (negW (fun _ => ret (.d (.int 1)))))) nxS)))) (retS (getV 2))))
def f__law_takes : List W → M W := runB N__law_takes.length b__law_takes
def N__law_can : List Str := [("deeds" : Str), ("lock" : Str), ("begun" : Str), ("at" : Str), ("deed" : Str), ("before" : Str), ("row" : Str)]
@[simp] theorem Nl__law_can : N__law_can.length = 7 := rfl
def b__law_can : S :=
  (seqS (forS (enumT (consA (getV 0) (fun _ => ret []))) (aTup 2 (aCons (aName 3) (aCons (aName 4) aNil))) (seqS (asgS 5 (ifW (toB (bin (onD gtD) (getV 3) (fun _ => ret (.d (.int 0))))) (bin ixW (getV 0) (bin (onD subD) (getV 3) (fun _ => ret (.d (.int 1))))) (mkTup (consA (fun _ => ret (.d (.str ("" : Str)))) (fun _ => ret []))))) (ifS (orB (toB (bin (onW eqD) (bin ixW (getV 5) (fun _ => ret (.d (.int 0)))) (fun _ => ret (.d (.str ("end" : Str)))))) (orB (toB (bin (onW neD) (bin (onW eqD) (bin ixW (getV 5) (fun _ => ret (.d (.int 0)))) (fun _ => ret (.d (.str ("wait" : Str))))) (bin (onW eqD) (bin ixW (getV 4) (fun _ => ret (.d (.int 0)))) (fun _ => ret (.d (.str ("woken" : Str))))))) (andB (toB (bin (onW eqD) (bin ixW (getV 4) (fun _ => ret (.d (.int 0)))) (fun _ => ret (.d (.str ("woken" : Str)))))) (toB (bin (onW neD) (bin ixW (getV 4) (fun _ => ret (.d (.int 1)))) (bin ixW (getV 5) (fun _ => ret (.d (.int 1))))))))) (retS (fun _ => ret (.d (.bool false)))) nxS))) (seqS (forS (itF itemsT (mkTup (consA (fun _ => ret (.d (.str ("l" : Str)))) (consA (fun _ => ret (.d (.str ("m" : Str)))) (fun _ => ret []))))) (aName 1) (seqS (asgS 6 (callU 2 f__law_takes (consA (getV 0) (consA (getV 1) (fun _ => ret []))))) (ifS (toB (bin (onW neD) (getV 6) (lcF (range1 (consA (callF (on1 lenW) (consA (getV 6) (fun _ => ret []))) (fun _ => ret []))) [3] (aName 3) (fun _ => ret true) (bin (onD subD) (fun _ => ret (.d (.int 1))) (bin (onD mulD) (fun _ => ret (.d (.int 2))) (bin (onD modD) (getV 3) (fun _ => ret (.d (.int 2)))))) asData))) (retS (fun _ => ret (.d (.bool false)))) nxS))) (seqS (asgS 2 (lcF (itF itemsT (getV 0)) [4] (aName 4) (toB (bin (onW eqD) (bin ixW (getV 4) (fun _ => ret (.d (.int 0)))) (fun _ => ret (.d (.str ("begin" : Str)))))) (bin ixW (getV 4) (fun _ => ret (.d (.int 1)))) asData)) (retS (andW (bin (onW notInD) (fun _ => ret (.d (.str ("root" : Str)))) (getV 2)) (bin (onW eqD) (callF (on1 lenW) (consA (getV 2) (fun _ => ret []))) (op1 lenSetW (getV 2))))))))
def f__law_can : List W → M W := runB N__law_can.length b__law_can
end PK
end
section
set_option Elab.async false
set_option linter.all false
set_option maxRecDepth 100000
set_option maxHeartbeats 600000
set_option autoImplicit false
namespace PK
open PySem PySem.Spec PyProof.Rows L2 Ev
def letC : List Nat := ("abcdefghijklmnopqrstuvwxyz" : Str).cps.toList
def sgnC : List Nat := ("abcdefghijklmnopqrstuvwxyz0123456789" : Str).cps.toList
def isLet (c : Nat) : Bool := decide (c ∈ letC)
def isSgn (c : Nat) : Bool := decide (c ∈ sgnC)
theorem in_let {c : Nat} : inD (.str ⟨#[c]⟩) kd_LETTERS = some (.bool (isLet c)) := rfl
theorem in_sgn {c : Nat} : inD (.str ⟨#[c]⟩) kd_SIGNS = some (.bool (isSgn c)) := rfl
def headLet : List Nat → Bool
  | c :: _ => isLet c
  | [] => false
def fitsText (z : Str) : Bool := decide (1 ≤ z.length) && (decide (z.length ≤ 12) && (headLet z.cps.toList && z.cps.toList.all isSgn))
def fitsWord : PyData → Bool
  | .str z => fitsText z
  | _ => false
theorem str_get0 {z : Str} (h : 1 ≤ z.length) : ∃ c r, z.cps.toList = c :: r := by
  cases e : z.cps.toList with
  | nil =>
    have : z.cps.toList.length = 0 := by rw [e]; rfl
    rw [Array.length_toList] at this
    have : z.length = 0 := this
    omega
  | cons c r => exact ⟨c, r, rfl⟩
theorem signs_len (z : Str) : (signsD z).length = z.length := by
  unfold signsD
  rw [List.length_map, Array.length_toList]; rfl
theorem fits_word_ok (v : PyData) (hv : ∀ z, v = .str z → z.length ≤ sizeLine) (st : Sto) : f_fits_word [.d v] st = .ok (.d (.bool (fitsWord v))) st := by
  apply wpM_val
  unfold f_fits_word b_fits_word
  cases v with
  | str z =>
    have hz := hv z rfl
    by_cases h1 : 1 ≤ z.length
    · by_cases h2 : z.length ≤ 12
      · obtain ⟨c, r, hc⟩ := str_get0 h1
        have g1 : (1 : Int) ≤ z.length := by omega
        have g2 : (z.length : Int) ≤ 12 := by omega
        cases h3 : isLet c with
        | true =>
          have hs : (signsD z).length < 16777216 := by rw [signs_len]; omega
          simp [startE, N_fits_word, isTyD, g1, g2, lenW_str hz, ixD_str hz, hc, in_let, h3, hs]
          unfold signsD
          refine wp_comp_map _ (fun c => .bool (isSgn c)) _ (fun c' _ => ⟨_, rfl, rfl, rfl⟩) ?_
          simp [allD_map, Function.comp_def, allW_fn isSgn]
          simp [fitsWord, fitsText, h1, h2, hc, h3, headLet]
          have ea : z.cps.all isSgn = z.cps.toList.all isSgn := Array.all_toList.symm
          rw [ea, hc, List.all_cons]
        | false => simp [startE, N_fits_word, isTyD, g1, g2, lenW_str hz, ixD_str hz, hc, in_let, h3, fitsWord, fitsText, headLet]
      · have g1 : (1 : Int) ≤ z.length := by omega
        have g2 : ¬ (z.length : Int) ≤ 12 := by omega
        simp [startE, N_fits_word, isTyD, g1, g2, lenW_str hz, fitsWord, fitsText, h2]
    · have g1 : ¬ (1 : Int) ≤ z.length := by omega
      simp [startE, N_fits_word, isTyD, g1, lenW_str hz, fitsWord, fitsText, h1]
  | _ => simp [startE, N_fits_word, isTyD, fitsWord]
/-! ## deeds, turns -/
theorem fitsText_len {z : Str} (h : fitsText z = true) : z.length ≤ 12 := by
  unfold fitsText at h
  simp at h
  exact h.2.1
theorem word_small {z : Str} (h : fitsText z = true) : ∀ y, PyData.str z = .str y → y.length ≤ sizeLine := fun y e => by
  cases e
  have := fitsText_len h
  rw [sizeLine_eq]; omega
theorem fits_word_yes {z : Str} (h : fitsText z = true) (st : Sto) : f_fits_word [W.d (.str z)] st = .ok (W.d (.bool true)) st := by
  rw [fits_word_ok _ (word_small h)]
  show R.ok (W.d (.bool (fitsText z))) st = _
  rw [h]
def valN : List Str := [("read" : Str), ("write" : Str), ("send" : Str), ("get" : Str)]
def oneN : List Str := [("take" : Str), ("give" : Str), ("begin" : Str), ("await" : Str), ("woken" : Str), ("wake" : Str)]
inductive Deed : PyData → Prop
  | val {n w : Str} {i : Int} (hn : n ∈ valN) (hw : fitsText w = true) (h1 : -99 ≤ i) (h2 : i ≤ 99) : Deed (.tuple [.str n, .str w, .int i])
  | one {n w : Str} (hn : n ∈ oneN) (hw : fitsText w = true) : Deed (.tuple [.str n, .str w])
  | wait {w w' : Str} (hw : fitsText w = true) (hw' : fitsText w' = true) : Deed (.tuple [.str ("wait" : Str), .str w, .str w'])
  | end_ : Deed (.tuple [.str ("end" : Str)])
theorem fits_value_ok (i : Int) (st : Sto) : f_fits_value [W.d (.int i)] st = .ok (W.d (.bool (decide (-99 ≤ i) && decide (i ≤ 99)))) st := by
  apply wpM_val
  unfold f_fits_value b_fits_value
  simp [startE, N_fits_value, isTyD]
  by_cases h : -99 ≤ i
  · simp [h]
  · simp [h]
theorem val_look {n : Str} (h : n ∈ valN) : kt_NAMES.lookup n = some (.int 1) ∧ inD (.str n) kd_VALUES = some (.bool true) := by
  simp only [valN, List.mem_cons, List.not_mem_nil, or_false] at h
  rcases h with rfl | rfl | rfl | rfl <;> exact ⟨by kernel_rfl, by kernel_rfl⟩
theorem one_look {n : Str} (h : n ∈ oneN) : kt_NAMES.lookup n = some (.int 1) ∧ inD (.str n) kd_VALUES = some (.bool false) := by
  simp only [oneN, List.mem_cons, List.not_mem_nil, or_false] at h
  rcases h with rfl | rfl | rfl | rfl | rfl | rfl <;> exact ⟨by kernel_rfl, by kernel_rfl⟩
theorem wait_look : kt_NAMES.lookup ("wait" : Str) = some (.int 2) ∧ inD (.str ("wait" : Str)) kd_VALUES = some (.bool false) := ⟨by kernel_rfl, by kernel_rfl⟩
theorem end_look : kt_NAMES.lookup ("end" : Str) = some (.int 0) ∧ inD (.str ("end" : Str)) kd_VALUES = some (.bool false) := ⟨by kernel_rfl, by kernel_rfl⟩
theorem cut12 {α : Type} {a b : α} {r : List α} : cutL (a :: b :: r) (some 1) (some 2) = [b] := by
  simp [cutL, HT.sIx]
theorem q_word {z : Str} (h : fitsText z = true) {st : Sto} {K : Kt W} : @qM W (f_fits_word [W.d (.str z)]) st K = K.q (W.d (.bool true)) st := qM_ok (fits_word_yes h st)
theorem fits_deed_ok {d : PyData} (h : Deed d) (st : Sto) : f_fits_deed [W.d d] st = .ok (W.d (.bool true)) st := by
  apply wpM_val
  unfold f_fits_deed b_fits_deed
  cases h with
  | @val n w i hn hw h1 h2 =>
    obtain ⟨e1, e2⟩ := val_look hn
    simp [startE, N_fits_deed, isTyD, e1, e2, cut12, q_word hw, r_comp_cons, allW, boolsD, qM_ok (fits_value_ok i st), h1, h2]
  | @one n w hn hw =>
    obtain ⟨e1, e2⟩ := one_look hn
    simp [startE, N_fits_deed, isTyD, e1, e2, cut12, q_word hw, r_comp_cons, allW, boolsD]
  | @wait w w' hw hw' =>
    obtain ⟨e1, e2⟩ := wait_look
    have c : cutL [PyData.str ("wait" : Str), .str w, .str w'] (some 1) (some 3) = [.str w, .str w'] := by simp [cutL, HT.sIx]
    simp [startE, N_fits_deed, isTyD, e1, e2, c, q_word hw, q_word hw', r_comp_cons, allW, boolsD]
  | end_ =>
    obtain ⟨e1, e2⟩ := end_look
    have c : cutL [PyData.str ("end" : Str)] (some 1) (some 1) = [] := by simp [cutL, HT.sIx]
    simp [startE, N_fits_deed, isTyD, e1, e2, c, allW, boolsD]
end PK
end
section
set_option Elab.async false
set_option linter.all false
set_option maxRecDepth 100000
set_option maxHeartbeats 600000
set_option autoImplicit false
namespace PK
open PySem PySem.Spec PyProof.Rows L2 Ev
theorem strOk_of {z : Str} (h : fitsText z = true) : PyData.strOk z = true := by
  unfold fitsText at h
  simp only [Bool.and_eq_true] at h
  have ha := List.all_eq_true.mp h.2.2.2
  unfold PyData.strOk
  rw [← Array.all_toList]
  refine List.all_eq_true.mpr fun c hc => ?_
  have h1 : isSgn c = true := ha c hc
  have h2 : c ∈ sgnC := of_decide_eq_true h1
  have h3 : sgnC.all (fun c => decide (c < 0x110000)) = true := by decide +kernel
  exact List.all_eq_true.mp h3 c h2
theorem shaped_str {z : Str} (h : PyData.strOk z = true) : SeqAt.shaped (.str z) = true := by simp [SeqAt.shaped, PyData.canLay0, PyData.depth, h]
theorem eqD_str {x y : Str} (hx : PyData.strOk x = true) (hy : PyData.strOk y = true) : eqD (.str x) (.str y) = some (.bool (decide (x = y))) := by
  rw [eqD_of (shaped_str hx) (shaped_str hy)]
  by_cases e : x = y <;> simp [PyData.eqv, e]
/-- fits_row says of it: no (whatever is left behind) -/
inductive PlainN : Nat → PyData → Prop
  | str {n : Nat} {z : Str} (ok : PyData.strOk z = true) : PlainN (n + 1) (.str z)
  | int {n : Nat} {i : Int} : PlainN (n + 1) (.int i)
  | bool {n : Nat} {i : Bool} : PlainN (n + 1) (.bool i)
  | none {n : Nat} : PlainN (n + 1) .none
  | tup {n : Nat} {ds : List PyData} (hl : ds.length ≤ 10000) (h : ∀ d ∈ ds, PlainN n d) : PlainN (n + 1) (.tuple ds)
theorem rangeL_0 (n : Nat) : rangeL 0 n = (List.range n).map fun (i : Nat) => PyData.int (i : Int) := by
  unfold rangeL
  simp
theorem same_refl : ∀ (n : Nat) (d : PyData), PlainN n d → ∀ st : Sto, fr__law_same n [W.d d, W.d d] st = .ok (W.d (.bool true)) st := by
  intro n
  induction n with
  | zero => intro d h; cases h
  | succ n ih =>
    intro d h st
    apply wpM_val
    unfold fr__law_same b__law_same
    cases h with
    | str ok => simp [startE, N__law_same, isTyD, pyIs, isB, isNone, strIW, eqD_str ok ok]
    | int => simp [startE, N__law_same, isTyD, pyIs, isB, isNone]
    | @bool _ i => cases i <;> simp [startE, N__law_same, isTyD, pyIs, isB, isNone]
    | none => simp [startE, N__law_same, isTyD, pyIs, isB, isNone]
    | @tup _ ds hl h =>
      have g : -4611686018427387904 ≤ (ds.length : Int) ∧ (ds.length : Int) < 4611686018427387904 := by omega
      have g2 : ds.length < 16777216 := by omega
      simp [startE, N__law_same, isTyD, g, g2, rangeL_0, neD_int]
      refine lc_map (fun i : Nat => PyData.int (i : Int)) (fun _ => .bool true) (List.range ds.length) (fun i hi => ⟨_, rfl, rfl, ?_⟩) ?_
      · have hi' : i < ds.length := List.mem_range.mp hi
        have e : atI ds (i : Int) = some ds[i] := by rw [Ev.atI_nat]; exact List.getElem?_eq_getElem hi'
        have hr := ih ds[i] (h _ (List.getElem_mem hi')) st
        apply fe_of
        simp [startE, N__law_same, e, qM_ok hr]
      · have e : allW st (.d (.list ((List.range ds.length).map fun _ => .bool true))) = some (.d (.bool true)) := by
          rw [allW_fn fun _ => true]; simp
        simp [e]
theorem law_same_refl {d : PyData} (h : PlainN 8 d) (st : Sto) : f__law_same [W.d d, W.d d] st = .ok (W.d (.bool true)) st := same_refl 8 d h st
theorem tabs_app {st gb : Sto} {p : Addr × Str} (h : p ∈ tabsOf st) : p ∈ tabsOf (st ++ gb) := by
  unfold tabsOf at *
  rw [List.filterMap_append]
  exact List.mem_append_left _ h
theorem wp_lam {P : Addr} {q : Str} {gx : M W → M W} {fb : Ev.Env → M W} {ρ : Ev.Env} {st : Sto} {Q : W → Sto → Prop} {E : Ex → Sto → Prop} (h : (P, q) ∈ tabsOf st) : wpM (lamF P q gx fb ρ) st Q E = wpM (gx (fb ρ)) st Q E := by
  unfold wpM lamF
  rw [if_pos h]
/-- the store of the law: the tables, the cup at j -/
structure Ok (T : List (Addr × Str)) (j : Nat) (st : Sto) : Prop where
  cup : ∃ a b : Int, st[j]? = some (.lst [W.d (.int a), W.d (.int b)])
  tab : ∀ p ∈ T, p ∈ tabsOf st
variable {T : List (Addr × Str)} {j : Nat}
theorem tabs_set {st : Sto} {j : Nat} {ws ws' : List W} {p : Addr × Str} (h : p ∈ tabsOf st) (hj : st[j]? = some (.lst ws)) : p ∈ tabsOf (st.set j (.lst ws')) := by
  obtain ⟨P, q⟩ := p
  obtain ⟨i, hi⟩ := mem_tabs h
  have hne : j ≠ i := fun e => by rw [e, hi] at hj; cases hj
  exact tabs_mem (i := i) (by rw [List.getElem?_set_ne hne]; exact hi)
theorem Ok.app {st : Sto} (h : Ok T j st) (gb : Sto) : Ok T j (st ++ gb) := by
  obtain ⟨⟨a, b, e⟩, t⟩ := h
  refine ⟨⟨a, b, ?_⟩, fun p hp => tabs_app (t p hp)⟩
  rw [List.getElem?_append_left (List.getElem?_eq_some_iff.mp e).1]; exact e
theorem Ok.set {st : Sto} (h : Ok T j st) (a b : Int) : Ok T j (st.set j (.lst [W.d (.int a), W.d (.int b)])) := by
  obtain ⟨⟨a', b', e⟩, t⟩ := h
  exact ⟨⟨a, b, by rw [List.getElem?_set_self (List.getElem?_eq_some_iff.mp e).1]⟩, fun p hp => tabs_set (t p hp) e⟩
theorem ix_cup0 {st : Sto} {a b : Int} (e : st[j]? = some (.lst [W.d (.int a), W.d (.int b)])) : ixW st (.r j) (.d (.int 0)) = some (W.d (.int a)) := by
  show (match st[j]? with | some (.lst ws) => atI ws 0 | _ => none) = _
  rw [e]; rfl
theorem ix_cup1 {st : Sto} {a b : Int} (e : st[j]? = some (.lst [W.d (.int a), W.d (.int b)])) : ixW st (.r j) (.d (.int 1)) = some (W.d (.int b)) := by
  show (match st[j]? with | some (.lst ws) => atI ws 1 | _ => none) = _
  rw [e]; rfl
theorem put_cup0 {st : Sto} {a b : Int} {v : W} (e : st[j]? = some (.lst [W.d (.int a), W.d (.int b)])) : putIx st v (.r j) (.d (.int 0)) = some (st.set j (.lst [v, W.d (.int b)])) := by
  show (match st[j]? with | some (.lst ws) => (ixN ws.length 0).map fun n => st.set j (.lst (ws.set n v)) | _ => none) = _
  rw [e]; rfl
theorem put_cup1 {st : Sto} {a b : Int} {v : W} (e : st[j]? = some (.lst [W.d (.int a), W.d (.int b)])) : putIx st v (.r j) (.d (.int 1)) = some (st.set j (.lst [W.d (.int a), v])) := by
  show (match st[j]? with | some (.lst ws) => (ixN ws.length 1).map fun n => st.set j (.lst (ws.set n v)) | _ => none) = _
  rw [e]; rfl
section
variable {st : Sto} {Q : W → Sto → Prop} {E : Ex → Sto → Prop}
theorem roll_ok (ok : Ok T j st) {n : Int} (h0 : 0 < n) (h1 : n < 1073741824) (q : ∀ v st', 0 ≤ v → v < n → Ok T j st' → Q (W.d (.int v)) st') : wpM (f__law_roll [W.r j, W.d (.int n)]) st Q E := by
  obtain ⟨a, b, e⟩ := ok.cup
  have hn : n ≠ 0 := by omega
  have hj : j < st.length := (List.getElem?_eq_some_iff.mp e).1
  unfold f__law_roll b__law_roll
  by_cases ha : 0 < a
  · simp [startE, N__law_roll, ix_cup0 e, ha, modD_int hn, fdivD_int (show n ≠ 0 ∧ n.natAbs < 1073741824 by omega), put_cup0 e]
    exact q _ _ (Int.fmod_nonneg_of_pos _ h0) (Int.fmod_lt_of_pos _ h0) (ok.set _ _)
  · obtain ⟨b', hb⟩ : ∃ b', (b * 31139 + 8231).fmod 2147483249 = b' := ⟨_, rfl⟩
    have r1 : 0 ≤ b' := by rw [← hb]; exact Int.fmod_nonneg_of_pos _ (by decide)
    have r2 : b' < 2147483249 := by rw [← hb]; exact Int.fmod_lt_of_pos _ (by decide)
    have e2 : (st.set j (.lst [W.d (.int a), W.d (.int b')]))[j]? = some (.lst [W.d (.int a), W.d (.int b')]) := by rw [List.getElem?_set_self hj]
    simp [startE, N__law_roll, ix_cup0 e, ha, ix_cup1 e, mulD_intR, put_cup1 e, modD_int, hb, ix_cup1 e2, mulD_intL (show -(2 ^ 64) < b' ∧ b' < 2 ^ 64 by omega), fdivD_int, modD_int hn]
    exact q _ _ (Int.fmod_nonneg_of_pos _ h0) (Int.fmod_lt_of_pos _ h0) (ok.set _ _)
theorem some_list (ok : Ok T j st) {ds : List PyData} (h0 : ds ≠ []) (h1 : ds.length < 1000000) (q : ∀ d st', d ∈ ds → Ok T j st' → Q (W.d d) st') : wpM (f__law_some [W.r j, W.d (.list ds)]) st Q E := by
  unfold f__law_some b__law_some
  have hl : 0 < ds.length := List.length_pos_iff.mpr h0
  simp [startE, N__law_some]
  refine roll_ok ok (by omega) (by omega) fun v st' v0 v1 ok' => ?_
  obtain ⟨i, rfl⟩ := Int.eq_ofNat_of_zero_le v0
  have hi : i < ds.length := by omega
  have e : atI ds (i : Int) = some ds[i] := by rw [Ev.atI_nat]; exact List.getElem?_eq_getElem hi
  simp [e]
  exact q _ _ (List.getElem_mem hi) ok'
theorem some_str (ok : Ok T j st) {z : Str} (h0 : 0 < z.length) (h1 : z.length < 1000000) (q : ∀ c st', c ∈ z.cps.toList → Ok T j st' → Q (W.d (.str ⟨#[c]⟩)) st') : wpM (f__law_some [W.r j, W.d (.str z)]) st Q E := by
  unfold f__law_some b__law_some
  have hz : z.length ≤ sizeLine := by rw [sizeLine_eq]; omega
  simp [startE, N__law_some, lenW_str hz]
  refine roll_ok ok (by omega) (by omega) fun v st' v0 v1 ok' => ?_
  obtain ⟨i, rfl⟩ := Int.eq_ofNat_of_zero_le v0
  have hl : z.cps.toList.length = z.length := Array.length_toList
  have hi : i < z.cps.toList.length := by omega
  have e : atI z.cps.toList (i : Int) = some z.cps.toList[i] := by rw [Ev.atI_nat]; exact List.getElem?_eq_getElem hi
  simp only [ixW_d, ixD_str hz, e]
  exact q _ _ (List.getElem_mem hi) ok'
end
section
variable {st : Sto} {Q : W → Sto → Prop} {E : Ex → Sto → Prop}
theorem pow18 : powD (.int 10) (.int 18) = some (.int 1000000000000000000) := by kernel_rfl
theorem cup_ok {ns : List Int} (hn : ns.length ≤ 63) (q : ∀ a b, Q (.r st.length) (st ++ [.lst [W.d (.int a), W.d (.int b)]])) : wpM (f__law_cup ns) st Q E := by
  obtain ⟨c, r, hr, e⟩ : ∃ (c : Int) (r : List PyData), r.length ≤ 63 ∧ addD (.list (ns.map PyData.int)) (.list [.int 0]) = some (.list (.int c :: r)) := by
    cases ns with
    | nil => exact ⟨0, [], by simp, addD_lst (by rw [sizeLine_eq]; simp)⟩
    | cons c r =>
      rw [List.length_cons] at hn
      refine ⟨c, r.map PyData.int ++ [.int 0], by simp; omega, addD_lst (by rw [sizeLine_eq]; simp; omega)⟩
  unfold f__law_cup b__law_cup
  obtain ⟨a, ha⟩ : ∃ a : Int, (if c < 0 then -c else c) = a := ⟨_, rfl⟩
  by_cases hb : (1000000000000000000 : Int) ≤ a
  · simp [N__law_cup, e, pow18, ha, hb, fdivD_int, mulD_intR, modD_int]
    exact q _ _
  · simp [N__law_cup, e, pow18, ha, hb, fdivD_int, mulD_intR, modD_int]
    exact q _ _
end
end PK
end
section
set_option Elab.async false
set_option linter.all false
set_option maxRecDepth 100000
set_option maxHeartbeats 600000
set_option autoImplicit false
namespace PK
open PySem PySem.Spec PyProof.Rows L2 Ev
/-! ## plain data: no truth values, no tables -/
def pl : Nat → PyData → Bool
  | _, .none => true
  | _, .int _ => true
  | _, .str x => PyData.strOk x
  | n + 1, .list xs => xs.all (pl n)
  | n + 1, .tuple xs => xs.all (pl n)
  | _, _ => false
theorem pl_tup {n : Nat} {xs : List PyData} : pl (n + 1) (.tuple xs) = xs.all (pl n) := rfl
theorem pl_up : ∀ (n : Nat) (d : PyData), pl n d = true → pl (n + 1) d = true
  | 0, d, h => by cases d <;> first | rfl | exact h | cases h
  | n + 1, d, h => by
    cases d with
    | list xs => exact List.all_eq_true.mpr fun x hx => pl_up n x (List.all_eq_true.mp h x hx)
    | tuple xs => exact List.all_eq_true.mpr fun x hx => pl_up n x (List.all_eq_true.mp h x hx)
    | bool b => cases h
    | dict b => cases h
    | _ => exact h
theorem pl_le {n m : Nat} (h : n ≤ m) {d : PyData} (hd : pl n d = true) : pl m d = true := by
  induction h with
  | refl => exact hd
  | step _ ih => exact pl_up _ _ ih
theorem lay_all : ∀ (xs : List PyData), (∀ x ∈ xs, PyData.canLay0 x = true) → PyData.canLayAll0 xs = true
  | [], _ => by simp [PyData.canLayAll0]
  | x :: xs, h => by
    simp only [PyData.canLayAll0, Bool.and_eq_true]
    exact ⟨h x List.mem_cons_self, lay_all xs fun y hy => h y (List.mem_cons_of_mem _ hy)⟩
theorem depth_all (n : Nat) : ∀ (xs : List PyData), (∀ x ∈ xs, PyData.depth x ≤ n) → PyData.depthAll xs ≤ n
  | [], _ => by simp [PyData.depthAll]
  | x :: xs, h => by
    simp only [PyData.depthAll]
    have h1 := h x List.mem_cons_self
    have h2 := depth_all n xs fun y hy => h y (List.mem_cons_of_mem _ hy)
    omega
theorem pl_lay : ∀ (n : Nat) (d : PyData), pl n d = true → PyData.canLay0 d = true ∧ PyData.depth d ≤ n
  | 0, d, h => by
    cases d with
    | str x => exact ⟨by simp only [PyData.canLay0]; exact h, by simp [PyData.depth]⟩
    | none => simp [PyData.canLay0, PyData.depth]
    | int i => simp [PyData.canLay0, PyData.depth]
    | _ => cases h
  | n + 1, d, h => by
    cases d with
    | str x => exact ⟨by simp only [PyData.canLay0]; exact h, by simp [PyData.depth]⟩
    | none => simp [PyData.canLay0, PyData.depth]
    | int i => simp [PyData.canLay0, PyData.depth]
    | list xs =>
      have h' := fun x hx => pl_lay n x (List.all_eq_true.mp h x hx)
      simp only [PyData.canLay0, PyData.depth]
      have := depth_all n xs fun x hx => (h' x hx).2
      exact ⟨lay_all xs fun x hx => (h' x hx).1, by omega⟩
    | tuple xs =>
      have h' := fun x hx => pl_lay n x (List.all_eq_true.mp h x hx)
      simp only [PyData.canLay0, PyData.depth]
      have := depth_all n xs fun x hx => (h' x hx).2
      exact ⟨lay_all xs fun x hx => (h' x hx).1, by omega⟩
    | bool b => cases h
    | dict b => cases h
theorem pl_shaped {n : Nat} (hn : n ≤ 20) {d : PyData} (h : pl n d = true) : SeqAt.shaped d = true := by
  obtain ⟨h1, h2⟩ := pl_lay n d h
  unfold SeqAt.shaped
  rw [h1, decide_eq_true (by omega : d.depth ≤ 64)]; rfl
mutual
theorem eqv_eq : ∀ (a b : PyData), (∃ n, pl n a = true) → (∃ n, pl n b = true) → PyData.eqv a b = true → a = b
  | .none, b, _, hb, e => by cases b <;> first | rfl | (simp [PyData.eqv] at e; done)
  | .bool a, b, ⟨n, ha⟩, _, _ => by cases n <;> cases ha
  | .int i, b, _, ⟨n, hb⟩, e => by
    cases b with
    | int j => simp [PyData.eqv] at e; rw [e]
    | bool j => cases n <;> cases hb
    | _ => simp [PyData.eqv] at e
  | .str x, b, _, hb, e => by
    cases b with
    | str y => simp [PyData.eqv] at e; rw [e]
    | _ => simp [PyData.eqv] at e
  | .list xs, b, ⟨n, ha⟩, ⟨m, hb⟩, e => by
    cases b with
    | list ys =>
      simp [PyData.eqv] at e
      cases n with
      | zero => cases ha
      | succ n => cases m with
        | zero => cases hb
        | succ m => rw [eqvs_eq xs ys ⟨n, List.all_eq_true.mp ha⟩ ⟨m, List.all_eq_true.mp hb⟩ e]
    | _ => simp [PyData.eqv] at e
  | .tuple xs, b, ⟨n, ha⟩, ⟨m, hb⟩, e => by
    cases b with
    | tuple ys =>
      simp [PyData.eqv] at e
      cases n with
      | zero => cases ha
      | succ n => cases m with
        | zero => cases hb
        | succ m => rw [eqvs_eq xs ys ⟨n, List.all_eq_true.mp ha⟩ ⟨m, List.all_eq_true.mp hb⟩ e]
    | _ => simp [PyData.eqv] at e
  | .dict a, b, ⟨n, ha⟩, _, _ => by cases n <;> cases ha
theorem eqvs_eq : ∀ (xs ys : List PyData), (∃ n, ∀ x ∈ xs, pl n x = true) → (∃ n, ∀ y ∈ ys, pl n y = true) → PyData.eqvAll xs ys = true → xs = ys
  | [], ys, _, _, e => by cases ys <;> first | rfl | (simp [PyData.eqvAll] at e; done)
  | x :: xs, ys, ⟨n, ha⟩, ⟨m, hb⟩, e => by
    cases ys with
    | nil => simp [PyData.eqvAll] at e
    | cons y ys =>
      simp only [PyData.eqvAll, Bool.and_eq_true] at e
      rw [eqv_eq x y ⟨n, ha x List.mem_cons_self⟩ ⟨m, hb y List.mem_cons_self⟩ e.1, eqvs_eq xs ys ⟨n, fun z hz => ha z (List.mem_cons_of_mem _ hz)⟩ ⟨m, fun z hz => hb z (List.mem_cons_of_mem _ hz)⟩ e.2]
end
mutual
theorem eqv_refl : ∀ (a : PyData), (∃ n, pl n a = true) → PyData.eqv a a = true
  | .none, _ => by simp [PyData.eqv]
  | .bool a, _ => by simp [PyData.eqv]
  | .int i, _ => by simp [PyData.eqv]
  | .str x, _ => by simp [PyData.eqv]
  | .list xs, ⟨n, ha⟩ => by
    cases n with
    | zero => cases ha
    | succ n => simp only [PyData.eqv]; exact eqvs_refl xs ⟨n, List.all_eq_true.mp ha⟩
  | .tuple xs, ⟨n, ha⟩ => by
    cases n with
    | zero => cases ha
    | succ n => simp only [PyData.eqv]; exact eqvs_refl xs ⟨n, List.all_eq_true.mp ha⟩
  | .dict a, ⟨n, ha⟩ => by cases n <;> cases ha
theorem eqvs_refl : ∀ (xs : List PyData), (∃ n, ∀ x ∈ xs, pl n x = true) → PyData.eqvAll xs xs = true
  | [], _ => by simp [PyData.eqvAll]
  | x :: xs, ⟨n, ha⟩ => by
    simp only [PyData.eqvAll, Bool.and_eq_true]
    exact ⟨eqv_refl x ⟨n, ha x List.mem_cons_self⟩, eqvs_refl xs ⟨n, fun z hz => ha z (List.mem_cons_of_mem _ hz)⟩⟩
end
/-- what is written as plain data -/
class Py (α : Type) where
  py : α → PyData
  n : Nat
  ok : ∀ a, pl n (py a) = true
  inj : ∀ a b, py a = py b → a = b
open Py (py)
theorem eqv_py {α : Type} [Py α] [DecidableEq α] (a b : α) : PyData.eqv (py a) (py b) = decide (a = b) := by
  by_cases h : a = b
  · subst h; rw [eqv_refl _ ⟨_, Py.ok a⟩]; simp
  · have : ¬ PyData.eqv (py a) (py b) = true := fun e => h (Py.inj a b (eqv_eq _ _ ⟨_, Py.ok a⟩ ⟨_, Py.ok b⟩ e))
    simp [h, this]
theorem eqD_pl {n m : Nat} (hn : n ≤ 20) (hm : m ≤ 20) {a b : PyData} (ha : pl n a = true) (hb : pl m b = true) : eqD a b = some (.bool (PyData.eqv a b)) := eqD_of (pl_shaped hn ha) (pl_shaped hm hb)
theorem eqD_py {α : Type} [Py α] [DecidableEq α] (hn : Py.n α ≤ 20) (a b : α) : eqD (py a) (py b) = some (.bool (decide (a = b))) := by
  rw [eqD_pl hn hn (Py.ok a) (Py.ok b), eqv_py]
theorem neD_py {α : Type} [Py α] [DecidableEq α] (hn : Py.n α ≤ 20) (a b : α) : neD (py a) (py b) = some (.bool (!decide (a = b))) := by
  rw [neD_of (pl_shaped hn (Py.ok a)) (pl_shaped hn (Py.ok b)), eqv_py]
theorem any_py {α : Type} [Py α] [DecidableEq α] (a : α) (l : List α) : ((l.map py).any fun z => PyData.eqv z (py a)) = decide (a ∈ l) := by
  induction l with
  | nil => simp
  | cons b l ih =>
    rw [List.map_cons, List.any_cons, ih, eqv_py]
    by_cases h : b = a
    · subst h; simp
    · have h' : ¬ a = b := fun e => h e.symm
      rw [decide_eq_false h, Bool.false_or]
      congr 1
      simp only [List.mem_cons, h', false_or]
theorem inB_tup {α : Type} [Py α] [DecidableEq α] (hn : Py.n α ≤ 19) (a : α) (l : List α) : inB (py a) (.tuple (l.map py)) = some (decide (a ∈ l)) := by
  have h1 : SeqAt.shaped (.tuple (l.map py)) = true := pl_shaped (n := Py.n α + 1) (by omega) (List.all_eq_true.mpr fun x hx => by obtain ⟨b, _, rfl⟩ := List.mem_map.mp hx; exact Py.ok b)
  have h2 : SeqAt.shaped (py a) = true := pl_shaped (by omega) (Py.ok a)
  exact (if_pos ⟨h2, h1⟩).trans (by rw [any_py])
theorem inB_lst {α : Type} [Py α] [DecidableEq α] (hn : Py.n α ≤ 19) (a : α) (l : List α) : inB (py a) (.list (l.map py)) = some (decide (a ∈ l)) := by
  have h1 : SeqAt.shaped (.list (l.map py)) = true := pl_shaped (n := Py.n α + 1) (by omega) (List.all_eq_true.mpr fun x hx => by obtain ⟨b, _, rfl⟩ := List.mem_map.mp hx; exact Py.ok b)
  have h2 : SeqAt.shaped (py a) = true := pl_shaped (by omega) (Py.ok a)
  exact (if_pos ⟨h2, h1⟩).trans (by rw [any_py])
theorem inD_tup {α : Type} [Py α] [DecidableEq α] (hn : Py.n α ≤ 19) (a : α) (l : List α) : inD (py a) (.tuple (l.map py)) = some (.bool (decide (a ∈ l))) := by unfold inD; rw [inB_tup hn]; rfl
theorem notInD_tup {α : Type} [Py α] [DecidableEq α] (hn : Py.n α ≤ 19) (a : α) (l : List α) : notInD (py a) (.tuple (l.map py)) = some (.bool (!decide (a ∈ l))) := by unfold notInD; rw [inB_tup hn]; rfl
theorem inD_lst {α : Type} [Py α] [DecidableEq α] (hn : Py.n α ≤ 19) (a : α) (l : List α) : inD (py a) (.list (l.map py)) = some (.bool (decide (a ∈ l))) := by unfold inD; rw [inB_lst hn]; rfl
theorem notInD_lst {α : Type} [Py α] [DecidableEq α] (hn : Py.n α ≤ 19) (a : α) (l : List α) : notInD (py a) (.list (l.map py)) = some (.bool (!decide (a ∈ l))) := by unfold notInD; rw [inB_lst hn]; rfl
/-! ## words, values, deeds -/
structure Wd where
  s : Str
  ok : fitsText s = true
  deriving DecidableEq
theorem Wd.ext {a b : Wd} (h : a.1 = b.1) : a = b := by cases a; cases b; cases h; rfl
instance : Py Wd := ⟨fun z => .str z.1, 0, fun z => strOk_of z.2, fun a b h => Wd.ext (by injection h)⟩
instance pyInt : Py Int := ⟨fun i => .int i, 0, fun _ => rfl, fun a b h => by injection h⟩
structure Va where
  i : Int
  ok : -99 ≤ i ∧ i ≤ 99
  deriving DecidableEq
theorem Va.ext {a b : Va} (h : a.1 = b.1) : a = b := by cases a; cases b; cases h; rfl
instance : Py Va := ⟨fun i => .int i.1, 0, fun _ => rfl, fun a b h => Va.ext (by injection h)⟩
instance {α β : Type} [Py α] [Py β] : Py (α × β) where
  py p := .tuple [py p.1, py p.2]
  n := max (Py.n α) (Py.n β) + 1
  ok p := by
    show ([py p.1, py p.2].all (pl _)) = true
    simp only [List.all_cons, List.all_nil, Bool.and_true, Bool.and_eq_true]
    exact ⟨pl_le (Nat.le_max_left _ _) (Py.ok p.1), pl_le (Nat.le_max_right _ _) (Py.ok p.2)⟩
  inj a b h := by
    injection h with h
    injection h with h1 h
    injection h with h2 _
    exact Prod.ext (Py.inj _ _ h1) (Py.inj _ _ h2)
theorem map_inj {α : Type} [Py α] : ∀ (a b : List α), a.map py = b.map py → a = b
  | [], [], _ => rfl
  | [], _ :: _, h => by cases h
  | _ :: _, [], h => by cases h
  | x :: a, y :: b, h => by
    injection h with h1 h2
    rw [Py.inj _ _ h1, map_inj a b h2]
instance pyList {α : Type} [Py α] : Py (List α) where
  py l := .tuple (l.map py)
  n := Py.n α + 1
  ok l := List.all_eq_true.mpr fun x hx => by obtain ⟨b, _, rfl⟩ := List.mem_map.mp hx; exact Py.ok b
  inj a b h := by injection h with h; exact map_inj a b h
theorem py_wd (z : Wd) : py z = .str z.1 := rfl
theorem py_va (z : Va) : py z = .int z.1 := rfl
theorem py_pair {α β : Type} [Py α] [Py β] (a : α) (b : β) : py (a, b) = .tuple [py a, py b] := rfl
theorem py_list {α : Type} [Py α] (l : List α) : py l = .tuple (l.map py) := rfl
inductive De where
  | rd (x : Wd) (i : Va)
  | wr (x : Wd) (i : Va)
  | sd (x : Wd) (i : Va)
  | gt (x : Wd) (i : Va)
  | tk (x : Wd)
  | gv (x : Wd)
  | bg (x : Wd)
  | aw (x : Wd)
  | wn (x : Wd)
  | wk (x : Wd)
  | wt (c l : Wd)
  | nd
  deriving DecidableEq
def De.py : De → PyData
  | .rd x i => .tuple [.str ("read" : Str), .str x.1, .int i.1]
  | .wr x i => .tuple [.str ("write" : Str), .str x.1, .int i.1]
  | .sd x i => .tuple [.str ("send" : Str), .str x.1, .int i.1]
  | .gt x i => .tuple [.str ("get" : Str), .str x.1, .int i.1]
  | .tk x => .tuple [.str ("take" : Str), .str x.1]
  | .gv x => .tuple [.str ("give" : Str), .str x.1]
  | .bg x => .tuple [.str ("begin" : Str), .str x.1]
  | .aw x => .tuple [.str ("await" : Str), .str x.1]
  | .wn x => .tuple [.str ("woken" : Str), .str x.1]
  | .wk x => .tuple [.str ("wake" : Str), .str x.1]
  | .wt c l => .tuple [.str ("wait" : Str), .str c.1, .str l.1]
  | .nd => .tuple [.str ("end" : Str)]
def De.wd : De → Str
  | .rd .. => "read" | .wr .. => "write" | .sd .. => "send" | .gt .. => "get" | .tk .. => "take" | .gv .. => "give" | .bg .. => "begin" | .aw .. => "await" | .wn .. => "woken" | .wk .. => "wake" | .wt .. => "wait" | .nd => "end"
def De.ix : De → Nat
  | .rd .. => 0 | .wr .. => 1 | .sd .. => 2 | .gt .. => 3 | .tk .. => 4 | .gv .. => 5 | .bg .. => 6 | .aw .. => 7 | .wn .. => 8 | .wk .. => 9 | .wt .. => 10 | .nd => 11
def wdIx (z : Str) : Nat := (["read", "write", "send", "get", "take", "give", "begin", "await", "woken", "wake", "wait", "end"].map Str.ofString).findIdx (· = z)
theorem ix_wd (d : De) : wdIx d.wd = d.ix := by cases d <;> simp only [De.wd, De.ix] <;> decide +kernel
def De.args : De → List PyData
  | .rd x i => [.str x.1, .int i.1]
  | .wr x i => [.str x.1, .int i.1]
  | .sd x i => [.str x.1, .int i.1]
  | .gt x i => [.str x.1, .int i.1]
  | .tk x => [.str x.1]
  | .gv x => [.str x.1]
  | .bg x => [.str x.1]
  | .aw x => [.str x.1]
  | .wn x => [.str x.1]
  | .wk x => [.str x.1]
  | .wt c l => [.str c.1, .str l.1]
  | .nd => []
theorem De.py_eq (d : De) : d.py = .tuple (.str d.wd :: d.args) := by cases d <;> rfl
theorem De.inj (a b : De) (h : a.py = b.py) : a = b := by
  rw [De.py_eq, De.py_eq] at h
  injection h with h
  injection h with h1 h2
  injection h1 with h1
  have hx : a.ix = b.ix := by rw [← ix_wd, ← ix_wd, h1]
  cases a <;> cases b <;> first
    | (exfalso; revert hx; simp only [De.ix]; decide)
    | skip
  all_goals simp only [De.args, List.cons.injEq, PyData.str.injEq, PyData.int.injEq, and_true] at h2
  all_goals first
    | rfl
    | (obtain ⟨e1, e2⟩ := h2; rw [Wd.ext e1, Va.ext e2])
    | (obtain ⟨e1, e2⟩ := h2; rw [Wd.ext e1, Wd.ext e2])
    | rw [Wd.ext h2]
theorem wd_ok (d : De) : PyData.strOk d.wd = true := by cases d <;> simp only [De.wd] <;> decide +kernel
instance : Py De := ⟨De.py, 1, fun d => by
  rw [De.py_eq]
  show (PyData.str d.wd :: d.args).all (pl 0) = true
  rw [List.all_cons, Bool.and_eq_true]
  refine ⟨wd_ok d, ?_⟩
  have hw : ∀ z : Wd, pl 0 (.str z.1) = true := fun z => strOk_of z.2
  have hi : ∀ i : Int, pl 0 (.int i) = true := fun _ => rfl
  cases d <;> simp only [De.args, List.all_cons, List.all_nil, hw, hi, Bool.and_true], De.inj⟩
theorem py_de (d : De) : py d = d.py := rfl
theorem De.deed (d : De) : Deed d.py := by
  cases d with
  | rd x i => exact .val (by simp [valN]) x.2 i.2.1 i.2.2
  | wr x i => exact .val (by simp [valN]) x.2 i.2.1 i.2.2
  | sd x i => exact .val (by simp [valN]) x.2 i.2.1 i.2.2
  | gt x i => exact .val (by simp [valN]) x.2 i.2.1 i.2.2
  | tk x => exact .one (by simp [oneN]) x.2
  | gv x => exact .one (by simp [oneN]) x.2
  | bg x => exact .one (by simp [oneN]) x.2
  | aw x => exact .one (by simp [oneN]) x.2
  | wn x => exact .one (by simp [oneN]) x.2
  | wk x => exact .one (by simp [oneN]) x.2
  | wt c l => exact .wait c.2 l.2
  | nd => exact .end_
end PK
end
section
set_option Elab.async false
set_option linter.all false
set_option maxRecDepth 100000
set_option maxHeartbeats 600000
set_option autoImplicit false
namespace PK
open PySem PySem.Spec PyProof.Rows L2 Ev
open Py (py)
@[simp] theorem eqw_read_read : eqD (.str ("read" : Str)) (.str ("read" : Str)) = some (.bool true) := by kernel_rfl
@[simp] theorem eqw_read_write : eqD (.str ("read" : Str)) (.str ("write" : Str)) = some (.bool false) := by kernel_rfl
@[simp] theorem eqw_read_send : eqD (.str ("read" : Str)) (.str ("send" : Str)) = some (.bool false) := by kernel_rfl
@[simp] theorem eqw_read_get : eqD (.str ("read" : Str)) (.str ("get" : Str)) = some (.bool false) := by kernel_rfl
@[simp] theorem eqw_read_take : eqD (.str ("read" : Str)) (.str ("take" : Str)) = some (.bool false) := by kernel_rfl
@[simp] theorem eqw_read_give : eqD (.str ("read" : Str)) (.str ("give" : Str)) = some (.bool false) := by kernel_rfl
@[simp] theorem eqw_read_begin : eqD (.str ("read" : Str)) (.str ("begin" : Str)) = some (.bool false) := by kernel_rfl
@[simp] theorem eqw_read_await : eqD (.str ("read" : Str)) (.str ("await" : Str)) = some (.bool false) := by kernel_rfl
@[simp] theorem eqw_read_woken : eqD (.str ("read" : Str)) (.str ("woken" : Str)) = some (.bool false) := by kernel_rfl
@[simp] theorem eqw_read_wake : eqD (.str ("read" : Str)) (.str ("wake" : Str)) = some (.bool false) := by kernel_rfl
@[simp] theorem eqw_read_wait : eqD (.str ("read" : Str)) (.str ("wait" : Str)) = some (.bool false) := by kernel_rfl
@[simp] theorem eqw_read_end : eqD (.str ("read" : Str)) (.str ("end" : Str)) = some (.bool false) := by kernel_rfl
@[simp] theorem eqw_read_ : eqD (.str ("read" : Str)) (.str ("" : Str)) = some (.bool false) := by kernel_rfl
@[simp] theorem eqw_read_root : eqD (.str ("read" : Str)) (.str ("root" : Str)) = some (.bool false) := by kernel_rfl
@[simp] theorem eqw_write_read : eqD (.str ("write" : Str)) (.str ("read" : Str)) = some (.bool false) := by kernel_rfl
@[simp] theorem eqw_write_write : eqD (.str ("write" : Str)) (.str ("write" : Str)) = some (.bool true) := by kernel_rfl
@[simp] theorem eqw_write_send : eqD (.str ("write" : Str)) (.str ("send" : Str)) = some (.bool false) := by kernel_rfl
@[simp] theorem eqw_write_get : eqD (.str ("write" : Str)) (.str ("get" : Str)) = some (.bool false) := by kernel_rfl
@[simp] theorem eqw_write_take : eqD (.str ("write" : Str)) (.str ("take" : Str)) = some (.bool false) := by kernel_rfl
@[simp] theorem eqw_write_give : eqD (.str ("write" : Str)) (.str ("give" : Str)) = some (.bool false) := by kernel_rfl
@[simp] theorem eqw_write_begin : eqD (.str ("write" : Str)) (.str ("begin" : Str)) = some (.bool false) := by kernel_rfl
@[simp] theorem eqw_write_await : eqD (.str ("write" : Str)) (.str ("await" : Str)) = some (.bool false) := by kernel_rfl
@[simp] theorem eqw_write_woken : eqD (.str ("write" : Str)) (.str ("woken" : Str)) = some (.bool false) := by kernel_rfl
@[simp] theorem eqw_write_wake : eqD (.str ("write" : Str)) (.str ("wake" : Str)) = some (.bool false) := by kernel_rfl
@[simp] theorem eqw_write_wait : eqD (.str ("write" : Str)) (.str ("wait" : Str)) = some (.bool false) := by kernel_rfl
@[simp] theorem eqw_write_end : eqD (.str ("write" : Str)) (.str ("end" : Str)) = some (.bool false) := by kernel_rfl
@[simp] theorem eqw_write_ : eqD (.str ("write" : Str)) (.str ("" : Str)) = some (.bool false) := by kernel_rfl
@[simp] theorem eqw_write_root : eqD (.str ("write" : Str)) (.str ("root" : Str)) = some (.bool false) := by kernel_rfl
@[simp] theorem eqw_send_read : eqD (.str ("send" : Str)) (.str ("read" : Str)) = some (.bool false) := by kernel_rfl
@[simp] theorem eqw_send_write : eqD (.str ("send" : Str)) (.str ("write" : Str)) = some (.bool false) := by kernel_rfl
@[simp] theorem eqw_send_send : eqD (.str ("send" : Str)) (.str ("send" : Str)) = some (.bool true) := by kernel_rfl
@[simp] theorem eqw_send_get : eqD (.str ("send" : Str)) (.str ("get" : Str)) = some (.bool false) := by kernel_rfl
@[simp] theorem eqw_send_take : eqD (.str ("send" : Str)) (.str ("take" : Str)) = some (.bool false) := by kernel_rfl
@[simp] theorem eqw_send_give : eqD (.str ("send" : Str)) (.str ("give" : Str)) = some (.bool false) := by kernel_rfl
@[simp] theorem eqw_send_begin : eqD (.str ("send" : Str)) (.str ("begin" : Str)) = some (.bool false) := by kernel_rfl
@[simp] theorem eqw_send_await : eqD (.str ("send" : Str)) (.str ("await" : Str)) = some (.bool false) := by kernel_rfl
@[simp] theorem eqw_send_woken : eqD (.str ("send" : Str)) (.str ("woken" : Str)) = some (.bool false) := by kernel_rfl
@[simp] theorem eqw_send_wake : eqD (.str ("send" : Str)) (.str ("wake" : Str)) = some (.bool false) := by kernel_rfl
@[simp] theorem eqw_send_wait : eqD (.str ("send" : Str)) (.str ("wait" : Str)) = some (.bool false) := by kernel_rfl
@[simp] theorem eqw_send_end : eqD (.str ("send" : Str)) (.str ("end" : Str)) = some (.bool false) := by kernel_rfl
@[simp] theorem eqw_send_ : eqD (.str ("send" : Str)) (.str ("" : Str)) = some (.bool false) := by kernel_rfl
@[simp] theorem eqw_send_root : eqD (.str ("send" : Str)) (.str ("root" : Str)) = some (.bool false) := by kernel_rfl
@[simp] theorem eqw_get_read : eqD (.str ("get" : Str)) (.str ("read" : Str)) = some (.bool false) := by kernel_rfl
@[simp] theorem eqw_get_write : eqD (.str ("get" : Str)) (.str ("write" : Str)) = some (.bool false) := by kernel_rfl
@[simp] theorem eqw_get_send : eqD (.str ("get" : Str)) (.str ("send" : Str)) = some (.bool false) := by kernel_rfl
@[simp] theorem eqw_get_get : eqD (.str ("get" : Str)) (.str ("get" : Str)) = some (.bool true) := by kernel_rfl
@[simp] theorem eqw_get_take : eqD (.str ("get" : Str)) (.str ("take" : Str)) = some (.bool false) := by kernel_rfl
@[simp] theorem eqw_get_give : eqD (.str ("get" : Str)) (.str ("give" : Str)) = some (.bool false) := by kernel_rfl
@[simp] theorem eqw_get_begin : eqD (.str ("get" : Str)) (.str ("begin" : Str)) = some (.bool false) := by kernel_rfl
@[simp] theorem eqw_get_await : eqD (.str ("get" : Str)) (.str ("await" : Str)) = some (.bool false) := by kernel_rfl
@[simp] theorem eqw_get_woken : eqD (.str ("get" : Str)) (.str ("woken" : Str)) = some (.bool false) := by kernel_rfl
@[simp] theorem eqw_get_wake : eqD (.str ("get" : Str)) (.str ("wake" : Str)) = some (.bool false) := by kernel_rfl
@[simp] theorem eqw_get_wait : eqD (.str ("get" : Str)) (.str ("wait" : Str)) = some (.bool false) := by kernel_rfl
@[simp] theorem eqw_get_end : eqD (.str ("get" : Str)) (.str ("end" : Str)) = some (.bool false) := by kernel_rfl
@[simp] theorem eqw_get_ : eqD (.str ("get" : Str)) (.str ("" : Str)) = some (.bool false) := by kernel_rfl
@[simp] theorem eqw_get_root : eqD (.str ("get" : Str)) (.str ("root" : Str)) = some (.bool false) := by kernel_rfl
@[simp] theorem eqw_take_read : eqD (.str ("take" : Str)) (.str ("read" : Str)) = some (.bool false) := by kernel_rfl
@[simp] theorem eqw_take_write : eqD (.str ("take" : Str)) (.str ("write" : Str)) = some (.bool false) := by kernel_rfl
@[simp] theorem eqw_take_send : eqD (.str ("take" : Str)) (.str ("send" : Str)) = some (.bool false) := by kernel_rfl
@[simp] theorem eqw_take_get : eqD (.str ("take" : Str)) (.str ("get" : Str)) = some (.bool false) := by kernel_rfl
@[simp] theorem eqw_take_take : eqD (.str ("take" : Str)) (.str ("take" : Str)) = some (.bool true) := by kernel_rfl
@[simp] theorem eqw_take_give : eqD (.str ("take" : Str)) (.str ("give" : Str)) = some (.bool false) := by kernel_rfl
@[simp] theorem eqw_take_begin : eqD (.str ("take" : Str)) (.str ("begin" : Str)) = some (.bool false) := by kernel_rfl
@[simp] theorem eqw_take_await : eqD (.str ("take" : Str)) (.str ("await" : Str)) = some (.bool false) := by kernel_rfl
@[simp] theorem eqw_take_woken : eqD (.str ("take" : Str)) (.str ("woken" : Str)) = some (.bool false) := by kernel_rfl
@[simp] theorem eqw_take_wake : eqD (.str ("take" : Str)) (.str ("wake" : Str)) = some (.bool false) := by kernel_rfl
@[simp] theorem eqw_take_wait : eqD (.str ("take" : Str)) (.str ("wait" : Str)) = some (.bool false) := by kernel_rfl
@[simp] theorem eqw_take_end : eqD (.str ("take" : Str)) (.str ("end" : Str)) = some (.bool false) := by kernel_rfl
@[simp] theorem eqw_take_ : eqD (.str ("take" : Str)) (.str ("" : Str)) = some (.bool false) := by kernel_rfl
@[simp] theorem eqw_take_root : eqD (.str ("take" : Str)) (.str ("root" : Str)) = some (.bool false) := by kernel_rfl
@[simp] theorem eqw_give_read : eqD (.str ("give" : Str)) (.str ("read" : Str)) = some (.bool false) := by kernel_rfl
@[simp] theorem eqw_give_write : eqD (.str ("give" : Str)) (.str ("write" : Str)) = some (.bool false) := by kernel_rfl
@[simp] theorem eqw_give_send : eqD (.str ("give" : Str)) (.str ("send" : Str)) = some (.bool false) := by kernel_rfl
@[simp] theorem eqw_give_get : eqD (.str ("give" : Str)) (.str ("get" : Str)) = some (.bool false) := by kernel_rfl
@[simp] theorem eqw_give_take : eqD (.str ("give" : Str)) (.str ("take" : Str)) = some (.bool false) := by kernel_rfl
@[simp] theorem eqw_give_give : eqD (.str ("give" : Str)) (.str ("give" : Str)) = some (.bool true) := by kernel_rfl
@[simp] theorem eqw_give_begin : eqD (.str ("give" : Str)) (.str ("begin" : Str)) = some (.bool false) := by kernel_rfl
@[simp] theorem eqw_give_await : eqD (.str ("give" : Str)) (.str ("await" : Str)) = some (.bool false) := by kernel_rfl
@[simp] theorem eqw_give_woken : eqD (.str ("give" : Str)) (.str ("woken" : Str)) = some (.bool false) := by kernel_rfl
@[simp] theorem eqw_give_wake : eqD (.str ("give" : Str)) (.str ("wake" : Str)) = some (.bool false) := by kernel_rfl
@[simp] theorem eqw_give_wait : eqD (.str ("give" : Str)) (.str ("wait" : Str)) = some (.bool false) := by kernel_rfl
@[simp] theorem eqw_give_end : eqD (.str ("give" : Str)) (.str ("end" : Str)) = some (.bool false) := by kernel_rfl
@[simp] theorem eqw_give_ : eqD (.str ("give" : Str)) (.str ("" : Str)) = some (.bool false) := by kernel_rfl
@[simp] theorem eqw_give_root : eqD (.str ("give" : Str)) (.str ("root" : Str)) = some (.bool false) := by kernel_rfl
@[simp] theorem eqw_begin_read : eqD (.str ("begin" : Str)) (.str ("read" : Str)) = some (.bool false) := by kernel_rfl
@[simp] theorem eqw_begin_write : eqD (.str ("begin" : Str)) (.str ("write" : Str)) = some (.bool false) := by kernel_rfl
@[simp] theorem eqw_begin_send : eqD (.str ("begin" : Str)) (.str ("send" : Str)) = some (.bool false) := by kernel_rfl
@[simp] theorem eqw_begin_get : eqD (.str ("begin" : Str)) (.str ("get" : Str)) = some (.bool false) := by kernel_rfl
@[simp] theorem eqw_begin_take : eqD (.str ("begin" : Str)) (.str ("take" : Str)) = some (.bool false) := by kernel_rfl
@[simp] theorem eqw_begin_give : eqD (.str ("begin" : Str)) (.str ("give" : Str)) = some (.bool false) := by kernel_rfl
@[simp] theorem eqw_begin_begin : eqD (.str ("begin" : Str)) (.str ("begin" : Str)) = some (.bool true) := by kernel_rfl
@[simp] theorem eqw_begin_await : eqD (.str ("begin" : Str)) (.str ("await" : Str)) = some (.bool false) := by kernel_rfl
@[simp] theorem eqw_begin_woken : eqD (.str ("begin" : Str)) (.str ("woken" : Str)) = some (.bool false) := by kernel_rfl
@[simp] theorem eqw_begin_wake : eqD (.str ("begin" : Str)) (.str ("wake" : Str)) = some (.bool false) := by kernel_rfl
@[simp] theorem eqw_begin_wait : eqD (.str ("begin" : Str)) (.str ("wait" : Str)) = some (.bool false) := by kernel_rfl
@[simp] theorem eqw_begin_end : eqD (.str ("begin" : Str)) (.str ("end" : Str)) = some (.bool false) := by kernel_rfl
@[simp] theorem eqw_begin_ : eqD (.str ("begin" : Str)) (.str ("" : Str)) = some (.bool false) := by kernel_rfl
@[simp] theorem eqw_begin_root : eqD (.str ("begin" : Str)) (.str ("root" : Str)) = some (.bool false) := by kernel_rfl
@[simp] theorem eqw_await_read : eqD (.str ("await" : Str)) (.str ("read" : Str)) = some (.bool false) := by kernel_rfl
@[simp] theorem eqw_await_write : eqD (.str ("await" : Str)) (.str ("write" : Str)) = some (.bool false) := by kernel_rfl
@[simp] theorem eqw_await_send : eqD (.str ("await" : Str)) (.str ("send" : Str)) = some (.bool false) := by kernel_rfl
@[simp] theorem eqw_await_get : eqD (.str ("await" : Str)) (.str ("get" : Str)) = some (.bool false) := by kernel_rfl
@[simp] theorem eqw_await_take : eqD (.str ("await" : Str)) (.str ("take" : Str)) = some (.bool false) := by kernel_rfl
@[simp] theorem eqw_await_give : eqD (.str ("await" : Str)) (.str ("give" : Str)) = some (.bool false) := by kernel_rfl
@[simp] theorem eqw_await_begin : eqD (.str ("await" : Str)) (.str ("begin" : Str)) = some (.bool false) := by kernel_rfl
@[simp] theorem eqw_await_await : eqD (.str ("await" : Str)) (.str ("await" : Str)) = some (.bool true) := by kernel_rfl
@[simp] theorem eqw_await_woken : eqD (.str ("await" : Str)) (.str ("woken" : Str)) = some (.bool false) := by kernel_rfl
@[simp] theorem eqw_await_wake : eqD (.str ("await" : Str)) (.str ("wake" : Str)) = some (.bool false) := by kernel_rfl
@[simp] theorem eqw_await_wait : eqD (.str ("await" : Str)) (.str ("wait" : Str)) = some (.bool false) := by kernel_rfl
@[simp] theorem eqw_await_end : eqD (.str ("await" : Str)) (.str ("end" : Str)) = some (.bool false) := by kernel_rfl
@[simp] theorem eqw_await_ : eqD (.str ("await" : Str)) (.str ("" : Str)) = some (.bool false) := by kernel_rfl
@[simp] theorem eqw_await_root : eqD (.str ("await" : Str)) (.str ("root" : Str)) = some (.bool false) := by kernel_rfl
@[simp] theorem eqw_woken_read : eqD (.str ("woken" : Str)) (.str ("read" : Str)) = some (.bool false) := by kernel_rfl
@[simp] theorem eqw_woken_write : eqD (.str ("woken" : Str)) (.str ("write" : Str)) = some (.bool false) := by kernel_rfl
@[simp] theorem eqw_woken_send : eqD (.str ("woken" : Str)) (.str ("send" : Str)) = some (.bool false) := by kernel_rfl
@[simp] theorem eqw_woken_get : eqD (.str ("woken" : Str)) (.str ("get" : Str)) = some (.bool false) := by kernel_rfl
@[simp] theorem eqw_woken_take : eqD (.str ("woken" : Str)) (.str ("take" : Str)) = some (.bool false) := by kernel_rfl
@[simp] theorem eqw_woken_give : eqD (.str ("woken" : Str)) (.str ("give" : Str)) = some (.bool false) := by kernel_rfl
@[simp] theorem eqw_woken_begin : eqD (.str ("woken" : Str)) (.str ("begin" : Str)) = some (.bool false) := by kernel_rfl
@[simp] theorem eqw_woken_await : eqD (.str ("woken" : Str)) (.str ("await" : Str)) = some (.bool false) := by kernel_rfl
@[simp] theorem eqw_woken_woken : eqD (.str ("woken" : Str)) (.str ("woken" : Str)) = some (.bool true) := by kernel_rfl
@[simp] theorem eqw_woken_wake : eqD (.str ("woken" : Str)) (.str ("wake" : Str)) = some (.bool false) := by kernel_rfl
@[simp] theorem eqw_woken_wait : eqD (.str ("woken" : Str)) (.str ("wait" : Str)) = some (.bool false) := by kernel_rfl
@[simp] theorem eqw_woken_end : eqD (.str ("woken" : Str)) (.str ("end" : Str)) = some (.bool false) := by kernel_rfl
@[simp] theorem eqw_woken_ : eqD (.str ("woken" : Str)) (.str ("" : Str)) = some (.bool false) := by kernel_rfl
@[simp] theorem eqw_woken_root : eqD (.str ("woken" : Str)) (.str ("root" : Str)) = some (.bool false) := by kernel_rfl
@[simp] theorem eqw_wake_read : eqD (.str ("wake" : Str)) (.str ("read" : Str)) = some (.bool false) := by kernel_rfl
@[simp] theorem eqw_wake_write : eqD (.str ("wake" : Str)) (.str ("write" : Str)) = some (.bool false) := by kernel_rfl
@[simp] theorem eqw_wake_send : eqD (.str ("wake" : Str)) (.str ("send" : Str)) = some (.bool false) := by kernel_rfl
@[simp] theorem eqw_wake_get : eqD (.str ("wake" : Str)) (.str ("get" : Str)) = some (.bool false) := by kernel_rfl
@[simp] theorem eqw_wake_take : eqD (.str ("wake" : Str)) (.str ("take" : Str)) = some (.bool false) := by kernel_rfl
@[simp] theorem eqw_wake_give : eqD (.str ("wake" : Str)) (.str ("give" : Str)) = some (.bool false) := by kernel_rfl
@[simp] theorem eqw_wake_begin : eqD (.str ("wake" : Str)) (.str ("begin" : Str)) = some (.bool false) := by kernel_rfl
@[simp] theorem eqw_wake_await : eqD (.str ("wake" : Str)) (.str ("await" : Str)) = some (.bool false) := by kernel_rfl
@[simp] theorem eqw_wake_woken : eqD (.str ("wake" : Str)) (.str ("woken" : Str)) = some (.bool false) := by kernel_rfl
@[simp] theorem eqw_wake_wake : eqD (.str ("wake" : Str)) (.str ("wake" : Str)) = some (.bool true) := by kernel_rfl
@[simp] theorem eqw_wake_wait : eqD (.str ("wake" : Str)) (.str ("wait" : Str)) = some (.bool false) := by kernel_rfl
@[simp] theorem eqw_wake_end : eqD (.str ("wake" : Str)) (.str ("end" : Str)) = some (.bool false) := by kernel_rfl
@[simp] theorem eqw_wake_ : eqD (.str ("wake" : Str)) (.str ("" : Str)) = some (.bool false) := by kernel_rfl
@[simp] theorem eqw_wake_root : eqD (.str ("wake" : Str)) (.str ("root" : Str)) = some (.bool false) := by kernel_rfl
@[simp] theorem eqw_wait_read : eqD (.str ("wait" : Str)) (.str ("read" : Str)) = some (.bool false) := by kernel_rfl
@[simp] theorem eqw_wait_write : eqD (.str ("wait" : Str)) (.str ("write" : Str)) = some (.bool false) := by kernel_rfl
@[simp] theorem eqw_wait_send : eqD (.str ("wait" : Str)) (.str ("send" : Str)) = some (.bool false) := by kernel_rfl
@[simp] theorem eqw_wait_get : eqD (.str ("wait" : Str)) (.str ("get" : Str)) = some (.bool false) := by kernel_rfl
@[simp] theorem eqw_wait_take : eqD (.str ("wait" : Str)) (.str ("take" : Str)) = some (.bool false) := by kernel_rfl
@[simp] theorem eqw_wait_give : eqD (.str ("wait" : Str)) (.str ("give" : Str)) = some (.bool false) := by kernel_rfl
@[simp] theorem eqw_wait_begin : eqD (.str ("wait" : Str)) (.str ("begin" : Str)) = some (.bool false) := by kernel_rfl
@[simp] theorem eqw_wait_await : eqD (.str ("wait" : Str)) (.str ("await" : Str)) = some (.bool false) := by kernel_rfl
@[simp] theorem eqw_wait_woken : eqD (.str ("wait" : Str)) (.str ("woken" : Str)) = some (.bool false) := by kernel_rfl
@[simp] theorem eqw_wait_wake : eqD (.str ("wait" : Str)) (.str ("wake" : Str)) = some (.bool false) := by kernel_rfl
@[simp] theorem eqw_wait_wait : eqD (.str ("wait" : Str)) (.str ("wait" : Str)) = some (.bool true) := by kernel_rfl
@[simp] theorem eqw_wait_end : eqD (.str ("wait" : Str)) (.str ("end" : Str)) = some (.bool false) := by kernel_rfl
@[simp] theorem eqw_wait_ : eqD (.str ("wait" : Str)) (.str ("" : Str)) = some (.bool false) := by kernel_rfl
@[simp] theorem eqw_wait_root : eqD (.str ("wait" : Str)) (.str ("root" : Str)) = some (.bool false) := by kernel_rfl
@[simp] theorem eqw_end_read : eqD (.str ("end" : Str)) (.str ("read" : Str)) = some (.bool false) := by kernel_rfl
@[simp] theorem eqw_end_write : eqD (.str ("end" : Str)) (.str ("write" : Str)) = some (.bool false) := by kernel_rfl
@[simp] theorem eqw_end_send : eqD (.str ("end" : Str)) (.str ("send" : Str)) = some (.bool false) := by kernel_rfl
@[simp] theorem eqw_end_get : eqD (.str ("end" : Str)) (.str ("get" : Str)) = some (.bool false) := by kernel_rfl
@[simp] theorem eqw_end_take : eqD (.str ("end" : Str)) (.str ("take" : Str)) = some (.bool false) := by kernel_rfl
@[simp] theorem eqw_end_give : eqD (.str ("end" : Str)) (.str ("give" : Str)) = some (.bool false) := by kernel_rfl
@[simp] theorem eqw_end_begin : eqD (.str ("end" : Str)) (.str ("begin" : Str)) = some (.bool false) := by kernel_rfl
@[simp] theorem eqw_end_await : eqD (.str ("end" : Str)) (.str ("await" : Str)) = some (.bool false) := by kernel_rfl
@[simp] theorem eqw_end_woken : eqD (.str ("end" : Str)) (.str ("woken" : Str)) = some (.bool false) := by kernel_rfl
@[simp] theorem eqw_end_wake : eqD (.str ("end" : Str)) (.str ("wake" : Str)) = some (.bool false) := by kernel_rfl
@[simp] theorem eqw_end_wait : eqD (.str ("end" : Str)) (.str ("wait" : Str)) = some (.bool false) := by kernel_rfl
@[simp] theorem eqw_end_end : eqD (.str ("end" : Str)) (.str ("end" : Str)) = some (.bool true) := by kernel_rfl
@[simp] theorem eqw_end_ : eqD (.str ("end" : Str)) (.str ("" : Str)) = some (.bool false) := by kernel_rfl
@[simp] theorem eqw_end_root : eqD (.str ("end" : Str)) (.str ("root" : Str)) = some (.bool false) := by kernel_rfl
@[simp] theorem eqw__read : eqD (.str ("" : Str)) (.str ("read" : Str)) = some (.bool false) := by kernel_rfl
@[simp] theorem eqw__write : eqD (.str ("" : Str)) (.str ("write" : Str)) = some (.bool false) := by kernel_rfl
@[simp] theorem eqw__send : eqD (.str ("" : Str)) (.str ("send" : Str)) = some (.bool false) := by kernel_rfl
@[simp] theorem eqw__get : eqD (.str ("" : Str)) (.str ("get" : Str)) = some (.bool false) := by kernel_rfl
@[simp] theorem eqw__take : eqD (.str ("" : Str)) (.str ("take" : Str)) = some (.bool false) := by kernel_rfl
@[simp] theorem eqw__give : eqD (.str ("" : Str)) (.str ("give" : Str)) = some (.bool false) := by kernel_rfl
@[simp] theorem eqw__begin : eqD (.str ("" : Str)) (.str ("begin" : Str)) = some (.bool false) := by kernel_rfl
@[simp] theorem eqw__await : eqD (.str ("" : Str)) (.str ("await" : Str)) = some (.bool false) := by kernel_rfl
@[simp] theorem eqw__woken : eqD (.str ("" : Str)) (.str ("woken" : Str)) = some (.bool false) := by kernel_rfl
@[simp] theorem eqw__wake : eqD (.str ("" : Str)) (.str ("wake" : Str)) = some (.bool false) := by kernel_rfl
@[simp] theorem eqw__wait : eqD (.str ("" : Str)) (.str ("wait" : Str)) = some (.bool false) := by kernel_rfl
@[simp] theorem eqw__end : eqD (.str ("" : Str)) (.str ("end" : Str)) = some (.bool false) := by kernel_rfl
@[simp] theorem eqw_root_read : eqD (.str ("root" : Str)) (.str ("read" : Str)) = some (.bool false) := by kernel_rfl
@[simp] theorem eqw_root_write : eqD (.str ("root" : Str)) (.str ("write" : Str)) = some (.bool false) := by kernel_rfl
@[simp] theorem eqw_root_send : eqD (.str ("root" : Str)) (.str ("send" : Str)) = some (.bool false) := by kernel_rfl
@[simp] theorem eqw_root_get : eqD (.str ("root" : Str)) (.str ("get" : Str)) = some (.bool false) := by kernel_rfl
@[simp] theorem eqw_root_take : eqD (.str ("root" : Str)) (.str ("take" : Str)) = some (.bool false) := by kernel_rfl
@[simp] theorem eqw_root_give : eqD (.str ("root" : Str)) (.str ("give" : Str)) = some (.bool false) := by kernel_rfl
@[simp] theorem eqw_root_begin : eqD (.str ("root" : Str)) (.str ("begin" : Str)) = some (.bool false) := by kernel_rfl
@[simp] theorem eqw_root_await : eqD (.str ("root" : Str)) (.str ("await" : Str)) = some (.bool false) := by kernel_rfl
@[simp] theorem eqw_root_woken : eqD (.str ("root" : Str)) (.str ("woken" : Str)) = some (.bool false) := by kernel_rfl
@[simp] theorem eqw_root_wake : eqD (.str ("root" : Str)) (.str ("wake" : Str)) = some (.bool false) := by kernel_rfl
@[simp] theorem eqw_root_wait : eqD (.str ("root" : Str)) (.str ("wait" : Str)) = some (.bool false) := by kernel_rfl
@[simp] theorem eqw_root_end : eqD (.str ("root" : Str)) (.str ("end" : Str)) = some (.bool false) := by kernel_rfl
@[simp] theorem inw_0_read : inD (.str ("read" : Str)) (.tuple [.str ("read" : Str), .str ("write" : Str), .str ("send" : Str), .str ("get" : Str)]) = some (.bool true) := by kernel_rfl
@[simp] theorem niw_0_read : notInD (.str ("read" : Str)) (.tuple [.str ("read" : Str), .str ("write" : Str), .str ("send" : Str), .str ("get" : Str)]) = some (.bool false) := by kernel_rfl
@[simp] theorem inw_0_write : inD (.str ("write" : Str)) (.tuple [.str ("read" : Str), .str ("write" : Str), .str ("send" : Str), .str ("get" : Str)]) = some (.bool true) := by kernel_rfl
@[simp] theorem niw_0_write : notInD (.str ("write" : Str)) (.tuple [.str ("read" : Str), .str ("write" : Str), .str ("send" : Str), .str ("get" : Str)]) = some (.bool false) := by kernel_rfl
@[simp] theorem inw_0_send : inD (.str ("send" : Str)) (.tuple [.str ("read" : Str), .str ("write" : Str), .str ("send" : Str), .str ("get" : Str)]) = some (.bool true) := by kernel_rfl
@[simp] theorem niw_0_send : notInD (.str ("send" : Str)) (.tuple [.str ("read" : Str), .str ("write" : Str), .str ("send" : Str), .str ("get" : Str)]) = some (.bool false) := by kernel_rfl
@[simp] theorem inw_0_get : inD (.str ("get" : Str)) (.tuple [.str ("read" : Str), .str ("write" : Str), .str ("send" : Str), .str ("get" : Str)]) = some (.bool true) := by kernel_rfl
@[simp] theorem niw_0_get : notInD (.str ("get" : Str)) (.tuple [.str ("read" : Str), .str ("write" : Str), .str ("send" : Str), .str ("get" : Str)]) = some (.bool false) := by kernel_rfl
@[simp] theorem inw_0_take : inD (.str ("take" : Str)) (.tuple [.str ("read" : Str), .str ("write" : Str), .str ("send" : Str), .str ("get" : Str)]) = some (.bool false) := by kernel_rfl
@[simp] theorem niw_0_take : notInD (.str ("take" : Str)) (.tuple [.str ("read" : Str), .str ("write" : Str), .str ("send" : Str), .str ("get" : Str)]) = some (.bool true) := by kernel_rfl
@[simp] theorem inw_0_give : inD (.str ("give" : Str)) (.tuple [.str ("read" : Str), .str ("write" : Str), .str ("send" : Str), .str ("get" : Str)]) = some (.bool false) := by kernel_rfl
@[simp] theorem niw_0_give : notInD (.str ("give" : Str)) (.tuple [.str ("read" : Str), .str ("write" : Str), .str ("send" : Str), .str ("get" : Str)]) = some (.bool true) := by kernel_rfl
@[simp] theorem inw_0_begin : inD (.str ("begin" : Str)) (.tuple [.str ("read" : Str), .str ("write" : Str), .str ("send" : Str), .str ("get" : Str)]) = some (.bool false) := by kernel_rfl
@[simp] theorem niw_0_begin : notInD (.str ("begin" : Str)) (.tuple [.str ("read" : Str), .str ("write" : Str), .str ("send" : Str), .str ("get" : Str)]) = some (.bool true) := by kernel_rfl
@[simp] theorem inw_0_await : inD (.str ("await" : Str)) (.tuple [.str ("read" : Str), .str ("write" : Str), .str ("send" : Str), .str ("get" : Str)]) = some (.bool false) := by kernel_rfl
@[simp] theorem niw_0_await : notInD (.str ("await" : Str)) (.tuple [.str ("read" : Str), .str ("write" : Str), .str ("send" : Str), .str ("get" : Str)]) = some (.bool true) := by kernel_rfl
@[simp] theorem inw_0_woken : inD (.str ("woken" : Str)) (.tuple [.str ("read" : Str), .str ("write" : Str), .str ("send" : Str), .str ("get" : Str)]) = some (.bool false) := by kernel_rfl
@[simp] theorem niw_0_woken : notInD (.str ("woken" : Str)) (.tuple [.str ("read" : Str), .str ("write" : Str), .str ("send" : Str), .str ("get" : Str)]) = some (.bool true) := by kernel_rfl
@[simp] theorem inw_0_wake : inD (.str ("wake" : Str)) (.tuple [.str ("read" : Str), .str ("write" : Str), .str ("send" : Str), .str ("get" : Str)]) = some (.bool false) := by kernel_rfl
@[simp] theorem niw_0_wake : notInD (.str ("wake" : Str)) (.tuple [.str ("read" : Str), .str ("write" : Str), .str ("send" : Str), .str ("get" : Str)]) = some (.bool true) := by kernel_rfl
@[simp] theorem inw_0_wait : inD (.str ("wait" : Str)) (.tuple [.str ("read" : Str), .str ("write" : Str), .str ("send" : Str), .str ("get" : Str)]) = some (.bool false) := by kernel_rfl
@[simp] theorem niw_0_wait : notInD (.str ("wait" : Str)) (.tuple [.str ("read" : Str), .str ("write" : Str), .str ("send" : Str), .str ("get" : Str)]) = some (.bool true) := by kernel_rfl
@[simp] theorem inw_0_end : inD (.str ("end" : Str)) (.tuple [.str ("read" : Str), .str ("write" : Str), .str ("send" : Str), .str ("get" : Str)]) = some (.bool false) := by kernel_rfl
@[simp] theorem niw_0_end : notInD (.str ("end" : Str)) (.tuple [.str ("read" : Str), .str ("write" : Str), .str ("send" : Str), .str ("get" : Str)]) = some (.bool true) := by kernel_rfl
@[simp] theorem inw_1_read : inD (.str ("read" : Str)) (.tuple [.str ("give" : Str), .str ("wait" : Str)]) = some (.bool false) := by kernel_rfl
@[simp] theorem niw_1_read : notInD (.str ("read" : Str)) (.tuple [.str ("give" : Str), .str ("wait" : Str)]) = some (.bool true) := by kernel_rfl
@[simp] theorem inw_1_write : inD (.str ("write" : Str)) (.tuple [.str ("give" : Str), .str ("wait" : Str)]) = some (.bool false) := by kernel_rfl
@[simp] theorem niw_1_write : notInD (.str ("write" : Str)) (.tuple [.str ("give" : Str), .str ("wait" : Str)]) = some (.bool true) := by kernel_rfl
@[simp] theorem inw_1_send : inD (.str ("send" : Str)) (.tuple [.str ("give" : Str), .str ("wait" : Str)]) = some (.bool false) := by kernel_rfl
@[simp] theorem niw_1_send : notInD (.str ("send" : Str)) (.tuple [.str ("give" : Str), .str ("wait" : Str)]) = some (.bool true) := by kernel_rfl
@[simp] theorem inw_1_get : inD (.str ("get" : Str)) (.tuple [.str ("give" : Str), .str ("wait" : Str)]) = some (.bool false) := by kernel_rfl
@[simp] theorem niw_1_get : notInD (.str ("get" : Str)) (.tuple [.str ("give" : Str), .str ("wait" : Str)]) = some (.bool true) := by kernel_rfl
@[simp] theorem inw_1_take : inD (.str ("take" : Str)) (.tuple [.str ("give" : Str), .str ("wait" : Str)]) = some (.bool false) := by kernel_rfl
@[simp] theorem niw_1_take : notInD (.str ("take" : Str)) (.tuple [.str ("give" : Str), .str ("wait" : Str)]) = some (.bool true) := by kernel_rfl
@[simp] theorem inw_1_give : inD (.str ("give" : Str)) (.tuple [.str ("give" : Str), .str ("wait" : Str)]) = some (.bool true) := by kernel_rfl
@[simp] theorem niw_1_give : notInD (.str ("give" : Str)) (.tuple [.str ("give" : Str), .str ("wait" : Str)]) = some (.bool false) := by kernel_rfl
@[simp] theorem inw_1_begin : inD (.str ("begin" : Str)) (.tuple [.str ("give" : Str), .str ("wait" : Str)]) = some (.bool false) := by kernel_rfl
@[simp] theorem niw_1_begin : notInD (.str ("begin" : Str)) (.tuple [.str ("give" : Str), .str ("wait" : Str)]) = some (.bool true) := by kernel_rfl
@[simp] theorem inw_1_await : inD (.str ("await" : Str)) (.tuple [.str ("give" : Str), .str ("wait" : Str)]) = some (.bool false) := by kernel_rfl
@[simp] theorem niw_1_await : notInD (.str ("await" : Str)) (.tuple [.str ("give" : Str), .str ("wait" : Str)]) = some (.bool true) := by kernel_rfl
@[simp] theorem inw_1_woken : inD (.str ("woken" : Str)) (.tuple [.str ("give" : Str), .str ("wait" : Str)]) = some (.bool false) := by kernel_rfl
@[simp] theorem niw_1_woken : notInD (.str ("woken" : Str)) (.tuple [.str ("give" : Str), .str ("wait" : Str)]) = some (.bool true) := by kernel_rfl
@[simp] theorem inw_1_wake : inD (.str ("wake" : Str)) (.tuple [.str ("give" : Str), .str ("wait" : Str)]) = some (.bool false) := by kernel_rfl
@[simp] theorem niw_1_wake : notInD (.str ("wake" : Str)) (.tuple [.str ("give" : Str), .str ("wait" : Str)]) = some (.bool true) := by kernel_rfl
@[simp] theorem inw_1_wait : inD (.str ("wait" : Str)) (.tuple [.str ("give" : Str), .str ("wait" : Str)]) = some (.bool true) := by kernel_rfl
@[simp] theorem niw_1_wait : notInD (.str ("wait" : Str)) (.tuple [.str ("give" : Str), .str ("wait" : Str)]) = some (.bool false) := by kernel_rfl
@[simp] theorem inw_1_end : inD (.str ("end" : Str)) (.tuple [.str ("give" : Str), .str ("wait" : Str)]) = some (.bool false) := by kernel_rfl
@[simp] theorem niw_1_end : notInD (.str ("end" : Str)) (.tuple [.str ("give" : Str), .str ("wait" : Str)]) = some (.bool true) := by kernel_rfl
@[simp] theorem inw_2_read : inD (.str ("read" : Str)) (.tuple [.str ("wait" : Str), .str ("end" : Str)]) = some (.bool false) := by kernel_rfl
@[simp] theorem niw_2_read : notInD (.str ("read" : Str)) (.tuple [.str ("wait" : Str), .str ("end" : Str)]) = some (.bool true) := by kernel_rfl
@[simp] theorem inw_2_write : inD (.str ("write" : Str)) (.tuple [.str ("wait" : Str), .str ("end" : Str)]) = some (.bool false) := by kernel_rfl
@[simp] theorem niw_2_write : notInD (.str ("write" : Str)) (.tuple [.str ("wait" : Str), .str ("end" : Str)]) = some (.bool true) := by kernel_rfl
@[simp] theorem inw_2_send : inD (.str ("send" : Str)) (.tuple [.str ("wait" : Str), .str ("end" : Str)]) = some (.bool false) := by kernel_rfl
@[simp] theorem niw_2_send : notInD (.str ("send" : Str)) (.tuple [.str ("wait" : Str), .str ("end" : Str)]) = some (.bool true) := by kernel_rfl
@[simp] theorem inw_2_get : inD (.str ("get" : Str)) (.tuple [.str ("wait" : Str), .str ("end" : Str)]) = some (.bool false) := by kernel_rfl
@[simp] theorem niw_2_get : notInD (.str ("get" : Str)) (.tuple [.str ("wait" : Str), .str ("end" : Str)]) = some (.bool true) := by kernel_rfl
@[simp] theorem inw_2_take : inD (.str ("take" : Str)) (.tuple [.str ("wait" : Str), .str ("end" : Str)]) = some (.bool false) := by kernel_rfl
@[simp] theorem niw_2_take : notInD (.str ("take" : Str)) (.tuple [.str ("wait" : Str), .str ("end" : Str)]) = some (.bool true) := by kernel_rfl
@[simp] theorem inw_2_give : inD (.str ("give" : Str)) (.tuple [.str ("wait" : Str), .str ("end" : Str)]) = some (.bool false) := by kernel_rfl
@[simp] theorem niw_2_give : notInD (.str ("give" : Str)) (.tuple [.str ("wait" : Str), .str ("end" : Str)]) = some (.bool true) := by kernel_rfl
@[simp] theorem inw_2_begin : inD (.str ("begin" : Str)) (.tuple [.str ("wait" : Str), .str ("end" : Str)]) = some (.bool false) := by kernel_rfl
@[simp] theorem niw_2_begin : notInD (.str ("begin" : Str)) (.tuple [.str ("wait" : Str), .str ("end" : Str)]) = some (.bool true) := by kernel_rfl
@[simp] theorem inw_2_await : inD (.str ("await" : Str)) (.tuple [.str ("wait" : Str), .str ("end" : Str)]) = some (.bool false) := by kernel_rfl
@[simp] theorem niw_2_await : notInD (.str ("await" : Str)) (.tuple [.str ("wait" : Str), .str ("end" : Str)]) = some (.bool true) := by kernel_rfl
@[simp] theorem inw_2_woken : inD (.str ("woken" : Str)) (.tuple [.str ("wait" : Str), .str ("end" : Str)]) = some (.bool false) := by kernel_rfl
@[simp] theorem niw_2_woken : notInD (.str ("woken" : Str)) (.tuple [.str ("wait" : Str), .str ("end" : Str)]) = some (.bool true) := by kernel_rfl
@[simp] theorem inw_2_wake : inD (.str ("wake" : Str)) (.tuple [.str ("wait" : Str), .str ("end" : Str)]) = some (.bool false) := by kernel_rfl
@[simp] theorem niw_2_wake : notInD (.str ("wake" : Str)) (.tuple [.str ("wait" : Str), .str ("end" : Str)]) = some (.bool true) := by kernel_rfl
@[simp] theorem inw_2_wait : inD (.str ("wait" : Str)) (.tuple [.str ("wait" : Str), .str ("end" : Str)]) = some (.bool true) := by kernel_rfl
@[simp] theorem niw_2_wait : notInD (.str ("wait" : Str)) (.tuple [.str ("wait" : Str), .str ("end" : Str)]) = some (.bool false) := by kernel_rfl
@[simp] theorem inw_2_end : inD (.str ("end" : Str)) (.tuple [.str ("wait" : Str), .str ("end" : Str)]) = some (.bool true) := by kernel_rfl
@[simp] theorem niw_2_end : notInD (.str ("end" : Str)) (.tuple [.str ("wait" : Str), .str ("end" : Str)]) = some (.bool false) := by kernel_rfl
@[simp] theorem inw_3_read : inD (.str ("read" : Str)) (.tuple [.str ("read" : Str), .str ("get" : Str)]) = some (.bool true) := by kernel_rfl
@[simp] theorem niw_3_read : notInD (.str ("read" : Str)) (.tuple [.str ("read" : Str), .str ("get" : Str)]) = some (.bool false) := by kernel_rfl
@[simp] theorem inw_3_write : inD (.str ("write" : Str)) (.tuple [.str ("read" : Str), .str ("get" : Str)]) = some (.bool false) := by kernel_rfl
@[simp] theorem niw_3_write : notInD (.str ("write" : Str)) (.tuple [.str ("read" : Str), .str ("get" : Str)]) = some (.bool true) := by kernel_rfl
@[simp] theorem inw_3_send : inD (.str ("send" : Str)) (.tuple [.str ("read" : Str), .str ("get" : Str)]) = some (.bool false) := by kernel_rfl
@[simp] theorem niw_3_send : notInD (.str ("send" : Str)) (.tuple [.str ("read" : Str), .str ("get" : Str)]) = some (.bool true) := by kernel_rfl
@[simp] theorem inw_3_get : inD (.str ("get" : Str)) (.tuple [.str ("read" : Str), .str ("get" : Str)]) = some (.bool true) := by kernel_rfl
@[simp] theorem niw_3_get : notInD (.str ("get" : Str)) (.tuple [.str ("read" : Str), .str ("get" : Str)]) = some (.bool false) := by kernel_rfl
@[simp] theorem inw_3_take : inD (.str ("take" : Str)) (.tuple [.str ("read" : Str), .str ("get" : Str)]) = some (.bool false) := by kernel_rfl
@[simp] theorem niw_3_take : notInD (.str ("take" : Str)) (.tuple [.str ("read" : Str), .str ("get" : Str)]) = some (.bool true) := by kernel_rfl
@[simp] theorem inw_3_give : inD (.str ("give" : Str)) (.tuple [.str ("read" : Str), .str ("get" : Str)]) = some (.bool false) := by kernel_rfl
@[simp] theorem niw_3_give : notInD (.str ("give" : Str)) (.tuple [.str ("read" : Str), .str ("get" : Str)]) = some (.bool true) := by kernel_rfl
@[simp] theorem inw_3_begin : inD (.str ("begin" : Str)) (.tuple [.str ("read" : Str), .str ("get" : Str)]) = some (.bool false) := by kernel_rfl
@[simp] theorem niw_3_begin : notInD (.str ("begin" : Str)) (.tuple [.str ("read" : Str), .str ("get" : Str)]) = some (.bool true) := by kernel_rfl
@[simp] theorem inw_3_await : inD (.str ("await" : Str)) (.tuple [.str ("read" : Str), .str ("get" : Str)]) = some (.bool false) := by kernel_rfl
@[simp] theorem niw_3_await : notInD (.str ("await" : Str)) (.tuple [.str ("read" : Str), .str ("get" : Str)]) = some (.bool true) := by kernel_rfl
@[simp] theorem inw_3_woken : inD (.str ("woken" : Str)) (.tuple [.str ("read" : Str), .str ("get" : Str)]) = some (.bool false) := by kernel_rfl
@[simp] theorem niw_3_woken : notInD (.str ("woken" : Str)) (.tuple [.str ("read" : Str), .str ("get" : Str)]) = some (.bool true) := by kernel_rfl
@[simp] theorem inw_3_wake : inD (.str ("wake" : Str)) (.tuple [.str ("read" : Str), .str ("get" : Str)]) = some (.bool false) := by kernel_rfl
@[simp] theorem niw_3_wake : notInD (.str ("wake" : Str)) (.tuple [.str ("read" : Str), .str ("get" : Str)]) = some (.bool true) := by kernel_rfl
@[simp] theorem inw_3_wait : inD (.str ("wait" : Str)) (.tuple [.str ("read" : Str), .str ("get" : Str)]) = some (.bool false) := by kernel_rfl
@[simp] theorem niw_3_wait : notInD (.str ("wait" : Str)) (.tuple [.str ("read" : Str), .str ("get" : Str)]) = some (.bool true) := by kernel_rfl
@[simp] theorem inw_3_end : inD (.str ("end" : Str)) (.tuple [.str ("read" : Str), .str ("get" : Str)]) = some (.bool false) := by kernel_rfl
@[simp] theorem niw_3_end : notInD (.str ("end" : Str)) (.tuple [.str ("read" : Str), .str ("get" : Str)]) = some (.bool true) := by kernel_rfl
@[simp] theorem inw_4_read : inD (.str ("read" : Str)) (.tuple [.str ("wait" : Str), .str ("wake" : Str), .str ("woken" : Str)]) = some (.bool false) := by kernel_rfl
@[simp] theorem niw_4_read : notInD (.str ("read" : Str)) (.tuple [.str ("wait" : Str), .str ("wake" : Str), .str ("woken" : Str)]) = some (.bool true) := by kernel_rfl
@[simp] theorem inw_4_write : inD (.str ("write" : Str)) (.tuple [.str ("wait" : Str), .str ("wake" : Str), .str ("woken" : Str)]) = some (.bool false) := by kernel_rfl
@[simp] theorem niw_4_write : notInD (.str ("write" : Str)) (.tuple [.str ("wait" : Str), .str ("wake" : Str), .str ("woken" : Str)]) = some (.bool true) := by kernel_rfl
@[simp] theorem inw_4_send : inD (.str ("send" : Str)) (.tuple [.str ("wait" : Str), .str ("wake" : Str), .str ("woken" : Str)]) = some (.bool false) := by kernel_rfl
@[simp] theorem niw_4_send : notInD (.str ("send" : Str)) (.tuple [.str ("wait" : Str), .str ("wake" : Str), .str ("woken" : Str)]) = some (.bool true) := by kernel_rfl
@[simp] theorem inw_4_get : inD (.str ("get" : Str)) (.tuple [.str ("wait" : Str), .str ("wake" : Str), .str ("woken" : Str)]) = some (.bool false) := by kernel_rfl
@[simp] theorem niw_4_get : notInD (.str ("get" : Str)) (.tuple [.str ("wait" : Str), .str ("wake" : Str), .str ("woken" : Str)]) = some (.bool true) := by kernel_rfl
@[simp] theorem inw_4_take : inD (.str ("take" : Str)) (.tuple [.str ("wait" : Str), .str ("wake" : Str), .str ("woken" : Str)]) = some (.bool false) := by kernel_rfl
@[simp] theorem niw_4_take : notInD (.str ("take" : Str)) (.tuple [.str ("wait" : Str), .str ("wake" : Str), .str ("woken" : Str)]) = some (.bool true) := by kernel_rfl
@[simp] theorem inw_4_give : inD (.str ("give" : Str)) (.tuple [.str ("wait" : Str), .str ("wake" : Str), .str ("woken" : Str)]) = some (.bool false) := by kernel_rfl
@[simp] theorem niw_4_give : notInD (.str ("give" : Str)) (.tuple [.str ("wait" : Str), .str ("wake" : Str), .str ("woken" : Str)]) = some (.bool true) := by kernel_rfl
@[simp] theorem inw_4_begin : inD (.str ("begin" : Str)) (.tuple [.str ("wait" : Str), .str ("wake" : Str), .str ("woken" : Str)]) = some (.bool false) := by kernel_rfl
@[simp] theorem niw_4_begin : notInD (.str ("begin" : Str)) (.tuple [.str ("wait" : Str), .str ("wake" : Str), .str ("woken" : Str)]) = some (.bool true) := by kernel_rfl
@[simp] theorem inw_4_await : inD (.str ("await" : Str)) (.tuple [.str ("wait" : Str), .str ("wake" : Str), .str ("woken" : Str)]) = some (.bool false) := by kernel_rfl
@[simp] theorem niw_4_await : notInD (.str ("await" : Str)) (.tuple [.str ("wait" : Str), .str ("wake" : Str), .str ("woken" : Str)]) = some (.bool true) := by kernel_rfl
@[simp] theorem inw_4_woken : inD (.str ("woken" : Str)) (.tuple [.str ("wait" : Str), .str ("wake" : Str), .str ("woken" : Str)]) = some (.bool true) := by kernel_rfl
@[simp] theorem niw_4_woken : notInD (.str ("woken" : Str)) (.tuple [.str ("wait" : Str), .str ("wake" : Str), .str ("woken" : Str)]) = some (.bool false) := by kernel_rfl
@[simp] theorem inw_4_wake : inD (.str ("wake" : Str)) (.tuple [.str ("wait" : Str), .str ("wake" : Str), .str ("woken" : Str)]) = some (.bool true) := by kernel_rfl
@[simp] theorem niw_4_wake : notInD (.str ("wake" : Str)) (.tuple [.str ("wait" : Str), .str ("wake" : Str), .str ("woken" : Str)]) = some (.bool false) := by kernel_rfl
@[simp] theorem inw_4_wait : inD (.str ("wait" : Str)) (.tuple [.str ("wait" : Str), .str ("wake" : Str), .str ("woken" : Str)]) = some (.bool true) := by kernel_rfl
@[simp] theorem niw_4_wait : notInD (.str ("wait" : Str)) (.tuple [.str ("wait" : Str), .str ("wake" : Str), .str ("woken" : Str)]) = some (.bool false) := by kernel_rfl
@[simp] theorem inw_4_end : inD (.str ("end" : Str)) (.tuple [.str ("wait" : Str), .str ("wake" : Str), .str ("woken" : Str)]) = some (.bool false) := by kernel_rfl
@[simp] theorem niw_4_end : notInD (.str ("end" : Str)) (.tuple [.str ("wait" : Str), .str ("wake" : Str), .str ("woken" : Str)]) = some (.bool true) := by kernel_rfl
@[simp] theorem inw_5_read : inD (.str ("read" : Str)) (.tuple [.str ("read" : Str), .str ("await" : Str)]) = some (.bool true) := by kernel_rfl
@[simp] theorem niw_5_read : notInD (.str ("read" : Str)) (.tuple [.str ("read" : Str), .str ("await" : Str)]) = some (.bool false) := by kernel_rfl
@[simp] theorem inw_5_write : inD (.str ("write" : Str)) (.tuple [.str ("read" : Str), .str ("await" : Str)]) = some (.bool false) := by kernel_rfl
@[simp] theorem niw_5_write : notInD (.str ("write" : Str)) (.tuple [.str ("read" : Str), .str ("await" : Str)]) = some (.bool true) := by kernel_rfl
@[simp] theorem inw_5_send : inD (.str ("send" : Str)) (.tuple [.str ("read" : Str), .str ("await" : Str)]) = some (.bool false) := by kernel_rfl
@[simp] theorem niw_5_send : notInD (.str ("send" : Str)) (.tuple [.str ("read" : Str), .str ("await" : Str)]) = some (.bool true) := by kernel_rfl
@[simp] theorem inw_5_get : inD (.str ("get" : Str)) (.tuple [.str ("read" : Str), .str ("await" : Str)]) = some (.bool false) := by kernel_rfl
@[simp] theorem niw_5_get : notInD (.str ("get" : Str)) (.tuple [.str ("read" : Str), .str ("await" : Str)]) = some (.bool true) := by kernel_rfl
@[simp] theorem inw_5_take : inD (.str ("take" : Str)) (.tuple [.str ("read" : Str), .str ("await" : Str)]) = some (.bool false) := by kernel_rfl
@[simp] theorem niw_5_take : notInD (.str ("take" : Str)) (.tuple [.str ("read" : Str), .str ("await" : Str)]) = some (.bool true) := by kernel_rfl
@[simp] theorem inw_5_give : inD (.str ("give" : Str)) (.tuple [.str ("read" : Str), .str ("await" : Str)]) = some (.bool false) := by kernel_rfl
@[simp] theorem niw_5_give : notInD (.str ("give" : Str)) (.tuple [.str ("read" : Str), .str ("await" : Str)]) = some (.bool true) := by kernel_rfl
@[simp] theorem inw_5_begin : inD (.str ("begin" : Str)) (.tuple [.str ("read" : Str), .str ("await" : Str)]) = some (.bool false) := by kernel_rfl
@[simp] theorem niw_5_begin : notInD (.str ("begin" : Str)) (.tuple [.str ("read" : Str), .str ("await" : Str)]) = some (.bool true) := by kernel_rfl
@[simp] theorem inw_5_await : inD (.str ("await" : Str)) (.tuple [.str ("read" : Str), .str ("await" : Str)]) = some (.bool true) := by kernel_rfl
@[simp] theorem niw_5_await : notInD (.str ("await" : Str)) (.tuple [.str ("read" : Str), .str ("await" : Str)]) = some (.bool false) := by kernel_rfl
@[simp] theorem inw_5_woken : inD (.str ("woken" : Str)) (.tuple [.str ("read" : Str), .str ("await" : Str)]) = some (.bool false) := by kernel_rfl
@[simp] theorem niw_5_woken : notInD (.str ("woken" : Str)) (.tuple [.str ("read" : Str), .str ("await" : Str)]) = some (.bool true) := by kernel_rfl
@[simp] theorem inw_5_wake : inD (.str ("wake" : Str)) (.tuple [.str ("read" : Str), .str ("await" : Str)]) = some (.bool false) := by kernel_rfl
@[simp] theorem niw_5_wake : notInD (.str ("wake" : Str)) (.tuple [.str ("read" : Str), .str ("await" : Str)]) = some (.bool true) := by kernel_rfl
@[simp] theorem inw_5_wait : inD (.str ("wait" : Str)) (.tuple [.str ("read" : Str), .str ("await" : Str)]) = some (.bool false) := by kernel_rfl
@[simp] theorem niw_5_wait : notInD (.str ("wait" : Str)) (.tuple [.str ("read" : Str), .str ("await" : Str)]) = some (.bool true) := by kernel_rfl
@[simp] theorem inw_5_end : inD (.str ("end" : Str)) (.tuple [.str ("read" : Str), .str ("await" : Str)]) = some (.bool false) := by kernel_rfl
@[simp] theorem niw_5_end : notInD (.str ("end" : Str)) (.tuple [.str ("read" : Str), .str ("await" : Str)]) = some (.bool true) := by kernel_rfl
@[simp] theorem inw_6_read : inD (.str ("read" : Str)) (.tuple [.str ("write" : Str), .str ("send" : Str)]) = some (.bool false) := by kernel_rfl
@[simp] theorem niw_6_read : notInD (.str ("read" : Str)) (.tuple [.str ("write" : Str), .str ("send" : Str)]) = some (.bool true) := by kernel_rfl
@[simp] theorem inw_6_write : inD (.str ("write" : Str)) (.tuple [.str ("write" : Str), .str ("send" : Str)]) = some (.bool true) := by kernel_rfl
@[simp] theorem niw_6_write : notInD (.str ("write" : Str)) (.tuple [.str ("write" : Str), .str ("send" : Str)]) = some (.bool false) := by kernel_rfl
@[simp] theorem inw_6_send : inD (.str ("send" : Str)) (.tuple [.str ("write" : Str), .str ("send" : Str)]) = some (.bool true) := by kernel_rfl
@[simp] theorem niw_6_send : notInD (.str ("send" : Str)) (.tuple [.str ("write" : Str), .str ("send" : Str)]) = some (.bool false) := by kernel_rfl
@[simp] theorem inw_6_get : inD (.str ("get" : Str)) (.tuple [.str ("write" : Str), .str ("send" : Str)]) = some (.bool false) := by kernel_rfl
@[simp] theorem niw_6_get : notInD (.str ("get" : Str)) (.tuple [.str ("write" : Str), .str ("send" : Str)]) = some (.bool true) := by kernel_rfl
@[simp] theorem inw_6_take : inD (.str ("take" : Str)) (.tuple [.str ("write" : Str), .str ("send" : Str)]) = some (.bool false) := by kernel_rfl
@[simp] theorem niw_6_take : notInD (.str ("take" : Str)) (.tuple [.str ("write" : Str), .str ("send" : Str)]) = some (.bool true) := by kernel_rfl
@[simp] theorem inw_6_give : inD (.str ("give" : Str)) (.tuple [.str ("write" : Str), .str ("send" : Str)]) = some (.bool false) := by kernel_rfl
@[simp] theorem niw_6_give : notInD (.str ("give" : Str)) (.tuple [.str ("write" : Str), .str ("send" : Str)]) = some (.bool true) := by kernel_rfl
@[simp] theorem inw_6_begin : inD (.str ("begin" : Str)) (.tuple [.str ("write" : Str), .str ("send" : Str)]) = some (.bool false) := by kernel_rfl
@[simp] theorem niw_6_begin : notInD (.str ("begin" : Str)) (.tuple [.str ("write" : Str), .str ("send" : Str)]) = some (.bool true) := by kernel_rfl
@[simp] theorem inw_6_await : inD (.str ("await" : Str)) (.tuple [.str ("write" : Str), .str ("send" : Str)]) = some (.bool false) := by kernel_rfl
@[simp] theorem niw_6_await : notInD (.str ("await" : Str)) (.tuple [.str ("write" : Str), .str ("send" : Str)]) = some (.bool true) := by kernel_rfl
@[simp] theorem inw_6_woken : inD (.str ("woken" : Str)) (.tuple [.str ("write" : Str), .str ("send" : Str)]) = some (.bool false) := by kernel_rfl
@[simp] theorem niw_6_woken : notInD (.str ("woken" : Str)) (.tuple [.str ("write" : Str), .str ("send" : Str)]) = some (.bool true) := by kernel_rfl
@[simp] theorem inw_6_wake : inD (.str ("wake" : Str)) (.tuple [.str ("write" : Str), .str ("send" : Str)]) = some (.bool false) := by kernel_rfl
@[simp] theorem niw_6_wake : notInD (.str ("wake" : Str)) (.tuple [.str ("write" : Str), .str ("send" : Str)]) = some (.bool true) := by kernel_rfl
@[simp] theorem inw_6_wait : inD (.str ("wait" : Str)) (.tuple [.str ("write" : Str), .str ("send" : Str)]) = some (.bool false) := by kernel_rfl
@[simp] theorem niw_6_wait : notInD (.str ("wait" : Str)) (.tuple [.str ("write" : Str), .str ("send" : Str)]) = some (.bool true) := by kernel_rfl
@[simp] theorem inw_6_end : inD (.str ("end" : Str)) (.tuple [.str ("write" : Str), .str ("send" : Str)]) = some (.bool false) := by kernel_rfl
@[simp] theorem niw_6_end : notInD (.str ("end" : Str)) (.tuple [.str ("write" : Str), .str ("send" : Str)]) = some (.bool true) := by kernel_rfl
@[simp] theorem inw_7_read : inD (.str ("read" : Str)) (.tuple [.str ("begin" : Str), .str ("await" : Str)]) = some (.bool false) := by kernel_rfl
@[simp] theorem niw_7_read : notInD (.str ("read" : Str)) (.tuple [.str ("begin" : Str), .str ("await" : Str)]) = some (.bool true) := by kernel_rfl
@[simp] theorem inw_7_write : inD (.str ("write" : Str)) (.tuple [.str ("begin" : Str), .str ("await" : Str)]) = some (.bool false) := by kernel_rfl
@[simp] theorem niw_7_write : notInD (.str ("write" : Str)) (.tuple [.str ("begin" : Str), .str ("await" : Str)]) = some (.bool true) := by kernel_rfl
@[simp] theorem inw_7_send : inD (.str ("send" : Str)) (.tuple [.str ("begin" : Str), .str ("await" : Str)]) = some (.bool false) := by kernel_rfl
@[simp] theorem niw_7_send : notInD (.str ("send" : Str)) (.tuple [.str ("begin" : Str), .str ("await" : Str)]) = some (.bool true) := by kernel_rfl
@[simp] theorem inw_7_get : inD (.str ("get" : Str)) (.tuple [.str ("begin" : Str), .str ("await" : Str)]) = some (.bool false) := by kernel_rfl
@[simp] theorem niw_7_get : notInD (.str ("get" : Str)) (.tuple [.str ("begin" : Str), .str ("await" : Str)]) = some (.bool true) := by kernel_rfl
@[simp] theorem inw_7_take : inD (.str ("take" : Str)) (.tuple [.str ("begin" : Str), .str ("await" : Str)]) = some (.bool false) := by kernel_rfl
@[simp] theorem niw_7_take : notInD (.str ("take" : Str)) (.tuple [.str ("begin" : Str), .str ("await" : Str)]) = some (.bool true) := by kernel_rfl
@[simp] theorem inw_7_give : inD (.str ("give" : Str)) (.tuple [.str ("begin" : Str), .str ("await" : Str)]) = some (.bool false) := by kernel_rfl
@[simp] theorem niw_7_give : notInD (.str ("give" : Str)) (.tuple [.str ("begin" : Str), .str ("await" : Str)]) = some (.bool true) := by kernel_rfl
@[simp] theorem inw_7_begin : inD (.str ("begin" : Str)) (.tuple [.str ("begin" : Str), .str ("await" : Str)]) = some (.bool true) := by kernel_rfl
@[simp] theorem niw_7_begin : notInD (.str ("begin" : Str)) (.tuple [.str ("begin" : Str), .str ("await" : Str)]) = some (.bool false) := by kernel_rfl
@[simp] theorem inw_7_await : inD (.str ("await" : Str)) (.tuple [.str ("begin" : Str), .str ("await" : Str)]) = some (.bool true) := by kernel_rfl
@[simp] theorem niw_7_await : notInD (.str ("await" : Str)) (.tuple [.str ("begin" : Str), .str ("await" : Str)]) = some (.bool false) := by kernel_rfl
@[simp] theorem inw_7_woken : inD (.str ("woken" : Str)) (.tuple [.str ("begin" : Str), .str ("await" : Str)]) = some (.bool false) := by kernel_rfl
@[simp] theorem niw_7_woken : notInD (.str ("woken" : Str)) (.tuple [.str ("begin" : Str), .str ("await" : Str)]) = some (.bool true) := by kernel_rfl
@[simp] theorem inw_7_wake : inD (.str ("wake" : Str)) (.tuple [.str ("begin" : Str), .str ("await" : Str)]) = some (.bool false) := by kernel_rfl
@[simp] theorem niw_7_wake : notInD (.str ("wake" : Str)) (.tuple [.str ("begin" : Str), .str ("await" : Str)]) = some (.bool true) := by kernel_rfl
@[simp] theorem inw_7_wait : inD (.str ("wait" : Str)) (.tuple [.str ("begin" : Str), .str ("await" : Str)]) = some (.bool false) := by kernel_rfl
@[simp] theorem niw_7_wait : notInD (.str ("wait" : Str)) (.tuple [.str ("begin" : Str), .str ("await" : Str)]) = some (.bool true) := by kernel_rfl
@[simp] theorem inw_7_end : inD (.str ("end" : Str)) (.tuple [.str ("begin" : Str), .str ("await" : Str)]) = some (.bool false) := by kernel_rfl
@[simp] theorem niw_7_end : notInD (.str ("end" : Str)) (.tuple [.str ("begin" : Str), .str ("await" : Str)]) = some (.bool true) := by kernel_rfl
@[simp] theorem inw_8_read : inD (.str ("read" : Str)) (.tuple [.str ("read" : Str), .str ("get" : Str), .str ("woken" : Str)]) = some (.bool true) := by kernel_rfl
@[simp] theorem niw_8_read : notInD (.str ("read" : Str)) (.tuple [.str ("read" : Str), .str ("get" : Str), .str ("woken" : Str)]) = some (.bool false) := by kernel_rfl
@[simp] theorem inw_8_write : inD (.str ("write" : Str)) (.tuple [.str ("read" : Str), .str ("get" : Str), .str ("woken" : Str)]) = some (.bool false) := by kernel_rfl
@[simp] theorem niw_8_write : notInD (.str ("write" : Str)) (.tuple [.str ("read" : Str), .str ("get" : Str), .str ("woken" : Str)]) = some (.bool true) := by kernel_rfl
@[simp] theorem inw_8_send : inD (.str ("send" : Str)) (.tuple [.str ("read" : Str), .str ("get" : Str), .str ("woken" : Str)]) = some (.bool false) := by kernel_rfl
@[simp] theorem niw_8_send : notInD (.str ("send" : Str)) (.tuple [.str ("read" : Str), .str ("get" : Str), .str ("woken" : Str)]) = some (.bool true) := by kernel_rfl
@[simp] theorem inw_8_get : inD (.str ("get" : Str)) (.tuple [.str ("read" : Str), .str ("get" : Str), .str ("woken" : Str)]) = some (.bool true) := by kernel_rfl
@[simp] theorem niw_8_get : notInD (.str ("get" : Str)) (.tuple [.str ("read" : Str), .str ("get" : Str), .str ("woken" : Str)]) = some (.bool false) := by kernel_rfl
@[simp] theorem inw_8_take : inD (.str ("take" : Str)) (.tuple [.str ("read" : Str), .str ("get" : Str), .str ("woken" : Str)]) = some (.bool false) := by kernel_rfl
@[simp] theorem niw_8_take : notInD (.str ("take" : Str)) (.tuple [.str ("read" : Str), .str ("get" : Str), .str ("woken" : Str)]) = some (.bool true) := by kernel_rfl
@[simp] theorem inw_8_give : inD (.str ("give" : Str)) (.tuple [.str ("read" : Str), .str ("get" : Str), .str ("woken" : Str)]) = some (.bool false) := by kernel_rfl
@[simp] theorem niw_8_give : notInD (.str ("give" : Str)) (.tuple [.str ("read" : Str), .str ("get" : Str), .str ("woken" : Str)]) = some (.bool true) := by kernel_rfl
@[simp] theorem inw_8_begin : inD (.str ("begin" : Str)) (.tuple [.str ("read" : Str), .str ("get" : Str), .str ("woken" : Str)]) = some (.bool false) := by kernel_rfl
@[simp] theorem niw_8_begin : notInD (.str ("begin" : Str)) (.tuple [.str ("read" : Str), .str ("get" : Str), .str ("woken" : Str)]) = some (.bool true) := by kernel_rfl
@[simp] theorem inw_8_await : inD (.str ("await" : Str)) (.tuple [.str ("read" : Str), .str ("get" : Str), .str ("woken" : Str)]) = some (.bool false) := by kernel_rfl
@[simp] theorem niw_8_await : notInD (.str ("await" : Str)) (.tuple [.str ("read" : Str), .str ("get" : Str), .str ("woken" : Str)]) = some (.bool true) := by kernel_rfl
@[simp] theorem inw_8_woken : inD (.str ("woken" : Str)) (.tuple [.str ("read" : Str), .str ("get" : Str), .str ("woken" : Str)]) = some (.bool true) := by kernel_rfl
@[simp] theorem niw_8_woken : notInD (.str ("woken" : Str)) (.tuple [.str ("read" : Str), .str ("get" : Str), .str ("woken" : Str)]) = some (.bool false) := by kernel_rfl
@[simp] theorem inw_8_wake : inD (.str ("wake" : Str)) (.tuple [.str ("read" : Str), .str ("get" : Str), .str ("woken" : Str)]) = some (.bool false) := by kernel_rfl
@[simp] theorem niw_8_wake : notInD (.str ("wake" : Str)) (.tuple [.str ("read" : Str), .str ("get" : Str), .str ("woken" : Str)]) = some (.bool true) := by kernel_rfl
@[simp] theorem inw_8_wait : inD (.str ("wait" : Str)) (.tuple [.str ("read" : Str), .str ("get" : Str), .str ("woken" : Str)]) = some (.bool false) := by kernel_rfl
@[simp] theorem niw_8_wait : notInD (.str ("wait" : Str)) (.tuple [.str ("read" : Str), .str ("get" : Str), .str ("woken" : Str)]) = some (.bool true) := by kernel_rfl
@[simp] theorem inw_8_end : inD (.str ("end" : Str)) (.tuple [.str ("read" : Str), .str ("get" : Str), .str ("woken" : Str)]) = some (.bool false) := by kernel_rfl
@[simp] theorem niw_8_end : notInD (.str ("end" : Str)) (.tuple [.str ("read" : Str), .str ("get" : Str), .str ("woken" : Str)]) = some (.bool true) := by kernel_rfl
@[simp] theorem inw_9_read : inD (.str ("read" : Str)) (.tuple [.str ("read" : Str), .str ("write" : Str)]) = some (.bool true) := by kernel_rfl
@[simp] theorem niw_9_read : notInD (.str ("read" : Str)) (.tuple [.str ("read" : Str), .str ("write" : Str)]) = some (.bool false) := by kernel_rfl
@[simp] theorem inw_9_write : inD (.str ("write" : Str)) (.tuple [.str ("read" : Str), .str ("write" : Str)]) = some (.bool true) := by kernel_rfl
@[simp] theorem niw_9_write : notInD (.str ("write" : Str)) (.tuple [.str ("read" : Str), .str ("write" : Str)]) = some (.bool false) := by kernel_rfl
@[simp] theorem inw_9_send : inD (.str ("send" : Str)) (.tuple [.str ("read" : Str), .str ("write" : Str)]) = some (.bool false) := by kernel_rfl
@[simp] theorem niw_9_send : notInD (.str ("send" : Str)) (.tuple [.str ("read" : Str), .str ("write" : Str)]) = some (.bool true) := by kernel_rfl
@[simp] theorem inw_9_get : inD (.str ("get" : Str)) (.tuple [.str ("read" : Str), .str ("write" : Str)]) = some (.bool false) := by kernel_rfl
@[simp] theorem niw_9_get : notInD (.str ("get" : Str)) (.tuple [.str ("read" : Str), .str ("write" : Str)]) = some (.bool true) := by kernel_rfl
@[simp] theorem inw_9_take : inD (.str ("take" : Str)) (.tuple [.str ("read" : Str), .str ("write" : Str)]) = some (.bool false) := by kernel_rfl
@[simp] theorem niw_9_take : notInD (.str ("take" : Str)) (.tuple [.str ("read" : Str), .str ("write" : Str)]) = some (.bool true) := by kernel_rfl
@[simp] theorem inw_9_give : inD (.str ("give" : Str)) (.tuple [.str ("read" : Str), .str ("write" : Str)]) = some (.bool false) := by kernel_rfl
@[simp] theorem niw_9_give : notInD (.str ("give" : Str)) (.tuple [.str ("read" : Str), .str ("write" : Str)]) = some (.bool true) := by kernel_rfl
@[simp] theorem inw_9_begin : inD (.str ("begin" : Str)) (.tuple [.str ("read" : Str), .str ("write" : Str)]) = some (.bool false) := by kernel_rfl
@[simp] theorem niw_9_begin : notInD (.str ("begin" : Str)) (.tuple [.str ("read" : Str), .str ("write" : Str)]) = some (.bool true) := by kernel_rfl
@[simp] theorem inw_9_await : inD (.str ("await" : Str)) (.tuple [.str ("read" : Str), .str ("write" : Str)]) = some (.bool false) := by kernel_rfl
@[simp] theorem niw_9_await : notInD (.str ("await" : Str)) (.tuple [.str ("read" : Str), .str ("write" : Str)]) = some (.bool true) := by kernel_rfl
@[simp] theorem inw_9_woken : inD (.str ("woken" : Str)) (.tuple [.str ("read" : Str), .str ("write" : Str)]) = some (.bool false) := by kernel_rfl
@[simp] theorem niw_9_woken : notInD (.str ("woken" : Str)) (.tuple [.str ("read" : Str), .str ("write" : Str)]) = some (.bool true) := by kernel_rfl
@[simp] theorem inw_9_wake : inD (.str ("wake" : Str)) (.tuple [.str ("read" : Str), .str ("write" : Str)]) = some (.bool false) := by kernel_rfl
@[simp] theorem niw_9_wake : notInD (.str ("wake" : Str)) (.tuple [.str ("read" : Str), .str ("write" : Str)]) = some (.bool true) := by kernel_rfl
@[simp] theorem inw_9_wait : inD (.str ("wait" : Str)) (.tuple [.str ("read" : Str), .str ("write" : Str)]) = some (.bool false) := by kernel_rfl
@[simp] theorem niw_9_wait : notInD (.str ("wait" : Str)) (.tuple [.str ("read" : Str), .str ("write" : Str)]) = some (.bool true) := by kernel_rfl
@[simp] theorem inw_9_end : inD (.str ("end" : Str)) (.tuple [.str ("read" : Str), .str ("write" : Str)]) = some (.bool false) := by kernel_rfl
@[simp] theorem niw_9_end : notInD (.str ("end" : Str)) (.tuple [.str ("read" : Str), .str ("write" : Str)]) = some (.bool true) := by kernel_rfl
@[simp] theorem inw_10_read : inD (.str ("read" : Str)) (.tuple [.str ("begin" : Str), .str ("await" : Str), .str ("end" : Str)]) = some (.bool false) := by kernel_rfl
@[simp] theorem niw_10_read : notInD (.str ("read" : Str)) (.tuple [.str ("begin" : Str), .str ("await" : Str), .str ("end" : Str)]) = some (.bool true) := by kernel_rfl
@[simp] theorem inw_10_write : inD (.str ("write" : Str)) (.tuple [.str ("begin" : Str), .str ("await" : Str), .str ("end" : Str)]) = some (.bool false) := by kernel_rfl
@[simp] theorem niw_10_write : notInD (.str ("write" : Str)) (.tuple [.str ("begin" : Str), .str ("await" : Str), .str ("end" : Str)]) = some (.bool true) := by kernel_rfl
@[simp] theorem inw_10_send : inD (.str ("send" : Str)) (.tuple [.str ("begin" : Str), .str ("await" : Str), .str ("end" : Str)]) = some (.bool false) := by kernel_rfl
@[simp] theorem niw_10_send : notInD (.str ("send" : Str)) (.tuple [.str ("begin" : Str), .str ("await" : Str), .str ("end" : Str)]) = some (.bool true) := by kernel_rfl
@[simp] theorem inw_10_get : inD (.str ("get" : Str)) (.tuple [.str ("begin" : Str), .str ("await" : Str), .str ("end" : Str)]) = some (.bool false) := by kernel_rfl
@[simp] theorem niw_10_get : notInD (.str ("get" : Str)) (.tuple [.str ("begin" : Str), .str ("await" : Str), .str ("end" : Str)]) = some (.bool true) := by kernel_rfl
@[simp] theorem inw_10_take : inD (.str ("take" : Str)) (.tuple [.str ("begin" : Str), .str ("await" : Str), .str ("end" : Str)]) = some (.bool false) := by kernel_rfl
@[simp] theorem niw_10_take : notInD (.str ("take" : Str)) (.tuple [.str ("begin" : Str), .str ("await" : Str), .str ("end" : Str)]) = some (.bool true) := by kernel_rfl
@[simp] theorem inw_10_give : inD (.str ("give" : Str)) (.tuple [.str ("begin" : Str), .str ("await" : Str), .str ("end" : Str)]) = some (.bool false) := by kernel_rfl
@[simp] theorem niw_10_give : notInD (.str ("give" : Str)) (.tuple [.str ("begin" : Str), .str ("await" : Str), .str ("end" : Str)]) = some (.bool true) := by kernel_rfl
@[simp] theorem inw_10_begin : inD (.str ("begin" : Str)) (.tuple [.str ("begin" : Str), .str ("await" : Str), .str ("end" : Str)]) = some (.bool true) := by kernel_rfl
@[simp] theorem niw_10_begin : notInD (.str ("begin" : Str)) (.tuple [.str ("begin" : Str), .str ("await" : Str), .str ("end" : Str)]) = some (.bool false) := by kernel_rfl
@[simp] theorem inw_10_await : inD (.str ("await" : Str)) (.tuple [.str ("begin" : Str), .str ("await" : Str), .str ("end" : Str)]) = some (.bool true) := by kernel_rfl
@[simp] theorem niw_10_await : notInD (.str ("await" : Str)) (.tuple [.str ("begin" : Str), .str ("await" : Str), .str ("end" : Str)]) = some (.bool false) := by kernel_rfl
@[simp] theorem inw_10_woken : inD (.str ("woken" : Str)) (.tuple [.str ("begin" : Str), .str ("await" : Str), .str ("end" : Str)]) = some (.bool false) := by kernel_rfl
@[simp] theorem niw_10_woken : notInD (.str ("woken" : Str)) (.tuple [.str ("begin" : Str), .str ("await" : Str), .str ("end" : Str)]) = some (.bool true) := by kernel_rfl
@[simp] theorem inw_10_wake : inD (.str ("wake" : Str)) (.tuple [.str ("begin" : Str), .str ("await" : Str), .str ("end" : Str)]) = some (.bool false) := by kernel_rfl
@[simp] theorem niw_10_wake : notInD (.str ("wake" : Str)) (.tuple [.str ("begin" : Str), .str ("await" : Str), .str ("end" : Str)]) = some (.bool true) := by kernel_rfl
@[simp] theorem inw_10_wait : inD (.str ("wait" : Str)) (.tuple [.str ("begin" : Str), .str ("await" : Str), .str ("end" : Str)]) = some (.bool false) := by kernel_rfl
@[simp] theorem niw_10_wait : notInD (.str ("wait" : Str)) (.tuple [.str ("begin" : Str), .str ("await" : Str), .str ("end" : Str)]) = some (.bool true) := by kernel_rfl
@[simp] theorem inw_10_end : inD (.str ("end" : Str)) (.tuple [.str ("begin" : Str), .str ("await" : Str), .str ("end" : Str)]) = some (.bool true) := by kernel_rfl
@[simp] theorem niw_10_end : notInD (.str ("end" : Str)) (.tuple [.str ("begin" : Str), .str ("await" : Str), .str ("end" : Str)]) = some (.bool false) := by kernel_rfl
@[simp] theorem inw_11_read : inD (.str ("read" : Str)) (.tuple [.str ("send" : Str), .str ("get" : Str)]) = some (.bool false) := by kernel_rfl
@[simp] theorem niw_11_read : notInD (.str ("read" : Str)) (.tuple [.str ("send" : Str), .str ("get" : Str)]) = some (.bool true) := by kernel_rfl
@[simp] theorem inw_11_write : inD (.str ("write" : Str)) (.tuple [.str ("send" : Str), .str ("get" : Str)]) = some (.bool false) := by kernel_rfl
@[simp] theorem niw_11_write : notInD (.str ("write" : Str)) (.tuple [.str ("send" : Str), .str ("get" : Str)]) = some (.bool true) := by kernel_rfl
@[simp] theorem inw_11_send : inD (.str ("send" : Str)) (.tuple [.str ("send" : Str), .str ("get" : Str)]) = some (.bool true) := by kernel_rfl
@[simp] theorem niw_11_send : notInD (.str ("send" : Str)) (.tuple [.str ("send" : Str), .str ("get" : Str)]) = some (.bool false) := by kernel_rfl
@[simp] theorem inw_11_get : inD (.str ("get" : Str)) (.tuple [.str ("send" : Str), .str ("get" : Str)]) = some (.bool true) := by kernel_rfl
@[simp] theorem niw_11_get : notInD (.str ("get" : Str)) (.tuple [.str ("send" : Str), .str ("get" : Str)]) = some (.bool false) := by kernel_rfl
@[simp] theorem inw_11_take : inD (.str ("take" : Str)) (.tuple [.str ("send" : Str), .str ("get" : Str)]) = some (.bool false) := by kernel_rfl
@[simp] theorem niw_11_take : notInD (.str ("take" : Str)) (.tuple [.str ("send" : Str), .str ("get" : Str)]) = some (.bool true) := by kernel_rfl
@[simp] theorem inw_11_give : inD (.str ("give" : Str)) (.tuple [.str ("send" : Str), .str ("get" : Str)]) = some (.bool false) := by kernel_rfl
@[simp] theorem niw_11_give : notInD (.str ("give" : Str)) (.tuple [.str ("send" : Str), .str ("get" : Str)]) = some (.bool true) := by kernel_rfl
@[simp] theorem inw_11_begin : inD (.str ("begin" : Str)) (.tuple [.str ("send" : Str), .str ("get" : Str)]) = some (.bool false) := by kernel_rfl
@[simp] theorem niw_11_begin : notInD (.str ("begin" : Str)) (.tuple [.str ("send" : Str), .str ("get" : Str)]) = some (.bool true) := by kernel_rfl
@[simp] theorem inw_11_await : inD (.str ("await" : Str)) (.tuple [.str ("send" : Str), .str ("get" : Str)]) = some (.bool false) := by kernel_rfl
@[simp] theorem niw_11_await : notInD (.str ("await" : Str)) (.tuple [.str ("send" : Str), .str ("get" : Str)]) = some (.bool true) := by kernel_rfl
@[simp] theorem inw_11_woken : inD (.str ("woken" : Str)) (.tuple [.str ("send" : Str), .str ("get" : Str)]) = some (.bool false) := by kernel_rfl
@[simp] theorem niw_11_woken : notInD (.str ("woken" : Str)) (.tuple [.str ("send" : Str), .str ("get" : Str)]) = some (.bool true) := by kernel_rfl
@[simp] theorem inw_11_wake : inD (.str ("wake" : Str)) (.tuple [.str ("send" : Str), .str ("get" : Str)]) = some (.bool false) := by kernel_rfl
@[simp] theorem niw_11_wake : notInD (.str ("wake" : Str)) (.tuple [.str ("send" : Str), .str ("get" : Str)]) = some (.bool true) := by kernel_rfl
@[simp] theorem inw_11_wait : inD (.str ("wait" : Str)) (.tuple [.str ("send" : Str), .str ("get" : Str)]) = some (.bool false) := by kernel_rfl
@[simp] theorem niw_11_wait : notInD (.str ("wait" : Str)) (.tuple [.str ("send" : Str), .str ("get" : Str)]) = some (.bool true) := by kernel_rfl
@[simp] theorem inw_11_end : inD (.str ("end" : Str)) (.tuple [.str ("send" : Str), .str ("get" : Str)]) = some (.bool false) := by kernel_rfl
@[simp] theorem niw_11_end : notInD (.str ("end" : Str)) (.tuple [.str ("send" : Str), .str ("get" : Str)]) = some (.bool true) := by kernel_rfl
@[simp] theorem inw_12_read : inD (.str ("read" : Str)) (.tuple [.str ("take" : Str), .str ("give" : Str)]) = some (.bool false) := by kernel_rfl
@[simp] theorem niw_12_read : notInD (.str ("read" : Str)) (.tuple [.str ("take" : Str), .str ("give" : Str)]) = some (.bool true) := by kernel_rfl
@[simp] theorem inw_12_write : inD (.str ("write" : Str)) (.tuple [.str ("take" : Str), .str ("give" : Str)]) = some (.bool false) := by kernel_rfl
@[simp] theorem niw_12_write : notInD (.str ("write" : Str)) (.tuple [.str ("take" : Str), .str ("give" : Str)]) = some (.bool true) := by kernel_rfl
@[simp] theorem inw_12_send : inD (.str ("send" : Str)) (.tuple [.str ("take" : Str), .str ("give" : Str)]) = some (.bool false) := by kernel_rfl
@[simp] theorem niw_12_send : notInD (.str ("send" : Str)) (.tuple [.str ("take" : Str), .str ("give" : Str)]) = some (.bool true) := by kernel_rfl
@[simp] theorem inw_12_get : inD (.str ("get" : Str)) (.tuple [.str ("take" : Str), .str ("give" : Str)]) = some (.bool false) := by kernel_rfl
@[simp] theorem niw_12_get : notInD (.str ("get" : Str)) (.tuple [.str ("take" : Str), .str ("give" : Str)]) = some (.bool true) := by kernel_rfl
@[simp] theorem inw_12_take : inD (.str ("take" : Str)) (.tuple [.str ("take" : Str), .str ("give" : Str)]) = some (.bool true) := by kernel_rfl
@[simp] theorem niw_12_take : notInD (.str ("take" : Str)) (.tuple [.str ("take" : Str), .str ("give" : Str)]) = some (.bool false) := by kernel_rfl
@[simp] theorem inw_12_give : inD (.str ("give" : Str)) (.tuple [.str ("take" : Str), .str ("give" : Str)]) = some (.bool true) := by kernel_rfl
@[simp] theorem niw_12_give : notInD (.str ("give" : Str)) (.tuple [.str ("take" : Str), .str ("give" : Str)]) = some (.bool false) := by kernel_rfl
@[simp] theorem inw_12_begin : inD (.str ("begin" : Str)) (.tuple [.str ("take" : Str), .str ("give" : Str)]) = some (.bool false) := by kernel_rfl
@[simp] theorem niw_12_begin : notInD (.str ("begin" : Str)) (.tuple [.str ("take" : Str), .str ("give" : Str)]) = some (.bool true) := by kernel_rfl
@[simp] theorem inw_12_await : inD (.str ("await" : Str)) (.tuple [.str ("take" : Str), .str ("give" : Str)]) = some (.bool false) := by kernel_rfl
@[simp] theorem niw_12_await : notInD (.str ("await" : Str)) (.tuple [.str ("take" : Str), .str ("give" : Str)]) = some (.bool true) := by kernel_rfl
@[simp] theorem inw_12_woken : inD (.str ("woken" : Str)) (.tuple [.str ("take" : Str), .str ("give" : Str)]) = some (.bool false) := by kernel_rfl
@[simp] theorem niw_12_woken : notInD (.str ("woken" : Str)) (.tuple [.str ("take" : Str), .str ("give" : Str)]) = some (.bool true) := by kernel_rfl
@[simp] theorem inw_12_wake : inD (.str ("wake" : Str)) (.tuple [.str ("take" : Str), .str ("give" : Str)]) = some (.bool false) := by kernel_rfl
@[simp] theorem niw_12_wake : notInD (.str ("wake" : Str)) (.tuple [.str ("take" : Str), .str ("give" : Str)]) = some (.bool true) := by kernel_rfl
@[simp] theorem inw_12_wait : inD (.str ("wait" : Str)) (.tuple [.str ("take" : Str), .str ("give" : Str)]) = some (.bool false) := by kernel_rfl
@[simp] theorem niw_12_wait : notInD (.str ("wait" : Str)) (.tuple [.str ("take" : Str), .str ("give" : Str)]) = some (.bool true) := by kernel_rfl
@[simp] theorem inw_12_end : inD (.str ("end" : Str)) (.tuple [.str ("take" : Str), .str ("give" : Str)]) = some (.bool false) := by kernel_rfl
@[simp] theorem niw_12_end : notInD (.str ("end" : Str)) (.tuple [.str ("take" : Str), .str ("give" : Str)]) = some (.bool true) := by kernel_rfl
@[simp] theorem lkn_read : kt_NAMES.lookup ("read" : Str) = some (.int 1) := by kernel_rfl
@[simp] theorem lkh_read : kt_HEARD.lookup ("read" : Str) = some (.int 1) := by kernel_rfl
@[simp] theorem inv_read : inD (.str ("read" : Str)) kd_VALUES = some (.bool true) := by kernel_rfl
@[simp] theorem lkn_write : kt_NAMES.lookup ("write" : Str) = some (.int 1) := by kernel_rfl
@[simp] theorem lkh_write : kt_HEARD.lookup ("write" : Str) = none := by kernel_rfl
@[simp] theorem inv_write : inD (.str ("write" : Str)) kd_VALUES = some (.bool true) := by kernel_rfl
@[simp] theorem lkn_send : kt_NAMES.lookup ("send" : Str) = some (.int 1) := by kernel_rfl
@[simp] theorem lkh_send : kt_HEARD.lookup ("send" : Str) = none := by kernel_rfl
@[simp] theorem inv_send : inD (.str ("send" : Str)) kd_VALUES = some (.bool true) := by kernel_rfl
@[simp] theorem lkn_get : kt_NAMES.lookup ("get" : Str) = some (.int 1) := by kernel_rfl
@[simp] theorem lkh_get : kt_HEARD.lookup ("get" : Str) = some (.int 1) := by kernel_rfl
@[simp] theorem inv_get : inD (.str ("get" : Str)) kd_VALUES = some (.bool true) := by kernel_rfl
@[simp] theorem lkn_take : kt_NAMES.lookup ("take" : Str) = some (.int 1) := by kernel_rfl
@[simp] theorem lkh_take : kt_HEARD.lookup ("take" : Str) = none := by kernel_rfl
@[simp] theorem inv_take : inD (.str ("take" : Str)) kd_VALUES = some (.bool false) := by kernel_rfl
@[simp] theorem lkn_give : kt_NAMES.lookup ("give" : Str) = some (.int 1) := by kernel_rfl
@[simp] theorem lkh_give : kt_HEARD.lookup ("give" : Str) = none := by kernel_rfl
@[simp] theorem inv_give : inD (.str ("give" : Str)) kd_VALUES = some (.bool false) := by kernel_rfl
@[simp] theorem lkn_begin : kt_NAMES.lookup ("begin" : Str) = some (.int 1) := by kernel_rfl
@[simp] theorem lkh_begin : kt_HEARD.lookup ("begin" : Str) = none := by kernel_rfl
@[simp] theorem inv_begin : inD (.str ("begin" : Str)) kd_VALUES = some (.bool false) := by kernel_rfl
@[simp] theorem lkn_await : kt_NAMES.lookup ("await" : Str) = some (.int 1) := by kernel_rfl
@[simp] theorem lkh_await : kt_HEARD.lookup ("await" : Str) = none := by kernel_rfl
@[simp] theorem inv_await : inD (.str ("await" : Str)) kd_VALUES = some (.bool false) := by kernel_rfl
@[simp] theorem lkn_woken : kt_NAMES.lookup ("woken" : Str) = some (.int 1) := by kernel_rfl
@[simp] theorem lkh_woken : kt_HEARD.lookup ("woken" : Str) = none := by kernel_rfl
@[simp] theorem inv_woken : inD (.str ("woken" : Str)) kd_VALUES = some (.bool false) := by kernel_rfl
@[simp] theorem lkn_wake : kt_NAMES.lookup ("wake" : Str) = some (.int 1) := by kernel_rfl
@[simp] theorem lkh_wake : kt_HEARD.lookup ("wake" : Str) = none := by kernel_rfl
@[simp] theorem inv_wake : inD (.str ("wake" : Str)) kd_VALUES = some (.bool false) := by kernel_rfl
@[simp] theorem lkn_wait : kt_NAMES.lookup ("wait" : Str) = some (.int 2) := by kernel_rfl
@[simp] theorem lkh_wait : kt_HEARD.lookup ("wait" : Str) = none := by kernel_rfl
@[simp] theorem inv_wait : inD (.str ("wait" : Str)) kd_VALUES = some (.bool false) := by kernel_rfl
@[simp] theorem lkn_end : kt_NAMES.lookup ("end" : Str) = some (.int 0) := by kernel_rfl
@[simp] theorem lkh_end : kt_HEARD.lookup ("end" : Str) = none := by kernel_rfl
@[simp] theorem inv_end : inD (.str ("end" : Str)) kd_VALUES = some (.bool false) := by kernel_rfl
@[simp] theorem eqD_bool {a b : Bool} : eqD (.bool a) (.bool b) = some (.bool (a == b)) := by rw [eqD_of shaped_bool shaped_bool]; simp [PyData.eqv]
@[simp] theorem neD_bool {a b : Bool} : neD (.bool a) (.bool b) = some (.bool (!(a == b))) := by rw [neD_of shaped_bool shaped_bool]; simp [PyData.eqv]
@[simp] theorem eqD_wd {x y : Wd} : eqD (.str x.1) (.str y.1) = some (.bool (decide (x = y))) := eqD_py (by decide) x y
@[simp] theorem neD_wd {x y : Wd} : neD (.str x.1) (.str y.1) = some (.bool (!decide (x = y))) := neD_py (by decide) x y
@[simp] theorem eqD_de {x y : De} : eqD x.py y.py = some (.bool (decide (x = y))) := eqD_py (by decide) x y
end PK
end
section
set_option Elab.async false
set_option linter.all false
set_option maxRecDepth 100000
set_option maxHeartbeats 600000
set_option autoImplicit false
namespace PK
open PySem PySem.Spec PyProof.Rows L2 Ev
open Py (py)
@[simp] theorem atI_last {α : Type} (l : List α) : atI l (-1) = l.getLast? := by
  unfold atI ixN
  cases l with
  | nil => rfl
  | cons a r =>
    have h1 : -((a :: r).length : Int) ≤ -1 := by rw [List.length_cons]; omega
    have h2 : (-1 + ((a :: r).length : Int)).toNat = r.length := by rw [List.length_cons]; omega
    rw [if_neg (by decide), if_pos h1, h2, List.getLast?_eq_getElem?]
    simp
/-! ## locks_of -/
def bpy : Option De → PyData
  | none => .tuple [.str ("" : Str)]
  | some d => d.py
def bw : Option De → Str
  | none => ""
  | some d => d.wd
def isNd : Option De → Bool
  | some .nd => true
  | _ => false
def isWt : Option De → Bool
  | some (.wt _ _) => true
  | _ => false
theorem bpy_eq (b : Option De) : bpy b = .tuple (.str (bw b) :: (match b with | none => [] | some d => d.args)) := by
  cases b with
  | none => rfl
  | some d => exact De.py_eq d
@[simp] theorem bpy_0 (b : Option De) : ixD (bpy b) 0 = some (.str (bw b)) := by rw [bpy_eq]; simp
@[simp] theorem bpy_1 (c l : Wd) : ixD (bpy (some (.wt c l))) 1 = some (.str c.1) := rfl
@[simp] theorem bpy_2 (c l : Wd) : ixD (bpy (some (.wt c l))) 2 = some (.str l.1) := rfl
@[simp] theorem bw_end (b : Option De) : eqD (.str (bw b)) (.str ("end" : Str)) = some (.bool (isNd b)) := by
  cases b with
  | none => simp [bw, isNd]
  | some d => cases d <;> simp [bw, De.wd, isNd]
@[simp] theorem bw_wait (b : Option De) : eqD (.str (bw b)) (.str ("wait" : Str)) = some (.bool (isWt b)) := by
  cases b with
  | none => simp [bw, isWt]
  | some d => cases d <;> simp [bw, De.wd, isWt]
def stepL (b : Option De) (d : De) (s : List Wd × Option Wd) : Option (List Wd × Option Wd) :=
  match b, d with
  | some .nd, _ => none
  | some (.wt c _), .wn x => if x = c then some (s.1 ++ s.2.toList, s.2) else none
  | some (.wt _ _), _ => none
  | _, .wn _ => none
  | _, .tk x => if x ∈ s.1 then none else some (s.1 ++ [x], s.2)
  | _, .gv x => if x ∈ s.1 then some (s.1.filter (· ≠ x), some x) else none
  | _, .wt _ l => if l ∈ s.1 then some (s.1.filter (· ≠ l), some l) else none
  | _, _ => some s
def runL : Option De → List De → List Wd × Option Wd → Option (List Wd)
  | _, [], s => some s.1
  | b, d :: r, s => match stepL b d s with
    | none => none
    | some s' => runL (some d) r s'
def locksL (ds : List De) : Option (List Wd) := runL none ds ([], none)
def lockW : Option (List Wd) → PyData
  | none => .none
  | some xs => .list (xs.map py)
def optW : Option Wd → PyData
  | none => .none
  | some z => .str z.1
theorem enumL_drop {α : Type} (g : α → PyData) : ∀ (l : List α) (k : Nat), enumL k (l.map g) = (l.zipIdx k).map fun p => .tuple [.int (p.2 : Int), g p.1]
  | [], _ => rfl
  | a :: l, k => by
    show _ :: enumL (k + 1) (l.map g) = _
    rw [enumL_drop g l (k + 1)]; rfl
theorem last_ix {done rest : List De} {b : De} (h : done.getLast? = some b) : atI ((done ++ rest).map De.py) ((done.length : Int) - 1) = some b.py := by
  obtain ⟨ys, rfl⟩ := List.getLast?_eq_some_iff.mp h
  have e : (((ys ++ [b]).length : Int) - 1) = (ys.length : Int) := by simp
  rw [e, Ev.atI_nat]
  simp
theorem eqD_str_wd (x y : Wd) : eqD (.str x.1) (.str y.1) = some (.bool (decide (x = y))) := eqD_wd
theorem in_held (x : Wd) (l : List Wd) : inD (.str x.1) (.list (l.map py)) = some (.bool (decide (x ∈ l))) := inD_lst (by decide) x l
theorem notin_held (x : Wd) (l : List Wd) : notInD (.str x.1) (.list (l.map py)) = some (.bool (!decide (x ∈ l))) := notInD_lst (by decide) x l
theorem flt_held {ρ : Ev.Env} {st : Sto} {K : Kt W} {E : Ex → Sto → Prop} (l : List Wd) (x : Wd) (i j : Nat) (hj : (ρ.set i none)[j]? = some (some (.w (.d (.str x.1))))) (hi : i < ρ.length) (hij : i ≠ j) (q : K.q (.d (.list ((l.filter (· ≠ x)).map py))) st) :
    @qM _ (compL always [i] (aName i) (toB (Ev.bin (onW neD) (getV i) (getV j))) (getV i) ρ (l.map py) []) st ⟨fun ws s => @qM W (asData ws) s K, E⟩ := by
  refine lc_flt (fun z : Wd => py z) (fun z => py z) (fun z => decide (z ≠ x)) l (fun z hz => ⟨_, rfl, ?_, fun _ => ?_⟩) q
  · apply gt_of
    have h1 : (List.set ρ i (some (Sl.w (W.d (PyData.str z.1)))))[j]? = some (some (.w (.d (.str x.1)))) := by
      rw [List.getElem?_set_ne hij] at hj ⊢; exact hj
    have h2 : (List.set ρ i (some (Sl.w (W.d (PyData.str z.1)))))[i]? = some (some (.w (.d (.str z.1)))) := by rw [List.getElem?_set_self hi]
    simp [getO, h1, h2, py_wd]
  · apply fe_of
    have h2 : (List.set ρ i (some (Sl.w (W.d (PyData.str z.1)))))[i]? = some (some (.w (.d (.str z.1)))) := by rw [List.getElem?_set_self hi]
    simp [getO, h2, py_wd]
end PK
end
section
set_option Elab.async false
set_option linter.all false
set_option maxRecDepth 100000
set_option maxHeartbeats 600000
set_option autoImplicit false
namespace PK
open PySem PySem.Spec PyProof.Rows L2 Ev
open Py (py)
theorem stepL_len {b : Option De} {d : De} {s s' : List Wd × Option Wd} (h : stepL b d s = some s') : s'.1.length ≤ s.1.length + 1 := by
  have hf : ∀ x : Wd, (s.1.filter (· ≠ x)).length ≤ s.1.length := fun x => List.length_filter_le _ _
  unfold stepL at h
  split at h <;> (try (cases h; done)) <;> (try split at h) <;> (try (cases h; done)) <;> cases Option.some.inj h <;> simp <;> first
    | (cases s.2 <;> simp; done)
    | (have := hf; simp at this; exact Nat.le_succ_of_le (this _))
    | omega
def LI (ds : List De) (st : Sto) (r : List (De × Nat)) (ρ : Ev.Env) (s : Sto) : Prop := ∃ (done rest : List De) (held : List Wd) (lock : Option Wd) (x3 x4 x5 x6 : Option Sl), ds = done ++ rest ∧ r = rest.zipIdx done.length ∧ s = st ∧
      ρ = [some (.w (.d (.tuple (ds.map De.py)))), some (.w (.d (.list (held.map py)))), some (.w (.d (optW lock))), x3, x4, x5, x6] ∧ runL done.getLast? rest (held, lock) = locksL ds ∧ held.length ≤ done.length ∧ (isWt done.getLast? = true → lock.isSome = true)
theorem locks_ok {ds : List De} (hl : ds.length ≤ 200) (st : Sto) {Q : W → Sto → Prop} {E : Ex → Sto → Prop} (q : Q (.d (lockW (locksL ds))) st) : wpM (f_locks_of [W.d (.tuple (ds.map De.py))]) st Q E := by
  unfold f_locks_of b_locks_of
  simp [startE, N_locks_of, enumL_drop]
  refine wp_loop_map (fun p : De × Nat => PyData.tuple [.int (p.2 : Int), p.1.py]) (LI ds st) (fun p r ρ s hi => ?_) (fun ρ s hi => ?_) _ _ _ ?_
  · obtain ⟨done, rest, held, lock, x3, x4, x5, x6, e1, e2, rfl, rfl, e3, e4, e5⟩ := hi
    cases rest with
    | nil => cases e2
    | cons d rest =>
      rw [List.zipIdx_cons] at e2
      injection e2 with e2 e2'
      subst e2 e2'
      refine ⟨_, rfl, ?_⟩
      have hlen : done.length + rest.length + 1 ≤ 200 := by rw [e1] at hl; simp at hl; omega
      have s1 : ∀ z : Wd, (held.map py).length + [PyData.str z.1].length ≤ sizeLine := fun z => by rw [List.length_map, sizeLine_eq]; simp; omega
      have e6 : ds = (done ++ [d]) ++ rest := by rw [e1]; simp
      have e7 : (done ++ [d]).getLast? = some d := by simp
      have e8 : (done ++ [d]).length = done.length + 1 := by simp
      have nxt : ∀ (held' : List Wd) (lock' : Option Wd) (x3 x4 x5 x6 : Option Sl), stepL done.getLast? d (held, lock) = some (held', lock') → (isWt (some d) = true → lock'.isSome = true) →
          LI ds s (rest.zipIdx (done.length + 1)) [some (Sl.w (.d (.tuple (ds.map De.py)))), some (.w (.d (.list (held'.map py)))), some (.w (.d (optW lock'))), x3, x4, x5, x6] s := fun held' lock' x3 x4 x5 x6 h1 h2 => by
        refine ⟨done ++ [d], rest, held', lock', x3, x4, x5, x6, e6, by rw [e8], rfl, rfl, ?_, ?_, ?_⟩
        · rw [e7, ← e3, runL, h1]
        · have := stepL_len h1; rw [e8]; simp at this; omega
        · rw [e7]; exact h2
      have stop : stepL done.getLast? d (held, lock) = none → Q (.d .none) s := fun h => by
        rw [← e3, runL, h] at q; exact q
      have hbef : ∀ K : Kt W, K.q (.d (bpy done.getLast?)) s → @qM W (ifW (toB (Ev.bin (onD gtD) (getV 3) fun x => Ev.ret (W.d (PyData.int 0)))) (Ev.bin ixW (getV 0) (Ev.bin (onD subD) (getV 3) fun x => Ev.ret (W.d (PyData.int 1)))) (mkTup (consA (fun x => Ev.ret (W.d (PyData.str ("" : Str)))) fun x => Ev.ret []))
          [some (.w (.d (.tuple (ds.map De.py)))), some (.w (.d (.list (held.map py)))), some (.w (.d (optW lock))), some (.w (.d (.int (done.length : Int)))), some (.w (.d d.py)), x5, x6]) s K := by
        intro K hK
        cases hg : done.getLast? with
        | none =>
          rw [hg] at hK
          rw [List.getLast?_eq_none_iff] at hg
          subst hg
          simp
          exact hK
        | some b =>
          rw [hg] at hK
          have h0 : 0 < done.length := by cases done with | nil => cases hg | cons => simp
          have hix : ixD (.tuple (ds.map De.py)) ((done.length : Int) - 1) = some b.py := by rw [e1]; exact last_ix hg
          simp [h0, hix]
          exact hK
      rw [qS_in2, r_seq, r_asg]
      refine hbef _ ?_
      generalize hbb : done.getLast? = b at *
      clear hbef
      cases hn : isNd b with
      | true =>
        have : stepL b d (held, lock) = none := by
          cases b with
          | none => cases hn
          | some b => cases b <;> first | (cases hn; done) | rfl
        simp [hn]
        exact stop this
      | false =>
        cases hw : isWt b with
        | true =>
          cases b with
          | none => cases hw
          | some b =>
            cases b with
            | wt c l =>
              obtain ⟨k, rfl⟩ := Option.isSome_iff_exists.mp (e5 rfl)
              cases d with
              | wn x =>
                by_cases hx : x = c
                · subst hx
                  simp [hn, hw, De.py, optW, addD_lst (s1 k)]
                  have := nxt (held ++ [k]) (some k) (some (.w (.d (.int (done.length : Int))))) (some (.w (.d (De.wn x).py))) (some (.w (.d (bpy (some (.wt x l)))))) x6 (by simp [stepL]) nofun
                  simpa [De.py, optW, py_wd] using this
                · simp [hn, hw, De.py, hx]
                  exact stop (by simp [stepL, hx])
              | _ => simp [hn, hw, De.py]; exact stop rfl
            | _ => cases hw
        | false =>
          have sb : ∀ d : De, (match d with | .wn _ => False | .tk _ => False | .gv _ => False | .wt _ _ => False | _ => True) → stepL b d (held, lock) = some (held, lock) := by
            intro d hd
            cases b with
            | none => cases d <;> first | rfl | exact hd.elim
            | some b => cases b <;> first | (cases hn; done) | (cases hw; done) | (cases d <;> first | rfl | exact hd.elim)
          have st1 : ∀ x : Wd, stepL b (.tk x) (held, lock) = if x ∈ held then none else some (held ++ [x], lock) := by
            intro x
            cases b with
            | none => rfl
            | some b => cases b <;> first | (cases hn; done) | (cases hw; done) | rfl
          have st2 : ∀ x : Wd, stepL b (.gv x) (held, lock) = if x ∈ held then some (held.filter (· ≠ x), some x) else none := by
            intro x
            cases b with
            | none => rfl
            | some b => cases b <;> first | (cases hn; done) | (cases hw; done) | rfl
          have st3 : ∀ c x : Wd, stepL b (.wt c x) (held, lock) = if x ∈ held then some (held.filter (· ≠ x), some x) else none := by
            intro c x
            cases b with
            | none => rfl
            | some b => cases b <;> first | (cases hn; done) | (cases hw; done) | rfl
          have st4 : ∀ x : Wd, stepL b (.wn x) (held, lock) = none := by
            intro x
            cases b with
            | none => rfl
            | some b => cases b <;> first | (cases hn; done) | (cases hw; done) | rfl
          have hl1 : (held.map py).length < 16777216 := by rw [List.length_map]; omega
          cases d with
          | wn x => simp [hn, hw, De.py]; exact stop (st4 x)
          | tk x =>
            by_cases hx : x ∈ held
            · simp [hn, hw, De.py, in_held, hx]; exact stop (by rw [st1, if_pos hx])
            · simp [hn, hw, De.py, in_held, hx, addD_lst (s1 x)]
              have := nxt (held ++ [x]) lock (some (.w (.d (.int (done.length : Int))))) (some (.w (.d (De.tk x).py))) (some (.w (.d (bpy b)))) x6 (by rw [st1, if_neg hx]) nofun
              simpa [De.py, optW, py_wd] using this
          | gv x =>
            by_cases hx : x ∈ held
            · have hl1 : held.length < 16777216 := by omega
              simp [hn, hw, De.py, notin_held, hx, hl1]
              refine flt_held held x 6 2 rfl (by simp) (by decide) ?_
              have := nxt (held.filter (· ≠ x)) (some x) (some (.w (.d (.int (done.length : Int))))) (some (.w (.d (De.gv x).py))) (some (.w (.d (bpy b)))) x6 (by rw [st2, if_pos hx]) nofun
              simpa [De.py, optW, py_wd] using this
            · simp [hn, hw, De.py, notin_held, hx]; exact stop (by rw [st2, if_neg hx])
          | wt c x =>
            by_cases hx : x ∈ held
            · have hl1 : held.length < 16777216 := by omega
              simp [hn, hw, De.py, notin_held, hx, hl1]
              refine flt_held held x 6 2 rfl (by simp) (by decide) ?_
              have := nxt (held.filter (· ≠ x)) (some x) (some (.w (.d (.int (done.length : Int))))) (some (.w (.d (De.wt c x).py))) (some (.w (.d (bpy b)))) x6 (by rw [st3, if_pos hx]) (fun _ => rfl)
              simpa [De.py, optW, py_wd] using this
            · simp [hn, hw, De.py, notin_held, hx]; exact stop (by rw [st3, if_neg hx])
          | _ =>
            simp [hn, hw, De.py]
            exact nxt held lock _ _ _ _ (sb _ trivial) nofun
  · obtain ⟨done, rest, held, lock, x3, x4, x5, x6, e1, e2, rfl, rfl, e3, _⟩ := hi
    cases rest with
    | nil => simp; simp [runL] at e3; rw [← e3] at q; exact q
    | cons d rest => cases e2
  · exact ⟨[], ds, [], none, none, none, none, none, rfl, rfl, rfl, rfl, rfl, Nat.le_refl _, nofun⟩
end PK
end
section
set_option Elab.async false
set_option linter.all false
set_option maxRecDepth 100000
set_option maxHeartbeats 600000
set_option autoImplicit false
namespace Ev
theorem getO_setS {ρ : Env} {i : Nat} {w : W} (h : i < ρ.length) : getO (ρ.set i (some (.w w))) i = some w := by
  unfold getO; rw [List.getElem?_set_self h]
theorem getO_setN {ρ : Env} {i j : Nat} {x : Option Sl} (h : i ≠ j) : getO (ρ.set i x) j = getO ρ j := by
  unfold getO; rw [List.getElem?_set_ne h]
end Ev
namespace PK
open PySem PySem.Spec PyProof.Rows L2 Ev
open Py (py)
/-! ## histories -/
theorem sortS_nodup {xs : List Str} : (sortS xs).length = xs.length ↔ xs.Nodup := by
  constructor
  · intro h
    induction xs with
    | nil => exact List.nodup_nil
    | cons x l ih =>
      by_cases hx : x ∈ l
      · exfalso
        have h1 : (sortS (x :: l)).length ≤ l.length := nodup_sub _ _ (up_nodup (up_sortS _)) fun y hy => by
          rcases List.mem_cons.mp (mem_sortS.mp hy) with rfl | h
          · exact hx
          · exact h
        rw [h, List.length_cons] at h1
        omega
      · have h1 : (sortS (x :: l)).length ≤ (x :: sortS l).length := nodup_sub _ _ (up_nodup (up_sortS _)) fun y hy => by
          rcases List.mem_cons.mp (mem_sortS.mp hy) with rfl | h
          · exact List.mem_cons_self
          · exact List.mem_cons_of_mem _ (mem_sortS.mpr h)
        have h2 : (sortS l).length ≤ l.length := nodup_sub _ _ (up_nodup (up_sortS _)) fun y hy => mem_sortS.mp hy
        rw [h, List.length_cons, List.length_cons] at h1
        exact List.nodup_cons.mpr ⟨hx, ih (by omega)⟩
  · intro h
    have h1 : (sortS xs).length ≤ xs.length := nodup_sub _ _ (up_nodup (up_sortS _)) fun y hy => mem_sortS.mp hy
    have h2 : xs.length ≤ (sortS xs).length := nodup_sub _ _ h fun y hy => mem_sortS.mpr hy
    omega
theorem lenSet_wd {st : Sto} (l : List Wd) (hl : l.length < 4000) : lenSetW st (.d (.list (l.map py))) = some (.d (.int (sortS (l.map (·.1))).length)) := by
  have e : l.map py = (l.map (·.1)).map PyData.str := by rw [List.map_map]; rfl
  unfold lenSetW textsW seqW
  rw [e]
  show (strsD ((l.map (·.1)).map PyData.str)).bind _ = _
  rw [strsD_map]
  exact if_pos (by rw [List.length_map]; exact hl)
def wRoot : Wd := ⟨("root" : Str), by decide +kernel⟩
theorem notin_root (l : List Wd) : notInD (.str ("root" : Str)) (.list (l.map py)) = some (.bool (!decide (wRoot ∈ l))) := notin_held wRoot l
def begunL (ds : List De) : List Wd := ds.filterMap fun d => match d with
  | .bg x => some x
  | _ => none
def isBg : De → Bool
  | .bg _ => true
  | _ => false
def arg1 : De → PyData
  | .bg x => .str x.1
  | _ => .none
theorem begun_map : ∀ ds : List De, (ds.filter isBg).map arg1 = (begunL ds).map py
  | [] => rfl
  | d :: ds => by
    have ih := begun_map ds
    cases d with
    | bg x => exact congrArg (PyData.str x.1 :: ·) ih
    | _ => exact ih
theorem begun_len (ds : List De) : (begunL ds).length ≤ ds.length := List.length_filterMap_le _ _
theorem lc_begun {ρ : Ev.Env} {st : Sto} {K : Kt W} {E : Ex → Sto → Prop} (i : Nat) (hi : i < ρ.length) (ds : List De) (q : K.q (.d (.list ((begunL ds).map py))) st) :
    @qM _ (compL always [i] (aName i) (toB (Ev.bin (onW eqD) (Ev.bin ixW (getV i) fun _ => Ev.ret (W.d (.int 0))) fun _ => Ev.ret (W.d (.str ("begin" : Str))))) (Ev.bin ixW (getV i) fun _ => Ev.ret (W.d (.int 1))) ρ (ds.map De.py) []) st ⟨fun ws s => @qM W (asData ws) s K, E⟩ := by
  refine lc_flt De.py arg1 isBg ds (fun d hd => ⟨_, rfl, ?_, fun hb => ?_⟩) (by rw [begun_map]; exact q)
  · apply gt_of
    have h2 : ∀ w : W, getO (List.set ρ i (some (Sl.w w))) i = some w := fun w => getO_setS hi
    cases d <;> simp [h2, De.py] <;> rfl
  · apply fe_of
    have h2 : ∀ w : W, getO (List.set ρ i (some (Sl.w w))) i = some w := fun w => getO_setS hi
    cases d <;> first | (cases hb; done) | simp [h2, De.py, arg1]
theorem q_deed {d : De} {st : Sto} {K : Kt W} : @qM W (f_fits_deed [W.d d.py]) st K = K.q (W.d (.bool true)) st := qM_ok (fits_deed_ok d.deed st)
theorem lc_deeds {ρ : Ev.Env} {st : Sto} {K : Kt W} {E : Ex → Sto → Prop} (i : Nat) (hi : i < ρ.length) (ds : List De) (q : K.q (.d (.list (ds.map fun _ => .bool true))) st) :
    @qM _ (compL always [i] (aName i) (fun _ => Ev.ret true) (callU 1 f_fits_deed (consA (getV i) fun _ => Ev.ret [])) ρ (ds.map De.py) []) st ⟨fun ws s => @qM W (asData ws) s K, E⟩ := by
  refine lc_map De.py (fun _ => .bool true) ds (fun d hd => ⟨_, rfl, rfl, ?_⟩) q
  apply fe_of
  have h2 : (List.set ρ i (some (Sl.w (W.d d.py))))[i]? = some (some (.w (.d d.py))) := by rw [List.getElem?_set_self hi]
  simp [getO, h2, q_deed]
theorem allW_true {α : Type} (l : List α) {st : Sto} : allW st (.d (.list (l.map fun _ => .bool true))) = some (.d (.bool true)) := by
  rw [allW_fn fun _ => true]; simp
def okHist (ds : List De) : Bool := decide (ds.length ≤ 64) && (!decide (wRoot ∈ begunL ds) && (decide (begunL ds).Nodup && (locksL ds).isSome))
theorem wd_nodup (l : List Wd) : (l.map (·.1)).Nodup ↔ l.Nodup := by
  rw [List.nodup_iff_pairwise_ne, List.nodup_iff_pairwise_ne, List.pairwise_map]
  constructor
  · intro h; exact h.imp fun {a b} hab e => hab (by rw [e])
  · intro h; exact h.imp fun {a b} hab e => hab (Wd.ext e)
theorem hist_ok {ds : List De} (hl : ds.length ≤ 200) {st : Sto} {Q : W → Sto → Prop} {E : Ex → Sto → Prop} (q : Q (.d (.bool (okHist ds))) st) : wpM (f_fits_history [W.d (.tuple (ds.map De.py))]) st Q E := by
  unfold f_fits_history b_fits_history
  by_cases h1 : ds.length ≤ 64
  · have g1 : ¬ (64 : Int) < ds.length := by omega
    have g2 : ds.length < 16777216 := by omega
    simp [startE, N_fits_history, isTyD, kd_OWN, g1, g2]
    refine lc_deeds 2 (by simp) ds ?_
    simp [allW_true, g2]
    refine lc_begun 2 (by simp) ds ?_
    have hb := begun_len ds
    have hset := lenSet_wd (st := st) (begunL ds) (by omega)
    have hnd : (((sortS ((begunL ds).map (·.1))).length : Int) == ((begunL ds).length : Int)) = decide (begunL ds).Nodup := by
      have e := sortS_nodup (xs := (begunL ds).map (·.1))
      rw [List.length_map, wd_nodup] at e
      by_cases hn : (begunL ds).Nodup
      · rw [decide_eq_true hn, e.mpr hn]; simp
      · rw [decide_eq_false hn, beq_eq_false_iff_ne]
        intro h; exact hn (e.mp (by omega))
    cases hr : decide (wRoot ∈ begunL ds) with
    | true =>
      simp [notin_root, hr]; simpa [okHist, hr] using q
    | false =>
      cases hn : decide (begunL ds).Nodup with
      | false => simp [notin_root, hr, hset, hnd, hn]; simpa [okHist, hr, hn] using q
      | true =>
        simp [notin_root, hr, hset, hnd, hn]
        refine locks_ok hl _ ?_
        cases hk : locksL ds with
        | none => simp [lockW, pyIsNot, isB, isNone]; simpa [okHist, hr, hn, hk] using q
        | some held => simp [lockW, pyIsNot, isB, isNone]; simpa [okHist, h1, hr, hn, hk] using q
  · have g1 : (64 : Int) < ds.length := by omega
    simp [startE, N_fits_history, isTyD, kd_OWN, g1]
    simpa [okHist, h1] using q
end PK
end
section
set_option Elab.async false
set_option linter.all false
set_option maxRecDepth 100000
set_option maxHeartbeats 600000
set_option autoImplicit false
namespace PK
open PySem PySem.Spec PyProof.Rows L2 Ev
open Py (py)
/-! ## k01: what the law reckons of locks -/
def gotB (b : Option De) (d : De) (x : Wd) : Bool := decide (d = .tk x) || (match b, d with
  | some (.wt _ l), .wn _ => decide (l = x)
  | _, _ => false)
def gaveB (d : De) (x : Wd) : Bool := decide (d = .gv x) || (match d with
  | .wt _ l => decide (l = x)
  | _ => false)
def oneT (b : Option De) (d : De) (x : Wd) : List Int := (if gotB b d x = true then [1] else []) ++ (if gaveB d x = true then [-1] else [])
def takesF (x : Wd) : Option De → List De → List Int
  | _, [] => []
  | b, d :: r => oneT b d x ++ takesF x (some d) r
theorem one_len (b : Option De) (d : De) (x : Wd) : (oneT b d x).length ≤ 2 := by unfold oneT; split <;> split <;> simp
theorem takes_len (x : Wd) : ∀ (b : Option De) (ds : List De), (takesF x b ds).length ≤ 2 * ds.length
  | _, [] => by simp [takesF]
  | b, d :: r => by
    have h1 := one_len b d x
    have h2 := takes_len x (some d) r
    simp only [takesF, List.length_append, List.length_cons]; omega
theorem takes_snoc (x : Wd) (d : De) : ∀ (b : Option De) (ds : List De), takesF x b (ds ++ [d]) = takesF x b ds ++ oneT (match ds.getLast? with | some c => some c | none => b) d x
  | b, [] => by simp [takesF]
  | b, c :: r => by
    have ih := takes_snoc x d (some c) r
    rw [List.cons_append]
    simp only [takesF]
    rw [ih]
    cases h : r.getLast? with
    | none => rw [List.getLast?_eq_none_iff] at h; subst h; simp
    | some z =>
      have : (c :: r).getLast? = some z := by rw [List.getLast?_cons, h]; rfl
      rw [this]
      simp
def intsW (l : List Int) : List W := l.map fun i => W.d (.int i)
theorem eq_tk (d : De) (x : Wd) : eqD d.py (.tuple [.str ("take" : Str), .str x.1]) = some (.bool (decide (d = .tk x))) := eqD_py (by decide) d (.tk x)
theorem eq_gv (d : De) (x : Wd) : eqD d.py (.tuple [.str ("give" : Str), .str x.1]) = some (.bool (decide (d = .gv x))) := eqD_py (by decide) d (.gv x)
@[simp] theorem de_0 (d : De) : ixD d.py 0 = some (.str d.wd) := by rw [De.py_eq]; simp
def isWn : De → Bool
  | .wn _ => true
  | _ => false
def isWt' : De → Bool
  | .wt _ _ => true
  | _ => false
@[simp] theorem wd_woken (d : De) : eqD (.str d.wd) (.str ("woken" : Str)) = some (.bool (isWn d)) := by cases d <;> simp [De.wd, isWn]
@[simp] theorem wd_wait (d : De) : eqD (.str d.wd) (.str ("wait" : Str)) = some (.bool (isWt' d)) := by cases d <;> simp [De.wd, isWt']
@[simp] theorem wt_2 (c l : Wd) : ixD (De.wt c l).py 2 = some (.str l.1) := rfl
@[simp] theorem intsW_nil : intsW [] = [] := rfl
theorem intsW_1 : intsW [1] = [W.d (.int 1)] := rfl
theorem intsW_m : intsW [-1] = [W.d (.int (-1))] := rfl
theorem isWt_ex {b : Option De} (h : isWt b = true) : ∃ c l, b = some (.wt c l) := by
  cases b with
  | none => cases h
  | some b => cases b <;> first | (cases h; done) | exact ⟨_, _, rfl⟩
theorem bef_ok {done rest : List De} {n : Nat} {ρ : Ev.Env} {s : Sto} (i : Nat) (h0 : getO ρ 0 = some (.d (.tuple ((done ++ rest).map De.py)))) (hi : getO ρ i = some (.d (.int (done.length : Int)))) (K : Kt W) (hK : K.q (.d (bpy done.getLast?)) s) :
    @qM W (ifW (toB (Ev.bin (onD gtD) (getV i) fun x => Ev.ret (W.d (PyData.int 0)))) (Ev.bin ixW (getV 0) (Ev.bin (onD subD) (getV i) fun x => Ev.ret (W.d (PyData.int 1)))) (mkTup (consA (fun x => Ev.ret (W.d (PyData.str ("" : Str)))) fun x => Ev.ret []))
          ρ) s K := by
  cases hg : done.getLast? with
  | none =>
    rw [hg] at hK
    rw [List.getLast?_eq_none_iff] at hg
    subst hg
    simp [hi]
    exact hK
  | some b =>
    rw [hg] at hK
    have h0' : 0 < done.length := by cases done with | nil => cases hg | cons => simp
    have hix : ixD (.tuple ((done ++ rest).map De.py)) ((done.length : Int) - 1) = some b.py := last_ix hg
    simp only [ixD_tup] at hix
    rw [r_ifW]
    simp [hi, h0', h0, hix]
    rw [← List.map_append, hix]
    exact hK
def TI (ds : List De) (x : Wd) (st : Sto) (r : List (De × Nat)) (ρ : Ev.Env) (s : Sto) : Prop := ∃ (done rest : List De) (x3 x4 x5 : Option Sl), ds = done ++ rest ∧ r = rest.zipIdx done.length ∧ s = st ++ [.lst (intsW (takesF x none done))] ∧
  ρ = [some (.w (.d (.tuple (ds.map De.py)))), some (.w (.d (.str x.1))), some (.w (.r st.length)), x3, x4, x5]
theorem takes_ok {ds : List De} {x : Wd} (hl : ds.length ≤ 200) (st : Sto) {Q : W → Sto → Prop} {E : Ex → Sto → Prop} (q : Q (.r st.length) (st ++ [.lst (intsW (takesF x none ds))])) : wpM (f__law_takes [W.d (.tuple (ds.map De.py)), .d (.str x.1)]) st Q E := by
  unfold f__law_takes b__law_takes
  simp [enumL_drop]
  refine wp_loop_map (fun p : De × Nat => PyData.tuple [.int (p.2 : Int), p.1.py]) (TI ds x st) (fun p r ρ s hi => ?_) (fun ρ s hi => ?_) _ _ _ ?_
  · obtain ⟨done, rest, x3, x4, x5, e1, e2, rfl, rfl⟩ := hi
    cases rest with
    | nil => cases e2
    | cons d rest =>
      rw [List.zipIdx_cons] at e2
      injection e2 with e2 e2'
      subst e2 e2'
      refine ⟨_, rfl, ?_⟩
      have hlen : done.length + rest.length + 1 ≤ 200 := by rw [e1] at hl; simp at hl; omega
      have e6 : ds = (done ++ [d]) ++ rest := by rw [e1]; simp
      have e8 : (done ++ [d]).length = done.length + 1 := by simp
      have nxt : ∀ x3 x4 x5 : Option Sl, TI ds x st (rest.zipIdx (done.length + 1)) [some (Sl.w (.d (.tuple (ds.map De.py)))), some (.w (.d (.str x.1))), some (.w (.r st.length)), x3, x4, x5] (st ++ [.lst (intsW (takesF x none done) ++ intsW (oneT done.getLast? d x))]) := fun x3 x4 x5 => by
        refine ⟨done ++ [d], rest, x3, x4, x5, e6, by rw [e8], ?_, rfl⟩
        rw [takes_snoc]
        have : (match done.getLast? with | some c => some c | none => none) = done.getLast? := by cases done.getLast? <;> rfl
        rw [this]
        simp [intsW]
      rw [qS_in2, r_seq, r_asg]
      have hb : ∀ K : Kt W, K.q (.d (bpy done.getLast?)) _ → _ := fun K hK => bef_ok (done := done) (rest := d :: rest) (n := 0) (ρ := [some (.w (.d (.tuple (ds.map De.py)))), some (.w (.d (.str x.1))), some (.w (.r st.length)), some (.w (.d (.int (done.length : Int)))), some (.w (.d d.py)), x5]) (s := st ++ [.lst (intsW (takesF x none done))]) 3 (by rw [← e1]; rfl) rfl K hK
      refine hb _ ?_
      have m1 : ∀ l : List W, isMut (st ++ [.lst l]) (.r st.length) = some () := fun l => isMut_at last_at
      have tl := takes_len x none done
      have m2 : ∀ (l : List W) (w : W), l.length ≤ 1000 → putEnd (st ++ [.lst l]) w (.r st.length) = some (st ++ [.lst (l ++ [w])]) := fun l w hw => by
        rw [putEnd_at last_at (by rw [sizeLine_eq]; omega), last_set]
      have l1 : (intsW (takesF x none done)).length ≤ 900 := by unfold intsW; rw [List.length_map]; omega
      have l2 : (intsW (takesF x none done) ++ [W.d (.int 1)]).length ≤ 901 := by rw [List.length_append]; simp; omega
      have m3 := fun w => m2 (intsW (takesF x none done)) w (by omega)
      have m4 := fun w => m2 (intsW (takesF x none done) ++ [W.d (.int 1)]) w (by omega)
      generalize hbb : done.getLast? = b at *
      clear hb
      have n3 := nxt (some (.w (.d (.int (done.length : Int))))) (some (.w (.d d.py))) (some (.w (.d (bpy b))))
      have fin : ∀ (one : List Int) (x3 x4 x5 : Option Sl), oneT b d x = one → TI ds x st (rest.zipIdx (done.length + 1)) [some (Sl.w (.d (.tuple (ds.map De.py)))), some (.w (.d (.str x.1))), some (.w (.r st.length)), x3, x4, x5] (st ++ [.lst (intsW (takesF x none done) ++ intsW one)]) := fun one x3 x4 x5 h => h ▸ nxt x3 x4 x5
      have f0 := fun x3 x4 x5 h => fin [] x3 x4 x5 h
      have f1 := fun x3 x4 x5 h => fin [1] x3 x4 x5 h
      have f2 := fun x3 x4 x5 h => fin [-1] x3 x4 x5 h
      rw [intsW_nil, List.append_nil] at f0
      rw [intsW_1] at f1
      rw [intsW_m] at f2
      clear n3 nxt fin m4 l2
      have nwt : isWt b = false → gotB b d x = decide (d = .tk x) := by
        intro h
        cases b with
        | none => simp [gotB]
        | some b => cases b <;> first | (cases h; done) | simp [gotB]
      cases d with
      | tk y =>
        by_cases hx : y = x
        · subst hx
          simp [eq_tk, eq_gv, isWn, isWt', De.wd, m1, m3]
          exact f1 _ _ _ (by simp [oneT, gotB, gaveB])
        · simp [eq_tk, eq_gv, isWn, isWt', De.wd, m1, m3, hx]
          exact f0 _ _ _ (by simp [oneT, gotB, gaveB, hx])
      | gv y =>
        by_cases hx : y = x
        · subst hx
          simp [eq_tk, eq_gv, isWn, isWt', De.wd, m1, m3]
          exact f2 _ _ _ (by simp [oneT, gotB, gaveB])
        · simp [eq_tk, eq_gv, isWn, isWt', De.wd, m1, m3, hx]
          exact f0 _ _ _ (by simp [oneT, gotB, gaveB, hx])
      | wt c l =>
        by_cases hx : l = x
        · subst hx
          simp [eq_tk, eq_gv, isWn, isWt', De.wd, m1, m3]
          exact f2 _ _ _ (by simp [oneT, gotB, gaveB])
        · simp [eq_tk, eq_gv, isWn, isWt', De.wd, m1, m3, hx]
          exact f0 _ _ _ (by simp [oneT, gotB, gaveB, hx])
      | wn y =>
        cases hw : isWt b with
        | false =>
          simp [eq_tk, eq_gv, isWn, isWt', De.wd, m1, m3, hw]
          exact f0 _ _ _ (by rw [oneT, nwt hw]; simp [gaveB])
        | true =>
          obtain ⟨c, l, rfl⟩ := isWt_ex hw
          by_cases hx : l = x
          · subst hx
            simp [eq_tk, eq_gv, isWn, isWt', De.wd, m1, m3, isWt]
            exact f1 _ _ _ (by simp [oneT, gotB, gaveB])
          · simp [eq_tk, eq_gv, isWn, isWt', De.wd, m1, m3, isWt, hx]
            exact f0 _ _ _ (by simp [oneT, gotB, gaveB, hx])
      | _ =>
        simp [eq_tk, eq_gv, isWn, isWt', De.wd, m1, m3]
        exact f0 _ _ _ (by simp [oneT, gotB, gaveB])
  · obtain ⟨done, rest, x3, x4, x5, e1, e2, rfl, rfl⟩ := hi
    cases rest with
    | nil => simp; rw [List.append_nil] at e1; subst e1; exact q
    | cons d rest => cases e2
  · exact ⟨[], ds, none, none, none, rfl, rfl, rfl, rfl⟩
end PK
end
section
set_option Elab.async false
set_option linter.all false
set_option maxRecDepth 100000
set_option maxHeartbeats 600000
set_option autoImplicit false
namespace PK
open PySem PySem.Spec PyProof.Rows L2 Ev
open Py (py)
def sameC : Option De → De → Bool
  | some (.wt c _), .wn x => decide (x = c)
  | _, _ => true
def okStep (b : Option De) (d : De) : Bool := !isNd b && ((isWt b == isWn d) && sameC b d)
def okF : Option De → List De → Bool
  | _, [] => true
  | b, d :: r => okStep b d && okF (some d) r
def patt (n : Nat) : List Int := (List.range n).map fun (i : Nat) => 1 - 2 * ((i : Int) % 2)
def altP (row : List Int) : Bool := decide (row = patt row.length)
def wL : Wd := ⟨("l" : Str), by decide +kernel⟩
def wM : Wd := ⟨("m" : Str), by decide +kernel⟩
def canL (ds : List De) : Bool := okF none ds && (altP (takesF wL none ds) && (altP (takesF wM none ds) && (!decide (wRoot ∈ begunL ds) && decide (begunL ds).Nodup)))
@[simp] theorem lenW_at {st : Sto} {i : Nat} {ws : List W} (h : st[i]? = some (.lst ws)) : lenW st (.r i) = some (.d (.int ws.length)) := by
  show (match st[i]? with | some (.lst ws) => some (W.d (.int ws.length)) | _ => none) = _
  rw [h]
theorem allD_ints (l : List Int) : allD (intsW l) = some (l.map .int) := allD_map (fun i => PyData.int i) l
theorem ne_ints (a b : List Int) : neD (.list (a.map .int)) (.list (b.map .int)) = some (.bool (!decide (a = b))) := by
  have hp : ∀ l : List Int, pl 1 (.list (l.map .int)) = true := fun l => List.all_eq_true.mpr fun x hx => by obtain ⟨i, _, rfl⟩ := List.mem_map.mp hx; rfl
  rw [neD_of (pl_shaped (by decide) (hp a)) (pl_shaped (by decide) (hp b))]
  have e : PyData.eqv (.list (a.map .int)) (.list (b.map .int)) = PyData.eqv (py a) (py b) := by
    show _ = PyData.eqv (.tuple (a.map .int)) (.tuple (b.map .int))
    simp only [PyData.eqv]
  rw [e, eqv_py]
theorem lc_patt {ρ : Ev.Env} {st : Sto} {K : Kt W} {E : Ex → Sto → Prop} (i : Nat) (hi : i < ρ.length) (n : Nat) (q : K.q (.d (.list ((patt n).map .int))) st) :
    @qM _ (compL always [i] (aName i) (fun _ => Ev.ret true) (Ev.bin (onD subD) (fun _ => Ev.ret (W.d (.int 1))) (Ev.bin (onD mulD) (fun _ => Ev.ret (W.d (.int 2))) (Ev.bin (onD modD) (getV i) fun _ => Ev.ret (W.d (.int 2))))) ρ ((List.range n).map fun (i : Nat) => PyData.int (i : Int)) []) st ⟨fun ws s => @qM W (asData ws) s K, E⟩ := by
  refine lc_map (fun (i : Nat) => PyData.int (i : Int)) (fun i => .int (1 - 2 * ((i : Int) % 2))) (List.range n) (fun j hj => ⟨_, rfl, rfl, ?_⟩) ?_
  · apply fe_of
    have h2 : ∀ w : W, getO (List.set ρ i (some (Sl.w w))) i = some w := fun w => getO_setS hi
    have h3 : (j : Int).fmod 2 = (j : Int) % 2 := Int.fmod_eq_emod_of_nonneg _ (by decide)
    simp [h2, modD_int, mulD_intL, h3]
  · have e : (List.range n).map (fun (i : Nat) => PyData.int (1 - 2 * ((i : Int) % 2))) = (patt n).map .int := by unfold patt; rw [List.map_map]; rfl
    rw [e]; exact q
def CI (ds : List De) (st : Sto) (r : List (De × Nat)) (ρ : Ev.Env) (s : Sto) : Prop := ∃ (done rest : List De) (x1 x2 x3 x4 x5 x6 : Option Sl), ds = done ++ rest ∧ r = rest.zipIdx done.length ∧ s = st ∧
  ρ = [some (.w (.d (.tuple (ds.map De.py)))), x1, x2, x3, x4, x5, x6] ∧ okF done.getLast? rest = okF none ds
theorem takes_q {ds : List De} (hl : ds.length ≤ 200) {x : Wd} {z : Str} (hz : z = x.1) {st : Sto} {K : Kt W} (q : K.q (.r st.length) (st ++ [.lst (intsW (takesF x none ds))])) : @qM W (f__law_takes [W.d (.tuple (ds.map De.py)), .d (.str z)]) st K := by
  subst hz; exact takes_ok hl st q
theorem can_ok {ds : List De} (hl : ds.length ≤ 200) (st : Sto) {Q : W → Sto → Prop} {E : Ex → Sto → Prop} (q : ∀ gb, Q (.d (.bool (canL ds))) (st ++ gb)) : wpM (f__law_can [W.d (.tuple (ds.map De.py))]) st Q E := by
  unfold f__law_can b__law_can
  simp [enumL_drop]
  refine wp_loop_map (fun p : De × Nat => PyData.tuple [.int (p.2 : Int), p.1.py]) (CI ds st) (fun p r ρ s hi => ?_) (fun ρ s hi => ?_) _ _ _ ?_
  · obtain ⟨done, rest, x1, x2, x3, x4, x5, x6, e1, e2, rfl, rfl, e3⟩ := hi
    cases rest with
    | nil => cases e2
    | cons d rest =>
      rw [List.zipIdx_cons] at e2
      injection e2 with e2 e2'
      subst e2 e2'
      refine ⟨_, rfl, ?_⟩
      have e6 : ds = (done ++ [d]) ++ rest := by rw [e1]; simp
      have e8 : (done ++ [d]).length = done.length + 1 := by simp
      have e7 : (done ++ [d]).getLast? = some d := by simp
      have nxt : ∀ x1 x2 x3 x4 x5 x6 : Option Sl, okStep done.getLast? d = true → CI ds s (rest.zipIdx (done.length + 1)) [some (Sl.w (.d (.tuple (ds.map De.py)))), x1, x2, x3, x4, x5, x6] s := fun x1 x2 x3 x4 x5 x6 h => by
        refine ⟨done ++ [d], rest, x1, x2, x3, x4, x5, x6, e6, by rw [e8], rfl, rfl, ?_⟩
        rw [e7, ← e3, okF, h]; rfl
      have stop : okStep done.getLast? d = false → Q (.d (.bool false)) s := fun h => by
        have : canL ds = false := by unfold canL; rw [← e3, okF, h]; rfl
        have q' := q []
        rw [this, List.append_nil] at q'; exact q'
      rw [qS_in2, r_seq, r_asg]
      refine bef_ok (done := done) (rest := d :: rest) (n := 0) (ρ := [some (.w (.d (.tuple (ds.map De.py)))), x1, x2, some (.w (.d (.int (done.length : Int)))), some (.w (.d d.py)), x5, x6]) 3 (by rw [← e1]; rfl) rfl _ ?_
      generalize hbb : done.getLast? = b at *
      cases hn : isNd b with
      | true => simp [hn]; exact stop (by simp [okStep, hn])
      | false =>
        cases hw : isWt b with
        | false =>
          cases hv : isWn d with
          | true => simp [hn, hw, hv]; exact stop (by simp [okStep, hn, hw, hv])
          | false =>
            simp [hn, hw, hv]
            refine nxt _ _ _ _ _ _ ?_
            have : sameC b d = true := by cases b with
              | none => rfl
              | some b => cases b <;> first | (cases hw; done) | rfl
            simp [okStep, hn, hw, hv, this]
        | true =>
          obtain ⟨c, l, rfl⟩ := isWt_ex hw
          cases d with
          | wn y =>
            by_cases hy : y = c
            · subst hy
              simp [hn, hw, isWn, De.py]
              exact nxt _ _ _ _ _ _ (by simp [okStep, hn, hw, isWn, sameC])
            · simp [hn, hw, isWn, De.py, hy]
              exact stop (by simp [okStep, hn, hw, isWn, sameC, hy])
          | _ => simp [hn, hw, isWn]; exact stop (by simp [okStep, hn, hw, isWn])
  · obtain ⟨done, rest, x1, x2, x3, x4, x5, x6, e1, e2, rfl, rfl, e3⟩ := hi
    cases rest with
    | cons d rest => cases e2
    | nil =>
      rw [List.append_nil] at e1; subst e1
      have ok1 : okF none ds = true := by rw [← e3]; rfl
      have tl := takes_len wL none ds
      have tm := takes_len wM none ds
      simp [r_loop_cons]
      refine takes_q hl (x := wL) rfl ?_
      have z1 : (takesF wL none ds).length ≤ 400 := by omega
      generalize htl : takesF wL none ds = rl at *
      have g1 : -4611686018427387904 ≤ (rl.length : Int) ∧ (rl.length : Int) < 4611686018427387904 := by omega
      have g2 : rl.length < 16777216 := by omega
      have il : (intsW rl).length = rl.length := List.length_map _
      simp [lenW_at last_at, il, g1, g2, rangeL_0]
      refine lc_patt 3 (by simp) rl.length ?_
      by_cases pl : rl = patt rl.length
      · have pl' : altP rl = true := decide_eq_true pl
        simp [onW, datW_at last_at (allD_ints rl), ne_ints, ← pl, r_loop_cons]
        refine takes_q hl (x := wM) rfl ?_
        have z2 : (takesF wM none ds).length ≤ 400 := by omega
        generalize htm : takesF wM none ds = rm at *
        have g3 : -4611686018427387904 ≤ (rm.length : Int) ∧ (rm.length : Int) < 4611686018427387904 := by omega
        have g4 : rm.length < 16777216 := by omega
        have im : (intsW rm).length = rm.length := List.length_map _
        have la2 : ∀ a b : SO, (s ++ [a, b])[s.length + 1]? = some b := fun a b => by simp
        simp [lenW_at (la2 _ _), im, g3, g4, rangeL_0]
        refine lc_patt 3 (by simp) rm.length ?_
        by_cases pm : rm = patt rm.length
        · have pm' : altP rm = true := decide_eq_true pm
          have g5 : ds.length < 16777216 := by omega
          simp [onW, datW_at (la2 _ _) (allD_ints rm), ne_ints, ← pm, g5]
          refine lc_begun 4 (by simp) ds ?_
          have hb := begun_len ds
          have hset := fun st => lenSet_wd (st := st) (begunL ds) (by omega)
          have hnd : (((begunL ds).length : Int) == ((sortS ((begunL ds).map (·.1))).length : Int)) = decide (begunL ds).Nodup := by
            have e := sortS_nodup (xs := (begunL ds).map (·.1))
            rw [List.length_map, wd_nodup] at e
            by_cases hn : (begunL ds).Nodup
            · rw [decide_eq_true hn, e.mpr hn]; simp
            · rw [decide_eq_false hn, beq_eq_false_iff_ne]
              intro h; exact hn (e.mp (by omega))
          have q' := q [.lst (intsW rl), .lst (intsW rm)]
          have ec : canL ds = (!decide (wRoot ∈ begunL ds) && decide (begunL ds).Nodup) := by unfold canL; rw [ok1, htl, htm, pl', pm']; rfl
          rw [ec] at q'
          cases hr : decide (wRoot ∈ begunL ds) with
          | true => rw [hr] at q'; simp [notin_root, hr]; simpa using q'
          | false => rw [hr] at q'; simp [notin_root, hr, hset, hnd]; simpa using q'
        · have pm' : altP rm = false := decide_eq_false pm
          simp [onW, datW_at (la2 _ _) (allD_ints rm), ne_ints, pm]
          have q' := q [.lst (intsW rl), .lst (intsW rm)]
          have ec : canL ds = false := by unfold canL; rw [ok1, htl, htm, pl', pm']; rfl
          rw [ec] at q'; simpa using q'
      · have pl' : altP rl = false := decide_eq_false pl
        simp [onW, datW_at last_at (allD_ints rl), ne_ints, pl]
        have q' := q [.lst (intsW rl)]
        have ec : canL ds = false := by unfold canL; rw [ok1, htl, pl']; rfl
        rw [ec] at q'; simpa using q'
  · exact ⟨[], ds, none, none, none, none, none, none, rfl, rfl, rfl, rfl, rfl⟩
end PK
end
section
set_option Elab.async false
set_option linter.all false
set_option maxRecDepth 100000
set_option maxHeartbeats 600000
set_option autoImplicit false
namespace PK
open PySem PySem.Spec PyProof.Rows L2 Ev
open Py (py)
/-! ## k01: the plain law -/
def altEnd : Bool → List Int → Option Bool
  | k, [] => some k
  | false, i :: r => if i = 1 then altEnd true r else none
  | true, i :: r => if i = -1 then altEnd false r else none
theorem alt_append : ∀ (k : Bool) (a r : List Int), altEnd k (a ++ r) = (altEnd k a).bind fun j => altEnd j r
  | k, [], r => by cases k <;> rfl
  | false, i :: a, r => by
    rw [List.cons_append]
    simp only [altEnd]
    split
    · exact alt_append true a r
    · rfl
  | true, i :: a, r => by
    rw [List.cons_append]
    simp only [altEnd]
    split
    · exact alt_append false a r
    · rfl
def pat : Bool → Nat → List Int
  | _, 0 => []
  | false, n + 1 => 1 :: pat true n
  | true, n + 1 => -1 :: pat false n
theorem pat_patt : ∀ (n : Nat) (o : Nat), (List.range n).map (fun (i : Nat) => 1 - 2 * (((i + o : Nat) : Int) % 2)) = pat (decide (o % 2 = 1)) n
  | 0, o => by simp [pat]
  | n + 1, o => by
    rw [List.range_succ_eq_map, List.map_cons, List.map_map]
    have ih := pat_patt n (o + 1)
    have e : ((fun (i : Nat) => 1 - 2 * (((i + o : Nat) : Int) % 2)) ∘ Nat.succ) = fun (i : Nat) => 1 - 2 * (((i + (o + 1) : Nat) : Int) % 2) := by
      funext i; show 1 - 2 * (((i + 1 + o : Nat) : Int) % 2) = _; rw [Nat.add_assoc, Nat.add_comm 1 o]
    rw [e, ih]
    rcases Nat.mod_two_eq_zero_or_one o with h | h
    · have h2 : (o + 1) % 2 = 1 := by omega
      have h3 : ((0 + o : Nat) : Int) % 2 = 0 := by omega
      rw [h3]; simp [h, h2, pat]
    · have h2 : (o + 1) % 2 = 0 := by omega
      have h3 : ((0 + o : Nat) : Int) % 2 = 1 := by omega
      rw [h3]; simp [h, h2, pat]
theorem patt_pat (n : Nat) : patt n = pat false n := by
  have := pat_patt n 0
  simpa [patt] using this
theorem alt_pat : ∀ (k : Bool) (row : List Int), altEnd k row = if row = pat k row.length then some (k != decide (row.length % 2 = 1)) else none
  | k, [] => by cases k <;> simp [altEnd, pat]
  | false, i :: r => by
    have ih := alt_pat true r
    simp only [altEnd, List.length_cons, pat]
    by_cases hi : i = 1
    · subst hi
      rw [if_pos rfl, ih]
      by_cases hr : r = pat true r.length
      · rw [if_pos hr, if_pos (by rw [← hr])]
        rcases Nat.mod_two_eq_zero_or_one r.length with h | h
        · have : (r.length + 1) % 2 = 1 := by omega
          simp [h, this]
        · have : (r.length + 1) % 2 = 0 := by omega
          simp [h, this]
      · rw [if_neg hr, if_neg (fun e => hr (by injection e))]
    · rw [if_neg hi, if_neg (fun e => hi (by injection e))]
  | true, i :: r => by
    have ih := alt_pat false r
    simp only [altEnd, List.length_cons, pat]
    by_cases hi : i = -1
    · subst hi
      rw [if_pos rfl, ih]
      by_cases hr : r = pat false r.length
      · rw [if_pos hr, if_pos (by rw [← hr])]
        rcases Nat.mod_two_eq_zero_or_one r.length with h | h
        · have : (r.length + 1) % 2 = 1 := by omega
          simp [h, this]
        · have : (r.length + 1) % 2 = 0 := by omega
          simp [h, this]
      · rw [if_neg hr, if_neg (fun e => hr (by injection e))]
    · rw [if_neg hi, if_neg (fun e => hi (by injection e))]
theorem altP_end (row : List Int) : altP row = (altEnd false row).isSome := by
  unfold altP
  rw [alt_pat, patt_pat]
  by_cases h : row = pat false row.length
  · rw [if_pos h, decide_eq_true h]; rfl
  · rw [if_neg h, decide_eq_false h]; rfl
def LM (x : Wd) : Prop := x = wL ∨ x = wM
def LkD : De → Prop
  | .tk x => LM x
  | .gv x => LM x
  | .wt _ x => LM x
  | _ => True
structure LInv (b : Option De) (held : List Wd) (lock : Option Wd) : Prop where
  lm : ∀ x ∈ held, LM x
  nd : held.Nodup
  wt : ∀ c l, b = some (.wt c l) → lock = some l ∧ l ∉ held ∧ LM l
theorem step_some {b : Option De} {d : De} {held h1 : List Wd} {lock l1 : Option Wd} (iv : LInv b held lock) (hd : LkD d) (h : stepL b d (held, lock) = some (h1, l1)) :
    okStep b d = true ∧ (∀ x, altEnd (decide (x ∈ held)) (oneT b d x) = some (decide (x ∈ h1))) ∧ LInv (some d) h1 l1 := by
  cases hn : isNd b with
  | true => cases b with
    | none => cases hn
    | some b => cases b <;> first | (cases hn; done) | (cases h; done)
  | false =>
    cases hw : isWt b with
    | true =>
      obtain ⟨c, l, rfl⟩ := isWt_ex hw
      obtain ⟨hl, hnl, hlm⟩ := iv.wt c l rfl
      cases d with
      | wn y =>
        simp only [stepL] at h
        split at h
        · rename_i hy
          subst hy
          injection h with h
          injection h with ha hb
          subst ha hb
          rw [hl]
          refine ⟨by simp [okStep, isNd, isWt, isWn, sameC], fun x => ?_, ⟨fun x hx => ?_, ?_, nofun⟩⟩
          · by_cases hx : l = x
            · subst hx; simp [oneT, gotB, gaveB, hnl, altEnd]
            · have : ¬ x = l := fun e => hx e.symm
              simp [oneT, gotB, gaveB, hx, this, altEnd]
          · rcases List.mem_append.mp hx with hx | hx
            · exact iv.lm x hx
            · simp at hx; subst hx; exact hlm
          · simp [List.nodup_append, iv.nd]
            intro a ha e; subst e; exact hnl ha
        · cases h
      | _ => simp only [stepL] at h; cases h
    | false =>
      have nwt : ∀ x, gotB b d x = decide (d = .tk x) := by
        intro x
        cases b with
        | none => simp [gotB]
        | some b => cases b <;> first | (cases hw; done) | simp [gotB]
      have sc : sameC b d = true := by cases b with
        | none => rfl
        | some b => cases b <;> first | (cases hw; done) | rfl
      have nos : ∀ {P : Prop}, isWn d = true → P := by
        intro P hv
        cases d <;> first | (cases hv; done) | skip
        cases b with
        | none => cases h
        | some b => cases b <;> first | (cases hn; done) | (cases hw; done) | (cases h; done)
      have okS : okStep b d = true := by
        cases hv : isWn d with
        | true => exact nos hv
        | false => simp [okStep, hn, hw, hv, sc]
      refine ⟨okS, ?_⟩
      have st : stepL b d (held, lock) = stepL none d (held, lock) := by
        cases b with
        | none => rfl
        | some b => cases b <;> first | (cases hn; done) | (cases hw; done) | (cases d <;> rfl)
      rw [st] at h
      have keep : oneT b d = (fun _ => []) → h1 = held → l1 = lock → isWt (some d) = false → (∀ x, altEnd (decide (x ∈ held)) (oneT b d x) = some (decide (x ∈ h1))) ∧ LInv (some d) h1 l1 := by
        intro e1 e2 e3 e4
        subst e2 e3
        refine ⟨fun x => by rw [e1]; cases decide (x ∈ h1) <;> rfl, ⟨iv.lm, iv.nd, fun c l e => ?_⟩⟩
        rw [e] at e4; cases e4
      have give : ∀ x, x ∈ held → h1 = held.filter (· ≠ x) → l1 = some x → LM x → (∀ z, oneT b d z = if x = z then [-1] else []) → (∀ x, altEnd (decide (x ∈ held)) (oneT b d x) = some (decide (x ∈ h1))) ∧ LInv (some d) h1 l1 → True := fun _ _ _ _ _ _ _ => trivial
      cases d with
      | wn y => exact nos rfl
      | tk y =>
        simp only [stepL] at h
        split at h
        · cases h
        · rename_i hy
          injection h with h
          injection h with ha hb
          subst ha hb
          refine ⟨fun x => ?_, ⟨fun x hx => ?_, ?_, nofun⟩⟩
          · by_cases hx : y = x
            · subst hx; simp [oneT, nwt, gaveB, hy, altEnd]
            · have : ¬ x = y := fun e => hx e.symm
              simp [oneT, nwt, gaveB, hx, this, altEnd]
          · rcases List.mem_append.mp hx with hx | hx
            · exact iv.lm x hx
            · rw [List.mem_singleton.mp hx]; exact hd
          · simp [List.nodup_append, iv.nd]
            intro a ha e; subst e; exact hy ha
      | gv y =>
        simp only [stepL] at h
        split at h
        · rename_i hy
          injection h with h
          injection h with ha hb
          subst ha hb
          refine ⟨fun x => ?_, ⟨fun x hx => iv.lm x (List.mem_filter.mp hx).1, iv.nd.filter _, nofun⟩⟩
          by_cases hx : y = x
          · subst hx; simp [oneT, nwt, gaveB, hy, altEnd]
          · have : ¬ x = y := fun e => hx e.symm
            simp [oneT, nwt, gaveB, hx, this, altEnd]
        · cases h
      | wt c y =>
        simp only [stepL] at h
        split at h
        · rename_i hy
          injection h with h
          injection h with ha hb
          subst ha hb
          refine ⟨fun x => ?_, ⟨fun x hx => iv.lm x (List.mem_filter.mp hx).1, iv.nd.filter _, fun c' l' e => ?_⟩⟩
          · by_cases hx : y = x
            · subst hx; simp [oneT, nwt, gaveB, hy, altEnd]
            · have : ¬ x = y := fun e => hx e.symm
              simp [oneT, nwt, gaveB, hx, this, altEnd]
          · injection e with e
            injection e with e1 e2
            subst e2
            exact ⟨rfl, by simp, hd⟩
        · cases h
      | _ =>
        simp only [stepL] at h
        injection h with h
        injection h with ha hb
        exact keep (by funext x; simp [oneT, nwt, gaveB]) ha.symm hb.symm rfl
theorem step_none {b : Option De} {d : De} {held : List Wd} {lock : Option Wd} (iv : LInv b held lock) (hd : LkD d) (h : stepL b d (held, lock) = none) :
    okStep b d = false ∨ ∃ x, LM x ∧ altEnd (decide (x ∈ held)) (oneT b d x) = none := by
  cases hn : isNd b with
  | true => exact .inl (by simp [okStep, hn])
  | false =>
    cases hw : isWt b with
    | true =>
      obtain ⟨c, l, rfl⟩ := isWt_ex hw
      cases d with
      | wn y =>
        simp only [stepL] at h
        split at h
        · cases h
        · rename_i hy; exact .inl (by simp [okStep, sameC, hy])
      | _ => exact .inl (by simp [okStep, isWt, isWn])
    | false =>
      have nwt : ∀ x, gotB b d x = decide (d = .tk x) := by
        intro x
        cases b with
        | none => simp [gotB]
        | some b => cases b <;> first | (cases hw; done) | simp [gotB]
      have st : stepL b d (held, lock) = stepL none d (held, lock) := by
        cases b with
        | none => rfl
        | some b => cases b <;> first | (cases hn; done) | (cases hw; done) | (cases d <;> rfl)
      rw [st] at h
      cases d with
      | wn y => exact .inl (by simp [okStep, hw, isWn])
      | tk y =>
        simp only [stepL] at h
        split at h
        · rename_i hy; exact .inr ⟨y, hd, by simp [oneT, nwt, gaveB, hy, altEnd]⟩
        · cases h
      | gv y =>
        simp only [stepL] at h
        split at h
        · cases h
        · rename_i hy; exact .inr ⟨y, hd, by simp [oneT, nwt, gaveB, hy, altEnd]⟩
      | wt c y =>
        simp only [stepL] at h
        split at h
        · cases h
        · rename_i hy; exact .inr ⟨y, hd, by simp [oneT, nwt, gaveB, hy, altEnd]⟩
      | _ => simp only [stepL] at h; cases h
theorem run_some : ∀ (ds : List De) (b : Option De) (held h' : List Wd) (lock : Option Wd), LInv b held lock → (∀ d ∈ ds, LkD d) → runL b ds (held, lock) = some h' →
    okF b ds = true ∧ (∀ x, altEnd (decide (x ∈ held)) (takesF x b ds) = some (decide (x ∈ h'))) ∧ h'.Nodup ∧ ∀ x ∈ h', LM x
  | [], b, held, h', lock, iv, hd, h => by
    injection h with h
    subst h
    exact ⟨rfl, fun x => by cases decide (x ∈ held) <;> rfl, iv.nd, iv.lm⟩
  | d :: r, b, held, h', lock, iv, hd, h => by
    rw [runL] at h
    cases e : stepL b d (held, lock) with
    | none => rw [e] at h; cases h
    | some p =>
      obtain ⟨h1, l1⟩ := p
      rw [e] at h
      obtain ⟨a1, a2, a3⟩ := step_some iv (hd d List.mem_cons_self) e
      obtain ⟨b1, b2, b3⟩ := run_some r (some d) h1 h' l1 a3 (fun z hz => hd z (List.mem_cons_of_mem _ hz)) h
      refine ⟨by rw [okF, a1, b1]; rfl, fun x => ?_, b3⟩
      rw [takesF, alt_append, a2, Option.bind_some, b2]
theorem run_none : ∀ (ds : List De) (b : Option De) (held : List Wd) (lock : Option Wd), LInv b held lock → (∀ d ∈ ds, LkD d) → runL b ds (held, lock) = none →
    okF b ds = false ∨ ∃ x, LM x ∧ altEnd (decide (x ∈ held)) (takesF x b ds) = none
  | [], b, held, lock, iv, hd, h => by cases h
  | d :: r, b, held, lock, iv, hd, h => by
    rw [runL] at h
    cases e : stepL b d (held, lock) with
    | none =>
      rcases step_none iv (hd d List.mem_cons_self) e with h1 | ⟨x, hx, h1⟩
      · exact .inl (by rw [okF, h1]; rfl)
      · exact .inr ⟨x, hx, by rw [takesF, alt_append, h1]; rfl⟩
    | some p =>
      obtain ⟨h1, l1⟩ := p
      rw [e] at h
      obtain ⟨a1, a2, a3⟩ := step_some iv (hd d List.mem_cons_self) e
      rcases run_none r (some d) h1 l1 a3 (fun z hz => hd z (List.mem_cons_of_mem _ hz)) h with h2 | ⟨x, hx, h2⟩
      · exact .inl (by rw [okF, h2, Bool.and_false])
      · exact .inr ⟨x, hx, by rw [takesF, alt_append, a2, Option.bind_some, h2]⟩
theorem inv0 : LInv none [] none := ⟨nofun, List.nodup_nil, nofun⟩
theorem hist_can {ds : List De} (hd : ∀ d ∈ ds, LkD d) : okHist ds = (decide (ds.length ≤ 64) && canL ds) := by
  unfold okHist canL
  have key : (locksL ds).isSome = (okF none ds && (altP (takesF wL none ds) && altP (takesF wM none ds))) := by
    unfold locksL
    rw [altP_end, altP_end]
    cases e : runL none ds ([], none) with
    | some h' =>
      obtain ⟨a1, a2, _⟩ := run_some ds none [] h' none inv0 hd e
      have l1 := a2 wL
      have l2 := a2 wM
      simp at l1 l2
      rw [a1, l1, l2]; rfl
    | none =>
      rcases run_none ds none [] none inv0 hd e with h | ⟨x, hx, h⟩
      · rw [h]; rfl
      · simp at h
        rcases hx with rfl | rfl
        · rw [h]; simp
        · rw [h]; simp
  rw [key]
  cases decide (ds.length ≤ 64) <;> cases okF none ds <;> cases altP (takesF wL none ds) <;> cases altP (takesF wM none ds) <;> cases (!decide (wRoot ∈ begunL ds)) <;> cases decide (begunL ds).Nodup <;> rfl
def oddT (x : Wd) (ds : List De) : Bool := decide ((takesF x none ds).length % 2 = 1)
theorem held_odd {ds : List De} (hd : ∀ d ∈ ds, LkD d) {h' : List Wd} (h : locksL ds = some h') : h'.Nodup ∧ ∀ x, x ∈ h' ↔ LM x ∧ oddT x ds = true := by
  obtain ⟨a1, a2, a3, a4⟩ := run_some ds none [] h' none inv0 hd h
  refine ⟨a3, fun x => ?_⟩
  have e := a2 x
  rw [alt_pat] at e
  split at e
  · injection e with e
    simp at e
    constructor
    · intro hx
      exact ⟨a4 x hx, decide_eq_true (e.mpr hx)⟩
    · intro ⟨_, hx⟩
      exact e.mp (of_decide_eq_true hx)
  · cases e
end PK
end
section
set_option Elab.async false
set_option linter.all false
set_option maxRecDepth 100000
set_option maxHeartbeats 600000
set_option autoImplicit false
namespace PK
open PySem PySem.Spec PyProof.Rows L2 Ev
open Py (py)
/-! ## sorted words -/
def leWd (a b : Wd) : Bool := leS a.1 b.1
def sortWd (l : List Wd) : List Wd := l.mergeSort leWd
theorem sortD_wd (l : List Wd) : sortD (l.map py) = (sortWd l).map py := by
  unfold sortD sortWd
  rw [List.map_mergeSort (s := PySem.W.dataLe false id)]
  intro a _ b _
  exact (congrFun (congrFun (PySem.W.dataLe_str (fun b : Wd => b.1)) a) b).symm
theorem okSort_wd (l : List Wd) (hl : l.length < 4000) : okSort (l.map py) = true := by
  unfold okSort
  have h1 : ((l.map py).all fun d => (l.map py).all fun d' => PySem.W.alike d d') = true := by
    refine List.all_eq_true.mpr fun x hx => List.all_eq_true.mpr fun y hy => ?_
    obtain ⟨a, _, rfl⟩ := List.mem_map.mp hx
    obtain ⟨b, _, rfl⟩ := List.mem_map.mp hy
    simp [py_wd, PySem.W.alike]
  have h2 : (l.map py).all notTN = true := by
    simp only [List.all_map, List.all_eq_true]
    intro a _; rfl
  have h3 : ((l.map py).all fun d => decide (d.depth ≤ 20)) = true := by
    simp only [List.all_map, List.all_eq_true]
    intro a _; simp [py_wd, PyData.depth]
  rw [h1, h2, h3]
  simp [hl]
theorem sortDW_wd (l : List Wd) (hl : l.length < 4000) {st : Sto} : sortDW st (.d (.list (l.map py))) = some (.d (.list ((sortWd l).map py))) := by
  unfold sortDW
  show (if okSort (l.map py) = true then some (W.d (.list (sortD (l.map py)))) else none) = _
  rw [if_pos (okSort_wd l hl), sortD_wd]
theorem sortDW_wdT (l : List Wd) (hl : l.length < 4000) {st : Sto} : sortDW st (.d (.tuple (l.map py))) = some (.d (.list ((sortWd l).map py))) := by
  unfold sortDW
  show (if okSort (l.map py) = true then some (W.d (.list (sortD (l.map py)))) else none) = _
  rw [if_pos (okSort_wd l hl), sortD_wd]
theorem leWd_total (a b : Wd) : (leWd a b || leWd b a) = true := by
  unfold leWd leS
  rcases List.le_total a.1.cps.toList b.1.cps.toList with h | h <;> simp [h]
theorem leWd_trans (a b c : Wd) (h1 : leWd a b = true) (h2 : leWd b c = true) : leWd a c = true := by
  unfold leWd leS at *
  rw [decide_eq_true_eq] at *
  exact List.le_trans h1 h2
theorem leWd_anti (a b : Wd) (h1 : leWd a b = true) (h2 : leWd b a = true) : a = b := by
  unfold leWd leS at *
  rw [decide_eq_true_eq] at *
  exact Wd.ext (str_ext (List.le_antisymm h1 h2))
theorem sortWd_perm (l : List Wd) : (sortWd l).Perm l := List.mergeSort_perm l leWd
theorem sortWd_up (l : List Wd) : (sortWd l).Pairwise fun a b => leWd a b = true := List.pairwise_mergeSort leWd_trans leWd_total l
theorem sortWd_of_perm {a b : List Wd} (h : a.Perm b) : sortWd a = sortWd b :=
  List.Perm.eq_of_pairwise (le := fun a b => leWd a b = true) (fun x y _ _ h1 h2 => leWd_anti x y h1 h2) (sortWd_up a) (sortWd_up b) ((sortWd_perm a).trans (h.trans (sortWd_perm b).symm))
theorem sortWd_ext {a b : List Wd} (ha : a.Nodup) (hb : b.Nodup) (h : ∀ x, x ∈ a ↔ x ∈ b) : sortWd a = sortWd b := sortWd_of_perm ((List.perm_ext_iff_of_nodup ha hb).mpr h)
theorem sortWd_id {l : List Wd} (h : l.Pairwise fun a b => leWd a b = true) : sortWd l = l :=
  List.Perm.eq_of_pairwise (le := fun a b => leWd a b = true) (fun x y _ _ h1 h2 => leWd_anti x y h1 h2) (sortWd_up l) h (sortWd_perm l)
/-- the same, to be computed -/
def insWd (x : Wd) : List Wd → List Wd
  | [] => [x]
  | y :: l => if leWd x y = true then x :: y :: l else y :: insWd x l
def isoWd : List Wd → List Wd
  | [] => []
  | x :: l => insWd x (isoWd l)
theorem insWd_perm (x : Wd) : ∀ l : List Wd, (insWd x l).Perm (x :: l)
  | [] => List.Perm.refl _
  | y :: l => by
    unfold insWd
    split
    · exact List.Perm.refl _
    · exact ((insWd_perm x l).cons y).trans (List.Perm.swap x y l)
theorem isoWd_perm : ∀ l : List Wd, (isoWd l).Perm l
  | [] => List.Perm.refl _
  | x :: l => (insWd_perm x (isoWd l)).trans ((isoWd_perm l).cons x)
theorem insWd_up (x : Wd) : ∀ l : List Wd, (l.Pairwise fun a b => leWd a b = true) → (insWd x l).Pairwise fun a b => leWd a b = true
  | [], _ => List.pairwise_singleton _ _
  | y :: l, h => by
    unfold insWd
    have h1 := List.pairwise_cons.mp h
    split
    · rename_i c
      refine List.pairwise_cons.mpr ⟨fun z hz => ?_, h⟩
      rcases List.mem_cons.mp hz with rfl | hz
      · exact c
      · exact leWd_trans _ _ _ c (h1.1 z hz)
    · rename_i c
      refine List.pairwise_cons.mpr ⟨fun z hz => ?_, insWd_up x l h1.2⟩
      rcases List.mem_cons.mp ((insWd_perm x l).mem_iff.mp hz) with rfl | hz
      · have := leWd_total z y
        rcases (Bool.or_eq_true _ _).mp this with h | h
        · exact absurd h c
        · exact h
      · exact h1.1 z hz
theorem isoWd_up : ∀ l : List Wd, (isoWd l).Pairwise fun a b => leWd a b = true
  | [] => List.Pairwise.nil
  | x :: l => insWd_up x _ (isoWd_up l)
theorem sort_iso (l : List Wd) : sortWd l = isoWd l := (sortWd_of_perm (isoWd_perm l).symm).trans (sortWd_id (isoWd_up l))
/-! ## what is asked of histories -/
def wantsO : Option De → Bool
  | none => true
  | some (.wt _ _) => false
  | some .nd => false
  | _ => true
def wantsL (ds : List De) : Bool := wantsO ds.getLast?
section
variable {ds : List De} {st : Sto} {K : Kt W}
theorem hist_q (hl : ds.length ≤ 200) (q : K.q (.d (.bool (okHist ds))) st) : @qM W (f_fits_history [W.d (.tuple (ds.map De.py))]) st K := hist_ok hl q
theorem locks_q (hl : ds.length ≤ 200) (q : K.q (.d (lockW (locksL ds))) st) : @qM W (f_locks_of [W.d (.tuple (ds.map De.py))]) st K := locks_ok hl st q
theorem is_hist_q (hl : ds.length ≤ 200) (q : K.q (.d (.bool (okHist ds))) st) : @qM W (f_is_history [W.d (.tuple (ds.map De.py))]) st K := by
  unfold f_is_history b_is_history
  simp
  exact hist_q hl q
theorem need_hist_q (hl : ds.length ≤ 200) (q1 : okHist ds = true → K.q (.d .none) st) (q2 : okHist ds = false → K.e ⟨("InvalidHistory" : Str), []⟩ st) : @qM W (f_need_history [W.d (.tuple (ds.map De.py))]) st K := by
  unfold f_need_history b_need_history
  simp
  refine hist_q hl ?_
  cases h : okHist ds with
  | true => simp; exact q1 h
  | false => simp; exact q2 h
theorem eq_nil (l : List PyData) (n : Nat) (hn : n ≤ 19) (hp : ∀ x ∈ l, pl n x = true) : eqD (.tuple l) (.tuple []) = some (.bool l.isEmpty) := by
  have h1 : pl (n + 1) (.tuple l) = true := List.all_eq_true.mpr hp
  have h2 : pl 1 (.tuple []) = true := rfl
  rw [eqD_pl (n := n + 1) (m := 1) (by omega) (by decide) h1 h2]
  cases l <;> simp [PyData.eqv, PyData.eqvAll]
theorem pl_des (ds : List De) : ∀ x ∈ ds.map De.py, pl 1 x = true := fun x hx => by obtain ⟨d, _, rfl⟩ := List.mem_map.mp hx; exact Py.ok d
theorem wantsE_q {ρ : Ev.Env} (h0 : getO ρ 0 = some (.d (.tuple (ds.map De.py)))) (q : K.q (.d (.bool (wantsL ds))) st) : @qM W (orW (Ev.bin (onW eqD) (getV 0) (mkTup fun _ => Ev.ret [])) (Ev.bin (onW notInD) (Ev.bin ixW (Ev.bin ixW (getV 0) (negW fun _ => Ev.ret (W.d (.int 1)))) fun _ => Ev.ret (W.d (.int 0))) (mkTup (consA (fun _ => Ev.ret (W.d (.str ("wait" : Str)))) (consA (fun _ => Ev.ret (W.d (.str ("end" : Str)))) fun _ => Ev.ret [])))) ρ) st K := by
  have e := eq_nil (ds.map De.py) 1 (by decide) (pl_des ds)
  cases hg : ds.getLast? with
  | none =>
    rw [List.getLast?_eq_none_iff] at hg
    subst hg
    simp [h0, eq_nil [] 1 (by decide) nofun]
    exact q
  | some d =>
    have hne : ds ≠ [] := fun e => by rw [e] at hg; cases hg
    have he : (ds.map De.py).isEmpty = false := by cases ds with
      | nil => exact absurd rfl hne
      | cons => rfl
    rw [he] at e
    have hw : wantsL ds = wantsO (some d) := by unfold wantsL; rw [hg]
    rw [hw] at q
    have h1 : (ds.map De.py).getLast? = some d.py := by rw [List.getLast?_map, hg]; rfl
    cases d <;> simp [h0, e, h1, hg, De.wd] <;> exact q
theorem wants_q (q : K.q (.d (.bool (wantsL ds))) st) : @qM W (f_wants [W.d (.tuple (ds.map De.py))]) st K := by
  unfold f_wants b_wants
  rw [q_run, q_retS]
  exact wantsE_q rfl q
theorem needs_q (hl : ds.length ≤ 200) (q1 : okHist ds = true → K.q (.d (.bool (wantsL ds))) st) (q2 : okHist ds = false → K.e ⟨("InvalidHistory" : Str), []⟩ st) : @qM W (f_needs_intent [W.d (.tuple (ds.map De.py))]) st K := by
  unfold f_needs_intent b_needs_intent
  simp
  refine need_hist_q hl (fun h => ?_) fun h => ?_
  · simp; exact wants_q (q1 h)
  · simp; exact q2 h
theorem held_q (hl : ds.length ≤ 200) (q1 : ∀ held, okHist ds = true → locksL ds = some held → K.q (.d (.tuple ((sortWd held).map py))) st) (q2 : okHist ds = false → K.e ⟨("InvalidHistory" : Str), []⟩ st) : @qM W (f_locks_held [W.d (.tuple (ds.map De.py))]) st K := by
  unfold f_locks_held b_locks_held
  simp
  refine need_hist_q hl (fun h => ?_) fun h => ?_
  · simp
    refine locks_q hl ?_
    have h2 := h
    unfold okHist at h2
    simp at h2
    obtain ⟨held, hh⟩ := Option.isSome_iff_exists.mp h2.2.2.2
    have hlen : held.length < 4000 := by
      have : ∀ (ds : List De) (b : Option De) (s : List Wd × Option Wd) (h' : List Wd), runL b ds s = some h' → h'.length ≤ s.1.length + ds.length := by
        intro ds
        induction ds with
        | nil => intro b s h' e; injection e with e; subst e; simp
        | cons d r ih =>
          intro b s h' e
          rw [runL] at e
          cases e2 : stepL b d s with
          | none => rw [e2] at e; cases e
          | some s' =>
            rw [e2] at e
            have h1 := ih _ _ _ e
            have h2 := stepL_len e2
            rw [List.length_cons]; omega
      have := this ds none ([], none) held hh
      simp at this
      omega
    rw [hh]
    simp [lockW, sortDW_wd held hlen]
    exact q1 held h hh
  · simp; exact q2 h
end
end PK
end
section
set_option Elab.async false
set_option linter.all false
set_option maxRecDepth 100000
set_option maxHeartbeats 600000
set_option autoImplicit false
namespace PK
open PySem PySem.Spec PyProof.Rows L2 Ev
open Py (py)
/-! ## pairs, sorted by their first parts -/
class PyA (α : Type) extends Py α where
  al : ∀ a b : α, PySem.W.alike (py a) (py b) = true
instance : PyA Wd := { (inferInstance : Py Wd) with al := fun a b => by show PySem.W.alike (.str _) (.str _) = true; simp [PySem.W.alike] }
instance : PyA Va := { (inferInstance : Py Va) with al := fun a b => by show PySem.W.alike (.int _) (.int _) = true; simp [PySem.W.alike] }
instance {α β : Type} [PyA α] [PyA β] : PyA (α × β) := { (inferInstance : Py (α × β)) with
  al := fun a b => by
    show PySem.W.alike (.tuple [_, _]) (.tuple [_, _]) = true
    simp only [PySem.W.alike, PySem.W.alikeAll, Bool.and_true, Bool.and_eq_true]
    exact ⟨PyA.al _ _, PyA.al _ _⟩ }
theorem alike_all {α : Type} [PyA α] : ∀ l m : List α, PySem.W.alikeAll (l.map py) (m.map py) = true
  | [], _ => by simp [PySem.W.alikeAll]
  | _ :: _, [] => by simp [PySem.W.alikeAll]
  | a :: l, b :: m => by
    show PySem.W.alikeAll (py a :: l.map py) (py b :: m.map py) = true
    simp only [PySem.W.alikeAll, Bool.and_eq_true]
    exact ⟨PyA.al a b, alike_all l m⟩
instance {α : Type} [PyA α] : PyA (List α) := { (inferInstance : Py (List α)) with
  al := fun a b => by
    show PySem.W.alike (.tuple _) (.tuple _) = true
    simp only [PySem.W.alike]
    exact alike_all a b }
structure W3 where
  t : Wd
  c : Wd
  l : Wd
  deriving DecidableEq
instance : PyA W3 where
  py w := .tuple [.str w.t.1, .str w.c.1, .str w.l.1]
  n := 1
  ok w := by
    show ([PyData.str w.t.1, .str w.c.1, .str w.l.1].all (pl 0)) = true
    have hw : ∀ z : Wd, pl 0 (.str z.1) = true := fun z => strOk_of z.2
    simp only [List.all_cons, List.all_nil, hw, Bool.and_true]
  inj a b h := by
    injection h with h
    injection h with h1 h
    injection h with h2 h
    injection h with h3 _
    injection h1 with h1
    injection h2 with h2
    injection h3 with h3
    cases a; cases b
    simp only [W3.mk.injEq]
    exact ⟨Wd.ext h1, Wd.ext h2, Wd.ext h3⟩
  al a b := by simp [PySem.W.alike, PySem.W.alikeAll]
theorem py_w3 (w : W3) : py w = .tuple [.str w.t.1, .str w.c.1, .str w.l.1] := rfl
/-- data whose first part is a word -/
class Keyed (α : Type) extends PyA α where
  key : α → Wd
  rest : α → List PyData
  shape : ∀ a, py a = .tuple (.str (key a).1 :: rest a)
open Keyed (key)
instance {β : Type} [PyA β] : Keyed (Wd × β) := { (inferInstance : PyA (Wd × β)) with key := fun p => p.1, rest := fun p => [py p.2], shape := fun _ => rfl }
instance : Keyed W3 := { (inferInstance : PyA W3) with key := fun w => w.t, rest := fun w => [.str w.c.1, .str w.l.1], shape := fun _ => rfl }
section
variable {α : Type} [Keyed α]
def leK (a b : α) : Bool := leWd (key a) (key b)
def sortK (l : List α) : List α := l.mergeSort leK
theorem ltStr (x y : Str) : PySem.W.dataLt (.str x) (.str y) = decide (x.cps.toList < y.cps.toList) := PySem.W.dataLt_str x y
theorem leWd_not (a b : Wd) : leWd a b = !decide (b.1.cps.toList < a.1.cps.toList) := by
  unfold leWd leS
  by_cases h : b.1.cps.toList < a.1.cps.toList
  · have : ¬ a.1.cps.toList ≤ b.1.cps.toList := fun r => List.not_lt.mpr r h
    simp [h, this]
  · have : a.1.cps.toList ≤ b.1.cps.toList := List.not_lt.mp h
    simp [h, this]
theorem le_data {l : List α} (hn : (l.map key).Nodup) (a : α) (ha : a ∈ l) (b : α) (hb : b ∈ l) : leK a b = PySem.W.dataLe false id (py a) (py b) := by
  show leK a b = !PySem.W.dataLt (py b) (py a)
  by_cases e : key a = key b
  · have hab : a = b := by
      have : ∀ (l : List α), (l.map key).Nodup → ∀ a ∈ l, ∀ b ∈ l, key a = key b → a = b := by
        intro l
        induction l with
        | nil => intro _ a ha; cases ha
        | cons x l ih =>
          intro hn a ha b hb e
          rw [List.map_cons, List.nodup_cons] at hn
          rcases List.mem_cons.mp ha with h1 | h1 <;> rcases List.mem_cons.mp hb with h2 | h2
          · rw [h1, h2]
          · subst h1; exact absurd (by rw [e]; exact List.mem_map_of_mem h2) hn.1
          · subst h2; exact absurd (by rw [← e]; exact List.mem_map_of_mem h1) hn.1
          · exact ih hn.2 a h1 b h2 e
      exact this l hn a ha b hb e
    subst hab
    have h1 : PySem.W.dataLt (py a) (py a) = false := lex_irrefl _
    rw [h1]
    have := leWd_total (key a) (key a)
    simpa [leK] using this
  · rw [Keyed.shape a, Keyed.shape b, PySem.W.dataLt_tuple, PySem.W.dataLt_cons (by simp [PySem.W.alike])]
    have hs : ¬ (key b).1 = (key a).1 := fun h => e (Wd.ext h.symm)
    have h2 : PyData.eqv (.str (key b).1) (.str (key a).1) = false := by simp [PyData.eqv, hs]
    rw [h2]
    simp only [Bool.false_eq_true, if_false]
    rw [ltStr]
    unfold leK
    rw [leWd_not]
theorem sortD_k {l : List α} (hn : (l.map key).Nodup) : sortD (l.map py) = (sortK l).map py := by
  unfold sortD sortK
  rw [List.map_mergeSort (s := PySem.W.dataLe false id)]
  intro a ha b hb
  exact le_data hn a ha b hb
theorem okSort_k (l : List α) (hl : l.length < 4000) (hd : Py.n α ≤ 20) : okSort (l.map py) = true := by
  unfold okSort
  have h1 : ((l.map py).all fun d => (l.map py).all fun d' => PySem.W.alike d d') = true := by
    refine List.all_eq_true.mpr fun x hx => List.all_eq_true.mpr fun y hy => ?_
    obtain ⟨a, _, rfl⟩ := List.mem_map.mp hx
    obtain ⟨b, _, rfl⟩ := List.mem_map.mp hy
    exact PyA.al a b
  have h2 : (l.map py).all tupNe = true := by
    refine List.all_eq_true.mpr fun x hx => ?_
    obtain ⟨a, _, rfl⟩ := List.mem_map.mp hx
    rw [Keyed.shape a]; rfl
  have h3 : ((l.map py).all fun d => decide (d.depth ≤ 20)) = true := by
    refine List.all_eq_true.mpr fun x hx => ?_
    obtain ⟨a, _, rfl⟩ := List.mem_map.mp hx
    have := (pl_lay _ _ (Py.ok a)).2
    rw [decide_eq_true_eq]; omega
  rw [h1, h2, h3]
  simp [hl]
theorem sortDW_k {l : List α} (hn : (l.map key).Nodup) (hl : l.length < 4000) (hd : Py.n α ≤ 20) {st : Sto} : sortDW st (.d (.list (l.map py))) = some (.d (.list ((sortK l).map py))) := by
  unfold sortDW
  show (if okSort (l.map py) = true then some (W.d (.list (sortD (l.map py)))) else none) = _
  rw [if_pos (okSort_k l hl hd), sortD_k hn]
theorem sortDW_kT {l : List α} (hn : (l.map key).Nodup) (hl : l.length < 4000) (hd : Py.n α ≤ 20) {st : Sto} : sortDW st (.d (.tuple (l.map py))) = some (.d (.list ((sortK l).map py))) := by
  unfold sortDW
  show (if okSort (l.map py) = true then some (W.d (.list (sortD (l.map py)))) else none) = _
  rw [if_pos (okSort_k l hl hd), sortD_k hn]
theorem sortK_perm (l : List α) : (sortK l).Perm l := List.mergeSort_perm l leK
theorem sortK_up (l : List α) : (sortK l).Pairwise fun a b => leK a b = true := List.pairwise_mergeSort (le := leK) (fun a b c => leWd_trans (key a) (key b) (key c)) (fun a b => leWd_total (key a) (key b)) l
theorem sortK_len (l : List α) : (sortK l).length = l.length := (sortK_perm l).length_eq
/-- sorted, with unlike keys -/
structure SK (l : List α) : Prop where
  up : l.Pairwise fun a b => leK a b = true
  nd : (l.map key).Nodup
theorem sortK_sk {l : List α} (hn : (l.map key).Nodup) : SK (sortK l) := ⟨sortK_up l, ((sortK_perm l).map key).nodup_iff.mpr hn⟩
theorem key_inj {l : List α} (hn : (l.map key).Nodup) {a b : α} (ha : a ∈ l) (hb : b ∈ l) (e : key a = key b) : a = b := by
  induction l with
  | nil => cases ha
  | cons x l ih =>
    rw [List.map_cons, List.nodup_cons] at hn
    rcases List.mem_cons.mp ha with h1 | h1 <;> rcases List.mem_cons.mp hb with h2 | h2
    · rw [h1, h2]
    · subst h1; exact absurd (by rw [e]; exact List.mem_map_of_mem h2) hn.1
    · subst h2; exact absurd (by rw [← e]; exact List.mem_map_of_mem h1) hn.1
    · exact ih hn.2 h1 h2
theorem nodup_of_keys {l : List α} (hn : (l.map key).Nodup) : l.Nodup := by
  rw [List.nodup_iff_pairwise_ne, List.pairwise_map] at hn
  rw [List.nodup_iff_pairwise_ne]
  exact hn.imp fun {a b} h e => h (by rw [e])
/-- two of them with the same members are the same -/
theorem SK.ext {a b : List α} (ha : SK a) (hb : SK b) (h : ∀ x, x ∈ a ↔ x ∈ b) : a = b :=
  List.Perm.eq_of_pairwise (le := fun a b => leK a b = true) (fun x y hx hy h1 h2 => key_inj ha.nd hx ((h y).mpr hy) (leWd_anti _ _ h1 h2)) ha.up hb.up ((List.perm_ext_iff_of_nodup (nodup_of_keys ha.nd) (nodup_of_keys hb.nd)).mpr h)
theorem SK.filter {l : List α} (h : SK l) (p : α → Bool) : SK (l.filter p) := ⟨h.up.filter p, h.nd.sublist (List.Sublist.map key (List.filter_sublist ..))⟩
theorem SK.nil : SK ([] : List α) := ⟨List.Pairwise.nil, List.nodup_nil⟩
theorem sortK_id {l : List α} (h : SK l) : sortK l = l := (sortK_sk h.nd).ext h fun x => (sortK_perm l).mem_iff
end
end PK
end
section
set_option Elab.async false
set_option linter.all false
set_option maxRecDepth 100000
set_option maxHeartbeats 600000
set_option autoImplicit false
namespace PK
open PySem PySem.Spec PyProof.Rows L2 Ev
open Py (py)
open Keyed (key)
/-! ## the machine, plainly -/
@[simp] theorem atI_3 {α : Type} {l : List α} : atI l 3 = l[3]? := atI_nat (n := 3)
@[simp] theorem atI_4 {α : Type} {l : List α} : atI l 4 = l[4]? := atI_nat (n := 4)
@[simp] theorem atI_5 {α : Type} {l : List α} : atI l 5 = l[5]? := atI_nat (n := 5)
@[simp] theorem atI_6 {α : Type} {l : List α} : atI l 6 = l[6]? := atI_nat (n := 6)
def notPy : PyData → PyData
  | .bool k => .bool (!k)
  | d => d
@[simp] theorem notPy_b (k : Bool) : notPy (.bool k) = .bool (!k) := rfl
@[simp] theorem neD_strs (x y : Str) : neD (.str x) (.str y) = (eqD (.str x) (.str y)).map notPy := by
  unfold neD eqD
  split <;> rfl
structure Mo where
  cells : List (Wd × Va)
  holds : List (Wd × Wd)
  boxes : List (Wd × List Va)
  sleep : List (Wd × List (Wd × Wd))
  woken : List W3
  begun : List Wd
  ended : List Wd
def Mo.py (M : Mo) : PyData := .tuple [.tuple (M.cells.map Py.py), .tuple (M.holds.map Py.py), .tuple (M.boxes.map Py.py), .tuple (M.sleep.map Py.py), .tuple (M.woken.map Py.py), .tuple (M.begun.map Py.py), .tuple (M.ended.map Py.py)]
structure Mo.Ok (M : Mo) (n : Nat) : Prop where
  c : SK M.cells
  h : SK M.holds
  b : SK M.boxes
  s : SK M.sleep
  w : SK M.woken
  g : M.begun.Pairwise fun a b => leWd a b = true
  gn : M.begun.Nodup
  e : M.ended.Pairwise fun a b => leWd a b = true
  lc : M.cells.length ≤ n
  lh : M.holds.length ≤ n
  lb : M.boxes.length ≤ n
  ls : M.sleep.length ≤ n
  lw : M.woken.length ≤ n
  lg : M.begun.length ≤ n
  le : M.ended.length ≤ n
  lbb : ∀ p ∈ M.boxes, p.2.length ≤ n
  lss : ∀ p ∈ M.sleep, p.2.length ≤ n
  sn : ∀ p ∈ M.sleep, (p.2.map (·.1)).Nodup
  su : ∀ p ∈ M.sleep, ∀ p' ∈ M.sleep, ∀ a ∈ p.2, ∀ a' ∈ p'.2, a.1 = a'.1 → p = p'
  sw : ∀ p ∈ M.sleep, ∀ a ∈ p.2, ∀ w ∈ M.woken, w.t ≠ a.1
  en : M.ended.Nodup
def getK {β : Type} : List (Wd × β) → Wd → Option β
  | [], _ => none
  | p :: r, k => if p.1 = k then some p.2 else getK r k
theorem getK_mem {β : Type} {k : Wd} {v : β} : ∀ {l : List (Wd × β)}, getK l k = some v → (k, v) ∈ l
  | [], h => by cases h
  | p :: r, h => by
    unfold getK at h
    split at h
    · rename_i e
      cases Option.some.inj h
      subst e
      exact List.mem_cons_self
    · exact List.mem_cons_of_mem _ (getK_mem h)
theorem getK_of {β : Type} {k : Wd} {v : β} : ∀ {l : List (Wd × β)}, (l.map (·.1)).Nodup → (k, v) ∈ l → getK l k = some v
  | [], _, h => by cases h
  | p :: r, hn, h => by
    rw [List.map_cons, List.nodup_cons] at hn
    unfold getK
    rcases List.mem_cons.mp h with h1 | h1
    · subst h1; simp
    · have hne : ¬ p.1 = k := fun e => hn.1 (by rw [e]; exact List.mem_map_of_mem (f := (·.1)) h1)
      rw [if_neg hne]
      exact getK_of hn.2 h1
theorem getK_none {β : Type} {k : Wd} : ∀ {l : List (Wd × β)}, getK l k = none → ∀ v, (k, v) ∉ l
  | [], _, v => by simp
  | p :: r, h, v => by
    unfold getK at h
    split at h
    · cases h
    · rename_i e
      intro hm
      rcases List.mem_cons.mp hm with h1 | h1
      · exact e (by rw [← h1])
      · exact getK_none h v h1
def optPy {α : Type} [Py α] (o : Option α) (d : PyData) : PyData := match o with
  | some a => py a
  | none => d
@[simp] theorem optPy_none {α : Type} [Py α] (d : PyData) : optPy (none : Option α) d = d := rfl
@[simp] theorem optPy_some {α : Type} [Py α] (a : α) (d : PyData) : optPy (some a) d = py a := rfl
section
variable {st : Sto} {K : Kt W}
theorem told_q {β : Type} [Py β] {l : List (Wd × β)} {k : Wd} {o : PyData} (q : K.q (.d (optPy (getK l k) o)) st) : @qM W (f_told_of [W.d (.tuple (l.map py)), .d (.str k.1), .d o]) st K := by
  unfold f_told_of b_told_of
  simp
  refine q_loopI py (fun r ρ s => (∃ y3 y4, ρ = [some (.w (.d (.tuple (l.map py)))), some (.w (.d (.str k.1))), some (.w (.d o)), y3, y4]) ∧ s = st ∧ getK r k = getK l k) l ⟨⟨_, _, rfl⟩, rfl, rfl⟩ (fun p r ρ s hi => ?_) (fun ρ s hi => ?_)
  · obtain ⟨⟨y3, y4, rfl⟩, rfl, he⟩ := hi
    refine ⟨_, rfl, ?_⟩
    by_cases h : p.1 = k
    · have hg : getK l k = some p.2 := by rw [← he, getK, if_pos h]
      rw [hg] at q
      simp [py_wd, h]
      exact q
    · simp [py_wd, h]
      rw [← he, getK, if_neg h]
  · obtain ⟨⟨y3, y4, rfl⟩, rfl, he⟩ := hi
    have hg : getK l k = none := he.symm
    rw [hg] at q
    simp
    exact q
def putP {β : Type} [PyA β] (l : List (Wd × β)) (k : Wd) (v : β) : List (Wd × β) := sortK (l.filter (fun p => decide (p.1 ≠ k)) ++ [(k, v)])
def dropP {β : Type} (l : List (Wd × β)) (k : Wd) : List (Wd × β) := l.filter fun p => decide (p.1 ≠ k)
@[simp] theorem ix_pair0 {β : Type} [Py β] (p : Wd × β) : ixD (py p) 0 = some (.str p.1.1) := rfl
@[simp] theorem ix_pair1 {β : Type} [Py β] (p : Wd × β) : ixD (py p) 1 = some (py p.2) := rfl
theorem lc_notkey {β : Type} [Py β] {ρ : Ev.Env} {E : Ex → Sto → Prop} (i j : Nat) (hi : i < ρ.length) (hij : i ≠ j) (l : List (Wd × β)) {k : Wd} (hk : getO ρ j = some (.d (.str k.1))) (q : K.q (.d (.list ((dropP l k).map py))) st) :
    @qM _ (compL always [i] (aName i) (toB (Ev.bin (onW neD) (Ev.bin ixW (getV i) fun _ => Ev.ret (W.d (.int 0))) (getV j))) (getV i) ρ (l.map py) []) st ⟨fun ws s => @qM W (asData ws) s K, E⟩ := by
  refine lc_flt py py (fun p : Wd × β => decide (p.1 ≠ k)) l (fun p hp => ⟨_, rfl, ?_, fun _ => ?_⟩) q
  · apply gt_of
    have h2 : ∀ w : W, getO (List.set ρ i (some (Sl.w w))) i = some w := fun w => getO_setS hi
    have h3 : ∀ x, getO (List.set ρ i x) j = some (.d (.str k.1)) := fun x => by rw [getO_setN hij]; exact hk
    simp [h2, h3, py_pair, py_wd]
  · apply fe_of
    have h2 : ∀ w : W, getO (List.set ρ i (some (Sl.w w))) i = some w := fun w => getO_setS hi
    simp [h2]
theorem drop_nodup {β : Type} [PyA β] {l : List (Wd × β)} (hs : SK l) (k : Wd) (v : β) : ((dropP l k ++ [(k, v)]).map (key (α := Wd × β))).Nodup := by
  rw [List.map_append, List.nodup_append]
  refine ⟨(hs.filter _).nd, by simp, fun a ha b hb e => ?_⟩
  subst e
  rw [List.mem_singleton.mp hb] at ha
  obtain ⟨p, hp, hpk⟩ := List.mem_map.mp ha
  have := (List.mem_filter.mp hp).2
  simp at this
  exact this hpk
theorem put_q {β : Type} [PyA β] {l : List (Wd × β)} (hs : SK l) (hl : l.length ≤ 1000) (hd : Py.n β ≤ 15) {k : Wd} {v : β} {d : PyData} (hv : d = py v) (hv0 : isNone (.d d) = false) (q : K.q (.d (.tuple ((putP l k v).map py))) st) :
    @qM W (f_with_pair [W.d (.tuple (l.map py)), .d (.str k.1), .d d]) st K := by
  subst hv
  unfold f_with_pair b_with_pair
  have g1 : l.length < 16777216 := by omega
  simp [g1]
  refine lc_notkey 4 1 (by simp) (by decide) l rfl ?_
  have hdl : (dropP l k).length ≤ l.length := List.length_filter_le _ _
  have a1 : addD (.list ((dropP l k).map py)) (.list [.tuple [.str k.1, py v]]) = some (.list ((dropP l k ++ [(k, v)]).map py)) := by
    rw [addD_lst (by rw [List.length_map, sizeLine_eq]; simp; omega), List.map_append]; rfl
  have hn : Py.n (Wd × β) ≤ 20 := by show max 0 (Py.n β) + 1 ≤ 20; omega
  have a2 := sortDW_k (st := st) (drop_nodup hs k v) (by rw [List.length_append]; simp; omega) hn
  simp [pyIsNot, isB, hv0, a1, a2, -List.map_append]
  exact q
theorem drop_q {β : Type} [PyA β] {l : List (Wd × β)} (hs : SK l) (hl : l.length ≤ 1000) (hd : Py.n β ≤ 15) {k : Wd} (q : K.q (.d (.tuple ((dropP l k).map py))) st) :
    @qM W (f_with_pair [W.d (.tuple (l.map py)), .d (.str k.1), .d .none]) st K := by
  unfold f_with_pair b_with_pair
  have g1 : l.length < 16777216 := by omega
  simp [g1]
  refine lc_notkey 4 1 (by simp) (by decide) l rfl ?_
  have hdl : (dropP l k).length ≤ l.length := List.length_filter_le _ _
  have a1 : addD (.list ((dropP l k).map py)) (.list []) = some (.list ((dropP l k).map py)) := by
    rw [addD_lst (by rw [List.length_map, sizeLine_eq]; simp; omega), List.append_nil]
  have hn : Py.n (Wd × β) ≤ 20 := by show max 0 (Py.n β) + 1 ≤ 20; omega
  have a2 := sortDW_k (st := st) (hs.filter fun p => decide (p.1 ≠ k)).nd (by have := List.length_filter_le (fun p : Wd × β => decide (p.1 ≠ k)) l; omega) hn
  have a3 : sortK (dropP l k) = dropP l k := sortK_id (hs.filter _)
  rw [show (l.filter fun p => decide (p.1 ≠ k)) = dropP l k from rfl, a3] at a2
  simp [pyIsNot, isB, isNone, a1, a2]
  exact q
end
theorem put_sk {β : Type} [PyA β] {l : List (Wd × β)} (hs : SK l) (k : Wd) (v : β) : SK (putP l k v) := sortK_sk (drop_nodup hs k v)
theorem put_mem {β : Type} [PyA β] {l : List (Wd × β)} {k : Wd} {v : β} {p : Wd × β} : p ∈ putP l k v ↔ p = (k, v) ∨ (p.1 ≠ k ∧ p ∈ l) := by
  unfold putP
  rw [(sortK_perm _).mem_iff, List.mem_append, List.mem_filter, List.mem_singleton]
  simp only [decide_eq_true_eq]
  constructor
  · rintro (⟨h1, h2⟩ | h)
    · exact .inr ⟨h2, h1⟩
    · exact .inl h
  · rintro (h | ⟨h1, h2⟩)
    · exact .inr h
    · exact .inl ⟨h2, h1⟩
theorem put_len {β : Type} [PyA β] (l : List (Wd × β)) (k : Wd) (v : β) : (putP l k v).length ≤ l.length + 1 := by
  unfold putP
  rw [sortK_len, List.length_append]
  have := List.length_filter_le (fun p : Wd × β => decide (p.1 ≠ k)) l
  rw [List.length_singleton]; omega
theorem drop_mem {β : Type} {l : List (Wd × β)} {k : Wd} {p : Wd × β} : p ∈ dropP l k ↔ p.1 ≠ k ∧ p ∈ l := by
  unfold dropP
  rw [List.mem_filter, decide_eq_true_eq, And.comm]
theorem drop_len {β : Type} (l : List (Wd × β)) (k : Wd) : (dropP l k).length ≤ l.length := List.length_filter_le _ _
theorem nd_fst {β : Type} [PyA β] {l : List (Wd × β)} (hs : SK l) : (l.map (·.1)).Nodup := hs.nd
theorem get_put {β : Type} [PyA β] {l : List (Wd × β)} (hs : SK l) (k : Wd) (v : β) (j : Wd) : getK (putP l k v) j = if j = k then some v else getK l j := by
  have hp := put_sk hs k v
  by_cases h : j = k
  · subst h
    rw [if_pos rfl]
    exact getK_of hp.nd (put_mem.mpr (.inl rfl))
  · rw [if_neg h]
    cases e : getK l j with
    | some w => exact getK_of hp.nd (put_mem.mpr (.inr ⟨h, getK_mem e⟩))
    | none =>
      cases e2 : getK (putP l k v) j with
      | none => rfl
      | some w =>
        rcases put_mem.mp (getK_mem e2) with h1 | ⟨_, h1⟩
        · exact absurd (by injection h1) h
        · exact absurd h1 (getK_none e w)
theorem get_drop {β : Type} [PyA β] {l : List (Wd × β)} (hs : SK l) (k j : Wd) : getK (dropP l k) j = if j = k then none else getK l j := by
  have hp : SK (dropP l k) := hs.filter _
  by_cases h : j = k
  · subst h
    rw [if_pos rfl]
    cases e2 : getK (dropP l j) j with
    | none => rfl
    | some w => exact absurd rfl (drop_mem.mp (getK_mem e2)).1
  · rw [if_neg h]
    cases e : getK l j with
    | some w => exact getK_of hp.nd (drop_mem.mpr ⟨h, getK_mem e⟩)
    | none =>
      cases e2 : getK (dropP l k) j with
      | none => rfl
      | some w => exact absurd (drop_mem.mp (getK_mem e2)).2 (getK_none e w)
end PK
end
section
set_option Elab.async false
set_option linter.all false
set_option maxRecDepth 100000
set_option maxHeartbeats 600000
set_option autoImplicit false
namespace PK
open PySem PySem.Spec PyProof.Rows L2 Ev
open Py (py)
open Keyed (key)
def slAt : List (Wd × List (Wd × Wd)) → Wd → Option (Wd × Wd)
  | [], _ => none
  | p :: r, t => match getK p.2 t with
    | some l => some (p.1, l)
    | none => slAt r t
def goneAt : List W3 → Wd → Option (Wd × Wd)
  | [], _ => none
  | w :: r, t => if w.t = t then some (w.c, w.l) else goneAt r t
@[simp] theorem mo_0 (M : Mo) : ixD M.py 0 = some (.tuple (M.cells.map py)) := rfl
@[simp] theorem mo_1 (M : Mo) : ixD M.py 1 = some (.tuple (M.holds.map py)) := rfl
@[simp] theorem mo_2 (M : Mo) : ixD M.py 2 = some (.tuple (M.boxes.map py)) := rfl
@[simp] theorem mo_3 (M : Mo) : ixD M.py 3 = some (.tuple (M.sleep.map py)) := rfl
@[simp] theorem mo_4 (M : Mo) : ixD M.py 4 = some (.tuple (M.woken.map py)) := rfl
@[simp] theorem mo_5 (M : Mo) : ixD M.py 5 = some (.tuple (M.begun.map py)) := rfl
@[simp] theorem mo_6 (M : Mo) : ixD M.py 6 = some (.tuple (M.ended.map py)) := rfl
section
variable {st : Sto} {K : Kt W} {M : Mo} {t : Wd}
theorem asleep_q (q : K.q (.d (optPy (slAt M.sleep t) .none)) st) : @qM W (f_asleep_at [W.d M.py, .d (.str t.1)]) st K := by
  unfold f_asleep_at b_asleep_at
  simp
  refine q_loopI py (fun r ρ s => (∃ y2 y3 y4 y5, ρ = [some (.w (.d M.py)), some (.w (.d (.str t.1))), y2, y3, y4, y5]) ∧ s = st ∧ slAt r t = slAt M.sleep t) M.sleep ⟨⟨_, _, _, _, rfl⟩, rfl, rfl⟩ (fun p r ρ s hi => ?_) (fun ρ s hi => ?_)
  · obtain ⟨⟨y2, y3, y4, y5, rfl⟩, rfl, he⟩ := hi
    refine ⟨_, rfl, ?_⟩
    simp [py_list]
    refine q_loopI py (fun r' ρ s' => (∃ y4 y5, ρ = [some (.w (.d M.py)), some (.w (.d (.str t.1))), some (.w (.d (py p.1))), some (.w (.d (py p.2))), y4, y5]) ∧ s' = s ∧ getK r' t = getK p.2 t) p.2 ⟨⟨_, _, rfl⟩, rfl, rfl⟩ (fun a r' ρ s' hi => ?_) (fun ρ s' hi => ?_)
    · obtain ⟨⟨y4, y5, rfl⟩, rfl, he2⟩ := hi
      refine ⟨_, rfl, ?_⟩
      by_cases h : a.1 = t
      · have hg : getK p.2 t = some a.2 := by rw [← he2, getK, if_pos h]
        have hs : slAt M.sleep t = some (p.1, a.2) := by rw [← he, slAt, hg]
        rw [hs] at q
        simp [py_wd, h]
        exact q
      · simp [py_wd, h]
        rw [← he2, getK, if_neg h]
    · obtain ⟨⟨y4, y5, rfl⟩, rfl, he2⟩ := hi
      have hg : getK p.2 t = none := he2.symm
      refine ⟨⟨_, _, _, _, rfl⟩, rfl, ?_⟩
      rw [← he, slAt, hg]
  · obtain ⟨⟨y2, y3, y4, y5, rfl⟩, rfl, he⟩ := hi
    have hg : slAt M.sleep t = none := he.symm
    rw [hg] at q
    simp
    exact q
theorem gone_q (q : K.q (.d (optPy (goneAt M.woken t) .none)) st) : @qM W (f_gone_from [W.d M.py, .d (.str t.1)]) st K := by
  unfold f_gone_from b_gone_from
  simp
  refine q_loopI py (fun r ρ s => (∃ y2 y3 y4, ρ = [some (.w (.d M.py)), some (.w (.d (.str t.1))), y2, y3, y4]) ∧ s = st ∧ goneAt r t = goneAt M.woken t) M.woken ⟨⟨_, _, _, rfl⟩, rfl, rfl⟩ (fun p r ρ s hi => ?_) (fun ρ s hi => ?_)
  · obtain ⟨⟨y2, y3, y4, rfl⟩, rfl, he⟩ := hi
    refine ⟨_, rfl, ?_⟩
    by_cases h : p.t = t
    · have hg : goneAt M.woken t = some (p.c, p.l) := by rw [← he, goneAt, if_pos h]
      rw [hg] at q
      simp [h]
      exact q
    · simp [h]
      rw [← he, goneAt, if_neg h]
  · obtain ⟨⟨y2, y3, y4, rfl⟩, rfl, he⟩ := hi
    have hg : goneAt M.woken t = none := he.symm
    rw [hg] at q
    simp
    exact q
end
/-! ## intents -/
inductive It where
  | rd (x : Wd)
  | gt (x : Wd)
  | ot (d : De)
  deriving DecidableEq
def It.py : It → PyData
  | .rd x => .tuple [.str ("read" : Str), .str x.1]
  | .gt x => .tuple [.str ("get" : Str), .str x.1]
  | .ot d => d.py
theorem de_short {d : De} {x : Wd} {n : Str} (h : d.py = .tuple [.str n, .str x.1]) (hn : n = ("read" : Str) ∨ n = ("get" : Str)) : False := by
  rw [De.py_eq] at h
  injection h with h
  injection h with h1 h2
  injection h1 with h1
  have hx : d.ix = wdIx n := by rw [← ix_wd, h1]
  have hv : wdIx n = 0 ∨ wdIx n = 3 := by
    rcases hn with rfl | rfl
    · exact .inl (by decide +kernel)
    · exact .inr (by decide +kernel)
  rw [← hx] at hv
  cases d <;> simp [De.ix, De.args] at hv h2
theorem rd_gt : (("read" : Str) = ("get" : Str)) → False := by decide +kernel
theorem it_ok (i : It) : pl 1 i.py = true := by
  have hw : ∀ z : Wd, pl 0 (.str z.1) = true := fun z => strOk_of z.2
  have h1 : pl 0 (.str ("read" : Str)) = true := by decide +kernel
  have h2 : pl 0 (.str ("get" : Str)) = true := by decide +kernel
  cases i with
  | rd x => show [PyData.str ("read" : Str), .str x.1].all (pl 0) = true; simp only [List.all_cons, List.all_nil, h1, hw, Bool.and_true]
  | gt x => show [PyData.str ("get" : Str), .str x.1].all (pl 0) = true; simp only [List.all_cons, List.all_nil, h2, hw, Bool.and_true]
  | ot d => exact Py.ok d
theorem it_inj (a b : It) (h : a.py = b.py) : a = b := by
  cases a with
  | rd x => cases b with
    | rd y => simp only [It.py, PyData.tuple.injEq, List.cons.injEq, PyData.str.injEq, and_true, true_and] at h; rw [Wd.ext h]
    | gt y => simp only [It.py, PyData.tuple.injEq, List.cons.injEq, PyData.str.injEq, and_true] at h; exact (rd_gt h.1).elim
    | ot d => exact (de_short (d := d) h.symm (.inl rfl)).elim
  | gt x => cases b with
    | rd y => simp only [It.py, PyData.tuple.injEq, List.cons.injEq, PyData.str.injEq, and_true] at h; exact (rd_gt h.1.symm).elim
    | gt y => simp only [It.py, PyData.tuple.injEq, List.cons.injEq, PyData.str.injEq, and_true, true_and] at h; rw [Wd.ext h]
    | ot d => exact (de_short (d := d) h.symm (.inr rfl)).elim
  | ot d => cases b with
    | rd y => exact (de_short (d := d) h (.inl rfl)).elim
    | gt y => exact (de_short (d := d) h (.inr rfl)).elim
    | ot e => rw [De.inj d e h]
instance : Py It := ⟨It.py, 1, it_ok, it_inj⟩
theorem notin_T (x : Wd) (l : List Wd) : notInD (.str x.1) (.tuple (l.map py)) = some (.bool (!decide (x ∈ l))) := notInD_tup (by decide) x l
theorem in_T (x : Wd) (l : List Wd) : inD (.str x.1) (.tuple (l.map py)) = some (.bool (decide (x ∈ l))) := inD_tup (by decide) x l
theorem py_it (i : It) : py i = i.py := rfl
def It.wf : It → Bool
  | .ot (.rd _ _) => false
  | .ot (.gt _ _) => false
  | _ => true
def letsI (M : Mo) (t : Wd) : De → Bool
  | .tk x => (getK M.holds x).isNone
  | .gv x => decide (getK M.holds x = some t)
  | .wt _ l => decide (getK M.holds l = some t)
  | .bg x => !decide (x ∈ M.begun)
  | .aw x => decide (x ∈ M.ended)
  | _ => true
def va0 : Va := ⟨0, by decide⟩
def deedAt (M : Mo) (t : Wd) (i : It) : Option De :=
  if decide (t ∈ M.begun) = false ∨ decide (t ∈ M.ended) = true ∨ (slAt M.sleep t).isSome = true then none else
  match goneAt M.woken t with
  | some p => if i = .ot (.wn p.1) ∧ getK M.holds p.2 = none then some (.wn p.1) else none
  | none => match i with
    | .rd x => some (.rd x ((getK M.cells x).getD va0))
    | .gt x => (match getK M.boxes x with
      | some (v :: _) => some (.gt x v)
      | _ => none)
    | .ot (.wn _) => none
    | .ot d => if letsI M t d = true then some d else none
section
variable {st : Sto} {K : Kt W} {M : Mo} {t : Wd}
theorem none_opt {α : Type} [Py α] (h : ∀ a : α, isNone (.d (py a)) = false) (o : Option α) : isNone (.d (optPy o .none)) = o.isNone := by
  cases o with
  | none => rfl
  | some a => exact h a
theorem opt_eq (o : Option Wd) (t : Wd) : eqD (optPy o .none) (.str t.1) = some (.bool (decide (o = some t))) := by
  cases o with
  | none =>
    have h1 : SeqAt.shaped (.str t.1) = true := shaped_str (strOk_of t.2)
    simp only [optPy_none]
    rw [eqD_of shaped_none h1]
    simp [PyData.eqv]
  | some z => simp [py_wd]
@[simp] theorem tk_1 (x : Wd) : ixD (De.tk x).py 1 = some (.str x.1) := rfl
@[simp] theorem gv_l (x : Wd) : ixD (De.gv x).py (-1) = some (.str x.1) := by simp [De.py]
@[simp] theorem wt_l (c x : Wd) : ixD (De.wt c x).py (-1) = some (.str x.1) := by simp [De.py]
@[simp] theorem bg_1 (x : Wd) : ixD (De.bg x).py 1 = some (.str x.1) := rfl
@[simp] theorem aw_1 (x : Wd) : ixD (De.aw x).py 1 = some (.str x.1) := rfl
theorem letsI_q (d : De) (hw : (match d with | .rd _ _ => false | .gt _ _ => false | .wn _ => false | _ => true) = true) (q : K.q (.d (.bool (letsI M t d))) st) : @qM W (f_is_let [W.d M.py, .d (.str t.1), .d d.py]) st K := by
  unfold f_is_let b_is_let
  have hW : ∀ a : Wd, isNone (.d (py a)) = false := fun a => rfl
  cases d with
  | tk x =>
    simp [De.wd]
    refine told_q ?_
    simp [pyIs, isB, none_opt hW]
    exact q
  | gv x =>
    simp [De.wd]
    refine told_q ?_
    simp [opt_eq]
    exact q
  | wt c x =>
    simp [De.wd]
    refine told_q ?_
    simp [opt_eq]
    exact q
  | bg x => simp [De.wd, notin_T]; exact q
  | aw x => simp [De.wd, in_T]; exact q
  | rd x i => cases hw
  | gt x i => cases hw
  | wn x => cases hw
  | _ => simp [De.wd]; exact q
theorem eq_none_t {x : PyData} (h : SeqAt.shaped x = true) (hx : isNone (.d x) = false) : eqD .none x = some (.bool false) := by
  rw [eqD_of shaped_none h]
  cases x <;> first | (cases hx; done) | simp [PyData.eqv]
@[simp] theorem it_0r (x : Wd) : ixD (It.rd x).py 0 = some (.str ("read" : Str)) := rfl
@[simp] theorem it_0g (x : Wd) : ixD (It.gt x).py 0 = some (.str ("get" : Str)) := rfl
@[simp] theorem it_1r (x : Wd) : ixD (It.rd x).py 1 = some (.str x.1) := rfl
@[simp] theorem it_1g (x : Wd) : ixD (It.gt x).py 1 = some (.str x.1) := rfl
@[simp] theorem it_ot (d : De) : (It.ot d).py = d.py := rfl
theorem it_wn (i : It) (c : Wd) : eqD i.py (.tuple [.str ("woken" : Str), .str c.1]) = some (.bool (decide (i = .ot (.wn c)))) := eqD_py (by decide) i (.ot (.wn c))
theorem eq_wn (d : De) (c : Wd) : eqD d.py (.tuple [.str ("woken" : Str), .str c.1]) = some (.bool (decide (d = .wn c))) := eqD_py (by decide) d (.wn c)
def itWord : It → Str
  | .rd _ => "read"
  | .gt _ => "get"
  | .ot d => d.wd
theorem it_0 (i : It) : ixD i.py 0 = some (.str (itWord i)) := by
  cases i with
  | rd x => rfl
  | gt x => rfl
  | ot d => exact de_0 d
def itWn : It → Bool
  | .ot (.wn _) => true
  | _ => false
theorem it_woken (i : It) : eqD (.str (itWord i)) (.str ("woken" : Str)) = some (.bool (itWn i)) := by
  cases i with
  | rd x => simp [itWord, itWn]
  | gt x => simp [itWord, itWn]
  | ot d => cases d <;> simp [itWord, itWn, De.wd]
theorem ne_nilT (l : List PyData) (n : Nat) (hn : n ≤ 19) (hp : ∀ x ∈ l, pl n x = true) : neD (.tuple l) (.tuple []) = some (.bool (!l.isEmpty)) := by
  have h1 : pl (n + 1) (.tuple l) = true := List.all_eq_true.mpr hp
  have h2 : pl 1 (.tuple []) = true := rfl
  rw [neD_of (pl_shaped (by omega) h1) (pl_shaped (by decide) h2)]
  cases l <;> simp [PyData.eqv, PyData.eqvAll]
theorem cut_take' {α : Type} (xs : List α) (n : Nat) : cutL xs none (some (n : Int)) = xs.take n := by
  unfold cutL
  rw [HT.sIx_none, HT.sIx_nat]
  simp
def oDe (o : Option De) : PyData := optPy o .none
theorem deed_q (i : It) (hw : i.wf = true) (q : K.q (.d (oDe (deedAt M t i))) st) : @qM W (f_deed_at [W.d M.py, .d (.str t.1), .d i.py]) st K := by
  unfold f_deed_at b_deed_at
  have hP : ∀ a : Wd × Wd, isNone (.d (py a)) = false := fun a => rfl
  have hW : ∀ a : Wd, isNone (.d (py a)) = false := fun a => rfl
  cases h1 : decide (t ∈ M.begun) with
  | false =>
    have : deedAt M t i = none := by unfold deedAt; rw [if_pos (.inl h1)]
    rw [this] at q
    simp [notin_T, h1]; exact q
  | true =>
    cases h2 : decide (t ∈ M.ended) with
    | true =>
      have : deedAt M t i = none := by unfold deedAt; rw [if_pos (.inr (.inl h2))]
      rw [this] at q
      simp [notin_T, in_T, h1, h2]; exact q
    | false =>
      simp [notin_T, in_T, h1, h2]
      refine asleep_q ?_
      cases h3 : (slAt M.sleep t).isSome with
      | true =>
        have : deedAt M t i = none := by unfold deedAt; rw [if_pos (.inr (.inr h3))]
        rw [this] at q
        obtain ⟨a, ha⟩ := Option.isSome_iff_exists.mp h3
        simp [pyIsNot, isB, ha, hP]; exact q
      | false =>
        have hn : slAt M.sleep t = none := by cases e : slAt M.sleep t with
          | none => rfl
          | some a => rw [e] at h3; cases h3
        have hc : ¬ (decide (t ∈ M.begun) = false ∨ decide (t ∈ M.ended) = true ∨ (slAt M.sleep t).isSome = true) := by rw [h1, h2, h3]; simp
        unfold deedAt at q
        rw [if_neg hc] at q
        simp [pyIsNot, isB, isNone, hn]
        refine gone_q ?_
        cases hg : goneAt M.woken t with
        | some p =>
          rw [hg] at q
          have p0 : ixD (py p) 0 = some (.str p.1.1) := rfl
          have p1 : ixD (py p) 1 = some (.str p.2.1) := rfl
          by_cases hi : i = .ot (.wn p.1)
          · subst hi
            simp [hP, pyIsNot, isB, eq_wn, p0, p1, De.wd, it_0, itWord]
            refine told_q (l := M.holds) (k := p.2) ?_
            cases hk : getK M.holds p.2 with
            | none =>
              dsimp only at q
              rw [if_pos ⟨rfl, hk⟩] at q
              simp [pyIs, isB, isNone]
              exact q
            | some z =>
              dsimp only at q
              rw [if_neg (fun h => by rw [hk] at h; cases h.2)] at q
              simp [pyIs, isB, hW]
              exact q
          · dsimp only at q
            rw [if_neg (fun h => hi h.1)] at q
            simp [it_0, hP, pyIsNot, isB, it_wn, p0, p1, hi]
            exact q
        | none =>
          rw [hg] at q
          dsimp only at q
          cases i with
          | rd x =>
            dsimp only at q
            simp [itWord, it_0, pyIsNot, isB, isNone]
            refine told_q (l := M.cells) (k := x) ?_
            have e : optPy (getK M.cells x) (.int 0) = .int ((getK M.cells x).getD va0).1 := by cases getK M.cells x <;> rfl
            rw [e]
            have a : addD (It.rd x).py (.tuple [.int ((getK M.cells x).getD va0).1]) = some (De.rd x ((getK M.cells x).getD va0)).py := by
              show addD (.tuple [_, _]) _ = _
              rw [addD_tup (by rw [sizeLine_eq]; simp)]; rfl
            simp [a]
            exact q
          | gt x =>
            dsimp only at q
            simp [itWord, it_0, pyIsNot, isB, isNone]
            refine told_q (l := M.boxes) (k := x) ?_
            cases hk : getK M.boxes x with
            | none =>
              rw [hk] at q
              simp [ne_nilT [] 0 (by decide) nofun]
              exact q
            | some l =>
              rw [hk] at q
              cases l with
              | nil =>
                simp [py_list, ne_nilT [] 0 (by decide) nofun]
                exact q
              | cons v l =>
                have hp : ∀ x ∈ py v :: l.map py, pl 0 x = true := fun x hx => by
                  obtain ⟨z, _, rfl⟩ := List.mem_map.mp (show x ∈ (v :: l).map py from hx)
                  exact Py.ok z
                have c1 : cutL (py v :: l.map py) none (some 1) = [py v] := by
                  have := cut_take' (py v :: l.map py) 1
                  simpa using this
                have a : addD (It.gt x).py (.tuple [py v]) = some (De.gt x v).py := by
                  show addD (.tuple [_, _]) _ = _
                  rw [addD_tup (by rw [sizeLine_eq]; simp)]; rfl
                simp [py_list, ne_nilT _ 0 (by decide) hp, c1, a]
                exact q
          | ot d =>
            cases d with
            | rd x i => cases hw
            | gt x i => cases hw
            | wn x => simp [itWord, it_0, pyIsNot, isB, isNone, De.wd]; exact q
            | _ =>
              dsimp only at q
              simp [itWord, it_0, pyIsNot, isB, isNone, De.wd]
              refine letsI_q _ rfl ?_
              split at q
              · rename_i hl; simp [hl]; exact q
              · rename_i hl
                have hl' := Bool.eq_false_iff.mpr hl
                simp [hl']; exact q
end
end PK
end
section
set_option Elab.async false
set_option linter.all false
set_option maxRecDepth 100000
set_option maxHeartbeats 600000
set_option autoImplicit false
namespace PK
open PySem PySem.Spec PyProof.Rows L2 Ev
open Py (py)
open Keyed (key)
def intentOf : De → It
  | .rd x _ => .rd x
  | .gt x _ => .gt x
  | d => .ot d
theorem intent_wf (d : De) : (intentOf d).wf = true := by cases d <;> rfl
def letsD (M : Mo) (t : Wd) (d : De) : Bool := decide (deedAt M t (intentOf d) = some d)
def lettersOf (M : Mo) (x : Wd) : List Va := (getK M.boxes x).getD []
def rowOf (M : Mo) (c : Wd) : List (Wd × Wd) := (getK M.sleep c).getD []
def behindM (M : Mo) (t : Wd) : De → Mo
  | .wr x v => { M with cells := putP M.cells x v }
  | .tk x => { M with holds := putP M.holds x t }
  | .gv x => { M with holds := dropP M.holds x }
  | .sd x v => { M with boxes := putP M.boxes x (lettersOf M x ++ [v]) }
  | .gt x _ => { M with boxes := if (lettersOf M x).tail = [] then dropP M.boxes x else putP M.boxes x (lettersOf M x).tail }
  | .bg x => { M with begun := sortWd (M.begun ++ [x]) }
  | .nd => { M with ended := sortWd (M.ended ++ [t]) }
  | .wt c l => { M with holds := dropP M.holds l, sleep := putP M.sleep c (rowOf M c ++ [(t, l)]) }
  | .wn _ => match goneAt M.woken t with
    | some p => { M with holds := putP M.holds p.2 t, woken := M.woken.filter fun w => decide (w.t ≠ t) }
    | none => M
  | .wk c => match rowOf M c with
    | a :: r => { M with woken := sortK (M.woken ++ [⟨a.1, c, a.2⟩]), sleep := if r = [] then dropP M.sleep c else putP M.sleep c r }
    | [] => M
  | _ => M
section
variable {st : Sto} {K : Kt W} {M : Mo} {t : Wd}
theorem heard_look (d : De) : kt_HEARD.lookup d.wd = (match d with | .rd _ _ => some (.int 1) | .gt _ _ => some (.int 1) | _ => none) := by
  cases d <;> simp [De.wd]
theorem bare_q (d : De) (hd : isWn d = false) (q : K.q (.d (intentOf d).py) st) : @qM W (f_bare_intent [W.d d.py]) st K := by
  unfold f_bare_intent b_bare_intent
  have c : ∀ a b c : PyData, cutL [a, b, c] none (some 2) = [a, b] := fun a b c => by
    have := cut_take' [a, b, c] 2
    simpa using this
  cases d with
  | wn x => cases hd
  | rd x i =>
    have hs : slD none (some 2) (De.rd x i).py = some (It.rd x).py := by show (some (.tuple (cutL _ _ _)) : Option PyData) = _; rw [c]; rfl
    simp [isWn, De.wd, hs]; exact q
  | gt x i =>
    have hs : slD none (some 2) (De.gt x i).py = some (It.gt x).py := by show (some (.tuple (cutL _ _ _)) : Option PyData) = _; rw [c]; rfl
    simp [isWn, De.wd, hs]; exact q
  | _ => simp [isWn, De.wd]; exact q
theorem eq_oDe (o : Option De) (d : De) : eqD (oDe o) d.py = some (.bool (decide (o = some d))) := by
  cases o with
  | none =>
    have := eq_none_t (x := d.py) (pl_shaped (n := 1) (by decide) (Py.ok d)) (by rw [De.py_eq]; rfl)
    show eqD .none d.py = _
    rw [this]
    simp
  | some a => show eqD a.py d.py = _; simp
theorem deed_q' (i : It) {v : PyData} (hv : v = i.py) (hw : i.wf = true) (q : K.q (.d (oDe (deedAt M t i))) st) : @qM W (f_deed_at [W.d M.py, .d (.str t.1), .d v]) st K := by
  subst hv; exact deed_q i hw q
theorem lets_q (d : De) (q : K.q (.d (.bool (letsD M t d))) st) : @qM W (f_lets [W.d M.py, .d (.str t.1), .d d.py]) st K := by
  unfold f_lets b_lets
  cases h : isWn d with
  | true =>
    simp [h]
    refine deed_q' (intentOf d) (by cases d <;> first | rfl | cases h) (intent_wf d) ?_
    simp [eq_oDe]
    exact q
  | false =>
    simp [h]
    refine bare_q d h ?_
    simp
    refine deed_q _ (intent_wf d) ?_
    simp [eq_oDe]
    exact q
end
end PK
end
section
set_option Elab.async false
set_option linter.all false
set_option maxRecDepth 100000
set_option maxHeartbeats 600000
set_option autoImplicit false
namespace PK
open PySem PySem.Spec PyProof.Rows L2 Ev
open Py (py)
open Keyed (key)
section
variable {st : Sto} {K : Kt W} {M : Mo} {t : Wd} {n : Nat}
@[simp] theorem aTup_mo (b : List PyData → Ev.Env → Option Ev.Env) (ρ : Ev.Env) : aTup 7 b M.py ρ = b [.tuple (M.cells.map py), .tuple (M.holds.map py), .tuple (M.boxes.map py), .tuple (M.sleep.map py), .tuple (M.woken.map py), .tuple (M.begun.map py), .tuple (M.ended.map py)] ρ := rfl
theorem row_py (c : Wd) : optPy (getK M.sleep c) (.tuple []) = .tuple ((rowOf M c).map py) := by
  unfold rowOf
  cases getK M.sleep c <;> rfl
theorem let_py (c : Wd) : optPy (getK M.boxes c) (.tuple []) = .tuple ((lettersOf M c).map py) := by
  unfold lettersOf
  cases getK M.boxes c <;> rfl
theorem row_len (h : M.Ok n) (c : Wd) : (rowOf M c).length ≤ n := by
  unfold rowOf
  cases e : getK M.sleep c with
  | none => simp
  | some r => exact h.lss _ (getK_mem e)
theorem let_len (h : M.Ok n) (c : Wd) : (lettersOf M c).length ≤ n := by
  unfold lettersOf
  cases e : getK M.boxes c with
  | none => simp
  | some r => exact h.lbb _ (getK_mem e)
theorem cut_drop' {α : Type} (xs : List α) (n : Nat) : cutL xs (some (n : Int)) none = xs.drop n := by
  unfold cutL
  rw [HT.sIx_none, HT.sIx_nat]
  by_cases h : n ≤ xs.length
  · rw [Nat.min_eq_left h, List.take_of_length_le (by rw [List.length_drop]; omega)]
  · rw [Nat.min_eq_right (by omega), List.drop_length, List.take_nil, List.drop_eq_nil_of_le (by omega)]
theorem cut_1 {α : Type} (a : α) (xs : List α) : cutL (a :: xs) (some 1) none = xs := cut_drop' (a :: xs) 1
theorem woken_nd (h : M.Ok n) {c : Wd} {a : Wd × Wd} {r : List (Wd × Wd)} (hr : rowOf M c = a :: r) : ((M.woken ++ [(⟨a.1, c, a.2⟩ : W3)]).map (key (α := W3))).Nodup := by
  have hm : ∃ row, (c, row) ∈ M.sleep ∧ a ∈ row := by
    unfold rowOf at hr
    cases e : getK M.sleep c with
    | none => rw [e] at hr; cases hr
    | some row =>
      rw [e] at hr
      exact ⟨row, getK_mem e, by have : row = a :: r := hr; rw [this]; exact List.mem_cons_self⟩
  obtain ⟨row, h1, h2⟩ := hm
  rw [List.map_append, List.nodup_append]
  refine ⟨h.w.nd, by simp, fun x hx y hy e => ?_⟩
  subst e
  rw [List.map_cons, List.map_nil, List.mem_singleton] at hy
  obtain ⟨w, hw, hwt⟩ := List.mem_map.mp hx
  exact h.sw _ h1 a h2 w hw (by show key w = a.1; rw [hwt, hy]; rfl)
theorem callM_q (h : M.Ok n) (hn : n ≤ 300) (d : De) (hd : (match d with | .wt _ _ => true | .wn _ => (goneAt M.woken t).isSome | .wk _ => true | _ => false) = true) (q : K.q (.d (behindM M t d).py) st) : @qM W (f_behind_call [W.d M.py, .d (.str t.1), .d d.py]) st K := by
  unfold f_behind_call b_behind_call
  have hW : ∀ a : Wd, isNone (.d (py a)) = false := fun a => rfl
  have a1 : ∀ (r : List (Wd × Wd)) (l : Wd), r.length ≤ 300 → addD (.tuple (r.map py)) (.tuple [.tuple [.str t.1, .str l.1]]) = some (py (r ++ [(t, l)])) := fun r l hr => by
    rw [addD_tup (by rw [List.length_map, sizeLine_eq]; simp; omega), py_list, List.map_append]; rfl
  cases d with
  | wt c l =>
    have c1 : ixD (De.wt c l).py 1 = some (.str c.1) := rfl
    simp [c1, De.wd]
    refine told_q (l := M.sleep) (k := c) ?_
    rw [row_py]
    simp [isWt', De.wd]
    refine drop_q (l := M.holds) (k := l) h.h (by have := h.lh; omega) (by decide) ?_
    simp [a1 _ _ (by have := row_len h c; omega : (rowOf M c).length ≤ 300), c1]
    refine put_q (l := M.sleep) (k := c) (v := rowOf M c ++ [(t, l)]) h.s (by have := h.ls; omega) (by decide) rfl rfl ?_
    simp
    exact q
  | wn c =>
    have c1 : ixD (De.wn c).py 1 = some (.str c.1) := rfl
    obtain ⟨p, hp⟩ := Option.isSome_iff_exists.mp hd
    have p1 : ixD (py p) 1 = some (.str p.2.1) := rfl
    simp [c1, De.wd]
    refine told_q (l := M.sleep) (k := c) ?_
    rw [row_py]
    simp [isWt', isWn, De.wd]
    refine gone_q ?_
    rw [hp]
    simp [p1]
    refine put_q (l := M.holds) (k := p.2) (v := t) h.h (by have := h.lh; omega) (by decide) rfl rfl ?_
    have g1 : M.woken.length < 16777216 := by have := h.lw; omega
    simp [g1]
    refine lc_flt py py (fun w : W3 => decide (w.t ≠ t)) M.woken (fun w hw => ⟨_, rfl, ?_, fun _ => ?_⟩) ?_
    · apply gt_of
      simp [py_w3]
    · apply fe_of
      simp
    have e : behindM M t (.wn c) = { M with holds := putP M.holds p.2 t, woken := M.woken.filter fun w => decide (w.t ≠ t) } := by simp only [behindM, hp]
    rw [e] at q
    simp
    simpa [Mo.py] using q
  | wk c =>
    have c1 : ixD (De.wk c).py 1 = some (.str c.1) := rfl
    simp [c1, De.wd]
    refine told_q (l := M.sleep) (k := c) ?_
    rw [row_py]
    have hp : ∀ x ∈ (rowOf M c).map py, pl 1 x = true := fun x hx => by obtain ⟨z, _, rfl⟩ := List.mem_map.mp hx; exact Py.ok z
    cases hr : rowOf M c with
    | nil =>
      have e : behindM M t (.wk c) = M := by simp only [behindM, hr]
      rw [e] at q
      simp [isWt', isWn, De.wd, ne_nilT [] 0 (by decide) nofun]
      exact q
    | cons a r =>
      rw [hr] at hp
      have hnd := woken_nd h hr
      have e : behindM M t (.wk c) = { M with woken := sortK (M.woken ++ [⟨a.1, c, a.2⟩]), sleep := if r = [] then dropP M.sleep c else putP M.sleep c r } := by simp only [behindM, hr]
      rw [e] at q
      have q0 : ixD (py a) 0 = some (.str a.1.1) := rfl
      have q1 : ixD (py a) 1 = some (.str a.2.1) := rfl
      have a2 : addD (.tuple (M.woken.map py)) (.tuple [.tuple [.str a.1.1, .str c.1, .str a.2.1]]) = some (.tuple ((M.woken ++ [(⟨a.1, c, a.2⟩ : W3)]).map py)) := by
        rw [addD_tup (by rw [List.length_map, sizeLine_eq]; have := h.lw; simp; omega), List.map_append]; rfl
      have s1 := sortDW_kT (st := st) hnd (by rw [List.length_append]; have := h.lw; simp; omega) (by decide)
      have hne : neD (.tuple (py a :: r.map py)) (.tuple []) = some (.bool true) := ne_nilT _ 1 (by decide) hp
      cases r with
      | nil =>
        simp only [List.map_nil] at hne
        simp [-List.map_append, isWt', isWn, De.wd, hne, q0, q1, a2, s1]
        refine drop_q (l := M.sleep) (k := c) h.s (by have := h.ls; omega) (by decide) ?_
        simp [-List.map_append]
        simpa [Mo.py] using q
      | cons b r =>
        have g1 : (1 : Int) < ((r.length : Int) + 1 + 1) := by omega
        simp only [List.map_cons] at hne
        simp [-List.map_append, isWt', isWn, De.wd, hne, q0, q1, a2, s1, g1, cut_1]
        refine put_q (l := M.sleep) (k := c) (v := b :: r) h.s (by have := h.ls; omega) (by decide) rfl rfl ?_
        simp [-List.map_append]
        simpa [Mo.py] using q
  | _ => cases hd
end
end PK
end
section
set_option Elab.async false
set_option linter.all false
set_option maxRecDepth 100000
set_option maxHeartbeats 600000
set_option autoImplicit false
namespace PK
open PySem PySem.Spec PyProof.Rows L2 Ev
open Py (py)
open Keyed (key)
section
variable {st : Sto} {K : Kt W} {M : Mo} {t : Wd} {n : Nat}
theorem sort_add (l : List Wd) (x : Wd) (hl : l.length ≤ 300) {st : Sto} : addD (.tuple (l.map py)) (.tuple [.str x.1]) = some (.tuple ((l ++ [x]).map py)) ∧ sortDW st (.d (.tuple ((l ++ [x]).map py))) = some (.d (.list ((sortWd (l ++ [x])).map py))) := by
  refine ⟨?_, sortDW_wdT _ (by rw [List.length_append]; simp; omega)⟩
  rw [addD_tup (by rw [List.length_map, sizeLine_eq]; simp; omega), List.map_append]; rfl
theorem behind_q (h : M.Ok n) (hn : n ≤ 300) (d : De) (hd : (match d with | .wn _ => (goneAt M.woken t).isSome | _ => true) = true) (q : K.q (.d (behindM M t d).py) st) : @qM W (f_behind [W.d M.py, .d (.str t.1), .d d.py]) st K := by
  unfold f_behind b_behind
  have hl0 : ∀ (l : List Va), ∀ x ∈ l.map py, pl 0 x = true := fun l x hx => by obtain ⟨z, _, rfl⟩ := List.mem_map.mp hx; exact Py.ok z
  cases d with
  | rd x i => simp [De.wd]; exact q
  | wr x i =>
    have c1 : ixD (De.wr x i).py 1 = some (.str x.1) := rfl
    have c2 : ixD (De.wr x i).py 2 = some (.int i.1) := rfl
    simp [De.wd, c1, c2]
    refine put_q (l := M.cells) (k := x) (v := i) h.c (by have := h.lc; omega) (by decide) rfl rfl ?_
    simp
    exact q
  | sd x i =>
    have c1 : ixD (De.sd x i).py 1 = some (.str x.1) := rfl
    have c2 : ixD (De.sd x i).py 2 = some (.int i.1) := rfl
    simp [De.wd, c1, c2]
    refine told_q (l := M.boxes) (k := x) ?_
    rw [let_py]
    have a1 : addD (.tuple ((lettersOf M x).map py)) (.tuple [.int i.1]) = some (py (lettersOf M x ++ [i])) := by
      have := let_len h x
      rw [addD_tup (by rw [List.length_map, sizeLine_eq]; simp; omega), py_list, List.map_append]; rfl
    simp [a1, c1, c2]
    refine put_q (l := M.boxes) (k := x) (v := lettersOf M x ++ [i]) h.b (by have := h.lb; omega) (by decide) rfl rfl ?_
    simp
    exact q
  | gt x i =>
    have c1 : ixD (De.gt x i).py 1 = some (.str x.1) := rfl
    simp [De.wd, c1]
    refine told_q (l := M.boxes) (k := x) ?_
    rw [let_py]
    have e : cutL ((lettersOf M x).map py) (some 1) none = (lettersOf M x).tail.map py := by
      have := cut_drop' ((lettersOf M x).map py) 1
      rw [List.drop_one, ← List.map_tail] at this
      exact this
    cases hb : (lettersOf M x).tail with
    | nil =>
      rw [hb] at e
      have e' : behindM M t (.gt x i) = { M with boxes := dropP M.boxes x } := by simp only [behindM, hb, if_true]
      rw [e'] at q
      simp [e, c1, ne_nilT [] 0 (by decide) nofun]
      refine drop_q (l := M.boxes) (k := x) h.b (by have := h.lb; omega) (by decide) ?_
      simp
      exact q
    | cons a r =>
      rw [hb] at e
      have e' : behindM M t (.gt x i) = { M with boxes := putP M.boxes x (a :: r) } := by simp [behindM, hb]
      rw [e'] at q
      have hne : neD (.tuple (py a :: r.map py)) (.tuple []) = some (.bool true) := ne_nilT _ 0 (by decide) (hl0 (a :: r))
      simp only [List.map_cons] at e
      simp [e, c1, hne]
      refine put_q (l := M.boxes) (k := x) (v := a :: r) h.b (by have := h.lb; omega) (by decide) rfl rfl ?_
      simp
      exact q
  | tk x =>
    simp [De.wd]
    refine put_q (l := M.holds) (k := x) (v := t) h.h (by have := h.lh; omega) (by decide) rfl rfl ?_
    simp
    exact q
  | gv x =>
    have c1 : ixD (De.gv x).py 1 = some (.str x.1) := rfl
    simp [De.wd, c1]
    refine drop_q (l := M.holds) (k := x) h.h (by have := h.lh; omega) (by decide) ?_
    simp
    exact q
  | bg x =>
    obtain ⟨s1, s2⟩ := sort_add M.begun x (by have := h.lg; omega) (st := st)
    simp [-List.map_append, De.wd, s1, s2]
    exact q
  | aw x => simp [De.wd]; exact q
  | wn c =>
    simp [De.wd]
    exact callM_q h hn (.wn c) hd q
  | wk c =>
    simp [De.wd]
    exact callM_q h hn (.wk c) rfl q
  | wt c l =>
    simp [De.wd]
    exact callM_q h hn (.wt c l) rfl q
  | nd =>
    obtain ⟨s1, s2⟩ := sort_add M.ended t (by have := h.le; omega) (st := st)
    simp [-List.map_append, De.wd, s1, s2]
    exact q
def movedM (M : Mo) (t : Wd) (d : De) : Option Mo := if letsD M t d = true then some (behindM M t d) else none
def oMo : Option Mo → PyData
  | none => .none
  | some M => M.py
theorem lets_wn {c : Wd} (hl : letsD M t (.wn c) = true) : (goneAt M.woken t).isSome = true := by
  unfold letsD deedAt at hl
  rw [decide_eq_true_eq] at hl
  split at hl
  · cases hl
  · cases hg : goneAt M.woken t with
    | some p => rfl
    | none => rw [hg] at hl; simp [intentOf] at hl
theorem moved_q (h : M.Ok n) (hn : n ≤ 300) (d : De) (q : K.q (.d (oMo (movedM M t d))) st) : @qM W (f_moved [W.d M.py, .d (.str t.1), .d d.py]) st K := by
  unfold f_moved b_moved
  simp
  refine lets_q d ?_
  cases hl : letsD M t d with
  | false =>
    have : movedM M t d = none := by unfold movedM; rw [hl]; rfl
    rw [this] at q
    simp
    exact q
  | true =>
    have : movedM M t d = some (behindM M t d) := by unfold movedM; rw [hl]; rfl
    rw [this] at q
    simp
    refine behind_q h hn d ?_ q
    cases d <;> first | rfl | exact lets_wn hl
end
/-! ## the invariants are kept -/
theorem mem_wd {l : List Wd} {x y : Wd} : y ∈ sortWd (l ++ [x]) ↔ y ∈ l ∨ y = x := by
  rw [(sortWd_perm _).mem_iff]; simp
theorem nodup_add {l : List Wd} {x : Wd} (h : l.Nodup) (hx : x ∉ l) : (sortWd (l ++ [x])).Nodup := by
  rw [(sortWd_perm _).nodup_iff, List.nodup_append]
  exact ⟨h, by simp, fun a ha b hb e => by rw [List.mem_singleton.mp hb] at e; exact hx (e ▸ ha)⟩
theorem slAt_none {t : Wd} : ∀ {l : List (Wd × List (Wd × Wd))}, slAt l t = none → ∀ p ∈ l, ∀ a ∈ p.2, a.1 ≠ t
  | [], _, p, hp, _, _ => by cases hp
  | q :: r, h, p, hp, a, ha => by
    unfold slAt at h
    cases e : getK q.2 t with
    | some x => rw [e] at h; cases h
    | none =>
      rw [e] at h
      rcases List.mem_cons.mp hp with rfl | hp
      · intro hat
        exact getK_none e a.2 (by rw [← hat]; exact ha)
      · exact slAt_none h p hp a ha
theorem goneAt_none {t : Wd} : ∀ {l : List W3}, goneAt l t = none → ∀ w ∈ l, w.t ≠ t
  | [], _, w, hw => by cases hw
  | q :: r, h, w, hw => by
    unfold goneAt at h
    split at h
    · cases h
    · rename_i e
      rcases List.mem_cons.mp hw with rfl | hw
      · exact e
      · exact goneAt_none h w hw
structure LetsF (M : Mo) (t : Wd) (d : De) : Prop where
  b : t ∈ M.begun
  e : t ∉ M.ended
  s : slAt M.sleep t = none
  g : isWn d = false → goneAt M.woken t = none
  wn : ∀ c, d = .wn c → ∃ l, goneAt M.woken t = some (c, l) ∧ getK M.holds l = none
  rd : ∀ x i, d = .rd x i → i = (getK M.cells x).getD va0
  gt : ∀ x i, d = .gt x i → ∃ r, getK M.boxes x = some (i :: r)
  ot : (match d with | .rd _ _ => False | .gt _ _ => False | .wn _ => False | _ => True) → letsI M t d = true
theorem lets_iff {M : Mo} {t : Wd} {d : De} : letsD M t d = true ↔ LetsF M t d := by
  unfold letsD
  rw [decide_eq_true_eq]
  constructor
  · intro h
    unfold deedAt at h
    split at h
    · cases h
    · rename_i hc
      simp only [not_or, Bool.not_eq_true, Bool.not_eq_false, decide_eq_true_eq, decide_eq_false_iff_not] at hc
      obtain ⟨h1', h2, h3⟩ := hc
      have h1 : t ∈ M.begun := Decidable.not_not.mp h1'
      have hs : slAt M.sleep t = none := by cases e : slAt M.sleep t with
        | none => rfl
        | some a => rw [e] at h3; cases h3
      cases hg : goneAt M.woken t with
      | some p =>
        rw [hg] at h
        dsimp only at h
        split at h
        · rename_i hi
          injection h with h
          subst h
          exact ⟨h1, h2, hs, nofun, fun c hc => by injection hc with hc; subst hc; exact ⟨p.2, hg, hi.2⟩, nofun, nofun, nofun⟩
        · cases h
      | none =>
        rw [hg] at h
        cases d with
        | rd x i =>
          simp only [intentOf] at h
          injection h with h
          injection h with _ h
          exact ⟨h1, h2, hs, fun _ => hg, nofun, fun y j e => by injection e with e1 e2; subst e1 e2; exact h.symm, nofun, nofun⟩
        | gt x i =>
          simp only [intentOf] at h
          split at h
          · rename_i v r hb
            injection h with h
            injection h with _ h
            subst h
            exact ⟨h1, h2, hs, fun _ => hg, nofun, nofun, fun y j e => by injection e with e1 e2; subst e1 e2; exact ⟨r, hb⟩, nofun⟩
          · cases h
        | wn c => simp only [intentOf] at h; cases h
        | _ =>
          simp only [intentOf] at h
          split at h
          · rename_i hl; exact ⟨h1, h2, hs, fun _ => hg, nofun, nofun, nofun, fun _ => hl⟩
          · cases h
  · intro h
    unfold deedAt
    have hc : ¬ (decide (t ∈ M.begun) = false ∨ decide (t ∈ M.ended) = true ∨ (slAt M.sleep t).isSome = true) := by
      rw [decide_eq_true h.b, decide_eq_false h.e, h.s]; simp
    rw [if_neg hc]
    cases d with
    | wn c =>
      obtain ⟨l, hg, hh⟩ := h.wn c rfl
      rw [hg]
      dsimp only
      rw [if_pos ⟨rfl, hh⟩]
    | rd x i => rw [h.g rfl]; simp only [intentOf]; rw [← h.rd x i rfl]
    | gt x i =>
      obtain ⟨r, hb⟩ := h.gt x i rfl
      rw [h.g rfl]; simp only [intentOf]; rw [hb]
    | _ => rw [h.g rfl]; simp only [intentOf]; rw [if_pos (h.ot trivial)]
end PK
end
section
set_option Elab.async false
set_option linter.all false
set_option maxRecDepth 100000
set_option maxHeartbeats 600000
set_option autoImplicit false
namespace PK
open PySem PySem.Spec PyProof.Rows L2 Ev
open Py (py)
open Keyed (key)
theorem Mo.Ok.mono {M : Mo} {n m : Nat} (h : M.Ok n) (hm : n ≤ m) : M.Ok m :=
  { h with lc := Nat.le_trans h.lc hm, lh := Nat.le_trans h.lh hm, lb := Nat.le_trans h.lb hm, ls := Nat.le_trans h.ls hm, lw := Nat.le_trans h.lw hm, lg := Nat.le_trans h.lg hm, le := Nat.le_trans h.le hm, lbb := fun p hp => Nat.le_trans (h.lbb p hp) hm, lss := fun p hp => Nat.le_trans (h.lss p hp) hm }
theorem drop_sk {β : Type} [PyA β] {l : List (Wd × β)} (hs : SK l) (k : Wd) : SK (dropP l k) := hs.filter _
theorem row_of {M : Mo} {n : Nat} (h : M.Ok n) {c : Wd} {row : List (Wd × Wd)} (hm : (c, row) ∈ M.sleep) : rowOf M c = row := by
  unfold rowOf
  rw [getK_of h.s.nd hm]; rfl
theorem row_mem {M : Mo} {c : Wd} {a : Wd × Wd} (h : a ∈ rowOf M c) : (c, rowOf M c) ∈ M.sleep := by
  unfold rowOf at *
  cases e : getK M.sleep c with
  | none => rw [e] at h; cases h
  | some row => exact getK_mem e
theorem gone_mem {t : Wd} {p : Wd × Wd} : ∀ {l : List W3}, goneAt l t = some p → (⟨t, p.1, p.2⟩ : W3) ∈ l
  | [], h => by cases h
  | q :: r, h => by
    unfold goneAt at h
    split at h
    · rename_i e
      injection h with h
      subst h e
      exact List.mem_cons_self
    · exact List.mem_cons_of_mem _ (gone_mem h)
theorem behind_ok {M : Mo} {t : Wd} {d : De} {n : Nat} (h : M.Ok n) (hl : LetsF M t d) : (behindM M t d).Ok (n + 1) := by
  have h1 := h.mono (Nat.le_succ n)
  have lp : ∀ {β : Type} [PyA β] (l : List (Wd × β)) (k : Wd) (v : β), l.length ≤ n → (putP l k v).length ≤ n + 1 := fun l k v hl => by have := put_len l k v; omega
  have ld : ∀ {β : Type} (l : List (Wd × β)) (k : Wd), l.length ≤ n → (dropP l k).length ≤ n + 1 := fun l k hl => by have := drop_len l k; omega
  cases d with
  | rd x i => exact h1
  | wr x i => exact { h1 with c := put_sk h.c x i, lc := lp _ _ _ h.lc }
  | aw x => exact h1
  | tk x => exact { h1 with h := put_sk h.h x t, lh := lp _ _ _ h.lh }
  | gv x => exact { h1 with h := drop_sk h.h x, lh := ld _ _ h.lh }
  | sd x i =>
    refine { h1 with b := put_sk h.b x _, lb := lp _ _ _ h.lb, lbb := fun p hp => ?_ }
    rcases put_mem.mp hp with rfl | ⟨_, hp⟩
    · have := let_len h x; simp; omega
    · exact h1.lbb p hp
  | gt x i =>
    have tl : (lettersOf M x).tail.length ≤ n := by have := let_len h x; rw [List.length_tail]; omega
    simp only [behindM]
    split
    · exact { h1 with b := drop_sk h.b x, lb := ld _ _ h.lb, lbb := fun p hp => h1.lbb p (drop_mem.mp hp).2 }
    · refine { h1 with b := put_sk h.b x _, lb := lp _ _ _ h.lb, lbb := fun p hp => ?_ }
      rcases put_mem.mp hp with rfl | ⟨_, hp⟩
      · exact Nat.le_succ_of_le tl
      · exact h1.lbb p hp
  | bg x =>
    have hx : x ∉ M.begun := by
      have := hl.ot trivial
      simpa [letsI] using this
    refine { h1 with g := sortWd_up _, gn := nodup_add h.gn hx, lg := ?_ }
    show (sortWd (M.begun ++ [x])).length ≤ n + 1
    rw [(sortWd_perm _).length_eq, List.length_append]; have := h.lg; simp; omega
  | nd =>
    refine { h1 with e := sortWd_up _, en := nodup_add h.en hl.e, le := ?_ }
    show (sortWd (M.ended ++ [t])).length ≤ n + 1
    rw [(sortWd_perm _).length_eq, List.length_append]; have := h.le; simp; omega
  | wn c =>
    obtain ⟨l, hg, hh⟩ := hl.wn c rfl
    simp only [behindM, hg]
    exact { h1 with h := put_sk h.h l t, lh := lp _ _ _ h.lh, w := h.w.filter _, lw := Nat.le_trans (List.length_filter_le _ _) h1.lw, sw := fun p hp a ha w hw => h.sw p hp a ha w (List.mem_filter.mp hw).1 }
  | wt c l =>
    have hns := slAt_none hl.s
    have hng := goneAt_none (hl.g rfl)
    have rn : ∀ a ∈ rowOf M c, a.1 ≠ t := fun a ha => hns _ (row_mem ha) a ha
    simp only [behindM]
    refine { h1 with h := drop_sk h.h l, lh := ld _ _ h.lh, s := put_sk h.s c _, ls := lp _ _ _ h.ls, lss := fun p hp => ?_, sn := fun p hp => ?_, su := fun p hp p' hp' a ha a' ha' e => ?_, sw := fun p hp a ha w hw => ?_ }
    · rcases put_mem.mp hp with rfl | ⟨_, hp⟩
      · have := row_len h c; simp; omega
      · exact h1.lss p hp
    · rcases put_mem.mp hp with rfl | ⟨_, hp⟩
      · show ((rowOf M c ++ [(t, l)]).map (·.1)).Nodup
        rw [List.map_append, List.nodup_append]
        refine ⟨?_, by simp, fun x hx y hy e => ?_⟩
        · cases hr : rowOf M c with
          | nil => simp
          | cons a r => rw [← hr]; exact h.sn _ (row_mem (c := c) (a := a) (by rw [hr]; exact List.mem_cons_self))
        · subst e
          obtain ⟨a, ha, hat⟩ := List.mem_map.mp hx
          rw [List.map_cons, List.map_nil, List.mem_singleton] at hy
          exact rn a ha (hat.trans hy)
      · exact h.sn p hp
    · rcases put_mem.mp hp with rfl | ⟨hne, hp⟩ <;> rcases put_mem.mp hp' with rfl | ⟨hne', hp'⟩
      · rfl
      · exfalso
        rcases List.mem_append.mp ha with ha | ha
        · have := h.su _ (row_mem ha) _ hp' a ha a' ha' e
          exact hne' (by rw [← this])
        · rw [List.mem_singleton.mp ha] at e
          exact hns _ hp' a' ha' e.symm
      · exfalso
        rcases List.mem_append.mp ha' with ha' | ha'
        · have := h.su _ hp _ (row_mem ha') a ha a' ha' e
          exact hne (by rw [this])
        · rw [List.mem_singleton.mp ha'] at e
          exact hns _ hp a ha e
      · exact h.su p hp p' hp' a ha a' ha' e
    · rcases put_mem.mp hp with rfl | ⟨_, hp⟩
      · rcases List.mem_append.mp ha with ha | ha
        · exact h.sw _ (row_mem ha) a ha w hw
        · rw [List.mem_singleton.mp ha]; exact hng w hw
      · exact h.sw p hp a ha w hw
  | wk c =>
    cases hr : rowOf M c with
    | nil => simp only [behindM, hr]; exact h1
    | cons a r =>
      have hm : (c, a :: r) ∈ M.sleep := by have := row_mem (M := M) (c := c) (a := a) (by rw [hr]; exact List.mem_cons_self); rw [hr] at this; exact this
      have hsn := h.sn _ hm
      simp only [List.map_cons, List.nodup_cons] at hsn
      have hnd := woken_nd h hr
      have lw : (sortK (M.woken ++ [(⟨a.1, c, a.2⟩ : W3)])).length ≤ n + 1 := by rw [sortK_len, List.length_append]; have := h.lw; simp; omega
      have wm : ∀ w : W3, w ∈ sortK (M.woken ++ [(⟨a.1, c, a.2⟩ : W3)]) → w ∈ M.woken ∨ w = ⟨a.1, c, a.2⟩ := fun w hw => by
        rcases List.mem_append.mp ((sortK_perm _).mem_iff.mp hw) with h | h
        · exact .inl h
        · exact .inr (List.mem_singleton.mp h)
      have back : ∀ p : Wd × List (Wd × Wd), p ∈ (if r = [] then dropP M.sleep c else putP M.sleep c r) → (p = (c, r) ∨ (p.1 ≠ c ∧ p ∈ M.sleep)) := fun p hp => by
        split at hp
        · exact .inr (drop_mem.mp hp)
        · exact put_mem.mp hp
      simp only [behindM, hr]
      refine { h1 with w := sortK_sk hnd, lw := lw, s := ?_, ls := ?_, lss := fun p hp => ?_, sn := fun p hp => ?_, su := fun p hp p' hp' x hx x' hx' e => ?_, sw := fun p hp x hx w hw => ?_ }
      · show SK (if r = [] then dropP M.sleep c else putP M.sleep c r)
        split
        · exact drop_sk h.s c
        · exact put_sk h.s c r
      · show (if r = [] then dropP M.sleep c else putP M.sleep c r).length ≤ n + 1
        split
        · exact ld _ _ h.ls
        · exact lp _ _ _ h.ls
      · rcases back p hp with rfl | ⟨_, hp⟩
        · have := h.lss _ hm; simp at this; show r.length ≤ n + 1; omega
        · exact h1.lss p hp
      · rcases back p hp with rfl | ⟨_, hp⟩
        · exact hsn.2
        · exact h.sn p hp
      · rcases back p hp with rfl | ⟨hne, hp⟩ <;> rcases back p' hp' with rfl | ⟨hne', hp'⟩
        · rfl
        · exfalso
          have := h.su _ hm _ hp' x (List.mem_cons_of_mem _ hx) x' hx' e
          exact hne' (by rw [← this])
        · exfalso
          have := h.su _ hp _ hm x hx x' (List.mem_cons_of_mem _ hx') e
          exact hne (by rw [this])
        · exact h.su p hp p' hp' x hx x' hx' e
      · rcases wm w hw with hw | rfl
        · rcases back p hp with rfl | ⟨_, hp⟩
          · exact h.sw _ hm x (List.mem_cons_of_mem _ hx) w hw
          · exact h.sw p hp x hx w hw
        · show a.1 ≠ x.1
          rcases back p hp with rfl | ⟨hne, hp⟩
          · intro e; exact hsn.1 (by rw [e]; exact List.mem_map_of_mem hx)
          · intro e
            have := h.su _ hm _ hp a List.mem_cons_self x hx e
            exact hne (by rw [← this])
/-! ## rows -/
abbrev Tr := Wd × De
def mo0 : Mo := ⟨[], [], [], [], [], [wRoot], []⟩
theorem mo0_py : mo0.py = kd_FIRST := rfl
theorem mo0_ok : mo0.Ok 1 := ⟨SK.nil, SK.nil, SK.nil, SK.nil, SK.nil, List.pairwise_singleton _ _, by decide, List.Pairwise.nil, by decide, by decide, by decide, by decide, by decide, by decide, by decide, nofun, nofun, nofun, nofun, nofun, List.nodup_nil⟩
def walkM : Mo → List Tr → Nat → Option Nat × Mo
  | M, [], _ => (none, M)
  | M, p :: r, k => match movedM M p.1 p.2 with
    | none => (some k, M)
    | some M' => walkM M' r (k + 1)
def wOut : Option Nat × Mo → PyData
  | (some k, M) => .tuple [.int k, M.py]
  | (none, M) => .tuple [.none, M.py]
section
variable {st : Sto} {K : Kt W}
theorem walked_q {ts : List Tr} (hl : ts.length ≤ 200) (q : K.q (.d (wOut (walkM mo0 ts 0))) st) : @qM W (f_walked [W.d (.tuple (ts.map py))]) st K := by
  unfold f_walked b_walked
  simp [enumL_drop, ← mo0_py]
  refine q_loopI (fun p : Tr × Nat => PyData.tuple [.int (p.2 : Int), py p.1]) (fun r ρ s => ∃ (done rest : List Tr) (M : Mo) (y2 y3 y4 y5 : Option Sl), ts = done ++ rest ∧ r = rest.zipIdx done.length ∧ s = st ∧ ρ = [some (.w (.d (.tuple (ts.map py)))), some (.w (.d M.py)), y2, y3, y4, y5] ∧ M.Ok (done.length + 1) ∧ walkM M rest done.length = walkM mo0 ts 0) _
    ⟨[], ts, mo0, _, _, _, _, rfl, rfl, rfl, rfl, mo0_ok, rfl⟩ (fun p r ρ s hi => ?_) (fun ρ s hi => ?_)
  · obtain ⟨done, rest, M, y2, y3, y4, y5, e1, e2, rfl, rfl, ok, hw⟩ := hi
    cases rest with
    | nil => cases e2
    | cons p rest =>
      rw [List.zipIdx_cons] at e2
      injection e2 with e2 e2'
      subst e2 e2'
      refine ⟨_, rfl, ?_⟩
      have hlen : done.length + rest.length + 1 ≤ 200 := by rw [e1] at hl; simp at hl; omega
      simp [py_wd, py_de]
      refine moved_q ok (by omega) p.2 ?_
      cases hm : movedM M p.1 p.2 with
      | none =>
        have hw2 : walkM mo0 ts 0 = (some done.length, M) := by rw [← hw, walkM, hm]
        rw [hw2] at q
        simp [oMo, pyIs, isB, isNone]
        exact q
      | some M' =>
        have hM' : M' = behindM M p.1 p.2 ∧ letsD M p.1 p.2 = true := by
          unfold movedM at hm
          split at hm
          · rename_i hl; exact ⟨(Option.some.inj hm).symm, hl⟩
          · cases hm
        have hok : M'.Ok (done.length + 1 + 1) := by rw [hM'.1]; exact behind_ok ok (lets_iff.mp hM'.2)
        have hmn : isNone (.d M'.py) = false := rfl
        simp [oMo, pyIs, isB, hmn]
        refine ⟨done ++ [p], rest, by rw [e1]; simp, by simp, M', rfl, by simpa using hok, ?_⟩
        rw [← hw, walkM, hm]
        simp
  · obtain ⟨done, rest, M, y2, y3, y4, y5, e1, e2, rfl, rfl, ok, hw⟩ := hi
    cases rest with
    | cons d rest => cases e2
    | nil =>
      rw [walkM] at hw
      rw [← hw] at q
      simp
      exact q
end
end PK
end
section
set_option Elab.async false
set_option linter.all false
set_option maxRecDepth 100000
set_option maxHeartbeats 600000
set_option autoImplicit false
namespace PK
open PySem PySem.Spec PyProof.Rows L2 Ev
open Py (py)
open Keyed (key)
def trN (p : Tr) : List Wd := p.1 :: (match p.2 with | .bg x => [x] | _ => [])
def thrL (ts : List Tr) : List Wd := wRoot :: ts.flatMap trN
def wordsW (l : List Wd) : List W := l.map fun z => W.d (.str z.1)
theorem thr_len (ts : List Tr) : (thrL ts).length ≤ 1 + 2 * ts.length := by
  unfold thrL
  rw [List.length_cons, List.length_flatMap]
  have : ∀ ts : List Tr, (ts.map fun p => (trN p).length).sum ≤ 2 * ts.length := by
    intro ts
    induction ts with
    | nil => simp
    | cons p r ih =>
      rw [List.map_cons, List.sum_cons, List.length_cons]
      have : (trN p).length ≤ 2 := by unfold trN; cases p.2 <;> simp
      omega
  have := this ts
  omega
theorem thr_snoc (ts : List Tr) (p : Tr) : thrL (ts ++ [p]) = thrL ts ++ trN p := by unfold thrL; simp
def thrN (ts : List Tr) : Nat := (sortS ((thrL ts).map (·.1))).length
def okRow (ts : List Tr) : Bool := decide (ts.length ≤ 60) && decide (thrN ts ≤ 8)
theorem allD_words (l : List Wd) : allD (wordsW l) = some ((l.map (·.1)).map .str) := by
  unfold wordsW
  rw [List.map_map]
  exact allD_map (fun z : Wd => PyData.str z.1) l
section
variable {st : Sto} {K : Kt W}
@[simp] theorem wd_begin (d : De) : eqD (.str d.wd) (.str ("begin" : Str)) = some (.bool (isBg d)) := by cases d <;> simp [De.wd, isBg]
theorem threads_q {ts : List Tr} (hl : ts.length ≤ 200) (q : ∀ gb, K.q (.d (.tuple ((sortS ((thrL ts).map (·.1))).map .str))) (st ++ gb)) : @qM W (f_all_threads [W.d (.tuple (ts.map py))]) st K := by
  unfold f_all_threads b_all_threads
  simp
  refine q_loopI py (fun r ρ s => ∃ (done : List Tr) (y2 y3 : Option Sl), ts = done ++ r ∧ s = st ++ [.lst (wordsW (thrL done))] ∧ ρ = [some (.w (.d (.tuple (ts.map py)))), some (.w (.r st.length)), y2, y3]) ts ⟨[], _, _, rfl, rfl, rfl⟩ (fun p r ρ s hi => ?_) (fun ρ s hi => ?_)
  · obtain ⟨done, y2, y3, e1, rfl, rfl⟩ := hi
    refine ⟨_, rfl, ?_⟩
    have hlen : done.length + r.length + 1 ≤ 200 := by rw [e1] at hl; simp at hl; omega
    have tl := thr_len done
    have m1 : ∀ l : List W, isMut (st ++ [.lst l]) (.r st.length) = some () := fun l => isMut_at last_at
    have m2 : ∀ (l : List W) (w : W), l.length ≤ 1000 → putEnd (st ++ [.lst l]) w (.r st.length) = some (st ++ [.lst (l ++ [w])]) := fun l w hw => by
      rw [putEnd_at last_at (by rw [sizeLine_eq]; omega), last_set]
    have l1 : (wordsW (thrL done)).length ≤ 900 := by unfold wordsW; rw [List.length_map]; omega
    have m3 := fun w => m2 (wordsW (thrL done)) w (by omega)
    have m4 := fun v w => m2 (wordsW (thrL done) ++ [v]) w (by rw [List.length_append]; simp; omega)
    have e2 : ts = (done ++ [p]) ++ r := by rw [e1]; simp
    obtain ⟨t, d⟩ := p
    cases d with
    | bg x =>
      simp [py_wd, py_de, m1, m3, De.wd, isBg]
      have m5 := m4 (.d (.str t.1)) (.d (.str x.1))
      simp at m5
      simp [m5]
      refine ⟨done ++ [(t, .bg x)], e2, ?_⟩
      rw [thr_snoc]; simp [wordsW, trN]
    | _ =>
      simp [py_wd, py_de, m1, m3, De.wd, isBg]
      refine ⟨_, e2, ?_⟩
      rw [thr_snoc]; simp [wordsW, trN]
  · obtain ⟨done, y2, y3, e1, rfl, rfl⟩ := hi
    rw [List.append_nil] at e1
    subst e1
    have tl := thr_len ts
    have e := sortSet_at (st := st ++ [.lst (wordsW (thrL ts))]) (j := st.length) (xs := (thrL ts).map (·.1)) (by rw [last_at]; unfold wordsW; rw [List.map_map]; rfl) (by rw [List.length_map]; omega)
    simp [-List.map_map, e]
    exact q _
theorem turn_q {p : Tr} (q : K.q (.d (.bool true)) st) : @qM W (f_fits_turn [W.d (py p)]) st K := by
  unfold f_fits_turn b_fits_turn
  obtain ⟨t, d⟩ := p
  simp [py_pair, py_wd, py_de, isTyD, q_word t.2, q_deed]
  exact q
theorem fits_row_q {ts : List Tr} (hl : ts.length ≤ 200) (q : ∀ gb, K.q (.d (.bool (okRow ts))) (st ++ gb)) : @qM W (f_fits_row [W.d (.tuple (ts.map py))]) st K := by
  unfold f_fits_row b_fits_row
  by_cases h1 : ts.length ≤ 60
  · have g1 : ¬ (60 : Int) < ts.length := by omega
    have g2 : ts.length < 16777216 := by omega
    simp [isTyD, kd_DEEDS, g1, g2]
    refine lc_map py (fun _ => .bool true) ts (fun p hp => ⟨_, rfl, rfl, ?_⟩) ?_
    · apply fe_of
      simp
      exact turn_q (by simp)
    · simp [allW_true]
      refine threads_q hl fun gb => ?_
      have : okRow ts = decide (thrN ts ≤ 8) := by unfold okRow; rw [decide_eq_true h1, Bool.true_and]
      have q' := q gb
      rw [this] at q'
      simp [kd_THREADS]
      have e : decide (((sortS ((thrL ts).map (·.1))).length : Int) ≤ 8) = decide (thrN ts ≤ 8) := by
        unfold thrN
        by_cases h : (sortS ((thrL ts).map (·.1))).length ≤ 8
        · rw [decide_eq_true h, decide_eq_true (by omega)]
        · rw [decide_eq_false h, decide_eq_false (by omega)]
      rw [← e] at q'
      simpa using q'
  · have g1 : (60 : Int) < ts.length := by omega
    have : okRow ts = false := by unfold okRow; rw [decide_eq_false h1]; rfl
    have q' := q []
    rw [this, List.append_nil] at q'
    simp [isTyD, kd_DEEDS, g1]
    exact q'
theorem need_row_q {ts : List Tr} (hl : ts.length ≤ 200) (h : okRow ts = true) (q : ∀ gb, K.q (.d .none) (st ++ gb)) : @qM W (f_need_row [W.d (.tuple (ts.map py))]) st K := by
  unfold f_need_row b_need_row
  simp
  refine fits_row_q hl fun gb => ?_
  simp [h]
  exact q gb
def optNat : Option Nat → PyData
  | none => .none
  | some k => .int k
def badM (ts : List Tr) : Option Nat := (walkM mo0 ts 0).1
theorem bad_q {ts : List Tr} (hl : ts.length ≤ 200) (q : K.q (.d (optNat (badM ts))) st) : @qM W (f_bad_place [W.d (.tuple (ts.map py))]) st K := by
  unfold f_bad_place b_bad_place
  simp
  refine walked_q hl ?_
  have e : ixD (wOut (walkM mo0 ts 0)) 0 = some (optNat (badM ts)) := by
    unfold badM
    cases walkM mo0 ts 0 with
    | mk a M => cases a <;> rfl
  simp [e]
  exact q
theorem first_bad_q {ts : List Tr} (hl : ts.length ≤ 200) (h : okRow ts = true) (q : ∀ gb, K.q (.d (optNat (badM ts))) (st ++ gb)) : @qM W (f_first_bad [W.d (.tuple (ts.map py))]) st K := by
  unfold f_first_bad b_first_bad
  simp
  refine need_row_q hl h fun gb => ?_
  simp
  exact bad_q hl (q gb)
theorem is_run_q {ts : List Tr} (hl : ts.length ≤ 200) (h : okRow ts = true) (q : ∀ gb, K.q (.d (.bool (badM ts).isNone)) (st ++ gb)) : @qM W (f_is_run [W.d (.tuple (ts.map py))]) st K := by
  unfold f_is_run b_is_run
  simp
  refine need_row_q hl h fun gb => ?_
  simp
  refine bad_q hl ?_
  have e : isNone (.d (optNat (badM ts))) = (badM ts).isNone := by cases badM ts <;> rfl
  simp [pyIs, isB, e]
  exact q gb
end
end PK
end
section
set_option Elab.async false
set_option linter.all false
set_option maxRecDepth 100000
set_option maxHeartbeats 600000
set_option autoImplicit false
namespace PK
open PySem PySem.Spec PyProof.Rows L2 Ev
open Py (py)
open Keyed (key)
/-! ## the look back (k11, k12, k13) -/
theorem filt_map {α β γ : Type} (f : α → Option β) (p : α → Bool) (v : α → γ) (w : β → γ) (h : ∀ a, match f a with | some b => p a = true ∧ v a = w b | none => p a = false) : ∀ l : List α, (l.filter p).map v = (l.filterMap f).map w
  | [] => rfl
  | a :: l => by
    have ih := filt_map f p v w h l
    have ha := h a
    cases hf : f a with
    | none =>
      rw [hf] at ha
      rw [List.filter_cons_of_neg (by rw [ha]; simp), List.filterMap_cons_none hf, ih]
    | some b =>
      rw [hf] at ha
      rw [List.filter_cons_of_pos ha.1, List.filterMap_cons_some hf, List.map_cons, List.map_cons, ih, ha.2]
def bgOf (p : Tr) : Option Wd := match p.2 with
  | .bg x => some x
  | _ => none
def begunB (ts : List Tr) : List Wd := wRoot :: ts.filterMap bgOf
def ownB (ts : List Tr) (t : Wd) : List De := ts.filterMap fun p => if p.1 = t then some p.2 else none
def wrOf (x : Wd) (p : Tr) : Option Va := match p.2 with
  | .wr y i => if y = x then some i else none
  | _ => none
def sdOf (x : Wd) (p : Tr) : Option Va := match p.2 with
  | .sd y i => if y = x then some i else none
  | _ => none
def gtOf (x : Wd) (p : Tr) : Option Unit := match p.2 with
  | .gt y _ => if y = x then some () else none
  | _ => none
def worthB (ts : List Tr) (x : Wd) : Va := (ts.filterMap (wrOf x)).getLastD va0
def lettersB (ts : List Tr) (x : Wd) : List Va := (ts.filterMap (sdOf x)).drop (ts.filterMap (gtOf x)).length
/-- the first two parts of a deed -/
def two : De → PyData
  | .nd => .tuple [.str ("end" : Str)]
  | .rd x _ => .tuple [.str ("read" : Str), .str x.1]
  | .wr x _ => .tuple [.str ("write" : Str), .str x.1]
  | .sd x _ => .tuple [.str ("send" : Str), .str x.1]
  | .gt x _ => .tuple [.str ("get" : Str), .str x.1]
  | .wt x _ => .tuple [.str ("wait" : Str), .str x.1]
  | .tk x => .tuple [.str ("take" : Str), .str x.1]
  | .gv x => .tuple [.str ("give" : Str), .str x.1]
  | .bg x => .tuple [.str ("begin" : Str), .str x.1]
  | .aw x => .tuple [.str ("await" : Str), .str x.1]
  | .wn x => .tuple [.str ("woken" : Str), .str x.1]
  | .wk x => .tuple [.str ("wake" : Str), .str x.1]
@[simp] theorem sl_two (d : De) : slD none (some 2) d.py = some (two d) := by
  have c : ∀ l : List PyData, cutL l none (some 2) = l.take 2 := fun l => by
    have := cut_take' l 2
    simpa using this
  have e : slD none (some 2) d.py = some (.tuple (cutL (.str d.wd :: d.args) none (some 2))) := by rw [De.py_eq]; rfl
  rw [e, c]
  cases d <;> rfl
def andPy : Option PyData → Bool → Option PyData
  | some (.bool k), b => some (.bool (k && b))
  | _, _ => none
@[simp] theorem andPy_b (k b : Bool) : andPy (some (.bool k)) b = some (.bool (k && b)) := rfl
@[simp] theorem eq_pair (a b : Str) (x y : Wd) : eqD (.tuple [.str a, .str x.1]) (.tuple [.str b, .str y.1]) = andPy (eqD (.str a) (.str b)) (decide (x = y)) := by
  have hx := strOk_of x.2
  have hy := strOk_of y.2
  unfold eqD
  by_cases ha : PyData.strOk a = true
  · by_cases hb : PyData.strOk b = true
    · have h1 : SeqAt.shaped (.tuple [.str a, .str x.1]) = true := pl_shaped (n := 1) (by decide) (by show [PyData.str a, .str x.1].all (pl 0) = true; simp [pl, ha, hx])
      have h2 : SeqAt.shaped (.tuple [.str b, .str y.1]) = true := pl_shaped (n := 1) (by decide) (by show [PyData.str b, .str y.1].all (pl 0) = true; simp [pl, hb, hy])
      rw [if_pos ⟨h1, h2⟩, if_pos ⟨shaped_str ha, shaped_str hb⟩, andPy_b]
      have : (x.1 == y.1) = decide (x = y) := by
        by_cases h : x = y
        · subst h; simp
        · have : ¬ x.1 = y.1 := fun e => h (Wd.ext e)
          simp [h, this]
      simp [PyData.eqv, PyData.eqvAll, this]
    · have h1 : ¬ SeqAt.shaped (.str b) = true := by simp [SeqAt.shaped, PyData.canLay0, hb]
      have h2 : ¬ SeqAt.shaped (.tuple [.str b, .str y.1]) = true := by simp [SeqAt.shaped, PyData.canLay0, PyData.canLayAll0, hb]
      rw [if_neg (fun h => h2 h.2), if_neg (fun h => h1 h.2)]; rfl
  · have h1 : ¬ SeqAt.shaped (.str a) = true := by simp [SeqAt.shaped, PyData.canLay0, ha]
    have h2 : ¬ SeqAt.shaped (.tuple [.str a, .str x.1]) = true := by simp [SeqAt.shaped, PyData.canLay0, PyData.canLayAll0, ha]
    rw [if_neg (fun h => h2 h.1), if_neg (fun h => h1 h.1)]; rfl
theorem eq_short (n : Str) (hn : PyData.strOk n = true) (x : Wd) : eqD (.tuple [.str ("end" : Str)]) (.tuple [.str n, .str x.1]) = some (.bool false) := by
  have hx := strOk_of x.2
  have h1 : pl 1 (.tuple [.str ("end" : Str)]) = true := by decide +kernel
  have h2 : pl 1 (.tuple [.str n, .str x.1]) = true := by show [PyData.str n, .str x.1].all (pl 0) = true; simp [pl, hn, hx]
  rw [eqD_pl (by decide) (by decide) h1 h2]
  simp [PyData.eqv, PyData.eqvAll]
section
variable {st : Sto} {K : Kt W} {ts : List Tr}
theorem begunB_q (hl : ts.length ≤ 200) (q : K.q (.d (.list ((begunB ts).map py))) st) : @qM W (f__law_begun [W.d (.tuple (ts.map py))]) st K := by
  unfold f__law_begun b__law_begun
  have g : ts.length < 16777216 := by omega
  simp [g]
  refine lc_flt py (fun p : Tr => arg1 p.2) (fun p => isBg p.2) ts (fun p hp => ⟨_, rfl, ?_, fun hb => ?_⟩) ?_
  · apply gt_of; simp [py_de]
  · apply fe_of
    obtain ⟨t, d⟩ := p
    cases d <;> first | (cases hb; done) | simp [py_de, arg1]
  · have e : (ts.filter fun p => isBg p.2).map (fun p => arg1 p.2) = (ts.filterMap bgOf).map py := filt_map bgOf _ _ _ (fun p => by
      obtain ⟨t, d⟩ := p
      cases d <;> simp [bgOf, isBg, arg1, py_wd]) ts
    rw [e]
    have : (ts.filterMap bgOf).length ≤ ts.length := List.length_filterMap_le _ _
    have a1 : addD (.list [.str ("root" : Str)]) (.list ((ts.filterMap bgOf).map py)) = some (.list ((begunB ts).map py)) := by
      rw [addD_lst (by rw [List.length_map, sizeLine_eq]; simp; omega)]; rfl
    simp [a1]
    exact q
theorem ownB_q (t : Wd) (hl : ts.length ≤ 200) (q : K.q (.d (.list ((ownB ts t).map De.py))) st) : @qM W (f__law_own [W.d (.tuple (ts.map py)), .d (.str t.1)]) st K := by
  unfold f__law_own b__law_own
  have g : ts.length < 16777216 := by omega
  simp [g]
  refine lc_flt py (fun p : Tr => p.2.py) (fun p => decide (p.1 = t)) ts (fun p hp => ⟨_, rfl, ?_, fun hb => ?_⟩) ?_
  · apply gt_of; simp [py_wd]
  · apply fe_of; simp [py_de]
  · have e : (ts.filter fun p => decide (p.1 = t)).map (fun p => p.2.py) = (ownB ts t).map De.py := filt_map (fun p : Tr => if p.1 = t then some p.2 else none) _ _ _ (fun p => by
      by_cases h : p.1 = t <;> simp [h]) ts
    rw [e]; exact q
theorem eq_wr (d : De) (x : Wd) : eqD (two d) (.tuple [.str ("write" : Str), .str x.1]) = some (.bool (match d with | .wr y _ => decide (y = x) | _ => false)) := by
  cases d <;> simp [two, eq_short _ (by decide +kernel : PyData.strOk ("write" : Str) = true)]
theorem eq_sd (d : De) (x : Wd) : eqD (two d) (.tuple [.str ("send" : Str), .str x.1]) = some (.bool (match d with | .sd y _ => decide (y = x) | _ => false)) := by
  cases d <;> simp [two, eq_short _ (by decide +kernel : PyData.strOk ("send" : Str) = true)]
theorem eq_gt (d : De) (x : Wd) : eqD (two d) (.tuple [.str ("get" : Str), .str x.1]) = some (.bool (match d with | .gt y _ => decide (y = x) | _ => false)) := by
  cases d <;> simp [two, eq_short _ (by decide +kernel : PyData.strOk ("get" : Str) = true)]
theorem eq_wt (d : De) (x : Wd) : eqD (two d) (.tuple [.str ("wait" : Str), .str x.1]) = some (.bool (match d with | .wt y _ => decide (y = x) | _ => false)) := by
  cases d <;> simp [two, eq_short _ (by decide +kernel : PyData.strOk ("wait" : Str) = true)]
def val2 : De → PyData
  | .rd _ i => .int i.1
  | .wr _ i => .int i.1
  | .sd _ i => .int i.1
  | .gt _ i => .int i.1
  | _ => .none
@[simp] theorem ix2_rd (x : Wd) (i : Va) : ixD (De.rd x i).py 2 = some (.int i.1) := rfl
@[simp] theorem ix2_wr (x : Wd) (i : Va) : ixD (De.wr x i).py 2 = some (.int i.1) := rfl
@[simp] theorem ix2_sd (x : Wd) (i : Va) : ixD (De.sd x i).py 2 = some (.int i.1) := rfl
@[simp] theorem ix2_gt (x : Wd) (i : Va) : ixD (De.gt x i).py 2 = some (.int i.1) := rfl
theorem ints_va (l : List Va) : l.map py = (l.map (·.1)).map PyData.int := by rw [List.map_map]; rfl
theorem worthB_q (x : Wd) (hl : ts.length ≤ 200) (q : K.q (.d (.int (worthB ts x).1)) st) : @qM W (f__law_worth [W.d (.tuple (ts.map py)), .d (.str x.1)]) st K := by
  unfold f__law_worth b__law_worth
  have g : ts.length < 16777216 := by omega
  simp [g]
  refine lc_flt py (fun p : Tr => val2 p.2) (fun p => match p.2 with | .wr y _ => decide (y = x) | _ => false) ts (fun p hp => ⟨_, rfl, ?_, fun hb => ?_⟩) ?_
  · apply gt_of; simp [py_de, eq_wr]
  · apply fe_of
    obtain ⟨t, d⟩ := p
    cases d <;> first | (cases hb; done) | (simp [py_de, val2])
  · have e : (ts.filter fun p => match p.2 with | .wr y _ => decide (y = x) | _ => false).map (fun p => val2 p.2) = (ts.filterMap (wrOf x)).map py := filt_map (wrOf x) _ _ _ (fun p => by
      obtain ⟨t, d⟩ := p
      cases d with
      | wr y i => by_cases h : y = x <;> simp [wrOf, h, val2, py_va]
      | _ => simp [wrOf]) ts
    rw [e]
    have hlen : (ts.filterMap (wrOf x)).length ≤ ts.length := List.length_filterMap_le _ _
    have a1 : addD (.list [.int 0]) (.list ((ts.filterMap (wrOf x)).map py)) = some (.list ((va0 :: ts.filterMap (wrOf x)).map py)) := by
      rw [addD_lst (by rw [List.length_map, sizeLine_eq]; simp; omega)]; rfl
    have a2 : ((va0 :: ts.filterMap (wrOf x)).map py).getLast? = some (.int (worthB ts x).1) := by
      rw [List.getLast?_map, List.getLast?_cons, ← List.getLastD_eq_getLast?]; rfl
    simp only [List.map_cons] at a2
    simp [a1, a2]
    exact q
theorem lettersB_q (x : Wd) (hl : ts.length ≤ 200) (q : K.q (.d (.list ((lettersB ts x).map py))) st) : @qM W (f__law_letters [W.d (.tuple (ts.map py)), .d (.str x.1)]) st K := by
  unfold f__law_letters b__law_letters
  have g : ts.length < 16777216 := by omega
  simp [g]
  refine lc_flt py (fun p : Tr => val2 p.2) (fun p => match p.2 with | .sd y _ => decide (y = x) | _ => false) ts (fun p hp => ⟨_, rfl, ?_, fun hb => ?_⟩) ?_
  · apply gt_of; simp [py_de, eq_sd]
  · apply fe_of
    obtain ⟨t, d⟩ := p
    cases d <;> first | (cases hb; done) | (simp [py_de, val2])
  · have e : (ts.filter fun p => match p.2 with | .sd y _ => decide (y = x) | _ => false).map (fun p => val2 p.2) = (ts.filterMap (sdOf x)).map py := filt_map (sdOf x) _ _ _ (fun p => by
      obtain ⟨t, d⟩ := p
      cases d with
      | sd y i => by_cases h : y = x <;> simp [sdOf, h, val2, py_va]
      | _ => simp [sdOf]) ts
    rw [e]
    simp [g]
    refine lc_flt py (fun p : Tr => .int 1) (fun p => match p.2 with | .gt y _ => decide (y = x) | _ => false) ts (fun p hp => ⟨_, rfl, ?_, fun hb => ?_⟩) ?_
    · apply gt_of; simp [py_de, eq_gt]
    · apply fe_of; simp
    · have e2 : (ts.filter fun p => match p.2 with | .gt y _ => decide (y = x) | _ => false).map (fun p => PyData.int 1) = (ts.filterMap (gtOf x)).map (fun _ => .int 1) := filt_map (gtOf x) _ _ _ (fun p => by
        obtain ⟨t, d⟩ := p
        cases d with
        | gt y i => by_cases h : y = x <;> simp [gtOf, h]
        | _ => simp [gtOf]) ts
      rw [e2]
      have e3 : cutL ((ts.filterMap (sdOf x)).map py) (some ((ts.filterMap (gtOf x)).length : Int)) none = (lettersB ts x).map py := by rw [cut_drop', ← List.map_drop]; rfl
      simp [-List.map_const', e3]
      exact q
end
end PK
end
section
set_option Elab.async false
set_option linter.all false
set_option maxRecDepth 100000
set_option maxHeartbeats 600000
set_option autoImplicit false
namespace PK
open PySem PySem.Spec PyProof.Rows L2 Ev
open Py (py)
open Keyed (key)
/-! ## who holds a lock -/
def lwStep (g : Wd → Option Wd) (p : Tr) : Wd → Option Wd := match p.2 with
  | .wt _ l => fun t => if t = p.1 then some l else g t
  | _ => g
def hoStep (x : Wd) (g : Wd → Option Wd) (h : Option Wd) (p : Tr) : Option Wd := match p.2 with
  | .tk y => if y = x then some p.1 else h
  | .wn _ => if g p.1 = some x then some p.1 else h
  | .gv y => if y = x then none else h
  | .wt _ y => if y = x then none else h
  | _ => h
def hoF (x : Wd) : (Wd → Option Wd) → Option Wd → List Tr → Option Wd
  | _, h, [] => h
  | g, h, p :: r => hoF x (lwStep g p) (hoStep x g h p) r
def no : Wd → Option Wd := fun _ => none
def holderB (ts : List Tr) (x : Wd) : Option Wd := hoF x no none ts
/-- each woken has a wait of its thread ahead -/
def wkOk : (Wd → Option Wd) → List Tr → Prop
  | _, [] => True
  | g, p :: r => (∀ c, p.2 = .wn c → (g p.1).isSome = true) ∧ wkOk (lwStep g p) r
theorem valWk_put (kvs : List (Key × W)) (k k' : Key) (v : W) : valWk (putWk kvs k v) k' = if k' = k then some v else valWk kvs k' := by
  unfold putWk valWk
  split
  · rename_i h
    induction kvs with
    | nil => cases h
    | cons a r ih =>
      rw [List.map_cons, List.find?_cons, List.find?_cons]
      by_cases ha : a.1 = k
      · rw [if_pos ha]
        by_cases hk : k' = k
        · subst hk; simp [ha]
        · have : ¬ a.1 = k' := fun e => hk (e.symm.trans ha)
          rw [if_neg hk]
          simp only [this, decide_false]
          by_cases hr : (r.any fun kv => decide (kv.1 = k)) = true
          · have := ih hr; rw [if_neg hk] at this; exact this
          · have e : (r.map fun kv => if kv.1 = k then (kv.1, v) else kv) = r := by
              have : ∀ x ∈ r, (if x.1 = k then (x.1, v) else x) = x := fun x hx => by
                rw [if_neg fun e => hr (List.any_eq_true.mpr ⟨x, hx, by simp [e]⟩)]
              exact (List.map_congr_left this).trans (List.map_id _)
            rw [e]
      · rw [if_neg ha]
        have hr : (r.any fun kv => decide (kv.1 = k)) = true := by
          rw [List.any_cons] at h
          simpa [ha] using h
        by_cases hk : a.1 = k'
        · have : ¬ k' = k := fun e => ha (hk.trans e)
          simp [hk, this]
        · simp only [hk, decide_false]; exact ih hr
  · rename_i h
    rw [List.find?_append]
    by_cases hk : k' = k
    · subst hk
      have : (kvs.find? fun kv => decide (kv.1 = k')) = none := List.find?_eq_none.mpr fun x hx e => h (List.any_eq_true.mpr ⟨x, hx, e⟩)
      simp [this]
    · have : ¬ k = k' := fun e => hk e.symm
      cases (kvs.find? fun kv => decide (kv.1 = k')) <;> simp [this, hk]
theorem putWk_len (kvs : List (Key × W)) (k : Key) (v : W) : (putWk kvs k v).length ≤ kvs.length + 1 := by
  unfold putWk
  split <;> simp
structure GivI (kvs : List (Key × W)) (g : Wd → Option Wd) (r : List Tr) : Prop where
  v : ∀ t : Wd, valWk kvs (.inr t.1) = (g t).map fun l => W.d (.str l.1)
  n : kvs.length + r.length ≤ 200
theorem GivI.put {kvs : List (Key × W)} {g : Wd → Option Wd} {r : List Tr} {t : Wd} {c l : Wd} (h : GivI kvs g ((t, .wt c l) :: r)) : GivI (putWk kvs (.inr t.1) (.d (.str l.1))) (lwStep g (t, .wt c l)) r := ⟨fun z => by
    rw [valWk_put, h.v]
    by_cases e : z = t
    · subst e; simp [lwStep]
    · have : ¬ (Sum.inr z.1 : Key) = .inr t.1 := fun e' => e (Wd.ext (Sum.inr.inj e'))
      simp [lwStep, e, this], by
    have := putWk_len kvs (.inr t.1) (.d (.str l.1))
    have := h.n
    simp only [List.length_cons] at this
    omega⟩
theorem GivI.skip {kvs : List (Key × W)} {g : Wd → Option Wd} {r : List Tr} {p : Tr} (h : GivI kvs g (p :: r)) (e : lwStep g p = g) : GivI kvs (lwStep g p) r := ⟨by rw [e]; exact h.v, by
    have := h.n
    simp only [List.length_cons] at this
    omega⟩
section
variable {st : Sto} {K : Kt W} {ts : List Tr}
structure HoI (ts : List Tr) (x : Wd) (st : Sto) (r : List Tr) (ρ : Ev.Env) (s : Sto) (g : Wd → Option Wd) (h : Option Wd) (kvs : List (Key × W)) : Prop where
  rho : ∃ y4 y5, ρ = [some (.w (.d (.tuple (ts.map py)))), some (.w (.d (.str x.1))), some (.w (.d (optPy h .none))), some (.w (.r st.length)), y4, y5]
  sto : s = st ++ [.dic kvs]
  giv : GivI kvs g r
  ok : wkOk g r
  fin : hoF x g h r = holderB ts x
theorem HoI.next {x : Wd} {p : Tr} {r : List Tr} {ρ : Ev.Env} {s : Sto} {g : Wd → Option Wd} {h : Option Wd} {kvs : List (Key × W)} (I : HoI ts x st (p :: r) ρ s g h kvs) (e : lwStep g p = g) {h' : Option Wd} (eh : hoStep x g h p = h') (y4 y5 : Option Sl) : ∃ g h kvs, HoI ts x st r [some (.w (.d (.tuple (ts.map py)))), some (.w (.d (.str x.1))), some (.w (.d (optPy h' .none))), some (.w (.r st.length)), y4, y5] s g h kvs :=
  ⟨lwStep g p, hoStep x g h p, kvs, ⟨⟨_, _, by rw [eh]⟩, I.sto, I.giv.skip e, I.ok.2, I.fin⟩⟩
theorem holderB_q (x : Wd) (hl : ts.length ≤ 200) (hw : wkOk no ts) (q : ∀ gb, K.q (.d (optPy (holderB ts x) .none)) (st ++ gb)) : @qM W (f__law_holder [W.d (.tuple (ts.map py)), .d (.str x.1)]) st K := by
  unfold f__law_holder b__law_holder
  simp
  refine q_loopI py (fun r ρ s => ∃ g h kvs, HoI ts x st r ρ s g h kvs) ts ⟨no, none, [], ⟨⟨_, _, rfl⟩, rfl, ⟨fun t => rfl, by simpa using hl⟩, hw, rfl⟩⟩ (fun p r ρ s hi => ?_) (fun ρ s hi => ?_)
  · obtain ⟨g, h, kvs, I⟩ := hi
    obtain ⟨y4, y5, rfl⟩ := I.rho
    refine ⟨_, rfl, ?_⟩
    obtain ⟨t, d⟩ := p
    have pt : (py (t, d) : PyData) = .tuple [.str t.1, d.py] := rfl
    have nx := fun (e : lwStep g (t, d) = g) (h' : Option Wd) (eh : hoStep x g h (t, d) = h') => I.next e eh
    have hs := I.sto
    cases d with
    | wt c l =>
      have c2 : ixD (De.wt c l).py 2 = some (.str l.1) := rfl
      have cm : ixD (De.wt c l).py (-1) = some (.str l.1) := rfl
      have pk : putKx (st ++ [.dic kvs]) (.d (.str l.1)) (.r st.length) (.d (.str t.1)) = some (st ++ [.dic (putWk kvs (.inr t.1) (.d (.str l.1)))]) := by
        have := I.giv.n
        simp only [List.length_cons] at this
        have : kvs.length < sizeLine := by rw [sizeLine_eq]; omega
        simp [putKx, keyD, this]
      have n2 : ∀ h', hoStep x g h (t, .wt c l) = h' → ∀ y4 y5, ∃ g h kvs', HoI ts x st r [some (.w (.d (.tuple (ts.map py)))), some (.w (.d (.str x.1))), some (.w (.d (optPy h' .none))), some (.w (.r st.length)), y4, y5] (st ++ [.dic (putWk kvs (.inr t.1) (.d (.str l.1)))]) g h kvs' :=
        fun h' eh y4 y5 => ⟨_, hoStep x g h (t, .wt c l), _, ⟨⟨y4, y5, by rw [← eh]⟩, rfl, I.giv.put, I.ok.2, I.fin⟩⟩
      subst hs
      by_cases e : l = x
      · subst e
        simp [py_de, py_wd, eq_tk, isWn, isWt', De.wd, c2, cm, pk]
        exact n2 none (by simp [hoStep]) _ _
      · simp [py_de, py_wd, eq_tk, isWn, isWt', De.wd, c2, cm, pk, e]
        exact n2 h (by simp [hoStep, e]) _ _
    | wn c =>
      obtain ⟨z, hz⟩ := Option.isSome_iff_exists.mp (I.ok.1 c rfl)
      have ik : ixK s (.r st.length) (.d (.str t.1)) = some (.d (.str z.1)) := by
        rw [hs]
        have := I.giv.v t
        rw [hz] at this
        simp [ixK, keyD, this]
      by_cases e : z = x
      · simp [py_de, py_wd, eq_tk, isWn, isWt', De.wd, ik, e]
        exact nx rfl (some t) (by simp [hoStep, hz, e]) _ _
      · simp [py_de, py_wd, eq_tk, isWn, isWt', De.wd, ik, e]
        exact nx rfl h (by simp [hoStep, hz, e]) _ _
    | tk y =>
      by_cases e : y = x
      · simp [py_de, py_wd, eq_tk, isWn, isWt', De.wd, e]
        exact nx rfl (some t) (by simp [hoStep, e]) _ _
      · simp [py_de, py_wd, eq_tk, isWn, isWt', De.wd, e]
        exact nx rfl h (by simp [hoStep, e]) _ _
    | gv y =>
      have cm : ixD (De.gv y).py (-1) = some (.str y.1) := rfl
      by_cases e : y = x
      · simp [py_de, py_wd, eq_tk, isWn, isWt', De.wd, cm, e]
        exact nx rfl none (by simp [hoStep, e]) _ _
      · simp [py_de, py_wd, eq_tk, isWn, isWt', De.wd, cm, e]
        exact nx rfl h (by simp [hoStep, e]) _ _
    | _ =>
      simp [py_de, py_wd, eq_tk, isWn, isWt', De.wd]
      exact nx rfl h rfl _ _
  · obtain ⟨g, h, kvs, I⟩ := hi
    obtain ⟨y4, y5, rfl⟩ := I.rho
    have : h = holderB ts x := I.fin
    subst this
    have := I.sto
    subst this
    simp
    exact q _
end
end PK
end
section
set_option Elab.async false
set_option linter.all false
set_option maxRecDepth 100000
set_option maxHeartbeats 600000
set_option autoImplicit false
namespace Ev
open PySem PySem.Spec PyProof.Rows L2
/-- a comprehension over a list of the store that stays as it is -/
theorem comp_chk {α : Type} {ρ : Env} {vs : List Nat} {asg : As} {gt : Env → M Bool} {fe : Env → M W} {st : Sto} {chk : Sto → Bool} (hc : chk st = true) (g v : α → PyData) (p : α → Bool) : ∀ (l : List α) (acc : List W),
    (∀ a ∈ l, ∃ ρ1, asg (g a) (wipeE ρ vs) = some ρ1 ∧ gt ρ1 st = .ok (p a) st ∧ (p a = true → fe ρ1 st = .ok (.d (v a)) st)) → compL chk vs asg gt fe ρ (l.map g) acc st = .ok (acc ++ ((l.filter p).map v).map .d) st
  | [], acc, _ => by
    rw [List.map_nil, compL]; dsimp only; rw [if_pos hc]; simp
  | a :: l, acc, hs => by
    obtain ⟨ρ1, h1, h2, h3⟩ := hs a List.mem_cons_self
    rw [List.map_cons, compL]; dsimp only; rw [if_pos hc, h1]
    have b1 : ∀ {α β : Type} {m : M α} {f : α → M β} {x : α}, m st = .ok x st → bnd m f st = f x st := fun h => by unfold bnd; rw [h]
    have n1 : ∀ {α : Type} {m : M α} {x : α}, m st = .ok x st → noex m st = .ok x st := fun h => by unfold noex; rw [h]
    refine (b1 (n1 h2)).trans ?_
    cases hp : p a with
    | true =>
      refine (b1 (n1 (h3 hp))).trans ?_
      rw [comp_chk hc g v p l _ fun b hb => hs b (List.mem_cons_of_mem _ hb), List.filter_cons_of_pos hp]
      simp
    | false =>
      refine (comp_chk hc g v p l _ fun b hb => hs b (List.mem_cons_of_mem _ hb)).trans ?_
      rw [List.filter_cons_of_neg (by rw [hp]; decide)]
theorem lc_fltC {α : Type} {ρ : Env} {vs : List Nat} {asg : As} {gt : Env → M Bool} {fe : Env → M W} {K : Kt W} {E : Ex → Sto → Prop} {st : Sto} {chk : Sto → Bool} (hc : chk st = true) (g v : α → PyData) (p : α → Bool) (l : List α)
    (hs : ∀ a ∈ l, ∃ ρ1, asg (g a) (wipeE ρ vs) = some ρ1 ∧ gt ρ1 st = .ok (p a) st ∧ (p a = true → fe ρ1 st = .ok (.d (v a)) st)) (hq : K.q (.r st.length) (st ++ [.lst (((l.filter p).map v).map .d)])) :
    @qM _ (compL chk vs asg gt fe ρ (l.map g) []) st ⟨fun ws s => @qM W (asMut ws) s K, E⟩ := by
  show wpM _ _ _ _
  rw [wpM_eq (comp_chk hc g v p l [] hs)]
  show @qM W (asMut _) st K
  rw [q_asMut, List.nil_append]
  exact hq
theorem beqDs_strs : ∀ l : List Str, beqDs (l.map .str) (l.map .str) = true
  | [] => rfl
  | a :: l => by
    show (beqD (.str a) (.str a) && beqDs (l.map .str) (l.map .str)) = true
    rw [beqDs_strs l, Bool.and_true]
    simp [beqD]
end Ev
namespace PK
open PySem PySem.Spec PyProof.Rows L2 Ev
open Py (py)
open Keyed (key)
/-! ## who sleeps at a call, who was let go -/
def cStep (c : Wd) (s : List Wd × List Wd) (p : Tr) : List Wd × List Wd := match p.2 with
  | .wt y _ => if y = c then (s.1 ++ [p.1], s.2) else s
  | .wk y => if y = c then (match s.1 with
    | [] => s
    | z :: r => (r, s.2 ++ [z])) else s
  | .wn y => if y = c then (s.1, s.2.filter fun z => !decide (z = p.1)) else s
  | _ => s
def calledB (ts : List Tr) (c : Wd) : List Wd × List Wd := ts.foldl (cStep c) ([], [])
theorem wordsW_map (l : List Wd) : wordsW l = ((l.map (·.1)).map PyData.str).map W.d := by unfold wordsW; rw [List.map_map, List.map_map]; rfl
theorem words_py (l : List Wd) : ((l.map (·.1)).map PyData.str) = l.map py := by rw [List.map_map]; rfl
theorem still_words {st : Sto} {j : Nat} {l : List Wd} (h : st[j]? = some (.lst (wordsW l))) : stillAt j ((l.map (·.1)).map .str) st = true := by
  unfold stillAt
  rw [h]
  show (match allD (wordsW l) with | some es => beqDs es ((l.map (·.1)).map .str) | none => false) = true
  rw [allD_words]
  exact beqDs_strs _
section
variable {st : Sto} {K : Kt W} {ts : List Tr}
structure CaI (ts : List Tr) (c : Wd) (st : Sto) (r : List Tr) (ρ : Ev.Env) (s : Sto) (i j : Nat) (a g : List Wd) : Prop where
  rho : ∃ y4 y5 y6, ρ = [some (.w (.d (.tuple (ts.map py)))), some (.w (.d (.str c.1))), some (.w (.r i)), some (.w (.r j)), y4, y5, y6]
  sto : ∃ gb, s = st ++ gb
  hi : st.length ≤ i
  hj : st.length ≤ j
  ne : i ≠ j
  si : s[i]? = some (.lst (wordsW a))
  sj : s[j]? = some (.lst (wordsW g))
  len : a.length + g.length + r.length ≤ 200
  fin : r.foldl (cStep c) (a, g) = calledB ts c
theorem app_set {α : Type} {st : List α} {gb : List α} {i : Nat} {x : α} (h : st.length ≤ i) : ∃ gb', (st ++ gb).set i x = st ++ gb' := ⟨gb.set (i - st.length) x, by rw [List.set_append_right _ _ h]⟩
theorem cut_m1 (l : List W) : cutL l (some 1) none = l.drop 1 := cut_drop' l 1
theorem getO_4 {ρ : Ev.Env} : True := trivial
theorem ne_nilG (l : List PyData) (n : Nat) (hn : n ≤ 19) (hp : ∀ x ∈ l, pl n x = true) : neD (.list l) (.list []) = some (.bool (!l.isEmpty)) := by
  have h1 : pl (n + 1) (.list l) = true := List.all_eq_true.mpr hp
  have h2 : pl 1 (.list []) = true := rfl
  rw [neD_of (pl_shaped (by omega) h1) (pl_shaped (by decide) h2)]
  cases l <;> simp [PyData.eqv, PyData.eqvAll]
theorem ne_nil_L (l : List Wd) : neD (.list (l.map py)) (.list []) = some (.bool (!l.isEmpty)) := by
  rw [ne_nilG _ 0 (by decide) (fun x hx => by
    obtain ⟨a, _, rfl⟩ := List.mem_map.mp hx
    exact strOk_of a.2)]
  cases l <;> rfl
theorem eq_wk (d : De) (x : Wd) : eqD d.py (.tuple [.str ("wake" : Str), .str x.1]) = some (.bool (decide (d = .wk x))) := eqD_py (by decide) d (.wk x)
theorem calledB_q (c : Wd) (hl : ts.length ≤ 200) (q : ∀ gb, K.q (.d (.tuple [.list ((calledB ts c).1.map py), .list ((calledB ts c).2.map py)])) (st ++ gb)) : @qM W (f__law_called [W.d (.tuple (ts.map py)), .d (.str c.1)]) st K := by
  unfold f__law_called b__law_called
  simp
  refine q_loopI py (fun r ρ s => ∃ i j a g, CaI ts c st r ρ s i j a g) ts ⟨st.length, st.length + 1, [], [], ⟨⟨_, _, _, rfl⟩, ⟨_, rfl⟩, Nat.le_refl _, Nat.le_succ _, by omega, by simp [wordsW], by simp [wordsW], by simpa using hl, rfl⟩⟩ (fun p r ρ s hi => ?_) (fun ρ s hi => ?_)
  · obtain ⟨i, j, a, g, I⟩ := hi
    obtain ⟨y4, y5, y6, rfl⟩ := I.rho
    refine ⟨_, rfl, ?_⟩
    obtain ⟨t, d⟩ := p
    have nx : ∀ (_ : cStep c (a, g) (t, d) = (a, g)) y4 y5 y6, ∃ i' j' a' g', CaI ts c st r [some (.w (.d (.tuple (ts.map py)))), some (.w (.d (.str c.1))), some (.w (.r i)), some (.w (.r j)), y4, y5, y6] s i' j' a' g' :=
      fun e y4 y5 y6 => ⟨i, j, a, g, ⟨⟨_, _, _, rfl⟩, I.sto, I.hi, I.hj, I.ne, I.si, I.sj, by have := I.len; simp only [List.length_cons] at this; omega, by have := I.fin; rw [List.foldl_cons, e] at this; exact this⟩⟩
    have len := I.len
    simp only [List.length_cons] at len
    have ilt : i < s.length := (List.getElem?_eq_some_iff.mp I.si).1
    have jlt : j < s.length := (List.getElem?_eq_some_iff.mp I.sj).1
    have fin := I.fin
    rw [List.foldl_cons] at fin
    have di : datW s (.r i) = some (.list (a.map py)) := by rw [datW_at I.si (allD_words a), words_py]
    have nd : neD (.list (a.map py)) (.list []) = some (.bool (!a.isEmpty)) := ne_nil_L a
    cases d with
    | wt y l =>
      by_cases e : y = c
      · subst e
        have m1 := isMut_at I.si
        have m2 : ∀ w, putEnd s w (.r i) = some (s.set i (.lst (wordsW a ++ [w]))) := fun w => putEnd_at I.si (by unfold wordsW; rw [List.length_map, sizeLine_eq]; omega)
        simp [py_de, py_wd, two, m1, m2, eq_wk, eq_wn]
        obtain ⟨gb, hgb⟩ := I.sto
        refine ⟨i, j, a ++ [t], g, ⟨⟨_, _, _, rfl⟩, by rw [hgb]; exact app_set I.hi, I.hi, I.hj, I.ne, by rw [List.getElem?_set_self ilt]; simp [wordsW], by rw [List.getElem?_set_ne I.ne]; exact I.sj, by simp; omega, by simpa [cStep] using fin⟩⟩
      · simp [py_de, py_wd, two, e, eq_wk, eq_wn]
        exact nx (by simp [cStep, e]) _ _ _
    | wk y =>
      by_cases e : y = c
      · subst e
        cases a with
        | nil =>
          simp at nd
          simp [py_de, py_wd, two, eq_wk, eq_wn, onW, di, nd]
          exact nx (by simp [cStep]) _ _ _
        | cons z a =>
          have i0 : ixW s (.r i) (.d (.int 0)) = some (.d (.str z.1)) := by
            unfold ixW; dsimp only; rw [I.si]; simp [wordsW]
          have m1 := isMut_at I.sj
          have m2 : ∀ w, putEnd s w (.r j) = some (s.set j (.lst (wordsW g ++ [w]))) := fun w => putEnd_at I.sj (by unfold wordsW; rw [List.length_map, sizeLine_eq]; simp at len; omega)
          have sm : slMut (s.set j (.lst (wordsW g ++ [.d (.str z.1)]))) (.r i) (some 1) none = some (wordsW a) := by
            unfold slMut
            dsimp only
            rw [List.getElem?_set_ne (fun h => I.ne h.symm), I.si]
            dsimp only
            rw [cut_m1]; rfl
          have nd : neD (.list (.str z.1 :: a.map py)) (.list []) = some (.bool true) := nd
          simp [py_de, py_wd, two, eq_wk, eq_wn, onW, di, nd, m1, m2, i0, sm]
          obtain ⟨gb, hgb⟩ := I.sto
          obtain ⟨gb', hgb'⟩ := app_set (st := st) (gb := gb) (x := SO.lst (wordsW g ++ [.d (.str z.1)])) I.hj
          refine ⟨s.length, j, a, g ++ [z], ⟨⟨_, _, _, rfl⟩, ?_, ?_, I.hj, by omega, ?_, ?_, ?_, by simpa [cStep] using fin⟩⟩
          · rw [hgb, hgb']; exact ⟨gb' ++ [.lst (wordsW a)], by rw [List.append_assoc]⟩
          · rw [hgb]; simp
          · have : s.length = (s.set j (.lst (wordsW g ++ [.d (.str z.1)]))).length := by simp
            rw [this, last_at]
          · rw [List.getElem?_append_left (by simpa using jlt), List.getElem?_set_self jlt]; simp [wordsW]
          · simp at len ⊢; omega
      · simp [py_de, py_wd, two, e, eq_wk, eq_wn]
        exact nx (by simp [cStep, e]) _ _ _
    | wn y =>
      by_cases e : y = c
      · subst e
        have it : itemsW s (.r j) = some (g.map py, stillAt j (g.map py)) := by
          unfold itemsW
          dsimp only
          rw [I.sj]
          dsimp only
          rw [allD_words, Option.map_some, words_py]
        have g1 : g.length < 16777216 := by omega
        simp [py_de, py_wd, two, eq_wk, eq_wn, it, g1]
        refine lc_fltC (by rw [← words_py]; exact still_words I.sj) py py (fun z => !decide (z = t)) g (fun z hz => ⟨_, rfl, ?_, fun hb => ?_⟩) ?_
        · apply gt_of; simp [py_wd]
        · apply fe_of; simp
        · simp
          obtain ⟨gb, hgb⟩ := I.sto
          have fl : (g.filter fun z => !decide (z = t)).length ≤ g.length := List.length_filter_le _ _
          refine ⟨i, s.length, a, g.filter (fun z => !decide (z = t)), ⟨⟨_, _, _, rfl⟩, ⟨gb ++ [_], by rw [hgb, List.append_assoc]⟩, I.hi, by rw [hgb]; simp, by omega, ?_, ?_, by omega, ?_⟩⟩
          · rw [List.getElem?_append_left ilt]; exact I.si
          · rw [last_at]; simp [wordsW, py_wd]
          · have : cStep y (a, g) (t, .wn y) = (a, g.filter fun z => !decide (z = t)) := by simp [cStep]
            rw [this] at fin; exact fin
      · simp [py_de, py_wd, two, e, eq_wk, eq_wn]
        exact nx (by simp [cStep, e]) _ _ _
    | nd =>
      simp [py_de, py_wd, two, eq_wk, eq_wn, eq_short _ (by decide +kernel : PyData.strOk ("wait" : Str) = true)]
      exact nx rfl _ _ _
    | _ =>
      simp [py_de, py_wd, two, eq_wk, eq_wn]
      exact nx rfl _ _ _
  · obtain ⟨i, j, a, g, I⟩ := hi
    obtain ⟨y4, y5, y6, rfl⟩ := I.rho
    have fin : (a, g) = calledB ts c := I.fin
    obtain ⟨gb, hgb⟩ := I.sto
    have aa : allD (wordsW a) = some (a.map py) := (allD_words a).trans (by rw [words_py])
    have ag : allD (wordsW g) = some (g.map py) := (allD_words g).trans (by rw [words_py])
    simp
    rw [r_frzR I.si aa]
    simp
    rw [r_frzR (by rw [List.getElem?_set_ne I.ne]; exact I.sj) ag]
    rw [← fin] at q
    obtain ⟨g1, h1⟩ := app_set (st := st) (gb := gb) (x := SO.dead) I.hi
    obtain ⟨g2, h2⟩ := app_set (st := st) (gb := g1) (x := SO.dead) I.hj
    have := q g2
    rw [← h2, ← h1, ← hgb] at this
    simpa using this
end
end PK
end
section
set_option Elab.async false
set_option linter.all false
set_option maxRecDepth 100000
set_option maxHeartbeats 1000000
set_option autoImplicit false
namespace PK
open PySem PySem.Spec PyProof.Rows L2 Ev
open Py (py)
open Keyed (key)
/-! ## what the machine lets, looked back -/
def letsG (ts : List Tr) (t : Wd) (d : De) : Option De → Bool
  | some (.wt c l) => (match d with
    | .wn y => decide (y = c) && (decide (t ∈ (calledB ts y).2) && (holderB ts l).isNone)
    | _ => false)
  | _ => (match d with
    | .wn _ => false
    | .rd x i => decide (i = worthB ts x)
    | .gt x i => decide ((lettersB ts x).head? = some i)
    | .tk x => (holderB ts x).isNone
    | .gv x => decide (holderB ts x = some t)
    | .wt _ x => decide (holderB ts x = some t)
    | .bg x => !decide (x ∈ begunB ts)
    | .aw x => decide ((x, De.nd) ∈ ts)
    | _ => true)
def letsB (ts : List Tr) (t : Wd) (d : De) : Bool := decide (t ∈ begunB ts) && (!decide (De.nd ∈ ownB ts t) && letsG ts t d (ownB ts t).getLast?)
section
variable {st : Sto} {K : Kt W} {ts : List Tr}
theorem ne_nil_D (l : List De) : neD (.list (l.map De.py)) (.list []) = some (.bool (!l.isEmpty)) := by
  rw [ne_nilG _ 1 (by decide) (fun x hx => by
    obtain ⟨a, _, rfl⟩ := List.mem_map.mp hx
    exact Py.ok a)]
  cases l <;> rfl
theorem eq_nil_D (l : List De) : eqD (.list (l.map De.py)) (.list []) = some (.bool l.isEmpty) := by
  have h1 : pl 2 (.list (l.map De.py)) = true := List.all_eq_true.mpr fun x hx => by
    obtain ⟨a, _, rfl⟩ := List.mem_map.mp hx
    exact Py.ok a
  have h2 : pl 1 (.list []) = true := rfl
  rw [eqD_pl (by decide) (by decide) h1 h2]
  cases l <;> simp [PyData.eqv, PyData.eqvAll]
theorem own_cases (own : List De) : own = [] ∨ (∃ (l : List De) (b : De), own = l ++ [b] ∧ isWt' b = false) ∨ ∃ (l : List De) (c k : Wd), own = l ++ [.wt c k] := by
  rcases List.eq_nil_or_concat own with rfl | ⟨l, b, rfl⟩
  · exact .inl rfl
  · rw [List.concat_eq_append]
    cases h : isWt' b with
    | false => exact .inr (.inl ⟨l, b, rfl, h⟩)
    | true => cases b <;> first | (cases h; done) | exact .inr (.inr ⟨_, _, _, rfl⟩)
theorem eq_snoc (l : List De) (x : De) : eqD (.list (l.map De.py ++ [x.py])) (.list []) = some (.bool false) := by
  have := eq_nil_D (l ++ [x])
  have he : (l ++ [x]).isEmpty = false := by simp
  rw [he] at this
  simpa using this
theorem eq_va (i j : Va) : eqD (.int i.1) (.int j.1) = some (.bool (decide (i = j))) := eqD_py (by decide) i j
theorem eqD_lst {α : Type} [Py α] [DecidableEq α] (hn : Py.n α ≤ 19) (a b : List α) : eqD (.list (a.map py)) (.list (b.map py)) = some (.bool (decide (a = b))) := by
  have h : ∀ l : List α, pl (Py.n α + 1) (.list (l.map py)) = true := fun l => List.all_eq_true.mpr fun x hx => by
    obtain ⟨a, _, rfl⟩ := List.mem_map.mp hx
    exact Py.ok a
  rw [eqD_pl (by omega) (by omega) (h a) (h b)]
  have := eqv_py a b
  rw [← this]
  simp only [py_list, PyData.eqv]
theorem letsB_q (t : Wd) (d : De) (hl : ts.length ≤ 200) (hw : wkOk no ts) (q : ∀ gb, K.q (.d (.bool (letsB ts t d))) (st ++ gb)) : @qM W (f__law_lets [W.d (.tuple (ts.map py)), .d (.str t.1), .d d.py]) st K := by
  unfold f__law_lets b__law_lets
  have hW : ∀ a : Wd, isNone (.d (py a)) = false := fun a => rfl
  simp
  refine ownB_q t hl ?_
  simp
  refine begunB_q hl ?_
  have n1 : notInD (.str t.1) (.list ((begunB ts).map py)) = some (.bool (!decide (t ∈ begunB ts))) := notInD_lst (by decide) t (begunB ts)
  have n2 : inD (.tuple [.str ("end" : Str)]) (.list ((ownB ts t).map De.py)) = some (.bool (decide (De.nd ∈ ownB ts t))) := inD_lst (by decide) De.nd (ownB ts t)
  by_cases h1 : t ∈ begunB ts
  · by_cases h2 : De.nd ∈ ownB ts t
    · have e : letsB ts t d = false := by simp [letsB, h2]
      rw [e] at q
      simp [n1, n2, h1, h2]
      simpa using q []
    · have e : letsB ts t d = letsG ts t d (ownB ts t).getLast? := by simp [letsB, h1, h2]
      rw [e] at q
      simp [n1, n2, h1, h2, ne_nil_D, eq_nil_D]
      clear n1 n2 e h2
      generalize ownB ts t = own at *
      rcases own_cases own with rfl | ⟨l, b, rfl, hb⟩ | ⟨l, c, k, rfl⟩
      rotate_left 2
      · have hm : (l ++ [De.wt c k]).getLast? = some (.wt c k) := by simp
        have he : (l ++ [De.wt c k]).isEmpty = false := by simp
        rw [hm] at q
        have b0 : ixD (De.wt c k).py 0 = some (.str ("wait" : Str)) := rfl
        have b1 : ixD (De.wt c k).py 1 = some (.str c.1) := rfl
        have b2 : ixD (De.wt c k).py 2 = some (.str k.1) := rfl
        have ne : ∀ d : De, neD d.py (.tuple [.str ("woken" : Str), .str c.1]) = some (.bool (!decide (d = .wn c))) := fun d => neD_py (by decide) d (.wn c)
        by_cases hd : d = .wn c
        · subst hd
          have d1 : ixD (De.wn c).py 1 = some (.str c.1) := rfl
          simp [he, b0, b1, b2, ne, d1, eq_snoc]
          refine calledB_q c hl fun gb => ?_
          have ni : inD (.str t.1) (.list ((calledB ts c).2.map py)) = some (.bool (decide (t ∈ (calledB ts c).2))) := inD_lst (by decide) t _
          by_cases ht : t ∈ (calledB ts c).2
          · simp [ni, ht]
            refine holderB_q k hl hw fun gb2 => ?_
            simp [pyIs, isB, none_opt hW]
            have := q (gb ++ gb2)
            simpa [letsG, ht] using this
          · simp [ni, ht]
            have := q gb
            simpa [letsG, ht] using this
        · have : letsG ts t d (some (.wt c k)) = false := by
            cases d <;> simp [letsG]
            rename_i y
            intro e; subst e; exact absurd rfl hd
          rw [this] at q
          simp [he, b0, b1, b2, ne, hd, eq_snoc]
          simpa using q []
      · have e : letsG ts t d ([] : List De).getLast? = letsG ts t d none := rfl
        rw [e] at q
        have hb0 : eqD (.list []) (.list []) = some (.bool true) := eq_nil_D []
        simp
        clear e
        cases d with
        | wn c =>
          simp [isWn, eq_snoc, eq_nil_D, hb0]
          simpa [letsG] using q []
        | rd x i =>
          have d1 : ixD (De.rd x i).py 1 = some (.str x.1) := rfl
          simp [isWn, De.wd, d1]
          refine worthB_q x hl ?_
          have e3 : decide (i = worthB ts x) = (i.1 == (worthB ts x).1) := by
            by_cases h : i = worthB ts x
            · rw [← h]; simp
            · have : ¬ i.1 = (worthB ts x).1 := fun e => h (Py.inj _ _ (congrArg PyData.int e))
              simp [h, this]
          simp
          have := q []
          simp only [letsG, e3] at this
          simpa using this
        | gt x i =>
          have d1 : ixD (De.gt x i).py 1 = some (.str x.1) := rfl
          have tk : cutL ((lettersB ts x).map py) none (some 1) = ((lettersB ts x).take 1).map py := by
            have := cut_take' ((lettersB ts x).map py) 1
            rw [← List.map_take] at this
            exact this
          have e1 : eqD (.list (((lettersB ts x).take 1).map py)) (.list [.int i.1]) = some (.bool (decide ((lettersB ts x).take 1 = [i]))) := eqD_lst (by decide) _ [i]
          have e2 : decide ((lettersB ts x).take 1 = [i]) = decide ((lettersB ts x).head? = some i) := by
            cases lettersB ts x <;> simp
          rw [e2] at e1
          simp [isWn, De.wd, d1]
          refine lettersB_q x hl ?_
          simp [tk, e1, -List.map_take]
          simpa [letsG] using q []
        | tk x =>
          simp [isWn, De.wd]
          refine holderB_q x hl hw fun gb => ?_
          simp [pyIs, isB, none_opt hW]
          exact q gb
        | gv x =>
          simp [isWn, De.wd]
          refine holderB_q x hl hw fun gb => ?_
          simp [opt_eq]
          exact q gb
        | wt c x =>
          simp [isWn, De.wd]
          refine holderB_q x hl hw fun gb => ?_
          simp [opt_eq]
          exact q gb
        | bg x =>
          have ni : notInD (.str x.1) (.list ((begunB ts).map py)) = some (.bool (!decide (x ∈ begunB ts))) := notInD_lst (by decide) x (begunB ts)
          simp [isWn, De.wd]
          refine begunB_q hl ?_
          simp [ni]
          simpa [letsG] using q []
        | aw x =>
          have ni : inD (.tuple [.str x.1, .tuple [.str ("end" : Str)]]) (.tuple (ts.map py)) = some (.bool (decide ((x, De.nd) ∈ ts))) := (inD_tup (by decide) (x, De.nd) ts).trans (congrArg (fun b => some (PyData.bool b)) (decide_eq_decide.mpr Iff.rfl))
          simp [isWn, De.wd, ni]
          simpa [letsG] using q []
        | _ =>
          simp [isWn, De.wd]
          simpa [letsG] using q []
      · have e : letsG ts t d (l ++ [b]).getLast? = letsG ts t d none := by
          simp
          cases b <;> first | (cases hb; done) | rfl
        rw [e] at q
        have he : (l ++ [b]).isEmpty = false := by simp
        have hb0 := eq_snoc l b
        simp [he, hb]
        clear e he
        cases d with
        | wn c =>
          simp [isWn, eq_snoc, eq_nil_D, hb0, hb]
          simpa [letsG] using q []
        | rd x i =>
          have d1 : ixD (De.rd x i).py 1 = some (.str x.1) := rfl
          simp [isWn, De.wd, d1]
          refine worthB_q x hl ?_
          have e3 : decide (i = worthB ts x) = (i.1 == (worthB ts x).1) := by
            by_cases h : i = worthB ts x
            · rw [← h]; simp
            · have : ¬ i.1 = (worthB ts x).1 := fun e => h (Py.inj _ _ (congrArg PyData.int e))
              simp [h, this]
          simp
          have := q []
          simp only [letsG, e3] at this
          simpa using this
        | gt x i =>
          have d1 : ixD (De.gt x i).py 1 = some (.str x.1) := rfl
          have tk : cutL ((lettersB ts x).map py) none (some 1) = ((lettersB ts x).take 1).map py := by
            have := cut_take' ((lettersB ts x).map py) 1
            rw [← List.map_take] at this
            exact this
          have e1 : eqD (.list (((lettersB ts x).take 1).map py)) (.list [.int i.1]) = some (.bool (decide ((lettersB ts x).take 1 = [i]))) := eqD_lst (by decide) _ [i]
          have e2 : decide ((lettersB ts x).take 1 = [i]) = decide ((lettersB ts x).head? = some i) := by
            cases lettersB ts x <;> simp
          rw [e2] at e1
          simp [isWn, De.wd, d1]
          refine lettersB_q x hl ?_
          simp [tk, e1, -List.map_take]
          simpa [letsG] using q []
        | tk x =>
          simp [isWn, De.wd]
          refine holderB_q x hl hw fun gb => ?_
          simp [pyIs, isB, none_opt hW]
          exact q gb
        | gv x =>
          simp [isWn, De.wd]
          refine holderB_q x hl hw fun gb => ?_
          simp [opt_eq]
          exact q gb
        | wt c x =>
          simp [isWn, De.wd]
          refine holderB_q x hl hw fun gb => ?_
          simp [opt_eq]
          exact q gb
        | bg x =>
          have ni : notInD (.str x.1) (.list ((begunB ts).map py)) = some (.bool (!decide (x ∈ begunB ts))) := notInD_lst (by decide) x (begunB ts)
          simp [isWn, De.wd]
          refine begunB_q hl ?_
          simp [ni]
          simpa [letsG] using q []
        | aw x =>
          have ni : inD (.tuple [.str x.1, .tuple [.str ("end" : Str)]]) (.tuple (ts.map py)) = some (.bool (decide ((x, De.nd) ∈ ts))) := (inD_tup (by decide) (x, De.nd) ts).trans (congrArg (fun b => some (PyData.bool b)) (decide_eq_decide.mpr Iff.rfl))
          simp [isWn, De.wd, ni]
          simpa [letsG] using q []
        | _ =>
          simp [isWn, De.wd]
          simpa [letsG] using q []
  · have e : letsB ts t d = false := by simp [letsB, h1]
    rw [e] at q
    simp [n1, h1]
    simpa using q []
end
end PK
end
section
set_option Elab.async false
set_option linter.all false
set_option maxRecDepth 100000
set_option maxHeartbeats 1000000
set_option autoImplicit false
namespace PK
open PySem PySem.Spec PyProof.Rows L2 Ev
open Py (py)
open Keyed (key)
/-! ## the machine and the look back: one turn more -/
theorem getK_put {β : Type} [PyA β] {l : List (Wd × β)} (hs : SK l) (k : Wd) (v : β) (x : Wd) : getK (putP l k v) x = if x = k then some v else getK l x := by
  have nd := (put_sk hs k v).nd
  by_cases e : x = k
  · subst e
    rw [if_pos rfl]
    exact getK_of nd (put_mem.mpr (.inl rfl))
  · rw [if_neg e]
    cases h : getK l x with
    | some z => exact getK_of nd (put_mem.mpr (.inr ⟨e, getK_mem h⟩))
    | none =>
      cases h2 : getK (putP l k v) x with
      | none => rfl
      | some z =>
        rcases put_mem.mp (getK_mem h2) with h3 | ⟨_, h3⟩
        · exact absurd (congrArg Prod.fst h3) e
        · exact absurd h3 (getK_none h z)
theorem getK_drop {β : Type} [PyA β] {l : List (Wd × β)} (hs : SK l) (k : Wd) (x : Wd) : getK (dropP l k) x = if x = k then none else getK l x := by
  have nd := (drop_sk hs k).nd
  by_cases e : x = k
  · subst e
    rw [if_pos rfl]
    cases h2 : getK (dropP l x) x with
    | none => rfl
    | some z => exact absurd rfl (drop_mem.mp (getK_mem h2)).1
  · rw [if_neg e]
    cases h : getK l x with
    | some z => exact getK_of nd (drop_mem.mpr ⟨e, getK_mem h⟩)
    | none =>
      cases h2 : getK (dropP l k) x with
      | none => rfl
      | some z => exact absurd (drop_mem.mp (getK_mem h2)).2 (getK_none h z)
def lastB (ts : List Tr) : Wd → Option Wd := ts.foldl lwStep no
theorem lastB_snoc (ts : List Tr) (p : Tr) : lastB (ts ++ [p]) = lwStep (lastB ts) p := by unfold lastB; rw [List.foldl_append]; rfl
theorem hoF_snoc (x : Wd) (p : Tr) : ∀ (ts : List Tr) (g : Wd → Option Wd) (h : Option Wd), hoF x g h (ts ++ [p]) = hoStep x (ts.foldl lwStep g) (hoF x g h ts) p
  | [], g, h => rfl
  | q :: r, g, h => hoF_snoc x p r _ _
theorem holderB_snoc (ts : List Tr) (p : Tr) (x : Wd) : holderB (ts ++ [p]) x = hoStep x (lastB ts) (holderB ts x) p := hoF_snoc x p ts no none
theorem wkOk_snoc (p : Tr) : ∀ (ts : List Tr) (g : Wd → Option Wd), wkOk g ts → (∀ c, p.2 = .wn c → ((ts.foldl lwStep g) p.1).isSome = true) → wkOk g (ts ++ [p])
  | [], g, _, h => ⟨h, trivial⟩
  | q :: r, g, h1, h => ⟨h1.1, wkOk_snoc p r _ h1.2 h⟩
theorem calledB_snoc (ts : List Tr) (p : Tr) (c : Wd) : calledB (ts ++ [p]) c = cStep c (calledB ts c) p := by unfold calledB; rw [List.foldl_append]; rfl
theorem ownB_snoc (ts : List Tr) (t : Wd) (d : De) (z : Wd) : ownB (ts ++ [(t, d)]) z = if t = z then ownB ts z ++ [d] else ownB ts z := by
  unfold ownB
  rw [List.filterMap_append]
  by_cases e : t = z
  · subst e; simp
  · simp [e]
def sends (ts : List Tr) (x : Wd) : List Va := ts.filterMap (sdOf x)
def gets (ts : List Tr) (x : Wd) : Nat := (ts.filterMap (gtOf x)).length
theorem lettersB_eq (ts : List Tr) (x : Wd) : lettersB ts x = (sends ts x).drop (gets ts x) := rfl
theorem sends_snoc (ts : List Tr) (p : Tr) (x : Wd) : sends (ts ++ [p]) x = sends ts x ++ (sdOf x p).toList := by
  unfold sends
  rw [List.filterMap_append]
  cases h : sdOf x p <;> simp [h]
theorem gets_snoc (ts : List Tr) (p : Tr) (x : Wd) : gets (ts ++ [p]) x = gets ts x + (gtOf x p).toList.length := by
  unfold gets
  rw [List.filterMap_append, List.length_append]
  cases h : gtOf x p <;> simp [h]
theorem worthB_snoc (ts : List Tr) (p : Tr) (x : Wd) : worthB (ts ++ [p]) x = (wrOf x p).getD (worthB ts x) := by
  unfold worthB
  rw [List.filterMap_append]
  cases h : wrOf x p <;> simp [h]
theorem begunB_snoc (ts : List Tr) (p : Tr) : begunB (ts ++ [p]) = begunB ts ++ (bgOf p).toList := by
  unfold begunB
  rw [List.filterMap_append]
  cases h : bgOf p <;> simp [h]
structure Back (ts : List Tr) (M : Mo) : Prop where
  ok : M.Ok (ts.length + 1)
  cells : ∀ x, (getK M.cells x).getD va0 = worthB ts x
  boxes : ∀ x, lettersOf M x = lettersB ts x
  gl : ∀ x, gets ts x ≤ (sends ts x).length
  holds : ∀ x, getK M.holds x = holderB ts x
  sleep : ∀ c, (rowOf M c).map (·.1) = (calledB ts c).1
  gone : ∀ t c, t ∈ (calledB ts c).2 ↔ ∃ l, (⟨t, c, l⟩ : W3) ∈ M.woken
  l1 : ∀ c a, a ∈ rowOf M c → (ownB ts a.1).getLast? = some (.wt c a.2)
  l2 : ∀ w ∈ M.woken, (ownB ts w.t).getLast? = some (.wt w.c w.l)
  l3 : ∀ t c l, (ownB ts t).getLast? = some (.wt c l) → (t, l) ∈ rowOf M c ∨ (⟨t, c, l⟩ : W3) ∈ M.woken
  last : ∀ t c l, (ownB ts t).getLast? = some (.wt c l) → lastB ts t = some l
  begun : ∀ t, t ∈ M.begun ↔ t ∈ begunB ts
  ended : ∀ t, t ∈ M.ended ↔ De.nd ∈ ownB ts t
  wk : wkOk no ts
theorem slAt_some {t : Wd} {p : Wd × Wd} : ∀ {l : List (Wd × List (Wd × Wd))}, slAt l t = some p → ∃ row, (p.1, row) ∈ l ∧ (t, p.2) ∈ row
  | [], h => by cases h
  | q :: r, h => by
    unfold slAt at h
    cases e : getK q.2 t with
    | some x =>
      rw [e] at h
      injection h with h
      subst h
      exact ⟨q.2, List.mem_cons_self, getK_mem e⟩
    | none =>
      rw [e] at h
      obtain ⟨row, h1, h2⟩ := slAt_some h
      exact ⟨row, List.mem_cons_of_mem _ h1, h2⟩
theorem mem_own {ts : List Tr} {t : Wd} {d : De} : d ∈ ownB ts t ↔ (t, d) ∈ ts := by
  unfold ownB
  rw [List.mem_filterMap]
  constructor
  · rintro ⟨p, h1, h2⟩
    split at h2
    · rename_i e
      injection h2 with h2
      subst e h2
      exact h1
    · cases h2
  · intro h
    exact ⟨(t, d), h, by simp⟩
section
variable {ts : List Tr} {M : Mo} (B : Back ts M)
include B
theorem Back.row {c : Wd} {row : List (Wd × Wd)} (h : (c, row) ∈ M.sleep) : row = rowOf M c := (row_of B.ok h).symm
theorem Back.slp {t : Wd} {c l : Wd} (h : slAt M.sleep t = some (c, l)) : (ownB ts t).getLast? = some (.wt c l) := by
  obtain ⟨row, h1, h2⟩ := slAt_some h
  have e := B.row h1
  rw [e] at h2
  exact B.l1 c (t, l) h2
theorem Back.gon {t : Wd} {c l : Wd} (h : goneAt M.woken t = some (c, l)) : (ownB ts t).getLast? = some (.wt c l) := B.l2 ⟨t, c, l⟩ (gone_mem h)
theorem Back.noslp {t : Wd} (h : slAt M.sleep t = none) (c l : Wd) : (t, l) ∉ rowOf M c := fun hm => slAt_none h _ (row_mem hm) (t, l) hm rfl
theorem Back.nogon {t : Wd} (h : goneAt M.woken t = none) (c l : Wd) : (⟨t, c, l⟩ : W3) ∉ M.woken := fun hm => goneAt_none h _ hm rfl
theorem Back.lets (t : Wd) (d : De) : letsB ts t d = letsD M t d := by
  rw [Bool.eq_iff_iff, lets_iff]
  unfold letsB
  rw [Bool.and_eq_true, Bool.and_eq_true, decide_eq_true_eq, Bool.not_eq_true', decide_eq_false_iff_not, ← B.begun, ← B.ended]
  constructor
  · rintro ⟨hb, he, hl⟩
    cases hg : goneAt M.woken t with
    | some p =>
      obtain ⟨c, l⟩ := p
      have hlast := B.gon hg
      rw [hlast] at hl
      cases d with
      | wn y =>
        simp only [letsG, Bool.and_eq_true, decide_eq_true_eq] at hl
        obtain ⟨rfl, h1, h2⟩ := hl
        refine ⟨hb, he, ?_, nofun, fun c' e => ?_, nofun, nofun, nofun⟩
        · cases hs : slAt M.sleep t with
          | none => rfl
          | some p =>
            obtain ⟨row, h3, h4⟩ := slAt_some hs
            exact absurd rfl (B.ok.sw _ h3 _ h4 _ (gone_mem hg))
        · injection e with e
          subst e
          exact ⟨l, hg, by rw [B.holds]; exact Option.isNone_iff_eq_none.mp h2⟩
      | _ => cases hl
    | none =>
      cases hs : slAt M.sleep t with
      | some p =>
        exfalso
        obtain ⟨c, l⟩ := p
        have hlast := B.slp hs
        rw [hlast] at hl
        cases d with
        | wn y =>
          simp only [letsG, Bool.and_eq_true, decide_eq_true_eq] at hl
          obtain ⟨rfl, h1, h2⟩ := hl
          obtain ⟨l', h3⟩ := (B.gone t y).mp h1
          exact B.nogon hg y l' h3
        | _ => cases hl
      | none =>
        have hn : ∀ c l, (ownB ts t).getLast? ≠ some (.wt c l) := fun c l h => by
          rcases B.l3 t c l h with h | h
          · exact B.noslp hs c l h
          · exact B.nogon hg c l h
        have hG : letsG ts t d (ownB ts t).getLast? = letsG ts t d none := by
          cases hq : (ownB ts t).getLast? with
          | none => rfl
          | some b => cases b <;> first | rfl | exact absurd hq (hn _ _)
        rw [hG] at hl
        cases d with
        | wn y => cases hl
        | rd x i =>
          simp only [letsG, decide_eq_true_eq] at hl
          exact ⟨hb, he, hs, fun _ => hg, nofun, fun y j e => by injection e with e1 e2; subst e1 e2; rw [B.cells]; exact hl, nofun, nofun⟩
        | gt x i =>
          simp only [letsG, decide_eq_true_eq] at hl
          refine ⟨hb, he, hs, fun _ => hg, nofun, nofun, fun y j e => ?_, nofun⟩
          injection e with e1 e2
          subst e1 e2
          rw [← B.boxes] at hl
          unfold lettersOf at hl
          cases hk : getK M.boxes x with
          | none => rw [hk] at hl; cases hl
          | some r =>
            rw [hk] at hl
            cases r with
            | nil => cases hl
            | cons a r => exact ⟨r, by rw [← Option.some.inj hl]⟩
        | _ =>
          refine ⟨hb, he, hs, fun _ => hg, nofun, nofun, nofun, fun _ => ?_⟩
          simpa [letsG, letsI, B.holds, B.begun, B.ended, mem_own] using hl
  · intro h
    refine ⟨h.b, h.e, ?_⟩
    cases d with
    | wn y =>
      obtain ⟨l, hg, hh⟩ := h.wn y rfl
      rw [B.gon hg]
      simp only [letsG, Bool.and_eq_true, decide_eq_true_eq]
      exact ⟨trivial, (B.gone t y).mpr ⟨l, gone_mem hg⟩, by rw [← B.holds, hh]; rfl⟩
    | _ =>
      have hg := h.g rfl
      have hn : ∀ c l, (ownB ts t).getLast? ≠ some (.wt c l) := fun c l h' => by
        rcases B.l3 t c l h' with h' | h'
        · exact B.noslp h.s c l h'
        · exact B.nogon hg c l h'
      have hG : ∀ d, letsG ts t d (ownB ts t).getLast? = letsG ts t d none := fun d => by
        cases hq : (ownB ts t).getLast? with
        | none => rfl
        | some b => cases b <;> first | rfl | exact absurd hq (hn _ _)
      rw [hG]
      first
      | (have h' := h.ot trivial
         simpa [letsG, letsI, B.holds, B.begun, B.ended, mem_own] using h')
      | (have h' := h.rd _ _ rfl
         simpa [letsG, B.cells] using h')
      | (obtain ⟨r, h'⟩ := h.gt _ _ rfl
         simp [letsG, ← B.boxes, lettersOf, h'])
end
end PK
end
section
set_option Elab.async false
set_option linter.all false
set_option maxRecDepth 100000
set_option maxHeartbeats 1000000
set_option autoImplicit false
namespace PK
open PySem PySem.Spec PyProof.Rows L2 Ev
open Py (py)
open Keyed (key)
section
variable {M : Mo} {t : Wd} {d : De}
theorem bh_cells : (behindM M t d).cells = (match d with | .wr x v => putP M.cells x v | _ => M.cells) := by
  cases d <;> first | rfl | (simp only [behindM]; split <;> rfl)
theorem bh_boxes : (behindM M t d).boxes = (match d with | .sd x v => putP M.boxes x (lettersOf M x ++ [v]) | .gt x _ => (if (lettersOf M x).tail = [] then dropP M.boxes x else putP M.boxes x (lettersOf M x).tail) | _ => M.boxes) := by
  cases d <;> first | rfl | (simp only [behindM]; split <;> rfl)
theorem bh_holds : (behindM M t d).holds = (match d with | .tk x => putP M.holds x t | .gv x => dropP M.holds x | .wt _ l => dropP M.holds l | .wn _ => (match goneAt M.woken t with | some p => putP M.holds p.2 t | none => M.holds) | _ => M.holds) := by
  cases d <;> first | rfl | (simp only [behindM]; split <;> first | rfl | (rename_i h; rw [h]))
theorem bh_sleep : (behindM M t d).sleep = (match d with | .wt c l => putP M.sleep c (rowOf M c ++ [(t, l)]) | .wk c => (match rowOf M c with | a :: r => (if r = [] then dropP M.sleep c else putP M.sleep c r) | [] => M.sleep) | _ => M.sleep) := by
  cases d <;> first | rfl | (simp only [behindM]; split <;> first | rfl | (rename_i h; rw [h]))
theorem bh_woken : (behindM M t d).woken = (match d with | .wn _ => (match goneAt M.woken t with | some p => M.woken.filter fun w => decide (w.t ≠ t) | none => M.woken) | .wk c => (match rowOf M c with | a :: r => sortK (M.woken ++ [⟨a.1, c, a.2⟩]) | [] => M.woken) | _ => M.woken) := by
  cases d <;> first | rfl | (simp only [behindM]; split <;> first | rfl | (rename_i h; rw [h]))
theorem bh_begun : (behindM M t d).begun = (match d with | .bg x => sortWd (M.begun ++ [x]) | _ => M.begun) := by
  cases d <;> first | rfl | (simp only [behindM]; split <;> rfl)
theorem bh_ended : (behindM M t d).ended = (match d with | .nd => sortWd (M.ended ++ [t]) | _ => M.ended) := by
  cases d <;> first | rfl | (simp only [behindM]; split <;> rfl)
theorem bh_letters {n : Nat} (ok : M.Ok n) (x : Wd) : lettersOf (behindM M t d) x = (match d with | .sd y v => (if x = y then lettersOf M y ++ [v] else lettersOf M x) | .gt y _ => (if x = y then (lettersOf M y).tail else lettersOf M x) | _ => lettersOf M x) := by
  unfold lettersOf
  rw [bh_boxes]
  cases d with
  | sd y v => dsimp only; rw [getK_put ok.b]; split <;> simp [lettersOf]
  | gt y v =>
    dsimp only
    split
    · rename_i h
      rw [getK_drop ok.b]
      split
      · unfold lettersOf at h; rw [h]; rfl
      · rfl
    · rw [getK_put ok.b]
      split <;> simp [lettersOf]
  | _ => rfl
theorem bh_row {n : Nat} (ok : M.Ok n) (x : Wd) : rowOf (behindM M t d) x = (match d with | .wt c l => (if x = c then rowOf M c ++ [(t, l)] else rowOf M x) | .wk c => (if x = c then (rowOf M c).tail else rowOf M x) | _ => rowOf M x) := by
  have e : rowOf (behindM M t d) x = (getK (behindM M t d).sleep x).getD [] := rfl
  rw [e, bh_sleep]
  cases d with
  | wt c l => dsimp only; rw [getK_put ok.s]; split <;> simp [rowOf]
  | wk c =>
    dsimp only
    cases h : rowOf M c with
    | nil =>
      dsimp only
      by_cases hx : x = c
      · subst hx; rw [if_pos rfl]; exact h
      · rw [if_neg hx]; rfl
    | cons a r =>
      dsimp only
      by_cases hr : r = []
      · rw [if_pos hr, getK_drop ok.s]
        by_cases hx : x = c
        · rw [if_pos hx, if_pos hx, hr]; rfl
        · rw [if_neg hx, if_neg hx]; rfl
      · rw [if_neg hr, getK_put ok.s]
        by_cases hx : x = c
        · rw [if_pos hx, if_pos hx]; rfl
        · rw [if_neg hx, if_neg hx]; rfl
  | _ => rfl
theorem bh_mem (hl : LetsF M t d) (w : W3) : w ∈ (behindM M t d).woken ↔ (match d with | .wn _ => w ∈ M.woken ∧ w.t ≠ t | .wk c => w ∈ M.woken ∨ ∃ a, (rowOf M c).head? = some a ∧ w = ⟨a.1, c, a.2⟩ | _ => w ∈ M.woken) := by
  rw [bh_woken]
  cases d with
  | wn c =>
    obtain ⟨l, hg, _⟩ := hl.wn c rfl
    rw [hg]; simp
  | wk c =>
    dsimp only
    cases h : rowOf M c with
    | nil => simp
    | cons a r =>
      dsimp only
      rw [(sortK_perm _).mem_iff]; simp
  | _ => exact Iff.rfl
end
section
variable {ts : List Tr} {M : Mo} {t : Wd} {d : De}
theorem back_cells (B : Back ts M) (x : Wd) : (getK (behindM M t d).cells x).getD va0 = worthB (ts ++ [(t, d)]) x := by
  rw [bh_cells, worthB_snoc, ← B.cells]
  cases d with
  | wr y v =>
    dsimp only [wrOf]
    rw [getK_put B.ok.c]
    by_cases e : x = y
    · subst e; simp
    · rw [if_neg e, if_neg (fun h => e h.symm)]; rfl
  | _ => rfl
theorem back_gl (B : Back ts M) (hl : LetsF M t d) (x : Wd) : gets (ts ++ [(t, d)]) x ≤ (sends (ts ++ [(t, d)]) x).length := by
  rw [gets_snoc, sends_snoc, List.length_append]
  have := B.gl x
  cases d with
  | gt y i =>
    by_cases e : y = x
    · subst e
      obtain ⟨r, hr⟩ := hl.gt y i rfl
      have h1 : lettersOf M y = i :: r := by unfold lettersOf; rw [hr]; rfl
      rw [B.boxes, lettersB_eq] at h1
      have h2 := congrArg List.length h1
      rw [List.length_drop, List.length_cons] at h2
      simp [gtOf, sdOf]
      omega
    · simp [gtOf, sdOf, e]; omega
  | _ => simp [gtOf]; omega
theorem back_boxes (B : Back ts M) (hl : LetsF M t d) (x : Wd) : lettersOf (behindM M t d) x = lettersB (ts ++ [(t, d)]) x := by
  rw [bh_letters B.ok, lettersB_eq, sends_snoc, gets_snoc]
  have gl := B.gl x
  cases d with
  | sd y v =>
    dsimp only
    by_cases e : x = y
    · subst e
      rw [if_pos rfl, B.boxes, lettersB_eq]
      simp [sdOf, gtOf, List.drop_append_of_le_length gl]
    · have e' : ¬ y = x := fun h => e h.symm
      rw [if_neg e, B.boxes, lettersB_eq]
      simp [sdOf, gtOf, e']
  | gt y v =>
    dsimp only
    by_cases e : x = y
    · subst e
      rw [if_pos rfl, B.boxes, lettersB_eq]
      simp [sdOf, gtOf]
    · have e' : ¬ y = x := fun h => e h.symm
      rw [if_neg e, B.boxes, lettersB_eq]
      simp [sdOf, gtOf, e']
  | _ =>
    dsimp only
    rw [B.boxes, lettersB_eq]
    simp [sdOf, gtOf]
theorem back_holds (B : Back ts M) (hl : LetsF M t d) (x : Wd) : getK (behindM M t d).holds x = holderB (ts ++ [(t, d)]) x := by
  rw [bh_holds, holderB_snoc, ← B.holds]
  have sw : ∀ {α : Type} (y : Wd) (a b : α), (if x = y then a else b) = if y = x then a else b := fun y a b => by
    by_cases e : x = y
    · subst e; rfl
    · rw [if_neg e, if_neg fun h => e h.symm]
  cases d with
  | tk y => dsimp only [hoStep]; rw [getK_put B.ok.h, sw]
  | gv y => dsimp only [hoStep]; rw [getK_drop B.ok.h, sw]
  | wt c y => dsimp only [hoStep]; rw [getK_drop B.ok.h, sw]
  | wn c =>
    obtain ⟨l, hg, _⟩ := hl.wn c rfl
    have e := B.last t c l (B.gon hg)
    dsimp only [hoStep]
    rw [hg]
    dsimp only
    rw [getK_put B.ok.h, e, sw]
    by_cases h : l = x
    · subst h; simp
    · have : ¬ some l = some x := fun h' => h (Option.some.inj h')
      rw [if_neg h, if_neg this]
  | _ => rfl
theorem back_sleep (B : Back ts M) (c : Wd) : (rowOf (behindM M t d) c).map (·.1) = (calledB (ts ++ [(t, d)]) c).1 := by
  rw [bh_row B.ok, calledB_snoc]
  have s := B.sleep c
  cases d with
  | wt y l =>
    dsimp only [cStep]
    by_cases e : c = y
    · subst e; rw [if_pos rfl, if_pos rfl, List.map_append, s]; rfl
    · rw [if_neg e, if_neg fun h => e h.symm, s]
  | wk y =>
    dsimp only [cStep]
    by_cases e : c = y
    · subst e
      rw [if_pos rfl, if_pos rfl, List.map_tail, s]
      cases h : (calledB ts c).1 with
      | nil => dsimp only; rw [h]; rfl
      | cons a r => rfl
    · rw [if_neg e, if_neg fun h => e h.symm, s]
  | wn y => dsimp only [cStep]; rw [s]; split <;> rfl
  | _ => exact s
end
end PK
end
section
set_option Elab.async false
set_option linter.all false
set_option maxRecDepth 100000
set_option maxHeartbeats 1000000
set_option autoImplicit false
namespace PK
open PySem PySem.Spec PyProof.Rows L2 Ev
open Py (py)
open Keyed (key)
section
variable {ts : List Tr} {M : Mo} {t : Wd} {d : De}
theorem back_gone (B : Back ts M) (hl : LetsF M t d) (z c : Wd) : z ∈ (calledB (ts ++ [(t, d)]) c).2 ↔ ∃ l, (⟨z, c, l⟩ : W3) ∈ (behindM M t d).woken := by
  rw [calledB_snoc]
  have s := B.sleep c
  have g := B.gone z c
  cases d with
  | wt y l =>
    have : (cStep c (calledB ts c) (t, .wt y l)).2 = (calledB ts c).2 := by dsimp only [cStep]; split <;> rfl
    rw [this, g]
    exact exists_congr fun l => (bh_mem hl _).symm
  | wn y =>
    obtain ⟨l, hg, _⟩ := hl.wn y rfl
    have hm := gone_mem hg
    dsimp only [cStep]
    by_cases e : y = c
    · subst e
      rw [if_pos rfl, List.mem_filter, g]
      constructor
      · rintro ⟨⟨l', h1⟩, h2⟩
        exact ⟨l', (bh_mem hl _).mpr ⟨h1, by simpa using h2⟩⟩
      · rintro ⟨l', h1⟩
        have h1 := (bh_mem hl _).mp h1
        exact ⟨⟨l', h1.1⟩, by simpa using h1.2⟩
    · rw [if_neg e, g]
      constructor
      · rintro ⟨l', h1⟩
        refine ⟨l', (bh_mem hl _).mpr ⟨h1, fun h2 => ?_⟩⟩
        have := key_inj B.ok.w.nd h1 hm h2
        injection this with _ h3
        exact e h3.symm
      · rintro ⟨l', h1⟩
        exact ⟨l', ((bh_mem hl _).mp h1).1⟩
  | wk y =>
    dsimp only [cStep]
    by_cases e : y = c
    · subst e
      rw [if_pos rfl]
      cases hr : rowOf M y with
      | nil =>
        rw [hr] at s
        have s' : (calledB ts y).1 = [] := s.symm
        rw [s']
        show z ∈ (calledB ts y).2 ↔ _
        rw [g]
        exact exists_congr fun l => ⟨fun h => (bh_mem hl _).mpr (.inl h), fun h => by
          rcases (bh_mem hl _).mp h with h | ⟨a, ha, _⟩
          · exact h
          · rw [hr] at ha; cases ha⟩
      | cons a r =>
        rw [hr] at s
        have s' : (calledB ts y).1 = a.1 :: r.map (·.1) := s.symm
        rw [s']
        show z ∈ (calledB ts y).2 ++ [a.1] ↔ _
        rw [List.mem_append, List.mem_singleton, g]
        constructor
        · rintro (⟨l, h⟩ | rfl)
          · exact ⟨l, (bh_mem hl _).mpr (.inl h)⟩
          · exact ⟨a.2, (bh_mem hl _).mpr (.inr ⟨a, by rw [hr]; rfl, rfl⟩)⟩
        · rintro ⟨l, h⟩
          rcases (bh_mem hl _).mp h with h | ⟨b, hb, h⟩
          · exact .inl ⟨l, h⟩
          · rw [hr] at hb
            cases hb
            injection h with h _
            exact .inr h
    · rw [if_neg e, g]
      exact exists_congr fun l => ⟨fun h => (bh_mem hl _).mpr (.inl h), fun h => by
        rcases (bh_mem hl _).mp h with h | ⟨a, _, h⟩
        · exact h
        · injection h with _ h; exact absurd h.symm e⟩
  | _ =>
    show z ∈ (calledB ts c).2 ↔ _
    rw [g]
    exact exists_congr fun l => (bh_mem hl _).symm
theorem own_ne (ts : List Tr) (d : De) {z : Wd} (h : z ≠ t) : ownB (ts ++ [(t, d)]) z = ownB ts z := by rw [ownB_snoc, if_neg fun e => h e.symm]
theorem own_eq (ts : List Tr) (d : De) : (ownB (ts ++ [(t, d)]) t).getLast? = some d := by rw [ownB_snoc, if_pos rfl]; simp
theorem back_l1 (B : Back ts M) (hl : LetsF M t d) (c : Wd) (a : Wd × Wd) (h : a ∈ rowOf (behindM M t d) c) : (ownB (ts ++ [(t, d)]) a.1).getLast? = some (.wt c a.2) := by
  have old : ∀ {c : Wd} {a : Wd × Wd}, a ∈ rowOf M c → (ownB (ts ++ [(t, d)]) a.1).getLast? = some (.wt c a.2) := fun {c a} hm => by
    have : a.1 ≠ t := slAt_none hl.s _ (row_mem hm) a hm
    rw [own_ne ts d this]
    exact B.l1 c a hm
  rw [bh_row B.ok] at h
  cases d with
  | wt y l =>
    dsimp only at h
    by_cases e : c = y
    · subst e
      rw [if_pos rfl, List.mem_append, List.mem_singleton] at h
      rcases h with h | rfl
      · exact old h
      · exact own_eq ts _
    · rw [if_neg e] at h; exact old h
  | wk y =>
    dsimp only at h
    by_cases e : c = y
    · subst e
      rw [if_pos rfl] at h
      exact old (List.mem_of_mem_tail h)
    · rw [if_neg e] at h; exact old h
  | _ => exact old h
theorem back_l2 (B : Back ts M) (hl : LetsF M t d) (w : W3) (h : w ∈ (behindM M t d).woken) : (ownB (ts ++ [(t, d)]) w.t).getLast? = some (.wt w.c w.l) := by
  have old : w ∈ M.woken → w.t ≠ t → (ownB (ts ++ [(t, d)]) w.t).getLast? = some (.wt w.c w.l) := fun hm hn => by
    rw [own_ne ts d hn]; exact B.l2 w hm
  have h := (bh_mem hl w).mp h
  cases d with
  | wn y => exact old h.1 h.2
  | wk y =>
    have hn := goneAt_none (hl.g rfl)
    rcases h with h | ⟨a, ha, rfl⟩
    · exact old h (hn w h)
    · have hm : a ∈ rowOf M y := List.mem_of_mem_head? ha
      have : a.1 ≠ t := slAt_none hl.s _ (row_mem hm) a hm
      show (ownB (ts ++ [(t, _)]) a.1).getLast? = some (.wt y a.2)
      rw [own_ne ts _ this]
      exact B.l1 y a hm
  | _ => exact old h (goneAt_none (hl.g rfl) w h)
theorem back_l3 (B : Back ts M) (hl : LetsF M t d) (z c l : Wd) (h : (ownB (ts ++ [(t, d)]) z).getLast? = some (.wt c l)) : (z, l) ∈ rowOf (behindM M t d) c ∨ (⟨z, c, l⟩ : W3) ∈ (behindM M t d).woken := by
  rw [bh_row B.ok, bh_mem hl]
  by_cases e : z = t
  · subst e
    rw [own_eq] at h
    injection h with h
    subst h
    dsimp only
    rw [if_pos rfl]
    exact .inl (by simp)
  · rw [own_ne ts d e] at h
    have o := B.l3 z c l h
    cases d with
    | wt y k =>
      dsimp only
      rcases o with o | o
      · refine .inl ?_
        by_cases e2 : c = y
        · subst e2; rw [if_pos rfl]; exact List.mem_append_left _ o
        · rw [if_neg e2]; exact o
      · exact .inr o
    | wk y =>
      dsimp only
      rcases o with o | o
      · by_cases e2 : c = y
        · subst e2
          rw [if_pos rfl]
          cases hr : rowOf M c with
          | nil => rw [hr] at o; cases o
          | cons a r =>
            rw [hr] at o
            rcases List.mem_cons.mp o with rfl | o
            · exact .inr (.inr ⟨_, rfl, rfl⟩)
            · exact .inl o
        · rw [if_neg e2]; exact .inl o
      · exact .inr (.inl o)
    | wn y => exact o.imp id fun o => ⟨o, e⟩
    | _ => exact o
theorem back_last (B : Back ts M) (z c l : Wd) (h : (ownB (ts ++ [(t, d)]) z).getLast? = some (.wt c l)) : lastB (ts ++ [(t, d)]) z = some l := by
  rw [lastB_snoc]
  by_cases e : z = t
  · subst e
    rw [own_eq] at h
    injection h with h
    subst h
    simp [lwStep]
  · rw [own_ne ts d e] at h
    have o := B.last z c l h
    cases d with
    | wt y k => simp [lwStep, e]; exact o
    | _ => exact o
theorem Back.step (B : Back ts M) (hl : LetsF M t d) : Back (ts ++ [(t, d)]) (behindM M t d) where
  ok := by rw [List.length_append]; exact behind_ok B.ok hl
  cells := back_cells B
  boxes := back_boxes B hl
  gl := back_gl B hl
  holds := back_holds B hl
  sleep := back_sleep B
  gone := back_gone B hl
  l1 := back_l1 B hl
  l2 := back_l2 B hl
  l3 := back_l3 B hl
  last := back_last B
  begun z := by
    rw [bh_begun, begunB_snoc]
    cases d with
    | bg x => dsimp only [bgOf]; rw [mem_wd, List.mem_append, B.begun]; simp
    | _ => dsimp only [bgOf]; rw [B.begun]; simp
  ended z := by
    rw [bh_ended, ownB_snoc]
    cases d with
    | nd =>
      dsimp only
      rw [mem_wd, B.ended]
      by_cases e : t = z
      · subst e; simp
      · rw [if_neg e]; 
        constructor
        · rintro (h | h)
          · exact h
          · exact absurd h.symm e
        · exact .inl
    | _ =>
      dsimp only
      rw [B.ended]
      split
      · rw [List.mem_append]; simp
      · rfl
  wk := wkOk_snoc _ _ _ B.wk fun c e => by
    have e : d = .wn c := e
    obtain ⟨l, hg, _⟩ := hl.wn c e
    have := B.last t c l (B.gon hg)
    show (lastB ts t).isSome = true
    rw [this]; rfl
theorem Back.nil : Back [] mo0 := ⟨mo0_ok, fun _ => rfl, fun _ => rfl, fun _ => Nat.le_refl _, fun _ => rfl, fun _ => rfl, fun _ _ => ⟨nofun, fun ⟨_, h⟩ => nomatch h⟩, nofun, nofun, nofun, nofun, fun _ => Iff.rfl, fun _ => ⟨nofun, nofun⟩, trivial⟩
end
/-! ## the first bad place, by the look back -/
/-- the first bad place of done ++ rest, done a run -/
def badF (done : List Tr) : List Tr → Option Nat
  | [] => none
  | p :: r => if letsB done p.1 p.2 = true then badF (done ++ [p]) r else some done.length
theorem walk_bad {M : Mo} : ∀ (rest done : List Tr) {M : Mo}, Back done M → (walkM M rest done.length).1 = badF done rest
  | [], done, M, B => rfl
  | p :: r, done, M, B => by
    unfold walkM badF movedM
    rw [B.lets]
    by_cases h : letsD M p.1 p.2 = true
    · rw [if_pos h, if_pos h]
      have := walk_bad (M := M) r (done ++ [p]) (B.step (lets_iff.mp h))
      rw [List.length_append] at this
      exact this
    · rw [if_neg h, if_neg h]
theorem bad_eq (ts : List Tr) : badM ts = badF [] ts := walk_bad (M := mo0) ts [] Back.nil
/-- a run -/
structure IsRun (ts : List Tr) : Prop where
  back : ∃ M, Back ts M
  bad : badF [] ts = none
theorem IsRun.nil : IsRun [] := ⟨⟨mo0, Back.nil⟩, rfl⟩
theorem bad_start : ∀ (a : List Tr) (done rest : List Tr), badF done a = none → badF done (a ++ rest) = badF (done ++ a) rest
  | [], done, rest, _ => by simp
  | p :: a, done, rest, h => by
    unfold badF at h
    split at h
    · rename_i hl
      rw [List.cons_append, badF, if_pos hl, bad_start a _ rest h]
      simp
    · cases h
theorem IsRun.step {ts : List Tr} {p : Tr} (h : IsRun ts) (hl : letsB ts p.1 p.2 = true) : IsRun (ts ++ [p]) := by
  obtain ⟨M, B⟩ := h.back
  have hb : badF [] (ts ++ [p]) = none := by
    rw [bad_start ts [] [p] h.bad, List.nil_append, badF, if_pos hl]; rfl
  rw [B.lets] at hl
  exact ⟨⟨_, B.step (lets_iff.mp hl)⟩, hb⟩
theorem badF_run {done : List Tr} : ∀ {rest : List Tr} {done : List Tr}, badF done rest = none → IsRun done → IsRun (done ++ rest)
  | [], done, _, h => by rw [List.append_nil]; exact h
  | p :: r, done, e, h => by
    unfold badF at e
    split at e
    · rename_i hl
      have := badF_run (done := done) e (h.step hl)
      rwa [List.append_assoc] at this
    · cases e
end PK
end
section
set_option Elab.async false
set_option linter.all false
set_option maxRecDepth 100000
set_option maxHeartbeats 1000000
set_option autoImplicit false
namespace PK
open PySem PySem.Spec PyProof.Rows L2 Ev
open Py (py)
open Keyed (key)
section
variable {T : List (Addr × Str)} {j : Nat} {st : Sto} {K : Kt W} {ts : List Tr}
/-! ## draws -/
theorem some_q (ok : Ok T j st) {ds : List PyData} (h0 : ds ≠ []) (h1 : ds.length < 1000000) (q : ∀ d st', d ∈ ds → Ok T j st' → K.q (W.d d) st') : @qM W (f__law_some [W.r j, W.d (.list ds)]) st K := some_list ok h0 h1 q
theorem roll_n (ok : Ok T j st) {n : Int} (h0 : 0 < n) (h1 : n < 1073741824) (q : ∀ (v : Nat) st', (v : Int) < n → Ok T j st' → K.q (W.d (.int (v : Int))) st') : @qM W (f__law_roll [W.r j, W.d (.int n)]) st K :=
  roll_ok ok h0 h1 fun v s v0 v1 ok => by
    obtain ⟨k, rfl⟩ := Int.eq_ofNat_of_zero_le v0
    exact q k s v1 ok
theorem some_py {α : Type} [Py α] (ok : Ok T j st) {zs : List α} (h0 : zs ≠ []) (h1 : zs.length < 1000) (q : ∀ (z : α) st', z ∈ zs → Ok T j st' → K.q (W.d (py z)) st') : @qM W (f__law_some [W.r j, W.d (.list (zs.map py))]) st K :=
  some_q ok (by simpa using h0) (by simp; omega) fun d s hd ok => by
    obtain ⟨z, hz, rfl⟩ := List.mem_map.mp hd
    exact q z s hz ok
theorem value_q (ok : Ok T j st) (q : ∀ (v : Va) st', Ok T j st' → K.q (W.d (.int v.1)) st') : @qM W (f__law_value [W.r j]) st K := by
  unfold f__law_value b__law_value
  simp
  refine roll_n ok (by decide) (by decide) fun v s1 hv ok1 => ?_
  simp
  refine some_q ok1 (by simp) (by simp) fun d s2 hd ok2 => ?_
  simp only [List.mem_cons, List.not_mem_nil, or_false] at hd
  rcases hd with rfl | rfl | rfl | rfl | rfl | rfl
  · exact q ⟨0, by decide⟩ _ ok2
  · exact q ⟨1, by decide⟩ _ ok2
  · exact q ⟨-1, by decide⟩ _ ok2
  · exact q ⟨99, by decide⟩ _ ok2
  · exact q ⟨-99, by decide⟩ _ ok2
  · exact q ⟨v - 99, by omega⟩ _ ok2
theorem words_q (q : K.q (.d (.list ([("read" : Str), "write", "take", "take", "give", "begin", "await", "send", "send", "get", "wait", "wait", "wake", "end"].map .str))) st) : @qM W (f__law_words []) st K := by
  unfold f__law_words b__law_words
  simp
  exact q
theorem same_q {d : PyData} (h : PlainN 8 d) (q : K.q (.d (.bool true)) st) : @qM W (f__law_same [W.d d, W.d d]) st K := by
  show wpM _ _ _ _
  rw [wpM_eq (law_same_refl h st)]
  exact q
theorem right_q (hl : ts.length ≤ 200) (h : okRow ts = true) (q : ∀ gb, K.q (.d (.bool true)) (st ++ gb)) : @qM W (f__law_right [W.d (.tuple (ts.map py)), .d (optNat (badM ts))]) st K := by
  unfold f__law_right b__law_right
  simp
  refine first_bad_q hl h fun gb => ?_
  simp
  have pn : ∀ o : Option Nat, PlainN 8 (optNat o) := fun o => by cases o <;> constructor
  have isn : isNone (.d (optNat (badM ts))) = (badM ts).isNone := by cases badM ts <;> rfl
  refine same_q (pn _) ?_
  simp
  refine is_run_q hl h fun gb2 => ?_
  simp [pyIs, isB, isn]
  refine same_q (.bool) ?_
  have := q (gb ++ gb2)
  rw [← List.append_assoc] at this
  simpa using this
/-! ## the first bad place, walked -/
end
end PK
end
section
set_option Elab.async false
set_option linter.all false
set_option maxRecDepth 100000
set_option maxHeartbeats 1000000
set_option autoImplicit false
namespace Ev
open PySem PySem.Spec PyProof.Rows L2
def rng2O : List W → Option Its
  | [.d (.int i), .d (.int j)] => if -(2 ^ 62) ≤ i ∧ i < 2 ^ 62 ∧ -(2 ^ 62) ≤ j ∧ j < 2 ^ 62 then some (rangeL i (j - i).toNat, always) else none
  | _ => none
theorem rng2O_nat (i j : Nat) (hi : i < 100000) (hj : j < 100000) : rng2O [.d (.int (i : Int)), .d (.int (j : Int))] = some (rangeL (i : Int) (j - i), always) := by
  unfold rng2O
  dsimp only
  rw [if_pos ⟨by omega, by omega, by omega, by omega⟩]
  have : ((j : Int) - (i : Int)).toNat = j - i := by omega
  rw [this]
@[simp ↓] theorem r_range2 {ρ : Env} {st : Sto} {fs : Env → M (List W)} {kq : Its → Sto → Prop} {ke : Ex → Sto → Prop} : @qM _ (range2 fs ρ) st ⟨kq, ke⟩ = @qM _ (fs ρ) st ⟨fun ws s => @qO _ (rng2O ws) ⟨fun p => kq p s⟩, ke⟩ := by
  have : range2 fs ρ = bnd (fs ρ) fun ws => liftO fun _ => rng2O ws := by
    unfold range2
    congr 1
  rw [this]
  refine q_bnd.trans ?_
  unfold qM
  congr 1
  funext ws s
  unfold wpM liftO
  dsimp only
  cases rng2O ws <;> rfl
end Ev
namespace PK
open PySem PySem.Spec PyProof.Rows L2 Ev
open Py (py)
open Keyed (key)
section
variable {T : List (Addr × Str)} {j : Nat} {st : Sto} {K : Kt W}
theorem badB_q {row done rest : List Tr} (e : row = done ++ rest) (hl : row.length ≤ 200) (R : IsRun done) (q : ∀ gb, K.q (.d (optNat (badF done rest))) (st ++ gb)) : @qM W (f__law_bad [W.d (.tuple (row.map py)), .d (.int (done.length : Int))]) st K := by
  unfold f__law_bad b__law_bad
  have hlen : row.length = done.length + rest.length := by rw [e, List.length_append]
  have rg := rng2O_nat done.length row.length (by omega) (by omega)
  have rr : row.length - done.length = rest.length := by omega
  rw [rr] at rg
  simp [rg]
  unfold rangeL
  rw [List.range_eq_range']
  refine q_loopI (fun i : Nat => PyData.int ((done.length : Int) + (i : Int))) (fun r ρ s => ∃ (d1 r1 : List Tr) (y2 : Option Sl) (gb : Sto), rest = d1 ++ r1 ∧ r = List.range' d1.length r1.length ∧ s = st ++ gb ∧ ρ = [some (.w (.d (.tuple (row.map py)))), some (.w (.d (.int (done.length : Int)))), y2] ∧ IsRun (done ++ d1) ∧ badF (done ++ d1) r1 = badF done rest) _
    ⟨[], rest, _, [], rfl, rfl, by simp, rfl, by simpa using R, by simp⟩ (fun p r ρ s hi => ?_) (fun ρ s hi => ?_)
  · obtain ⟨d1, r1, y2, gb, e1, e2, rfl, rfl, R1, hb⟩ := hi
    cases r1 with
    | nil => cases e2
    | cons p1 r1 =>
      rw [List.length_cons, List.range'_succ] at e2
      injection e2 with e2 e3
      subst e2 e3
      refine ⟨_, rfl, ?_⟩
      obtain ⟨pre, hpre⟩ : ∃ pre, pre = done ++ d1 := ⟨_, rfl⟩
      have hrow : row = pre ++ p1 :: r1 := by rw [e, e1, hpre, List.append_assoc]
      have hpl : pre.length = done.length + d1.length := by rw [hpre, List.length_append]
      have hz : (done.length : Int) + (d1.length : Int) = (pre.length : Int) := by rw [hpl]; simp
      have ix : ixD (.tuple (row.map py)) (pre.length : Int) = some (py p1) := by
        show atI (row.map py) (pre.length : Int) = _
        rw [Ev.atI_nat, hrow]; simp
      have cu : cutL (row.map py) none (some (pre.length : Int)) = pre.map py := by
        rw [cut_take', ← List.map_take, hrow]; simp
      obtain ⟨t, d⟩ := p1
      rw [← hpre] at R1 hb
      obtain ⟨M, B⟩ := R1.back
      have hle : pre.length ≤ 200 := by rw [hrow, List.length_append] at hl; omega
      simp [hz, ix, cu, py_wd, py_de]
      refine letsB_q t d hle B.wk fun gb2 => ?_
      cases hlt : letsB pre t d with
      | true =>
        simp
        have hstep : badF pre ((t, d) :: r1) = badF (pre ++ [(t, d)]) r1 := by rw [badF, if_pos hlt]
        refine ⟨d1 ++ [(t, d)], r1, by rw [e1]; simp, by simp, ?_, ?_⟩
        · have := IsRun.step (p := (t, d)) R1 hlt
          rw [hpre] at this
          simpa using this
        · rw [← hb, hstep, hpre]; simp
      | false =>
        simp
        have hstep : badF pre ((t, d) :: r1) = some pre.length := by rw [badF, if_neg (by show ¬ letsB pre t d = true; rw [hlt]; decide)]
        have := q (gb ++ gb2)
        rw [← hb, hstep, ← List.append_assoc] at this
        simpa [optNat, hpl] using this
  · obtain ⟨d1, r1, y2, gb, e1, e2, rfl, rfl, R1, hb⟩ := hi
    cases r1 with
    | cons p1 r1 => cases e2
    | nil =>
      have := q gb
      rw [← hb] at this
      simp
      exact this
end
end PK
end
section
set_option Elab.async false
set_option linter.all false
set_option maxRecDepth 100000
set_option maxHeartbeats 2000000
set_option autoImplicit false
namespace PK
open PySem PySem.Spec PyProof.Rows L2 Ev
open Py (py)
open Keyed (key)
section
variable {T : List (Addr × Str)} {j : Nat} {st : Sto} {K : Kt W} {ps : List Wd}
def InP (ps : List Wd) (p : Tr) : Prop := p.1 ∈ wRoot :: ps ∧ ∀ x, p.2 = .bg x → x ∈ wRoot :: ps
theorem any_q (ok : Ok T j st) (hp : ps.length = 7) (q : ∀ (p : Tr) st', InP ps p → Ok T j st' → K.q (.d (py p)) st') : @qM W (f__law_any [W.r j, .d (.list (ps.map py))]) st K := by
  unfold f__law_any b__law_any
  have a1 : addD (.list [.str ("root" : Str)]) (.list (ps.map py)) = some (.list (.str ("root" : Str) :: ps.map py)) := by
    rw [addD_lst (by rw [List.length_map, sizeLine_eq]; simp; omega)]; rfl
  have a2 : addD (.list (ps.map py)) (.list [.str ("root" : Str)]) = some (.list (ps.map py ++ [.str ("root" : Str)])) := by
    rw [addD_lst (by rw [List.length_map, sizeLine_eq]; simp; omega)]
  have c3 : cutL (ps.map py) none (some 3) = (ps.take 3).map py := by
    have := cut_take' (ps.map py) 3
    rw [← List.map_take] at this
    exact this
  have ad0 : ∀ a b : PyData, addD (.tuple [a, b]) (.tuple []) = some (.tuple [a, b]) := fun a b => by rw [addD_tup (by rw [sizeLine_eq]; simp)]; rfl
  have ad1 : ∀ a b c : PyData, addD (.tuple [a, b]) (.tuple [c]) = some (.tuple [a, b, c]) := fun a b c => by rw [addD_tup (by rw [sizeLine_eq]; simp)]; rfl
  have ma : ps.map py ++ [PyData.str ("root" : Str)] = (ps ++ [wRoot]).map py := by rw [List.map_append]; rfl
  have p0 : wRoot :: ps ≠ [] := nofun
  have n0 : ps ++ [wRoot] ≠ [] := by simp
  have t0 : ps.take 3 ≠ [] := fun h => by
    have := congrArg List.length h
    rw [List.length_take, hp] at this
    cases this
  have tl : (ps.take 3).length < 1000 := by rw [List.length_take]; omega
  simp [a1]
  refine some_py (zs := wRoot :: ps) ok p0 (by simp; omega) fun t s1 ht ok1 => ?_
  simp [c3, py_wd, -List.map_take]
  refine some_py ok1 t0 tl fun x s2 hx ok2 => ?_
  simp [py_wd]
  refine some_q ok2 (by simp) (by simp) fun w s3 hw ok3 => ?_
  simp only [List.mem_cons, List.not_mem_nil, or_false] at hw
  have nb : ∀ d : De, isBg d = false → InP ps (t, d) := fun d hd => ⟨ht, fun y e => by have e : d = .bg y := e; rw [e] at hd; cases hd⟩
  rcases hw with rfl | rfl | rfl | rfl | rfl | rfl | rfl | rfl | rfl | rfl | rfl | rfl
  · simp
    refine value_q ok3 fun v s4 ok4 => ?_
    simp
    exact q (t, .rd x v) _ (nb _ rfl) ok4
  · simp
    refine value_q ok3 fun v s4 ok4 => ?_
    simp
    exact q (t, .wr x v) _ (nb _ rfl) ok4
  · simp [ad0]
    exact q (t, .tk x) _ (nb _ rfl) ok3
  · simp [ad0]
    exact q (t, .gv x) _ (nb _ rfl) ok3
  · simp [a2]
    rw [ma]
    refine some_py (zs := ps ++ [wRoot]) ok3 n0 (by simp; omega) fun y s4 hy ok4 => ?_
    simp [py_wd]
    exact q (t, .bg y) _ ⟨ht, fun z e => by
      injection e with e
      subst e
      rcases List.mem_append.mp hy with h | h
      · exact List.mem_cons_of_mem _ h
      · rw [List.mem_singleton.mp h]; exact List.mem_cons_self⟩ ok4
  · simp [a2]
    rw [ma]
    refine some_py (zs := ps ++ [wRoot]) ok3 n0 (by simp; omega) fun y s4 hy ok4 => ?_
    simp [py_wd]
    exact q (t, .aw y) _ (nb _ rfl) ok4
  · simp
    refine value_q ok3 fun v s4 ok4 => ?_
    simp
    exact q (t, .sd x v) _ (nb _ rfl) ok4
  · simp
    refine value_q ok3 fun v s4 ok4 => ?_
    simp
    exact q (t, .gt x v) _ (nb _ rfl) ok4
  · simp [c3, -List.map_take]
    refine some_py ok3 t0 tl fun y s4 hy ok4 => ?_
    simp [py_wd, ad1]
    exact q (t, .wt x y) _ (nb _ rfl) ok4
  · simp [ad0]
    exact q (t, .wn x) _ (nb _ rfl) ok3
  · simp [ad0]
    exact q (t, .wk x) _ (nb _ rfl) ok3
  · simp
    exact q (t, .nd) _ (nb _ rfl) ok3
end
end PK
end
section
set_option Elab.async false
set_option linter.all false
set_option maxRecDepth 100000
set_option maxHeartbeats 2000000
set_option autoImplicit false
namespace PK
open PySem PySem.Spec PyProof.Rows L2 Ev
open Py (py)
open Keyed (key)
theorem cut_ab {α : Type} (xs : List α) (a b : Nat) : cutL xs (some (a : Int)) (some (b : Int)) = (xs.drop a).take (b - a) := by
  unfold cutL
  rw [HT.sIx_nat, HT.sIx_nat]
  by_cases ha : a ≤ xs.length
  · rw [Nat.min_eq_left ha]
    by_cases hb : b ≤ xs.length
    · rw [Nat.min_eq_left hb]
    · rw [Nat.min_eq_right (by omega : xs.length ≤ b), List.take_of_length_le (by rw [List.length_drop]; exact Nat.le_refl _), List.take_of_length_le (by rw [List.length_drop]; omega)]
  · rw [Nat.min_eq_right (by omega : xs.length ≤ a), List.drop_length, List.take_nil, List.drop_eq_nil_of_le (by omega : xs.length ≤ a), List.take_nil]
section
variable {T : List (Addr × Str)} {j : Nat} {st : Sto} {K : Kt W} {ps : List Wd}
theorem addT (a b : List Tr) (ha : a.length ≤ 1000) (hb : b.length ≤ 1000) : addD (.tuple (a.map py)) (.tuple (b.map py)) = some (.tuple ((a ++ b).map py)) := by
  rw [addD_tup (by rw [List.length_map, List.length_map, sizeLine_eq]; omega), List.map_append]
theorem changed_q (ok : Ok T j st) (hp : ps.length = 7) {row : List Tr} {n : Nat} (hn : n ≤ row.length) (hr : row.length ≤ 100) (hi : ∀ p ∈ row, InP ps p)
    (q : ∀ (rest : List Tr) st', (∀ p ∈ rest, InP ps p) → (row.take n ++ rest).length ≤ row.length + 1 → Ok T j st' → K.q (.d (.tuple ((row.take n ++ rest).map py))) st') :
    @qM W (f__law_changed [W.r j, .d (.list (ps.map py)), .d (.tuple (row.map py)), .d (.int (n : Int))]) st K := by
  unfold f__law_changed b__law_changed
  simp
  refine any_q ok hp fun p s1 hpi ok1 => ?_
  simp
  refine roll_n ok1 (by decide) (by decide) fun v s2 hv ok2 => ?_
  have dl : ∀ k, (row.drop k).length = row.length - k := fun k => List.length_drop
  have md : ∀ k, ∀ p ∈ row.drop k, InP ps p := fun k p h => hi p (List.mem_of_mem_drop h)
  have mt : ∀ k m, ∀ p ∈ (row.drop k).take m, InP ps p := fun k m p h => md k p (List.mem_of_mem_take h)
  have tl : (row.take n).length = n := by rw [List.length_take]; omega
  obtain ⟨A, hA⟩ : ∃ A, A = row.take n := ⟨_, rfl⟩
  obtain ⟨B1, hB1⟩ : ∃ B, B = row.drop (n + 1) := ⟨_, rfl⟩
  obtain ⟨B2, hB2⟩ : ∃ B, B = row.drop (n + 2) := ⟨_, rfl⟩
  obtain ⟨C0, hC0⟩ : ∃ B, B = (row.drop n).take 1 := ⟨_, rfl⟩
  obtain ⟨C1, hC1⟩ : ∃ B, B = (row.drop (n + 1)).take 1 := ⟨_, rfl⟩
  obtain ⟨C2, hC2⟩ : ∃ B, B = (row.drop n).take 2 := ⟨_, rfl⟩
  have k1 : cutL (row.map py) none (some (n : Int)) = A.map py := by rw [cut_take', hA, List.map_take]
  have k2 : cutL (row.map py) (some ((n : Int) + 1)) none = B1.map py := by
    have := cut_drop' (row.map py) (n + 1)
    rw [← List.map_drop, ← hB1] at this
    exact this
  have k3 : cutL (row.map py) (some ((n : Int) + 2)) none = B2.map py := by
    have := cut_drop' (row.map py) (n + 2)
    rw [← List.map_drop, ← hB2] at this
    exact this
  have k4 : cutL (row.map py) (some ((n : Int) + 1)) (some ((n : Int) + 2)) = C1.map py := by
    have := cut_ab (row.map py) (n + 1) (n + 2)
    rw [show n + 2 - (n + 1) = 1 by omega, ← List.map_drop, ← List.map_take, ← hC1] at this
    exact this
  have k5 : cutL (row.map py) (some (n : Int)) (some ((n : Int) + 1)) = C0.map py := by
    have := cut_ab (row.map py) n (n + 1)
    rw [show n + 1 - n = 1 by omega, ← List.map_drop, ← List.map_take, ← hC0] at this
    exact this
  have k6 : cutL (row.map py) (some (n : Int)) (some ((n : Int) + 2)) = C2.map py := by
    have := cut_ab (row.map py) n (n + 2)
    rw [show n + 2 - n = 2 by omega, ← List.map_drop, ← List.map_take, ← hC2] at this
    exact this
  have lB1 : B1.length = row.length - (n + 1) := by rw [hB1, dl]
  have lB2 : B2.length = row.length - (n + 2) := by rw [hB2, dl]
  have lC0 : C0.length = min 1 (row.length - n) := by rw [hC0, List.length_take, dl]
  have lC1 : C1.length = min 1 (row.length - (n + 1)) := by rw [hC1, List.length_take, dl]
  have lC2 : C2.length = min 2 (row.length - n) := by rw [hC2, List.length_take, dl]
  have iB1 : ∀ p ∈ B1, InP ps p := hB1 ▸ md _
  have iB2 : ∀ p ∈ B2, InP ps p := hB2 ▸ md _
  have iC0 : ∀ p ∈ C0, InP ps p := hC0 ▸ mt _ _
  have iC1 : ∀ p ∈ C1, InP ps p := hC1 ▸ mt _ _
  have iC2 : ∀ p ∈ C2, InP ps p := hC2 ▸ mt _ _
  rw [← hA] at q tl
  have mm : ∀ (a b : List Tr), (∀ p ∈ a, InP ps p) → (∀ p ∈ b, InP ps p) → ∀ p ∈ a ++ b, InP ps p := fun a b ha hb p h => (List.mem_append.mp h).elim (ha p) (hb p)
  have m1 : ∀ x ∈ [p], InP ps x := fun x h => by rw [List.mem_singleton.mp h]; exact hpi
  have q0 := fun h1 h2 => q ([p] ++ B1) s2 h1 h2 ok2
  have q1 := fun h1 h2 => q B1 s2 h1 h2 ok2
  have q2 := fun h1 h2 => q (C1 ++ C0 ++ B2) s2 h1 h2 ok2
  have q3 := fun h1 h2 => q ([p] ++ C2 ++ B2) s2 h1 h2 ok2
  have g0 : addD (.tuple (A.map py)) (.tuple [py p]) = some (.tuple ((A ++ [p]).map py)) := addT A [p] (by omega) (by simp)
  have g1 : addD (.tuple ((A ++ [p]).map py)) (.tuple (B1.map py)) = some (.tuple ((A ++ ([p] ++ B1)).map py)) := by rw [addT _ _ (by first | omega | (simp; omega)) (by first | omega | (simp; omega)), List.append_assoc]
  have g2 : addD (.tuple (A.map py)) (.tuple (B1.map py)) = some (.tuple ((A ++ B1).map py)) := addT _ _ (by omega) (by omega)
  have g3 : addD (.tuple (C1.map py)) (.tuple (C0.map py)) = some (.tuple ((C1 ++ C0).map py)) := addT _ _ (by omega) (by omega)
  have g4 : addD (.tuple (A.map py)) (.tuple ((C1 ++ C0).map py)) = some (.tuple ((A ++ (C1 ++ C0)).map py)) := addT _ _ (by omega) (by simp; omega)
  have g5 : addD (.tuple ((A ++ (C1 ++ C0)).map py)) (.tuple (B2.map py)) = some (.tuple ((A ++ (C1 ++ C0 ++ B2)).map py)) := by rw [addT _ _ (by first | omega | (simp; omega)) (by first | omega | (simp; omega)), List.append_assoc]
  have g6 : addD (.tuple [py p]) (.tuple (C2.map py)) = some (.tuple (([p] ++ C2).map py)) := addT [p] _ (by simp) (by omega)
  have g7 : addD (.tuple (A.map py)) (.tuple (py p :: C2.map py)) = some (.tuple ((A ++ ([p] ++ C2)).map py)) := addT A ([p] ++ C2) (by omega) (by simp; omega)
  have g8 : addD (.tuple ((A ++ ([p] ++ C2)).map py)) (.tuple (B2.map py)) = some (.tuple ((A ++ ([p] ++ C2 ++ B2)).map py)) := by rw [addT _ _ (by first | omega | (simp; omega)) (by first | omega | (simp; omega)), List.append_assoc]
  have hv' : v = 0 ∨ v = 1 ∨ v = 2 ∨ v = 3 := by omega
  clear hA hB1 hB2 hC0 hC1 hC2
  rcases hv' with rfl | rfl | rfl | rfl
  · simp [k1, k2]
    rw [g0]
    simp [k1, k2, k3, k4, k5, k6, -List.map_append]
    rw [g1]
    simp [k1, k2, k3, k4, k5, k6, -List.map_append]
    exact q0 (mm _ _ m1 iB1) (by simp; omega)
  · simp [k1, k2]
    rw [g2]
    simp [k1, k2, k3, k4, k5, k6, -List.map_append]
    exact q1 iB1 (by simp; omega)
  · simp [k1, k3, k4, k5]
    rw [g3]
    simp [k1, k2, k3, k4, k5, k6, -List.map_append]
    rw [g4]
    simp [k1, k2, k3, k4, k5, k6, -List.map_append]
    rw [g5]
    simp [k1, k2, k3, k4, k5, k6, -List.map_append]
    have := q2 (mm _ _ (mm _ _ iC1 iC0) iB2) (by simp; omega)
    simpa using this
  · simp [k1, k3, k6]
    rw [g6]
    simp [k1, k2, k3, k4, k5, k6, -List.map_append]
    rw [g7]
    simp [k1, k2, k3, k4, k5, k6, -List.map_append]
    have g9 : addD (.tuple ((A ++ p :: C2).map py)) (.tuple (B2.map py)) = some (.tuple ((A ++ ([p] ++ C2 ++ B2)).map py)) := g8
    rw [g9]
    simp [k1, k2, k3, k4, k5, k6, -List.map_append]
    have := q3 (mm _ _ (mm _ _ m1 iC2) iB2) (by simp; omega)
    simpa using this
end
end PK
end
section
set_option Elab.async false
set_option linter.all false
set_option maxRecDepth 100000
set_option maxHeartbeats 2000000
set_option autoImplicit false
namespace Ev
open PySem PySem.Spec PyProof.Rows L2
/-- a comprehension whose test leaves waste behind -/
theorem comp_grow {α : Type} {ρ : Env} {vs : List Nat} {asg : As} {gt : Env → M Bool} {fe : Env → M W} {K : Kt (List W)} (g v : α → PyData) (p : α → Bool) : ∀ (l : List α) (acc : List W) (st : Sto),
    (∀ a ∈ l, ∃ ρ1, asg (g a) (wipeE ρ vs) = some ρ1 ∧ (∀ st, @qM _ (gt ρ1) st ⟨fun b s => b = p a ∧ ∃ gb, s = st ++ gb, fun _ _ => False⟩) ∧ (p a = true → ∀ st, fe ρ1 st = .ok (.d (v a)) st)) →
    (∀ gb, K.q (acc ++ ((l.filter p).map v).map .d) (st ++ gb)) → @qM _ (compL always vs asg gt fe ρ (l.map g) acc) st K
  | [], acc, st, _, hq => by
    rw [List.map_nil, q_comp_nil]
    simpa using hq []
  | a :: l, acc, st, hs, hq => by
    obtain ⟨ρ1, h1, h2, h3⟩ := hs a List.mem_cons_self
    rw [List.map_cons, q_comp_cons, h1, qO_some]
    refine wpM_mono (h2 st) (fun b s hb => ?_) fun _ _ h => h
    obtain ⟨rfl, gb, rfl⟩ := hb
    dsimp only
    cases hp : p a with
    | true =>
      rw [qB_true]
      refine (wpM_eq (h3 hp _)).mpr ?_
      refine comp_grow g v p l _ _ (fun b hb => hs b (List.mem_cons_of_mem _ hb)) fun gb2 => ?_
      have := hq (gb ++ gb2)
      rw [List.filter_cons_of_pos hp] at this
      simpa using this
    | false =>
      rw [qB_false]
      refine comp_grow g v p l _ _ (fun b hb => hs b (List.mem_cons_of_mem _ hb)) fun gb2 => ?_
      have := hq (gb ++ gb2)
      rw [List.filter_cons_of_neg (by rw [hp]; decide)] at this
      simpa using this
theorem lc_grow {α : Type} {ρ : Env} {vs : List Nat} {asg : As} {gt : Env → M Bool} {fe : Env → M W} {K : Kt W} {E : Ex → Sto → Prop} {st : Sto} (g v : α → PyData) (p : α → Bool) (l : List α)
    (hs : ∀ a ∈ l, ∃ ρ1, asg (g a) (wipeE ρ vs) = some ρ1 ∧ (∀ st, @qM _ (gt ρ1) st ⟨fun b s => b = p a ∧ ∃ gb, s = st ++ gb, fun _ _ => False⟩) ∧ (p a = true → ∀ st, fe ρ1 st = .ok (.d (v a)) st)) (hq : ∀ gb, K.q (.d (.list ((l.filter p).map v))) (st ++ gb)) :
    @qM _ (compL always vs asg gt fe ρ (l.map g) []) st ⟨fun ws s => @qM W (asData ws) s K, E⟩ := by
  refine comp_grow g v p l [] st hs fun gb => ?_
  show @qM W (asData _) _ K
  rw [List.nil_append, q_asData, allD_mapd, qO_some]
  exact hq gb
end Ev
namespace PK
open PySem PySem.Spec PyProof.Rows L2 Ev
open Py (py)
open Keyed (key)
section
variable {T : List (Addr × Str)} {j : Nat} {st : Sto} {K : Kt W} {ps : List Wd}
def wdsM : List Str := ["read", "write", "take", "give", "begin", "await", "send", "get", "wait", "wake", "end"]
theorem begun_in {row : List Tr} (hi : ∀ p ∈ row, InP ps p) : ∀ t ∈ begunB row, t ∈ wRoot :: ps := fun t ht => by
  unfold begunB at ht
  rcases List.mem_cons.mp ht with rfl | ht
  · exact List.mem_cons_self
  · obtain ⟨p, hp, e⟩ := List.mem_filterMap.mp ht
    obtain ⟨z, d⟩ := p
    cases d <;> first | (cases e; done) | skip
    rename_i x
    cases e
    exact (hi _ hp).2 t rfl
theorem move_q (ok : Ok T j st) (hp : ps.length = 7) {row : List Tr} (hr : row.length ≤ 100) (hi : ∀ p ∈ row, InP ps p) (hw : wkOk no row) {ws : List Str} (w0 : ws ≠ []) (wl : ws.length < 1000) (wm : ∀ w ∈ ws, w ∈ wdsM)
    (q : ∀ (p : Tr) st', InP ps p → Ok T j st' → K.q (.d (py p)) st') : @qM W (f__law_move [W.r j, .d (.list (ps.map py)), .d (.tuple (row.map py)), .d (.list (ws.map .str))]) st K := by
  unfold f__law_move b__law_move
  have hl : row.length ≤ 200 := by omega
  have hb := begun_in hi
  have bl : (begunB row).length ≤ 101 := by
    have : (row.filterMap bgOf).length ≤ row.length := List.length_filterMap_le _ _
    unfold begunB; rw [List.length_cons]; omega
  have b0 : begunB row ≠ [] := nofun
  have c2 : cutL (ps.map py) none (some 2) = (ps.take 2).map py := by
    have := cut_take' (ps.map py) 2
    rw [← List.map_take] at this
    exact this
  have c3 : cutL (ps.map py) none (some 3) = (ps.take 3).map py := by
    have := cut_take' (ps.map py) 3
    rw [← List.map_take] at this
    exact this
  have l2 : (ps.take 2).length = 2 := by rw [List.length_take]; omega
  have l3 : (ps.take 3).length = 3 := by rw [List.length_take]; omega
  have t2 : ps.take 2 ≠ [] := fun h => by rw [h] at l2; cases l2
  have t3 : ps.take 3 ≠ [] := fun h => by rw [h] at l3; cases l3
  simp
  refine begunB_q hl ?_
  simp
  refine some_py ok b0 (by omega) fun t s1 ht ok1 => ?_
  simp [py_wd]
  refine some_q ok1 (by simpa using w0) (by simp; omega) fun w s2 hw2 ok2 => ?_
  obtain ⟨wd, hwd, rfl⟩ := List.mem_map.mp hw2
  have hwd := wm wd hwd
  simp [c2, -List.map_take]
  refine some_py ok2 t2 (by omega) fun x s3 hx ok3 => ?_
  simp [py_wd]
  refine ownB_q t hl ?_
  have ht2 := hb t ht
  have nb : ∀ d : De, isBg d = false → InP ps (t, d) := fun d hd => ⟨ht2, fun y e => by have e : d = .bg y := e; rw [e] at hd; cases hd⟩
  simp [ne_nil_D]
  have p0 : ps ≠ [] := fun h => by rw [h] at hp; cases hp
  obtain ⟨F, hF⟩ : ∃ F, F = (ps.take 3).filter fun y => decide (holderB row y = some t) := ⟨_, rfl⟩
  have lf : F.length ≤ 3 := by
    have := List.length_filter_le (fun y => decide (holderB row y = some t)) (ps.take 3)
    rw [← hF] at this; omega
  have lk : addD (.list (F.map py)) (.list [.str x.1]) = some (.list (F.map py ++ [.str x.1])) := by
    rw [addD_lst (by rw [List.length_map, sizeLine_eq]; simp; omega)]
  have mx : F.map py ++ [PyData.str x.1] = (F ++ [x]).map py := by rw [List.map_append]; rfl
  have ll : (lettersB row x).length ≤ 100 := by
    unfold lettersB
    rw [List.length_drop]
    have : (row.filterMap (sdOf x)).length ≤ row.length := List.length_filterMap_le _ _
    omega
  have gt0 : addD (.list ((lettersB row x).map py)) (.list [.int 0]) = some (.list ((lettersB row x).map py ++ [.int 0])) := by
    rw [addD_lst (by rw [List.length_map, sizeLine_eq]; simp; omega)]
  have gt1 : ixD (.list ((lettersB row x).map py ++ [.int 0])) 0 = some (.int ((lettersB row x).headD va0).1) := by
    show atI _ 0 = _
    rw [Ev.atI_0]
    cases lettersB row x <;> rfl
  rcases own_cases (ownB row t) with e | ⟨l, b, e, hbw⟩ | ⟨l, c, k, e⟩
  rotate_left 2
  · have b0 : ixD (De.wt c k).py 0 = some (.str ("wait" : Str)) := rfl
    have b1 : ixD (De.wt c k).py 1 = some (.str c.1) := rfl
    have he : (l ++ [De.wt c k]).isEmpty = false := by simp
    rw [e]
    simp [he, b0, b1]
    exact q (t, .wn c) _ (nb _ rfl) ok3
  · rw [e]
    simp
    simp only [wdsM, List.mem_cons, List.not_mem_nil, or_false] at hwd
    rcases hwd with rfl | rfl | rfl | rfl | rfl | rfl | rfl | rfl | rfl | rfl | rfl
    · simp
      refine worthB_q x hl ?_
      simp
      exact q (t, .rd x (worthB row x)) _ (nb _ rfl) ok3
    · simp
      refine value_q ok3 fun v s4 ok4 => ?_
      simp
      exact q (t, .wr x v) _ (nb _ rfl) ok4
    · simp [c3, -List.map_take]
      refine some_py ok3 t3 (by omega) fun y s4 hy ok4 => ?_
      simp [py_wd]
      exact q (t, .tk y) _ (nb _ rfl) ok4
    · simp [c3, l3, -List.map_take]
      refine lc_grow py py (fun y => decide (holderB row y = some t)) (ps.take 3) (fun y hy => ⟨_, rfl, fun st => ?_, fun _ st => ?_⟩) fun gb => ?_
      · simp [py_wd]
        refine holderB_q y hl hw fun gb => ?_
        simp [opt_eq]
      · apply fe_of; simp
      have ok3' := ok3.app gb
      rw [← hF]
      simp [lk]
      rw [mx]
      refine some_py (zs := F ++ [x]) ok3' (by simp) (by rw [List.length_append]; simp; omega) fun y s4 hy ok4 => ?_
      simp [py_wd]
      exact q (t, .gv y) _ (nb _ rfl) ok4
    · simp
      refine some_py ok3 p0 (by omega) fun y s4 hy ok4 => ?_
      simp [py_wd]
      exact q (t, .bg y) _ ⟨ht2, fun z e => by
        injection e with e
        subst e
        exact List.mem_cons_of_mem _ hy⟩ ok4
    · simp
      refine begunB_q hl ?_
      simp
      refine some_py ok3 b0 (by omega) fun y s4 hy ok4 => ?_
      simp [py_wd]
      exact q (t, .aw y) _ (nb _ rfl) ok4
    · simp
      refine value_q ok3 fun v s4 ok4 => ?_
      simp
      exact q (t, .sd x v) _ (nb _ rfl) ok4
    · simp
      refine lettersB_q x hl ?_
      simp [gt0, gt1]
      exact q (t, .gt x ((lettersB row x).head?.getD va0)) _ (nb _ rfl) ok3
    · simp [c3, l3, -List.map_take]
      refine lc_grow py py (fun y => decide (holderB row y = some t)) (ps.take 3) (fun y hy => ⟨_, rfl, fun st => ?_, fun _ st => ?_⟩) fun gb => ?_
      · simp [py_wd]
        refine holderB_q y hl hw fun gb => ?_
        simp [opt_eq]
      · apply fe_of; simp
      have ok3' := ok3.app gb
      rw [← hF]
      simp [lk]
      rw [mx]
      refine some_py (zs := F ++ [x]) ok3' (by simp) (by rw [List.length_append]; simp; omega) fun y s4 hy ok4 => ?_
      simp [py_wd]
      exact q (t, .wt x y) _ (nb _ rfl) ok4
    · simp [c3, l3, -List.map_take]
      refine lc_grow py py (fun y => decide (holderB row y = some t)) (ps.take 3) (fun y hy => ⟨_, rfl, fun st => ?_, fun _ st => ?_⟩) fun gb => ?_
      · simp [py_wd]
        refine holderB_q y hl hw fun gb => ?_
        simp [opt_eq]
      · apply fe_of; simp
      have ok3' := ok3.app gb
      rw [← hF]
      simp [lk]
      rw [mx]
      refine some_py (zs := F ++ [x]) ok3' (by simp) (by rw [List.length_append]; simp; omega) fun y s4 hy ok4 => ?_
      simp [py_wd]
      exact q (t, .wk x) _ (nb _ rfl) ok4
    · simp [c3, l3, -List.map_take]
      refine lc_grow py py (fun y => decide (holderB row y = some t)) (ps.take 3) (fun y hy => ⟨_, rfl, fun st => ?_, fun _ st => ?_⟩) fun gb => ?_
      · simp [py_wd]
        refine holderB_q y hl hw fun gb => ?_
        simp [opt_eq]
      · apply fe_of; simp
      have ok3' := ok3.app gb
      rw [← hF]
      simp [lk]
      rw [mx]
      refine some_py (zs := F ++ [x]) ok3' (by simp) (by rw [List.length_append]; simp; omega) fun y s4 hy ok4 => ?_
      simp [py_wd]
      exact q (t, .nd) _ (nb _ rfl) ok4
  · rw [e]
    have he : (l ++ [b]).isEmpty = false := by simp
    simp [he, hbw]
    simp only [wdsM, List.mem_cons, List.not_mem_nil, or_false] at hwd
    rcases hwd with rfl | rfl | rfl | rfl | rfl | rfl | rfl | rfl | rfl | rfl | rfl
    · simp
      refine worthB_q x hl ?_
      simp
      exact q (t, .rd x (worthB row x)) _ (nb _ rfl) ok3
    · simp
      refine value_q ok3 fun v s4 ok4 => ?_
      simp
      exact q (t, .wr x v) _ (nb _ rfl) ok4
    · simp [c3, -List.map_take]
      refine some_py ok3 t3 (by omega) fun y s4 hy ok4 => ?_
      simp [py_wd]
      exact q (t, .tk y) _ (nb _ rfl) ok4
    · simp [c3, l3, -List.map_take]
      refine lc_grow py py (fun y => decide (holderB row y = some t)) (ps.take 3) (fun y hy => ⟨_, rfl, fun st => ?_, fun _ st => ?_⟩) fun gb => ?_
      · simp [py_wd]
        refine holderB_q y hl hw fun gb => ?_
        simp [opt_eq]
      · apply fe_of; simp
      have ok3' := ok3.app gb
      rw [← hF]
      simp [lk]
      rw [mx]
      refine some_py (zs := F ++ [x]) ok3' (by simp) (by rw [List.length_append]; simp; omega) fun y s4 hy ok4 => ?_
      simp [py_wd]
      exact q (t, .gv y) _ (nb _ rfl) ok4
    · simp
      refine some_py ok3 p0 (by omega) fun y s4 hy ok4 => ?_
      simp [py_wd]
      exact q (t, .bg y) _ ⟨ht2, fun z e => by
        injection e with e
        subst e
        exact List.mem_cons_of_mem _ hy⟩ ok4
    · simp
      refine begunB_q hl ?_
      simp
      refine some_py ok3 b0 (by omega) fun y s4 hy ok4 => ?_
      simp [py_wd]
      exact q (t, .aw y) _ (nb _ rfl) ok4
    · simp
      refine value_q ok3 fun v s4 ok4 => ?_
      simp
      exact q (t, .sd x v) _ (nb _ rfl) ok4
    · simp
      refine lettersB_q x hl ?_
      simp [gt0, gt1]
      exact q (t, .gt x ((lettersB row x).head?.getD va0)) _ (nb _ rfl) ok3
    · simp [c3, l3, -List.map_take]
      refine lc_grow py py (fun y => decide (holderB row y = some t)) (ps.take 3) (fun y hy => ⟨_, rfl, fun st => ?_, fun _ st => ?_⟩) fun gb => ?_
      · simp [py_wd]
        refine holderB_q y hl hw fun gb => ?_
        simp [opt_eq]
      · apply fe_of; simp
      have ok3' := ok3.app gb
      rw [← hF]
      simp [lk]
      rw [mx]
      refine some_py (zs := F ++ [x]) ok3' (by simp) (by rw [List.length_append]; simp; omega) fun y s4 hy ok4 => ?_
      simp [py_wd]
      exact q (t, .wt x y) _ (nb _ rfl) ok4
    · simp [c3, l3, -List.map_take]
      refine lc_grow py py (fun y => decide (holderB row y = some t)) (ps.take 3) (fun y hy => ⟨_, rfl, fun st => ?_, fun _ st => ?_⟩) fun gb => ?_
      · simp [py_wd]
        refine holderB_q y hl hw fun gb => ?_
        simp [opt_eq]
      · apply fe_of; simp
      have ok3' := ok3.app gb
      rw [← hF]
      simp [lk]
      rw [mx]
      refine some_py (zs := F ++ [x]) ok3' (by simp) (by rw [List.length_append]; simp; omega) fun y s4 hy ok4 => ?_
      simp [py_wd]
      exact q (t, .wk x) _ (nb _ rfl) ok4
    · simp [c3, l3, -List.map_take]
      refine lc_grow py py (fun y => decide (holderB row y = some t)) (ps.take 3) (fun y hy => ⟨_, rfl, fun st => ?_, fun _ st => ?_⟩) fun gb => ?_
      · simp [py_wd]
        refine holderB_q y hl hw fun gb => ?_
        simp [opt_eq]
      · apply fe_of; simp
      have ok3' := ok3.app gb
      rw [← hF]
      simp [lk]
      rw [mx]
      refine some_py (zs := F ++ [x]) ok3' (by simp) (by rw [List.length_append]; simp; omega) fun y s4 hy ok4 => ?_
      simp [py_wd]
      exact q (t, .nd) _ (nb _ rfl) ok4
end
end PK
end
section
set_option Elab.async false
set_option linter.all false
set_option maxRecDepth 100000
set_option maxHeartbeats 2000000
set_option autoImplicit false
namespace PK
open PySem PySem.Spec PyProof.Rows L2 Ev
open Py (py)
open Keyed (key)
def bgT (x : Wd) : Tr := (wRoot, .bg x)
theorem begun_bgT (l : List Wd) : begunB (l.map bgT) = wRoot :: l := by
  unfold begunB
  rw [List.filterMap_map]
  have : (bgOf ∘ bgT) = some := funext fun a => rfl
  rw [this, List.filterMap_some]
theorem own_bgT (l : List Wd) : ownB (l.map bgT) wRoot = l.map .bg := by
  unfold ownB
  rw [List.filterMap_map]
  have : ((fun p : Tr => if p.1 = wRoot then some p.2 else none) ∘ bgT) = some ∘ De.bg := funext fun a => by simp [bgT]
  rw [this, List.filterMap_eq_map]
theorem run_bgS (l : List Wd) (x : Wd) (h : IsRun (l.map bgT)) (hx : x ∉ l) (h1 : ¬ x = wRoot) : IsRun ((l ++ [x]).map bgT) := by
  rw [List.map_append]
  refine IsRun.step (p := bgT x) h ?_
  show letsB (l.map bgT) wRoot (.bg x) = true
  unfold letsB
  rw [begun_bgT, own_bgT]
  have h2 : ∀ o : Option De, (∀ c k, o ≠ some (.wt c k)) → letsG (l.map bgT) wRoot (.bg x) o = true := fun o ho => by
    have : letsG (l.map bgT) wRoot (.bg x) o = !decide (x ∈ begunB (l.map bgT)) := by
      cases o with
      | none => rfl
      | some b => cases b <;> first | rfl | exact absurd rfl (ho _ _)
    rw [this, begun_bgT]
    simp [h1, hx]
  rw [h2]
  · simp
  · intro c k h
    have := List.mem_of_getLast? h
    simp at this
theorem run_bgA : ∀ (b a : List Wd), IsRun (a.map bgT) → (a ++ b).Nodup → wRoot ∉ a ++ b → IsRun ((a ++ b).map bgT)
  | [], a, h, _, _ => by rw [List.append_nil]; exact h
  | x :: b, a, h, hn, hr => by
    have e : a ++ x :: b = (a ++ [x]) ++ b := by simp
    rw [e] at hn hr ⊢
    refine run_bgA b (a ++ [x]) (run_bgS a x h (fun hx => ?_) fun e => ?_) hn hr
    · have := (List.nodup_append.mp (List.nodup_append.mp hn).1).2.2 x hx x List.mem_cons_self
      exact this rfl
    · exact hr (by rw [← e]; simp)
theorem run_bgT (l : List Wd) (hn : l.Nodup) (hr : wRoot ∉ l) : IsRun (l.map bgT) := run_bgA l [] IsRun.nil hn hr
section
variable {T : List (Addr × Str)} {j : Nat} {st : Sto} {K : Kt W} {ps : List Wd}
theorem IsRun.wk {row : List Tr} (h : IsRun row) : wkOk no row := by
  obtain ⟨M, B⟩ := h.back
  exact B.wk
def RunI (T : List (Addr × Str)) (j : Nat) (ps : List Wd) (many : Nat) (ws : List Str) (ρ : Ev.Env) (s : Sto) : Prop := ∃ (row : List Tr) (y5 y6 y7 y8 : Option Sl), ρ = [some (.w (.r j)), some (.w (.d (.list (ps.map py)))), some (.w (.d (.int (many : Int)))), some (.w (.d (.list (ws.map .str)))), some (.w (.d (.tuple (row.map py)))), y5, y6, y7, y8] ∧ IsRun row ∧ row.length ≤ many ∧ (∀ p ∈ row, InP ps p) ∧ Ok T j s
theorem run_q (ok : Ok T j st) (hp : ps.length = 7) (hn : ps.Nodup) (hr : wRoot ∉ ps) {many : Nat} (hm : many ≤ 60) {ws : List Str} (w0 : ws ≠ []) (wl : ws.length < 1000) (wm : ∀ w ∈ ws, w ∈ wdsM)
    (q : ∀ (row : List Tr) st', IsRun row → row.length ≤ many → (∀ p ∈ row, InP ps p) → Ok T j st' → K.q (.d (.tuple (row.map py))) st') : @qM W (f__law_run [W.r j, .d (.list (ps.map py)), .d (.int (many : Int)), .d (.list (ws.map .str))]) st K := by
  unfold f__law_run b__law_run
  simp
  refine roll_n ok (by decide) (by decide) fun v s1 hv ok1 => ?_
  obtain ⟨c, hc⟩ : ∃ c : Nat, c = if v < many then v else many := ⟨_, rfl⟩
  have hcm : c ≤ many := by rw [hc]; split <;> omega
  have hc7 : c ≤ 7 := by rw [hc]; split <;> omega
  have mn : minW s1 [.d (.int (many : Int)), .d (.int (v : Int))] = some (.d (.int (c : Int))) := by
    unfold minW
    dsimp only
    rw [hc]
    by_cases h : v < many
    · rw [if_pos h, if_pos (by omega)]
    · rw [if_neg h, if_neg (by omega)]
  have cc : cutL (ps.map py) none (some (c : Int)) = (ps.take c).map py := by rw [cut_take', List.map_take]
  have lc : (ps.take c).length ≤ 7 := by rw [List.length_take]; omega
  obtain ⟨A, hA⟩ : ∃ A, A = ps.take c := ⟨_, rfl⟩
  rw [← hA] at cc lc
  have la : A.length ≤ c := by rw [hA, List.length_take]; omega
  have lA : A.length < 16777216 := by omega
  simp [mn, cc, lA]
  refine lc_map py (fun x : Wd => .tuple [.str ("root" : Str), .tuple [.str ("begin" : Str), .str x.1]]) A (fun x hx => ⟨_, rfl, ?_, ?_⟩) ?_
  · apply gt_of; simp
  · apply fe_of; simp [py_wd]
  have r0 : A.map (fun x : Wd => PyData.tuple [.str ("root" : Str), .tuple [.str ("begin" : Str), .str x.1]]) = (A.map bgT).map py := by rw [List.map_map]; rfl
  rw [r0]
  have sub : A.Sublist ps := hA ▸ List.take_sublist c ps
  have R0 : IsRun (A.map bgT) := run_bgT A (sub.nodup hn) fun h => hr (sub.subset h)
  have I0 : ∀ p ∈ A.map bgT, InP ps p := fun p h => by
    obtain ⟨x, hx, rfl⟩ := List.mem_map.mp h
    exact ⟨List.mem_cons_self, fun y e => by
      have e : De.bg x = .bg y := e
      injection e with e
      subst e
      exact List.mem_cons_of_mem _ (sub.subset hx)⟩
  have L0 : (A.map bgT).length ≤ many := by rw [List.length_map]; omega
  generalize A.map bgT = row0 at *
  clear hA sub la lc lA r0 mn hc cc
  simp
  rw [if_pos ⟨by omega, by omega⟩, qO_some]
  dsimp only
  generalize rangeL 0 ((many : Int) + 12).toNat = l
  refine q_loopD (fun _ ρ s => RunI T j ps many ws ρ s) l ⟨row0, _, _, _, _, rfl, R0, L0, I0, ok1⟩ (fun d r ρ s hi => ?_) (fun ρ s hi => ?_)
  · obtain ⟨row, y5, y6, y7, y8, rfl, R, L, I, ok2⟩ := hi
    refine ⟨_, rfl, ?_⟩
    simp
    refine move_q ok2 hp (by omega) I R.wk w0 wl wm fun p s2 hpi ok3 => ?_
    obtain ⟨t, dd⟩ := p
    have pt : py ((t, dd) : Tr) = .tuple [.str t.1, dd.py] := rfl
    rw [pt]
    simp
    by_cases hlt : row.length < many
    · simp [hlt]
      refine letsB_q t dd (by omega) R.wk fun gb => ?_
      have ok4 := ok3.app gb
      cases hl : letsB row t dd with
      | true =>
        have ad : addD (.tuple (row.map py)) (.tuple [.tuple [.str t.1, dd.py]]) = some (.tuple ((row ++ [(t, dd)]).map py)) := addT row [(t, dd)] (by omega) (by simp)
        simp [ad, -List.map_append]
        exact ⟨row ++ [(t, dd)], _, _, _, _, rfl, R.step (p := (t, dd)) hl, by rw [List.length_append]; exact hlt, fun p hp' => (List.mem_append.mp hp').elim (I p) fun h => by rw [List.mem_singleton.mp h]; exact hpi, ok4⟩
      | false =>
        simp
        exact ⟨row, _, _, _, _, rfl, R, L, I, ok4⟩
    · simp [hlt]
      exact ⟨row, _, _, _, _, rfl, R, L, I, ok3⟩
  · obtain ⟨row, y5, y6, y7, y8, rfl, R, L, I, ok2⟩ := hi
    simp
    exact q row s R L I ok2
end
end PK
end
section
set_option Elab.async false
set_option linter.all false
set_option maxRecDepth 100000
set_option maxHeartbeats 2000000
set_option autoImplicit false
namespace PK
open PySem PySem.Spec PyProof.Rows L2 Ev
open Py (py)
open Keyed (key)
/-! ## the rows by hand -/
def mkW (z : Str) (h : fitsText z = true := by decide +kernel) : Wd := ⟨z, h⟩
def hA : Wd := mkW "a"
def hB : Wd := mkW "b"
def hC : Wd := mkW "c"
def hD : Wd := mkW "d"
def hL : Wd := mkW "l"
def hM : Wd := mkW "m"
def hX : Wd := mkW "x"
def mkV (i : Int) (h : -99 ≤ i ∧ i ≤ 99 := by decide) : Va := ⟨i, h⟩
def hR (d : De) : Tr := (wRoot, d)
def hTake : Tr := hR (.tk hL)
def hWait : Tr := hR (.wt hC hL)
def hWake : Tr := (hA, .wk hC)
def hWoken : Tr := hR (.wn hC)
def hBegin : Tr := hR (.bg hA)
def hEnd : Tr := (hA, .nd)
def hOther : Tr := hR (.bg hB)
def hSleeps : List Tr := [hBegin, hOther, (hA, .tk hL), (hA, .wt hC hL), (hB, .tk hL), (hB, .wt hC hL), hR (.wk hC)]
def handR : List (List Tr × Option Nat) := [
  ([hBegin, hBegin], some 1), ([hR (.bg wRoot)], some 0), ([hEnd], some 0), ([hBegin, (hA, .bg hA)], some 1),
  ([hBegin, hEnd, hBegin], some 2), ([hBegin, hEnd, (hA, .wr hX (mkV 1))], some 2), ([hBegin, hR (.aw hA)], some 1),
  ([hBegin, hEnd, hR (.aw hA), hR (.aw hA)], none), ([hR (.aw wRoot)], some 0),
  ([hBegin, hR .nd, (hA, .aw wRoot)], none), ([hBegin, hTake, (hA, .tk hL)], some 2),
  ([hTake, hTake], some 1), ([hR (.gv hL)], some 0), ([hBegin, hTake, (hA, .gv hL)], some 2),
  ([hTake, hR (.gv hL), hR (.gv hL)], some 2), ([hBegin, hTake, hR .nd, (hA, .tk hL)], some 3),
  ([hWait], some 0), ([hBegin, hTake, (hA, .wt hC hL)], some 2), ([hTake, hWait, hR .nd], some 2), ([hTake, hWait, hWoken], some 2),
  ([hBegin, hTake, hWait, hWake, hWoken, hR (.gv hL)], none), ([hBegin, hTake, hWait, hWake, hR (.wn hD)], some 4),
  ([hBegin, hTake, hWait, hWake, hR (.wr hX (mkV 1))], some 4), ([hBegin, hTake, hWait, hWake, (hA, .tk hL), hWoken], some 5),
  ([hBegin, hTake, hWait, (hA, .wk hD), hWoken], some 4), ([hBegin, hWake, hWake, hTake, hWait, hWoken], some 5), ([hWoken], some 0),
  (hSleeps ++ [(hB, .wn hC)], some 7), (hSleeps ++ [(hA, .wn hC)], none),
  ([hR (.rd hX (mkV 0))], none), ([hR (.rd hX (mkV 1))], some 0),
  ([hR (.wr hX (mkV 2)), hR (.rd hX (mkV 0))], some 1),
  ([hR (.gt hM (mkV 0))], some 0), ([hR (.sd hM (mkV 3)), hR (.rd hM (mkV 3))], some 1), ([], none),
  ([hR (.sd hM (mkV 4)), hR (.sd hM (mkV 5)), hR (.gt hM (mkV 5))], some 2), ([hR (.sd hM (mkV 4)), hR (.gt hM (mkV 4)), hR (.gt hM (mkV 4))], some 2)]
def handPy (p : List Tr × Option Nat) : PyData := .tuple [.tuple (p.1.map py), optNat p.2]
def hPool : List Wd := [hA, hB, hC, hD, hL, hM, hX]
def inPb (ps : List Wd) (p : Tr) : Bool := decide (p.1 ∈ wRoot :: ps) && (match p.2 with | .bg x => decide (x ∈ wRoot :: ps) | _ => true)
theorem inPb_ok {ps : List Wd} {p : Tr} (h : inPb ps p = true) : InP ps p := by
  unfold inPb at h
  rw [Bool.and_eq_true, decide_eq_true_eq] at h
  refine ⟨h.1, fun x e => ?_⟩
  have := h.2
  rw [e] at this
  exact of_decide_eq_true this
theorem hand_bad : ∀ p ∈ handR, badF [] p.1 = p.2 ∧ (p.1.all (inPb hPool)) = true ∧ p.1.length ≤ 60 := by decide +kernel
theorem hand_rows (st : Sto) : f__law_rows [] st = .ok (W.d (.list (handR.map handPy))) st := by kernel_rfl
end PK
end
section
set_option Elab.async false
set_option linter.all false
set_option maxRecDepth 100000
set_option maxHeartbeats 2000000
set_option autoImplicit false
namespace PK
open PySem PySem.Spec PyProof.Rows L2 Ev
open Py (py)
open Keyed (key)
theorem thr_in {ps : List Wd} {ts : List Tr} (hi : ∀ p ∈ ts, InP ps p) : ∀ t ∈ thrL ts, t ∈ wRoot :: ps := fun t ht => by
  unfold thrL at ht
  rcases List.mem_cons.mp ht with rfl | ht
  · exact List.mem_cons_self
  · obtain ⟨p, hp, h⟩ := List.mem_flatMap.mp ht
    obtain ⟨z, d⟩ := p
    unfold trN at h
    rcases List.mem_cons.mp h with rfl | h
    · exact (hi _ hp).1
    · cases d with
      | bg x => rw [List.mem_singleton.mp h]; exact (hi _ hp).2 x rfl
      | _ => cases h
theorem okRow_in {ps : List Wd} {ts : List Tr} (hp : ps.length = 7) (hn : ps.Nodup) (hr : wRoot ∉ ps) (hi : ∀ p ∈ ts, InP ps p) (hl : ts.length ≤ 60) : okRow ts = true := by
  unfold okRow
  rw [decide_eq_true hl, Bool.true_and, decide_eq_true_eq]
  unfold thrN
  have hin := thr_in hi
  have nd : (wRoot :: ps).Nodup := List.nodup_cons.mpr ⟨hr, hn⟩
  have h := len_sortS (l := (thrL ts).map (·.1)) (k := ((wRoot :: ps).filter fun t => decide (t ∈ thrL ts)).map (·.1)) ?_ ?_
  · rw [← h, List.length_map]
    have := List.length_filter_le (fun t => decide (t ∈ thrL ts)) (wRoot :: ps)
    rw [List.length_cons, hp] at this
    exact this
  · exact List.Pairwise.map _ (fun a b hab e => hab (Wd.ext e)) (nd.filter _)
  · intro x
    rw [List.mem_map, List.mem_map]
    constructor
    · rintro ⟨t, ht, rfl⟩
      exact ⟨t, by simpa using (List.mem_filter.mp ht).2, rfl⟩
    · rintro ⟨t, ht, rfl⟩
      exact ⟨t, List.mem_filter.mpr ⟨hin t ht, by simpa using ht⟩, rfl⟩
section
variable {T : List (Addr × Str)} {j : Nat} {st : Sto} {K : Kt W} {ps : List Wd}
/-- a run is told as one, a changed row as the look back tells -/
theorem right_in (hp : ps.length = 7) (hn : ps.Nodup) (hr : wRoot ∉ ps) {ts : List Tr} (hi : ∀ p ∈ ts, InP ps p) (hl : ts.length ≤ 60) {o : Option Nat} (ho : badF [] ts = o) (q : ∀ gb, K.q (.d (.bool true)) (st ++ gb)) : @qM W (f__law_right [W.d (.tuple (ts.map py)), .d (optNat o)]) st K := by
  rw [← ho, ← bad_eq]
  exact right_q (by omega) (okRow_in hp hn hr hi hl) q
end
end PK
end
section
set_option Elab.async false
set_option linter.all false
set_option maxRecDepth 100000
set_option maxHeartbeats 2000000
set_option autoImplicit false
namespace PK
open PySem PySem.Spec PyProof.Rows L2 Ev
open Py (py)
open Keyed (key)
theorem bad_pre : ∀ (a done b : List Tr), badF done (a ++ b) = none → badF done a = none
  | [], _, _, _ => rfl
  | p :: a, done, b, h => by
    rw [List.cons_append, badF] at h
    rw [badF]
    split at h
    · rename_i hl
      rw [if_pos hl]
      exact bad_pre a _ b h
    · cases h
theorem IsRun.of {ts : List Tr} (h : badF [] ts = none) : IsRun ts := by
  have := badF_run (done := []) h IsRun.nil
  rwa [List.nil_append] at this
theorem IsRun.take {ts : List Tr} (h : IsRun ts) (n : Nat) : IsRun (ts.take n) := IsRun.of (bad_pre (ts.take n) [] (ts.drop n) (by rw [List.take_append_drop]; exact h.bad))
/-- the first bad place behind a beginning that is a run -/
theorem bad_run {a b : List Tr} (h : IsRun a) : badF [] (a ++ b) = badF a b := by
  rw [bad_start a [] b h.bad, List.nil_append]
/-! ## great rows, all threads -/
def vaN (i : Nat) : Va := if h : i ≤ 99 then ⟨i, by omega⟩ else va0
def great : List Tr := (List.range 59).map fun i => hR (.wr hX (vaN i))
theorem great_ok : badF [] (great ++ [hR (.rd hX (vaN 58))]) = none ∧ badF [] (great ++ [hR (.rd hX (vaN 57))]) = some 59 := by decide +kernel
theorem great_in : ((great ++ [hR (.rd hX (vaN 58))]).all (inPb hPool)) = true ∧ ((great ++ [hR (.rd hX (vaN 57))]).all (inPb hPool)) = true := by decide +kernel
theorem hPool_ok : hPool.length = 7 ∧ hPool.Nodup ∧ wRoot ∉ hPool := by decide +kernel
theorem threads_run {ps : List Wd} (hn : ps.Nodup) (hr : wRoot ∉ ps) : badF [] (ps.map bgT) = none := (run_bgT ps hn hr).bad
theorem threads_bad {ps : List Wd} (hn : ps.Nodup) (hr : wRoot ∉ ps) {a b : Wd} (hb : b ∈ ps) : badF [] (ps.map bgT ++ [(a, .bg b)]) = some ps.length := by
  rw [bad_run (run_bgT ps hn hr), badF, if_neg, List.length_map]
  intro h
  unfold letsB at h
  rw [Bool.and_eq_true, Bool.and_eq_true] at h
  have h := h.2.2
  have hm : b ∈ begunB (ps.map bgT) := by rw [begun_bgT]; exact List.mem_cons_of_mem _ hb
  revert h
  cases (ownB (ps.map bgT) a).getLast? with
  | none => simp [letsG, hm]
  | some d => cases d <;> simp [letsG, hm]
theorem threads_in (ps : List Wd) : ∀ p ∈ ps.map bgT, InP ps p := fun p h => by
  obtain ⟨x, hx, rfl⟩ := List.mem_map.mp h
  exact ⟨List.mem_cons_self, fun y e => by
    have e : De.bg x = .bg y := e
    injection e with e
    subst e
    exact List.mem_cons_of_mem _ hx⟩
end PK
end
section
set_option Elab.async false
set_option linter.all false
set_option maxRecDepth 100000
set_option maxHeartbeats 2000000
set_option autoImplicit false
namespace PK
open PySem PySem.Spec PyProof.Rows L2 Ev
open Py (py)
/-! ## the pool: seven words that differ in one sign -/
def insW (h : List Nat) (n s : Nat) : Str := ⟨(h.take n ++ s :: h.drop n).toArray⟩
def poolS : List Nat := [98, 99, 100, 101, 102, 103, 104]
structure HeadOk (h : List Nat) : Prop where
  len : h.length ≤ 11
  hd : h = [] ∨ headLet h = true
  sg : h.all isSgn = true
theorem poolS_ok : ∀ s ∈ poolS, isLet s = true ∧ isSgn s = true ∧ s ∉ [114, 111, 116] := by decide +kernel
theorem ins_fits {h : List Nat} (H : HeadOk h) (n : Nat) {s : Nat} (hs : s ∈ poolS) : fitsText (insW h n s) = true := by
  obtain ⟨h1, h2, _⟩ := poolS_ok s hs
  have hl : (insW h n s).length = h.length + 1 := by
    show (h.take n ++ s :: h.drop n).toArray.size = _
    rw [List.size_toArray, List.length_append, List.length_cons, List.length_take, List.length_drop]
    omega
  have ha : (h.take n ++ s :: h.drop n).all isSgn = true := by
    rw [List.all_append, List.all_cons, h2]
    have := H.sg
    rw [List.all_eq_true] at this
    rw [Bool.and_eq_true]
    refine ⟨List.all_eq_true.mpr fun x hx => this x (List.mem_of_mem_take hx), ?_⟩
    rw [Bool.true_and]
    exact List.all_eq_true.mpr fun x hx => this x (List.mem_of_mem_drop hx)
  have hh : headLet (h.take n ++ s :: h.drop n) = true := by
    cases n with
    | zero => exact h1
    | succ n =>
      cases h with
      | nil => exact h1
      | cons a r =>
        rcases H.hd with e | e
        · cases e
        · exact e
  have hlen := H.len
  unfold fitsText
  rw [hl, decide_eq_true (by omega), decide_eq_true (by omega), Bool.true_and, Bool.true_and]
  show (headLet (h.take n ++ s :: h.drop n) && (h.take n ++ s :: h.drop n).all isSgn) = true
  rw [hh, ha]; rfl
theorem ins_inj {h : List Nat} {n s s' : Nat} (e : insW h n s = insW h n s') : s = s' := by
  have e := congrArg (fun z : Str => z.cps.toList) e
  have e : h.take n ++ s :: h.drop n = h.take n ++ s' :: h.drop n := e
  have := List.append_cancel_left e
  injection this
theorem ins_root {h : List Nat} {n s : Nat} (hs : s ∈ poolS) : insW h n s ≠ wRoot.1 := fun e => by
  have e := congrArg (fun z : Str => z.cps.toList) e
  have e : h.take n ++ s :: h.drop n = [114, 111, 111, 116] := e
  have hm : s ∈ ([114, 111, 111, 116] : List Nat) := by rw [← e]; simp
  have := (poolS_ok s hs).2.2
  simp at hm this
  omega
def mkP (z : Str) : Wd := if h : fitsText z = true then ⟨z, h⟩ else wRoot
theorem mkP_v {z : Str} (h : fitsText z = true) : (mkP z).1 = z := by unfold mkP; rw [dif_pos h]
def poolW (h : List Nat) (n : Nat) : List Wd := poolS.map fun s => mkP (insW h n s)
theorem pool_len (h : List Nat) (n : Nat) : (poolW h n).length = 7 := rfl
theorem pool_nodup {h : List Nat} (H : HeadOk h) (n : Nat) : (poolW h n).Nodup := by
  unfold poolW
  have nd : poolS.Nodup := by decide
  refine List.pairwise_map.mpr (List.Pairwise.imp_of_mem (fun {a b} ha hb hab e => ?_) nd)
  have := congrArg Wd.s e
  rw [mkP_v (ins_fits H n ha), mkP_v (ins_fits H n hb)] at this
  exact hab (ins_inj this)
theorem pool_root {h : List Nat} (H : HeadOk h) (n : Nat) : wRoot ∉ poolW h n := fun hm => by
  obtain ⟨s, hs, e⟩ := List.mem_map.mp hm
  have := congrArg Wd.s e
  rw [mkP_v (ins_fits H n hs)] at this
  exact ins_root hs this
end PK
end
section
set_option Elab.async false
set_option linter.all false
set_option maxRecDepth 100000
set_option maxHeartbeats 2000000
set_option autoImplicit false
namespace PK
open PySem PySem.Spec PyProof.Rows L2 Ev
open Py (py)
section
variable {T : List (Addr × Str)} {j : Nat} {K : Kt (List W)}
/-- a comprehension whose parts are drawn -/
theorem comp_draw {ρ : Ev.Env} {vs : List Nat} {asg : As} {gt : Ev.Env → M Bool} {fe : Ev.Env → M W} (P : PyData → Prop) : ∀ (l : List PyData) (acc : List W) (st : Sto), Ok T j st →
    (∀ d ∈ l, ∃ ρ1, asg d (wipeE ρ vs) = some ρ1 ∧ (∀ st, gt ρ1 st = .ok true st) ∧ ∀ st, Ok T j st → @qM W (fe ρ1) st ⟨fun w s => (∃ x, w = .d x ∧ P x) ∧ Ok T j s, fun _ _ => False⟩) →
    (∀ (ds : List PyData) (s : Sto), ds.length = l.length → (∀ x ∈ ds, P x) → Ok T j s → K.q (acc ++ ds.map .d) s) → @qM _ (compL always vs asg gt fe ρ l acc) st K
  | [], acc, st, ok, _, hq => by
    rw [q_comp_nil]
    simpa using hq [] st rfl nofun ok
  | d :: l, acc, st, ok, hs, hq => by
    obtain ⟨ρ1, h1, h2, h3⟩ := hs d List.mem_cons_self
    rw [q_comp_cons, h1, qO_some]
    refine (wpM_eq (h2 st)).mpr ?_
    dsimp only
    rw [qB_true]
    refine wpM_mono (h3 st ok) (fun w s hw => ?_) fun _ _ h => h
    obtain ⟨⟨x, rfl, px⟩, ok1⟩ := hw
    refine comp_draw P l _ s ok1 (fun d hd => hs d (List.mem_cons_of_mem _ hd)) fun ds s2 hl hp ok2 => ?_
    have := hq (x :: ds) s2 (by rw [List.length_cons, List.length_cons, hl]) (fun y hy => (List.mem_cons.mp hy).elim (fun e => e ▸ px) (hp y)) ok2
    simpa using this
end
/-! ## signs by their places -/
def sgnT : Str := ("abcdefghijklmnopqrstuvwxyz0123456789" : Str)
theorem sgn_at {k n : Nat} (hk : k < n) (hn : n ≤ 36) : ∃ c, sgnT.cps.toList[k]? = some c ∧ isSgn c = true ∧ (k < 26 → isLet c = true) := by
  have h : ∀ k < 36, isSgn (sgnT.cps.toList.getD k 0) = true ∧ (k < 26 → isLet (sgnT.cps.toList.getD k 0) = true) := by decide +kernel
  have hl : sgnT.cps.toList.length = 36 := by decide +kernel
  obtain ⟨h1, h2⟩ := h k (by omega)
  have hg : sgnT.cps.toList[k]? = some (sgnT.cps.toList.getD k 0) := by
    rw [List.getD_eq_getElem?_getD, List.getElem?_eq_getElem (by omega)]; rfl
  exact ⟨_, hg, h1, h2⟩
end PK
end
section
set_option Elab.async false
set_option linter.all false
set_option maxRecDepth 100000
set_option maxHeartbeats 2000000
set_option autoImplicit false
namespace PK
open PySem PySem.Spec PyProof.Rows L2 Ev
open Py (py)

/-! ## texts of signs -/
def oneS (c : Nat) : Str := ⟨#[c]⟩
theorem nil_str : ("" : Str) = ⟨#[]⟩ := by decide +kernel
theorem app_str (a b : List Nat) : (⟨a.toArray⟩ ++ ⟨b.toArray⟩ : Str) = ⟨(a ++ b).toArray⟩ := by
  show Str.mk (a.toArray ++ b.toArray) = _
  rw [List.append_toArray]
theorem len_str (a : List Nat) : (Str.mk a.toArray).length = a.length := by
  show a.toArray.size = _
  rw [List.size_toArray]
theorem join_ones : ∀ cs : List Nat, Str.join ⟨#[]⟩ (cs.map oneS) = ⟨cs.toArray⟩
  | [] => rfl
  | [c] => rfl
  | c :: c' :: r => by
    have ih := join_ones (c' :: r)
    show oneS c ++ ⟨#[]⟩ ++ Str.join ⟨#[]⟩ ((c' :: r).map oneS) = _
    rw [ih]
    show ((⟨[c].toArray⟩ ++ ⟨([] : List Nat).toArray⟩ : Str) ++ ⟨(c' :: r).toArray⟩ : Str) = _
    rw [app_str, app_str]; rfl
theorem strs_ones : ∀ cs : List Nat, strsD (cs.map fun c => .str (oneS c)) = some (cs.map oneS)
  | [] => rfl
  | c :: r => by
    show (strsD (r.map fun c => .str (oneS c))).map (oneS c :: ·) = _
    rw [strs_ones r]; rfl
theorem join_onesW (st : Sto) (cs : List Nat) (h : cs.length ≤ 1000) : joinW st (.d (.str ("" : Str))) (.d (.list (cs.map fun c => .str (oneS c)))) = some (.d (.str ⟨cs.toArray⟩)) := by
  unfold joinW
  show Option.bind (strsD (cs.map fun c => .str (oneS c))) _ = _
  rw [strs_ones, Option.bind_some, nil_str, if_pos, TL.join_eq, join_ones]
  show ((cs.map oneS).map (·.length)).sum + (cs.map oneS).length * 0 ≤ 16777216
  have : (cs.map oneS).map (·.length) = List.replicate cs.length 1 := by
    rw [List.map_map]
    exact List.eq_replicate_iff.mpr ⟨by rw [List.length_map], fun b hb => by obtain ⟨c, _, e⟩ := List.mem_map.mp hb; rw [← e]; rfl⟩
  rw [this]
  simp; omega
theorem ones_of : ∀ {ds : List PyData} {P : Nat → Prop}, (∀ x ∈ ds, ∃ c, x = .str (oneS c) ∧ P c) → ∃ cs : List Nat, ds = cs.map (fun c => .str (oneS c)) ∧ ∀ c ∈ cs, P c
  | [], _, _ => ⟨[], rfl, nofun⟩
  | d :: ds, P, h => by
    obtain ⟨c, rfl, p⟩ := h d List.mem_cons_self
    obtain ⟨cs, rfl, q⟩ := ones_of (P := P) fun x hx => h x (List.mem_cons_of_mem _ hx)
    exact ⟨c :: cs, rfl, fun y hy => (List.mem_cons.mp hy).elim (fun e => e ▸ p) (q y)⟩
section
variable {h : List Nat} {n : Nat}
theorem sl_pre (hl : h.length ≤ 100) : slD none (some (n : Int)) (.str ⟨h.toArray⟩) = some (.str ⟨(h.take n).toArray⟩) := by
  show (if (Str.mk h.toArray).length ≤ sizeLine then _ else _) = _
  rw [if_pos (by rw [len_str, sizeLine_eq]; omega)]
  show some (PyData.str ⟨(cutL h none (some (n : Int))).toArray⟩) = _
  rw [cut_take']
theorem sl_suf (hl : h.length ≤ 100) : slD (some (n : Int)) none (.str ⟨h.toArray⟩) = some (.str ⟨(h.drop n).toArray⟩) := by
  show (if (Str.mk h.toArray).length ≤ sizeLine then _ else _) = _
  rw [if_pos (by rw [len_str, sizeLine_eq]; omega)]
  show some (PyData.str ⟨(cutL h (some (n : Int)) none).toArray⟩) = _
  rw [cut_drop']
theorem add_str {a b : List Nat} (ha : a.length ≤ 100) (hb : b.length ≤ 100) : addD (.str ⟨a.toArray⟩) (.str ⟨b.toArray⟩) = some (.str ⟨(a ++ b).toArray⟩) := by
  rw [addD_str (by rw [len_str, len_str, sizeLine_eq]; omega), app_str]
theorem len_strW (st : Sto) (hl : h.length ≤ 100) : lenW st (.d (.str ⟨h.toArray⟩)) = some (.d (.int (h.length : Int))) := by
  unfold lenW
  dsimp only
  rw [if_pos (by rw [len_str, sizeLine_eq]; omega), len_str]
end
section
variable {T : List (Addr × Str)} {j : Nat} {st : Sto} {K : Kt W}
theorem pool_words {h : List Nat} (H : HeadOk h) (n : Nat) : poolS.map (fun c => PyData.str (insW h n c)) = (poolW h n).map py := by
  unfold poolW
  rw [List.map_map]
  exact List.map_congr_left fun c hc => by show _ = PyData.str (mkP _).1; rw [mkP_v (ins_fits H n hc)]
theorem pool_step {h : List Nat} (H : HeadOk h) (n c : Nat) {Z : Str} (hZ : Z = ⟨h.toArray⟩) : ∃ A M B : Str, slD none (some (n : Int)) (.str Z) = some (.str A) ∧ slD (some (n : Int)) none (.str Z) = some (.str B) ∧ addD (.str A) (.str ⟨#[c]⟩) = some (.str M) ∧ addD (.str M) (.str B) = some (.str (insW h n c)) := by
  have hl := H.len
  have l1 : (h.take n).length ≤ 11 := by rw [List.length_take]; omega
  have l2 : (h.drop n).length ≤ 11 := by rw [List.length_drop]; omega
  refine ⟨⟨(h.take n).toArray⟩, ⟨(h.take n ++ [c]).toArray⟩, ⟨(h.drop n).toArray⟩, hZ ▸ sl_pre (by omega), hZ ▸ sl_suf (by omega), add_str (b := [c]) (by omega) (by simp), ?_⟩
  rw [add_str (by simp; omega) (by omega)]
  unfold insW
  simp
theorem pool_q (ok : Ok T j st) (q : ∀ (ps : List Wd) st', ps.length = 7 → ps.Nodup → wRoot ∉ ps → Ok T j st' → K.q (.d (.list (ps.map py))) st') : @qM W (f__law_pool [W.r j]) st K := by
  have it : ∀ s, itemsS s (.d (.str ("bcdefgh" : Str))) = some (poolS.map (fun c => .str ⟨#[c]⟩), always) := fun s => rfl
  unfold f__law_pool b__law_pool
  simp
  refine roll_n ok (by decide) (by decide) fun v s1 hv ok1 => ?_
  simp
  cases hv0 : decide (0 < v) with
  | false =>
    have l0 : lenW s1 (.d (.str ("" : Str))) = some (.d (.int 0)) := rfl
    simp [l0]
    refine roll_n ok1 (by decide) (by decide) fun n s2 hn ok2 => ?_
    have H : HeadOk [] := ⟨by decide, .inl rfl, rfl⟩
    have hZ : ("" : Str) = ⟨([] : List Nat).toArray⟩ := nil_str
    generalize ("" : Str) = Z at hZ ⊢
    simp [it]
    refine lc_map (fun c : Nat => .str ⟨#[c]⟩) (fun c => .str (insW [] n c)) poolS (fun c hc => ⟨_, rfl, ?_, ?_⟩) ?_
    · apply gt_of; simp
    · apply fe_of
      obtain ⟨A, M, B, p1, p2, e1, e2⟩ := pool_step H n c hZ
      simp [p1, p2, e1, e2]
    · rw [pool_words H]
      exact q _ _ (pool_len _ _) (pool_nodup H n) (pool_root H n) ok2
  | true =>
    simp
    refine roll_n ok1 (by decide) (by decide) fun a s2 ha ok2 => ?_
    simp
    have ixs : ∀ (k n : Nat), k < n → n ≤ 36 → ∃ c, ixD (.str ("abcdefghijklmnopqrstuvwxyz0123456789" : Str)) (k : Int) = some (.str ⟨#[c]⟩) ∧ isSgn c = true ∧ (k < 26 → isLet c = true) := fun k n hk hn => by
      obtain ⟨c, g, h1, h2⟩ := sgn_at hk hn
      refine ⟨c, ?_, h1, h2⟩
      show ixD (.str sgnT) (k : Int) = _
      rw [ixD_str (by rw [sizeLine_eq]; decide +kernel), Ev.atI_nat, g]; rfl
    obtain ⟨c0, x0, sg0, lt0⟩ := ixs a 26 (by omega) (by omega)
    have is0 : isStrW (.d (.str ("" : Str))) = some () := rfl
    simp [x0, is0]
    refine roll_n (n := 11) ok2 (by decide) (by decide) fun m s3 hm ok3 => ?_
    simp
    rw [if_pos (by omega), qO_some]
    dsimp only
    have hL : (rangeL 0 m).length = m := by unfold rangeL; rw [List.length_map, List.length_range]
    generalize rangeL 0 m = L at *
    simp [show L.length < 16777216 by omega]
    refine comp_draw (fun x => ∃ c, x = .str (oneS c) ∧ isSgn c = true) L [] s3 ok3 (fun d hd => ⟨_, rfl, fun s => ?_, fun s oks => ?_⟩) fun ds s4 hds hP ok4 => ?_
    · apply gt_of; simp
    · simp
      refine roll_n oks (by decide) (by decide) fun k s5 hk ok5 => ?_
      obtain ⟨c, x1, sg1, _⟩ := ixs k 36 (by omega) (by omega)
      simp [x1]
      exact ⟨⟨c, rfl, sg1⟩, ok5⟩
    · obtain ⟨cs, rfl, hcs⟩ := ones_of hP
      have hcl : cs.length ≤ 10 := by rw [List.length_map] at hds; omega
      have jn := join_onesW s4 cs (by omega)
      generalize hD : cs.map (fun c => PyData.str (oneS c)) = D at *
      have H : HeadOk (c0 :: cs) := ⟨by rw [List.length_cons]; omega, .inr (lt0 (by omega)), by rw [List.all_cons, sg0, Bool.true_and]; exact List.all_eq_true.mpr hcs⟩
      have ad : addD (.str ⟨#[c0]⟩) (.str ⟨cs.toArray⟩) = some (.str ⟨(c0 :: cs).toArray⟩) := add_str (a := [c0]) (by simp) (by omega)
      have ll := len_strW s4 (h := c0 :: cs) (by rw [List.length_cons]; omega)
      obtain ⟨Z, hZ⟩ : ∃ Z : Str, Z = ⟨(c0 :: cs).toArray⟩ := ⟨_, rfl⟩
      rw [← hZ] at ad ll
      simp [jn]
      rw [ad]
      simp [ll]
      refine roll_n ok4 (by omega) (by omega) fun n s5 hn ok5 => ?_
      obtain ⟨h, hh⟩ : ∃ h, h = c0 :: cs := ⟨_, rfl⟩
      rw [← hh] at H hZ
      simp [it]
      refine lc_map (fun c : Nat => .str ⟨#[c]⟩) (fun c => .str (insW h n c)) poolS (fun c hc => ⟨_, rfl, ?_, ?_⟩) ?_
      · apply gt_of; simp
      · apply fe_of
        obtain ⟨A, M, B, p1, p2, e1, e2⟩ := pool_step H n c hZ
        simp [p1, p2, e1, e2]
      · rw [pool_words H]
        exact q _ _ (pool_len _ _) (pool_nodup H n) (pool_root H n) ok5
end
end PK
end
section
set_option Elab.async false
set_option linter.all false
set_option maxRecDepth 100000
set_option maxHeartbeats 4000000
set_option autoImplicit false
namespace LK11
open PySem PySem.Spec PyProof.Rows L2 LamX Ev PK
/-! ## the text, by places -/
def tp (i : Nat) : Stmt := PySem.Challenge.pw_heardtrees_k11_whole_first_bad_places.main.body.getD i (.Pass ⟨0, 0, 0, 0⟩)
def dd (i : Nat) (x : Str) : He.DefD := ⟨(x, none), x, x, defArgs (tp i), defBody (tp i), defScope (tp i), [], []⟩
def fn : List He.DefD := [dd 11 ("fits_word" : Str), dd 12 ("fits_value" : Str), dd 13 ("fits_deed" : Str), dd 14 ("fits_turn" : Str), dd 15 ("all_threads" : Str), dd 16 ("fits_row" : Str), dd 17 ("bare_intent" : Str), dd 18 ("need_row" : Str), dd 21 ("told_of" : Str), dd 22 ("with_pair" : Str), dd 23 ("asleep_at" : Str), dd 24 ("gone_from" : Str), dd 25 ("is_let" : Str), dd 26 ("deed_at" : Str), dd 27 ("lets" : Str), dd 28 ("behind_call" : Str), dd 29 ("behind" : Str), dd 30 ("moved" : Str), dd 31 ("walked" : Str), dd 32 ("bad_place" : Str), dd 33 ("first_bad" : Str), dd 34 ("is_run" : Str), dd 36 ("_law_same" : Str), dd 37 ("_law_cup" : Str), dd 38 ("_law_roll" : Str), dd 39 ("_law_some" : Str), dd 40 ("_law_pool" : Str), dd 41 ("_law_value" : Str), dd 42 ("_law_begun" : Str), dd 43 ("_law_own" : Str), dd 44 ("_law_worth" : Str), dd 45 ("_law_letters" : Str), dd 46 ("_law_holder" : Str), dd 47 ("_law_called" : Str), dd 48 ("_law_lets" : Str), dd 49 ("_law_move" : Str), dd 50 ("_law_run" : Str), dd 51 ("_law_any" : Str), dd 52 ("_law_bad" : Str), dd 53 ("_law_words" : Str), dd 54 ("_law_changed" : Str), dd 55 ("_law_right" : Str), dd 56 ("_law_rows" : Str), dd 57 ("law" : Str)]
def fa : List He.Fa := [.free ("abs" : Str), .free ("all" : Str), .free ("any" : Str), .free ("bool" : Str), .free ("enumerate" : Str), .free ("int" : Str), .free ("isinstance" : Str), .free ("len" : Str), .free ("list" : Str), .free ("max" : Str), .free ("min" : Str), .free ("range" : Str), .free ("set" : Str), .free ("sorted" : Str), .free ("str" : Str), .free ("sum" : Str), .free ("tuple" : Str), .free ("zip" : Str), .glo ("fits_word" : Str), .glo ("fits_value" : Str), .glo ("fits_deed" : Str), .glo ("fits_turn" : Str), .glo ("all_threads" : Str), .glo ("fits_row" : Str), .glo ("bare_intent" : Str), .glo ("need_row" : Str), .glo ("told_of" : Str), .glo ("with_pair" : Str), .glo ("asleep_at" : Str), .glo ("gone_from" : Str), .glo ("is_let" : Str), .glo ("deed_at" : Str), .glo ("lets" : Str), .glo ("behind_call" : Str), .glo ("behind" : Str), .glo ("moved" : Str), .glo ("walked" : Str), .glo ("bad_place" : Str), .glo ("first_bad" : Str), .glo ("is_run" : Str), .glo ("_law_same" : Str), .glo ("_law_cup" : Str), .glo ("_law_roll" : Str), .glo ("_law_some" : Str), .glo ("_law_pool" : Str), .glo ("_law_value" : Str), .glo ("_law_begun" : Str), .glo ("_law_own" : Str), .glo ("_law_worth" : Str), .glo ("_law_letters" : Str), .glo ("_law_holder" : Str), .glo ("_law_called" : Str), .glo ("_law_lets" : Str), .glo ("_law_move" : Str), .glo ("_law_run" : Str), .glo ("_law_any" : Str), .glo ("_law_bad" : Str), .glo ("_law_words" : Str), .glo ("_law_changed" : Str), .glo ("_law_right" : Str), .glo ("_law_rows" : Str), .glo ("law" : Str), .str ("LETTERS" : Str) ("abcdefghijklmnopqrstuvwxyz" : Str), .str ("SIGNS" : Str) ("abcdefghijklmnopqrstuvwxyz0123456789" : Str), .glo ("HEARD" : Str), .glo ("NAMES" : Str), .glo ("VALUES" : Str), .int ("DEEDS" : Str) 60, .int ("THREADS" : Str) 8, .glo ("FIRST" : Str), .glo ("InvalidRow" : Str), .exc ("InvalidRow" : Str), .exm ("InvalidRow" : Str) ("InvalidRow" : Str) true]
def ts : List He.Tab := [(fun K => He.ga K ("HEARD" : Str), kv_HEARD.map (·.1)), (fun K => He.ga K ("NAMES" : Str), kv_NAMES.map (·.1))]
def tf : List He.Defn := []
def ex (K : PySem.W.Frag) : Bool := deepB K kd_VALUES (.ref (He.ga K ("VALUES" : Str))) && (deepB K kd_FIRST (.ref (He.ga K ("FIRST" : Str))) && (He.valsB K (He.ga K ("HEARD" : Str)) kv_HEARD && (He.valsB K (He.ga K ("NAMES" : Str)) kv_NAMES && (true))))
abbrev GG (g : Gd) : Prop := Gnd fa fn ts tf ex g
section
variable {g : Gd}
theorem tnd (K : PySem.W.Frag) (h : ex K = true) : (tf.map fun p => (He.cT K p).2).Nodup := by simp [tf]
theorem con_VALUES (c : GG g) : Con g ("VALUES" : Str) kd_VALUES := c.deep 66 rfl (He.ba c.more).1
theorem con_FIRST (c : GG g) : Con g ("FIRST" : Str) kd_FIRST := c.deep 69 rfl (He.ba (He.ba c.more).2).1
theorem tbl_HEARD (c : GG g) : Tbl g ("HEARD" : Str) kt_HEARD := c.tbl 0 64 rfl rfl (He.ba (He.ba (He.ba c.more).2).2).1 rfl rfl
theorem tbl_NAMES (c : GG g) : Tbl g ("NAMES" : Str) kt_NAMES := c.tbl 1 65 rfl rfl (He.ba (He.ba (He.ba (He.ba c.more).2).2).2).1 rfl rfl
theorem con_LETTERS (c : GG g) : Con g ("LETTERS" : Str) kd_LETTERS := c.str 62
theorem con_SIGNS (c : GG g) : Con g ("SIGNS" : Str) kd_SIGNS := c.str 63
theorem con_DEEDS (c : GG g) : Con g ("DEEDS" : Str) kd_DEEDS := c.int 67
theorem con_THREADS (c : GG g) : Con g ("THREADS" : Str) kd_THREADS := c.int 68
theorem gloE_InvalidRow (c : GG g) : g.mg ("InvalidRow" : Str) = some (.ref (He.ga g.K ("InvalidRow" : Str))) := c.glo 70
theorem ec_InvalidRow (c : GG g) : ErrC g.K g.mg ("InvalidRow" : Str) := c.exc 70 71
def ksub : SubT := fun a b => if a = ("InvalidRow" : Str) ∧ b = ("InvalidRow" : Str) then some true else none
theorem sub_ok (c : GG g) : SubOk g.K g.mg ksub := by
  intro a b k C C' h ha hb
  unfold ksub at h
  split at h
  · rename_i e; obtain ⟨rfl, rfl⟩ := e; cases Option.some.inj h; rw [gloE_InvalidRow c] at ha; rw [gloE_InvalidRow c] at hb; cases ha; cases hb; exact c.exm 72
  cases h
end
/-! ### fits_word -/
theorem sc_fits_word : FnScope N_fits_word [("value" : Str)] (defScope (tp 11)) := ⟨rfl, rfl, rfl, by decide +kernel, rfl, by decide +kernel, by decide +kernel⟩
theorem bd_fits_word : BindsAll ("fits_word" : Str) (defArgs (tp 11)) (defBody (tp 11)) (defScope (tp 11)) [("value" : Str)] := fun _ _ _ _ _ _ us hl => match us, hl with | [_], _ => rfl
theorem does_fits_word {g : Gd} (c : GG g) : Does g ("fits_word" : Str) (defBody (tp 11)) (defScope (tp 11)) N_fits_word 0 (b_fits_word) := fun f cdv A outer s H E hr hcd =>
  have tk := takesD (g := g) (x := ("fits_word" : Str)) (scope := defScope (tp 11)) (N := N_fits_word) (f := f) (cdv := cdv) (A := A) (outer := outer) (s := s) (H := H) (E := E)
  have hp := passD (g := g) (x := ("fits_word" : Str)) (scope := defScope (tp 11)) (N := N_fits_word) (f := f) (cdv := cdv) (A := A) (outer := outer) (s := s) (H := H) (E := E)
  have nd := sc_fits_word.nd
  (sss_cons (ss_if (sw_or (sb_not (sb_val (se_isi .str (se_var 0) (by rfl) (c.free 6) (by rfl) (c.free 14)))) (sw_or1 (sb_not (sb_chain om_le om_le se_int (se_callB cm_len (by rfl) (c.free 7) boot_len (sa_cons (se_var 0) sa_nil)) se_int)))).pt (sss_one (ss_ret se_bool)) sss_nil)
  (sss_one (ss_ret (se_and (se_cmp (om_inW (units65 hr)) (se_ix (se_var 0) se_int (fun _ _ => rfl)) (se_con (con_LETTERS c) (by rfl)) (by rfl)) (se_one (se_callB (cm_all rfl) (by rfl) (c.free 1) boot_all (sa_cons (se_lc rfl nd (si_str (se_var 0)) (own := [(("sign" : Str), 1)]) (blkOk_by (by show blkC N_fits_word (defScope (tp 11)) _ _ = true; decide +kernel)) (fun _ _ _ _ _ => (sg_name nd rfl (by first | exact Or.inl rfl | exact Or.inr rfl))) (fun _ _ _ _ _ => sts_nil) (fun _ _ _ _ _ => (se_cmp (om_inW (units65 hr)) (se_var 1) (se_con (con_SIGNS c) (by rfl)) (by rfl))) fin_data) sa_nil)))))))
theorem d_fits_word {g : Gd} (c : GG g) : Def g ("fits_word" : Str) 1 1 (f_fits_word) := mkDef (c.fnAt 0 18) sc_fits_word bd_fits_word (does_fits_word c)
/-! ### fits_value -/
theorem sc_fits_value : FnScope N_fits_value [("value" : Str)] (defScope (tp 12)) := ⟨rfl, rfl, rfl, by decide +kernel, rfl, by decide +kernel, by decide +kernel⟩
theorem bd_fits_value : BindsAll ("fits_value" : Str) (defArgs (tp 12)) (defBody (tp 12)) (defScope (tp 12)) [("value" : Str)] := fun _ _ _ _ _ _ us hl => match us, hl with | [_], _ => rfl
theorem does_fits_value {g : Gd} (c : GG g) : Does g ("fits_value" : Str) (defBody (tp 12)) (defScope (tp 12)) N_fits_value 0 (b_fits_value) := fun f cdv A outer s H E hr hcd =>
  have tk := takesD (g := g) (x := ("fits_value" : Str)) (scope := defScope (tp 12)) (N := N_fits_value) (f := f) (cdv := cdv) (A := A) (outer := outer) (s := s) (H := H) (E := E)
  have hp := passD (g := g) (x := ("fits_value" : Str)) (scope := defScope (tp 12)) (N := N_fits_value) (f := f) (cdv := cdv) (A := A) (outer := outer) (s := s) (H := H) (E := E)
  have nd := sc_fits_value.nd
  (sss_one (ss_ret (se_and (se_isi .int (se_var 0) (by rfl) (c.free 6) (by rfl) (c.free 5)) (se_and (se_not (se_isi .bool (se_var 0) (by rfl) (c.free 6) (by rfl) (c.free 3))) (se_one (se_chain om_le om_le (se_neg se_int) (se_var 0) se_int))))))
theorem d_fits_value {g : Gd} (c : GG g) : Def g ("fits_value" : Str) 1 1 (f_fits_value) := mkDef (c.fnAt 1 19) sc_fits_value bd_fits_value (does_fits_value c)
/-! ### fits_deed -/
theorem sc_fits_deed : FnScope N_fits_deed [("value" : Str)] (defScope (tp 13)) := ⟨rfl, rfl, rfl, by decide +kernel, rfl, by decide +kernel, by decide +kernel⟩
theorem bd_fits_deed : BindsAll ("fits_deed" : Str) (defArgs (tp 13)) (defBody (tp 13)) (defScope (tp 13)) [("value" : Str)] := fun _ _ _ _ _ _ us hl => match us, hl with | [_], _ => rfl
theorem does_fits_deed {g : Gd} (c : GG g) : Does g ("fits_deed" : Str) (defBody (tp 13)) (defScope (tp 13)) N_fits_deed 1 (b_fits_deed) := fun f cdv A outer s H E hr hcd =>
  have tk := takesD (g := g) (x := ("fits_deed" : Str)) (scope := defScope (tp 13)) (N := N_fits_deed) (f := f) (cdv := cdv) (A := A) (outer := outer) (s := s) (H := H) (E := E)
  have hp := passD (g := g) (x := ("fits_deed" : Str)) (scope := defScope (tp 13)) (N := N_fits_deed) (f := f) (cdv := cdv) (A := A) (outer := outer) (s := s) (H := H) (E := E)
  have nd := sc_fits_deed.nd
  (sss_cons (ss_if (sw_or (sb_not (sb_val (se_isi .tuple (se_var 0) (by rfl) (c.free 6) (by rfl) (c.free 16)))) (sw_or (sb_cmp (om_eqW hr.units) (se_callB cm_len (by rfl) (c.free 7) boot_len (sa_cons (se_var 0) sa_nil)) se_int (by rfl)) (sw_or (sb_not (sb_val (se_isi .str (se_ix (se_var 0) se_int (fun _ _ => rfl)) (by rfl) (c.free 6) (by rfl) (c.free 14)))) (sw_or1 (sb_notInT (tbl_NAMES c) (se_ix (se_var 0) se_int (fun _ _ => rfl)) (by rfl)))))).pt (sss_one (ss_ret se_bool)) sss_nil)
  (sss_cons (ss_set nd rfl (by first | exact Or.inl rfl | exact Or.inr rfl) (se_ixT (tbl_NAMES c) (se_ix (se_var 0) se_int (fun _ _ => rfl)) (by rfl) (fun _ _ => rfl)))
  (sss_cons (ss_if (sb_not (sb_val (se_callB (cm_all rfl) (by rfl) (c.free 1) boot_all (sa_cons (se_lc rfl nd (si_tup (se_slice (se_var 0) (so_some se_int) (so_some (se_op om_addW (se_var 1) se_int)))) (own := [(("one" : Str), 2)]) (blkOk_by (by show blkC N_fits_deed (defScope (tp 13)) _ _ = true; decide +kernel)) (fun _ _ _ _ _ => (sg_name nd rfl (by first | exact Or.inl rfl | exact Or.inr rfl))) (fun _ _ _ _ _ => sts_nil) (fun _ _ _ _ _ => (se_user (d_fits_word c) hr (by rfl) L2.takes0 (sa_cons (se_var 2) sa_nil))) fin_data) sa_nil)))) (sss_one (ss_ret se_bool)) sss_nil)
  (sss_cons (ss_if (sb_cmp (om_inW (units65 hr)) (se_ix (se_var 0) se_int (fun _ _ => rfl)) (se_con (con_VALUES c) (by rfl)) (by rfl)) (sss_one (ss_ret (se_and (se_cmp (om_eqW hr.units) (se_callB cm_len (by rfl) (c.free 7) boot_len (sa_cons (se_var 0) sa_nil)) se_int (by rfl)) (se_one (se_user (d_fits_value c) hr (by rfl) tk (sa_cons (se_ix (se_var 0) se_int (fun _ _ => rfl)) sa_nil)))))) sss_nil)
  (sss_one (ss_ret (se_cmp (om_eqW hr.units) (se_callB cm_len (by rfl) (c.free 7) boot_len (sa_cons (se_var 0) sa_nil)) (se_op om_addW (se_var 1) se_int) (by rfl))))))))
theorem d_fits_deed {g : Gd} (c : GG g) : Def g ("fits_deed" : Str) 2 1 (f_fits_deed) := mkDef (c.fnAt 2 20) sc_fits_deed bd_fits_deed (does_fits_deed c)
/-! ### fits_turn -/
theorem sc_fits_turn : FnScope N_fits_turn [("value" : Str)] (defScope (tp 14)) := ⟨rfl, rfl, rfl, by decide +kernel, rfl, by decide +kernel, by decide +kernel⟩
theorem bd_fits_turn : BindsAll ("fits_turn" : Str) (defArgs (tp 14)) (defBody (tp 14)) (defScope (tp 14)) [("value" : Str)] := fun _ _ _ _ _ _ us hl => match us, hl with | [_], _ => rfl
theorem does_fits_turn {g : Gd} (c : GG g) : Does g ("fits_turn" : Str) (defBody (tp 14)) (defScope (tp 14)) N_fits_turn 2 (b_fits_turn) := fun f cdv A outer s H E hr hcd =>
  have tk := takesD (g := g) (x := ("fits_turn" : Str)) (scope := defScope (tp 14)) (N := N_fits_turn) (f := f) (cdv := cdv) (A := A) (outer := outer) (s := s) (H := H) (E := E)
  have hp := passD (g := g) (x := ("fits_turn" : Str)) (scope := defScope (tp 14)) (N := N_fits_turn) (f := f) (cdv := cdv) (A := A) (outer := outer) (s := s) (H := H) (E := E)
  have nd := sc_fits_turn.nd
  (sss_one (ss_ret (se_and (se_isi .tuple (se_var 0) (by rfl) (c.free 6) (by rfl) (c.free 16)) (se_and (se_cmp (om_eqW hr.units) (se_callB cm_len (by rfl) (c.free 7) boot_len (sa_cons (se_var 0) sa_nil)) se_int (by rfl)) (se_and (se_user (d_fits_word c) hr (by rfl) tk (sa_cons (se_ix (se_var 0) se_int (fun _ _ => rfl)) sa_nil)) (se_one (se_user (d_fits_deed c) hr (by rfl) tk (sa_cons (se_ix (se_var 0) se_int (fun _ _ => rfl)) sa_nil))))))))
theorem d_fits_turn {g : Gd} (c : GG g) : Def g ("fits_turn" : Str) 3 1 (f_fits_turn) := mkDef (c.fnAt 3 21) sc_fits_turn bd_fits_turn (does_fits_turn c)
/-! ### all_threads -/
theorem sc_all_threads : FnScope N_all_threads [("row" : Str)] (defScope (tp 15)) := ⟨rfl, rfl, rfl, by decide +kernel, rfl, by decide +kernel, by decide +kernel⟩
theorem bd_all_threads : BindsAll ("all_threads" : Str) (defArgs (tp 15)) (defBody (tp 15)) (defScope (tp 15)) [("row" : Str)] := fun _ _ _ _ _ _ us hl => match us, hl with | [_], _ => rfl
theorem does_all_threads {g : Gd} (c : GG g) : Does g ("all_threads" : Str) (defBody (tp 15)) (defScope (tp 15)) N_all_threads 0 (b_all_threads) := fun f cdv A outer s H E hr hcd =>
  have tk := takesD (g := g) (x := ("all_threads" : Str)) (scope := defScope (tp 15)) (N := N_all_threads) (f := f) (cdv := cdv) (A := A) (outer := outer) (s := s) (H := H) (E := E)
  have hp := passD (g := g) (x := ("all_threads" : Str)) (scope := defScope (tp 15)) (N := N_all_threads) (f := f) (cdv := cdv) (A := A) (outer := outer) (s := s) (H := H) (E := E)
  have nd := sc_all_threads.nd
  (sss_cons (ss_set nd rfl (by first | exact Or.inl rfl | exact Or.inr rfl) (se_mut (sa_cons se_str sa_nil)))
  (sss_cons (ss_for hp rfl (si_tup (se_var 0)) (sg_tup rfl (sgs_cons (sg_name nd rfl (by first | exact Or.inl rfl | exact Or.inr rfl)) (sgs_cons (sg_name nd rfl (by first | exact Or.inl rfl | exact Or.inr rfl)) sgs_nil))) (sss_cons (ss_expr (se_app (se_var 1) (se_var 2)))
  (sss_one (ss_if (sb_cmp (om_eqW hr.units) (se_ix (se_var 3) se_int (fun _ _ => rfl)) se_str (by rfl)) (sss_one (ss_expr (se_app (se_var 1) (se_ix (se_var 3) se_int (fun _ _ => rfl))))) sss_nil))))
  (sss_one (ss_ret (se_callTy cm_tuple (by rfl) (c.free 16) boot_tuple (sa_cons (se_sortSet rfl (units65 hr) (se_var 1) (by rfl) (c.free 13) (by rfl) (c.free 12)) sa_nil))))))
theorem d_all_threads {g : Gd} (c : GG g) : Def g ("all_threads" : Str) 1 1 (f_all_threads) := mkDef (c.fnAt 4 22) sc_all_threads bd_all_threads (does_all_threads c)
/-! ### fits_row -/
theorem sc_fits_row : FnScope N_fits_row [("value" : Str)] (defScope (tp 16)) := ⟨rfl, rfl, rfl, by decide +kernel, rfl, by decide +kernel, by decide +kernel⟩
theorem bd_fits_row : BindsAll ("fits_row" : Str) (defArgs (tp 16)) (defBody (tp 16)) (defScope (tp 16)) [("value" : Str)] := fun _ _ _ _ _ _ us hl => match us, hl with | [_], _ => rfl
theorem does_fits_row {g : Gd} (c : GG g) : Does g ("fits_row" : Str) (defBody (tp 16)) (defScope (tp 16)) N_fits_row 3 (b_fits_row) := fun f cdv A outer s H E hr hcd =>
  have tk := takesD (g := g) (x := ("fits_row" : Str)) (scope := defScope (tp 16)) (N := N_fits_row) (f := f) (cdv := cdv) (A := A) (outer := outer) (s := s) (H := H) (E := E)
  have hp := passD (g := g) (x := ("fits_row" : Str)) (scope := defScope (tp 16)) (N := N_fits_row) (f := f) (cdv := cdv) (A := A) (outer := outer) (s := s) (H := H) (E := E)
  have nd := sc_fits_row.nd
  (sss_cons (ss_if (sw_or (sb_not (sb_val (se_isi .tuple (se_var 0) (by rfl) (c.free 6) (by rfl) (c.free 16)))) (sw_or (sb_cmp om_gt (se_callB cm_len (by rfl) (c.free 7) boot_len (sa_cons (se_var 0) sa_nil)) (se_con (con_DEEDS c) (by rfl)) (by rfl)) (sw_or1 (sb_not (sb_val (se_callB (cm_all rfl) (by rfl) (c.free 1) boot_all (sa_cons (se_lc rfl nd (si_tup (se_var 0)) (own := [(("turn" : Str), 1)]) (blkOk_by (by show blkC N_fits_row (defScope (tp 16)) _ _ = true; decide +kernel)) (fun _ _ _ _ _ => (sg_name nd rfl (by first | exact Or.inl rfl | exact Or.inr rfl))) (fun _ _ _ _ _ => sts_nil) (fun _ _ _ _ _ => (se_user (d_fits_turn c) hr (by rfl) L2.takes0 (sa_cons (se_var 1) sa_nil))) fin_data) sa_nil))))))).pt (sss_one (ss_ret se_bool)) sss_nil)
  (sss_one (ss_ret (se_cmp om_le (se_callB cm_len (by rfl) (c.free 7) boot_len (sa_cons (se_user (d_all_threads c) hr (by rfl) tk (sa_cons (se_var 0) sa_nil)) sa_nil)) (se_con (con_THREADS c) (by rfl)) (by rfl)))))
theorem d_fits_row {g : Gd} (c : GG g) : Def g ("fits_row" : Str) 4 1 (f_fits_row) := mkDef (c.fnAt 5 23) sc_fits_row bd_fits_row (does_fits_row c)
/-! ### bare_intent -/
theorem sc_bare_intent : FnScope N_bare_intent [("deed" : Str)] (defScope (tp 17)) := ⟨rfl, rfl, rfl, by decide +kernel, rfl, by decide +kernel, by decide +kernel⟩
theorem bd_bare_intent : BindsAll ("bare_intent" : Str) (defArgs (tp 17)) (defBody (tp 17)) (defScope (tp 17)) [("deed" : Str)] := fun _ _ _ _ _ _ us hl => match us, hl with | [_], _ => rfl
theorem does_bare_intent {g : Gd} (c : GG g) : Does g ("bare_intent" : Str) (defBody (tp 17)) (defScope (tp 17)) N_bare_intent 0 (b_bare_intent) := fun f cdv A outer s H E hr hcd =>
  have tk := takesD (g := g) (x := ("bare_intent" : Str)) (scope := defScope (tp 17)) (N := N_bare_intent) (f := f) (cdv := cdv) (A := A) (outer := outer) (s := s) (H := H) (E := E)
  have hp := passD (g := g) (x := ("bare_intent" : Str)) (scope := defScope (tp 17)) (N := N_bare_intent) (f := f) (cdv := cdv) (A := A) (outer := outer) (s := s) (H := H) (E := E)
  have nd := sc_bare_intent.nd
  (sss_cons (ss_if (sb_cmp (om_eqW hr.units) (se_ix (se_var 0) se_int (fun _ _ => rfl)) se_str (by rfl)) (sss_one (ss_ret se_none)) sss_nil)
  (sss_one (ss_ret (se_if (sb_inT (tbl_HEARD c) (se_ix (se_var 0) se_int (fun _ _ => rfl)) (by rfl)) (se_slice (se_var 0) so_none (so_some se_int)) (se_var 0)))))
theorem d_bare_intent {g : Gd} (c : GG g) : Def g ("bare_intent" : Str) 1 1 (f_bare_intent) := mkDef (c.fnAt 6 24) sc_bare_intent bd_bare_intent (does_bare_intent c)
/-! ### need_row -/
theorem sc_need_row : FnScope N_need_row [("value" : Str)] (defScope (tp 18)) := ⟨rfl, rfl, rfl, by decide +kernel, rfl, by decide +kernel, by decide +kernel⟩
theorem bd_need_row : BindsAll ("need_row" : Str) (defArgs (tp 18)) (defBody (tp 18)) (defScope (tp 18)) [("value" : Str)] := fun _ _ _ _ _ _ us hl => match us, hl with | [_], _ => rfl
theorem does_need_row {g : Gd} (c : GG g) : Does g ("need_row" : Str) (defBody (tp 18)) (defScope (tp 18)) N_need_row 4 (b_need_row) := fun f cdv A outer s H E hr hcd =>
  have tk := takesD (g := g) (x := ("need_row" : Str)) (scope := defScope (tp 18)) (N := N_need_row) (f := f) (cdv := cdv) (A := A) (outer := outer) (s := s) (H := H) (E := E)
  have hp := passD (g := g) (x := ("need_row" : Str)) (scope := defScope (tp 18)) (N := N_need_row) (f := f) (cdv := cdv) (A := A) (outer := outer) (s := s) (H := H) (E := E)
  have nd := sc_need_row.nd
  (sss_one (ss_if (sb_not (sb_val (se_user (d_fits_row c) hr (by rfl) tk (sa_cons (se_var 0) sa_nil)))) (sss_one (ss_raise (ec_InvalidRow c) rfl tk (by rfl))) sss_nil))
theorem d_need_row {g : Gd} (c : GG g) : Def g ("need_row" : Str) 5 1 (f_need_row) := mkDef (c.fnAt 7 25) sc_need_row bd_need_row (does_need_row c)
/-! ### told_of -/
theorem sc_told_of : FnScope N_told_of [("pairs" : Str), ("key" : Str), ("other" : Str)] (defScope (tp 21)) := ⟨rfl, rfl, rfl, by decide +kernel, rfl, by decide +kernel, by decide +kernel⟩
theorem bd_told_of : BindsAll ("told_of" : Str) (defArgs (tp 21)) (defBody (tp 21)) (defScope (tp 21)) [("pairs" : Str), ("key" : Str), ("other" : Str)] := fun _ _ _ _ _ _ us hl => match us, hl with | [_, _, _], _ => rfl
theorem does_told_of {g : Gd} (c : GG g) : Does g ("told_of" : Str) (defBody (tp 21)) (defScope (tp 21)) N_told_of 0 (b_told_of) := fun f cdv A outer s H E hr hcd =>
  have tk := takesD (g := g) (x := ("told_of" : Str)) (scope := defScope (tp 21)) (N := N_told_of) (f := f) (cdv := cdv) (A := A) (outer := outer) (s := s) (H := H) (E := E)
  have hp := passD (g := g) (x := ("told_of" : Str)) (scope := defScope (tp 21)) (N := N_told_of) (f := f) (cdv := cdv) (A := A) (outer := outer) (s := s) (H := H) (E := E)
  have nd := sc_told_of.nd
  (sss_cons (ss_for hp rfl (si_tup (se_var 0)) (sg_tup rfl (sgs_cons (sg_name nd rfl (by first | exact Or.inl rfl | exact Or.inr rfl)) (sgs_cons (sg_name nd rfl (by first | exact Or.inl rfl | exact Or.inr rfl)) sgs_nil))) (sss_one (ss_if (sb_cmp (om_eqW hr.units) (se_var 3) (se_var 1) (by rfl)) (sss_one (ss_ret (se_var 4))) sss_nil)))
  (sss_one (ss_ret (se_var 2))))
theorem d_told_of {g : Gd} (c : GG g) : Def g ("told_of" : Str) 1 3 (f_told_of) := mkDef (c.fnAt 8 26) sc_told_of bd_told_of (does_told_of c)
/-! ### with_pair -/
theorem sc_with_pair : FnScope N_with_pair [("pairs" : Str), ("key" : Str), ("value" : Str)] (defScope (tp 22)) := ⟨rfl, rfl, rfl, by decide +kernel, rfl, by decide +kernel, by decide +kernel⟩
theorem bd_with_pair : BindsAll ("with_pair" : Str) (defArgs (tp 22)) (defBody (tp 22)) (defScope (tp 22)) [("pairs" : Str), ("key" : Str), ("value" : Str)] := fun _ _ _ _ _ _ us hl => match us, hl with | [_, _, _], _ => rfl
theorem does_with_pair {g : Gd} (c : GG g) : Does g ("with_pair" : Str) (defBody (tp 22)) (defScope (tp 22)) N_with_pair 0 (b_with_pair) := fun f cdv A outer s H E hr hcd =>
  have tk := takesD (g := g) (x := ("with_pair" : Str)) (scope := defScope (tp 22)) (N := N_with_pair) (f := f) (cdv := cdv) (A := A) (outer := outer) (s := s) (H := H) (E := E)
  have hp := passD (g := g) (x := ("with_pair" : Str)) (scope := defScope (tp 22)) (N := N_with_pair) (f := f) (cdv := cdv) (A := A) (outer := outer) (s := s) (H := H) (E := E)
  have nd := sc_with_pair.nd
  (sss_cons (ss_setLc rfl nd rfl rfl (by rfl) (si_tup (se_var 0)) (own := [(("one" : Str), 4)]) (blkOk_by (by show blkC N_with_pair (defScope (tp 22)) _ _ = true; decide +kernel)) (fun _ _ _ _ _ => (sg_name nd rfl (by first | exact Or.inl rfl | exact Or.inr rfl))) (fun _ _ _ _ _ => (sts_one (sb_cmp (om_neW hr.units) (se_ix (se_var 4) se_int (fun _ _ => rfl)) (se_var 1) (by rfl)))) (fun _ _ _ _ _ => (se_var 4)) fin_data)
  (sss_one (ss_ret (se_callTy cm_tuple (by rfl) (c.free 16) boot_tuple (sa_cons (se_sortDW (units65 hr) (se_op om_addW (se_var 3) (se_if (sb_cmp om_isnot (se_var 2) se_none (by rfl)) (se_lst (sa_cons (se_tup (sa_cons (se_var 1) (sa_cons (se_var 2) sa_nil))) sa_nil)) (se_lst sa_nil))) (by rfl) (c.free 13)) sa_nil)))))
theorem d_with_pair {g : Gd} (c : GG g) : Def g ("with_pair" : Str) 1 3 (f_with_pair) := mkDef (c.fnAt 9 27) sc_with_pair bd_with_pair (does_with_pair c)
/-! ### asleep_at -/
theorem sc_asleep_at : FnScope N_asleep_at [("moment" : Str), ("thread" : Str)] (defScope (tp 23)) := ⟨rfl, rfl, rfl, by decide +kernel, rfl, by decide +kernel, by decide +kernel⟩
theorem bd_asleep_at : BindsAll ("asleep_at" : Str) (defArgs (tp 23)) (defBody (tp 23)) (defScope (tp 23)) [("moment" : Str), ("thread" : Str)] := fun _ _ _ _ _ _ us hl => match us, hl with | [_, _], _ => rfl
theorem does_asleep_at {g : Gd} (c : GG g) : Does g ("asleep_at" : Str) (defBody (tp 23)) (defScope (tp 23)) N_asleep_at 0 (b_asleep_at) := fun f cdv A outer s H E hr hcd =>
  have tk := takesD (g := g) (x := ("asleep_at" : Str)) (scope := defScope (tp 23)) (N := N_asleep_at) (f := f) (cdv := cdv) (A := A) (outer := outer) (s := s) (H := H) (E := E)
  have hp := passD (g := g) (x := ("asleep_at" : Str)) (scope := defScope (tp 23)) (N := N_asleep_at) (f := f) (cdv := cdv) (A := A) (outer := outer) (s := s) (H := H) (E := E)
  have nd := sc_asleep_at.nd
  (sss_cons (ss_for hp rfl (si_tup (se_ix (se_var 0) se_int (fun _ _ => rfl))) (sg_tup rfl (sgs_cons (sg_name nd rfl (by first | exact Or.inl rfl | exact Or.inr rfl)) (sgs_cons (sg_name nd rfl (by first | exact Or.inl rfl | exact Or.inr rfl)) sgs_nil))) (sss_one (ss_for hp rfl (si_tup (se_var 3)) (sg_tup rfl (sgs_cons (sg_name nd rfl (by first | exact Or.inl rfl | exact Or.inr rfl)) (sgs_cons (sg_name nd rfl (by first | exact Or.inl rfl | exact Or.inr rfl)) sgs_nil))) (sss_one (ss_if (sb_cmp (om_eqW hr.units) (se_var 4) (se_var 1) (by rfl)) (sss_one (ss_ret (se_tup (sa_cons (se_var 2) (sa_cons (se_var 5) sa_nil))))) sss_nil)))))
  (sss_one (ss_ret se_none)))
theorem d_asleep_at {g : Gd} (c : GG g) : Def g ("asleep_at" : Str) 1 2 (f_asleep_at) := mkDef (c.fnAt 10 28) sc_asleep_at bd_asleep_at (does_asleep_at c)
/-! ### gone_from -/
theorem sc_gone_from : FnScope N_gone_from [("moment" : Str), ("thread" : Str)] (defScope (tp 24)) := ⟨rfl, rfl, rfl, by decide +kernel, rfl, by decide +kernel, by decide +kernel⟩
theorem bd_gone_from : BindsAll ("gone_from" : Str) (defArgs (tp 24)) (defBody (tp 24)) (defScope (tp 24)) [("moment" : Str), ("thread" : Str)] := fun _ _ _ _ _ _ us hl => match us, hl with | [_, _], _ => rfl
theorem does_gone_from {g : Gd} (c : GG g) : Does g ("gone_from" : Str) (defBody (tp 24)) (defScope (tp 24)) N_gone_from 0 (b_gone_from) := fun f cdv A outer s H E hr hcd =>
  have tk := takesD (g := g) (x := ("gone_from" : Str)) (scope := defScope (tp 24)) (N := N_gone_from) (f := f) (cdv := cdv) (A := A) (outer := outer) (s := s) (H := H) (E := E)
  have hp := passD (g := g) (x := ("gone_from" : Str)) (scope := defScope (tp 24)) (N := N_gone_from) (f := f) (cdv := cdv) (A := A) (outer := outer) (s := s) (H := H) (E := E)
  have nd := sc_gone_from.nd
  (sss_cons (ss_for hp rfl (si_tup (se_ix (se_var 0) se_int (fun _ _ => rfl))) (sg_tup rfl (sgs_cons (sg_name nd rfl (by first | exact Or.inl rfl | exact Or.inr rfl)) (sgs_cons (sg_name nd rfl (by first | exact Or.inl rfl | exact Or.inr rfl)) (sgs_cons (sg_name nd rfl (by first | exact Or.inl rfl | exact Or.inr rfl)) sgs_nil)))) (sss_one (ss_if (sb_cmp (om_eqW hr.units) (se_var 2) (se_var 1) (by rfl)) (sss_one (ss_ret (se_tup (sa_cons (se_var 3) (sa_cons (se_var 4) sa_nil))))) sss_nil)))
  (sss_one (ss_ret se_none)))
theorem d_gone_from {g : Gd} (c : GG g) : Def g ("gone_from" : Str) 1 2 (f_gone_from) := mkDef (c.fnAt 11 29) sc_gone_from bd_gone_from (does_gone_from c)
/-! ### is_let -/
theorem sc_is_let : FnScope N_is_let [("moment" : Str), ("thread" : Str), ("intent" : Str)] (defScope (tp 25)) := ⟨rfl, rfl, rfl, by decide +kernel, rfl, by decide +kernel, by decide +kernel⟩
theorem bd_is_let : BindsAll ("is_let" : Str) (defArgs (tp 25)) (defBody (tp 25)) (defScope (tp 25)) [("moment" : Str), ("thread" : Str), ("intent" : Str)] := fun _ _ _ _ _ _ us hl => match us, hl with | [_, _, _], _ => rfl
theorem does_is_let {g : Gd} (c : GG g) : Does g ("is_let" : Str) (defBody (tp 25)) (defScope (tp 25)) N_is_let 1 (b_is_let) := fun f cdv A outer s H E hr hcd =>
  have tk := takesD (g := g) (x := ("is_let" : Str)) (scope := defScope (tp 25)) (N := N_is_let) (f := f) (cdv := cdv) (A := A) (outer := outer) (s := s) (H := H) (E := E)
  have hp := passD (g := g) (x := ("is_let" : Str)) (scope := defScope (tp 25)) (N := N_is_let) (f := f) (cdv := cdv) (A := A) (outer := outer) (s := s) (H := H) (E := E)
  have nd := sc_is_let.nd
  (sss_cons (ss_par rfl nd rfl rfl (by decide) rfl rfl (sa_cons (se_ix (se_var 2) se_int (fun _ _ => rfl)) (sa_cons (se_ix (se_var 0) se_int (fun _ _ => rfl)) sa_nil)) (by rfl))
  (sss_cons (ss_if (sb_cmp (om_eqW hr.units) (se_var 3) se_str (by rfl)) (sss_one (ss_ret (se_cmp om_is (se_user (d_told_of c) hr (by rfl) tk (sa_cons (se_var 4) (sa_cons (se_ix (se_var 2) se_int (fun _ _ => rfl)) (sa_cons se_none sa_nil)))) se_none (by rfl)))) sss_nil)
  (sss_cons (ss_if (sb_cmp (om_inW (units65 hr)) (se_var 3) (se_tup (sa_cons se_str (sa_cons se_str sa_nil))) (by rfl)) (sss_one (ss_ret (se_cmp (om_eqW hr.units) (se_user (d_told_of c) hr (by rfl) tk (sa_cons (se_var 4) (sa_cons (se_ix (se_var 2) (se_neg se_int) (fun _ _ => rfl)) (sa_cons se_none sa_nil)))) (se_var 1) (by rfl)))) sss_nil)
  (sss_cons (ss_if (sb_cmp (om_eqW hr.units) (se_var 3) se_str (by rfl)) (sss_one (ss_ret (se_cmp (om_notinW (units65 hr)) (se_ix (se_var 2) se_int (fun _ _ => rfl)) (se_ix (se_var 0) se_int (fun _ _ => rfl)) (by rfl)))) sss_nil)
  (sss_one (ss_ret (se_or (se_cmp (om_neW hr.units) (se_var 3) se_str (by rfl)) (se_one (se_cmp (om_inW (units65 hr)) (se_ix (se_var 2) se_int (fun _ _ => rfl)) (se_ix (se_var 0) se_int (fun _ _ => rfl)) (by rfl))))))))))
theorem d_is_let {g : Gd} (c : GG g) : Def g ("is_let" : Str) 2 3 (f_is_let) := mkDef (c.fnAt 12 30) sc_is_let bd_is_let (does_is_let c)
/-! ### deed_at -/
theorem sc_deed_at : FnScope N_deed_at [("moment" : Str), ("thread" : Str), ("intent" : Str)] (defScope (tp 26)) := ⟨rfl, rfl, rfl, by decide +kernel, rfl, by decide +kernel, by decide +kernel⟩
theorem bd_deed_at : BindsAll ("deed_at" : Str) (defArgs (tp 26)) (defBody (tp 26)) (defScope (tp 26)) [("moment" : Str), ("thread" : Str), ("intent" : Str)] := fun _ _ _ _ _ _ us hl => match us, hl with | [_, _, _], _ => rfl
theorem does_deed_at {g : Gd} (c : GG g) : Does g ("deed_at" : Str) (defBody (tp 26)) (defScope (tp 26)) N_deed_at 2 (b_deed_at) := fun f cdv A outer s H E hr hcd =>
  have tk := takesD (g := g) (x := ("deed_at" : Str)) (scope := defScope (tp 26)) (N := N_deed_at) (f := f) (cdv := cdv) (A := A) (outer := outer) (s := s) (H := H) (E := E)
  have hp := passD (g := g) (x := ("deed_at" : Str)) (scope := defScope (tp 26)) (N := N_deed_at) (f := f) (cdv := cdv) (A := A) (outer := outer) (s := s) (H := H) (E := E)
  have nd := sc_deed_at.nd
  (sss_cons (ss_if (sw_or (sb_cmp (om_notinW (units65 hr)) (se_var 1) (se_ix (se_var 0) se_int (fun _ _ => rfl)) (by rfl)) (sw_or (sb_cmp (om_inW (units65 hr)) (se_var 1) (se_ix (se_var 0) se_int (fun _ _ => rfl)) (by rfl)) (sw_or1 (sb_cmp om_isnot (se_user (d_asleep_at c) hr (by rfl) tk (sa_cons (se_var 0) (sa_cons (se_var 1) sa_nil))) se_none (by rfl))))).pt (sss_one (ss_ret se_none)) sss_nil)
  (sss_cons (ss_par rfl nd rfl rfl (by decide) rfl rfl (sa_cons (se_user (d_gone_from c) hr (by rfl) tk (sa_cons (se_var 0) (sa_cons (se_var 1) sa_nil))) (sa_cons (se_ix (se_var 2) se_int (fun _ _ => rfl)) sa_nil)) (by rfl))
  (sss_cons (ss_if (sw_or (sb_cmp om_isnot (se_var 3) se_none (by rfl)) (sw_or1 (sb_cmp (om_eqW hr.units) (se_var 4) se_str (by rfl)))).pt (sss_cons (ss_set nd rfl (by first | exact Or.inl rfl | exact Or.inr rfl) (se_and (se_cmp om_isnot (se_var 3) se_none (by rfl)) (se_and (se_cmp (om_eqW hr.units) (se_var 2) (se_tup (sa_cons se_str (sa_cons (se_ix (se_var 3) se_int (fun _ _ => rfl)) sa_nil))) (by rfl)) (se_one (se_cmp om_is (se_user (d_told_of c) hr (by rfl) tk (sa_cons (se_ix (se_var 0) se_int (fun _ _ => rfl)) (sa_cons (se_ix (se_var 3) se_int (fun _ _ => rfl)) (sa_cons se_none sa_nil)))) se_none (by rfl))))))
  (sss_one (ss_ret (se_if (sb_val (se_var 5)) (se_var 2) se_none)))) sss_nil)
  (sss_cons (ss_if (sb_cmp (om_eqW hr.units) (se_var 4) se_str (by rfl)) (sss_one (ss_ret (se_op om_addW (se_var 2) (se_tup (sa_cons (se_user (d_told_of c) hr (by rfl) tk (sa_cons (se_ix (se_var 0) se_int (fun _ _ => rfl)) (sa_cons (se_ix (se_var 2) se_int (fun _ _ => rfl)) (sa_cons se_int sa_nil)))) sa_nil))))) sss_nil)
  (sss_cons (ss_if (sb_cmp (om_eqW hr.units) (se_var 4) se_str (by rfl)) (sss_cons (ss_set nd rfl (by first | exact Or.inl rfl | exact Or.inr rfl) (se_user (d_told_of c) hr (by rfl) tk (sa_cons (se_ix (se_var 0) se_int (fun _ _ => rfl)) (sa_cons (se_ix (se_var 2) se_int (fun _ _ => rfl)) (sa_cons (se_tup sa_nil) sa_nil)))))
  (sss_one (ss_ret (se_if (sb_cmp (om_neW hr.units) (se_var 6) (se_tup sa_nil) (by rfl)) (se_op om_addW (se_var 2) (se_slice (se_var 6) so_none (so_some se_int))) se_none)))) sss_nil)
  (sss_one (ss_ret (se_if (sb_val (se_user (d_is_let c) hr (by rfl) tk (sa_cons (se_var 0) (sa_cons (se_var 1) (sa_cons (se_var 2) sa_nil))))) (se_var 2) se_none))))))))
theorem d_deed_at {g : Gd} (c : GG g) : Def g ("deed_at" : Str) 3 3 (f_deed_at) := mkDef (c.fnAt 13 31) sc_deed_at bd_deed_at (does_deed_at c)
/-! ### lets -/
theorem sc_lets : FnScope N_lets [("moment" : Str), ("thread" : Str), ("deed" : Str)] (defScope (tp 27)) := ⟨rfl, rfl, rfl, by decide +kernel, rfl, by decide +kernel, by decide +kernel⟩
theorem bd_lets : BindsAll ("lets" : Str) (defArgs (tp 27)) (defBody (tp 27)) (defScope (tp 27)) [("moment" : Str), ("thread" : Str), ("deed" : Str)] := fun _ _ _ _ _ _ us hl => match us, hl with | [_, _, _], _ => rfl
theorem does_lets {g : Gd} (c : GG g) : Does g ("lets" : Str) (defBody (tp 27)) (defScope (tp 27)) N_lets 3 (b_lets) := fun f cdv A outer s H E hr hcd =>
  have tk := takesD (g := g) (x := ("lets" : Str)) (scope := defScope (tp 27)) (N := N_lets) (f := f) (cdv := cdv) (A := A) (outer := outer) (s := s) (H := H) (E := E)
  have hp := passD (g := g) (x := ("lets" : Str)) (scope := defScope (tp 27)) (N := N_lets) (f := f) (cdv := cdv) (A := A) (outer := outer) (s := s) (H := H) (E := E)
  have nd := sc_lets.nd
  (sss_cons (ss_set nd rfl (by first | exact Or.inl rfl | exact Or.inr rfl) (se_if (sb_cmp (om_eqW hr.units) (se_ix (se_var 2) se_int (fun _ _ => rfl)) se_str (by rfl)) (se_var 2) (se_user (d_bare_intent c) hr (by rfl) tk (sa_cons (se_var 2) sa_nil))))
  (sss_one (ss_ret (se_cmp (om_eqW hr.units) (se_user (d_deed_at c) hr (by rfl) tk (sa_cons (se_var 0) (sa_cons (se_var 1) (sa_cons (se_var 3) sa_nil)))) (se_var 2) (by rfl)))))
theorem d_lets {g : Gd} (c : GG g) : Def g ("lets" : Str) 4 3 (f_lets) := mkDef (c.fnAt 14 32) sc_lets bd_lets (does_lets c)
/-! ### behind_call -/
theorem sc_behind_call : FnScope N_behind_call [("moment" : Str), ("thread" : Str), ("deed" : Str)] (defScope (tp 28)) := ⟨rfl, rfl, rfl, by decide +kernel, rfl, by decide +kernel, by decide +kernel⟩
theorem bd_behind_call : BindsAll ("behind_call" : Str) (defArgs (tp 28)) (defBody (tp 28)) (defScope (tp 28)) [("moment" : Str), ("thread" : Str), ("deed" : Str)] := fun _ _ _ _ _ _ us hl => match us, hl with | [_, _, _], _ => rfl
theorem does_behind_call {g : Gd} (c : GG g) : Does g ("behind_call" : Str) (defBody (tp 28)) (defScope (tp 28)) N_behind_call 1 (b_behind_call) := fun f cdv A outer s H E hr hcd =>
  have tk := takesD (g := g) (x := ("behind_call" : Str)) (scope := defScope (tp 28)) (N := N_behind_call) (f := f) (cdv := cdv) (A := A) (outer := outer) (s := s) (H := H) (E := E)
  have hp := passD (g := g) (x := ("behind_call" : Str)) (scope := defScope (tp 28)) (N := N_behind_call) (f := f) (cdv := cdv) (A := A) (outer := outer) (s := s) (H := H) (E := E)
  have nd := sc_behind_call.nd
  (sss_cons (ss_asgT (se_var 0) (sg_tup rfl (sgs_cons (sg_name nd rfl (by first | exact Or.inl rfl | exact Or.inr rfl)) (sgs_cons (sg_name nd rfl (by first | exact Or.inl rfl | exact Or.inr rfl)) (sgs_cons (sg_name nd rfl (by first | exact Or.inl rfl | exact Or.inr rfl)) (sgs_cons (sg_name nd rfl (by first | exact Or.inl rfl | exact Or.inr rfl)) (sgs_cons (sg_name nd rfl (by first | exact Or.inl rfl | exact Or.inr rfl)) (sgs_cons (sg_name nd rfl (by first | exact Or.inl rfl | exact Or.inr rfl)) (sgs_cons (sg_name nd rfl (by first | exact Or.inl rfl | exact Or.inr rfl)) sgs_nil)))))))))
  (sss_cons (ss_set nd rfl (by first | exact Or.inl rfl | exact Or.inr rfl) (se_ix (se_var 2) se_int (fun _ _ => rfl)))
  (sss_cons (ss_set nd rfl (by first | exact Or.inl rfl | exact Or.inr rfl) (se_user (d_told_of c) hr (by rfl) tk (sa_cons (se_var 8) (sa_cons (se_var 3) (sa_cons (se_tup sa_nil) sa_nil)))))
  (sss_cons (ss_if (sb_cmp (om_eqW hr.units) (se_ix (se_var 2) se_int (fun _ _ => rfl)) se_str (by rfl)) (sss_cons (ss_set nd rfl (by first | exact Or.inl rfl | exact Or.inr rfl) (se_user (d_with_pair c) hr (by rfl) tk (sa_cons (se_var 6) (sa_cons (se_ix (se_var 2) se_int (fun _ _ => rfl)) (sa_cons se_none sa_nil)))))
  (sss_one (ss_set nd rfl (by first | exact Or.inl rfl | exact Or.inr rfl) (se_user (d_with_pair c) hr (by rfl) tk (sa_cons (se_var 8) (sa_cons (se_var 3) (sa_cons (se_op om_addW (se_var 4) (se_tup (sa_cons (se_tup (sa_cons (se_var 1) (sa_cons (se_ix (se_var 2) se_int (fun _ _ => rfl)) sa_nil))) sa_nil))) sa_nil))))))) (sss_one (ss_if (sb_cmp (om_eqW hr.units) (se_ix (se_var 2) se_int (fun _ _ => rfl)) se_str (by rfl)) (sss_cons (ss_set nd rfl (by first | exact Or.inl rfl | exact Or.inr rfl) (se_user (d_with_pair c) hr (by rfl) tk (sa_cons (se_var 6) (sa_cons (se_ix (se_user (d_gone_from c) hr (by rfl) tk (sa_cons (se_var 0) (sa_cons (se_var 1) sa_nil))) se_int (fun _ _ => rfl)) (sa_cons (se_var 1) sa_nil)))))
  (sss_one (ss_set nd rfl (by first | exact Or.inl rfl | exact Or.inr rfl) (se_callTy cm_tuple (by rfl) (c.free 16) boot_tuple (sa_cons (se_lc rfl nd (si_tup (se_var 9)) (own := [(("one" : Str), 12)]) (blkOk_by (by show blkC N_behind_call (defScope (tp 28)) _ _ = true; decide +kernel)) (fun _ _ _ _ _ => (sg_name nd rfl (by first | exact Or.inl rfl | exact Or.inr rfl))) (fun _ _ _ _ _ => (sts_one (sb_cmp (om_neW hr.units) (se_ix (se_var 12) se_int (fun _ _ => rfl)) (se_var 1) (by rfl)))) (fun _ _ _ _ _ => (se_var 12)) fin_data) sa_nil))))) (sss_one (ss_if (sb_cmp (om_neW hr.units) (se_var 4) (se_tup sa_nil) (by rfl)) (sss_cons (ss_set nd rfl (by first | exact Or.inl rfl | exact Or.inr rfl) (se_callTy cm_tuple (by rfl) (c.free 16) boot_tuple (sa_cons (se_sortDW (units65 hr) (se_op om_addW (se_var 9) (se_tup (sa_cons (se_tup (sa_cons (se_ix (se_ix (se_var 4) se_int (fun _ _ => rfl)) se_int (fun _ _ => rfl)) (sa_cons (se_var 3) (sa_cons (se_ix (se_ix (se_var 4) se_int (fun _ _ => rfl)) se_int (fun _ _ => rfl)) sa_nil)))) sa_nil))) (by rfl) (c.free 13)) sa_nil)))
  (sss_one (ss_set nd rfl (by first | exact Or.inl rfl | exact Or.inr rfl) (se_user (d_with_pair c) hr (by rfl) tk (sa_cons (se_var 8) (sa_cons (se_var 3) (sa_cons (se_if (sb_cmp om_gt (se_callB cm_len (by rfl) (c.free 7) boot_len (sa_cons (se_var 4) sa_nil)) se_int (by rfl)) (se_slice (se_var 4) (so_some se_int) so_none) se_none) sa_nil))))))) sss_nil)))))
  (sss_one (ss_ret (se_tup (sa_cons (se_var 5) (sa_cons (se_var 6) (sa_cons (se_var 7) (sa_cons (se_var 8) (sa_cons (se_var 9) (sa_cons (se_var 10) (sa_cons (se_var 11) sa_nil))))))))))))))
theorem d_behind_call {g : Gd} (c : GG g) : Def g ("behind_call" : Str) 2 3 (f_behind_call) := mkDef (c.fnAt 15 33) sc_behind_call bd_behind_call (does_behind_call c)
/-! ### behind -/
theorem sc_behind : FnScope N_behind [("moment" : Str), ("thread" : Str), ("deed" : Str)] (defScope (tp 29)) := ⟨rfl, rfl, rfl, by decide +kernel, rfl, by decide +kernel, by decide +kernel⟩
theorem bd_behind : BindsAll ("behind" : Str) (defArgs (tp 29)) (defBody (tp 29)) (defScope (tp 29)) [("moment" : Str), ("thread" : Str), ("deed" : Str)] := fun _ _ _ _ _ _ us hl => match us, hl with | [_, _, _], _ => rfl
theorem does_behind {g : Gd} (c : GG g) : Does g ("behind" : Str) (defBody (tp 29)) (defScope (tp 29)) N_behind 2 (b_behind) := fun f cdv A outer s H E hr hcd =>
  have tk := takesD (g := g) (x := ("behind" : Str)) (scope := defScope (tp 29)) (N := N_behind) (f := f) (cdv := cdv) (A := A) (outer := outer) (s := s) (H := H) (E := E)
  have hp := passD (g := g) (x := ("behind" : Str)) (scope := defScope (tp 29)) (N := N_behind) (f := f) (cdv := cdv) (A := A) (outer := outer) (s := s) (H := H) (E := E)
  have nd := sc_behind.nd
  (sss_cons (ss_asgT (se_var 0) (sg_tup rfl (sgs_cons (sg_name nd rfl (by first | exact Or.inl rfl | exact Or.inr rfl)) (sgs_cons (sg_name nd rfl (by first | exact Or.inl rfl | exact Or.inr rfl)) (sgs_cons (sg_name nd rfl (by first | exact Or.inl rfl | exact Or.inr rfl)) (sgs_cons (sg_name nd rfl (by first | exact Or.inl rfl | exact Or.inr rfl)) (sgs_cons (sg_name nd rfl (by first | exact Or.inl rfl | exact Or.inr rfl)) (sgs_cons (sg_name nd rfl (by first | exact Or.inl rfl | exact Or.inr rfl)) (sgs_cons (sg_name nd rfl (by first | exact Or.inl rfl | exact Or.inr rfl)) sgs_nil)))))))))
  (sss_cons (ss_set nd rfl (by first | exact Or.inl rfl | exact Or.inr rfl) (se_ix (se_var 2) se_int (fun _ _ => rfl)))
  (sss_cons (ss_if (sb_cmp (om_inW (units65 hr)) (se_var 3) (se_tup (sa_cons se_str (sa_cons se_str (sa_cons se_str sa_nil)))) (by rfl)) (sss_one (ss_ret (se_user (d_behind_call c) hr (by rfl) tk (sa_cons (se_var 0) (sa_cons (se_var 1) (sa_cons (se_var 2) sa_nil)))))) sss_nil)
  (sss_cons (ss_if (sb_cmp (om_eqW hr.units) (se_var 3) se_str (by rfl)) (sss_one (ss_set nd rfl (by first | exact Or.inl rfl | exact Or.inr rfl) (se_user (d_with_pair c) hr (by rfl) tk (sa_cons (se_var 4) (sa_cons (se_ix (se_var 2) se_int (fun _ _ => rfl)) (sa_cons (se_ix (se_var 2) se_int (fun _ _ => rfl)) sa_nil)))))) (sss_one (ss_if (sb_cmp (om_eqW hr.units) (se_var 3) se_str (by rfl)) (sss_one (ss_set nd rfl (by first | exact Or.inl rfl | exact Or.inr rfl) (se_user (d_with_pair c) hr (by rfl) tk (sa_cons (se_var 5) (sa_cons (se_ix (se_var 2) se_int (fun _ _ => rfl)) (sa_cons (se_var 1) sa_nil)))))) (sss_one (ss_if (sb_cmp (om_eqW hr.units) (se_var 3) se_str (by rfl)) (sss_one (ss_set nd rfl (by first | exact Or.inl rfl | exact Or.inr rfl) (se_user (d_with_pair c) hr (by rfl) tk (sa_cons (se_var 5) (sa_cons (se_ix (se_var 2) se_int (fun _ _ => rfl)) (sa_cons se_none sa_nil)))))) (sss_one (ss_if (sb_cmp (om_eqW hr.units) (se_var 3) se_str (by rfl)) (sss_one (ss_set nd rfl (by first | exact Or.inl rfl | exact Or.inr rfl) (se_user (d_with_pair c) hr (by rfl) tk (sa_cons (se_var 6) (sa_cons (se_ix (se_var 2) se_int (fun _ _ => rfl)) (sa_cons (se_op om_addW (se_user (d_told_of c) hr (by rfl) tk (sa_cons (se_var 6) (sa_cons (se_ix (se_var 2) se_int (fun _ _ => rfl)) (sa_cons (se_tup sa_nil) sa_nil)))) (se_tup (sa_cons (se_ix (se_var 2) se_int (fun _ _ => rfl)) sa_nil))) sa_nil)))))) (sss_one (ss_if (sb_cmp (om_eqW hr.units) (se_var 3) se_str (by rfl)) (sss_cons (ss_set nd rfl (by first | exact Or.inl rfl | exact Or.inr rfl) (se_slice (se_user (d_told_of c) hr (by rfl) tk (sa_cons (se_var 6) (sa_cons (se_ix (se_var 2) se_int (fun _ _ => rfl)) (sa_cons (se_tup sa_nil) sa_nil)))) (so_some se_int) so_none))
  (sss_one (ss_set nd rfl (by first | exact Or.inl rfl | exact Or.inr rfl) (se_user (d_with_pair c) hr (by rfl) tk (sa_cons (se_var 6) (sa_cons (se_ix (se_var 2) se_int (fun _ _ => rfl)) (sa_cons (se_if (sb_cmp (om_neW hr.units) (se_var 11) (se_tup sa_nil) (by rfl)) (se_var 11) se_none) sa_nil))))))) (sss_one (ss_if (sb_cmp (om_eqW hr.units) (se_var 3) se_str (by rfl)) (sss_one (ss_set nd rfl (by first | exact Or.inl rfl | exact Or.inr rfl) (se_callTy cm_tuple (by rfl) (c.free 16) boot_tuple (sa_cons (se_sortDW (units65 hr) (se_op om_addW (se_var 9) (se_tup (sa_cons (se_ix (se_var 2) se_int (fun _ _ => rfl)) sa_nil))) (by rfl) (c.free 13)) sa_nil)))) (sss_one (ss_if (sb_cmp (om_eqW hr.units) (se_var 3) se_str (by rfl)) (sss_one (ss_set nd rfl (by first | exact Or.inl rfl | exact Or.inr rfl) (se_callTy cm_tuple (by rfl) (c.free 16) boot_tuple (sa_cons (se_sortDW (units65 hr) (se_op om_addW (se_var 10) (se_tup (sa_cons (se_var 1) sa_nil))) (by rfl) (c.free 13)) sa_nil)))) sss_nil)))))))))))))
  (sss_one (ss_ret (se_tup (sa_cons (se_var 4) (sa_cons (se_var 5) (sa_cons (se_var 6) (sa_cons (se_var 7) (sa_cons (se_var 8) (sa_cons (se_var 9) (sa_cons (se_var 10) sa_nil))))))))))))))
theorem d_behind {g : Gd} (c : GG g) : Def g ("behind" : Str) 3 3 (f_behind) := mkDef (c.fnAt 16 34) sc_behind bd_behind (does_behind c)
/-! ### moved -/
theorem sc_moved : FnScope N_moved [("moment" : Str), ("thread" : Str), ("deed" : Str)] (defScope (tp 30)) := ⟨rfl, rfl, rfl, by decide +kernel, rfl, by decide +kernel, by decide +kernel⟩
theorem bd_moved : BindsAll ("moved" : Str) (defArgs (tp 30)) (defBody (tp 30)) (defScope (tp 30)) [("moment" : Str), ("thread" : Str), ("deed" : Str)] := fun _ _ _ _ _ _ us hl => match us, hl with | [_, _, _], _ => rfl
theorem does_moved {g : Gd} (c : GG g) : Does g ("moved" : Str) (defBody (tp 30)) (defScope (tp 30)) N_moved 4 (b_moved) := fun f cdv A outer s H E hr hcd =>
  have tk := takesD (g := g) (x := ("moved" : Str)) (scope := defScope (tp 30)) (N := N_moved) (f := f) (cdv := cdv) (A := A) (outer := outer) (s := s) (H := H) (E := E)
  have hp := passD (g := g) (x := ("moved" : Str)) (scope := defScope (tp 30)) (N := N_moved) (f := f) (cdv := cdv) (A := A) (outer := outer) (s := s) (H := H) (E := E)
  have nd := sc_moved.nd
  (sss_one (ss_ret (se_if (sb_val (se_user (d_lets c) hr (by rfl) tk (sa_cons (se_var 0) (sa_cons (se_var 1) (sa_cons (se_var 2) sa_nil))))) (se_user (d_behind c) hr (by rfl) tk (sa_cons (se_var 0) (sa_cons (se_var 1) (sa_cons (se_var 2) sa_nil)))) se_none)))
theorem d_moved {g : Gd} (c : GG g) : Def g ("moved" : Str) 5 3 (f_moved) := mkDef (c.fnAt 17 35) sc_moved bd_moved (does_moved c)
/-! ### walked -/
theorem sc_walked : FnScope N_walked [("row" : Str)] (defScope (tp 31)) := ⟨rfl, rfl, rfl, by decide +kernel, rfl, by decide +kernel, by decide +kernel⟩
theorem bd_walked : BindsAll ("walked" : Str) (defArgs (tp 31)) (defBody (tp 31)) (defScope (tp 31)) [("row" : Str)] := fun _ _ _ _ _ _ us hl => match us, hl with | [_], _ => rfl
theorem does_walked {g : Gd} (c : GG g) : Does g ("walked" : Str) (defBody (tp 31)) (defScope (tp 31)) N_walked 5 (b_walked) := fun f cdv A outer s H E hr hcd =>
  have tk := takesD (g := g) (x := ("walked" : Str)) (scope := defScope (tp 31)) (N := N_walked) (f := f) (cdv := cdv) (A := A) (outer := outer) (s := s) (H := H) (E := E)
  have hp := passD (g := g) (x := ("walked" : Str)) (scope := defScope (tp 31)) (N := N_walked) (f := f) (cdv := cdv) (A := A) (outer := outer) (s := s) (H := H) (E := E)
  have nd := sc_walked.nd
  (sss_cons (ss_set nd rfl (by first | exact Or.inl rfl | exact Or.inr rfl) (se_con (con_FIRST c) (by rfl)))
  (sss_cons (ss_for hp rfl (si_enumT (by rfl) (c.free 4) (sa_cons (se_var 0) sa_nil)) (sg_tup rfl (sgs_cons (sg_name nd rfl (by first | exact Or.inl rfl | exact Or.inr rfl)) (sgs_cons (sg_tup rfl (sgs_cons (sg_name nd rfl (by first | exact Or.inl rfl | exact Or.inr rfl)) (sgs_cons (sg_name nd rfl (by first | exact Or.inl rfl | exact Or.inr rfl)) sgs_nil))) sgs_nil))) (sss_cons (ss_set nd rfl (by first | exact Or.inl rfl | exact Or.inr rfl) (se_user (d_moved c) hr (by rfl) tk (sa_cons (se_var 1) (sa_cons (se_var 4) (sa_cons (se_var 5) sa_nil)))))
  (sss_cons (ss_if (sb_cmp om_is (se_var 3) se_none (by rfl)) (sss_one (ss_ret (se_tup (sa_cons (se_var 2) (sa_cons (se_var 1) sa_nil))))) sss_nil)
  (sss_one (ss_set nd rfl (by first | exact Or.inl rfl | exact Or.inr rfl) (se_var 3))))))
  (sss_one (ss_ret (se_tup (sa_cons se_none (sa_cons (se_var 1) sa_nil)))))))
theorem d_walked {g : Gd} (c : GG g) : Def g ("walked" : Str) 6 1 (f_walked) := mkDef (c.fnAt 18 36) sc_walked bd_walked (does_walked c)
/-! ### bad_place -/
theorem sc_bad_place : FnScope N_bad_place [("row" : Str)] (defScope (tp 32)) := ⟨rfl, rfl, rfl, by decide +kernel, rfl, by decide +kernel, by decide +kernel⟩
theorem bd_bad_place : BindsAll ("bad_place" : Str) (defArgs (tp 32)) (defBody (tp 32)) (defScope (tp 32)) [("row" : Str)] := fun _ _ _ _ _ _ us hl => match us, hl with | [_], _ => rfl
theorem does_bad_place {g : Gd} (c : GG g) : Does g ("bad_place" : Str) (defBody (tp 32)) (defScope (tp 32)) N_bad_place 6 (b_bad_place) := fun f cdv A outer s H E hr hcd =>
  have tk := takesD (g := g) (x := ("bad_place" : Str)) (scope := defScope (tp 32)) (N := N_bad_place) (f := f) (cdv := cdv) (A := A) (outer := outer) (s := s) (H := H) (E := E)
  have hp := passD (g := g) (x := ("bad_place" : Str)) (scope := defScope (tp 32)) (N := N_bad_place) (f := f) (cdv := cdv) (A := A) (outer := outer) (s := s) (H := H) (E := E)
  have nd := sc_bad_place.nd
  (sss_one (ss_ret (se_ix (se_user (d_walked c) hr (by rfl) tk (sa_cons (se_var 0) sa_nil)) se_int (fun _ _ => rfl))))
theorem d_bad_place {g : Gd} (c : GG g) : Def g ("bad_place" : Str) 7 1 (f_bad_place) := mkDef (c.fnAt 19 37) sc_bad_place bd_bad_place (does_bad_place c)
/-! ### first_bad -/
theorem sc_first_bad : FnScope N_first_bad [("row" : Str)] (defScope (tp 33)) := ⟨rfl, rfl, rfl, by decide +kernel, rfl, by decide +kernel, by decide +kernel⟩
theorem bd_first_bad : BindsAll ("first_bad" : Str) (defArgs (tp 33)) (defBody (tp 33)) (defScope (tp 33)) [("row" : Str)] := fun _ _ _ _ _ _ us hl => match us, hl with | [_], _ => rfl
theorem does_first_bad {g : Gd} (c : GG g) : Does g ("first_bad" : Str) (defBody (tp 33)) (defScope (tp 33)) N_first_bad 7 (b_first_bad) := fun f cdv A outer s H E hr hcd =>
  have tk := takesD (g := g) (x := ("first_bad" : Str)) (scope := defScope (tp 33)) (N := N_first_bad) (f := f) (cdv := cdv) (A := A) (outer := outer) (s := s) (H := H) (E := E)
  have hp := passD (g := g) (x := ("first_bad" : Str)) (scope := defScope (tp 33)) (N := N_first_bad) (f := f) (cdv := cdv) (A := A) (outer := outer) (s := s) (H := H) (E := E)
  have nd := sc_first_bad.nd
  (sss_cons (ss_expr (se_user (d_need_row c) hr (by rfl) tk (sa_cons (se_var 0) sa_nil)))
  (sss_one (ss_ret (se_user (d_bad_place c) hr (by rfl) tk (sa_cons (se_var 0) sa_nil)))))
theorem d_first_bad {g : Gd} (c : GG g) : Def g ("first_bad" : Str) 8 1 (f_first_bad) := mkDef (c.fnAt 20 38) sc_first_bad bd_first_bad (does_first_bad c)
/-! ### is_run -/
theorem sc_is_run : FnScope N_is_run [("row" : Str)] (defScope (tp 34)) := ⟨rfl, rfl, rfl, by decide +kernel, rfl, by decide +kernel, by decide +kernel⟩
theorem bd_is_run : BindsAll ("is_run" : Str) (defArgs (tp 34)) (defBody (tp 34)) (defScope (tp 34)) [("row" : Str)] := fun _ _ _ _ _ _ us hl => match us, hl with | [_], _ => rfl
theorem does_is_run {g : Gd} (c : GG g) : Does g ("is_run" : Str) (defBody (tp 34)) (defScope (tp 34)) N_is_run 7 (b_is_run) := fun f cdv A outer s H E hr hcd =>
  have tk := takesD (g := g) (x := ("is_run" : Str)) (scope := defScope (tp 34)) (N := N_is_run) (f := f) (cdv := cdv) (A := A) (outer := outer) (s := s) (H := H) (E := E)
  have hp := passD (g := g) (x := ("is_run" : Str)) (scope := defScope (tp 34)) (N := N_is_run) (f := f) (cdv := cdv) (A := A) (outer := outer) (s := s) (H := H) (E := E)
  have nd := sc_is_run.nd
  (sss_cons (ss_expr (se_user (d_need_row c) hr (by rfl) tk (sa_cons (se_var 0) sa_nil)))
  (sss_one (ss_ret (se_cmp om_is (se_user (d_bad_place c) hr (by rfl) tk (sa_cons (se_var 0) sa_nil)) se_none (by rfl)))))
theorem d_is_run {g : Gd} (c : GG g) : Def g ("is_run" : Str) 8 1 (f_is_run) := mkDef (c.fnAt 21 39) sc_is_run bd_is_run (does_is_run c)
/-! ### _law_same -/
theorem sc__law_same : FnScope N__law_same [("told" : Str), ("due" : Str)] (defScope (tp 36)) := ⟨rfl, rfl, rfl, by decide +kernel, rfl, by decide +kernel, by decide +kernel⟩
theorem bd__law_same : BindsAll ("_law_same" : Str) (defArgs (tp 36)) (defBody (tp 36)) (defScope (tp 36)) [("told" : Str), ("due" : Str)] := fun _ _ _ _ _ _ us hl => match us, hl with | [_, _], _ => rfl
theorem does__law_same {g : Gd} (c : GG g) {n : Nat} {fr : List W → M W} (dr : Def g ("_law_same" : Str) (n + 1) 2 fr) : Does g ("_law_same" : Str) (defBody (tp 36)) (defScope (tp 36)) N__law_same (n + 1) (b__law_same fr) := fun f cdv A outer s H E hr hcd =>
  have tk := takesD (g := g) (x := ("_law_same" : Str)) (scope := defScope (tp 36)) (N := N__law_same) (f := f) (cdv := cdv) (A := A) (outer := outer) (s := s) (H := H) (E := E)
  have hp := passD (g := g) (x := ("_law_same" : Str)) (scope := defScope (tp 36)) (N := N__law_same) (f := f) (cdv := cdv) (A := A) (outer := outer) (s := s) (H := H) (E := E)
  have nd := sc__law_same.nd
  (sss_cons (ss_if (sb_val (se_isi .tuple (se_var 1) (by rfl) (c.free 6) (by rfl) (c.free 16))) (sss_cons (ss_if (sw_or (sb_not (sb_val (se_isi .tuple (se_var 0) (by rfl) (c.free 6) (by rfl) (c.free 16)))) (sw_or1 (sb_cmp (om_neW hr.units) (se_callB cm_len (by rfl) (c.free 7) boot_len (sa_cons (se_var 0) sa_nil)) (se_callB cm_len (by rfl) (c.free 7) boot_len (sa_cons (se_var 1) sa_nil)) (by rfl)))).pt (sss_one (ss_ret se_bool)) sss_nil)
  (sss_one (ss_ret (se_callB (cm_all rfl) (by rfl) (c.free 1) boot_all (sa_cons (se_lc rfl nd (si_range1 (by rfl) (c.free 11) (sa_cons (se_callB cm_len (by rfl) (c.free 7) boot_len (sa_cons (se_var 1) sa_nil)) sa_nil)) (own := [(("at" : Str), 2)]) (blkOk_by (by show blkC N__law_same (defScope (tp 36)) _ _ = true; decide +kernel)) (fun _ _ _ _ _ => (sg_name nd rfl (by first | exact Or.inl rfl | exact Or.inr rfl))) (fun _ _ _ _ _ => sts_nil) (fun _ _ _ _ _ => (se_user dr hr (by rfl) L2.takes0 (sa_cons (se_ix (se_var 0) (se_var 2) (fun _ _ => rfl)) (sa_cons (se_ix (se_var 1) (se_var 2) (fun _ _ => rfl)) sa_nil)) (hk := by omega))) fin_data) sa_nil))))) sss_nil)
  (sss_cons (ss_if (sb_cmp om_is (se_var 1) se_none (by rfl)) (sss_one (ss_ret (se_cmp om_is (se_var 0) se_none (by rfl)))) sss_nil)
  (sss_cons (ss_if (sb_val (se_isi .bool (se_var 1) (by rfl) (c.free 6) (by rfl) (c.free 3))) (sss_one (ss_ret (se_if (sb_val (se_var 1)) (se_cmp om_is (se_var 0) se_bool (by rfl)) (se_cmp om_is (se_var 0) se_bool (by rfl))))) sss_nil)
  (sss_cons (ss_if (sb_val (se_isi .int (se_var 1) (by rfl) (c.free 6) (by rfl) (c.free 5))) (sss_one (ss_ret (se_and (se_isi .int (se_var 0) (by rfl) (c.free 6) (by rfl) (c.free 5)) (se_and (se_not (se_isi .bool (se_var 0) (by rfl) (c.free 6) (by rfl) (c.free 3))) (se_one (se_cmp (om_eqW hr.units) (se_callTy cm_int (by rfl) (c.free 5) boot_int (sa_cons (se_var 0) sa_nil)) (se_var 1) (by rfl))))))) sss_nil)
  (sss_one (ss_ret (se_and (se_isi .str (se_var 0) (by rfl) (c.free 6) (by rfl) (c.free 14)) (se_one (se_cmp (om_eqW hr.units) (se_callTy cm_strI (by rfl) (c.free 14) boot_str (sa_cons (se_var 0) sa_nil)) (se_var 1) (by rfl))))))))))
theorem dr__law_same {g : Gd} (c : GG g) : ∀ n, Def g ("_law_same" : Str) (n + 1) 2 (fr__law_same n)
  | 0 => by rw [Nat.zero_add]; exact mkDef0 (k := 0) (c.fnAt 22 40) sc__law_same bd__law_same
  | n + 1 => by have h := mkDef (c.fnAt 22 40) sc__law_same bd__law_same (does__law_same c (dr__law_same c n)); rw [Nat.add_right_comm] at h; exact h
theorem d__law_same {g : Gd} (c : GG g) : Def g ("_law_same" : Str) 9 2 f__law_same := dr__law_same c 8
/-! ### _law_cup -/
theorem sc__law_cup : FnScope N__law_cup [("script" : Str)] (defScope (tp 37)) := ⟨rfl, rfl, rfl, by decide +kernel, rfl, by decide +kernel, by decide +kernel⟩
theorem bd__law_cup : BindsAll ("_law_cup" : Str) (defArgs (tp 37)) (defBody (tp 37)) (defScope (tp 37)) [("script" : Str)] := fun _ _ _ _ _ _ us hl => match us, hl with | [_], _ => rfl
theorem does__law_cup {g : Gd} (c : GG g) : Does g ("_law_cup" : Str) (defBody (tp 37)) (defScope (tp 37)) N__law_cup 0 (b__law_cup) := fun f cdv A outer s H E hr hcd =>
  have tk := takesD (g := g) (x := ("_law_cup" : Str)) (scope := defScope (tp 37)) (N := N__law_cup) (f := f) (cdv := cdv) (A := A) (outer := outer) (s := s) (H := H) (E := E)
  have hp := passD (g := g) (x := ("_law_cup" : Str)) (scope := defScope (tp 37)) (N := N__law_cup) (f := f) (cdv := cdv) (A := A) (outer := outer) (s := s) (H := H) (E := E)
  have nd := sc__law_cup.nd
  (sss_cons (ss_set nd rfl (by first | exact Or.inl rfl | exact Or.inr rfl) (se_callB cm_abs (by rfl) (c.free 0) boot_abs (sa_cons (se_ix (se_op om_addW (se_listScr 0 (hg := by rfl) (hm := (c.free 8))) (se_lst (sa_cons se_int sa_nil))) se_int (fun _ _ => rfl)) sa_nil)))
  (sss_one (ss_ret (se_mut (sa_cons (se_if (sb_cmp om_ge (se_var 1) (se_op om_pow se_int se_int) (by rfl)) (se_op om_fdiv (se_var 1) se_int) se_int) (sa_cons (se_op om_addW (se_op om_mod (se_callTy cm_int (by rfl) (c.free 5) boot_int (sa_cons (se_op om_addW (se_op om_mul (se_var 1) se_int) se_int) sa_nil)) se_int) se_int) sa_nil))))))
theorem d__law_cup {g : Gd} (c : GG g) : DefS g ("_law_cup" : Str) 1 f__law_cup := mkDefS (c.fnAt 23 41) sc__law_cup (by decide) bd__law_cup (does__law_cup c)
/-! ### _law_roll -/
theorem sc__law_roll : FnScope N__law_roll [("cup" : Str), ("many" : Str)] (defScope (tp 38)) := ⟨rfl, rfl, rfl, by decide +kernel, rfl, by decide +kernel, by decide +kernel⟩
theorem bd__law_roll : BindsAll ("_law_roll" : Str) (defArgs (tp 38)) (defBody (tp 38)) (defScope (tp 38)) [("cup" : Str), ("many" : Str)] := fun _ _ _ _ _ _ us hl => match us, hl with | [_, _], _ => rfl
theorem does__law_roll {g : Gd} (c : GG g) : Does g ("_law_roll" : Str) (defBody (tp 38)) (defScope (tp 38)) N__law_roll 0 (b__law_roll) := fun f cdv A outer s H E hr hcd =>
  have tk := takesD (g := g) (x := ("_law_roll" : Str)) (scope := defScope (tp 38)) (N := N__law_roll) (f := f) (cdv := cdv) (A := A) (outer := outer) (s := s) (H := H) (E := E)
  have hp := passD (g := g) (x := ("_law_roll" : Str)) (scope := defScope (tp 38)) (N := N__law_roll) (f := f) (cdv := cdv) (A := A) (outer := outer) (s := s) (H := H) (E := E)
  have nd := sc__law_roll.nd
  (sss_cons (ss_if (sb_cmp om_gt (se_ix (se_var 0) se_int (fun _ _ => rfl)) se_int (by rfl)) (sss_cons (ss_set nd rfl (by first | exact Or.inl rfl | exact Or.inr rfl) (se_op om_mod (se_callTy cm_int (by rfl) (c.free 5) boot_int (sa_cons (se_ix (se_var 0) se_int (fun _ _ => rfl)) sa_nil)) (se_var 1)))
  (sss_cons (ss_setIx (se_var 0) se_int (se_op om_fdiv (se_ix (se_var 0) se_int (fun _ _ => rfl)) (se_var 1)))
  (sss_one (ss_ret (se_var 3))))) sss_nil)
  (sss_cons (ss_setIx (se_var 0) se_int (se_op om_mod (se_callTy cm_int (by rfl) (c.free 5) boot_int (sa_cons (se_op om_addW (se_op om_mul (se_ix (se_var 0) se_int (fun _ _ => rfl)) se_int) se_int) sa_nil)) se_int))
  (sss_cons (ss_set nd rfl (by first | exact Or.inl rfl | exact Or.inr rfl) (se_op om_mod (se_callTy cm_int (by rfl) (c.free 5) boot_int (sa_cons (se_op om_mul (se_ix (se_var 0) se_int (fun _ _ => rfl)) (se_op om_addW (se_ix (se_var 0) se_int (fun _ _ => rfl)) se_int)) sa_nil)) se_int))
  (sss_one (ss_ret (se_op om_mod (se_callTy cm_int (by rfl) (c.free 5) boot_int (sa_cons (se_op om_fdiv (se_var 2) se_int) sa_nil)) (se_var 1)))))))
theorem d__law_roll {g : Gd} (c : GG g) : Def g ("_law_roll" : Str) 1 2 (f__law_roll) := mkDef (c.fnAt 24 42) sc__law_roll bd__law_roll (does__law_roll c)
/-! ### _law_some -/
theorem sc__law_some : FnScope N__law_some [("cup" : Str), ("things" : Str)] (defScope (tp 39)) := ⟨rfl, rfl, rfl, by decide +kernel, rfl, by decide +kernel, by decide +kernel⟩
theorem bd__law_some : BindsAll ("_law_some" : Str) (defArgs (tp 39)) (defBody (tp 39)) (defScope (tp 39)) [("cup" : Str), ("things" : Str)] := fun _ _ _ _ _ _ us hl => match us, hl with | [_, _], _ => rfl
theorem does__law_some {g : Gd} (c : GG g) : Does g ("_law_some" : Str) (defBody (tp 39)) (defScope (tp 39)) N__law_some 1 (b__law_some) := fun f cdv A outer s H E hr hcd =>
  have tk := takesD (g := g) (x := ("_law_some" : Str)) (scope := defScope (tp 39)) (N := N__law_some) (f := f) (cdv := cdv) (A := A) (outer := outer) (s := s) (H := H) (E := E)
  have hp := passD (g := g) (x := ("_law_some" : Str)) (scope := defScope (tp 39)) (N := N__law_some) (f := f) (cdv := cdv) (A := A) (outer := outer) (s := s) (H := H) (E := E)
  have nd := sc__law_some.nd
  (sss_one (ss_ret (se_ix (se_var 1) (se_user (d__law_roll c) hr (by rfl) tk (sa_cons (se_var 0) (sa_cons (se_callB cm_len (by rfl) (c.free 7) boot_len (sa_cons (se_var 1) sa_nil)) sa_nil))) (fun _ _ => rfl))))
theorem d__law_some {g : Gd} (c : GG g) : Def g ("_law_some" : Str) 2 2 (f__law_some) := mkDef (c.fnAt 25 43) sc__law_some bd__law_some (does__law_some c)
/-! ### _law_pool -/
theorem sc__law_pool : FnScope N__law_pool [("cup" : Str)] (defScope (tp 40)) := ⟨rfl, rfl, rfl, by decide +kernel, rfl, by decide +kernel, by decide +kernel⟩
theorem bd__law_pool : BindsAll ("_law_pool" : Str) (defArgs (tp 40)) (defBody (tp 40)) (defScope (tp 40)) [("cup" : Str)] := fun _ _ _ _ _ _ us hl => match us, hl with | [_], _ => rfl
theorem does__law_pool {g : Gd} (c : GG g) : Does g ("_law_pool" : Str) (defBody (tp 40)) (defScope (tp 40)) N__law_pool 1 (b__law_pool) := fun f cdv A outer s H E hr hcd =>
  have tk := takesD (g := g) (x := ("_law_pool" : Str)) (scope := defScope (tp 40)) (N := N__law_pool) (f := f) (cdv := cdv) (A := A) (outer := outer) (s := s) (H := H) (E := E)
  have hp := passD (g := g) (x := ("_law_pool" : Str)) (scope := defScope (tp 40)) (N := N__law_pool) (f := f) (cdv := cdv) (A := A) (outer := outer) (s := s) (H := H) (E := E)
  have nd := sc__law_pool.nd
  (sss_cons (ss_asgT (se_tup (sa_cons se_str (sa_cons se_str sa_nil))) (sg_tup rfl (sgs_cons (sg_name nd rfl (by first | exact Or.inl rfl | exact Or.inr rfl)) (sgs_cons (sg_name nd rfl (by first | exact Or.inl rfl | exact Or.inr rfl)) sgs_nil))))
  (sss_cons (ss_if (sb_cmp om_gt (se_user (d__law_roll c) hr (by rfl) tk (sa_cons (se_var 0) (sa_cons se_int sa_nil))) se_int (by rfl)) (sss_one (ss_set nd rfl (by first | exact Or.inl rfl | exact Or.inr rfl) (se_op om_addW (se_ix (se_var 2) (se_user (d__law_roll c) hr (by rfl) tk (sa_cons (se_var 0) (sa_cons se_int sa_nil))) (fun _ _ => rfl)) (se_join se_str (se_lc rfl nd (si_range1 (by rfl) (c.free 11) (sa_cons (se_user (d__law_roll c) hr (by rfl) tk (sa_cons (se_var 0) (sa_cons se_int sa_nil))) sa_nil)) (own := [(("turn" : Str), 5)]) (blkOk_by (by show blkC N__law_pool (defScope (tp 40)) _ _ = true; decide +kernel)) (fun _ _ _ _ _ => (sg_name nd rfl (by first | exact Or.inl rfl | exact Or.inr rfl))) (fun _ _ _ _ _ => sts_nil) (fun _ _ _ _ _ => (se_ix (se_var 2) (se_user (d__law_roll c) hr (by rfl) L2.takes0 (sa_cons (se_var 0) (sa_cons se_int sa_nil))) (fun _ _ => rfl))) fin_data))))) sss_nil)
  (sss_cons (ss_set nd rfl (by first | exact Or.inl rfl | exact Or.inr rfl) (se_user (d__law_roll c) hr (by rfl) tk (sa_cons (se_var 0) (sa_cons (se_op om_addW (se_callB cm_len (by rfl) (c.free 7) boot_len (sa_cons (se_var 3) sa_nil)) se_int) sa_nil))))
  (sss_one (ss_ret (se_lc rfl nd (si_str se_str) (own := [(("sign" : Str), 4)]) (blkOk_by (by show blkC N__law_pool (defScope (tp 40)) _ _ = true; decide +kernel)) (fun _ _ _ _ _ => (sg_name nd rfl (by first | exact Or.inl rfl | exact Or.inr rfl))) (fun _ _ _ _ _ => sts_nil) (fun _ _ _ _ _ => (se_op om_addW (se_op om_addW (se_slice (se_var 3) so_none (so_some (se_var 1))) (se_var 4)) (se_slice (se_var 3) (so_some (se_var 1)) so_none))) fin_data))))))
theorem d__law_pool {g : Gd} (c : GG g) : Def g ("_law_pool" : Str) 2 1 (f__law_pool) := mkDef (c.fnAt 26 44) sc__law_pool bd__law_pool (does__law_pool c)
/-! ### _law_value -/
theorem sc__law_value : FnScope N__law_value [("cup" : Str)] (defScope (tp 41)) := ⟨rfl, rfl, rfl, by decide +kernel, rfl, by decide +kernel, by decide +kernel⟩
theorem bd__law_value : BindsAll ("_law_value" : Str) (defArgs (tp 41)) (defBody (tp 41)) (defScope (tp 41)) [("cup" : Str)] := fun _ _ _ _ _ _ us hl => match us, hl with | [_], _ => rfl
theorem does__law_value {g : Gd} (c : GG g) : Does g ("_law_value" : Str) (defBody (tp 41)) (defScope (tp 41)) N__law_value 2 (b__law_value) := fun f cdv A outer s H E hr hcd =>
  have tk := takesD (g := g) (x := ("_law_value" : Str)) (scope := defScope (tp 41)) (N := N__law_value) (f := f) (cdv := cdv) (A := A) (outer := outer) (s := s) (H := H) (E := E)
  have hp := passD (g := g) (x := ("_law_value" : Str)) (scope := defScope (tp 41)) (N := N__law_value) (f := f) (cdv := cdv) (A := A) (outer := outer) (s := s) (H := H) (E := E)
  have nd := sc__law_value.nd
  (sss_one (ss_ret (se_user (d__law_some c) hr (by rfl) tk (sa_cons (se_var 0) (sa_cons (se_lst (sa_cons se_int (sa_cons se_int (sa_cons (se_neg se_int) (sa_cons se_int (sa_cons (se_neg se_int) (sa_cons (se_op om_sub (se_user (d__law_roll c) hr (by rfl) tk (sa_cons (se_var 0) (sa_cons se_int sa_nil))) se_int) sa_nil))))))) sa_nil)))))
theorem d__law_value {g : Gd} (c : GG g) : Def g ("_law_value" : Str) 3 1 (f__law_value) := mkDef (c.fnAt 27 45) sc__law_value bd__law_value (does__law_value c)
/-! ### _law_begun -/
theorem sc__law_begun : FnScope N__law_begun [("row" : Str)] (defScope (tp 42)) := ⟨rfl, rfl, rfl, by decide +kernel, rfl, by decide +kernel, by decide +kernel⟩
theorem bd__law_begun : BindsAll ("_law_begun" : Str) (defArgs (tp 42)) (defBody (tp 42)) (defScope (tp 42)) [("row" : Str)] := fun _ _ _ _ _ _ us hl => match us, hl with | [_], _ => rfl
theorem does__law_begun {g : Gd} (c : GG g) : Does g ("_law_begun" : Str) (defBody (tp 42)) (defScope (tp 42)) N__law_begun 0 (b__law_begun) := fun f cdv A outer s H E hr hcd =>
  have tk := takesD (g := g) (x := ("_law_begun" : Str)) (scope := defScope (tp 42)) (N := N__law_begun) (f := f) (cdv := cdv) (A := A) (outer := outer) (s := s) (H := H) (E := E)
  have hp := passD (g := g) (x := ("_law_begun" : Str)) (scope := defScope (tp 42)) (N := N__law_begun) (f := f) (cdv := cdv) (A := A) (outer := outer) (s := s) (H := H) (E := E)
  have nd := sc__law_begun.nd
  (sss_one (ss_ret (se_op om_addW (se_lst (sa_cons se_str sa_nil)) (se_lc rfl nd (si_tup (se_var 0)) (own := [(("thread" : Str), 1), (("deed" : Str), 2)]) (blkOk_by (by show blkC N__law_begun (defScope (tp 42)) _ _ = true; decide +kernel)) (fun _ _ _ _ _ => (sg_tup rfl (sgs_cons (sg_name nd rfl (by first | exact Or.inl rfl | exact Or.inr rfl)) (sgs_cons (sg_name nd rfl (by first | exact Or.inl rfl | exact Or.inr rfl)) sgs_nil)))) (fun _ _ _ _ _ => (sts_one (sb_cmp (om_eqW hr.units) (se_ix (se_var 2) se_int (fun _ _ => rfl)) se_str (by rfl)))) (fun _ _ _ _ _ => (se_ix (se_var 2) se_int (fun _ _ => rfl))) fin_data))))
theorem d__law_begun {g : Gd} (c : GG g) : Def g ("_law_begun" : Str) 1 1 (f__law_begun) := mkDef (c.fnAt 28 46) sc__law_begun bd__law_begun (does__law_begun c)
/-! ### _law_own -/
theorem sc__law_own : FnScope N__law_own [("row" : Str), ("thread" : Str)] (defScope (tp 43)) := ⟨rfl, rfl, rfl, by decide +kernel, rfl, by decide +kernel, by decide +kernel⟩
theorem bd__law_own : BindsAll ("_law_own" : Str) (defArgs (tp 43)) (defBody (tp 43)) (defScope (tp 43)) [("row" : Str), ("thread" : Str)] := fun _ _ _ _ _ _ us hl => match us, hl with | [_, _], _ => rfl
theorem does__law_own {g : Gd} (c : GG g) : Does g ("_law_own" : Str) (defBody (tp 43)) (defScope (tp 43)) N__law_own 0 (b__law_own) := fun f cdv A outer s H E hr hcd =>
  have tk := takesD (g := g) (x := ("_law_own" : Str)) (scope := defScope (tp 43)) (N := N__law_own) (f := f) (cdv := cdv) (A := A) (outer := outer) (s := s) (H := H) (E := E)
  have hp := passD (g := g) (x := ("_law_own" : Str)) (scope := defScope (tp 43)) (N := N__law_own) (f := f) (cdv := cdv) (A := A) (outer := outer) (s := s) (H := H) (E := E)
  have nd := sc__law_own.nd
  (sss_one (ss_ret (se_lc rfl nd (si_tup (se_var 0)) (own := [(("who" : Str), 2), (("deed" : Str), 3)]) (blkOk_by (by show blkC N__law_own (defScope (tp 43)) _ _ = true; decide +kernel)) (fun _ _ _ _ _ => (sg_tup rfl (sgs_cons (sg_name nd rfl (by first | exact Or.inl rfl | exact Or.inr rfl)) (sgs_cons (sg_name nd rfl (by first | exact Or.inl rfl | exact Or.inr rfl)) sgs_nil)))) (fun _ _ _ _ _ => (sts_one (sb_cmp (om_eqW hr.units) (se_var 2) (se_var 1) (by rfl)))) (fun _ _ _ _ _ => (se_var 3)) fin_data)))
theorem d__law_own {g : Gd} (c : GG g) : Def g ("_law_own" : Str) 1 2 (f__law_own) := mkDef (c.fnAt 29 47) sc__law_own bd__law_own (does__law_own c)
/-! ### _law_worth -/
theorem sc__law_worth : FnScope N__law_worth [("row" : Str), ("cell" : Str)] (defScope (tp 44)) := ⟨rfl, rfl, rfl, by decide +kernel, rfl, by decide +kernel, by decide +kernel⟩
theorem bd__law_worth : BindsAll ("_law_worth" : Str) (defArgs (tp 44)) (defBody (tp 44)) (defScope (tp 44)) [("row" : Str), ("cell" : Str)] := fun _ _ _ _ _ _ us hl => match us, hl with | [_, _], _ => rfl
theorem does__law_worth {g : Gd} (c : GG g) : Does g ("_law_worth" : Str) (defBody (tp 44)) (defScope (tp 44)) N__law_worth 0 (b__law_worth) := fun f cdv A outer s H E hr hcd =>
  have tk := takesD (g := g) (x := ("_law_worth" : Str)) (scope := defScope (tp 44)) (N := N__law_worth) (f := f) (cdv := cdv) (A := A) (outer := outer) (s := s) (H := H) (E := E)
  have hp := passD (g := g) (x := ("_law_worth" : Str)) (scope := defScope (tp 44)) (N := N__law_worth) (f := f) (cdv := cdv) (A := A) (outer := outer) (s := s) (H := H) (E := E)
  have nd := sc__law_worth.nd
  (sss_one (ss_ret (se_ix (se_op om_addW (se_lst (sa_cons se_int sa_nil)) (se_lc rfl nd (si_tup (se_var 0)) (own := [(("thread" : Str), 2), (("deed" : Str), 3)]) (blkOk_by (by show blkC N__law_worth (defScope (tp 44)) _ _ = true; decide +kernel)) (fun _ _ _ _ _ => (sg_tup rfl (sgs_cons (sg_name nd rfl (by first | exact Or.inl rfl | exact Or.inr rfl)) (sgs_cons (sg_name nd rfl (by first | exact Or.inl rfl | exact Or.inr rfl)) sgs_nil)))) (fun _ _ _ _ _ => (sts_one (sb_cmp (om_eqW hr.units) (se_slice (se_var 3) so_none (so_some se_int)) (se_tup (sa_cons se_str (sa_cons (se_var 1) sa_nil))) (by rfl)))) (fun _ _ _ _ _ => (se_ix (se_var 3) se_int (fun _ _ => rfl))) fin_data)) (se_neg se_int) (fun _ _ => rfl))))
theorem d__law_worth {g : Gd} (c : GG g) : Def g ("_law_worth" : Str) 1 2 (f__law_worth) := mkDef (c.fnAt 30 48) sc__law_worth bd__law_worth (does__law_worth c)
/-! ### _law_letters -/
theorem sc__law_letters : FnScope N__law_letters [("row" : Str), ("box" : Str)] (defScope (tp 45)) := ⟨rfl, rfl, rfl, by decide +kernel, rfl, by decide +kernel, by decide +kernel⟩
theorem bd__law_letters : BindsAll ("_law_letters" : Str) (defArgs (tp 45)) (defBody (tp 45)) (defScope (tp 45)) [("row" : Str), ("box" : Str)] := fun _ _ _ _ _ _ us hl => match us, hl with | [_, _], _ => rfl
theorem does__law_letters {g : Gd} (c : GG g) : Does g ("_law_letters" : Str) (defBody (tp 45)) (defScope (tp 45)) N__law_letters 0 (b__law_letters) := fun f cdv A outer s H E hr hcd =>
  have tk := takesD (g := g) (x := ("_law_letters" : Str)) (scope := defScope (tp 45)) (N := N__law_letters) (f := f) (cdv := cdv) (A := A) (outer := outer) (s := s) (H := H) (E := E)
  have hp := passD (g := g) (x := ("_law_letters" : Str)) (scope := defScope (tp 45)) (N := N__law_letters) (f := f) (cdv := cdv) (A := A) (outer := outer) (s := s) (H := H) (E := E)
  have nd := sc__law_letters.nd
  (sss_cons (ss_setLc rfl nd rfl rfl (by rfl) (si_tup (se_var 0)) (own := [(("thread" : Str), 3), (("deed" : Str), 4)]) (blkOk_by (by show blkC N__law_letters (defScope (tp 45)) _ _ = true; decide +kernel)) (fun _ _ _ _ _ => (sg_tup rfl (sgs_cons (sg_name nd rfl (by first | exact Or.inl rfl | exact Or.inr rfl)) (sgs_cons (sg_name nd rfl (by first | exact Or.inl rfl | exact Or.inr rfl)) sgs_nil)))) (fun _ _ _ _ _ => (sts_one (sb_cmp (om_eqW hr.units) (se_slice (se_var 4) so_none (so_some se_int)) (se_tup (sa_cons se_str (sa_cons (se_var 1) sa_nil))) (by rfl)))) (fun _ _ _ _ _ => (se_ix (se_var 4) se_int (fun _ _ => rfl))) fin_data)
  (sss_one (ss_ret (se_slice (se_var 2) (so_some (se_callB cm_len (by rfl) (c.free 7) boot_len (sa_cons (se_lc rfl nd (si_tup (se_var 0)) (own := [(("thread" : Str), 3), (("deed" : Str), 4)]) (blkOk_by (by show blkC N__law_letters (defScope (tp 45)) _ _ = true; decide +kernel)) (fun _ _ _ _ _ => (sg_tup rfl (sgs_cons (sg_name nd rfl (by first | exact Or.inl rfl | exact Or.inr rfl)) (sgs_cons (sg_name nd rfl (by first | exact Or.inl rfl | exact Or.inr rfl)) sgs_nil)))) (fun _ _ _ _ _ => (sts_one (sb_cmp (om_eqW hr.units) (se_slice (se_var 4) so_none (so_some se_int)) (se_tup (sa_cons se_str (sa_cons (se_var 1) sa_nil))) (by rfl)))) (fun _ _ _ _ _ => se_int) fin_data) sa_nil))) so_none))))
theorem d__law_letters {g : Gd} (c : GG g) : Def g ("_law_letters" : Str) 1 2 (f__law_letters) := mkDef (c.fnAt 31 49) sc__law_letters bd__law_letters (does__law_letters c)
/-! ### _law_holder -/
theorem sc__law_holder : FnScope N__law_holder [("row" : Str), ("lock" : Str)] (defScope (tp 46)) := ⟨rfl, rfl, rfl, by decide +kernel, rfl, by decide +kernel, by decide +kernel⟩
theorem bd__law_holder : BindsAll ("_law_holder" : Str) (defArgs (tp 46)) (defBody (tp 46)) (defScope (tp 46)) [("row" : Str), ("lock" : Str)] := fun _ _ _ _ _ _ us hl => match us, hl with | [_, _], _ => rfl
theorem does__law_holder {g : Gd} (c : GG g) : Does g ("_law_holder" : Str) (defBody (tp 46)) (defScope (tp 46)) N__law_holder 0 (b__law_holder) := fun f cdv A outer s H E hr hcd =>
  have tk := takesD (g := g) (x := ("_law_holder" : Str)) (scope := defScope (tp 46)) (N := N__law_holder) (f := f) (cdv := cdv) (A := A) (outer := outer) (s := s) (H := H) (E := E)
  have hp := passD (g := g) (x := ("_law_holder" : Str)) (scope := defScope (tp 46)) (N := N__law_holder) (f := f) (cdv := cdv) (A := A) (outer := outer) (s := s) (H := H) (E := E)
  have nd := sc__law_holder.nd
  (sss_cons (ss_par rfl nd rfl rfl (by decide) rfl rfl (sa_cons se_none (sa_cons se_dic sa_nil)) (by rfl))
  (sss_cons (ss_for hp rfl (si_tup (se_var 0)) (sg_tup rfl (sgs_cons (sg_name nd rfl (by first | exact Or.inl rfl | exact Or.inr rfl)) (sgs_cons (sg_name nd rfl (by first | exact Or.inl rfl | exact Or.inr rfl)) sgs_nil))) (sss_cons (ss_if (sb_cmp (om_eqW hr.units) (se_ix (se_var 5) se_int (fun _ _ => rfl)) se_str (by rfl)) (sss_one (ss_setK (units1 hr) (se_var 3) (se_var 4) (se_ix (se_var 5) se_int (fun _ _ => rfl)))) sss_nil)
  (sss_cons (ss_if (sw_or (sb_cmp (om_eqW hr.units) (se_var 5) (se_tup (sa_cons se_str (sa_cons (se_var 1) sa_nil))) (by rfl)) (sw_or1 (sw_and (sb_cmp (om_eqW hr.units) (se_ix (se_var 5) se_int (fun _ _ => rfl)) se_str (by rfl)) (sw_and1 (sb_cmp (om_eqW hr.units) (se_dget (units1 hr) (se_var 3) (se_var 4) (fun _ _ => rfl)) (se_var 1) (by rfl)))).pt)).pt (sss_one (ss_set nd rfl (by first | exact Or.inl rfl | exact Or.inr rfl) (se_var 4))) sss_nil)
  (sss_one (ss_if (sw_and (sb_cmp (om_inW (units65 hr)) (se_ix (se_var 5) se_int (fun _ _ => rfl)) (se_tup (sa_cons se_str (sa_cons se_str sa_nil))) (by rfl)) (sw_and1 (sb_cmp (om_eqW hr.units) (se_ix (se_var 5) (se_neg se_int) (fun _ _ => rfl)) (se_var 1) (by rfl)))).pt (sss_one (ss_set nd rfl (by first | exact Or.inl rfl | exact Or.inr rfl) se_none)) sss_nil)))))
  (sss_one (ss_ret (se_var 2)))))
theorem d__law_holder {g : Gd} (c : GG g) : Def g ("_law_holder" : Str) 1 2 (f__law_holder) := mkDef (c.fnAt 32 50) sc__law_holder bd__law_holder (does__law_holder c)
/-! ### _law_called -/
theorem sc__law_called : FnScope N__law_called [("row" : Str), ("call" : Str)] (defScope (tp 47)) := ⟨rfl, rfl, rfl, by decide +kernel, rfl, by decide +kernel, by decide +kernel⟩
theorem bd__law_called : BindsAll ("_law_called" : Str) (defArgs (tp 47)) (defBody (tp 47)) (defScope (tp 47)) [("row" : Str), ("call" : Str)] := fun _ _ _ _ _ _ us hl => match us, hl with | [_, _], _ => rfl
theorem does__law_called {g : Gd} (c : GG g) : Does g ("_law_called" : Str) (defBody (tp 47)) (defScope (tp 47)) N__law_called 0 (b__law_called) := fun f cdv A outer s H E hr hcd =>
  have tk := takesD (g := g) (x := ("_law_called" : Str)) (scope := defScope (tp 47)) (N := N__law_called) (f := f) (cdv := cdv) (A := A) (outer := outer) (s := s) (H := H) (E := E)
  have hp := passD (g := g) (x := ("_law_called" : Str)) (scope := defScope (tp 47)) (N := N__law_called) (f := f) (cdv := cdv) (A := A) (outer := outer) (s := s) (H := H) (E := E)
  have nd := sc__law_called.nd
  (sss_cons (ss_par rfl nd rfl rfl (by decide) rfl rfl (sa_cons (se_mut sa_nil) (sa_cons (se_mut sa_nil) sa_nil)) (by rfl))
  (sss_cons (ss_for hp rfl (si_tup (se_var 0)) (sg_tup rfl (sgs_cons (sg_name nd rfl (by first | exact Or.inl rfl | exact Or.inr rfl)) (sgs_cons (sg_name nd rfl (by first | exact Or.inl rfl | exact Or.inr rfl)) sgs_nil))) (sss_cons (ss_if (sb_cmp (om_eqW hr.units) (se_slice (se_var 5) so_none (so_some se_int)) (se_tup (sa_cons se_str (sa_cons (se_var 1) sa_nil))) (by rfl)) (sss_one (ss_expr (se_app (se_var 2) (se_var 4)))) sss_nil)
  (sss_cons (ss_if (sw_and (sb_cmp (om_eqW hr.units) (se_var 5) (se_tup (sa_cons se_str (sa_cons (se_var 1) sa_nil))) (by rfl)) (sw_and1 (sb_cmp (om_neW hr.units) (se_var 2) (se_lst sa_nil) (by rfl)))).pt (sss_cons (ss_expr (se_app (se_var 3) (se_ix (se_var 2) se_int (fun _ _ => rfl))))
  (sss_one (ss_set nd rfl (by first | exact Or.inl rfl | exact Or.inr rfl) (se_sliceM (se_var 2) (so_some se_int) so_none)))) sss_nil)
  (sss_one (ss_if (sb_cmp (om_eqW hr.units) (se_var 5) (se_tup (sa_cons se_str (sa_cons (se_var 1) sa_nil))) (by rfl)) (sss_one (ss_setLc rfl nd rfl rfl (by rfl) (si_list (se_var 3)) (own := [(("one" : Str), 6)]) (blkOk_by (by show blkC N__law_called (defScope (tp 47)) _ _ = true; decide +kernel)) (fun _ _ _ _ _ => (sg_name nd rfl (by first | exact Or.inl rfl | exact Or.inr rfl))) (fun _ _ _ _ _ => (sts_one (sb_cmp (om_neW hr.units) (se_var 6) (se_var 4) (by rfl)))) (fun _ _ _ _ _ => (se_var 6)) fin_mut)) sss_nil)))))
  (sss_one (ss_ret (se_tup (sa_cons (se_frz (se_var 2)) (sa_cons (se_frz (se_var 3)) sa_nil)))))))
theorem d__law_called {g : Gd} (c : GG g) : Def g ("_law_called" : Str) 1 2 (f__law_called) := mkDef (c.fnAt 33 51) sc__law_called bd__law_called (does__law_called c)
/-! ### _law_lets -/
theorem sc__law_lets : FnScope N__law_lets [("row" : Str), ("thread" : Str), ("deed" : Str)] (defScope (tp 48)) := ⟨rfl, rfl, rfl, by decide +kernel, rfl, by decide +kernel, by decide +kernel⟩
theorem bd__law_lets : BindsAll ("_law_lets" : Str) (defArgs (tp 48)) (defBody (tp 48)) (defScope (tp 48)) [("row" : Str), ("thread" : Str), ("deed" : Str)] := fun _ _ _ _ _ _ us hl => match us, hl with | [_, _, _], _ => rfl
theorem does__law_lets {g : Gd} (c : GG g) : Does g ("_law_lets" : Str) (defBody (tp 48)) (defScope (tp 48)) N__law_lets 1 (b__law_lets) := fun f cdv A outer s H E hr hcd =>
  have tk := takesD (g := g) (x := ("_law_lets" : Str)) (scope := defScope (tp 48)) (N := N__law_lets) (f := f) (cdv := cdv) (A := A) (outer := outer) (s := s) (H := H) (E := E)
  have hp := passD (g := g) (x := ("_law_lets" : Str)) (scope := defScope (tp 48)) (N := N__law_lets) (f := f) (cdv := cdv) (A := A) (outer := outer) (s := s) (H := H) (E := E)
  have nd := sc__law_lets.nd
  (sss_cons (ss_par rfl nd rfl rfl (by decide) rfl rfl (sa_cons (se_user (d__law_own c) hr (by rfl) tk (sa_cons (se_var 0) (sa_cons (se_var 1) sa_nil))) (sa_cons (se_ix (se_var 2) se_int (fun _ _ => rfl)) sa_nil)) (by rfl))
  (sss_cons (ss_if (sw_or (sb_cmp (om_notinW (units65 hr)) (se_var 1) (se_user (d__law_begun c) hr (by rfl) tk (sa_cons (se_var 0) sa_nil)) (by rfl)) (sw_or1 (sb_cmp (om_inW (units65 hr)) (se_tup (sa_cons se_str sa_nil)) (se_var 3) (by rfl)))).pt (sss_one (ss_ret se_bool)) sss_nil)
  (sss_cons (ss_if (sw_or (sw_and (sb_cmp (om_neW hr.units) (se_var 3) (se_lst sa_nil) (by rfl)) (sw_and1 (sb_cmp (om_eqW hr.units) (se_ix (se_ix (se_var 3) (se_neg se_int) (fun _ _ => rfl)) se_int (fun _ _ => rfl)) se_str (by rfl)))).pt (sw_or1 (sb_cmp (om_eqW hr.units) (se_var 4) se_str (by rfl)))).pt (sss_cons (ss_if (sw_or (sb_cmp (om_eqW hr.units) (se_var 3) (se_lst sa_nil) (by rfl)) (sw_or (sb_cmp (om_neW hr.units) (se_ix (se_ix (se_var 3) (se_neg se_int) (fun _ _ => rfl)) se_int (fun _ _ => rfl)) se_str (by rfl)) (sw_or1 (sb_cmp (om_neW hr.units) (se_var 2) (se_tup (sa_cons se_str (sa_cons (se_ix (se_ix (se_var 3) (se_neg se_int) (fun _ _ => rfl)) se_int (fun _ _ => rfl)) sa_nil))) (by rfl))))).pt (sss_one (ss_ret se_bool)) sss_nil)
  (sss_one (ss_ret (se_and (se_cmp (om_inW (units65 hr)) (se_var 1) (se_ix (se_user (d__law_called c) hr (by rfl) tk (sa_cons (se_var 0) (sa_cons (se_ix (se_var 2) se_int (fun _ _ => rfl)) sa_nil))) se_int (fun _ _ => rfl)) (by rfl)) (se_one (se_cmp om_is (se_user (d__law_holder c) hr (by rfl) tk (sa_cons (se_var 0) (sa_cons (se_ix (se_ix (se_var 3) (se_neg se_int) (fun _ _ => rfl)) se_int (fun _ _ => rfl)) sa_nil))) se_none (by rfl))))))) sss_nil)
  (sss_cons (ss_if (sb_cmp (om_eqW hr.units) (se_var 4) se_str (by rfl)) (sss_one (ss_ret (se_cmp (om_eqW hr.units) (se_ix (se_var 2) se_int (fun _ _ => rfl)) (se_user (d__law_worth c) hr (by rfl) tk (sa_cons (se_var 0) (sa_cons (se_ix (se_var 2) se_int (fun _ _ => rfl)) sa_nil))) (by rfl)))) sss_nil)
  (sss_cons (ss_if (sb_cmp (om_eqW hr.units) (se_var 4) se_str (by rfl)) (sss_one (ss_ret (se_cmp (om_eqW hr.units) (se_slice (se_user (d__law_letters c) hr (by rfl) tk (sa_cons (se_var 0) (sa_cons (se_ix (se_var 2) se_int (fun _ _ => rfl)) sa_nil))) so_none (so_some se_int)) (se_lst (sa_cons (se_ix (se_var 2) se_int (fun _ _ => rfl)) sa_nil)) (by rfl)))) sss_nil)
  (sss_cons (ss_if (sb_cmp (om_eqW hr.units) (se_var 4) se_str (by rfl)) (sss_one (ss_ret (se_cmp om_is (se_user (d__law_holder c) hr (by rfl) tk (sa_cons (se_var 0) (sa_cons (se_ix (se_var 2) se_int (fun _ _ => rfl)) sa_nil))) se_none (by rfl)))) sss_nil)
  (sss_cons (ss_if (sb_cmp (om_inW (units65 hr)) (se_var 4) (se_tup (sa_cons se_str (sa_cons se_str sa_nil))) (by rfl)) (sss_one (ss_ret (se_cmp (om_eqW hr.units) (se_user (d__law_holder c) hr (by rfl) tk (sa_cons (se_var 0) (sa_cons (se_ix (se_var 2) (se_neg se_int) (fun _ _ => rfl)) sa_nil))) (se_var 1) (by rfl)))) sss_nil)
  (sss_cons (ss_if (sb_cmp (om_eqW hr.units) (se_var 4) se_str (by rfl)) (sss_one (ss_ret (se_cmp (om_notinW (units65 hr)) (se_ix (se_var 2) se_int (fun _ _ => rfl)) (se_user (d__law_begun c) hr (by rfl) tk (sa_cons (se_var 0) sa_nil)) (by rfl)))) sss_nil)
  (sss_one (ss_ret (se_or (se_cmp (om_neW hr.units) (se_var 4) se_str (by rfl)) (se_one (se_cmp (om_inW (units65 hr)) (se_tup (sa_cons (se_ix (se_var 2) se_int (fun _ _ => rfl)) (sa_cons (se_tup (sa_cons se_str sa_nil)) sa_nil))) (se_var 0) (by rfl))))))))))))))
theorem d__law_lets {g : Gd} (c : GG g) : Def g ("_law_lets" : Str) 2 3 (f__law_lets) := mkDef (c.fnAt 34 52) sc__law_lets bd__law_lets (does__law_lets c)
/-! ### _law_move -/
theorem sc__law_move : FnScope N__law_move [("cup" : Str), ("pool" : Str), ("row" : Str), ("words" : Str)] (defScope (tp 49)) := ⟨rfl, rfl, rfl, by decide +kernel, rfl, by decide +kernel, by decide +kernel⟩
theorem bd__law_move : BindsAll ("_law_move" : Str) (defArgs (tp 49)) (defBody (tp 49)) (defScope (tp 49)) [("cup" : Str), ("pool" : Str), ("row" : Str), ("words" : Str)] := fun _ _ _ _ _ _ us hl => match us, hl with | [_, _, _, _], _ => rfl
theorem does__law_move {g : Gd} (c : GG g) : Does g ("_law_move" : Str) (defBody (tp 49)) (defScope (tp 49)) N__law_move 3 (b__law_move) := fun f cdv A outer s H E hr hcd =>
  have tk := takesD (g := g) (x := ("_law_move" : Str)) (scope := defScope (tp 49)) (N := N__law_move) (f := f) (cdv := cdv) (A := A) (outer := outer) (s := s) (H := H) (E := E)
  have hp := passD (g := g) (x := ("_law_move" : Str)) (scope := defScope (tp 49)) (N := N__law_move) (f := f) (cdv := cdv) (A := A) (outer := outer) (s := s) (H := H) (E := E)
  have nd := sc__law_move.nd
  (sss_cons (ss_asgT (se_tup (sa_cons (se_user (d__law_some c) hr (by rfl) tk (sa_cons (se_var 0) (sa_cons (se_user (d__law_begun c) hr (by rfl) tk (sa_cons (se_var 2) sa_nil)) sa_nil))) (sa_cons (se_user (d__law_some c) hr (by rfl) tk (sa_cons (se_var 0) (sa_cons (se_var 3) sa_nil))) (sa_cons (se_user (d__law_some c) hr (by rfl) tk (sa_cons (se_var 0) (sa_cons (se_slice (se_var 1) so_none (so_some se_int)) sa_nil))) sa_nil)))) (sg_tup rfl (sgs_cons (sg_name nd rfl (by first | exact Or.inl rfl | exact Or.inr rfl)) (sgs_cons (sg_name nd rfl (by first | exact Or.inl rfl | exact Or.inr rfl)) (sgs_cons (sg_name nd rfl (by first | exact Or.inl rfl | exact Or.inr rfl)) sgs_nil)))))
  (sss_cons (ss_set nd rfl (by first | exact Or.inl rfl | exact Or.inr rfl) (se_user (d__law_own c) hr (by rfl) tk (sa_cons (se_var 2) (sa_cons (se_var 6) sa_nil))))
  (sss_cons (ss_if (sw_and (sb_cmp (om_neW hr.units) (se_var 4) (se_lst sa_nil) (by rfl)) (sw_and1 (sb_cmp (om_eqW hr.units) (se_ix (se_ix (se_var 4) (se_neg se_int) (fun _ _ => rfl)) se_int (fun _ _ => rfl)) se_str (by rfl)))).pt (sss_one (ss_ret (se_tup (sa_cons (se_var 6) (sa_cons (se_tup (sa_cons se_str (sa_cons (se_ix (se_ix (se_var 4) (se_neg se_int) (fun _ _ => rfl)) se_int (fun _ _ => rfl)) sa_nil))) sa_nil))))) sss_nil)
  (sss_cons (ss_if (sb_cmp (om_eqW hr.units) (se_var 7) se_str (by rfl)) (sss_one (ss_ret (se_tup (sa_cons (se_var 6) (sa_cons (se_tup (sa_cons (se_var 7) (sa_cons (se_var 8) (sa_cons (se_user (d__law_worth c) hr (by rfl) tk (sa_cons (se_var 2) (sa_cons (se_var 8) sa_nil))) sa_nil)))) sa_nil))))) sss_nil)
  (sss_cons (ss_if (sw_or (sb_cmp (om_eqW hr.units) (se_var 7) se_str (by rfl)) (sw_or1 (sb_cmp (om_eqW hr.units) (se_var 7) se_str (by rfl)))).pt (sss_one (ss_ret (se_tup (sa_cons (se_var 6) (sa_cons (se_tup (sa_cons (se_var 7) (sa_cons (se_var 8) (sa_cons (se_user (d__law_value c) hr (by rfl) tk (sa_cons (se_var 0) sa_nil)) sa_nil)))) sa_nil))))) sss_nil)
  (sss_cons (ss_if (sb_cmp (om_eqW hr.units) (se_var 7) se_str (by rfl)) (sss_one (ss_ret (se_tup (sa_cons (se_var 6) (sa_cons (se_tup (sa_cons (se_var 7) (sa_cons (se_var 8) (sa_cons (se_ix (se_op om_addW (se_user (d__law_letters c) hr (by rfl) tk (sa_cons (se_var 2) (sa_cons (se_var 8) sa_nil))) (se_lst (sa_cons se_int sa_nil))) se_int (fun _ _ => rfl)) sa_nil)))) sa_nil))))) sss_nil)
  (sss_cons (ss_if (sw_or (sb_cmp (om_eqW hr.units) (se_var 7) se_str (by rfl)) (sw_or1 (sb_cmp (om_eqW hr.units) (se_var 7) se_str (by rfl)))).pt (sss_one (ss_ret (se_tup (sa_cons (se_var 6) (sa_cons (se_tup (sa_cons (se_var 7) (sa_cons (se_user (d__law_some c) hr (by rfl) tk (sa_cons (se_var 0) (sa_cons (se_if (sb_cmp (om_eqW hr.units) (se_var 7) se_str (by rfl)) (se_var 1) (se_user (d__law_begun c) hr (by rfl) tk (sa_cons (se_var 2) sa_nil))) sa_nil))) sa_nil))) sa_nil))))) sss_nil)
  (sss_cons (ss_set nd rfl (by first | exact Or.inl rfl | exact Or.inr rfl) (se_user (d__law_some c) hr (by rfl) tk (sa_cons (se_var 0) (sa_cons (se_if (sb_cmp (om_eqW hr.units) (se_var 7) se_str (by rfl)) (se_slice (se_var 1) so_none (so_some se_int)) (se_op om_addW (se_lc rfl nd (si_list (se_slice (se_var 1) so_none (so_some se_int))) (own := [(("one" : Str), 9)]) (blkOk_by (by show blkC N__law_move (defScope (tp 49)) _ _ = true; decide +kernel)) (fun _ _ _ _ _ => (sg_name nd rfl (by first | exact Or.inl rfl | exact Or.inr rfl))) (fun _ _ _ _ _ => (sts_one (sb_cmp (om_eqW hr.units) (se_user (d__law_holder c) hr (by rfl) L2.takes0 (sa_cons (se_var 2) (sa_cons (se_var 9) sa_nil))) (se_var 6) (by rfl)))) (fun _ _ _ _ _ => (se_var 9)) fin_data) (se_lst (sa_cons (se_var 8) sa_nil)))) sa_nil))))
  (sss_cons (ss_if (sb_cmp (om_eqW hr.units) (se_var 7) se_str (by rfl)) (sss_one (ss_ret (se_tup (sa_cons (se_var 6) (sa_cons (se_tup (sa_cons (se_var 7) (sa_cons (se_var 8) (sa_cons (se_var 5) sa_nil)))) sa_nil))))) sss_nil)
  (sss_one (ss_ret (se_tup (sa_cons (se_var 6) (sa_cons (se_if (sb_cmp (om_neW hr.units) (se_var 7) se_str (by rfl)) (se_tup (sa_cons (se_var 7) (sa_cons (se_if (sb_cmp (om_eqW hr.units) (se_var 7) se_str (by rfl)) (se_var 8) (se_var 5)) sa_nil))) (se_tup (sa_cons (se_var 7) sa_nil))) sa_nil))))))))))))))
theorem d__law_move {g : Gd} (c : GG g) : Def g ("_law_move" : Str) 4 4 (f__law_move) := mkDef (c.fnAt 35 53) sc__law_move bd__law_move (does__law_move c)
/-! ### _law_run -/
theorem sc__law_run : FnScope N__law_run [("cup" : Str), ("pool" : Str), ("many" : Str), ("words" : Str)] (defScope (tp 50)) := ⟨rfl, rfl, rfl, by decide +kernel, rfl, by decide +kernel, by decide +kernel⟩
theorem bd__law_run : BindsAll ("_law_run" : Str) (defArgs (tp 50)) (defBody (tp 50)) (defScope (tp 50)) [("cup" : Str), ("pool" : Str), ("many" : Str), ("words" : Str)] := fun _ _ _ _ _ _ us hl => match us, hl with | [_, _, _, _], _ => rfl
theorem does__law_run {g : Gd} (c : GG g) : Does g ("_law_run" : Str) (defBody (tp 50)) (defScope (tp 50)) N__law_run 4 (b__law_run) := fun f cdv A outer s H E hr hcd =>
  have tk := takesD (g := g) (x := ("_law_run" : Str)) (scope := defScope (tp 50)) (N := N__law_run) (f := f) (cdv := cdv) (A := A) (outer := outer) (s := s) (H := H) (E := E)
  have hp := passD (g := g) (x := ("_law_run" : Str)) (scope := defScope (tp 50)) (N := N__law_run) (f := f) (cdv := cdv) (A := A) (outer := outer) (s := s) (H := H) (E := E)
  have nd := sc__law_run.nd
  (sss_cons (ss_set nd rfl (by first | exact Or.inl rfl | exact Or.inr rfl) (se_callTy cm_tuple (by rfl) (c.free 16) boot_tuple (sa_cons (se_lc rfl nd (si_list (se_slice (se_var 1) so_none (so_some (se_callB (cm_min rfl) (by rfl) (c.free 10) boot_min (sa_cons (se_var 2) (sa_cons (se_user (d__law_roll c) hr (by rfl) tk (sa_cons (se_var 0) (sa_cons se_int sa_nil))) sa_nil)))))) (own := [(("one" : Str), 8)]) (blkOk_by (by show blkC N__law_run (defScope (tp 50)) _ _ = true; decide +kernel)) (fun _ _ _ _ _ => (sg_name nd rfl (by first | exact Or.inl rfl | exact Or.inr rfl))) (fun _ _ _ _ _ => sts_nil) (fun _ _ _ _ _ => (se_tup (sa_cons se_str (sa_cons (se_tup (sa_cons se_str (sa_cons (se_var 8) sa_nil))) sa_nil)))) fin_data) sa_nil)))
  (sss_cons (ss_for hp rfl (si_range1 (by rfl) (c.free 11) (sa_cons (se_op om_addW (se_var 2) se_int) sa_nil)) (sg_name nd rfl (by first | exact Or.inl rfl | exact Or.inr rfl)) (sss_cons (ss_asgT (se_user (d__law_move c) hr (by rfl) tk (sa_cons (se_var 0) (sa_cons (se_var 1) (sa_cons (se_var 4) (sa_cons (se_var 3) sa_nil))))) (sg_tup rfl (sgs_cons (sg_name nd rfl (by first | exact Or.inl rfl | exact Or.inr rfl)) (sgs_cons (sg_name nd rfl (by first | exact Or.inl rfl | exact Or.inr rfl)) sgs_nil))))
  (sss_one (ss_if (sw_and (sb_cmp om_lt (se_callB cm_len (by rfl) (c.free 7) boot_len (sa_cons (se_var 4) sa_nil)) (se_var 2) (by rfl)) (sw_and1 (sb_val (se_user (d__law_lets c) hr (by rfl) tk (sa_cons (se_var 4) (sa_cons (se_var 6) (sa_cons (se_var 7) sa_nil))))))).pt (sss_one (ss_set nd rfl (by first | exact Or.inl rfl | exact Or.inr rfl) (se_op om_addW (se_var 4) (se_tup (sa_cons (se_tup (sa_cons (se_var 6) (sa_cons (se_var 7) sa_nil))) sa_nil))))) sss_nil))))
  (sss_one (ss_ret (se_var 4)))))
theorem d__law_run {g : Gd} (c : GG g) : Def g ("_law_run" : Str) 5 4 (f__law_run) := mkDef (c.fnAt 36 54) sc__law_run bd__law_run (does__law_run c)
/-! ### _law_any -/
theorem sc__law_any : FnScope N__law_any [("cup" : Str), ("pool" : Str)] (defScope (tp 51)) := ⟨rfl, rfl, rfl, by decide +kernel, rfl, by decide +kernel, by decide +kernel⟩
theorem bd__law_any : BindsAll ("_law_any" : Str) (defArgs (tp 51)) (defBody (tp 51)) (defScope (tp 51)) [("cup" : Str), ("pool" : Str)] := fun _ _ _ _ _ _ us hl => match us, hl with | [_, _], _ => rfl
theorem does__law_any {g : Gd} (c : GG g) : Does g ("_law_any" : Str) (defBody (tp 51)) (defScope (tp 51)) N__law_any 3 (b__law_any) := fun f cdv A outer s H E hr hcd =>
  have tk := takesD (g := g) (x := ("_law_any" : Str)) (scope := defScope (tp 51)) (N := N__law_any) (f := f) (cdv := cdv) (A := A) (outer := outer) (s := s) (H := H) (E := E)
  have hp := passD (g := g) (x := ("_law_any" : Str)) (scope := defScope (tp 51)) (N := N__law_any) (f := f) (cdv := cdv) (A := A) (outer := outer) (s := s) (H := H) (E := E)
  have nd := sc__law_any.nd
  (sss_cons (ss_par rfl nd rfl rfl (by decide) rfl rfl (sa_cons (se_user (d__law_some c) hr (by rfl) tk (sa_cons (se_var 0) (sa_cons (se_op om_addW (se_lst (sa_cons se_str sa_nil)) (se_var 1)) sa_nil))) (sa_cons (se_user (d__law_some c) hr (by rfl) tk (sa_cons (se_var 0) (sa_cons (se_slice (se_var 1) so_none (so_some se_int)) sa_nil))) sa_nil)) (by rfl))
  (sss_cons (ss_set nd rfl (by first | exact Or.inl rfl | exact Or.inr rfl) (se_user (d__law_some c) hr (by rfl) tk (sa_cons (se_var 0) (sa_cons (se_lst (sa_cons se_str (sa_cons se_str (sa_cons se_str (sa_cons se_str (sa_cons se_str (sa_cons se_str (sa_cons se_str (sa_cons se_str (sa_cons se_str (sa_cons se_str (sa_cons se_str (sa_cons se_str sa_nil))))))))))))) sa_nil))))
  (sss_cons (ss_if (sb_cmp (om_inW (units65 hr)) (se_var 2) (se_tup (sa_cons se_str (sa_cons se_str (sa_cons se_str (sa_cons se_str sa_nil))))) (by rfl)) (sss_one (ss_ret (se_tup (sa_cons (se_var 4) (sa_cons (se_tup (sa_cons (se_var 2) (sa_cons (se_var 5) (sa_cons (se_user (d__law_value c) hr (by rfl) tk (sa_cons (se_var 0) sa_nil)) sa_nil)))) sa_nil))))) sss_nil)
  (sss_cons (ss_if (sb_cmp (om_inW (units65 hr)) (se_var 2) (se_tup (sa_cons se_str (sa_cons se_str sa_nil))) (by rfl)) (sss_one (ss_ret (se_tup (sa_cons (se_var 4) (sa_cons (se_tup (sa_cons (se_var 2) (sa_cons (se_user (d__law_some c) hr (by rfl) tk (sa_cons (se_var 0) (sa_cons (se_op om_addW (se_var 1) (se_lst (sa_cons se_str sa_nil))) sa_nil))) sa_nil))) sa_nil))))) sss_nil)
  (sss_cons (ss_set nd rfl (by first | exact Or.inl rfl | exact Or.inr rfl) (se_if (sb_cmp (om_eqW hr.units) (se_var 2) se_str (by rfl)) (se_tup (sa_cons (se_user (d__law_some c) hr (by rfl) tk (sa_cons (se_var 0) (sa_cons (se_slice (se_var 1) so_none (so_some se_int)) sa_nil))) sa_nil)) (se_tup sa_nil)))
  (sss_one (ss_ret (se_tup (sa_cons (se_var 4) (sa_cons (se_if (sb_cmp (om_neW hr.units) (se_var 2) se_str (by rfl)) (se_op om_addW (se_tup (sa_cons (se_var 2) (sa_cons (se_var 5) sa_nil))) (se_var 3)) (se_tup (sa_cons (se_var 2) sa_nil))) sa_nil))))))))))
theorem d__law_any {g : Gd} (c : GG g) : Def g ("_law_any" : Str) 4 2 (f__law_any) := mkDef (c.fnAt 37 55) sc__law_any bd__law_any (does__law_any c)
/-! ### _law_bad -/
theorem sc__law_bad : FnScope N__law_bad [("row" : Str), ("start" : Str)] (defScope (tp 52)) := ⟨rfl, rfl, rfl, by decide +kernel, rfl, by decide +kernel, by decide +kernel⟩
theorem bd__law_bad : BindsAll ("_law_bad" : Str) (defArgs (tp 52)) (defBody (tp 52)) (defScope (tp 52)) [("row" : Str), ("start" : Str)] := fun _ _ _ _ _ _ us hl => match us, hl with | [_, _], _ => rfl
theorem does__law_bad {g : Gd} (c : GG g) : Does g ("_law_bad" : Str) (defBody (tp 52)) (defScope (tp 52)) N__law_bad 2 (b__law_bad) := fun f cdv A outer s H E hr hcd =>
  have tk := takesD (g := g) (x := ("_law_bad" : Str)) (scope := defScope (tp 52)) (N := N__law_bad) (f := f) (cdv := cdv) (A := A) (outer := outer) (s := s) (H := H) (E := E)
  have hp := passD (g := g) (x := ("_law_bad" : Str)) (scope := defScope (tp 52)) (N := N__law_bad) (f := f) (cdv := cdv) (A := A) (outer := outer) (s := s) (H := H) (E := E)
  have nd := sc__law_bad.nd
  (sss_cons (ss_for hp rfl (si_range2 (by rfl) (c.free 11) (sa_cons (se_var 1) (sa_cons (se_callB cm_len (by rfl) (c.free 7) boot_len (sa_cons (se_var 0) sa_nil)) sa_nil))) (sg_name nd rfl (by first | exact Or.inl rfl | exact Or.inr rfl)) (sss_one (ss_if (sb_not (sb_val (se_user (d__law_lets c) hr (by rfl) tk (sa_cons (se_slice (se_var 0) so_none (so_some (se_var 2))) (sa_cons (se_ix (se_ix (se_var 0) (se_var 2) (fun _ _ => rfl)) se_int (fun _ _ => rfl)) (sa_cons (se_ix (se_ix (se_var 0) (se_var 2) (fun _ _ => rfl)) se_int (fun _ _ => rfl)) sa_nil)))))) (sss_one (ss_ret (se_var 2))) sss_nil)))
  (sss_one (ss_ret se_none)))
theorem d__law_bad {g : Gd} (c : GG g) : Def g ("_law_bad" : Str) 3 2 (f__law_bad) := mkDef (c.fnAt 38 56) sc__law_bad bd__law_bad (does__law_bad c)
/-! ### _law_words -/
theorem sc__law_words : FnScope N__law_words [] (defScope (tp 53)) := ⟨rfl, rfl, rfl, by decide +kernel, rfl, by decide +kernel, by decide +kernel⟩
theorem bd__law_words : BindsAll ("_law_words" : Str) (defArgs (tp 53)) (defBody (tp 53)) (defScope (tp 53)) [] := fun _ _ _ _ _ _ us hl => match us, hl with | [], _ => rfl
theorem does__law_words {g : Gd} (c : GG g) : Does g ("_law_words" : Str) (defBody (tp 53)) (defScope (tp 53)) N__law_words 0 (b__law_words) := fun f cdv A outer s H E hr hcd =>
  have tk := takesD (g := g) (x := ("_law_words" : Str)) (scope := defScope (tp 53)) (N := N__law_words) (f := f) (cdv := cdv) (A := A) (outer := outer) (s := s) (H := H) (E := E)
  have hp := passD (g := g) (x := ("_law_words" : Str)) (scope := defScope (tp 53)) (N := N__law_words) (f := f) (cdv := cdv) (A := A) (outer := outer) (s := s) (H := H) (E := E)
  have nd := sc__law_words.nd
  (sss_one (ss_ret (se_lst (sa_cons se_str (sa_cons se_str (sa_cons se_str (sa_cons se_str (sa_cons se_str (sa_cons se_str (sa_cons se_str (sa_cons se_str (sa_cons se_str (sa_cons se_str (sa_cons se_str (sa_cons se_str (sa_cons se_str (sa_cons se_str sa_nil)))))))))))))))))
theorem d__law_words {g : Gd} (c : GG g) : Def g ("_law_words" : Str) 1 0 (f__law_words) := mkDef (c.fnAt 39 57) sc__law_words bd__law_words (does__law_words c)
/-! ### _law_changed -/
theorem sc__law_changed : FnScope N__law_changed [("cup" : Str), ("pool" : Str), ("row" : Str), ("at" : Str)] (defScope (tp 54)) := ⟨rfl, rfl, rfl, by decide +kernel, rfl, by decide +kernel, by decide +kernel⟩
theorem bd__law_changed : BindsAll ("_law_changed" : Str) (defArgs (tp 54)) (defBody (tp 54)) (defScope (tp 54)) [("cup" : Str), ("pool" : Str), ("row" : Str), ("at" : Str)] := fun _ _ _ _ _ _ us hl => match us, hl with | [_, _, _, _], _ => rfl
theorem does__law_changed {g : Gd} (c : GG g) : Does g ("_law_changed" : Str) (defBody (tp 54)) (defScope (tp 54)) N__law_changed 4 (b__law_changed) := fun f cdv A outer s H E hr hcd =>
  have tk := takesD (g := g) (x := ("_law_changed" : Str)) (scope := defScope (tp 54)) (N := N__law_changed) (f := f) (cdv := cdv) (A := A) (outer := outer) (s := s) (H := H) (E := E)
  have hp := passD (g := g) (x := ("_law_changed" : Str)) (scope := defScope (tp 54)) (N := N__law_changed) (f := f) (cdv := cdv) (A := A) (outer := outer) (s := s) (H := H) (E := E)
  have nd := sc__law_changed.nd
  (sss_cons (ss_set nd rfl (by first | exact Or.inl rfl | exact Or.inr rfl) (se_user (d__law_any c) hr (by rfl) tk (sa_cons (se_var 0) (sa_cons (se_var 1) sa_nil))))
  (sss_cons (ss_set nd rfl (by first | exact Or.inl rfl | exact Or.inr rfl) (se_user (d__law_roll c) hr (by rfl) tk (sa_cons (se_var 0) (sa_cons se_int sa_nil))))
  (sss_cons (ss_if (sb_cmp (om_eqW hr.units) (se_var 5) se_int (by rfl)) (sss_one (ss_ret (se_op om_addW (se_op om_addW (se_slice (se_var 2) so_none (so_some (se_var 3))) (se_tup (sa_cons (se_var 4) sa_nil))) (se_slice (se_var 2) (so_some (se_op om_addW (se_var 3) se_int)) so_none)))) sss_nil)
  (sss_cons (ss_if (sb_cmp (om_eqW hr.units) (se_var 5) se_int (by rfl)) (sss_one (ss_ret (se_op om_addW (se_slice (se_var 2) so_none (so_some (se_var 3))) (se_slice (se_var 2) (so_some (se_op om_addW (se_var 3) se_int)) so_none)))) sss_nil)
  (sss_one (ss_ret (se_op om_addW (se_op om_addW (se_slice (se_var 2) so_none (so_some (se_var 3))) (se_if (sb_cmp (om_eqW hr.units) (se_var 5) se_int (by rfl)) (se_op om_addW (se_slice (se_var 2) (so_some (se_op om_addW (se_var 3) se_int)) (so_some (se_op om_addW (se_var 3) se_int))) (se_slice (se_var 2) (so_some (se_var 3)) (so_some (se_op om_addW (se_var 3) se_int)))) (se_op om_addW (se_tup (sa_cons (se_var 4) sa_nil)) (se_slice (se_var 2) (so_some (se_var 3)) (so_some (se_op om_addW (se_var 3) se_int)))))) (se_slice (se_var 2) (so_some (se_op om_addW (se_var 3) se_int)) so_none))))))))
theorem d__law_changed {g : Gd} (c : GG g) : Def g ("_law_changed" : Str) 5 4 (f__law_changed) := mkDef (c.fnAt 40 58) sc__law_changed bd__law_changed (does__law_changed c)
/-! ### _law_right -/
theorem sc__law_right : FnScope N__law_right [("row" : Str), ("due" : Str)] (defScope (tp 55)) := ⟨rfl, rfl, rfl, by decide +kernel, rfl, by decide +kernel, by decide +kernel⟩
theorem bd__law_right : BindsAll ("_law_right" : Str) (defArgs (tp 55)) (defBody (tp 55)) (defScope (tp 55)) [("row" : Str), ("due" : Str)] := fun _ _ _ _ _ _ us hl => match us, hl with | [_, _], _ => rfl
theorem does__law_right {g : Gd} (c : GG g) : Does g ("_law_right" : Str) (defBody (tp 55)) (defScope (tp 55)) N__law_right 9 (b__law_right) := fun f cdv A outer s H E hr hcd =>
  have tk := takesD (g := g) (x := ("_law_right" : Str)) (scope := defScope (tp 55)) (N := N__law_right) (f := f) (cdv := cdv) (A := A) (outer := outer) (s := s) (H := H) (E := E)
  have hp := passD (g := g) (x := ("_law_right" : Str)) (scope := defScope (tp 55)) (N := N__law_right) (f := f) (cdv := cdv) (A := A) (outer := outer) (s := s) (H := H) (E := E)
  have nd := sc__law_right.nd
  (sss_one (ss_ret (se_and (se_user (d__law_same c) hr (by rfl) tk (sa_cons (se_user (d_first_bad c) hr (by rfl) tk (sa_cons (se_var 0) sa_nil)) (sa_cons (se_var 1) sa_nil))) (se_one (se_user (d__law_same c) hr (by rfl) tk (sa_cons (se_user (d_is_run c) hr (by rfl) tk (sa_cons (se_var 0) sa_nil)) (sa_cons (se_cmp om_is (se_var 1) se_none (by rfl)) sa_nil)))))))
theorem d__law_right {g : Gd} (c : GG g) : Def g ("_law_right" : Str) 10 2 (f__law_right) := mkDef (c.fnAt 41 59) sc__law_right bd__law_right (does__law_right c)
/-! ### _law_rows -/
theorem sc__law_rows : FnScope N__law_rows [] (defScope (tp 56)) := ⟨rfl, rfl, rfl, by decide +kernel, rfl, by decide +kernel, by decide +kernel⟩
theorem bd__law_rows : BindsAll ("_law_rows" : Str) (defArgs (tp 56)) (defBody (tp 56)) (defScope (tp 56)) [] := fun _ _ _ _ _ _ us hl => match us, hl with | [], _ => rfl
theorem does__law_rows {g : Gd} (c : GG g) : Does g ("_law_rows" : Str) (defBody (tp 56)) (defScope (tp 56)) N__law_rows 0 (b__law_rows) := fun f cdv A outer s H E hr hcd =>
  have tk := takesD (g := g) (x := ("_law_rows" : Str)) (scope := defScope (tp 56)) (N := N__law_rows) (f := f) (cdv := cdv) (A := A) (outer := outer) (s := s) (H := H) (E := E)
  have hp := passD (g := g) (x := ("_law_rows" : Str)) (scope := defScope (tp 56)) (N := N__law_rows) (f := f) (cdv := cdv) (A := A) (outer := outer) (s := s) (H := H) (E := E)
  have nd := sc__law_rows.nd
  (sss_cons (ss_asgT (se_tup (sa_cons (se_tup (sa_cons se_str (sa_cons (se_tup (sa_cons se_str (sa_cons se_str sa_nil))) sa_nil))) (sa_cons (se_tup (sa_cons se_str (sa_cons (se_tup (sa_cons se_str (sa_cons se_str (sa_cons se_str sa_nil)))) sa_nil))) (sa_cons (se_tup (sa_cons se_str (sa_cons (se_tup (sa_cons se_str (sa_cons se_str sa_nil))) sa_nil))) (sa_cons (se_tup (sa_cons se_str (sa_cons (se_tup (sa_cons se_str (sa_cons se_str sa_nil))) sa_nil))) sa_nil))))) (sg_tup rfl (sgs_cons (sg_name nd rfl (by first | exact Or.inl rfl | exact Or.inr rfl)) (sgs_cons (sg_name nd rfl (by first | exact Or.inl rfl | exact Or.inr rfl)) (sgs_cons (sg_name nd rfl (by first | exact Or.inl rfl | exact Or.inr rfl)) (sgs_cons (sg_name nd rfl (by first | exact Or.inl rfl | exact Or.inr rfl)) sgs_nil))))))
  (sss_cons (ss_asgT (se_tup (sa_cons (se_tup (sa_cons se_str (sa_cons (se_tup (sa_cons se_str (sa_cons se_str sa_nil))) sa_nil))) (sa_cons (se_tup (sa_cons se_str (sa_cons (se_tup (sa_cons se_str sa_nil)) sa_nil))) (sa_cons (se_tup (sa_cons se_str (sa_cons (se_tup (sa_cons se_str (sa_cons se_str sa_nil))) sa_nil))) sa_nil)))) (sg_tup rfl (sgs_cons (sg_name nd rfl (by first | exact Or.inl rfl | exact Or.inr rfl)) (sgs_cons (sg_name nd rfl (by first | exact Or.inl rfl | exact Or.inr rfl)) (sgs_cons (sg_name nd rfl (by first | exact Or.inl rfl | exact Or.inr rfl)) sgs_nil)))))
  (sss_cons (ss_set nd rfl (by first | exact Or.inl rfl | exact Or.inr rfl) (se_lst (sa_cons (se_tup (sa_cons (se_tup (sa_cons (se_var 7) (sa_cons (se_var 7) sa_nil))) (sa_cons se_int sa_nil))) (sa_cons (se_tup (sa_cons (se_tup (sa_cons (se_tup (sa_cons se_str (sa_cons (se_tup (sa_cons se_str (sa_cons se_str sa_nil))) sa_nil))) sa_nil)) (sa_cons se_int sa_nil))) (sa_cons (se_tup (sa_cons (se_tup (sa_cons (se_var 8) sa_nil)) (sa_cons se_int sa_nil))) (sa_cons (se_tup (sa_cons (se_tup (sa_cons (se_var 7) (sa_cons (se_tup (sa_cons se_str (sa_cons (se_tup (sa_cons se_str (sa_cons se_str sa_nil))) sa_nil))) sa_nil))) (sa_cons se_int sa_nil))) sa_nil))))))
  (sss_cons (ss_set nd rfl (by first | exact Or.inl rfl | exact Or.inr rfl) (se_op om_addW (se_var 0) (se_lst (sa_cons (se_tup (sa_cons (se_tup (sa_cons (se_var 7) (sa_cons (se_var 8) (sa_cons (se_var 7) sa_nil)))) (sa_cons se_int sa_nil))) (sa_cons (se_tup (sa_cons (se_tup (sa_cons (se_var 7) (sa_cons (se_var 8) (sa_cons (se_tup (sa_cons se_str (sa_cons (se_tup (sa_cons se_str (sa_cons se_str (sa_cons se_int sa_nil)))) sa_nil))) sa_nil)))) (sa_cons se_int sa_nil))) (sa_cons (se_tup (sa_cons (se_tup (sa_cons (se_var 7) (sa_cons (se_tup (sa_cons se_str (sa_cons (se_tup (sa_cons se_str (sa_cons se_str sa_nil))) sa_nil))) sa_nil))) (sa_cons se_int sa_nil))) sa_nil))))))
  (sss_cons (ss_set nd rfl (by first | exact Or.inl rfl | exact Or.inr rfl) (se_op om_addW (se_var 0) (se_lst (sa_cons (se_tup (sa_cons (se_tup (sa_cons (se_var 7) (sa_cons (se_var 8) (sa_cons (se_tup (sa_cons se_str (sa_cons (se_tup (sa_cons se_str (sa_cons se_str sa_nil))) sa_nil))) (sa_cons (se_tup (sa_cons se_str (sa_cons (se_tup (sa_cons se_str (sa_cons se_str sa_nil))) sa_nil))) sa_nil))))) (sa_cons se_none sa_nil))) (sa_cons (se_tup (sa_cons (se_tup (sa_cons (se_tup (sa_cons se_str (sa_cons (se_tup (sa_cons se_str (sa_cons se_str sa_nil))) sa_nil))) sa_nil)) (sa_cons se_int sa_nil))) sa_nil)))))
  (sss_cons (ss_set nd rfl (by first | exact Or.inl rfl | exact Or.inr rfl) (se_op om_addW (se_var 0) (se_lst (sa_cons (se_tup (sa_cons (se_tup (sa_cons (se_var 7) (sa_cons (se_tup (sa_cons se_str (sa_cons (se_tup (sa_cons se_str sa_nil)) sa_nil))) (sa_cons (se_tup (sa_cons se_str (sa_cons (se_tup (sa_cons se_str (sa_cons se_str sa_nil))) sa_nil))) sa_nil)))) (sa_cons se_none sa_nil))) (sa_cons (se_tup (sa_cons (se_tup (sa_cons (se_var 7) (sa_cons (se_var 3) (sa_cons (se_tup (sa_cons se_str (sa_cons (se_tup (sa_cons se_str (sa_cons se_str sa_nil))) sa_nil))) sa_nil)))) (sa_cons se_int sa_nil))) sa_nil)))))
  (sss_cons (ss_set nd rfl (by first | exact Or.inl rfl | exact Or.inr rfl) (se_op om_addW (se_var 0) (se_lst (sa_cons (se_tup (sa_cons (se_tup (sa_cons (se_var 3) (sa_cons (se_var 3) sa_nil))) (sa_cons se_int sa_nil))) (sa_cons (se_tup (sa_cons (se_tup (sa_cons (se_tup (sa_cons se_str (sa_cons (se_tup (sa_cons se_str (sa_cons se_str sa_nil))) sa_nil))) sa_nil)) (sa_cons se_int sa_nil))) (sa_cons (se_tup (sa_cons (se_tup (sa_cons (se_var 7) (sa_cons (se_var 3) (sa_cons (se_tup (sa_cons se_str (sa_cons (se_tup (sa_cons se_str (sa_cons se_str sa_nil))) sa_nil))) sa_nil)))) (sa_cons se_int sa_nil))) sa_nil))))))
  (sss_cons (ss_set nd rfl (by first | exact Or.inl rfl | exact Or.inr rfl) (se_op om_addW (se_var 0) (se_lst (sa_cons (se_tup (sa_cons (se_tup (sa_cons (se_var 3) (sa_cons (se_tup (sa_cons se_str (sa_cons (se_tup (sa_cons se_str (sa_cons se_str sa_nil))) sa_nil))) (sa_cons (se_tup (sa_cons se_str (sa_cons (se_tup (sa_cons se_str (sa_cons se_str sa_nil))) sa_nil))) sa_nil)))) (sa_cons se_int sa_nil))) (sa_cons (se_tup (sa_cons (se_tup (sa_cons (se_var 7) (sa_cons (se_var 3) (sa_cons (se_tup (sa_cons se_str (sa_cons (se_tup (sa_cons se_str sa_nil)) sa_nil))) (sa_cons (se_tup (sa_cons se_str (sa_cons (se_tup (sa_cons se_str (sa_cons se_str sa_nil))) sa_nil))) sa_nil))))) (sa_cons se_int sa_nil))) sa_nil)))))
  (sss_cons (ss_set nd rfl (by first | exact Or.inl rfl | exact Or.inr rfl) (se_op om_addW (se_var 0) (se_lst (sa_cons (se_tup (sa_cons (se_tup (sa_cons (se_var 4) sa_nil)) (sa_cons se_int sa_nil))) (sa_cons (se_tup (sa_cons (se_tup (sa_cons (se_var 7) (sa_cons (se_var 3) (sa_cons (se_tup (sa_cons se_str (sa_cons (se_tup (sa_cons se_str (sa_cons se_str (sa_cons se_str sa_nil)))) sa_nil))) sa_nil)))) (sa_cons se_int sa_nil))) (sa_cons (se_tup (sa_cons (se_tup (sa_cons (se_var 3) (sa_cons (se_var 4) (sa_cons (se_tup (sa_cons se_str (sa_cons (se_tup (sa_cons se_str sa_nil)) sa_nil))) sa_nil)))) (sa_cons se_int sa_nil))) (sa_cons (se_tup (sa_cons (se_tup (sa_cons (se_var 3) (sa_cons (se_var 4) (sa_cons (se_var 6) sa_nil)))) (sa_cons se_int sa_nil))) sa_nil)))))))
  (sss_cons (ss_set nd rfl (by first | exact Or.inl rfl | exact Or.inr rfl) (se_op om_addW (se_var 0) (se_lst (sa_cons (se_tup (sa_cons (se_tup (sa_cons (se_var 7) (sa_cons (se_var 3) (sa_cons (se_var 4) (sa_cons (se_var 5) (sa_cons (se_var 6) (sa_cons (se_tup (sa_cons se_str (sa_cons (se_tup (sa_cons se_str (sa_cons se_str sa_nil))) sa_nil))) sa_nil))))))) (sa_cons se_none sa_nil))) (sa_cons (se_tup (sa_cons (se_tup (sa_cons (se_var 7) (sa_cons (se_var 3) (sa_cons (se_var 4) (sa_cons (se_var 5) (sa_cons (se_tup (sa_cons se_str (sa_cons (se_tup (sa_cons se_str (sa_cons se_str sa_nil))) sa_nil))) sa_nil)))))) (sa_cons se_int sa_nil))) sa_nil)))))
  (sss_cons (ss_set nd rfl (by first | exact Or.inl rfl | exact Or.inr rfl) (se_op om_addW (se_var 0) (se_lst (sa_cons (se_tup (sa_cons (se_tup (sa_cons (se_var 7) (sa_cons (se_var 3) (sa_cons (se_var 4) (sa_cons (se_var 5) (sa_cons (se_tup (sa_cons se_str (sa_cons (se_tup (sa_cons se_str (sa_cons se_str (sa_cons se_int sa_nil)))) sa_nil))) sa_nil)))))) (sa_cons se_int sa_nil))) (sa_cons (se_tup (sa_cons (se_tup (sa_cons (se_var 7) (sa_cons (se_var 3) (sa_cons (se_var 4) (sa_cons (se_var 5) (sa_cons (se_tup (sa_cons se_str (sa_cons (se_tup (sa_cons se_str (sa_cons se_str sa_nil))) sa_nil))) (sa_cons (se_var 6) sa_nil))))))) (sa_cons se_int sa_nil))) sa_nil)))))
  (sss_cons (ss_set nd rfl (by first | exact Or.inl rfl | exact Or.inr rfl) (se_op om_addW (se_var 0) (se_lst (sa_cons (se_tup (sa_cons (se_tup (sa_cons (se_var 7) (sa_cons (se_var 3) (sa_cons (se_var 4) (sa_cons (se_tup (sa_cons se_str (sa_cons (se_tup (sa_cons se_str (sa_cons se_str sa_nil))) sa_nil))) (sa_cons (se_var 6) sa_nil)))))) (sa_cons se_int sa_nil))) (sa_cons (se_tup (sa_cons (se_tup (sa_cons (se_var 7) (sa_cons (se_var 5) (sa_cons (se_var 5) (sa_cons (se_var 3) (sa_cons (se_var 4) (sa_cons (se_var 6) sa_nil))))))) (sa_cons se_int sa_nil))) (sa_cons (se_tup (sa_cons (se_tup (sa_cons (se_var 6) sa_nil)) (sa_cons se_int sa_nil))) sa_nil))))))
  (sss_cons (ss_set nd rfl (by first | exact Or.inl rfl | exact Or.inr rfl) (se_tup (sa_cons (se_var 7) (sa_cons (se_var 9) (sa_cons (se_tup (sa_cons se_str (sa_cons (se_tup (sa_cons se_str (sa_cons se_str sa_nil))) sa_nil))) (sa_cons (se_tup (sa_cons se_str (sa_cons (se_tup (sa_cons se_str (sa_cons se_str (sa_cons se_str sa_nil)))) sa_nil))) (sa_cons (se_tup (sa_cons se_str (sa_cons (se_tup (sa_cons se_str (sa_cons se_str sa_nil))) sa_nil))) (sa_cons (se_tup (sa_cons se_str (sa_cons (se_tup (sa_cons se_str (sa_cons se_str (sa_cons se_str sa_nil)))) sa_nil))) sa_nil))))))))
  (sss_cons (ss_set nd rfl (by first | exact Or.inl rfl | exact Or.inr rfl) (se_op om_addW (se_var 1) (se_tup (sa_cons (se_tup (sa_cons se_str (sa_cons (se_tup (sa_cons se_str (sa_cons se_str sa_nil))) sa_nil))) sa_nil))))
  (sss_cons (ss_set nd rfl (by first | exact Or.inl rfl | exact Or.inr rfl) (se_op om_addW (se_var 0) (se_lst (sa_cons (se_tup (sa_cons (se_op om_addW (se_var 1) (se_tup (sa_cons (se_tup (sa_cons se_str (sa_cons (se_tup (sa_cons se_str (sa_cons se_str sa_nil))) sa_nil))) sa_nil))) (sa_cons se_int sa_nil))) (sa_cons (se_tup (sa_cons (se_op om_addW (se_var 1) (se_tup (sa_cons (se_tup (sa_cons se_str (sa_cons (se_tup (sa_cons se_str (sa_cons se_str sa_nil))) sa_nil))) sa_nil))) (sa_cons se_none sa_nil))) sa_nil)))))
  (sss_cons (ss_set nd rfl (by first | exact Or.inl rfl | exact Or.inr rfl) (se_op om_addW (se_var 0) (se_lst (sa_cons (se_tup (sa_cons (se_tup (sa_cons (se_tup (sa_cons se_str (sa_cons (se_tup (sa_cons se_str (sa_cons se_str (sa_cons se_int sa_nil)))) sa_nil))) sa_nil)) (sa_cons se_none sa_nil))) (sa_cons (se_tup (sa_cons (se_tup (sa_cons (se_tup (sa_cons se_str (sa_cons (se_tup (sa_cons se_str (sa_cons se_str (sa_cons se_int sa_nil)))) sa_nil))) sa_nil)) (sa_cons se_int sa_nil))) sa_nil)))))
  (sss_cons (ss_set nd rfl (by first | exact Or.inl rfl | exact Or.inr rfl) (se_op om_addW (se_var 0) (se_lst (sa_cons (se_tup (sa_cons (se_tup (sa_cons (se_tup (sa_cons se_str (sa_cons (se_tup (sa_cons se_str (sa_cons se_str (sa_cons se_int sa_nil)))) sa_nil))) (sa_cons (se_tup (sa_cons se_str (sa_cons (se_tup (sa_cons se_str (sa_cons se_str (sa_cons se_int sa_nil)))) sa_nil))) sa_nil))) (sa_cons se_int sa_nil))) sa_nil))))
  (sss_cons (ss_set nd rfl (by first | exact Or.inl rfl | exact Or.inr rfl) (se_op om_addW (se_var 0) (se_lst (sa_cons (se_tup (sa_cons (se_tup (sa_cons (se_tup (sa_cons se_str (sa_cons (se_tup (sa_cons se_str (sa_cons se_str (sa_cons se_int sa_nil)))) sa_nil))) sa_nil)) (sa_cons se_int sa_nil))) (sa_cons (se_tup (sa_cons (se_tup (sa_cons (se_tup (sa_cons se_str (sa_cons (se_tup (sa_cons se_str (sa_cons se_str (sa_cons se_int sa_nil)))) sa_nil))) (sa_cons (se_tup (sa_cons se_str (sa_cons (se_tup (sa_cons se_str (sa_cons se_str (sa_cons se_int sa_nil)))) sa_nil))) sa_nil))) (sa_cons se_int sa_nil))) (sa_cons (se_tup (sa_cons (se_tup sa_nil) (sa_cons se_none sa_nil))) sa_nil))))))
  (sss_cons (ss_set nd rfl (by first | exact Or.inl rfl | exact Or.inr rfl) (se_tup (sa_cons (se_tup (sa_cons se_str (sa_cons (se_tup (sa_cons se_str (sa_cons se_str (sa_cons se_int sa_nil)))) sa_nil))) (sa_cons (se_tup (sa_cons se_str (sa_cons (se_tup (sa_cons se_str (sa_cons se_str (sa_cons se_int sa_nil)))) sa_nil))) sa_nil))))
  (sss_one (ss_ret (se_op om_addW (se_var 0) (se_lst (sa_cons (se_tup (sa_cons (se_op om_addW (se_var 2) (se_tup (sa_cons (se_tup (sa_cons se_str (sa_cons (se_tup (sa_cons se_str (sa_cons se_str (sa_cons se_int sa_nil)))) sa_nil))) sa_nil))) (sa_cons se_int sa_nil))) (sa_cons (se_tup (sa_cons (se_op om_addW (se_slice (se_var 2) so_none (so_some se_int)) (se_tup (sa_cons (se_tup (sa_cons se_str (sa_cons (se_tup (sa_cons se_str (sa_cons se_str (sa_cons se_int sa_nil)))) sa_nil))) (sa_cons (se_tup (sa_cons se_str (sa_cons (se_tup (sa_cons se_str (sa_cons se_str (sa_cons se_int sa_nil)))) sa_nil))) sa_nil)))) (sa_cons se_int sa_nil))) sa_nil)))))))))))))))))))))))))
theorem d__law_rows {g : Gd} (c : GG g) : Def g ("_law_rows" : Str) 1 0 (f__law_rows) := mkDef (c.fnAt 42 60) sc__law_rows bd__law_rows (does__law_rows c)
/-! ### law -/
def N_law : List Str := [("script" : Str), ("cup" : Str), ("pool" : Str), ("row" : Str), ("turn" : Str), ("great" : Str), ("threads" : Str), ("at" : Str), ("changed" : Str), ("one" : Str), ("due" : Str)]
@[simp] theorem Nl_law : N_law.length = 11 := rfl
theorem sc_law : FnScope N_law [("script" : Str)] (defScope (tp 57)) := ⟨rfl, rfl, rfl, by decide +kernel, rfl, by decide +kernel, by decide +kernel⟩
theorem bd_law : BindsAll ("law" : Str) (defArgs (tp 57)) (defBody (tp 57)) (defScope (tp 57)) [("script" : Str)] := fun _ _ _ _ _ _ us hl => match us, hl with | [_], _ => rfl
def b_law : S :=
  (seqS (asgS 1 (scrF 0 f__law_cup)) (seqS (asgS 2 (callU 1 f__law_pool (consA (getV 1) (fun _ => ret [])))) (seqS (asgS 3 (callU 4 f__law_run (consA (getV 1) (consA (getV 2) (consA (callU 2 f__law_some (consA (getV 1) (consA (mkLst (consA (fun _ => ret (.d (.int 6))) (consA (fun _ => ret (.d (.int 20))) (consA (fun _ => ret (.d (.int 60))) (consA (callU 2 f__law_roll (consA (getV 1) (consA (fun _ => ret (.d (.int 61))) (fun _ => ret [])))) (fun _ => ret [])))))) (fun _ => ret [])))) (consA (fun _ => f__law_words []) (fun _ => ret []))))))) (seqS (ifS (notB (tst (callU 2 f__law_right (consA (getV 3) (consA (fun _ => ret (.d .none)) (fun _ => ret [])))))) (retS (fun _ => ret (.d (.bool false)))) nxS) (seqS (forS (range1 (consA (fun _ => ret (.d (.int 5))) (fun _ => ret []))) (aName 4) (seqS (asgS 7 (callU 2 f__law_roll (consA (getV 1) (consA (bin addW (callF (on1 lenW) (consA (getV 3) (fun _ => ret []))) (fun _ => ret (.d (.int 1)))) (fun _ => ret []))))) (seqS (asgS 8 (callU 4 f__law_changed (consA (getV 1) (consA (getV 2) (consA (getV 3) (consA (getV 7) (fun _ => ret []))))))) (ifS (andB (toB (bin (onD leD) (callF (on1 lenW) (consA (getV 8) (fun _ => ret []))) (fun _ => ret (.d (.int 60))))) (notB (tst (callU 2 f__law_right (consA (getV 8) (consA (callU 2 f__law_bad (consA (getV 8) (consA (callF minW (consA (getV 7) (consA (callF (on1 lenW) (consA (getV 8) (fun _ => ret []))) (fun _ => ret [])))) (fun _ => ret [])))) (fun _ => ret []))))))) (retS (fun _ => ret (.d (.bool false)))) nxS)))) (seqS (asgS 5 (callF (on1 tupleW) (consA (lcF (range1 (consA (fun _ => ret (.d (.int 59))) (fun _ => ret []))) [7] (aName 7) (fun _ => ret true) (mkTup (consA (fun _ => ret (.d (.str ("root" : Str)))) (consA (mkTup (consA (fun _ => ret (.d (.str ("write" : Str)))) (consA (fun _ => ret (.d (.str ("x" : Str)))) (consA (getV 7) (fun _ => ret []))))) (fun _ => ret [])))) asData) (fun _ => ret [])))) (seqS (ifS (orB (notB (tst (callU 2 f__law_right (consA (bin addW (getV 5) (mkTup (consA (mkTup (consA (fun _ => ret (.d (.str ("root" : Str)))) (consA (mkTup (consA (fun _ => ret (.d (.str ("read" : Str)))) (consA (fun _ => ret (.d (.str ("x" : Str)))) (consA (fun _ => ret (.d (.int 58))) (fun _ => ret []))))) (fun _ => ret [])))) (fun _ => ret [])))) (consA (fun _ => ret (.d .none)) (fun _ => ret [])))))) (notB (tst (callU 2 f__law_right (consA (bin addW (getV 5) (mkTup (consA (mkTup (consA (fun _ => ret (.d (.str ("root" : Str)))) (consA (mkTup (consA (fun _ => ret (.d (.str ("read" : Str)))) (consA (fun _ => ret (.d (.str ("x" : Str)))) (consA (fun _ => ret (.d (.int 57))) (fun _ => ret []))))) (fun _ => ret [])))) (fun _ => ret [])))) (consA (fun _ => ret (.d (.int 59))) (fun _ => ret []))))))) (retS (fun _ => ret (.d (.bool false)))) nxS) (seqS (asgS 6 (callF (on1 tupleW) (consA (lcF (itF itemsW (getV 2)) [9] (aName 9) (fun _ => ret true) (mkTup (consA (fun _ => ret (.d (.str ("root" : Str)))) (consA (mkTup (consA (fun _ => ret (.d (.str ("begin" : Str)))) (consA (getV 9) (fun _ => ret [])))) (fun _ => ret [])))) asData) (fun _ => ret [])))) (seqS (ifS (orB (notB (tst (callU 2 f__law_right (consA (getV 6) (consA (fun _ => ret (.d .none)) (fun _ => ret [])))))) (notB (tst (callU 2 f__law_right (consA (bin addW (getV 6) (mkTup (consA (mkTup (consA (bin ixW (getV 2) (fun _ => ret (.d (.int 6)))) (consA (mkTup (consA (fun _ => ret (.d (.str ("begin" : Str)))) (consA (bin ixW (getV 2) (fun _ => ret (.d (.int 0)))) (fun _ => ret [])))) (fun _ => ret [])))) (fun _ => ret [])))) (consA (fun _ => ret (.d (.int 7))) (fun _ => ret []))))))) (retS (fun _ => ret (.d (.bool false)))) nxS) (retS (bin (onW eqD) (lcF (itF itemsW (fun _ => f__law_rows [])) [9, 10] (aTup 2 (aCons (aName 9) (aCons (aName 10) aNil))) (notB (tst (callU 2 f__law_right (consA (getV 9) (consA (getV 10) (fun _ => ret [])))))) (getV 10) asData) (mkLst (fun _ => ret [])))))))))))))
theorem does_law {g : Gd} (c : GG g) : Does g ("law" : Str) (defBody (tp 57)) (defScope (tp 57)) N_law 10 (b_law) := fun f cdv A outer s H E hr hcd =>
  have tk := takesD (g := g) (x := ("law" : Str)) (scope := defScope (tp 57)) (N := N_law) (f := f) (cdv := cdv) (A := A) (outer := outer) (s := s) (H := H) (E := E)
  have hp := passD (g := g) (x := ("law" : Str)) (scope := defScope (tp 57)) (N := N_law) (f := f) (cdv := cdv) (A := A) (outer := outer) (s := s) (H := H) (E := E)
  have nd := sc_law.nd
  (sss_cons (ss_set nd rfl (by first | exact Or.inl rfl | exact Or.inr rfl) (se_userScr 0 (d__law_cup c) hr (by rfl) tk))
  (sss_cons (ss_set nd rfl (by first | exact Or.inl rfl | exact Or.inr rfl) (se_user (d__law_pool c) hr (by rfl) tk (sa_cons (se_var 1) sa_nil)))
  (sss_cons (ss_set nd rfl (by first | exact Or.inl rfl | exact Or.inr rfl) (se_user (d__law_run c) hr (by rfl) tk (sa_cons (se_var 1) (sa_cons (se_var 2) (sa_cons (se_user (d__law_some c) hr (by rfl) tk (sa_cons (se_var 1) (sa_cons (se_lst (sa_cons se_int (sa_cons se_int (sa_cons se_int (sa_cons (se_user (d__law_roll c) hr (by rfl) tk (sa_cons (se_var 1) (sa_cons se_int sa_nil))) sa_nil))))) sa_nil))) (sa_cons (se_user0 (d__law_words c) hr (by rfl) tk) sa_nil))))))
  (sss_cons (ss_if (sb_not (sb_val (se_user (d__law_right c) hr (by rfl) tk (sa_cons (se_var 3) (sa_cons se_none sa_nil))))) (sss_one (ss_ret se_bool)) sss_nil)
  (sss_cons (ss_for hp rfl (si_range1 (by rfl) (c.free 11) (sa_cons se_int sa_nil)) (sg_name nd rfl (by first | exact Or.inl rfl | exact Or.inr rfl)) (sss_cons (ss_set nd rfl (by first | exact Or.inl rfl | exact Or.inr rfl) (se_user (d__law_roll c) hr (by rfl) tk (sa_cons (se_var 1) (sa_cons (se_op om_addW (se_callB cm_len (by rfl) (c.free 7) boot_len (sa_cons (se_var 3) sa_nil)) se_int) sa_nil))))
  (sss_cons (ss_set nd rfl (by first | exact Or.inl rfl | exact Or.inr rfl) (se_user (d__law_changed c) hr (by rfl) tk (sa_cons (se_var 1) (sa_cons (se_var 2) (sa_cons (se_var 3) (sa_cons (se_var 7) sa_nil))))))
  (sss_one (ss_if (sw_and (sb_cmp om_le (se_callB cm_len (by rfl) (c.free 7) boot_len (sa_cons (se_var 8) sa_nil)) se_int (by rfl)) (sw_and1 (sb_not (sb_val (se_user (d__law_right c) hr (by rfl) tk (sa_cons (se_var 8) (sa_cons (se_user (d__law_bad c) hr (by rfl) tk (sa_cons (se_var 8) (sa_cons (se_callB (cm_min rfl) (by rfl) (c.free 10) boot_min (sa_cons (se_var 7) (sa_cons (se_callB cm_len (by rfl) (c.free 7) boot_len (sa_cons (se_var 8) sa_nil)) sa_nil))) sa_nil))) sa_nil))))))).pt (sss_one (ss_ret se_bool)) sss_nil)))))
  (sss_cons (ss_set nd rfl (by first | exact Or.inl rfl | exact Or.inr rfl) (se_callTy cm_tuple (by rfl) (c.free 16) boot_tuple (sa_cons (se_lc rfl nd (si_range1 (by rfl) (c.free 11) (sa_cons se_int sa_nil)) (own := [(("at" : Str), 7)]) (blkOk_by (by show blkC N_law (defScope (tp 57)) _ _ = true; decide +kernel)) (fun _ _ _ _ _ => (sg_name nd rfl (by first | exact Or.inl rfl | exact Or.inr rfl))) (fun _ _ _ _ _ => sts_nil) (fun _ _ _ _ _ => (se_tup (sa_cons se_str (sa_cons (se_tup (sa_cons se_str (sa_cons se_str (sa_cons (se_var 7) sa_nil)))) sa_nil)))) fin_data) sa_nil)))
  (sss_cons (ss_if (sw_or (sb_not (sb_val (se_user (d__law_right c) hr (by rfl) tk (sa_cons (se_op om_addW (se_var 5) (se_tup (sa_cons (se_tup (sa_cons se_str (sa_cons (se_tup (sa_cons se_str (sa_cons se_str (sa_cons se_int sa_nil)))) sa_nil))) sa_nil))) (sa_cons se_none sa_nil))))) (sw_or1 (sb_not (sb_val (se_user (d__law_right c) hr (by rfl) tk (sa_cons (se_op om_addW (se_var 5) (se_tup (sa_cons (se_tup (sa_cons se_str (sa_cons (se_tup (sa_cons se_str (sa_cons se_str (sa_cons se_int sa_nil)))) sa_nil))) sa_nil))) (sa_cons se_int sa_nil))))))).pt (sss_one (ss_ret se_bool)) sss_nil)
  (sss_cons (ss_set nd rfl (by first | exact Or.inl rfl | exact Or.inr rfl) (se_callTy cm_tuple (by rfl) (c.free 16) boot_tuple (sa_cons (se_lc rfl nd (si_list (se_var 2)) (own := [(("one" : Str), 9)]) (blkOk_by (by show blkC N_law (defScope (tp 57)) _ _ = true; decide +kernel)) (fun _ _ _ _ _ => (sg_name nd rfl (by first | exact Or.inl rfl | exact Or.inr rfl))) (fun _ _ _ _ _ => sts_nil) (fun _ _ _ _ _ => (se_tup (sa_cons se_str (sa_cons (se_tup (sa_cons se_str (sa_cons (se_var 9) sa_nil))) sa_nil)))) fin_data) sa_nil)))
  (sss_cons (ss_if (sw_or (sb_not (sb_val (se_user (d__law_right c) hr (by rfl) tk (sa_cons (se_var 6) (sa_cons se_none sa_nil))))) (sw_or1 (sb_not (sb_val (se_user (d__law_right c) hr (by rfl) tk (sa_cons (se_op om_addW (se_var 6) (se_tup (sa_cons (se_tup (sa_cons (se_ix (se_var 2) se_int (fun _ _ => rfl)) (sa_cons (se_tup (sa_cons se_str (sa_cons (se_ix (se_var 2) se_int (fun _ _ => rfl)) sa_nil))) sa_nil))) sa_nil))) (sa_cons se_int sa_nil))))))).pt (sss_one (ss_ret se_bool)) sss_nil)
  (sss_one (ss_ret (se_cmp (om_eqW hr.units) (se_lc rfl nd (si_list (se_user0 (d__law_rows c) hr (by rfl) tk)) (own := [(("one" : Str), 9), (("due" : Str), 10)]) (blkOk_by (by show blkC N_law (defScope (tp 57)) _ _ = true; decide +kernel)) (fun _ _ _ _ _ => (sg_tup rfl (sgs_cons (sg_name nd rfl (by first | exact Or.inl rfl | exact Or.inr rfl)) (sgs_cons (sg_name nd rfl (by first | exact Or.inl rfl | exact Or.inr rfl)) sgs_nil)))) (fun _ _ _ _ _ => (sts_one (sb_not (sb_val (se_user (d__law_right c) hr (by rfl) L2.takes0 (sa_cons (se_var 9) (sa_cons (se_var 10) sa_nil))))))) (fun _ _ _ _ _ => (se_var 10)) fin_data) (se_lst sa_nil) (by rfl)))))))))))))
end LK11
end
section
set_option Elab.async false
set_option linter.all false
set_option maxRecDepth 100000
set_option maxHeartbeats 2000000
set_option autoImplicit false
namespace LK11
open PySem PySem.Spec PyProof.Rows L2 Ev PK
open Py (py)
/-- what is kept in the five turns -/
def LvI (ns : List Int) (j : Nat) (ps : List Wd) (row : List Tr) (ρ : Ev.Env) (s : Sto) : Prop := ∃ (y4 y5 y6 y7 y8 y9 y10 : Option Sl), ρ = [some (.scr ns), some (.w (.r j)), some (.w (.d (.list (ps.map py)))), some (.w (.d (.tuple (row.map py)))), y4, y5, y6, y7, y8, y9, y10] ∧ Ok [] j s
theorem great_row : ((List.range 59).map fun i : Nat => PyData.tuple [.str ("root" : Str), .tuple [.str ("write" : Str), .str ("x" : Str), .int ((0 : Int) + (i : Int))]]) = great.map py := by
  unfold great
  rw [List.map_map]
  refine List.map_congr_left fun i hi => ?_
  have hi : i < 59 := List.mem_range.mp hi
  have : (vaN i).1 = (i : Int) := by unfold vaN; rw [dif_pos (by omega)]
  show _ = PyData.tuple [.str ("root" : Str), .tuple [.str ("write" : Str), .str ("x" : Str), .int (vaN i).1]]
  rw [this, Int.zero_add]
theorem law_good (Kf : PySem.W.Frag) (ns : List Int) (hn : ns.length ≤ 63) : ∃ st', runS N_law.length b_law ns (tabs0 Kf tf) = .ok (W.d (.bool true)) st' := by
  have key : wpM (runS N_law.length b_law ns) (tabs0 Kf tf) (fun w _ => w = W.d (.bool true)) (fun _ _ => False) := by
    unfold b_law
    rw [qM_in', r_runS, r_seq, r_asg]
    simp only [Nl_law]
    rw [show List.replicate (11 - 1) (none : Option Sl) = List.replicate 10 none from rfl, r_scr]
    refine cup_ok hn fun a b => ?_
    have ok0 : Ok [] (tabs0 Kf tf).length (tabs0 Kf tf ++ [.lst [W.d (.int a), W.d (.int b)]]) := ⟨⟨a, b, last_at⟩, nofun⟩
    generalize (tabs0 Kf tf ++ [SO.lst [W.d (.int a), W.d (.int b)]]) = st at ok0 ⊢
    generalize (tabs0 Kf tf).length = j at ok0 ⊢
    simp
    refine pool_q ok0 fun ps s1 hp hnd hr ok1 => ?_
    simp
    refine roll_n ok1 (by decide) (by decide) fun r s2 hr' ok2 => ?_
    simp
    refine some_q ok2 (by simp) (by simp) fun d s3 hd ok3 => ?_
    obtain ⟨many, rfl, hm⟩ : ∃ many : Nat, d = .int (many : Int) ∧ many ≤ 60 := by
      simp only [List.mem_cons, List.not_mem_nil, or_false] at hd
      rcases hd with rfl | rfl | rfl | rfl
      · exact ⟨6, rfl, by decide⟩
      · exact ⟨20, rfl, by decide⟩
      · exact ⟨60, rfl, by decide⟩
      · exact ⟨r, rfl, by omega⟩
    simp
    refine words_q ?_
    simp
    refine run_q (ws := [("read" : Str), "write", "take", "take", "give", "begin", "await", "send", "send", "get", "wait", "wait", "wake", "end"]) ok3 hp hnd hr hm (by simp) (by simp) (by decide +kernel) fun row s4 R L I ok4 => ?_
    simp
    refine right_in (o := none) hp hnd hr I (by omega) R.bad fun gb => ?_
    replace ok4 := ok4.app gb
    generalize s4 ++ gb = s4 at ok4 ⊢
    simp
    generalize rangeL 0 5 = l5
    refine q_loopD (fun _ ρ s => LvI ns j ps row ρ s) l5 ⟨_, _, _, _, _, _, _, rfl, ok4⟩ (fun d rest ρ s hi => ?_) (fun ρ s hi => ?_)
    · obtain ⟨y4, y5, y6, y7, y8, y9, y10, rfl, ok⟩ := hi
      refine ⟨_, rfl, ?_⟩
      simp
      refine roll_n ok (by omega) (by omega) fun n s hn' ok => ?_
      simp
      refine changed_q (n := n) ok hp (by omega) (by omega) I fun rst s hi hl ok => ?_
      obtain ⟨pre, hpre⟩ : ∃ pre, pre = row.take n := ⟨_, rfl⟩
      have hpl : pre.length = n := by rw [hpre, List.length_take]; omega
      have Rp : IsRun pre := hpre ▸ R.take n
      have Ip : ∀ p ∈ pre, InP ps p := fun p h => by rw [hpre] at h; exact I p (List.mem_of_mem_take h)
      rw [← hpre] at hl ⊢
      obtain ⟨ch, hch⟩ : ∃ ch, ch = pre ++ rst := ⟨_, rfl⟩
      have Ic : ∀ p ∈ ch, InP ps p := fun p h => by rw [hch] at h; exact (List.mem_append.mp h).elim (Ip p) (hi p)
      have hcl : n ≤ ch.length := by rw [hch, List.length_append]; omega
      rw [← hch] at hl ⊢
      have mn : minW s [.d (.int (n : Int)), .d (.int (ch.length : Int))] = some (.d (.int (pre.length : Int))) := by
        unfold minW
        dsimp only
        rw [if_neg (by omega), hpl]
      by_cases h60 : ch.length ≤ 60
      · have z60 : (ch.length : Int) ≤ 60 := by omega
        simp [z60, mn]
        refine badB_q (done := pre) (rest := rst) hch (by omega) Rp fun gb => ?_
        replace ok := ok.app gb
        generalize s ++ gb = s at ok ⊢
        simp
        refine right_in hp hnd hr Ic h60 (by rw [hch, bad_run Rp]) fun gb => ?_
        replace ok := ok.app gb
        generalize s ++ gb = s at ok ⊢
        simp
        exact ⟨_, _, _, _, _, _, _, rfl, ok⟩
      · have z60 : ¬ (ch.length : Int) ≤ 60 := by omega
        simp [z60]
        exact ⟨_, _, _, _, _, _, _, rfl, ok⟩
    · obtain ⟨y4, y5, y6, y7, y8, y9, y10, rfl, ok⟩ := hi
      obtain ⟨hq1, hq2, hq3⟩ := hPool_ok
      obtain ⟨gi1, gi2⟩ := great_in
      obtain ⟨go1, go2⟩ := great_ok
      have hin : ∀ {ts : List Tr}, ts.all (inPb hPool) = true → ∀ p ∈ ts, InP hPool p := fun h p hp => inPb_ok (List.all_eq_true.mp h p hp)
      have gl : great.length = 59 := by unfold great; rw [List.length_map, List.length_range]
      simp
      refine lc_map (fun i : Nat => PyData.int ((0 : Int) + (i : Int))) (fun i : Nat => PyData.tuple [.str ("root" : Str), .tuple [.str ("write" : Str), .str ("x" : Str), .int ((0 : Int) + (i : Int))]]) (List.range 59) (fun i hi => ⟨_, rfl, ?_, ?_⟩) ?_
      · apply gt_of; simp
      · apply fe_of; simp
      rw [great_row]
      have g1 : addD (.tuple (great.map py)) (.tuple [.tuple [.str ("root" : Str), .tuple [.str ("read" : Str), .str ("x" : Str), .int 58]]]) = some (.tuple ((great ++ [hR (.rd hX (vaN 58))]).map py)) := addT great [hR (.rd hX (vaN 58))] (by omega) (by simp)
      have g2 : addD (.tuple (great.map py)) (.tuple [.tuple [.str ("root" : Str), .tuple [.str ("read" : Str), .str ("x" : Str), .int 57]]]) = some (.tuple ((great ++ [hR (.rd hX (vaN 57))]).map py)) := addT great [hR (.rd hX (vaN 57))] (by omega) (by simp)
      obtain ⟨G1, hG1⟩ : ∃ G, G = great ++ [hR (.rd hX (vaN 58))] := ⟨_, rfl⟩
      obtain ⟨G2, hG2⟩ : ∃ G, G = great ++ [hR (.rd hX (vaN 57))] := ⟨_, rfl⟩
      have l1 : G1.length = 60 := by rw [hG1, List.length_append, gl]; rfl
      have l2 : G2.length = 60 := by rw [hG2, List.length_append, gl]; rfl
      rw [← hG1] at g1 gi1 go1
      rw [← hG2] at g2 gi2 go2
      generalize great.map py = GR at *
      clear hG1 hG2 gl
      simp [g1]
      refine right_in (o := none) hq1 hq2 hq3 (hin gi1) (by omega) go1 fun gb => ?_
      replace ok := ok.app gb
      generalize s ++ gb = s at ok ⊢
      simp [g2]
      refine right_in (o := some 59) hq1 hq2 hq3 (hin gi2) (by omega) go2 fun gb => ?_
      replace ok := ok.app gb
      generalize s ++ gb = s at ok ⊢
      simp
      obtain ⟨p6, h6⟩ : ∃ a, ps[6]? = some a := ⟨ps[6], List.getElem?_eq_getElem (by omega)⟩
      obtain ⟨p0, h0⟩ : ∃ a, ps[0]? = some a := ⟨ps[0], List.getElem?_eq_getElem (by omega)⟩
      have i6 : atI (ps.map py) 6 = some (.str p6.1) := by
        have : atI (ps.map py) ((6 : Nat) : Int) = _ := Ev.atI_nat
        rw [List.getElem?_map, h6] at this
        exact this
      have i0 : atI (ps.map py) 0 = some (.str p0.1) := by
        have : atI (ps.map py) ((0 : Nat) : Int) = _ := Ev.atI_nat
        rw [List.getElem?_map, h0] at this
        exact this
      have m6 : p6 ∈ ps := List.mem_of_getElem? h6
      have m0 : p0 ∈ ps := List.mem_of_getElem? h0
      simp [show ps.length < 16777216 by omega]
      refine lc_map py (fun x : Wd => .tuple [.str ("root" : Str), .tuple [.str ("begin" : Str), .str x.1]]) ps (fun x hx => ⟨_, rfl, ?_, ?_⟩) ?_
      · apply gt_of; simp
      · apply fe_of; simp [py_wd]
      have r0 : ps.map (fun x : Wd => PyData.tuple [.str ("root" : Str), .tuple [.str ("begin" : Str), .str x.1]]) = (ps.map bgT).map py := by rw [List.map_map]; rfl
      rw [r0]
      have tin := threads_in ps
      have trn := threads_run hnd hr
      have tbd := threads_bad hnd hr (a := p6) m0
      have ti2 : ∀ p ∈ ps.map bgT ++ [(p6, De.bg p0)], InP ps p := fun p h => (List.mem_append.mp h).elim (tin p) fun h => by
        rw [List.mem_singleton.mp h]
        exact ⟨List.mem_cons_of_mem _ m6, fun x e => by
          have e : De.bg p0 = .bg x := e
          injection e with e
          subst e
          exact List.mem_cons_of_mem _ m0⟩
      have tl : (ps.map bgT).length = 7 := by rw [List.length_map, hp]
      rw [hp] at tbd
      generalize ps.map bgT = TH at *
      have g3 : addD (.tuple (TH.map py)) (.tuple [.tuple [.str p6.1, .tuple [.str ("begin" : Str), .str p0.1]]]) = some (.tuple ((TH ++ [(p6, De.bg p0)]).map py)) := addT TH [(p6, De.bg p0)] (by omega) (by simp)
      have l3 : (TH ++ [(p6, De.bg p0)]).length = 8 := by rw [List.length_append, tl]; rfl
      obtain ⟨TB, hTB⟩ : ∃ TB, TB = TH ++ [(p6, De.bg p0)] := ⟨_, rfl⟩
      rw [← hTB] at g3 tbd ti2 l3
      clear hTB
      simp
      refine right_in (o := none) hp hnd hr tin (by omega) trn fun gb => ?_
      replace ok := ok.app gb
      generalize s ++ gb = s at ok ⊢
      simp [i6, i0, g3]
      refine right_in (o := some 7) hp hnd hr ti2 (by omega) tbd fun gb => ?_
      replace ok := ok.app gb
      generalize s ++ gb = s at ok ⊢
      simp
      have hrw : @qM W (f__law_rows []) s = fun K => K.q (W.d (.list (handR.map handPy))) s := by
        funext K
        show wpM _ _ _ _ = _
        rw [wpM_eq (hand_rows s)]
      rw [hrw]
      have hl' : handR.length = 37 := by decide +kernel
      have hlt : handR.length < 16777216 := by omega
      have hb := hand_bad
      generalize handR = HR at *
      simp [hlt]
      refine lc_grow handPy (fun p => optNat p.2) (fun _ => false) HR (fun p hp' => ⟨_, rfl, fun st => ?_, fun h => (Bool.false_ne_true h).elim⟩) fun gb => ?_
      · obtain ⟨b1, b2, b3⟩ := hb p hp'
        simp [handPy]
        refine right_in hq1 hq2 hq3 (hin b2) b3 b1 fun gb => ?_
        simp
      · have hf : HR.filter (fun _ => false) = [] := List.filter_eq_nil_iff.mpr fun _ _ h => Bool.false_ne_true h
        rw [hf]
        have e0 : eqD (.list []) (.list []) = some (.bool true) := rfl
        simp [e0]
  obtain ⟨w, st', e, rfl⟩ := wpM_ok key
  exact ⟨st', e⟩
end LK11
end
section
set_option Elab.async false
set_option linter.all false
set_option maxRecDepth 100000
set_option maxHeartbeats 0
set_option autoImplicit false
namespace LK11
open PySem PySem.Spec PyProof.Rows L2 Ev
/-! ## the head -/
abbrev R : PySem.W.OpenRow := PySem.W.OpenLaw.row PySem.Challenge.rw_heardtrees_k11_whole_first_bad_places
abbrev hk : PySem.W.Hook := He.hookX 6 fa fn ts tf ex
def ob (s : PySem.W.SharedT) : He.AlX := He.obsX 6 fa fn ts tf ex (HandSHeadRun.getT s)
theorem ob_eq (s : PySem.W.SharedT) : ob s = hk.obs s.abs := He.obsX_eq (HandSHeadRun.getT_eq s)
def loose : List PySem.Str := [("__name__" : Str), ("HeardError" : Str), ("InvalidRow" : Str), ("LETTERS" : Str), ("SIGNS" : Str), ("HEARD" : Str), ("NAMES" : Str), ("VALUES" : Str), ("DEEDS" : Str), ("THREADS" : Str), ("fits_word" : Str), ("fits_value" : Str), ("fits_deed" : Str), ("fits_turn" : Str), ("all_threads" : Str), ("fits_row" : Str), ("bare_intent" : Str), ("need_row" : Str), ("FIRST" : Str), ("told_of" : Str), ("with_pair" : Str), ("asleep_at" : Str), ("gone_from" : Str), ("is_let" : Str), ("deed_at" : Str), ("lets" : Str), ("behind_call" : Str), ("behind" : Str), ("moved" : Str), ("walked" : Str), ("bad_place" : Str), ("first_bad" : Str), ("is_run" : Str), ("_law_same" : Str), ("_law_cup" : Str), ("_law_roll" : Str), ("_law_some" : Str), ("_law_pool" : Str), ("_law_value" : Str), ("_law_begun" : Str), ("_law_own" : Str), ("_law_worth" : Str), ("_law_letters" : Str), ("_law_holder" : Str), ("_law_called" : Str), ("_law_lets" : Str), ("_law_move" : Str), ("_law_run" : Str), ("_law_any" : Str), ("_law_bad" : Str), ("_law_words" : Str), ("_law_changed" : Str), ("_law_right" : Str), ("_law_rows" : Str)]
abbrev RunAt (w : World) : Prop := HandSHeadRun.RunEq R (PySem.W.view R.prog [57]) hk ob 8000 loose w
theorem run0 (w : World) : RunAt (w.withFollow "special-get-raises" false) := by
  intro os
  kernel_rfl
theorem run1 (w : World) : RunAt (w.withFollow "special-get-raises" true) := by
  intro os
  kernel_rfl
theorem run (w : World) : RunAt w := by
  have e := World.withFollow_self w "special-get-raises"
  cases hb : w.params.followText "special-get-raises" with
  | false => rw [hb] at e; exact e ▸ run0 w
  | true => rw [hb] at e; exact e ▸ run1 w
end LK11
end
set_option Elab.async false
set_option linter.all false
set_option maxRecDepth 100000
set_option maxHeartbeats 0
set_option autoImplicit false
open PySem PySem.Spec PyProof.Rows L2 Ev LK11
theorem PySem.Challenge.cw_heardtrees_k11_whole_first_bad_places_holds : PySem.Challenge.rw_heardtrees_k11_whole_first_bad_places.Holds := by
  w_on
  o_law
  refine HandSHeadRun.head_any (r := R) (q := PySem.W.view R.prog [57]) (H := LK11.hk) (ob := LK11.ob) (M := 8000) (loose := LK11.loose) (d := HandSHeadRun.topDef R.prog 57) (kwd := []) ob_eq (by kernel_rfl) (fun s => by kernel_rfl) LK11.run (by kernel_rfl) (by kernel_rfl) (by kernel_rfl) (by rfl) (by first | assumption | decide +kernel) (by decide +kernel) ⟨rfl, rfl, rfl, rfl, rfl, by decide +kernel⟩ ?hw ?hc
  case hw => w_witness2
  case hc => exact walk_ofK (fb := fun _ => b_law) (n := 63) (k := 10) (i := 43) (j := 61) rfl (by decide) rfl ⟨rfl, by decide, by decide⟩ rfl rfl rfl sc_law (by decide) bd_law (fun g _ c => does_law c) tnd (fun K ns hl _ => law_good K ns hl)
