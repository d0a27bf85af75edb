import PyProof.Rows.All
import Wide.All
import OpenK.AllK
import Wide.FinOn
import HandS.ForMost
import HandS.IsInst
import HandS.Exc
import HandS.WordsExc
import HandS.Defaults
import HandS.TupAny
import HandS.Deep
import HandS.Zip
import HandS.Style
import HandS.HeadHook4
import HandS.HeadEnd
import HandS.Head2
import HandS.RaiseMore
import KE.GoesMore
import HandS.TupSets
import HandS.Strs
import PyProof.Rows.SortShellAny
import HandS.SortInts
import PySem.Challenge.RW_pagelives_k01_kinds
set_option Elab.async false
set_option linter.all false
set_option maxRecDepth 100000
/-! A layer of plain data over HandS: every expression and statement read as a function on plain data and a small store. -/
namespace PL
open PySem PySem.Spec L2
open PyProof.Rows hiding St

/-- a value of the plain reading: data, a changeable thing of the store, the script -/
inductive Val where
  | dat (d : PyData) | ref (k : Nat) | scr (ns : List Int)
/-- a thing of the store: a list, a dict, a thing that is plain data from now on -/
inductive SO where
  | lst (xs : List PyData) | dct (kvs : List (Key × PyData)) | frz (d : PyData)
abbrev Sto := List SO
abbrev Ev := List (Option Val)
inductive Res (α : Type) where
  | ok (a : α) (st : Sto) | exc (c : Str) (fs : List (Str × PyData)) (st : Sto) | err
abbrev M (α : Type) := Sto → Res α
def ret {α : Type} (a : α) : M α := fun st => .ok a st
def fail {α : Type} : M α := fun _ => .err
def bnd {α β : Type} (x : M α) (f : α → M β) : M β := fun st => match x st with
  | .ok a st' => f a st'
  | .exc c fs st' => .exc c fs st'
  | .err => .err
def opt {α : Type} (x : Option α) : M α := fun st => match x with
  | some a => .ok a st
  | none => .err

/-! ### how data stand in the heap -/
mutual
inductive Rp (K : PySem.W.Frag) (F : Hp) : V → PyData → Prop
  | non : Rp K F .non .none
  | bl (b : Bool) : Rp K F (.bl b) (.bool b)
  | int (i : Int) : Rp K F (.int i) (.int i)
  | str (x : Str) : Rp K F (.str x) (.str x)
  | lst {a : Addr} {xs : List V} {ds : List PyData} : F a = some (.lst xs) → RpAll K F xs ds → Rp K F (.ref a) (.list ds)
  | tup {a : Addr} {xs : List V} {ds : List PyData} : SqT K F a xs → RpAll K F xs ds → Rp K F (.ref a) (.tuple ds)
inductive RpAll (K : PySem.W.Frag) (F : Hp) : List V → List PyData → Prop
  | nil : RpAll K F [] []
  | cons {v : V} {vs : List V} {d : PyData} {ds : List PyData} : Rp K F v d → RpAll K F vs ds → RpAll K F (v :: vs) (d :: ds)
end
def Le (F F' : Hp) : Prop := ∀ a o, F a = some o → F' a = some o
theorem Le.refl (F : Hp) : Le F F := fun _ _ h => h
theorem Le.trans {F G J : Hp} (a : Le F G) (b : Le G J) : Le F J := fun c o h => b c o (a c o h)
theorem Le.rd {F F' : Hp} (l : Le F F') {a : Addr} {u : HO} (h : Rd F a u) : Rd F' a u := by
  rcases h with h | ⟨o, h⟩
  · exact .inl (l _ _ h)
  · exact .inr ⟨o, l _ _ h⟩
theorem Le.sqT {K : PySem.W.Frag} {F F' : Hp} (l : Le F F') {a : Addr} {xs : List V} (h : SqT K F a xs) : SqT K F' a xs := by
  rcases h with h | h
  · exact .inl (l.rd h)
  · exact .inr h
theorem Le.sqL {K : PySem.W.Frag} {F F' : Hp} (l : Le F F') {a : Addr} {xs : List V} (h : SqL K F a xs) : SqL K F' a xs := by
  rcases h with h | h
  · exact .inl (l.rd h)
  · exact .inr h
mutual
theorem Rp.mono {K : PySem.W.Frag} {F F' : Hp} (l : Le F F') : ∀ {v : V} {d : PyData}, Rp K F v d → Rp K F' v d
  | _, _, .non => .non
  | _, _, .bl b => .bl b
  | _, _, .int i => .int i
  | _, _, .str x => .str x
  | _, _, .lst h r => .lst (l _ _ h) (RpAll.mono l r)
  | _, _, .tup h r => .tup (l.sqT h) (RpAll.mono l r)
theorem RpAll.mono {K : PySem.W.Frag} {F F' : Hp} (l : Le F F') : ∀ {vs : List V} {ds : List PyData}, RpAll K F vs ds → RpAll K F' vs ds
  | _, _, .nil => .nil
  | _, _, .cons h r => .cons (h.mono l) (RpAll.mono l r)
end
mutual
theorem Rp.dp {K : PySem.W.Frag} {F : Hp} : ∀ {v : V} {d : PyData}, Rp K F v d → Dp K F v d
  | _, _, .non => .non
  | _, _, .bl b => .bl b
  | _, _, .int i => .int i
  | _, _, .str x => .str x
  | _, _, .lst h r => .lst (SqL.of h) (RpAll.dp r)
  | _, _, .tup h r => .tup h (RpAll.dp r)
theorem RpAll.dp {K : PySem.W.Frag} {F : Hp} : ∀ {vs : List V} {ds : List PyData}, RpAll K F vs ds → DpAll K F vs ds
  | _, _, .nil => .nil
  | _, _, .cons h r => .cons h.dp (RpAll.dp r)
end
theorem RpAll.length {K : PySem.W.Frag} {F : Hp} : ∀ {vs : List V} {ds : List PyData}, RpAll K F vs ds → vs.length = ds.length
  | _, _, .nil => rfl
  | _, _, .cons _ r => by simp [RpAll.length r]
theorem RpAll.append {K : PySem.W.Frag} {F : Hp} : ∀ {vs ws : List V} {ds es : List PyData}, RpAll K F vs ds → RpAll K F ws es → RpAll K F (vs ++ ws) (ds ++ es)
  | _, _, _, _, .nil, s => s
  | _, _, _, _, .cons h r, s => .cons h (RpAll.append r s)
theorem RpAll.get {K : PySem.W.Frag} {F : Hp} : ∀ {vs : List V} {ds : List PyData} {i : Nat} {d : PyData}, RpAll K F vs ds → ds[i]? = some d → ∃ v, vs[i]? = some v ∧ Rp K F v d
  | _, _, _, _, .nil, e => by simp at e
  | _, _, 0, _, .cons h _, e => by simp at e; subst e; exact ⟨_, rfl, h⟩
  | _, _, i + 1, d, .cons _ r, e => by
    obtain ⟨v, h1, h2⟩ := RpAll.get (i := i) (d := d) r (by simpa using e)
    exact ⟨v, by simpa using h1, h2⟩
theorem RpAll.get' {K : PySem.W.Frag} {F : Hp} : ∀ {vs : List V} {ds : List PyData} {i : Nat} {v : V}, RpAll K F vs ds → vs[i]? = some v → ∃ d, ds[i]? = some d ∧ Rp K F v d
  | _, _, _, _, .nil, e => by simp at e
  | _, _, 0, _, .cons h _, e => by simp at e; subst e; exact ⟨_, rfl, h⟩
  | _, _, i + 1, d, .cons _ r, e => by
    obtain ⟨v, h1, h2⟩ := RpAll.get' (i := i) (v := d) r (by simpa using e)
    exact ⟨v, by simpa using h1, h2⟩
theorem RpAll.drop {K : PySem.W.Frag} {F : Hp} : ∀ {vs : List V} {ds : List PyData} (n : Nat), RpAll K F vs ds → RpAll K F (vs.drop n) (ds.drop n)
  | _, _, 0, r => r
  | _, _, _ + 1, .nil => .nil
  | _, _, n + 1, .cons _ r => RpAll.drop n r
theorem RpAll.take {K : PySem.W.Frag} {F : Hp} : ∀ {vs : List V} {ds : List PyData} (n : Nat), RpAll K F vs ds → RpAll K F (vs.take n) (ds.take n)
  | _, _, 0, _ => .nil
  | _, _, _ + 1, .nil => .nil
  | _, _, n + 1, .cons h r => .cons h (RpAll.take n r)

/-! ### the store -/
def SOk (K : PySem.W.Frag) (F H : Hp) (a : Addr) : SO → Prop
  | .lst ds => F a = none ∧ ∃ vs, H a = some (.lst vs) ∧ RpAll K F vs ds
  | .dct kvs => F a = none ∧ ∃ ws, H a = some (.dK ws) ∧ Paired (fun (p : Key × V) (q : Key × PyData) => p.1 = q.1 ∧ Rp K F p.2 q.2) ws kvs
  | .frz d => (F a).isSome = true ∧ Rp K F (.ref a) d
structure Rel (K : PySem.W.Frag) (F H : Hp) (m : List Addr) (st : Sto) : Prop where
  le : Le F H
  len : m.length = st.length
  nd : m.Nodup
  ob : ∀ (k : Nat) (a : Addr) (o : SO), m[k]? = some a → st[k]? = some o → SOk K F H a o
/-- from one moment to a later one -/
structure Stp (F H : Hp) (m : List Addr) (F' H' : Hp) (m' : List Addr) : Prop where
  fF : Le F F'
  mm : ∃ r, m' = m ++ r
  frm : ∀ a o, H a = some o → a ∉ m → H' a = some o
  nF : ∀ a o, H a = some o → a ∉ m → F a = none → F' a = none
  nm : ∀ a, a ∈ m' → a ∉ m → H a = none
theorem Stp.refl (F H : Hp) (m : List Addr) : Stp F H m F H m := ⟨Le.refl F, ⟨[], by simp⟩, fun _ _ h _ => h, fun _ _ _ _ h => h, fun _ h n => absurd h n⟩
theorem Stp.trans {F H F1 H1 F2 H2 : Hp} {m m1 m2 : List Addr} (a : Stp F H m F1 H1 m1) (b : Stp F1 H1 m1 F2 H2 m2) : Stp F H m F2 H2 m2 := by
  have key : ∀ x o, H x = some o → x ∉ m → x ∉ m1 := fun x o h n z => by
    have := a.nm x z n
    rw [h] at this; cases this
  refine ⟨a.fF.trans b.fF, ?_, fun x o h n => b.frm x o (a.frm x o h n) (key x o h n), fun x o h n f => b.nF x o (a.frm x o h n) (key x o h n) (a.nF x o h n f), fun x h n => ?_⟩
  · obtain ⟨r, e⟩ := a.mm
    obtain ⟨r', e'⟩ := b.mm
    exact ⟨r ++ r', by rw [e', e, List.append_assoc]⟩
  · by_cases z : x ∈ m1
    · exact a.nm x z n
    · cases q : H x with
      | none => rfl
      | some o =>
        have := b.nm x h z
        rw [a.frm x o q n] at this; cases this
theorem Stp.at {F H F1 H1 : Hp} {m m1 : List Addr} (a : Stp F H m F1 H1 m1) {k : Nat} {x : Addr} (h : m[k]? = some x) : m1[k]? = some x := by
  obtain ⟨r, e⟩ := a.mm
  rw [e, List.getElem?_append_left (List.getElem?_eq_some_iff.mp h).1]
  exact h
def RVal (K : PySem.W.Frag) (F : Hp) (m : List Addr) : Val → V → Prop
  | .dat d, v => Rp K F v d
  | .ref k, v => ∃ a, m[k]? = some a ∧ v = .ref a
  | .scr ns, v => ∃ a, v = .ref a ∧ SqL K F a (ns.map V.int)
theorem RVal.later {K : PySem.W.Frag} {F H F1 H1 : Hp} {m m1 : List Addr} (a : Stp F H m F1 H1 m1) : ∀ {x : Val} {v : V}, RVal K F m x v → RVal K F1 m1 x v
  | .dat _, _, h => Rp.mono a.fF h
  | .ref _, _, ⟨b, h, e⟩ => ⟨b, a.at h, e⟩
  | .scr _, _, ⟨b, e, h⟩ => ⟨b, e, a.fF.sqL h⟩
def RVals (K : PySem.W.Frag) (F : Hp) (m : List Addr) : List Val → List V → Prop := Paired (RVal K F m)
theorem RVals.later {K : PySem.W.Frag} {F H F1 H1 : Hp} {m m1 : List Addr} (a : Stp F H m F1 H1 m1) : ∀ {xs : List Val} {vs : List V}, RVals K F m xs vs → RVals K F1 m1 xs vs
  | _, _, .nil => .nil
  | _, _, .cons h r => .cons (h.later a) (RVals.later a r)
structure EnvR (K : PySem.W.Frag) (F : Hp) (m : List Addr) (ρ : Ev) (σ : St) : Prop where
  len : ρ.length = σ.length
  at_ : ∀ (i : Nat) (x : Val), ρ[i]? = some (some x) → ∃ v, σ[i]? = some (some v) ∧ RVal K F m x v
theorem EnvR.later {K : PySem.W.Frag} {F H F1 H1 : Hp} {m m1 : List Addr} {ρ : Ev} {σ : St} (a : Stp F H m F1 H1 m1) (h : EnvR K F m ρ σ) : EnvR K F1 m1 ρ σ :=
  ⟨h.len, fun i x e => let ⟨v, e1, r⟩ := h.at_ i x e; ⟨v, e1, r.later a⟩⟩
theorem EnvR.set {K : PySem.W.Frag} {F : Hp} {m : List Addr} {ρ : Ev} {σ : St} {i : Nat} {x : Val} {v : V} (h : EnvR K F m ρ σ) (r : RVal K F m x v) : EnvR K F m (ρ.set i (some x)) (σ.set i (some v)) := by
  refine ⟨by simp [h.len], fun j y e => ?_⟩
  by_cases hj : i = j
  · subst hj
    by_cases hl : i < ρ.length
    · rw [List.getElem?_set_self hl] at e
      cases e
      exact ⟨v, List.getElem?_set_self (by rw [← h.len]; exact hl), r⟩
    · rw [List.getElem?_eq_none (by simp; omega)] at e; cases e
  · rw [List.getElem?_set_ne hj] at e ⊢
    exact h.at_ j y e

/-! ### readings -/
/-- an exception that leaves: its class by name, its fields -/
def ExcIs (K : PySem.W.Frag) (cn : Str → Option Addr) (F H : Hp) (c : Str) (fs : List (Str × PyData)) (cls : Value) (d : Option Addr) : Prop :=
  ∃ C dd vs, cn c = some C ∧ cls = .ref C ∧ d = some dd ∧ H dd = some (.xd vs) ∧ Paired (fun (p : Str × V) (q : Str × PyData) => p.1 = q.1 ∧ Rp K F p.2 q.2) vs fs
structure Cf where
  K : PySem.W.Frag
  cn : Str → Option Addr
/-- what is wanted behind a run r: T tells how its answer stands -/
def PostG {α β : Type} (c : Cf) (E : XK) (T : Hp → List Addr → α → β → Prop) (F H : Hp) (m : List Addr) (r : Res α) (Q : β → Hp → Prop) : Prop := match r with
  | .ok x st' => ∀ F' H' m' v, Stp F H m F' H' m' → Rel c.K F' H' m' st' → T F' m' x v → Q v H'
  | .exc n fs st' => ∀ F' H' m' cls d, Stp F H m F' H' m' → Rel c.K F' H' m' st' → ExcIs c.K c.cn F' H' n fs cls d → E cls d H'
  | .err => False
abbrev Post (c : Cf) (E : XK) (F H : Hp) (m : List Addr) (r : Res Val) (Q : VK) : Prop := PostG c E (RVal c.K) F H m r Q
abbrev PostA (c : Cf) (E : XK) (F H : Hp) (m : List Addr) (r : Res (List Val)) (Q : List V → Hp → Prop) : Prop := PostG c E (RVals c.K) F H m r Q
def RB : Hp → List Addr → Bool → Bool → Prop := fun _ _ a b => a = b
abbrev PostB (c : Cf) (E : XK) (F H : Hp) (m : List Addr) (r : Res Bool) (Q : Bool → Hp → Prop) : Prop := PostG c E RB F H m r Q
theorem PostG.later {α β : Type} {c : Cf} {E : XK} {T : Hp → List Addr → α → β → Prop} {F H F1 H1 : Hp} {m m1 : List Addr} {r : Res α} {Q : β → Hp → Prop} (a : Stp F H m F1 H1 m1) (h : PostG c E T F H m r Q) : PostG c E T F1 H1 m1 r Q := by
  cases r with
  | ok x st => exact fun F' H' m' v s => h F' H' m' v (a.trans s)
  | exc n fs st => exact fun F' H' m' cls d s => h F' H' m' cls d (a.trans s)
  | err => exact h
theorem PostG.mono {α β : Type} {c : Cf} {E : XK} {T : Hp → List Addr → α → β → Prop} {F H : Hp} {m : List Addr} {r : Res α} {Q Q' : β → Hp → Prop} (h : PostG c E T F H m r Q) (k : ∀ v H', Q v H' → Q' v H') : PostG c E T F H m r Q' := by
  cases r with
  | ok x st => exact fun F' H' m' v s r t => k _ _ (h F' H' m' v s r t)
  | exc n fs st => exact h
  | err => exact h
def TDg {α β : Type} (c : Cf) (E : XK) (T : Hp → List Addr → α → β → Prop) (f : Ev → M α) : St → Hp → (β → Hp → Prop) → Prop := fun σ H Q => ∃ F m ρ st, Rel c.K F H m st ∧ EnvR c.K F m ρ σ ∧ PostG c E T F H m (f ρ st) Q
abbrev TD (c : Cf) (E : XK) (f : Ev → M Val) : TE := TDg c E (RVal c.K) f
abbrev TDA (c : Cf) (E : XK) (f : Ev → M (List Val)) : TA := TDg c E (RVals c.K) f
abbrev TDB (c : Cf) (E : XK) (f : Ev → M Bool) : TT := TDg c E RB f
theorem PE.imp {X : Cx} {e : Expr} {t t' : TE} (h : PE X e t) (i : ∀ σ H Q, t' σ H Q → t σ H Q) : PE X e t' := ⟨fun pins s σ H Q I q => h.run pins s σ H Q I (i _ _ _ q)⟩
theorem PT.imp {X : Cx} {e : Expr} {t t' : TT} (h : PT X e t) (i : ∀ σ H Q, t' σ H Q → t σ H Q) : PT X e t' := ⟨fun pins s σ H Q I q => h.run pins s σ H Q I (i _ _ _ q)⟩
theorem PA.imp {X : Cx} {e : List Expr} {t t' : TA} (h : PA X e t) (i : ∀ σ H Q, t' σ H Q → t σ H Q) : PA X e t' := ⟨fun pos pins s σ H Q I q => h.run pos pins s σ H Q I (i _ _ _ q)⟩

/-! ### joining -/
section
variable {c : Cf} {E : XK} {σ : St} {H : Hp} {α β γ δ κ μ : Type}
theorem PostG.bnd {T : Hp → List Addr → α → β → Prop} {T2 : Hp → List Addr → γ → δ → Prop} {Q : δ → Hp → Prop} {F : Hp} {m : List Addr} {st : Sto} {x : M α} {k : α → M γ} (p : PostG c E T2 F H m (bnd x k st) Q) :
    PostG c E T F H m (x st) fun v H1 => ∃ F1 m1 st1 y, Stp F H m F1 H1 m1 ∧ Rel c.K F1 H1 m1 st1 ∧ T F1 m1 y v ∧ PostG c E T2 F1 H1 m1 (k y st1) Q := by
  simp only [PL.bnd] at p
  cases q : x st with
  | ok y st1 =>
    rw [q] at p
    exact fun F' H' m' v s r' rv => ⟨F', m', st1, y, s, r', rv, PostG.later s p⟩
  | exc n fs st1 => rw [q] at p; exact p
  | err => rw [q] at p; exact p
/-- a value, then g of it -/
theorem td1 {T : Hp → List Addr → α → β → Prop} {T2 : Hp → List Addr → γ → δ → Prop} {Q : δ → Hp → Prop} {f : Ev → M α} {g : α → M γ} (h : TDg c E T2 (fun ρ => bnd (f ρ) g) σ H Q) {R : β → Hp → Prop}
    (k : ∀ F H1 m st x v, Rel c.K F H1 m st → T F m x v → PostG c E T2 F H1 m (g x st) Q → R v H1) : TDg c E T f σ H R := by
  obtain ⟨F, m, ρ, st, r, ev, p⟩ := h
  refine ⟨F, m, ρ, st, r, ev, ?_⟩
  simp only [bnd] at p
  cases q : f ρ st with
  | ok x st1 =>
    rw [q] at p
    exact fun F' H' m' v s r' rv => k F' H' m' st1 x v r' rv (PostG.later s p)
  | exc n fs st1 => rw [q] at p; exact p
  | err => rw [q] at p; exact p
/-- .. with what stands around kept -/
theorem td1e {T : Hp → List Addr → α → β → Prop} {T2 : Hp → List Addr → γ → δ → Prop} {Q : δ → Hp → Prop} {f : Ev → M α} {g : Ev → α → M γ} (h : TDg c E T2 (fun ρ => bnd (f ρ) (g ρ)) σ H Q) {R : β → Hp → Prop}
    (k : ∀ F H1 m ρ st x v, Rel c.K F H1 m st → EnvR c.K F m ρ σ → T F m x v → PostG c E T2 F H1 m (g ρ x st) Q → R v H1) : TDg c E T f σ H R := by
  obtain ⟨F, m, ρ, st, r, ev, p⟩ := h
  refine ⟨F, m, ρ, st, r, ev, ?_⟩
  simp only [bnd] at p
  cases q : f ρ st with
  | ok x st1 =>
    rw [q] at p
    exact fun F' H' m' v s r' rv => k F' H' m' ρ st1 x v r' (ev.later s) rv (PostG.later s p)
  | exc n fs st1 => rw [q] at p; exact p
  | err => rw [q] at p; exact p
theorem td2 {T : Hp → List Addr → α → β → Prop} {T' : Hp → List Addr → κ → μ → Prop} {T2 : Hp → List Addr → γ → δ → Prop} {Q : δ → Hp → Prop} (mo : ∀ {F H F1 H1 : Hp} {m m1 : List Addr} {x : α} {v : β}, Stp F H m F1 H1 m1 → T F m x v → T F1 m1 x v)
    {f : Ev → M α} {f2 : Ev → M κ} {g : α → κ → M γ} (h : TDg c E T2 (fun ρ => bnd (f ρ) fun x => bnd (f2 ρ) fun y => g x y) σ H Q) {R : β → μ → Hp → Prop}
    (k : ∀ F H1 m st x y v w, Rel c.K F H1 m st → T F m x v → T' F m y w → PostG c E T2 F H1 m (g x y st) Q → R v w H1) : TDg c E T f σ H fun v H1 => TDg c E T' f2 σ H1 fun w H2 => R v w H2 :=
  td1e (g := fun ρ x => bnd (f2 ρ) fun y => g x y) h fun F H1 m ρ st x v r ev rv p => by
    refine ⟨F, m, ρ, st, r, ev, ?_⟩
    simp only [bnd] at p
    cases q2 : f2 ρ st with
    | ok y st2 =>
      rw [q2] at p
      exact fun F2 H2 m2 w s2 r2 rw2 => k F2 H2 m2 st2 x y v w r2 (mo s2 rv) rw2 (PostG.later s2 p)
    | exc n fs st2 => rw [q2] at p; exact p
    | err => rw [q2] at p; exact p
end
end PL

set_option Elab.async false
set_option linter.all false
set_option maxRecDepth 100000
namespace PL
open PySem PySem.Spec L2
open PyProof.Rows hiding St

/-! ### what a value shows -/
def vw (x : Val) (st : Sto) : Option PyData := match x with
  | .dat d => some d
  | .ref k => (match st[k]? with
    | some (.lst ds) => some (.list ds)
    | some (.frz d) => some d
    | _ => none)
  | .scr _ => none
inductive VB (K : PySem.W.Frag) (F H : Hp) : V → PyData → Prop
  | non : VB K F H .non .none
  | bl (b : Bool) : VB K F H (.bl b) (.bool b)
  | int (i : Int) : VB K F H (.int i) (.int i)
  | str (x : Str) : VB K F H (.str x) (.str x)
  | lst {a : Addr} {xs : List V} {ds : List PyData} : H a = some (.lst xs) → RpAll K F xs ds → VB K F H (.ref a) (.list ds)
  | tup {a : Addr} {xs : List V} {ds : List PyData} : SqT K F a xs → RpAll K F xs ds → VB K F H (.ref a) (.tuple ds)
theorem Rp.vb {K : PySem.W.Frag} {F H : Hp} (l : Le F H) {v : V} {d : PyData} (h : Rp K F v d) : VB K F H v d := by
  cases h with
  | non => exact .non
  | bl b => exact .bl b
  | int i => exact .int i
  | str x => exact .str x
  | lst h r => exact .lst (l _ _ h) r
  | tup h r => exact .tup h r
theorem VB.dp {K : PySem.W.Frag} {F H : Hp} (l : Le F H) {v : V} {d : PyData} (h : VB K F H v d) : Dp K H v d := by
  cases h with
  | non => exact .non
  | bl b => exact .bl b
  | int i => exact .int i
  | str x => exact .str x
  | lst h r => exact .lst (SqL.of h) (r.mono l).dp
  | tup h r => exact .tup (l.sqT h) (r.mono l).dp
theorem vw_ok {K : PySem.W.Frag} {F H : Hp} {m : List Addr} {st : Sto} {x : Val} {v : V} {d : PyData} (R : Rel K F H m st) (h : RVal K F m x v) (e : vw x st = some d) : VB K F H v d := by
  cases x with
  | dat d' => cases e; exact Rp.vb R.le h
  | scr ns => cases e
  | ref k =>
    obtain ⟨a, ha, rfl⟩ := h
    simp only [vw] at e
    cases q : st[k]? with
    | none => rw [q] at e; cases e
    | some o =>
      rw [q] at e
      have ob := R.ob k a o ha q
      cases o with
      | lst ds => cases e; obtain ⟨_, vs, h1, h2⟩ := ob; exact .lst h1 h2
      | dct kvs => cases e
      | frz d' => cases e; exact Rp.vb R.le ob.2

/-! ### new objects -/
theorem Rel.there {K : PySem.W.Frag} {F H : Hp} {m : List Addr} {st : Sto} (R : Rel K F H m st) {a : Addr} (h : a ∈ m) : ∃ o, H a = some o := by
  obtain ⟨k, hk⟩ := List.getElem?_of_mem h
  have hl : k < st.length := by rw [← R.len]; exact (List.getElem?_eq_some_iff.mp hk).1
  have := R.ob k a st[k] hk (List.getElem?_eq_getElem hl)
  cases e : st[k] with
  | lst ds => rw [e] at this; obtain ⟨_, vs, h1, _⟩ := this; exact ⟨_, h1⟩
  | dct ds => rw [e] at this; obtain ⟨_, vs, h1, _⟩ := this; exact ⟨_, h1⟩
  | frz d =>
    rw [e] at this
    obtain ⟨h1, _⟩ := this
    cases q : F a with
    | none => rw [q] at h1; cases h1
    | some o => exact ⟨o, R.le _ _ q⟩
theorem Le.new {F : Hp} {p : Addr} {o : HO} (h : F p = none) : Le F (upd F p o) := fun a u e => by rw [upd_ne (ne_of_none e h)]; exact e
theorem SOk.new {K : PySem.W.Frag} {F H : Hp} {a p : Addr} {o : HO} {so : SO} (le : Le F H) (hp : H p = none) (ne : a ≠ p) (h : SOk K F H a so) : SOk K (upd F p o) (upd H p o) a so := by
  have hF : F p = none := by
    cases q : F p with
    | none => rfl
    | some u => rw [le _ _ q] at hp; cases hp
  have l : Le F (upd F p o) := Le.new hF
  cases so with
  | lst ds => obtain ⟨h0, vs, h1, h2⟩ := h; exact ⟨by rw [upd_ne ne]; exact h0, vs, by rw [upd_ne ne]; exact h1, h2.mono l⟩
  | dct ds => obtain ⟨h0, vs, h1, h2⟩ := h; exact ⟨by rw [upd_ne ne]; exact h0, vs, by rw [upd_ne ne]; exact h1, Paired.mapP h2 fun p q z => ⟨z.1, z.2.mono l⟩⟩
  | frz d => obtain ⟨h0, h1⟩ := h; exact ⟨by rw [upd_ne ne]; exact h0, h1.mono l⟩
theorem Rel.new {K : PySem.W.Frag} {F H : Hp} {m : List Addr} {st : Sto} (R : Rel K F H m st) {p : Addr} (hp : H p = none) (o : HO) : Stp F H m (upd F p o) (upd H p o) m ∧ Rel K (upd F p o) (upd H p o) m st := by
  have hF : F p = none := by
    cases q : F p with
    | none => rfl
    | some u => rw [R.le _ _ q] at hp; cases hp
  have hm : p ∉ m := fun h => by
    obtain ⟨o, e⟩ := R.there h
    rw [hp] at e; cases e
  refine ⟨⟨Le.new hF, ⟨[], by simp⟩, fun a u h _ => by rw [upd_ne (ne_of_none h hp)]; exact h, fun a u h _ f => by rw [upd_ne (ne_of_none h hp)]; exact f, fun a h n => absurd h n⟩, ⟨fun a u e => ?_, R.len, R.nd, fun k a so e1 e2 => ?_⟩⟩
  · by_cases h : a = p
    · subst h; rw [upd_same] at e ⊢; exact e
    · rw [upd_ne h] at e ⊢; exact R.le _ _ e
  · exact SOk.new R.le hp (fun z => hm (z ▸ List.mem_of_getElem? e1)) (R.ob k a so e1 e2)
/-- a new object that is not yet data: the store's next thing -/
theorem Rel.push {K : PySem.W.Frag} {F H : Hp} {m : List Addr} {st : Sto} (R : Rel K F H m st) {p : Addr} (hp : H p = none) {o : HO} {so : SO} (ok : SOk K F (upd H p o) p so) : Stp F H m F (upd H p o) (m ++ [p]) ∧ Rel K F (upd H p o) (m ++ [p]) (st ++ [so]) := by
  have hm : p ∉ m := fun h => by
    obtain ⟨o, e⟩ := R.there h
    rw [hp] at e; cases e
  refine ⟨⟨Le.refl F, ⟨[p], rfl⟩, fun a u h _ => by rw [upd_ne (ne_of_none h hp)]; exact h, fun a u h _ f => f, fun a h n => ?_⟩, ⟨fun a u e => ?_, by simp [R.len], ?_, fun k a so' e1 e2 => ?_⟩⟩
  · rcases List.mem_append.mp h with h | h
    · exact absurd h n
    · rw [List.mem_singleton.mp h]; exact hp
  · rw [upd_ne (ne_of_none (R.le _ _ e) hp)]; exact R.le _ _ e
  · rw [List.nodup_append]
    exact ⟨R.nd, by simp, fun a ha b hb => by rw [List.mem_singleton.mp hb]; exact fun z => hm (z ▸ ha)⟩
  · by_cases hk : k < m.length
    · rw [List.getElem?_append_left hk] at e1
      rw [List.getElem?_append_left (by rw [← R.len]; exact hk)] at e2
      have ob := R.ob k a so' e1 e2
      have ne : a ≠ p := fun z => hm (z ▸ List.mem_of_getElem? e1)
      cases so' with
      | lst ds => obtain ⟨h0, vs, h1, h2⟩ := ob; exact ⟨h0, vs, by rw [upd_ne ne]; exact h1, h2⟩
      | dct ds => obtain ⟨h0, vs, h1, h2⟩ := ob; exact ⟨h0, vs, by rw [upd_ne ne]; exact h1, h2⟩
      | frz d => exact ob
    · have hl : k = m.length := by
        have := (List.getElem?_eq_some_iff.mp e1).1
        simp at this; omega
      subst hl
      rw [List.getElem?_append_right (Nat.le_refl _)] at e1
      rw [R.len, List.getElem?_append_right (Nat.le_refl _)] at e2
      simp at e1 e2
      subst e1; subst e2
      exact ok

/-! ### constants, names -/
section
variable {X : Cx} {cn : Str → Option Addr} {E : XK} {pos : Pos}
theorem post_ok {c : Cf} {F H : Hp} {m : List Addr} {st : Sto} {x : Val} {v : V} {Q : VK} (p : Post c E F H m (.ok x st) Q) (R : Rel c.K F H m st) (r : RVal c.K F m x v) : Q v H := p F H m v (Stp.refl _ _ _) R r
def eC (d : PyData) : Ev → M Val := fun _ => ret (.dat d)
def eV (i : Nat) : Ev → M Val := fun ρ => match ρ[i]? with
  | some (some x) => ret x
  | _ => fail
theorem td_const {t : TE} {v : V} {d : PyData} {e : Expr} (h : PE X e (tC v)) (r : ∀ F, Rp X.K F v d) : PE X e (TD ⟨X.K, cn⟩ E (eC d)) :=
  PE.imp h fun σ H Q ⟨F, m, ρ, st, R, ev, p⟩ => post_ok p R (r F)
theorem d_int {i j} : PE X (.Constant (.int i) j pos) (TD ⟨X.K, cn⟩ E (eC (.int i))) := td_const (t := tC .non) pe_int fun _ => .int i
theorem d_bl {b j} : PE X (.Constant (.bool b) j pos) (TD ⟨X.K, cn⟩ E (eC (.bool b))) := td_const (t := tC .non) pe_bl fun _ => .bl b
theorem d_non {j} : PE X (.Constant .none j pos) (TD ⟨X.K, cn⟩ E (eC .none)) := td_const (t := tC .non) pe_non fun _ => .non
theorem d_str {x j} : PE X (.Constant (.str x) j pos) (TD ⟨X.K, cn⟩ E (eC (.str x))) := td_const (t := tC .non) pe_str fun _ => .str x
theorem d_var (i : Nat) {x : Str} (hN : X.N[i]? = some x := by rfl) (hv : Vis X.env.scope x := by first | exact Or.inl rfl | exact Or.inr (Or.inl rfl) | exact Or.inr (Or.inr rfl)) (hd : (x == ("__debug__" : Str)) = false := by decide)
    (hcd : (x == ("__classdict__" : Str)) = false := by decide) : PE X (.Name x pos) (TD ⟨X.K, cn⟩ E (eV i)) :=
  PE.imp (pe_var hN hv hd hcd) fun σ H Q ⟨F, m, ρ, st, R, ev, p⟩ => by
    unfold eV at p
    cases e : ρ[i]? with
    | none => rw [e] at p; exact p.elim
    | some o =>
      rw [e] at p
      cases o with
      | none => exact p.elim
      | some x =>
        obtain ⟨v, h1, h2⟩ := ev.at_ i x e
        exact ⟨v, h1, post_ok p R h2⟩

/-! ### operators -/
def rD (c : Cf) (E : XK) (g : Val → Val → M Val) : R2 := fun x y H Q => ∃ F m st x' y', Rel c.K F H m st ∧ RVal c.K F m x' x ∧ RVal c.K F m y' y ∧ Post c E F H m (g x' y' st) Q
def rD1 (c : Cf) (E : XK) (g : Val → M Val) : V → Hp → VK → Prop := fun x H Q => ∃ F m st x', Rel c.K F H m st ∧ RVal c.K F m x' x ∧ Post c E F H m (g x' st) Q
def e1 (g : Val → M Val) (f : Ev → M Val) : Ev → M Val := fun ρ => bnd (f ρ) g
def e2 (g : Val → Val → M Val) (f f' : Ev → M Val) : Ev → M Val := fun ρ => bnd (f ρ) fun x => bnd (f' ρ) fun y => g x y
theorem td_op {c : Cf} {g : Val → Val → M Val} {f f' : Ev → M Val} {σ : St} {H : Hp} {Q : VK} (h : TD c E (e2 g f f') σ H Q) : tOp (rD c E g) (TD c E f) (TD c E f') σ H Q :=
  td2 (T := RVal c.K) (T' := RVal c.K) (R := fun x y H2 => rD c E g x y H2 Q) (fun S h => RVal.later S h) h fun F H1 m st x y v w R r1 r2 p => ⟨F, m, st, x, y, R, r1, r2, p⟩
theorem td_un {c : Cf} {g : Val → M Val} {f : Ev → M Val} {σ : St} {H : Hp} {Q : VK} (h : TD c E (e1 g f) σ H Q) : tUn (rD1 c E g) (TD c E f) σ H Q :=
  td1 h fun F H1 m st x v R r1 p => ⟨F, m, st, x, R, r1, p⟩
variable {a b : Expr} {f f' : Ev → M Val}
theorem d_op {op : Operator} {g : Val → Val → M Val} (ho : OpR X (binaryOp op) (rD ⟨X.K, cn⟩ E g)) (ha : PE X a (TD ⟨X.K, cn⟩ E f)) (hb : PE X b (TD ⟨X.K, cn⟩ E f')) : PE X (.BinOp a op b pos) (TD ⟨X.K, cn⟩ E (e2 g f f')) :=
  PE.imp (pe_op ho ha hb) fun σ H Q h => td_op h
theorem d_un {op : UnaryOp} {g : Val → M Val} (ho : UnR X (unaryOp op) (rD1 ⟨X.K, cn⟩ E g)) (ha : PE X a (TD ⟨X.K, cn⟩ E f)) : PE X (.UnaryOp op a pos) (TD ⟨X.K, cn⟩ E (e1 g f)) :=
  PE.imp (pe_un ho ha) fun σ H Q h => td_un h
theorem d_cmp {op : CmpOp} {g : Val → Val → M Val} (ho : OpR X (compareOp op) (rD ⟨X.K, cn⟩ E g)) (ha : PE X a (TD ⟨X.K, cn⟩ E f)) (hb : PE X b (TD ⟨X.K, cn⟩ E f')) (hm : behindInMarks op b = false := by rfl) :
    PE X (.Compare a [op] [b] pos) (TD ⟨X.K, cn⟩ E (e2 g f f')) :=
  PE.imp (pe_cmpR ho ha hb hm) fun σ H Q h => td_op h

/-- two views at once -/
def on2 (g : PyData → PyData → M Val) (x y : Val) : M Val := fun st => match vw x st, vw y st with
  | some d, some e => g d e st
  | _, _ => .err
theorem on2_ok {fv : Value → Value → Sem Value} {g : PyData → PyData → M Val}
    (h : ∀ (pins : List (Addr × Obj)) (s : Shared) (σ : St) (H F : Hp) (m : List Addr) (st : Sto) (x y : V) (d e : PyData) (v u : Value) (Q : VK), Inv X pins σ H s → RelV x v → RelV y u → Rel X.K F H m st → VB X.K F H x d → VB X.K F H y e → Post ⟨X.K, cn⟩ E F H m (g d e st) Q →
      wpAny (model X.prog X.w) X.A (fv v u) (EP X pins σ Q) X.xe s) : OpR X fv (rD ⟨X.K, cn⟩ E (on2 g)) := by
  intro pins s σ H x y v u Q I rx ry ⟨F, m, st, x', y', R, h1, h2, p⟩
  unfold on2 at p
  cases ex : vw x' st with
  | none => rw [ex] at p; exact p.elim
  | some d =>
    cases ey : vw y' st with
    | none => rw [ex, ey] at p; exact p.elim
    | some e => rw [ex, ey] at p; exact h pins s σ H F m st x y d e v u Q I rx ry R (vw_ok R h1 ex) (vw_ok R h2 ey) p
def on1 (g : PyData → M Val) (x : Val) : M Val := fun st => match vw x st with
  | some d => g d st
  | _ => .err
def bB (b : Bool) : M Val := ret (.dat (.bool b))
def bI (i : Int) : M Val := ret (.dat (.int i))
def bS (x : Str) : M Val := ret (.dat (.str x))
def chk (b : Bool) (k : M Val) : M Val := fun st => if b then k st else .err
theorem post_chk {c : Cf} {F H : Hp} {m : List Addr} {st : Sto} {b : Bool} {k : M Val} {Q : VK} (p : Post c E F H m (chk b k st) Q) : b = true ∧ Post c E F H m (k st) Q := by
  unfold chk at p
  cases b with
  | true => exact ⟨rfl, p⟩
  | false => exact p.elim
def addD : PyData → PyData → M Val
  | .int i, .int j => bI (i + j)
  | .str x, .str y => chk (decide (x.length + y.length ≤ sizeLine)) (bS (x ++ y))
  | .list xs, .list ys => chk (decide (xs.length + ys.length ≤ sizeLine)) (ret (.dat (.list (xs ++ ys))))
  | .tuple xs, .tuple ys => chk (decide (xs.length + ys.length ≤ sizeLine)) (ret (.dat (.tuple (xs ++ ys))))
  | _, _ => fail
theorem o_add : OpR X (binaryOp .Add) (rD ⟨X.K, cn⟩ E (on2 addD)) := on2_ok fun pins s σ H F m st x y d e v u Q I rx ry R h1 h2 p => by
  cases h1 <;> cases h2 <;> first
    | exact p.elim
    | exact op_add pins s σ H _ _ v u Q I rx ry ⟨_, _, rfl, rfl, post_ok p R (.int _)⟩
    | skip
  · obtain ⟨z, p⟩ := post_chk p
    exact op_add_str pins s σ H _ _ v u Q I rx ry ⟨_, _, rfl, rfl, of_decide_eq_true z, post_ok p R (.str _)⟩
  · rename_i a xs ds ha hr b ys es hb hs
    obtain ⟨z, p⟩ := post_chk p
    refine op_cat pins s σ H _ _ v u Q I rx ry ⟨_, _, _, _, rfl, rfl, ha, hb, by rw [hr.length, hs.length]; exact of_decide_eq_true z, fun q hq => ?_⟩
    obtain ⟨S, R'⟩ := R.new hq (.lst (xs ++ ys))
    exact p _ _ _ _ S R' (.lst upd_same ((hr.append hs).mono S.fF))
  · rename_i a xs ds ha hr b ys es hb hs
    obtain ⟨z, p⟩ := post_chk p
    refine op_catA pins s σ H _ _ v u Q I rx ry ⟨_, _, _, _, rfl, rfl, R.le.sqT ha, R.le.sqT hb, by rw [hr.length, hs.length]; exact of_decide_eq_true z, fun e => ?_, fun _ e => ?_, fun _ _ q hq => ?_⟩
    · subst e
      cases hr
      exact post_ok p R (.tup hb hs)
    · subst e
      cases hs
      exact post_ok p R (.tup ha (by rw [List.append_nil]; exact hr))
    · obtain ⟨S, R'⟩ := R.new hq (.tup (xs ++ ys))
      exact p _ _ _ _ S R' (.tup (SqT.of upd_same) ((hr.append hs).mono S.fF))
def subD : PyData → PyData → M Val
  | .int i, .int j => bI (i - j)
  | _, _ => fail
theorem o_sub : OpR X (binaryOp .Sub) (rD ⟨X.K, cn⟩ E (on2 subD)) := on2_ok fun pins s σ H F m st x y d e v u Q I rx ry R h1 h2 p => by
  cases h1 <;> cases h2 <;> first
    | exact p.elim
    | exact op_sub pins s σ H _ _ v u Q I rx ry ⟨_, _, rfl, rfl, post_ok p R (.int _)⟩
def i64 (i : Int) : Bool := decide (-(2 ^ 64) < i ∧ i < 2 ^ 64)
def mulD : PyData → PyData → M Val
  | .int i, .int j => chk (i64 i || i64 j) (bI (i * j))
  | .list xs, .int k => chk (decide (-(2 ^ 63) ≤ k ∧ k < 2 ^ 63 ∧ xs.length * k.toNat ≤ sizeLine)) (ret (.dat (.list (List.replicate k.toNat xs).flatten)))
  | _, _ => fail
theorem RpAll.rep {K : PySem.W.Frag} {F : Hp} {vs : List V} {ds : List PyData} (h : RpAll K F vs ds) : ∀ k : Nat, RpAll K F (List.replicate k vs).flatten (List.replicate k ds).flatten
  | 0 => .nil
  | k + 1 => by
    rw [List.replicate_succ, List.replicate_succ, List.flatten_cons, List.flatten_cons]
    exact h.append (RpAll.rep h k)
theorem o_mul : OpR X (binaryOp .Mult) (rD ⟨X.K, cn⟩ E (on2 mulD)) := on2_ok fun pins s σ H F m st x y d e v u Q I rx ry R h1 h2 p => by
  cases h1 <;> cases h2 <;> first
    | exact p.elim
    | skip
  · obtain ⟨z, p⟩ := post_chk p
    refine op_mul pins s σ H _ _ v u Q I rx ry ⟨_, _, rfl, rfl, ?_, post_ok p R (.int _)⟩
    rcases Bool.or_eq_true_iff.mp z with z | z
    · exact .inl (of_decide_eq_true z)
    · exact .inr (of_decide_eq_true z)
  · rename_i a xs ds ha hr i
    obtain ⟨z, p⟩ := post_chk p
    obtain ⟨z1, z2, z3⟩ := of_decide_eq_true z
    refine op_rep pins s σ H _ _ v u Q I rx ry ⟨_, _, _, rfl, rfl, ha, z1, z2, by rw [hr.length]; exact z3, fun q hq => ?_⟩
    obtain ⟨S, R'⟩ := R.new hq (.lst (List.replicate i.toNat xs).flatten)
    exact p _ _ _ _ S R' (.lst upd_same ((hr.rep _).mono S.fF))
def fdivD : PyData → PyData → M Val
  | .int i, .int j => chk (decide (j ≠ 0 ∧ j.natAbs < 1073741824)) (bI (i.fdiv j))
  | _, _ => fail
theorem o_fdiv : OpR X (binaryOp .FloorDiv) (rD ⟨X.K, cn⟩ E (on2 fdivD)) := on2_ok fun pins s σ H F m st x y d e v u Q I rx ry R h1 h2 p => by
  cases h1 <;> cases h2 <;> first
    | exact p.elim
    | skip
  obtain ⟨z, p⟩ := post_chk p
  have z' := of_decide_eq_true z
  exact op_fdivN pins s σ H _ _ v u Q I rx ry ⟨_, _, rfl, rfl, z', post_ok p R (.int _)⟩
def modD : PyData → PyData → M Val
  | .int i, .int j => chk (decide (j ≠ 0)) (bI (i.fmod j))
  | _, _ => fail
theorem o_mod : OpR X (binaryOp .Mod) (rD ⟨X.K, cn⟩ E (on2 modD)) := on2_ok fun pins s σ H F m st x y d e v u Q I rx ry R h1 h2 p => by
  cases h1 <;> cases h2 <;> first
    | exact p.elim
    | skip
  obtain ⟨z, p⟩ := post_chk p
  exact op_modN pins s σ H _ _ v u Q I rx ry ⟨_, _, rfl, rfl, of_decide_eq_true z, post_ok p R (.int _)⟩
def powD : PyData → PyData → M Val
  | .int i, .int j => chk (decide (0 ≤ j ∧ j ≤ 1000000 ∧ i.natAbs < 2 ^ 64)) (bI (i ^ j.toNat))
  | _, _ => fail
theorem o_pow : OpR X (binaryOp .Pow) (rD ⟨X.K, cn⟩ E (on2 powD)) := on2_ok fun pins s σ H F m st x y d e v u Q I rx ry R h1 h2 p => by
  cases h1 <;> cases h2 <;> first
    | exact p.elim
    | skip
  obtain ⟨z, p⟩ := post_chk p
  have z' := of_decide_eq_true z
  exact op_pow pins s σ H _ _ v u Q I rx ry ⟨_, _, rfl, rfl, z', post_ok p R (.int _)⟩
def negD : PyData → M Val
  | .int i => bI (-i)
  | _ => fail
theorem on1_ok {fv : Value → Sem Value} {g : PyData → M Val}
    (h : ∀ (pins : List (Addr × Obj)) (s : Shared) (σ : St) (H F : Hp) (m : List Addr) (st : Sto) (x : V) (d : PyData) (v : Value) (Q : VK), Inv X pins σ H s → RelV x v → Rel X.K F H m st → VB X.K F H x d → Post ⟨X.K, cn⟩ E F H m (g d st) Q →
      wpAny (model X.prog X.w) X.A (fv v) (EP X pins σ Q) X.xe s) : UnR X fv (rD1 ⟨X.K, cn⟩ E (on1 g)) := by
  intro pins s σ H x v Q I rx ⟨F, m, st, x', R, h1, p⟩
  unfold on1 at p
  cases ex : vw x' st with
  | none => rw [ex] at p; exact p.elim
  | some d => rw [ex] at p; exact h pins s σ H F m st x d v Q I rx R (vw_ok R h1 ex) p
theorem o_neg : UnR X (unaryOp .USub) (rD1 ⟨X.K, cn⟩ E (on1 negD)) := on1_ok fun pins s σ H F m st x d v Q I rx R h1 p => by
  cases h1 <;> first
    | exact p.elim
    | exact un_neg pins s σ H _ v Q I rx ⟨_, rfl, post_ok p R (.int _)⟩

/-! ### comparisons -/
def eqD (d e : PyData) : M Val := chk (SeqAt.shaped d && SeqAt.shaped e) (bB (PyData.eqv d e))
def neD (d e : PyData) : M Val := chk (SeqAt.shaped d && SeqAt.shaped e) (bB (!PyData.eqv d e))
theorem o_eq (hu : X.A.units + 64 < cLine) : OpR X (compareOp .Eq) (rD ⟨X.K, cn⟩ E (on2 eqD)) := on2_ok fun pins s σ H F m st x y d e v u Q I rx ry R h1 h2 p => by
  obtain ⟨z, p⟩ := post_chk p
  obtain ⟨z1, z2⟩ := Bool.and_eq_true_iff.mp z
  exact op_eqD hu pins s σ H _ _ v u Q I rx ry ⟨d, e, h1.dp R.le, h2.dp R.le, z1, z2, post_ok p R (.bl _)⟩
theorem o_ne (hu : X.A.units + 64 < cLine) : OpR X (compareOp .NotEq) (rD ⟨X.K, cn⟩ E (on2 neD)) := on2_ok fun pins s σ H F m st x y d e v u Q I rx ry R h1 h2 p => by
  obtain ⟨z, p⟩ := post_chk p
  obtain ⟨z1, z2⟩ := Bool.and_eq_true_iff.mp z
  exact op_neD hu pins s σ H _ _ v u Q I rx ry ⟨d, e, h1.dp R.le, h2.dp R.le, z1, z2, post_ok p R (.bl _)⟩
def sLt (x y : Str) : Bool := decide (x.cps.toList < y.cps.toList)
def ltD : PyData → PyData → M Val
  | .int i, .int j => bB (decide (i < j))
  | .str x, .str y => bB (sLt x y)
  | _, _ => fail
def leD : PyData → PyData → M Val
  | .int i, .int j => bB (decide (i ≤ j))
  | .str x, .str y => bB (!sLt y x)
  | _, _ => fail
def gtD : PyData → PyData → M Val
  | .int i, .int j => bB (decide (j < i))
  | .str x, .str y => bB (sLt y x)
  | _, _ => fail
def geD : PyData → PyData → M Val
  | .int i, .int j => bB (decide (j ≤ i))
  | .str x, .str y => bB (!sLt x y)
  | _, _ => fail
theorem o_lt : OpR X (compareOp .Lt) (rD ⟨X.K, cn⟩ E (on2 ltD)) := on2_ok fun pins s σ H F m st x y d e v u Q I rx ry R h1 h2 p => by
  cases h1 <;> cases h2 <;> first
    | exact p.elim
    | exact op_lt pins s σ H _ _ v u Q I rx ry ⟨_, _, rfl, rfl, post_ok p R (.bl _)⟩
    | exact op_lt_str pins s σ H _ _ v u Q I rx ry ⟨_, _, rfl, rfl, post_ok p R (.bl _)⟩
theorem o_le : OpR X (compareOp .LtE) (rD ⟨X.K, cn⟩ E (on2 leD)) := on2_ok fun pins s σ H F m st x y d e v u Q I rx ry R h1 h2 p => by
  cases h1 <;> cases h2 <;> first
    | exact p.elim
    | exact op_le pins s σ H _ _ v u Q I rx ry ⟨_, _, rfl, rfl, post_ok p R (.bl _)⟩
    | exact op_le_str pins s σ H _ _ v u Q I rx ry ⟨_, _, rfl, rfl, post_ok p R (.bl _)⟩
theorem o_gt : OpR X (compareOp .Gt) (rD ⟨X.K, cn⟩ E (on2 gtD)) := on2_ok fun pins s σ H F m st x y d e v u Q I rx ry R h1 h2 p => by
  cases h1 <;> cases h2 <;> first
    | exact p.elim
    | exact op_gt pins s σ H _ _ v u Q I rx ry ⟨_, _, rfl, rfl, post_ok p R (.bl _)⟩
    | exact op_gt_str pins s σ H _ _ v u Q I rx ry ⟨_, _, rfl, rfl, post_ok p R (.bl _)⟩
theorem o_ge : OpR X (compareOp .GtE) (rD ⟨X.K, cn⟩ E (on2 geD)) := on2_ok fun pins s σ H F m st x y d e v u Q I rx ry R h1 h2 p => by
  cases h1 <;> cases h2 <;> first
    | exact p.elim
    | exact op_ge pins s σ H _ _ v u Q I rx ry ⟨_, _, rfl, rfl, post_ok p R (.bl _)⟩
    | exact op_ge_str pins s σ H _ _ v u Q I rx ry ⟨_, _, rfl, rfl, post_ok p R (.bl _)⟩
def subText (i j : Str) : Bool := !(Builtin.Str.occurrences j i 0 j.length 1).isEmpty
def inB : PyData → PyData → Option Bool
  | d, .list ds => if SeqAt.shaped d && SeqAt.shaped (.list ds) then some (ds.any fun z => PyData.eqv z d) else none
  | d, .tuple ds => if SeqAt.shaped d && SeqAt.shaped (.tuple ds) then some (ds.any fun z => PyData.eqv z d) else none
  | .str i, .str j => some (subText i j)
  | _, _ => none
def inD (d e : PyData) : M Val := fun st => match inB d e with
  | some b => bB b st
  | none => .err
def ninD (d e : PyData) : M Val := fun st => match inB d e with
  | some b => bB (!b) st
  | none => .err
theorem in_room {A : Around} {d : PyData} (sd : SeqAt.shaped d = true) (hu : A.units + 65 < cLine) : A.units + (d.depth + 1) < cLine := by
  have := SeqAt.depth_of_shaped sd
  omega
end
end PL

set_option Elab.async false
set_option linter.all false
set_option maxRecDepth 100000
namespace PL
open PySem PySem.Spec L2
open PyProof.Rows hiding St
section
variable {X : Cx} {cn : Str → Option Addr} {E : XK} {pos : Pos} {a b : Expr} {f f' : Ev → M Val}
/-! ### in, not in -/
theorem room_in {A : Around} {d : PyData} {n : Nat} (sd : SeqAt.shaped d = true) (hu : A.units + 65 < cLine) : A.units + 1 + min n d.depth < cLine := by
  have := SeqAt.depth_of_shaped sd
  have := Nat.min_le_right n d.depth
  omega
theorem o_in (hu : X.A.units + 65 < cLine) : OpR X (compareOp .In) (rD ⟨X.K, cn⟩ E (on2 inD)) := on2_ok fun pins s σ H F m st x y d e v u Q I rx ry R h1 h2 p => by
  obtain ⟨as, r1⟩ := Dp.reads I d x v (h1.dp R.le) rx
  obtain ⟨bs, r2⟩ := Dp.reads I e y u (h2.dp R.le) ry
  have go : ∀ ds, (e = .list ds ∨ e = .tuple ds) → (SeqAt.shaped d && SeqAt.shaped e) = true ∧ Post ⟨X.K, cn⟩ E F H m (bB (ds.any fun z => PyData.eqv z d) st) Q → wpAny (model X.prog X.w) X.A (compareOp .In v u) (EP X pins σ Q) X.xe s := fun ds he ⟨z, p⟩ => by
    obtain ⟨z1, z2⟩ := Bool.and_eq_true_iff.mp z
    have q := post_ok (v := .bl _) p R (Rp.bl _)
    rcases he with he | he
    · subst he
      exact SeqAt.in_list_reads r2 r1 (SeqAt.canLay_of_shaped z2) (SeqAt.canLay_of_shaped z1) (room_in z1 hu) ⟨.bl _, H, I, rfl, q⟩
    · subst he
      exact SeqAt.in_tuple_reads r2 r1 (SeqAt.canLay_of_shaped z2) (SeqAt.canLay_of_shaped z1) (room_in z1 hu) ⟨.bl _, H, I, rfl, q⟩
  have tx : ∀ i j, d = .str i → e = .str j → wpAny (model X.prog X.w) X.A (compareOp .In v u) (EP X pins σ Q) X.xe s := fun i j e1 e2 => by
    subst e1; subst e2
    cases h1; cases h2
    exact op_in_str pins s σ H _ _ v u Q I rx ry ⟨_, _, rfl, rfl, post_ok p R (.bl _)⟩
  cases e with
  | list ds =>
    refine go ds (.inl rfl) ?_
    unfold inD inB at p
    cases z : (SeqAt.shaped d && SeqAt.shaped (.list ds)) with
    | true => simp only [z, if_true] at p; exact ⟨rfl, p⟩
    | false => simp only [z] at p; exact p.elim
  | tuple ds =>
    refine go ds (.inr rfl) ?_
    unfold inD inB at p
    cases z : (SeqAt.shaped d && SeqAt.shaped (.tuple ds)) with
    | true => simp only [z, if_true] at p; exact ⟨rfl, p⟩
    | false => simp only [z] at p; exact p.elim
  | str j =>
    cases d <;> first | exact p.elim | exact tx _ _ rfl rfl
  | _ => cases d <;> exact p.elim
theorem o_nin (hu : X.A.units + 65 < cLine) : OpR X (compareOp .NotIn) (rD ⟨X.K, cn⟩ E (on2 ninD)) := on2_ok fun pins s σ H F m st x y d e v u Q I rx ry R h1 h2 p => by
  obtain ⟨as, r1⟩ := Dp.reads I d x v (h1.dp R.le) rx
  obtain ⟨bs, r2⟩ := Dp.reads I e y u (h2.dp R.le) ry
  have go : ∀ ds, (e = .list ds ∨ e = .tuple ds) → (SeqAt.shaped d && SeqAt.shaped e) = true ∧ Post ⟨X.K, cn⟩ E F H m (bB (!ds.any fun z => PyData.eqv z d) st) Q → wpAny (model X.prog X.w) X.A (compareOp .NotIn v u) (EP X pins σ Q) X.xe s := fun ds he ⟨z, p⟩ => by
    obtain ⟨z1, z2⟩ := Bool.and_eq_true_iff.mp z
    have q := post_ok (v := .bl _) p R (Rp.bl _)
    rcases he with he | he
    · subst he
      exact SeqAt.notIn_list_reads r2 r1 (SeqAt.canLay_of_shaped z2) (SeqAt.canLay_of_shaped z1) (room_in z1 hu) ⟨.bl _, H, I, rfl, q⟩
    · subst he
      exact SeqAt.notIn_tuple_reads r2 r1 (SeqAt.canLay_of_shaped z2) (SeqAt.canLay_of_shaped z1) (room_in z1 hu) ⟨.bl _, H, I, rfl, q⟩
  have tx : ∀ i j, d = .str i → e = .str j → wpAny (model X.prog X.w) X.A (compareOp .NotIn v u) (EP X pins σ Q) X.xe s := fun i j e1 e2 => by
    subst e1; subst e2
    cases h1; cases h2
    exact op_notIn_str pins s σ H _ _ v u Q I rx ry ⟨_, _, rfl, rfl, post_ok p R (.bl _)⟩
  cases e with
  | list ds =>
    refine go ds (.inl rfl) ?_
    unfold ninD inB at p
    cases z : (SeqAt.shaped d && SeqAt.shaped (.list ds)) with
    | true => simp only [z, if_true] at p; exact ⟨rfl, p⟩
    | false => simp only [z] at p; exact p.elim
  | tuple ds =>
    refine go ds (.inr rfl) ?_
    unfold ninD inB at p
    cases z : (SeqAt.shaped d && SeqAt.shaped (.tuple ds)) with
    | true => simp only [z, if_true] at p; exact ⟨rfl, p⟩
    | false => simp only [z] at p; exact p.elim
  | str j =>
    cases d <;> first | exact p.elim | exact tx _ _ rfl rfl
  | _ => cases d <;> exact p.elim
/-! ### is None -/
def isN (d e : PyData) : M Val := match e with
  | .none => bB (match d with | .none => true | _ => false)
  | _ => fail
def isnN (d e : PyData) : M Val := match e with
  | .none => bB (match d with | .none => false | _ => true)
  | _ => fail
theorem o_is : OpR X (compareOp .Is) (rD ⟨X.K, cn⟩ E (on2 isN)) := on2_ok fun pins s σ H F m st x y d e v u Q I rx ry R h1 h2 p => by
  cases h2 <;> first
    | exact p.elim
    | (cases h1 <;> exact op_isN pins s σ H _ _ v u Q I rx ry ⟨rfl, post_ok p R (.bl _)⟩)
theorem o_isn : OpR X (compareOp .IsNot) (rD ⟨X.K, cn⟩ E (on2 isnN)) := on2_ok fun pins s σ H F m st x y d e v u Q I rx ry R h1 h2 p => by
  cases h2 <;> first
    | exact p.elim
    | (cases h1 <;> exact op_notN pins s σ H _ _ v u Q I rx ry ⟨rfl, post_ok p R (.bl _)⟩)
/-! ### chains -/
def asB (x : Val) : M Bool := fun st => match x with
  | .dat (.bool b) => .ok b st
  | _ => .err
def eCh (g g' : Val → Val → M Val) (f1 f2 f3 : Ev → M Val) : Ev → M Val := fun ρ => bnd (f1 ρ) fun x => bnd (f2 ρ) fun y => bnd (g x y) fun z => bnd (asB z) fun b => if b then bnd (f3 ρ) fun w => g' y w else bB false
theorem asB_post {α β : Type} {c : Cf} {T : Hp → List Addr → α → β → Prop} {F H : Hp} {m : List Addr} {st : Sto} {z : Val} {v : V} {k : Bool → M α} {Q : β → Hp → Prop} (r : RVal c.K F m z v) (p : PostG c E T F H m (bnd (asB z) k st) Q) :
    ∃ b, v = .bl b ∧ PostG c E T F H m (k b st) Q := by
  cases z with
  | dat d =>
    cases d <;> first | exact p.elim | skip
    rename_i b
    cases r
    exact ⟨b, rfl, p⟩
  | ref k => exact p.elim
  | scr ns => exact p.elim
theorem td_chain {c : Cf} {g g' : Val → Val → M Val} {f1 f2 f3 : Ev → M Val} {σ : St} {H : Hp} {Q : VK} (h : TD c E (eCh g g' f1 f2 f3) σ H Q) : tChain (rD c E g) (rD c E g') (TD c E f1) (TD c E f2) (TD c E f3) σ H Q := by
  obtain ⟨F, m, ρ, st, R, ev, p⟩ := h
  refine ⟨F, m, ρ, st, R, ev, ?_⟩
  have p1 := PostG.bnd (T := RVal c.K) p
  refine PostG.mono p1 fun v H1 ⟨F1, m1, st1, x, S1, R1, r1, p⟩ => ⟨F1, m1, ρ, st1, R1, ev.later S1, ?_⟩
  refine PostG.mono (PostG.bnd (T := RVal c.K) p) fun w H2 ⟨F2, m2, st2, y, S2, R2, r2, p⟩ => ⟨F2, m2, st2, x, y, R2, r1.later S2, r2, ?_⟩
  refine PostG.mono (PostG.bnd (T := RVal c.K) p) fun z' H3 ⟨F3, m3, st3, z, S3, R3, r3, p⟩ => ?_
  obtain ⟨b, e, p⟩ := asB_post r3 p
  refine ⟨b, e, ?_⟩
  cases b with
  | false => exact iteF (post_ok p R3 (Rp.bl false))
  | true =>
    refine iteT ⟨F3, m3, ρ, st3, R3, (ev.later S1).later (S2.trans S3), ?_⟩
    exact PostG.mono (PostG.bnd (T := RVal c.K) p) fun w' H4 ⟨F4, m4, st4, w, S4, R4, r4, p⟩ => ⟨F4, m4, st4, y, w, R4, (r2.later S3).later S4, r4, p⟩
theorem d_chain {op op' : CmpOp} {e3 : Expr} {g g' : Val → Val → M Val} {f3 : Ev → M Val} (ho : OpR X (compareOp op) (rD ⟨X.K, cn⟩ E g)) (ho' : OpR X (compareOp op') (rD ⟨X.K, cn⟩ E g')) (ha : PE X a (TD ⟨X.K, cn⟩ E f)) (hb : PE X b (TD ⟨X.K, cn⟩ E f')) (hc : PE X e3 (TD ⟨X.K, cn⟩ E f3))
    (hm : lastMarks [op, op'] [b, e3] = false := by with_unfolding_all rfl) : PE X (.Compare a [op, op'] [b, e3] pos) (TD ⟨X.K, cn⟩ E (eCh g g' f f' f3)) := PE.imp (pe_chain ho ho' ha hb hc hm) fun _ _ _ h => td_chain h

/-! ### tests -/
def eB (f : Ev → M Val) : Ev → M Bool := fun ρ => bnd (f ρ) asB
theorem td_test {c : Cf} {f : Ev → M Val} {σ : St} {H : Hp} {Q : Bool → Hp → Prop} (h : TDB c E (eB f) σ H Q) : TD c E f σ H fun x H' => ∃ k, x = .bl k ∧ Q k H' := by
  obtain ⟨F, m, ρ, st, R, ev, p⟩ := h
  refine ⟨F, m, ρ, st, R, ev, PostG.mono (PostG.bnd (T := RVal c.K) p) fun v H1 ⟨F1, m1, st1, x, S1, R1, r1, p⟩ => ?_⟩
  obtain ⟨b, e, p⟩ := asB_post (k := ret) r1 (by
    unfold PL.bnd
    cases q : asB x st1 <;> rw [q] at p <;> exact p)
  exact ⟨b, e, p F1 H1 m1 b (Stp.refl _ _ _) R1 rfl⟩
theorem t_cmp {op : CmpOp} {g : Val → Val → M Val} (ho : OpR X (compareOp op) (rD ⟨X.K, cn⟩ E g)) (ha : PE X a (TD ⟨X.K, cn⟩ E f)) (hb : PE X b (TD ⟨X.K, cn⟩ E f')) (hm : behindInMarks op b = false := by rfl) :
    PT X (.Compare a [op] [b] pos) (TDB ⟨X.K, cn⟩ E (eB (e2 g f f'))) := PT.imp (pt_cmpR ho ha hb hm) fun σ H Q h => td_op (c := ⟨X.K, cn⟩) (td_test h)
/-- truth of data -/
def tru : PyData → Option Bool
  | .none => some false
  | .bool b => some b
  | .int i => some (i != 0)
  | .str x => if x.length ≤ sizeLine then some ((x.length : Int) != 0) else none
  | .list xs => some (!xs.isEmpty)
  | .tuple xs => some (!xs.isEmpty)
  | .dict _ => none
def truV (x : Val) : M Bool := fun st => match vw x st with
  | some d => opt (tru d) st
  | none => .err
def eT (f : Ev → M Val) : Ev → M Bool := fun ρ => bnd (f ρ) truV
theorem RpAll.isEmpty {K : PySem.W.Frag} {F : Hp} {vs : List V} {ds : List PyData} (h : RpAll K F vs ds) : vs.isEmpty = ds.isEmpty := by cases h <;> rfl
theorem truV_ok {c : Cf} {F H : Hp} {m : List Addr} {st : Sto} {x : Val} {v : V} {Q : Bool → Hp → Prop} (R : Rel c.K F H m st) (r : RVal c.K F m x v) (p : PostB c E F H m (truV x st) Q) : ∃ k, TruV c.K v H k ∧ Q k H := by
  unfold truV at p
  cases e : vw x st with
  | none => rw [e] at p; exact p.elim
  | some d =>
    rw [e] at p
    dsimp only at p
    have hb := vw_ok R r e
    cases t : tru d with
    | none => rw [t] at p; exact p.elim
    | some k =>
      rw [t] at p
      refine ⟨k, ?_, p F H m k (Stp.refl _ _ _) R rfl⟩
      cases hb with
      | non => cases t; rfl
      | bl b => cases t; rfl
      | int i => cases t; rfl
      | str y =>
        have t' : (if y.length ≤ sizeLine then some ((y.length : Int) != 0) else none) = some k := t
        by_cases hl : y.length ≤ sizeLine
        · rw [if_pos hl] at t'
          cases t'
          exact ⟨hl, rfl⟩
        · rw [if_neg hl] at t'
          cases t'
      | lst h1 h2 => cases t; exact .inl ⟨_, SqL.of h1, by rw [h2.isEmpty]⟩
      | tup h1 h2 => cases t; exact .inr (.inl ⟨_, R.le.sqT h1, by rw [h2.isEmpty]⟩)
theorem t_val (ha : PE X a (TD ⟨X.K, cn⟩ E f)) (he : ∀ whole, isTrue a X.env whole = (do let v ← whole; standAt a.pos; holding [v] (truthy v)) := by intro _; rfl) : PT X a (TDB ⟨X.K, cn⟩ E (eT f)) :=
  PT.imp (pt_truth ha he) fun σ H Q ⟨F, m, ρ, st, R, ev, p⟩ => ⟨F, m, ρ, st, R, ev, PostG.mono (PostG.bnd (T := RVal X.K) p) fun v H1 ⟨F1, m1, st1, x, S1, R1, r1, p⟩ => truV_ok R1 r1 p⟩
def tN (t : Ev → M Bool) : Ev → M Bool := fun ρ => bnd (t ρ) fun b => ret (!b)
def tA (t u : Ev → M Bool) : Ev → M Bool := fun ρ => bnd (t ρ) fun b => if b then u ρ else ret false
def tO (t u : Ev → M Bool) : Ev → M Bool := fun ρ => bnd (t ρ) fun b => if b then ret true else u ρ
variable {t u : Ev → M Bool} {rest : List Expr}
theorem t_not (ha : PT X a (TDB ⟨X.K, cn⟩ E t)) : PT X (.UnaryOp .Not a pos) (TDB ⟨X.K, cn⟩ E (tN t)) :=
  PT.imp (pt_not ha) fun σ H Q ⟨F, m, ρ, st, R, ev, p⟩ => ⟨F, m, ρ, st, R, ev, PostG.mono (PostG.bnd (T := RB) p) fun v H1 ⟨F1, m1, st1, x, S1, R1, r1, p⟩ => by
    have r1 : x = v := r1
    subst r1
    exact p F1 H1 m1 _ (Stp.refl _ _ _) R1 rfl⟩
/-- a chain of and, or as a test -/
def PWd (X : Cx) (e : Expr) (t : TT) : Prop := PW X e t
theorem w_and1 (ha : PT X a (TDB ⟨X.K, cn⟩ E t)) : PW X (.BoolOp .And [a] pos) (TDB ⟨X.K, cn⟩ E t) := pw_and1 ha
theorem w_or1 (ha : PT X a (TDB ⟨X.K, cn⟩ E t)) : PW X (.BoolOp .Or [a] pos) (TDB ⟨X.K, cn⟩ E t) := pw_or1 ha
theorem PW.imp {X : Cx} {e : Expr} {t t' : TT} (h : PW X e t) (i : ∀ σ H Q, t' σ H Q → t σ H Q) : PW X e t' := ⟨fun wh pins s σ H Q I q => h.run wh pins s σ H Q I (i _ _ _ q)⟩
theorem w_and (ha : PT X a (TDB ⟨X.K, cn⟩ E t)) (hb : PW X (.BoolOp .And (b :: rest) pos) (TDB ⟨X.K, cn⟩ E u)) : PW X (.BoolOp .And (a :: b :: rest) pos) (TDB ⟨X.K, cn⟩ E (tA t u)) :=
  PW.imp (pw_and ha hb) fun σ H Q ⟨F, m, ρ, st, R, ev, p⟩ => ⟨F, m, ρ, st, R, ev, PostG.mono (PostG.bnd (T := RB) p) fun v H1 ⟨F1, m1, st1, x, S1, R1, r1, p⟩ => by
    have r1 : x = v := r1
    subst r1
    cases x with
    | true => exact iteT ⟨F1, m1, ρ, st1, R1, ev.later S1, p⟩
    | false => exact iteF (p F1 H1 m1 false (Stp.refl _ _ _) R1 rfl)⟩
theorem w_or (ha : PT X a (TDB ⟨X.K, cn⟩ E t)) (hb : PW X (.BoolOp .Or (b :: rest) pos) (TDB ⟨X.K, cn⟩ E u)) : PW X (.BoolOp .Or (a :: b :: rest) pos) (TDB ⟨X.K, cn⟩ E (tO t u)) :=
  PW.imp (pw_or ha hb) fun σ H Q ⟨F, m, ρ, st, R, ev, p⟩ => ⟨F, m, ρ, st, R, ev, PostG.mono (PostG.bnd (T := RB) p) fun v H1 ⟨F1, m1, st1, x, S1, R1, r1, p⟩ => by
    have r1 : x = v := r1
    subst r1
    cases x with
    | false => exact iteF ⟨F1, m1, ρ, st1, R1, ev.later S1, p⟩
    | true => exact iteT (p F1 H1 m1 true (Stp.refl _ _ _) R1 rfl)⟩
theorem t_chain {op op' : CmpOp} {e3 : Expr} {g g' : Val → Val → M Val} {f3 : Ev → M Val} (ho : OpR X (compareOp op) (rD ⟨X.K, cn⟩ E g)) (ho' : OpR X (compareOp op') (rD ⟨X.K, cn⟩ E g')) (ha : PE X a (TD ⟨X.K, cn⟩ E f)) (hb : PE X b (TD ⟨X.K, cn⟩ E f')) (hc : PE X e3 (TD ⟨X.K, cn⟩ E f3))
    (hm : lastMarks [op, op'] [b, e3] = false := by with_unfolding_all rfl) : PT X (.Compare a [op, op'] [b, e3] pos) (TDB ⟨X.K, cn⟩ E (eB (eCh g g' f f' f3))) := PT.imp (pt_chain ho ho' ha hb hc hm) fun _ _ _ h => td_chain (td_test h)
/-! ### and, or, not as values (bools), conditional expressions -/
def eAnd (f f' : Ev → M Val) : Ev → M Val := fun ρ => bnd (f ρ) fun x => bnd (asB x) fun b => if b then f' ρ else bB false
def eOr (f f' : Ev → M Val) : Ev → M Val := fun ρ => bnd (f ρ) fun x => bnd (asB x) fun b => if b then bB true else f' ρ
def eNot (f : Ev → M Val) : Ev → M Val := fun ρ => bnd (f ρ) fun x => bnd (asB x) fun b => bB (!b)
def eIf (t : Ev → M Bool) (f f' : Ev → M Val) : Ev → M Val := fun ρ => bnd (t ρ) fun b => if b then f ρ else f' ρ
theorem d_one {op} (h : PE X a (TD ⟨X.K, cn⟩ E f)) : PE X (.BoolOp op [a] pos) (TD ⟨X.K, cn⟩ E f) := pe_one h
theorem d_and (ha : PE X a (TD ⟨X.K, cn⟩ E f)) (hb : PE X (.BoolOp .And (b :: rest) pos) (TD ⟨X.K, cn⟩ E f')) : PE X (.BoolOp .And (a :: b :: rest) pos) (TD ⟨X.K, cn⟩ E (eAnd f f')) :=
  PE.imp (pe_and ha hb) fun σ H Q ⟨F, m, ρ, st, R, ev, p⟩ => ⟨F, m, ρ, st, R, ev, PostG.mono (PostG.bnd (T := RVal X.K) p) fun v H1 ⟨F1, m1, st1, x, S1, R1, r1, p⟩ => by
    obtain ⟨b, e, p⟩ := asB_post r1 p
    refine ⟨b, e, ?_⟩
    cases b with
    | true => exact iteT ⟨F1, m1, ρ, st1, R1, ev.later S1, p⟩
    | false => exact iteF (post_ok p R1 (Rp.bl false))⟩
theorem d_or (ha : PE X a (TD ⟨X.K, cn⟩ E f)) (hb : PE X (.BoolOp .Or (b :: rest) pos) (TD ⟨X.K, cn⟩ E f')) : PE X (.BoolOp .Or (a :: b :: rest) pos) (TD ⟨X.K, cn⟩ E (eOr f f')) :=
  PE.imp (pe_or ha hb) fun σ H Q ⟨F, m, ρ, st, R, ev, p⟩ => ⟨F, m, ρ, st, R, ev, PostG.mono (PostG.bnd (T := RVal X.K) p) fun v H1 ⟨F1, m1, st1, x, S1, R1, r1, p⟩ => by
    obtain ⟨b, e, p⟩ := asB_post r1 p
    refine ⟨b, e, ?_⟩
    cases b with
    | false => exact iteF ⟨F1, m1, ρ, st1, R1, ev.later S1, p⟩
    | true => exact iteT (post_ok p R1 (Rp.bl true))⟩
theorem d_not (ha : PE X a (TD ⟨X.K, cn⟩ E f)) : PE X (.UnaryOp .Not a pos) (TD ⟨X.K, cn⟩ E (eNot f)) :=
  PE.imp (pe_not ha) fun σ H Q ⟨F, m, ρ, st, R, ev, p⟩ => ⟨F, m, ρ, st, R, ev, PostG.mono (PostG.bnd (T := RVal X.K) p) fun v H1 ⟨F1, m1, st1, x, S1, R1, r1, p⟩ => by
    obtain ⟨b, e, p⟩ := asB_post r1 p
    exact ⟨b, e, post_ok p R1 (Rp.bl _)⟩⟩
theorem d_if {e3 : Expr} (hc : PT X e3 (TDB ⟨X.K, cn⟩ E t)) (ha : PE X a (TD ⟨X.K, cn⟩ E f)) (hb : PE X b (TD ⟨X.K, cn⟩ E f')) : PE X (.IfExp e3 a b pos) (TD ⟨X.K, cn⟩ E (eIf t f f')) :=
  PE.imp (pe_ifExp hc ha hb) fun σ H Q ⟨F, m, ρ, st, R, ev, p⟩ => ⟨F, m, ρ, st, R, ev, PostG.mono (PostG.bnd (T := RB) p) fun v H1 ⟨F1, m1, st1, x, S1, R1, r1, p⟩ => by
    have r1 : x = v := r1
    subst r1
    cases x with
    | true => exact iteT ⟨F1, m1, ρ, st1, R1, ev.later S1, p⟩
    | false => exact iteF ⟨F1, m1, ρ, st1, R1, ev.later S1, p⟩⟩
/-! ### argument lists -/
def aNil : Ev → M (List Val) := fun _ => ret []
def aCons (f : Ev → M Val) (fs : Ev → M (List Val)) : Ev → M (List Val) := fun ρ => bnd (f ρ) fun x => bnd (fs ρ) fun xs => ret (x :: xs)
variable {es : List Expr} {fs : Ev → M (List Val)}
theorem a_nil : PA X [] (TDA ⟨X.K, cn⟩ E aNil) := PA.imp pa_nil fun σ H Q ⟨F, m, ρ, st, R, ev, p⟩ => p F H m [] (Stp.refl _ _ _) R .nil
theorem a_cons (ha : PE X a (TD ⟨X.K, cn⟩ E f)) (hr : PA X es (TDA ⟨X.K, cn⟩ E fs)) (hs : starEach (a :: es) X.env = (false, eval a X.env) :: starEach es X.env := by rfl) : PA X (a :: es) (TDA ⟨X.K, cn⟩ E (aCons f fs)) :=
  PA.imp (pa_cons ha hr hs) fun σ H Q ⟨F, m, ρ, st, R, ev, p⟩ => ⟨F, m, ρ, st, R, ev, PostG.mono (PostG.bnd (T := RVal X.K) p) fun v H1 ⟨F1, m1, st1, x, S1, R1, r1, p⟩ =>
    ⟨F1, m1, ρ, st1, R1, ev.later S1, PostG.mono (PostG.bnd (T := RVals X.K) p) fun vs H2 ⟨F2, m2, st2, xs, S2, R2, r2, p⟩ => p F2 H2 m2 _ (Stp.refl _ _ _) R2 (.cons (r1.later S2) r2)⟩⟩
end
end PL

set_option Elab.async false
set_option linter.all false
set_option maxRecDepth 100000
namespace PL
open PySem PySem.Spec L2
open PyProof.Rows hiding St
/-! ### a thing becomes plain data -/
def frzV (x : Val) : M PyData := fun st => match x with
  | .dat d => .ok d st
  | .ref k => (match st[k]? with
    | some (.lst ds) => .ok (.list ds) (st.set k (.frz (.list ds)))
    | some (.frz d) => .ok d st
    | _ => .err)
  | .scr _ => .err
theorem nodup_get {m : List Addr} (h : m.Nodup) {i j : Nat} {a : Addr} (e1 : m[i]? = some a) (e2 : m[j]? = some a) : i = j := by
  obtain ⟨l1, q1⟩ := List.getElem?_eq_some_iff.mp e1
  obtain ⟨l2, q2⟩ := List.getElem?_eq_some_iff.mp e2
  exact (List.getElem_inj h).mp (q1.trans q2.symm)
/-- the thing k of the store changes, at the ghost's side alone -/
theorem Rel.freeze {K : PySem.W.Frag} {F H : Hp} {m : List Addr} {st : Sto} {k : Nat} {a : Addr} {ds : List PyData} {vs : List V} (R : Rel K F H m st) (ha : m[k]? = some a) (hF : F a = none) (hH : H a = some (.lst vs)) (hr : RpAll K F vs ds) :
    Stp F H m (upd F a (.lst vs)) H m ∧ Rel K (upd F a (.lst vs)) H m (st.set k (.frz (.list ds))) := by
  have l : Le F (upd F a (.lst vs)) := Le.new hF
  have hm : a ∈ m := List.mem_of_getElem? ha
  refine ⟨⟨l, ⟨[], by simp⟩, fun _ _ h _ => h, fun b o _ n f => by rw [upd_ne (fun z => n (by rw [z]; exact hm))]; exact f, fun _ h n => absurd h n⟩, ⟨fun b o e => ?_, by simp [R.len], R.nd, fun j b o e1 e2 => ?_⟩⟩
  · by_cases hb : b = a
    · subst hb; rw [upd_same] at e; rw [hH]; exact e
    · rw [upd_ne hb] at e; exact R.le _ _ e
  · by_cases hj : k = j
    · subst hj
      rw [ha] at e1; cases e1
      have hl : k < st.length := by rw [← R.len]; exact (List.getElem?_eq_some_iff.mp ha).1
      rw [List.getElem?_set_self hl] at e2
      cases e2
      exact ⟨by rw [upd_same]; rfl, .lst upd_same (hr.mono l)⟩
    · rw [List.getElem?_set_ne hj] at e2
      have ne : b ≠ a := fun z => hj (nodup_get R.nd ha (z ▸ e1))
      have ob := R.ob j b o e1 e2
      cases o with
      | lst ds => obtain ⟨h0, vs, h1, h2⟩ := ob; exact ⟨by rw [upd_ne ne]; exact h0, vs, h1, h2.mono l⟩
      | dct ds => obtain ⟨h0, vs, h1, h2⟩ := ob; exact ⟨by rw [upd_ne ne]; exact h0, vs, h1, Paired.mapP h2 fun p q z => ⟨z.1, z.2.mono l⟩⟩
      | frz d => obtain ⟨h0, h1⟩ := ob; exact ⟨by rw [upd_ne ne]; exact h0, h1.mono l⟩
theorem frz_ok {α β : Type} {c : Cf} {E : XK} {T : Hp → List Addr → α → β → Prop} {F H : Hp} {m : List Addr} {st : Sto} {x : Val} {v : V} {k : PyData → M α} {Q : β → Hp → Prop} (R : Rel c.K F H m st) (r : RVal c.K F m x v) (p : PostG c E T F H m (bnd (frzV x) k st) Q) :
    ∃ F1 st1 d, Stp F H m F1 H m ∧ Rel c.K F1 H m st1 ∧ Rp c.K F1 v d ∧ PostG c E T F1 H m (k d st1) Q ∧ frzV x st = .ok d st1 := by
  cases x with
  | dat d => exact ⟨F, st, d, Stp.refl _ _ _, R, r, p, rfl⟩
  | scr ns => exact p.elim
  | ref j =>
    obtain ⟨a, ha, rfl⟩ := r
    unfold bnd frzV at p
    dsimp only at p
    cases q : st[j]? with
    | none => rw [q] at p; exact p.elim
    | some o =>
      rw [q] at p
      have ob := R.ob j a o ha q
      cases o with
      | dct kvs => exact p.elim
      | frz d => exact ⟨F, st, d, Stp.refl _ _ _, R, ob.2, p, by unfold frzV; dsimp only; rw [q]⟩
      | lst ds =>
        obtain ⟨h0, vs, h1, h2⟩ := ob
        obtain ⟨S, R'⟩ := R.freeze ha h0 h1 h2
        exact ⟨_, _, .list ds, S, R', .lst upd_same (h2.mono S.fF), PostG.later S p, by unfold frzV; dsimp only; rw [q]⟩
def frzAll : List Val → M (List PyData)
  | [] => ret []
  | x :: xs => bnd (frzV x) fun d => bnd (frzAll xs) fun ds => ret (d :: ds)
theorem bnd_assoc {α β γ : Type} (x : M α) (f : α → M β) (g : β → M γ) : bnd (bnd x f) g = bnd x fun a => bnd (f a) g := by
  funext st
  unfold bnd
  cases x st <;> rfl
theorem bnd_ret {α β : Type} (a : α) (f : α → M β) : bnd (ret a) f = f a := rfl
theorem frzAll_ok {α β : Type} {c : Cf} {E : XK} {T : Hp → List Addr → α → β → Prop} {Q : β → Hp → Prop} {H : Hp} {m : List Addr} : ∀ {xs : List Val} {vs : List V} {F : Hp} {st : Sto} {k : List PyData → M α}, Rel c.K F H m st → RVals c.K F m xs vs → PostG c E T F H m (bnd (frzAll xs) k st) Q →
    ∃ F1 st1 ds, Stp F H m F1 H m ∧ Rel c.K F1 H m st1 ∧ RpAll c.K F1 vs ds ∧ PostG c E T F1 H m (k ds st1) Q
  | _, _, F, st, k, R, .nil, p => ⟨F, st, [], Stp.refl _ _ _, R, .nil, p⟩
  | _, _, F, st, k, R, .cons r rs, p => by
    unfold frzAll at p
    rw [bnd_assoc] at p
    obtain ⟨F1, st1, d, S1, R1, r1, p, _⟩ := frz_ok R r p
    rw [bnd_assoc] at p
    obtain ⟨F2, st2, ds, S2, R2, r2, p⟩ := frzAll_ok R1 (RVals.later S1 rs) p
    exact ⟨F2, st2, d :: ds, S1.trans S2, R2, .cons (r1.mono S2.fF) r2, p⟩

/-! ### walks -/
structure ItOk (K : PySem.W.Frag) (J : It) (F0 : Hp) (its : List PyData) : Prop where
  go : ∀ i F H m st, Le F0 F → Rel K F H m st → i < its.length → J.go i H
  yld : ∀ i F H m st x H', Le F0 F → Rel K F H m st → i < its.length → J.yld i H x H' → ∃ F' d, Stp F H m F' H' m ∧ Rel K F' H' m st ∧ its[i]? = some d ∧ Rp K F' x d
  stop : ∀ F H m st, Le F0 F → Rel K F H m st → J.stop its.length H
def RIt (K : PySem.W.Frag) : Hp → List Addr → List PyData → It → Prop := fun F _ its J => ItOk K J F its
abbrev TID (c : Cf) (E : XK) (src : Ev → M (List PyData)) : TI := TDg c E (RIt c.K) src
theorem PI.imp {X : Cx} {tg e : Expr} {t t' : TI} (h : PI X tg e t) (i : ∀ σ H R, t' σ H R → t σ H R) : PI X tg e t' := ⟨fun pins s σ H R I q => h.run pins s σ H R I (i _ _ _ q)⟩
theorem PI.or {X : Cx} {tg e : Expr} {t t' : TI} (h : PI X tg e t) (h' : PI X tg e t') : PI X tg e (fun σ H R => t σ H R ∨ t' σ H R) := ⟨fun pins s σ H R I q => q.elim (h.run pins s σ H R I) (h'.run pins s σ H R I)⟩
theorem itOk_list {K : PySem.W.Frag} {F : Hp} {a : Addr} {vs : List V} {ds : List PyData} (h : F a = some (.lst vs)) (r : RpAll K F vs ds) : ItOk K (Itl K a) F ds := by
  refine ⟨fun i G H m st l R hi => ?_, fun i G H m st x H' l R hi y => ?_, fun G H m st l R => ?_⟩
  · exact ⟨vs, vs[i]'(by rw [r.length]; exact hi), SqL.of (R.le _ _ (l _ _ h)), by simp⟩
  · obtain ⟨rfl, y⟩ := y
    obtain ⟨d, e, q⟩ := r.get' (y vs (SqL.of (R.le _ _ (l _ _ h))))
    exact ⟨G, d, Stp.refl _ _ _, R, e, q.mono l⟩
  · exact ⟨vs, SqL.of (R.le _ _ (l _ _ h)), by rw [r.length]; exact Nat.le_refl _⟩
theorem itOk_tup {K : PySem.W.Frag} {F : Hp} {a : Addr} {vs : List V} {ds : List PyData} (h : SqT K F a vs) (r : RpAll K F vs ds) : ItOk K (Itt K a) F ds := by
  refine ⟨fun i G H m st l R hi => ?_, fun i G H m st x H' l R hi y => ?_, fun G H m st l R => ?_⟩
  · exact ⟨vs, vs[i]'(by rw [r.length]; exact hi), R.le.sqT (l.sqT h), by simp⟩
  · obtain ⟨rfl, y⟩ := y
    obtain ⟨d, e, q⟩ := r.get' (y vs (R.le.sqT (l.sqT h)))
    exact ⟨G, d, Stp.refl _ _ _, R, e, q.mono l⟩
  · exact ⟨vs, R.le.sqT (l.sqT h), by rw [r.length]; exact Nat.le_refl _⟩
def signs (x : Str) : List PyData := x.cps.toList.map fun c => .str ⟨#[c]⟩
theorem itOk_str {K : PySem.W.Frag} {F : Hp} {x : Str} : ItOk K (Its x) F (signs x) := by
  refine ⟨fun i G H m st l R hi => ?_, fun i G H m st v H' l R hi y => ?_, fun G H m st l R => ?_⟩
  · show i < x.cps.size
    simpa [signs] using hi
  · obtain ⟨rfl, cc, y, e⟩ := y
    subst e
    refine ⟨G, .str ⟨#[cc]⟩, Stp.refl _ _ _, R, ?_, .str _⟩
    unfold signs
    rw [List.getElem?_map, Array.getElem?_toList, y]
    rfl
  · simp [signs, Its]
theorem itOk_range {K : PySem.W.Frag} {F : Hp} {lo : Int} {n : Nat} : ItOk K (Itr lo n) F ((List.range n).map fun (i : Nat) => .int (lo + (i : Int))) := by
  refine ⟨fun i G H m st l R hi => ?_, fun i G H m st v H' l R hi y => ?_, fun G H m st l R => ?_⟩
  · show i < n
    simpa using hi
  · obtain ⟨rfl, e⟩ := y
    subst e
    refine ⟨G, .int (lo + i), Stp.refl _ _ _, R, ?_, .int _⟩
    rw [List.getElem?_map, List.getElem?_range (by simpa using hi)]
    rfl
  · simp [Itr]
def pairUp (xs ys : List PyData) : List PyData := List.zipWith (fun a b => .tuple [a, b]) xs ys
theorem pairUp_get {xs ys : List PyData} {i : Nat} {a b : PyData} (h1 : xs[i]? = some a) (h2 : ys[i]? = some b) : (pairUp xs ys)[i]? = some (.tuple [a, b]) := by
  unfold pairUp
  rw [List.getElem?_zipWith, h1, h2]
theorem itOk_zipT {K : PySem.W.Frag} {F : Hp} {a b : Addr} {vs ws : List V} {ds es : List PyData} (h : SqT K F a vs) (r : RpAll K F vs ds) (h' : SqT K F b ws) (r' : RpAll K F ws es) : ItOk K (RZ.ItzT K a b) F (pairUp ds es) := by
  have hlen : (pairUp ds es).length = min ds.length es.length := by simp [pairUp]
  refine ⟨fun i G H m st l R hi => ?_, fun i G H m st v H' l R hi y => ?_, fun G H m st l R => ?_⟩
  · rw [hlen] at hi
    have h1 : i < vs.length := by rw [r.length]; omega
    have h2 : i < ws.length := by rw [r'.length]; omega
    exact ⟨vs, ws, vs[i], ws[i], R.le.sqT (l.sqT h), R.le.sqT (l.sqT h'), by simp, by simp⟩
  · obtain ⟨t, x, z, rfl, hn, rfl, y1, y2⟩ := y
    obtain ⟨d, e1, q1⟩ := r.get' (y1 vs (R.le.sqT (l.sqT h)))
    obtain ⟨d', e2, q2⟩ := r'.get' (y2 ws (R.le.sqT (l.sqT h')))
    obtain ⟨S, R'⟩ := R.new hn (.tup [x, z])
    exact ⟨_, _, S, R', pairUp_get e1 e2, .tup (SqT.of upd_same) (.cons ((q1.mono l).mono S.fF) (.cons ((q2.mono l).mono S.fF) .nil))⟩
  · refine ⟨vs, ws, R.le.sqT (l.sqT h), R.le.sqT (l.sqT h'), ?_⟩
    rw [hlen, r.length, r'.length]
    omega
theorem itOk_zipL {K : PySem.W.Frag} {F : Hp} {a b : Addr} {vs ws : List V} {ds es : List PyData} (h : F a = some (.lst vs)) (r : RpAll K F vs ds) (h' : F b = some (.lst ws)) (r' : RpAll K F ws es) : ItOk K (Itz K a b) F (pairUp ds es) := by
  have hlen : (pairUp ds es).length = min ds.length es.length := by simp [pairUp]
  refine ⟨fun i G H m st l R hi => ?_, fun i G H m st v H' l R hi y => ?_, fun G H m st l R => ?_⟩
  · rw [hlen] at hi
    have h1 : i < vs.length := by rw [r.length]; omega
    have h2 : i < ws.length := by rw [r'.length]; omega
    exact ⟨vs, ws, vs[i], ws[i], SqL.of (R.le _ _ (l _ _ h)), SqL.of (R.le _ _ (l _ _ h')), by simp, by simp⟩
  · obtain ⟨t, x, z, rfl, hn, rfl, y1, y2⟩ := y
    obtain ⟨d, e1, q1⟩ := r.get' (y1 vs (SqL.of (R.le _ _ (l _ _ h))))
    obtain ⟨d', e2, q2⟩ := r'.get' (y2 ws (SqL.of (R.le _ _ (l _ _ h'))))
    obtain ⟨S, R'⟩ := R.new hn (.tup [x, z])
    exact ⟨_, _, S, R', pairUp_get e1 e2, .tup (SqT.of upd_same) (.cons ((q1.mono l).mono S.fF) (.cons ((q2.mono l).mono S.fF) .nil))⟩
  · refine ⟨vs, ws, SqL.of (R.le _ _ (l _ _ h)), SqL.of (R.le _ _ (l _ _ h')), ?_⟩
    rw [hlen, r.length, r'.length]
    omega
section
variable {X : Cx} {cn : Str → Option Addr} {E : XK} {pos : Pos} {a b tg : Expr} {f f' : Ev → M Val} {fs : Ev → M (List Val)}
def items : PyData → M (List PyData)
  | .list ds => ret ds
  | .tuple ds => ret ds
  | .str x => ret (signs x)
  | _ => fail
def sSeq (f : Ev → M Val) : Ev → M (List PyData) := fun ρ => bnd (f ρ) fun x => bnd (frzV x) items
/-- the den tells which kind of thing is walked -/
theorem i_seq (ha : PE X a (TD ⟨X.K, cn⟩ E f)) : PI X tg a (TID ⟨X.K, cn⟩ E (sSeq f)) := by
  refine PI.imp (PI.or (pi_list ha) (PI.or (pi_tup ha) (pi_str ha))) fun σ H R ⟨F, m, ρ, st, R0, ev, p⟩ => ?_
  cases q : f ρ st with
  | err => unfold sSeq bnd at p; rw [q] at p; exact p.elim
  | exc n fs st1 =>
    refine .inl ⟨F, m, ρ, st, R0, ev, ?_⟩
    unfold sSeq bnd at p; rw [q] at p ⊢; exact p
  | ok x st1 =>
    have p1 : PostG ⟨X.K, cn⟩ E (RIt X.K) F H m (bnd (frzV x) items st1) R := by unfold sSeq bnd at p; rw [q] at p; exact p
    have key : ∀ (U : V → Hp → Prop) (d0 : PyData) (st2 : Sto), frzV x st1 = .ok d0 st2 → (∀ F2 H1 m2 v, Rel X.K F2 H1 m2 st2 → Rp X.K F2 v d0 → PostG ⟨X.K, cn⟩ E (RIt X.K) F2 H1 m2 (items d0 st2) R → U v H1) → TD ⟨X.K, cn⟩ E f σ H U := fun U d0 st2 q2 hU => by
      refine ⟨F, m, ρ, st, R0, ev, ?_⟩
      rw [q]
      intro F1 H1 m1 v S1 R1 r1
      obtain ⟨F2, st2', d, S2, R2, r2, p3, e⟩ := frz_ok R1 r1 (PostG.later S1 p1)
      rw [q2] at e
      cases e
      exact hU F2 H1 m1 v R2 r2 p3
    cases q2 : frzV x st1 with
    | err => unfold bnd at p1; rw [q2] at p1; exact p1.elim
    | exc n fs st2 =>
      exfalso
      unfold frzV at q2
      split at q2 <;> first | cases q2 | (split at q2 <;> cases q2)
    | ok d st2 =>
      cases d with
      | list ds => exact .inl (key _ _ _ q2 fun F2 H1 m2 v R2 r2 p3 => by
          cases r2 with
          | lst h1 h2 => exact ⟨_, rfl, ⟨_, SqL.of (R2.le _ _ h1)⟩, p3 F2 H1 m2 _ (Stp.refl _ _ _) R2 (itOk_list h1 h2)⟩)
      | tuple ds => exact .inr (.inl (key _ _ _ q2 fun F2 H1 m2 v R2 r2 p3 => by
          cases r2 with
          | tup h1 h2 => exact ⟨_, rfl, ⟨_, R2.le.sqT h1⟩, p3 F2 H1 m2 _ (Stp.refl _ _ _) R2 (itOk_tup h1 h2)⟩))
      | str y => exact .inr (.inr (key _ _ _ q2 fun F2 H1 m2 v R2 r2 p3 => by
          cases r2 with
          | str _ => exact ⟨_, rfl, p3 F2 H1 m2 _ (Stp.refl _ _ _) R2 itOk_str⟩))
      | _ => unfold bnd at p1; rw [q2] at p1; exact p1.elim
def sRng1 (fs : Ev → M (List Val)) : Ev → M (List PyData) := fun ρ => bnd (fs ρ) fun xs st => match xs with
  | [.dat (.int j)] => if -(2 ^ 62) ≤ j ∧ j < 2 ^ 62 then .ok ((List.range j.toNat).map fun (i : Nat) => .int (0 + (i : Int))) st else .err
  | _ => .err
theorem i_rng1 {p : Pos} (hm : X.mg "range" = none) (ha : PA X [a] (TDA ⟨X.K, cn⟩ E fs)) (hg : Gl X "range" := by rfl) (hs : starEach [a] X.env = [(false, eval a X.env)] := by rfl) : PI X tg (.Call (.Name "range" p) [a] [] pos) (TID ⟨X.K, cn⟩ E (sRng1 fs)) :=
  PI.imp (pi_range1 hg hm ha hs) fun σ H R ⟨F, m, ρ, st, R0, ev, p⟩ => ⟨F, m, ρ, st, R0, ev, PostG.mono (PostG.bnd (T := RVals X.K) p) fun vs H1 ⟨F1, m1, st1, xs, S1, R1, r1, p⟩ => by
    cases r1 with
    | nil => exact p.elim
    | @cons x v xs vs h r =>
      cases x with
      | dat d =>
        cases d with
        | int j =>
          cases r with
          | cons _ _ => exact p.elim
          | nil =>
            cases h
            dsimp only at p
            by_cases hb : -(2 ^ 62) ≤ j ∧ j < 2 ^ 62
            · rw [if_pos hb] at p
              exact ⟨j, rfl, hb.1, hb.2, p F1 H1 m1 _ (Stp.refl _ _ _) R1 itOk_range⟩
            · rw [if_neg hb] at p
              exact p.elim
        | _ => cases r <;> exact p.elim
      | ref k => cases r <;> exact p.elim
      | scr k => cases r <;> exact p.elim⟩
def sRng2 (fs : Ev → M (List Val)) : Ev → M (List PyData) := fun ρ => bnd (fs ρ) fun xs st => match xs with
  | [.dat (.int i), .dat (.int j)] => if -(2 ^ 62) ≤ i ∧ i < 2 ^ 62 ∧ -(2 ^ 62) ≤ j ∧ j < 2 ^ 62 then .ok ((List.range (j - i).toNat).map fun (k : Nat) => .int (i + (k : Int))) st else .err
  | _ => .err
theorem vals2_int {K : PySem.W.Frag} {F : Hp} {m : List Addr} {i j : Int} {vs : List V} (h : RVals K F m [.dat (.int i), .dat (.int j)] vs) : vs = [.int i, .int j] := by
  cases h with
  | cons h1 h2 =>
    cases h2 with
    | cons h3 h4 =>
      cases h4
      cases h1
      cases h3
      rfl
theorem i_rng2 {p : Pos} (hm : X.mg "range" = none) (ha : PA X [a, b] (TDA ⟨X.K, cn⟩ E fs)) (hg : Gl X "range" := by rfl) (hs : starEach [a, b] X.env = [(false, eval a X.env), (false, eval b X.env)] := by rfl) (hs2 : starEach [b] X.env = [(false, eval b X.env)] := by rfl) :
    PI X tg (.Call (.Name "range" p) [a, b] [] pos) (TID ⟨X.K, cn⟩ E (sRng2 fs)) :=
  PI.imp (pi_range2 hg hm ha hs hs2) fun σ H R ⟨F, m, ρ, st, R0, ev, p⟩ => ⟨F, m, ρ, st, R0, ev, PostG.mono (PostG.bnd (T := RVals X.K) p) fun vs H1 ⟨F1, m1, st1, xs, S1, R1, r1, p⟩ => by
    dsimp only at p
    split at p
    · rename_i i j
      split at p
      · rename_i hb
        exact ⟨i, j, vals2_int r1, hb, p F1 H1 m1 _ (Stp.refl _ _ _) R1 itOk_range⟩
      · exact p.elim
    · exact p.elim⟩
/-- zip of two lists, of two tuples -/
def zipD : List PyData → M (List PyData)
  | [.list xs, .list ys] => ret (pairUp xs ys)
  | [.tuple xs, .tuple ys] => ret (pairUp xs ys)
  | _ => fail
def sZip (fs : Ev → M (List Val)) : Ev → M (List PyData) := fun ρ => bnd (fs ρ) fun xs => bnd (frzAll xs) zipD
theorem i_zip {p tpos : Pos} {elts : List Expr} {kk : Nat} (hm : X.mg "zip" = none) (ha : PA X [a, b] (TDA ⟨X.K, cn⟩ E fs)) (hg : Gl X "zip" := by rfl) (hs : starEach [a, b] X.env = (false, eval a X.env) :: starEach [b] X.env := by rfl) (hpl : (backTo pos (starEach [b] X.env)).any (·.1) = false := by rfl) :
    PI X (.Tuple elts kk tpos) (.Call (.Name "zip" p) [a, b] [] pos) (TID ⟨X.K, cn⟩ E (sZip fs)) :=
  PI.imp (RZ.pi_zipA hg hm ha hs hpl) fun σ H R ⟨F, m, ρ, st, R0, ev, p⟩ => ⟨F, m, ρ, st, R0, ev, PostG.mono (PostG.bnd (T := RVals X.K) p) fun vs H1 ⟨F1, m1, st1, xs, S1, R1, r1, p⟩ => by
    obtain ⟨F2, st2, ds, S2, R2, r2, p⟩ := frzAll_ok R1 r1 p
    unfold zipD at p
    split at p
    · cases r2 with
      | cons h1 h2 =>
        cases h2 with
        | cons h3 h4 =>
          cases h4
          cases h1 with
          | lst a1 a2 =>
            cases h3 with
            | lst b1 b2 => exact ⟨_, _, _, _, rfl, .inl ⟨SqL.of (R2.le _ _ a1), SqL.of (R2.le _ _ b1), p F2 H1 m1 _ (Stp.refl _ _ _) R2 (itOk_zipL a1 a2 b1 b2)⟩⟩
    · cases r2 with
      | cons h1 h2 =>
        cases h2 with
        | cons h3 h4 =>
          cases h4
          cases h1 with
          | tup a1 a2 =>
            cases h3 with
            | tup b1 b2 => exact ⟨_, _, _, _, rfl, .inr ⟨R2.le.sqT a1, R2.le.sqT b1, p F2 H1 m1 _ (Stp.refl _ _ _) R2 (itOk_zipT a1 a2 b1 b2)⟩⟩
    · exact p.elim⟩
/-! ### targets -/
def Only (ps : List Nat) (σ σ' : St) : Prop := σ'.length = σ.length ∧ ∀ j, j ∉ ps → σ'[j]? = σ[j]?
theorem Only.refl (ps : List Nat) (σ : St) : Only ps σ σ := ⟨rfl, fun _ _ => rfl⟩
theorem Only.trans {ps : List Nat} {σ σ1 σ2 : St} (a : Only ps σ σ1) (b : Only ps σ1 σ2) : Only ps σ σ2 := ⟨b.1.trans a.1, fun j h => (b.2 j h).trans (a.2 j h)⟩
abbrev Tg := PyData → Ev → Option Ev
def TGD (K : PySem.W.Frag) (ps : List Nat) (t : Tg) : TG := fun v σ H Q => ∃ F m ρ st d ρ', Rel K F H m st ∧ EnvR K F m ρ σ ∧ Rp K F v d ∧ t d ρ = some ρ' ∧ ∀ σ', EnvR K F m ρ' σ' → Only ps σ σ' → Q σ' H
theorem PG.imp {X : Cx} {e : Expr} {t t' : TG} (h : PG X e t) (i : ∀ v σ H Q, t' v σ H Q → t v σ H Q) : PG X e t' := ⟨fun pins s σ H v u Q I r q => h.run pins s σ H v u Q I r (i _ _ _ _ q)⟩
def gN (i : Nat) : Tg := fun d ρ => some (ρ.set i (some (.dat d)))
theorem g_name (i : Nat) {x : Str} {ps : List Nat} (hN : X.N.Nodup) (hps : i ∈ ps) (hi : X.N[i]? = some x := by rfl) (hx : Loc X.env.scope x := by first | exact Or.inl rfl | exact Or.inr rfl) (hf : X.fn x = true ∨ X.env.scope.names.lookup x = some .local := by first | exact .inl rfl | exact .inr rfl) :
    PG X (.Name x pos) (TGD X.K ps (gN i)) := PG.imp (pg_name hN hi hx hf) fun v σ H Q ⟨F, m, ρ, st, d, ρ', R, ev, r, e, k⟩ => by
  cases e
  exact k _ (ev.set r) ⟨by simp, fun j hj => List.getElem?_set_ne (fun z => hj (by rw [← z]; exact hps))⟩
abbrev Tgs := List PyData → Ev → Option Ev
def TGDs (K : PySem.W.Frag) (ps : List Nat) (t : Tgs) : TGs := fun vs σ H Q => ∃ F m ρ st ds ρ', Rel K F H m st ∧ EnvR K F m ρ σ ∧ RpAll K F vs ds ∧ t ds ρ = some ρ' ∧ ∀ σ', EnvR K F m ρ' σ' → Only ps σ σ' → Q σ' H
theorem PGs.imp {X : Cx} {e : List Expr} {t t' : TGs} (h : PGs X e t) (i : ∀ v σ H Q, t' v σ H Q → t v σ H Q) : PGs X e t' := ⟨fun pins s σ H v u Q I r q => h.run pins s σ H v u Q I r (i _ _ _ _ q)⟩
def gsNil : Tgs := fun ds ρ => match ds with
  | [] => some ρ
  | _ => none
def gsCons (t : Tg) (u : Tgs) : Tgs := fun ds ρ => match ds with
  | d :: r => (t d ρ).bind fun ρ1 => u r ρ1
  | [] => none
theorem gs_nil {ps : List Nat} : PGs X [] (TGDs X.K ps gsNil) := PGs.imp pgs_nil fun vs σ H Q ⟨F, m, ρ, st, ds, ρ', R, ev, r, e, k⟩ => by
  cases r with
  | nil => cases e; exact ⟨rfl, k σ ev (Only.refl _ _)⟩
  | cons _ _ => cases e
theorem gs_cons {ps : List Nat} {es : List Expr} {t : Tg} {u : Tgs} (h1 : PG X a (TGD X.K ps t)) (h2 : PGs X es (TGDs X.K ps u)) (hs : (assignEach (a :: es) X.env).map (·.2) = assign a X.env :: (assignEach es X.env).map (·.2) := by rfl) :
    PGs X (a :: es) (TGDs X.K ps (gsCons t u)) := PGs.imp (pgs_cons h1 h2 hs) fun vs σ H Q ⟨F, m, ρ, st, ds, ρ', R, ev, r, e, k⟩ => by
  cases r with
  | nil => cases e
  | @cons v vs d ds h r =>
    simp only [gsCons] at e
    cases q : t d ρ with
    | none => rw [q] at e; cases e
    | some ρ1 =>
      rw [q] at e
      exact ⟨v, vs, rfl, F, m, ρ, st, d, ρ1, R, ev, h, q, fun σ1 ev1 o1 => ⟨F, m, ρ1, st, ds, ρ', R, ev1, r, e, fun σ2 ev2 o2 => k σ2 ev2 (o1.trans o2)⟩⟩
def gT (n : Nat) (u : Tgs) : Tg := fun d ρ => match d with
  | .tuple ds => if ds.length = n then u ds ρ else none
  | _ => none
theorem g_tup {ps : List Nat} {es : List Expr} {k n : Nat} {u : Tgs} (hc : X.calm = true) (h : PGs X es (TGDs X.K ps u)) (hn : (assignEach es X.env).length = n := by rfl) (hst : (assignEach es X.env).findIdx? (·.1) = none := by rfl) :
    PG X (.Tuple es k pos) (TGD X.K ps (gT n u)) := PG.imp (pg_tup hc h hn hst) fun v σ H Q ⟨F, m, ρ, st, d, ρ', R, ev, r, e, kk⟩ => by
  cases r with
  | @tup a xs ds h1 h2 =>
    have e' : (if ds.length = n then u ds ρ else none) = some ρ' := e
    by_cases hl : ds.length = n
    · rw [if_pos hl] at e'
      exact ⟨a, xs, rfl, R.le.sqT h1, by rw [h2.length]; exact hl, F, m, ρ, st, ds, ρ', R, ev, h2, e', kk⟩
    · rw [if_neg hl] at e'; cases e'
  | _ => cases e
/-! ### comprehensions -/
def wipeE (ρ : Ev) : List Nat → Ev
  | [] => ρ
  | v :: vs => (wipeE ρ vs).set v none
theorem wipe_out' {σ : St} {j : Nat} : ∀ {vs : List Nat}, j ∉ vs → (wipe σ vs)[j]? = σ[j]?
  | [], _ => rfl
  | v :: vs, h => by
    unfold wipe
    rw [List.getElem?_set_ne (fun z => h (by rw [z]; exact List.mem_cons_self))]
    exact wipe_out' (fun z => h (List.mem_cons_of_mem _ z))
theorem wipe_in {σ : St} {j : Nat} (hj : j < σ.length) : ∀ {vs : List Nat}, j ∈ vs → (wipe σ vs)[j]? = some none
  | v :: vs, h => by
    unfold wipe
    by_cases hv : v = j
    · subst hv
      rw [List.getElem?_set_self (by rw [wipe_length]; exact hj)]
    · rw [List.getElem?_set_ne hv]
      rcases List.mem_cons.mp h with h | h
      · exact absurd h.symm hv
      · exact wipe_in hj h
theorem wipe_only {ps vs : List Nat} {σ σ2 : St} (o : Only ps (wipe σ vs) σ2) (hp : ∀ i ∈ ps, i ∈ vs) : wipe σ2 vs = wipe σ vs := by
  have hl : σ2.length = σ.length := by rw [o.1, wipe_length]
  refine List.ext_getElem? fun j => ?_
  by_cases hj : j ∈ vs
  · by_cases hjl : j < σ.length
    · rw [wipe_in (by rw [hl]; exact hjl) hj, wipe_in hjl hj]
    · rw [List.getElem?_eq_none (by rw [wipe_length, hl]; omega), List.getElem?_eq_none (by rw [wipe_length]; omega)]
  · rw [wipe_out' hj, o.2 j fun z => hj (hp j z)]
theorem EnvR.wipe {K : PySem.W.Frag} {F : Hp} {m : List Addr} {ρ : Ev} {σ : St} (h : EnvR K F m ρ σ) : ∀ vs : List Nat, EnvR K F m (wipeE ρ vs) (L2.wipe σ vs)
  | [] => h
  | v :: vs => by
    have ih := EnvR.wipe h vs
    refine ⟨by simp [wipeE, L2.wipe, ih.len], fun i x e => ?_⟩
    unfold wipeE at e
    unfold L2.wipe
    by_cases hv : v = i
    · subst hv
      by_cases hl : v < (wipeE ρ vs).length
      · rw [List.getElem?_set_self hl] at e; cases e
      · rw [List.getElem?_eq_none (by simp; omega)] at e; cases e
    · rw [List.getElem?_set_ne hv] at e ⊢
      exact ih.at_ i x e

theorem Rel.extra {K : PySem.W.Frag} {F H : Hp} {m : List Addr} {st : Sto} (R : Rel K F H m st) {p : Addr} (hF : F p = none) (hm : p ∉ m) (o : HO) : Rel K F (upd H p o) m st := by
  refine ⟨fun a u e => ?_, R.len, R.nd, fun k a so e1 e2 => ?_⟩
  · rw [upd_ne (ne_of_none e hF)]; exact R.le _ _ e
  · have ne : a ≠ p := fun z => hm (z ▸ List.mem_of_getElem? e1)
    have ob := R.ob k a so e1 e2
    cases so with
    | lst ds => obtain ⟨h0, vs, h1, h2⟩ := ob; exact ⟨h0, vs, by rw [upd_ne ne]; exact h1, h2⟩
    | dct ds => obtain ⟨h0, vs, h1, h2⟩ := ob; exact ⟨h0, vs, by rw [upd_ne ne]; exact h1, h2⟩
    | frz d => exact ob
theorem Stp.extra {F H F1 H1 : Hp} {m m1 : List Addr} (S : Stp F H m F1 H1 m1) {p : Addr} (hp : H p = none) (o : HO) : Stp F H m F1 (upd H1 p o) m1 :=
  ⟨S.fF, S.mm, fun a u h n => by rw [upd_ne (ne_of_none h hp)]; exact S.frm a u h n, S.nF, S.nm⟩
/-- an object that stands apart becomes data -/
theorem Rel.adopt {K : PySem.W.Frag} {F H : Hp} {m : List Addr} {st : Sto} (R : Rel K F H m st) {p : Addr} {o : HO} (hF : F p = none) (hm : p ∉ m) (hH : H p = some o) : Rel K (upd F p o) H m st := by
  have l : Le F (upd F p o) := Le.new hF
  refine ⟨fun a u e => ?_, R.len, R.nd, fun k a so e1 e2 => ?_⟩
  · by_cases h : a = p
    · subst h; rw [upd_same] at e; rw [hH]; exact e
    · rw [upd_ne h] at e; exact R.le _ _ e
  · have ne : a ≠ p := fun z => hm (z ▸ List.mem_of_getElem? e1)
    have ob := R.ob k a so e1 e2
    cases so with
    | lst ds => obtain ⟨h0, vs, h1, h2⟩ := ob; exact ⟨by rw [upd_ne ne]; exact h0, vs, h1, h2.mono l⟩
    | dct ds => obtain ⟨h0, vs, h1, h2⟩ := ob; exact ⟨by rw [upd_ne ne]; exact h0, vs, h1, Paired.mapP h2 fun p q z => ⟨z.1, z.2.mono l⟩⟩
    | frz d => obtain ⟨h0, h1⟩ := ob; exact ⟨by rw [upd_ne ne]; exact h0, h1.mono l⟩
theorem Stp.adopt {F H F1 H1 : Hp} {m m1 : List Addr} (S : Stp F H m F1 H1 m1) {p : Addr} (hp : H p = none) (hF : F1 p = none) (o : HO) : Stp F H m (upd F1 p o) H1 m1 :=
  ⟨S.fF.trans (Le.new hF), S.mm, S.frm, fun a u h n f => by rw [upd_ne (ne_of_none h hp)]; exact S.nF a u h n f, S.nm⟩
def turnD (ρ : Ev) (vs : List Nat) (t : Tg) (cond : Ev → M Bool) (elt : Ev → M Val) (d : PyData) : M (Option PyData) := fun st => match t d (wipeE ρ vs) with
  | none => .err
  | some ρ1 => bnd (cond ρ1) (fun b => if b then bnd (elt ρ1) fun x => bnd (frzV x) fun e => ret (some e) else ret none) st
def compGo (ρ : Ev) (vs : List Nat) (t : Tg) (cond : Ev → M Bool) (elt : Ev → M Val) : List PyData → M (List PyData)
  | [] => ret []
  | d :: r => bnd (turnD ρ vs t cond elt d) fun o => bnd (compGo ρ vs t cond elt r) fun l => ret (match o with
    | some e => e :: l
    | none => l)
def noX {α : Type} (x : M α) : M α := fun st => match x st with
  | .ok a st' => .ok a st'
  | _ => .err
def eLc (src : Ev → M (List PyData)) (vs : List Nat) (t : Tg) (cond : Ev → M Bool) (elt : Ev → M Val) : Ev → M Val := fun ρ => bnd (src ρ) fun its => chk (decide (its.length ≤ sizeLine)) (bnd (noX (compGo ρ vs t cond elt its)) fun l => ret (.dat (.list l)))
theorem bnd_okE {α β : Type} {x : M α} {f : α → M β} {st st' : Sto} {b : β} (h : bnd x f st = .ok b st') : ∃ a st1, x st = .ok a st1 ∧ f a st1 = .ok b st' := by
  unfold bnd at h
  cases q : x st with
  | ok a st1 => rw [q] at h; exact ⟨a, st1, rfl, h⟩
  | exc n fs st1 => rw [q] at h; cases h
  | err => rw [q] at h; cases h
theorem td_lc {c : Cf} {src : Ev → M (List PyData)} {vs ps : List Nat} {t : Tg} {cond : Ev → M Bool} {elt : Ev → M Val} {σ : St} {H : Hp} {Q : VK} (hp : ∀ i ∈ ps, i ∈ vs) (h : TD c E (eLc src vs t cond elt) σ H Q) :
    tLc (TID c E src) (TGD c.K ps t) (TDB c E0 cond) (TD c E0 elt) vs σ H Q := by
  obtain ⟨F0, m0, ρ, st0, R0, ev0, p⟩ := h
  refine ⟨F0, m0, ρ, st0, R0, ev0, PostG.mono (PostG.bnd (T := RIt c.K) p) fun J H1 ⟨F1, m1, st1, its, S1, R1, ok, p⟩ => ?_⟩
  obtain ⟨hz, p⟩ := post_chk p
  have hz : its.length ≤ sizeLine := of_decide_eq_true hz
  have ok : ItOk c.K J F1 its := ok
  have ev1 := ev0.later S1
  intro D hD
  have hDF : F1 D = none := by
    cases q : F1 D with
    | none => rfl
    | some o => rw [R1.le _ _ q] at hD; cases hD
  have hDm : D ∉ m1 := fun z => by
    obtain ⟨o, e⟩ := R1.there z
    rw [hD] at e; cases e
  cases q : compGo ρ vs t cond elt its st1 with
  | err => unfold PL.bnd noX at p; rw [q] at p; exact p.elim
  | exc n fs st2 => unfold PL.bnd noX at p; rw [q] at p; exact p.elim
  | ok L stF =>
    have p : Post c E F1 H1 m1 (.ok (.dat (.list L)) stF) Q := by unfold PL.bnd noX at p; rw [q] at p; exact p
    refine ⟨fun i k H => k = its.length - i ∧ i ≤ its.length ∧ ∃ F m st acc ws l, Stp F1 H1 m1 F H m ∧ Rel c.K F H m st ∧ F D = none ∧ D ∉ m ∧ H D = some (.lst ws) ∧ RpAll c.K F ws acc ∧ acc ++ l = L ∧ acc.length ≤ i ∧ compGo ρ vs t cond elt (its.drop i) st = .ok l stF, ⟨its.length, ?_⟩, ?_⟩
    · refine ⟨by simp, Nat.zero_le _, F1, m1, st1, [], [], L, (Stp.refl _ _ _).extra hD _, R1.extra hDF hDm _, hDF, hDm, upd_same, .nil, rfl, Nat.le_refl _, q⟩
    · rintro i k H ⟨rfl, hi, F, m, st, acc, ws, l, S, R, fD, mD, hH, rw', el, hal, hgo⟩
      by_cases hlt : i < its.length
      · refine .inr ⟨ok.go i F H m st S.fF R hlt, fun H => ∃ F m st acc ws l, Stp F1 H1 m1 F H m ∧ Rel c.K F H m st ∧ F D = none ∧ D ∉ m ∧ H D = some (.lst ws) ∧ RpAll c.K F ws acc ∧ acc ++ l = L ∧ acc.length ≤ i + 1 ∧ compGo ρ vs t cond elt (its.drop (i + 1)) st = .ok l stF, fun H' w => ⟨its.length - (i + 1), by omega, rfl, hlt, w⟩, fun x H' y => ?_⟩
        obtain ⟨F', d, S', R', ed, rd⟩ := ok.yld i F H m st x H' S.fF R hlt y
        have hdrop : its.drop i = d :: its.drop (i + 1) := by
          rw [List.drop_eq_getElem_cons hlt]
          obtain ⟨h1, h2⟩ := List.getElem?_eq_some_iff.mp ed
          rw [h2]
        rw [hdrop] at hgo
        unfold compGo at hgo
        obtain ⟨o, st2, ht, hgo⟩ := bnd_okE hgo
        obtain ⟨l', st3, hrest, hgo⟩ := bnd_okE hgo
        have fD' : F' D = none := S'.nF D _ hH mD fD
        have hH' : H' D = some (.lst ws) := S'.frm D _ hH mD
        have rw2 := rw'.mono S'.fF
        unfold turnD at ht
        cases qt : t d (wipeE ρ vs) with
        | none => rw [qt] at ht; cases ht
        | some ρ1 =>
          rw [qt] at ht
          dsimp only at ht
          obtain ⟨b, st4, hc, ht⟩ := bnd_okE ht
          refine ⟨F', m, wipeE ρ vs, st, d, ρ1, R', ((ev1.later S).later S').wipe vs, rd, qt, fun σ2 ev2 o2 => ⟨wipe_only o2 hp, F', m, ρ1, st, R', ev2, ?_⟩⟩
          rw [hc]
          intro F2 H2 m2 b' S2 R2 eb
          have eb : b = b' := eb
          subst eb
          have nm2 : D ∉ m2 := fun z => by
            have := S2.nm D z mD
            rw [hH'] at this; cases this
          have fD2 : F2 D = none := S2.nF D _ hH' mD fD'
          have hH2 : H2 D = some (.lst ws) := S2.frm D _ hH' mD
          have rw3 := rw2.mono S2.fF
          cases b with
          | false =>
            refine iteF ?_
            cases ht
            cases hgo
            exact ⟨F2, m2, st2, acc, ws, l', (S.trans S').trans S2, R2, fD2, nm2, hH2, rw3, el, by omega, hrest⟩
          | true =>
            refine iteT ⟨F2, m2, ρ1, st4, R2, ev2.later S2, ?_⟩
            have ht : bnd (elt ρ1) (fun x => bnd (frzV x) fun e => ret (some e)) st4 = .ok o st2 := ht
            obtain ⟨xv, st5, he, ht⟩ := bnd_okE ht
            obtain ⟨e, st6, hf, ht⟩ := bnd_okE ht
            rw [he]
            intro F3 H3 m3 v S3 R3 r3
            have nm3 : D ∉ m3 := fun z => by
              have := S3.nm D z nm2
              rw [hH2] at this; cases this
            have fD3 : F3 D = none := S3.nF D _ hH2 nm2 fD2
            have hH3 : H3 D = some (.lst ws) := S3.frm D _ hH2 nm2
            have rw4 := rw3.mono S3.fF
            obtain ⟨F4, st7, d4, S4, R4, r4, _, hf'⟩ := frz_ok (E := E0) (T := fun _ _ (_ : Unit) (_ : Unit) => True) (k := fun _ => ret ()) (Q := fun _ _ => True) R3 r3 (by unfold PL.bnd; rw [hf]; exact fun _ _ _ _ _ _ _ => trivial)
            rw [hf] at hf'
            cases hf'
            cases ht
            cases hgo
            have nm4 : D ∉ m3 := nm3
            have fD4 : F4 D = none := S4.nF D _ hH3 nm3 fD3
            have zl : ws.length = acc.length := rw'.length
            refine ⟨ws, hH3, by omega, F4, m3, st2, acc ++ [e], ws ++ [v], l', ?_, R4.extra fD4 nm3 _, fD4, nm3, upd_same, (rw4.mono S4.fF).append (.cons r4 .nil), by rw [List.append_assoc]; exact el, by simp; omega, hrest⟩
            exact ((((S.trans S').trans S2).trans S3).trans S4).extra hD _
      · have e : i = its.length := by omega
        subst e
        refine .inl ⟨ok.stop F H m st S.fF R, ?_⟩
        rw [List.drop_length] at hgo
        cases hgo
        rw [List.append_nil] at el
        subst el
        exact p _ _ _ _ (S.adopt hD fD _) (R.adopt fD mD hH) (.lst upd_same (rw'.mono (Le.new fD)))
end
end PL

set_option Elab.async false
set_option linter.all false
set_option maxRecDepth 100000
namespace PL
open PySem PySem.Spec L2
open PyProof.Rows hiding St
section
variable {X : Cx} {cn : Str → Option Addr} {E : XK} {pos : Pos} {a b tg iter elt : Expr} {f f' : Ev → M Val} {fs : Ev → M (List Val)}
/-! ### comprehensions -/
def tTrue : Ev → M Bool := fun _ => ret true
theorem c_nil : PTs X [] (TDB ⟨X.K, cn⟩ E tTrue) := ⟨fun pins s σ H Q I ⟨F, m, ρ, st, R, ev, p⟩ => pts_nil.run pins s σ H Q I (p F H m true (Stp.refl _ _ _) R rfl)⟩
theorem c_one {t : Ev → M Bool} (h : PT X a (TDB ⟨X.K, cn⟩ E t)) : PTs X [a] (TDB ⟨X.K, cn⟩ E t) := pts_one h
theorem d_lc {ifs : List Expr} {scope : Scope} {own : List (Str × Nat)} {ps : List Nat} {src : Ev → M (List PyData)} {t : Tg} {cond : Ev → M Bool} {el : Ev → M Val} (hc : X.calm = true) (hN : X.N.Nodup) (hi : PI X tg iter (TID ⟨X.K, cn⟩ E src)) (ok : BlkOk X.N X.env.scope scope own) (hp : ∀ i ∈ ps, i ∈ own.map (·.2))
    (hg : ∀ (s : Shared) (H : Hp) (C : Addr) (cl : List (Str × Addr)) (fp : List Addr), PG (X.blk s H scope (compEnvC scope cl C X.env) fp) tg (TGD X.K ps t))
    (ht : ∀ (s : Shared) (H : Hp) (C : Addr) (cl : List (Str × Addr)) (fp : List Addr), PTs (X.blk s H scope (compEnvC scope cl C X.env) fp) ifs (TDB ⟨X.K, cn⟩ E0 cond))
    (he : ∀ (s : Shared) (H : Hp) (C : Addr) (cl : List (Str × Addr)) (fp : List Addr), PE (X.blk s H scope (compEnvC scope cl C X.env) fp) elt (TD ⟨X.K, cn⟩ E0 el)) (hs : ∀ x, foldedSetIterable iter X.env x = pure x := by intro _; rfl) :
    PE X (.ListComp elt [⟨tg, iter, ifs, 0⟩] scope pos) (TD ⟨X.K, cn⟩ E (eLc src (own.map (·.2)) t cond el)) :=
  PE.imp (pe_lc hc hN hi ok hg ht he hs) fun σ H Q h => td_lc (c := ⟨X.K, cn⟩) hp h
/-! ### displays -/
def dTup (xs : List Val) : M Val := bnd (frzAll xs) fun ds => chk (decide (ds.length ≤ sizeLine)) (ret (.dat (.tuple ds)))
def dLst (xs : List Val) : M Val := bnd (frzAll xs) fun ds => chk (decide (ds.length ≤ sizeLine)) (ret (.dat (.list ds)))
def eA (g : List Val → M Val) (fs : Ev → M (List Val)) : Ev → M Val := fun ρ => bnd (fs ρ) g
theorem d_tup {es : List Expr} {k : Nat} (h : PA X es (TDA ⟨X.K, cn⟩ E fs)) : PE X (.Tuple es k pos) (TD ⟨X.K, cn⟩ E (eA dTup fs)) :=
  PE.imp (pe_tup h) fun σ H Q ⟨F, m, ρ, st, R, ev, p⟩ => ⟨F, m, ρ, st, R, ev, PostG.mono (PostG.bnd (T := RVals X.K) p) fun vs H1 ⟨F1, m1, st1, xs, S1, R1, r1, p⟩ => by
    obtain ⟨F2, st2, ds, S2, R2, r2, p⟩ := frzAll_ok R1 r1 p
    obtain ⟨z, p⟩ := post_chk p
    refine ⟨by rw [r2.length]; exact of_decide_eq_true z, fun q hq => ?_⟩
    obtain ⟨S3, R3⟩ := R2.new hq (.tup vs)
    exact p _ _ _ _ S3 R3 (.tup (SqT.of upd_same) (r2.mono S3.fF))⟩
theorem d_lst {es : List Expr} (h : PA X es (TDA ⟨X.K, cn⟩ E fs)) : PE X (.List es pos) (TD ⟨X.K, cn⟩ E (eA dLst fs)) :=
  PE.imp (pe_lst h) fun σ H Q ⟨F, m, ρ, st, R, ev, p⟩ => ⟨F, m, ρ, st, R, ev, PostG.mono (PostG.bnd (T := RVals X.K) p) fun vs H1 ⟨F1, m1, st1, xs, S1, R1, r1, p⟩ => by
    obtain ⟨F2, st2, ds, S2, R2, r2, p⟩ := frzAll_ok R1 r1 p
    obtain ⟨z, p⟩ := post_chk p
    refine ⟨by rw [r2.length]; exact of_decide_eq_true z, fun q hq => ?_⟩
    obtain ⟨S3, R3⟩ := R2.new hq (.lst vs)
    exact p _ _ _ _ S3 R3 (.lst upd_same (r2.mono S3.fF))⟩
/-! ### subscripts -/
theorem RpAll.atI {K : PySem.W.Frag} {F : Hp} {vs : List V} {ds : List PyData} {i : Int} {d : PyData} (h : RpAll K F vs ds) (e : L2.atI ds i = some d) : ∃ v, L2.atI vs i = some v ∧ Rp K F v d := by
  unfold L2.atI at e ⊢
  rw [h.length]
  cases q : ixN ds.length i with
  | none => rw [q] at e; cases e
  | some j => rw [q] at e; exact h.get e
def ixD : PyData → PyData → M Val
  | .list ds, .int i => fun st => (match L2.atI ds i with
    | some d => .ok (.dat d) st
    | none => .err)
  | .tuple ds, .int i => fun st => (match L2.atI ds i with
    | some d => .ok (.dat d) st
    | none => .err)
  | .str z, .int i => fun st => (match L2.atI z.cps.toList i with
    | some c => if z.length ≤ sizeLine then .ok (.dat (.str ⟨#[c]⟩)) st else .err
    | none => .err)
  | _, _ => fail
theorem o_ix : IxR X (rD ⟨X.K, cn⟩ E (on2 ixD)) := by
  intro ea eb pins s σ H x y v u Q I rx ry ⟨F, m, st, x', y', R, h1, h2, p⟩ hs
  unfold on2 at p
  cases ex : vw x' st with
  | none => rw [ex] at p; exact p.elim
  | some d =>
    cases ey : vw y' st with
    | none => rw [ex, ey] at p; exact p.elim
    | some e =>
      rw [ex, ey] at p
      have b1 := vw_ok R h1 ex
      have b2 := vw_ok R h2 ey
      refine ix_seq ea eb pins s σ H x y v u Q I rx ry ?_ hs
      dsimp only at p
      cases b2 <;> first
        | (cases b1 <;> exact p.elim)
        | skip
      cases b1 <;> first
        | exact p.elim
        | skip
      · rename_i i z
        unfold ixD at p
        dsimp only at p
        cases q : L2.atI z.cps.toList i with
        | none => rw [q] at p; exact p.elim
        | some c =>
          rw [q] at p
          dsimp only at p
          by_cases hl : z.length ≤ sizeLine
          · rw [if_pos hl] at p
            exact .inr (.inr ⟨_, _, c, rfl, rfl, hl, q, post_ok p R (Rp.str _)⟩)
          · rw [if_neg hl] at p; exact p.elim
      · rename_i i aa xs ds ha hr
        unfold ixD at p
        dsimp only at p
        cases q : L2.atI ds i with
        | none => rw [q] at p; exact p.elim
        | some c =>
          rw [q] at p
          obtain ⟨v, e1, e2⟩ := hr.atI q
          exact .inl ⟨_, _, _, v, rfl, rfl, SqL.of ha, e1, post_ok p R e2⟩
      · rename_i i aa xs ds ha hr
        unfold ixD at p
        dsimp only at p
        cases q : L2.atI ds i with
        | none => rw [q] at p; exact p.elim
        | some c =>
          rw [q] at p
          obtain ⟨v, e1, e2⟩ := hr.atI q
          exact .inr (.inl ⟨_, _, _, v, rfl, rfl, R.le.sqT ha, e1, post_ok p R e2⟩)
theorem d_ix (ha : PE X a (TD ⟨X.K, cn⟩ E f)) (hb : PE X b (TD ⟨X.K, cn⟩ E f')) (hs : PlainIx b := by exact fun _ _ => rfl) : PE X (.Subscript a b pos) (TD ⟨X.K, cn⟩ E (e2 (on2 ixD) f f')) :=
  PE.imp (pe_ix o_ix ha hb hs) fun σ H Q h => td_op (c := ⟨X.K, cn⟩) h
/-! ### slices -/
def cutD {α : Type} (xs : List α) (lo hi : Option Int) : List α := (xs.drop (HT.sIx xs.length 0 lo)).take (HT.sIx xs.length xs.length hi - HT.sIx xs.length 0 lo)
def slD (x : Val) (lo hi : Option Int) : M Val := fun st => match x with
  | .scr ns => .ok (.dat (.list ((cutD ns lo hi).map .int))) st
  | _ => (match vw x st with
    | some (.list ds) => .ok (.dat (.list (cutD ds lo hi))) st
    | some (.tuple ds) => .ok (.dat (.tuple (cutD ds lo hi))) st
    | _ => .err)
def asI (x : Val) : M Int := fun st => match x with
  | .dat (.int i) => .ok i st
  | _ => .err
def oN : Ev → M (Option Int) := fun _ => ret none
def oS (f : Ev → M Val) : Ev → M (Option Int) := fun ρ => bnd (f ρ) fun x => bnd (asI x) fun i => ret (some i)
def RO : Hp → List Addr → Option Int → Option Int → Prop := fun _ _ a b => a = b
abbrev TDO (c : Cf) (E : XK) (f : Ev → M (Option Int)) : TO := TDg c E RO f
theorem PO.imp {X : Cx} {e : Option Expr} {t t' : TO} (h : PO X e t) (i : ∀ σ H R, t' σ H R → t σ H R) : PO X e t' := ⟨fun pins s σ H R I q => h.run pins s σ H R I (i _ _ _ q)⟩
theorem s_none : PO X none (TDO ⟨X.K, cn⟩ E oN) := PO.imp po_none fun σ H Q ⟨F, m, ρ, st, R, ev, p⟩ => p F H m none (Stp.refl _ _ _) R rfl
theorem s_some (h : PE X a (TD ⟨X.K, cn⟩ E f)) : PO X (some a) (TDO ⟨X.K, cn⟩ E (oS f)) :=
  PO.imp (po_some h) fun σ H Q ⟨F, m, ρ, st, R, ev, p⟩ => ⟨F, m, ρ, st, R, ev, PostG.mono (PostG.bnd (T := RVal X.K) p) fun v H1 ⟨F1, m1, st1, x, S1, R1, r1, p⟩ => by
    cases x with
    | dat d =>
      cases d with
      | int i => cases r1; exact ⟨i, rfl, p F1 H1 m1 _ (Stp.refl _ _ _) R1 rfl⟩
      | _ => exact p.elim
    | _ => exact p.elim⟩
theorem RpAll.cut {K : PySem.W.Frag} {F : Hp} {vs : List V} {ds : List PyData} (h : RpAll K F vs ds) (lo hi : Option Int) : RpAll K F (cutV vs lo hi) (cutD ds lo hi) := by
  unfold cutV cutD
  rw [h.length]
  exact (h.drop _).take _
def eSl (f : Ev → M Val) (lo hi : Ev → M (Option Int)) : Ev → M Val := fun ρ => bnd (f ρ) fun x => bnd (lo ρ) fun l => bnd (hi ρ) fun h => slD x l h
theorem cutD_whole {α : Type} {xs : List α} {lo hi : Option Int} (h : HT.sIx xs.length 0 lo = 0 ∧ HT.sIx xs.length xs.length hi = xs.length) : cutD xs lo hi = xs := by
  unfold cutD
  rw [h.1, h.2]
  simp
theorem cut_map (ns : List Int) (lo hi : Option Int) : cutV (ns.map V.int) lo hi = (cutD ns lo hi).map V.int := by
  unfold cutV cutD
  simp [List.map_drop, List.map_take]
theorem RpAll.ints {K : PySem.W.Frag} {F : Hp} : ∀ ns : List Int, RpAll K F (ns.map V.int) (ns.map PyData.int)
  | [] => .nil
  | n :: r => .cons (.int n) (RpAll.ints r)
theorem SlR.imp {r r' : V → Option Int → Option Int → Hp → VK → Prop} (h : SlR X r) (i : ∀ x l u H Q, r' x l u H Q → r x l u H Q) : SlR X r' := fun pins s σ H x v vl vu lo hi sl Q I rx hs pl pu q => h pins s σ H x v vl vu lo hi sl Q I rx hs pl pu (i _ _ _ _ _ q)
theorem d_sl {lo hi : Option Expr} {fl fh : Ev → M (Option Int)} {p2 : Pos} (ha : PE X a (TD ⟨X.K, cn⟩ E f)) (hl : PO X lo (TDO ⟨X.K, cn⟩ E fl)) (hh : PO X hi (TDO ⟨X.K, cn⟩ E fh)) :
    PE X (.Subscript a (.Slice lo hi none p2) pos) (TD ⟨X.K, cn⟩ E (eSl f fl fh)) :=
  PE.imp (pe_slice (sl_list.or sl_tupA) ha hl hh) fun σ H Q ⟨F, m, ρ, st, R, ev, p⟩ => ⟨F, m, ρ, st, R, ev, PostG.mono (PostG.bnd (T := RVal X.K) p) fun v H1 ⟨F1, m1, st1, x, S1, R1, r1, p⟩ =>
    ⟨F1, m1, ρ, st1, R1, ev.later S1, PostG.mono (PostG.bnd (T := RO) p) fun l H2 ⟨F2, m2, st2, l', S2, R2, r2, p⟩ =>
    ⟨F2, m2, ρ, st2, R2, (ev.later S1).later S2, PostG.mono (PostG.bnd (T := RO) p) fun h H3 ⟨F3, m3, st3, h', S3, R3, r3, p⟩ => by
      have r2 : l' = l := r2
      have r3 : h' = h := r3
      subst r2; subst r3
      have rv := (r1.later S2).later S3
      have gen : ∀ d, vw x st3 = some d → (∀ ds, d = .list ds → Post ⟨X.K, cn⟩ E F3 H3 m3 (.ok (.dat (.list (cutD ds l' h'))) st3) Q) → (∀ ds, d = .tuple ds → Post ⟨X.K, cn⟩ E F3 H3 m3 (.ok (.dat (.tuple (cutD ds l' h'))) st3) Q) → ((∃ ds, d = .list ds) ∨ ∃ ds, d = .tuple ds) → rSlL X.K v l' h' H3 Q ∨ rSlA X.K v l' h' H3 Q := fun d e k1 k2 kk => by
        have b := vw_ok R3 rv e
        rcases kk with ⟨ds, rfl⟩ | ⟨ds, rfl⟩
        · cases b with
          | lst q1 q2 =>
            refine .inl ⟨_, _, rfl, SqL.of q1, fun q hq => ?_⟩
            obtain ⟨S4, R4⟩ := R3.new hq (.lst (cutV _ l' h'))
            exact k1 ds rfl _ _ _ _ S4 R4 (.lst upd_same ((q2.cut l' h').mono S4.fF))
        · cases b with
          | tup q1 q2 =>
            refine .inr ⟨_, _, rfl, R3.le.sqT q1, fun hw => ?_, fun _ q hq => ?_⟩
            · refine post_ok (k2 ds rfl) R3 ?_
              rw [q2.length] at hw
              rw [cutD_whole hw]
              exact .tup q1 q2
            · obtain ⟨S4, R4⟩ := R3.new hq (.tup (cutV _ l' h'))
              exact k2 ds rfl _ _ _ _ S4 R4 (.tup (SqT.of upd_same) ((q2.cut l' h').mono S4.fF))
      cases x with
      | scr ns =>
        obtain ⟨aa, rfl, hq⟩ := rv
        refine .inl ⟨aa, _, rfl, R3.le.sqL hq, fun q hq => ?_⟩
        rw [cut_map]
        obtain ⟨S4, R4⟩ := R3.new hq (.lst ((cutD ns l' h').map V.int))
        exact p _ _ _ _ S4 R4 (.lst upd_same (RpAll.ints _))
      | dat d =>
        cases d with
        | list ds => exact gen _ rfl (fun ds' e => by cases e; exact p) (fun ds' e => by cases e) (.inl ⟨_, rfl⟩)
        | tuple ds => exact gen _ rfl (fun ds' e => by cases e) (fun ds' e => by cases e; exact p) (.inr ⟨_, rfl⟩)
        | _ => exact p.elim
      | ref k =>
        unfold slD at p
        dsimp only at p
        cases q : vw (.ref k) st3 with
        | none => rw [q] at p; exact p.elim
        | some d =>
          rw [q] at p
          cases d with
          | list ds => exact gen _ q (fun ds' e => by cases e; exact p) (fun ds' e => by cases e) (.inl ⟨_, rfl⟩)
          | tuple ds => exact gen _ q (fun ds' e => by cases e) (fun ds' e => by cases e; exact p) (.inr ⟨_, rfl⟩)
          | _ => exact p.elim⟩⟩⟩
end
end PL

set_option Elab.async false
set_option linter.all false
set_option maxRecDepth 100000
namespace PL
open PySem PySem.Spec L2
open PyProof.Rows hiding St
section
variable {X : Cx} {cn : Str → Option Addr} {E : XK} {pos p : Pos} {a b : Expr} {es : List Expr} {f f' : Ev → M Val} {fs : Ev → M (List Val)}
/-! ### built-in calls -/
def rDA (c : Cf) (E : XK) (g : List Val → M Val) : List V → Hp → VK → Prop := fun vs H Q => ∃ F m st xs, Rel c.K F H m st ∧ RVals c.K F m xs vs ∧ Post c E F H m (g xs st) Q
theorem td_call {c : Cf} {g : List Val → M Val} {σ : St} {H : Hp} {Q : VK} (h : TD c E (eA g fs) σ H Q) : tCB (rDA c E g) (TDA c E fs) σ H Q := by
  obtain ⟨F, m, ρ, st, R, ev, p⟩ := h
  exact ⟨F, m, ρ, st, R, ev, PostG.mono (PostG.bnd (T := RVals c.K) p) fun vs H1 ⟨F1, m1, st1, xs, S1, R1, r1, p⟩ => ⟨F1, m1, st1, xs, R1, r1, p⟩⟩
theorem d_callB {x : Str} {id : String} {g : List Val → M Val} (hc : CallR X (.builtin id) (rDA ⟨X.K, cn⟩ E g)) (hm : X.mg x = none) (hv : bootBuiltins x = some (.builtin id)) (ha : PA X (a :: es) (TDA ⟨X.K, cn⟩ E fs)) (hg : Gl X x := by rfl) (hn : x ≠ "__name__" := by decide) (hdb : (x == ("__debug__" : Str)) = false := by decide)
    (he : starEach (a :: es) X.env = (false, eval a X.env) :: starEach es X.env := by rfl) (hpl : (backTo pos (starEach es X.env)).any (·.1) = false := by rfl) : PE X (.Call (.Name x p) (a :: es) [] pos) (TD ⟨X.K, cn⟩ E (eA g fs)) :=
  PE.imp (pe_callB hc hg hm hv ha hn hdb he hpl) fun σ H Q h => td_call h
theorem d_callT {x : Str} {T : String} {g : List Val → M Val} (hc : CallR X (.type T) (rDA ⟨X.K, cn⟩ E g)) (hm : X.mg x = none) (hv : bootBuiltins x = some (.type T)) (ha : PA X (a :: es) (TDA ⟨X.K, cn⟩ E fs)) (hg : Gl X x := by rfl) (hn : x ≠ "__name__" := by decide) (hdb : (x == ("__debug__" : Str)) = false := by decide)
    (he : starEach (a :: es) X.env = (false, eval a X.env) :: starEach es X.env := by rfl) (hpl : (backTo pos (starEach es X.env)).any (·.1) = false := by rfl) : PE X (.Call (.Name x p) (a :: es) [] pos) (TD ⟨X.K, cn⟩ E (eA g fs)) :=
  PE.imp (pe_callTy hc hg hm hv ha hn hdb he hpl) fun σ H Q h => td_call h
/-- one argument, by its view -/
def on1L (g : PyData → M Val) (xs : List Val) : M Val := match xs with
  | [x] => on1 g x
  | _ => fail
theorem on1L_ok {fv : Value} {g : PyData → M Val}
    (h : ∀ (pins : List (Addr × Obj)) (s : Shared) (σ : St) (H F : Hp) (m : List Addr) (st : Sto) (x : V) (d : PyData) (us : List Value) (Q : VK), Inv X pins σ H s → Vals [x] us → Rel X.K F H m st → VB X.K F H x d → Post ⟨X.K, cn⟩ E F H m (g d st) Q →
      wpAny (model X.prog X.w) X.A (call fv us) (EP X pins σ Q) X.xe s) : CallR X fv (rDA ⟨X.K, cn⟩ E (on1L g)) := by
  intro pins s σ H xs us Q I rx ⟨F, m, st, xs', R, h1, p⟩
  cases h1 with
  | nil => exact p.elim
  | cons h1 h2 =>
    cases h2 with
    | cons _ _ => exact p.elim
    | nil =>
      rename_i x' x
      have p : Post ⟨X.K, cn⟩ E F H m (on1 g x' st) Q := p
      unfold on1 at p
      cases ex : vw x' st with
      | none => rw [ex] at p; exact p.elim
      | some d => rw [ex] at p; exact h pins s σ H F m st x d us Q I rx R (vw_ok R h1 ex) p
def lenD : PyData → M Val
  | .str z => chk (decide (z.length ≤ sizeLine)) (bI z.length)
  | .list ds => bI ds.length
  | .tuple ds => bI ds.length
  | _ => fail
theorem c_len : CallR X (.builtin "len") (rDA ⟨X.K, cn⟩ E (on1L lenD)) := on1L_ok fun pins s σ H F m st x d us Q I rx R h1 p => by
  cases h1 <;> first | exact p.elim | skip
  · obtain ⟨z, p⟩ := post_chk p
    exact call_len pins s σ H _ us Q I rx ⟨_, _, rfl, ⟨of_decide_eq_true z, rfl⟩, post_ok p R (Rp.int _)⟩
  · rename_i h1 h2
    exact call_len pins s σ H _ us Q I rx ⟨_, _, rfl, .inl ⟨_, SqL.of h1, rfl⟩, post_ok p R (by rw [h2.length]; exact Rp.int _)⟩
  · rename_i h1 h2
    exact call_len pins s σ H _ us Q I rx ⟨_, _, rfl, .inr ⟨_, R.le.sqT h1, rfl⟩, post_ok p R (by rw [h2.length]; exact Rp.int _)⟩
def bools : List PyData → Option (List Bool)
  | [] => some []
  | .bool b :: r => (bools r).map (b :: ·)
  | _ :: _ => none
theorem bools_ok {K : PySem.W.Frag} {F : Hp} : ∀ {vs : List V} {ds : List PyData} {bs : List Bool}, RpAll K F vs ds → bools ds = some bs → vs = bs.map V.bl
  | _, _, bs, .nil, e => by cases e; rfl
  | _, _, bs, .cons h r, e => by
    cases h <;> first | cases e | skip
    rename_i vs ds b
    unfold bools at e
    cases q : bools ds with
    | none => rw [q] at e; cases e
    | some l =>
      rw [q] at e
      cases e
      rw [bools_ok r q]
      rfl
def allD : PyData → M Val
  | .list ds => fun st => (match bools ds with
    | some bs => bB (bs.all id) st
    | none => .err)
  | _ => fail
def anyD : PyData → M Val
  | .list ds => fun st => (match bools ds with
    | some bs => bB (bs.any id) st
    | none => .err)
  | _ => fail
theorem c_all (hc : X.calm = true) : CallR X (.builtin "all") (rDA ⟨X.K, cn⟩ E (on1L allD)) := on1L_ok fun pins s σ H F m st x d us Q I rx R h1 p => by
  cases h1 <;> first | exact p.elim | skip
  rename_i aa xs ds h1 h2
  unfold allD at p
  dsimp only at p
  cases q : bools ds with
  | none => rw [q] at p; exact p.elim
  | some bs =>
    rw [q] at p
    have e := bools_ok h2 q
    subst e
    exact cr_all hc pins s σ H _ us Q I rx ⟨_, bs, rfl, SqL.of h1, post_ok p R (Rp.bl _)⟩
theorem c_any (hc : X.calm = true) : CallR X (.builtin "any") (rDA ⟨X.K, cn⟩ E (on1L anyD)) := on1L_ok fun pins s σ H F m st x d us Q I rx R h1 p => by
  cases h1 <;> first | exact p.elim | skip
  rename_i aa xs ds h1 h2
  unfold anyD at p
  dsimp only at p
  cases q : bools ds with
  | none => rw [q] at p; exact p.elim
  | some bs =>
    rw [q] at p
    have e := bools_ok h2 q
    subst e
    exact cr_any hc pins s σ H _ us Q I rx ⟨_, bs, rfl, SqL.of h1, post_ok p R (Rp.bl _)⟩
def listD : PyData → M Val
  | .list ds => ret (.dat (.list ds))
  | .tuple ds => ret (.dat (.list ds))
  | _ => fail
theorem c_list : CallR X (.type "list") (rDA ⟨X.K, cn⟩ E (on1L listD)) := on1L_ok fun pins s σ H F m st x d us Q I rx R h1 p => by
  cases h1 <;> first | exact p.elim | skip
  · rename_i aa xs ds h1 h2
    refine call_list_of pins s σ H _ us Q I rx ⟨_, _, rfl, .inl (SqL.of h1), fun l hl => ?_⟩
    obtain ⟨S, R'⟩ := R.new hl (.lst xs)
    exact p _ _ _ _ S R' (.lst upd_same (h2.mono S.fF))
  · rename_i aa xs ds h1 h2
    refine call_list_of pins s σ H _ us Q I rx ⟨_, _, rfl, .inr (R.le.sqT h1), fun l hl => ?_⟩
    obtain ⟨S, R'⟩ := R.new hl (.lst xs)
    exact p _ _ _ _ S R' (.lst upd_same (h2.mono S.fF))
def tupleD : PyData → M Val
  | .list ds => ret (.dat (.tuple ds))
  | .tuple ds => ret (.dat (.tuple ds))
  | _ => fail
theorem c_tuple : CallR X (.type "tuple") (rDA ⟨X.K, cn⟩ E (on1L tupleD)) := on1L_ok fun pins s σ H F m st x d us Q I rx R h1 p => by
  cases h1 <;> first | exact p.elim | skip
  · rename_i aa xs ds h1 h2
    refine call_tuple_of pins s σ H _ us Q I rx ⟨_, _, rfl, .inl ⟨SqL.of h1, fun l hl => ?_⟩⟩
    obtain ⟨S, R'⟩ := R.new hl (.tup xs)
    exact p _ _ _ _ S R' (.tup (SqT.of upd_same) (h2.mono S.fF))
  · rename_i aa xs ds h1 h2
    exact call_tuple_of pins s σ H _ us Q I rx ⟨_, _, rfl, .inr ⟨R.le.sqT h1, post_ok p R (.tup h1 h2)⟩⟩
def intD : PyData → M Val
  | .int i => bI i
  | .bool b => bI (if b then 1 else 0)
  | _ => fail
theorem c_int : CallR X (.type "int") (rDA ⟨X.K, cn⟩ E (on1L intD)) := on1L_ok fun pins s σ H F m st x d us Q I rx R h1 p => by
  cases h1 <;> first
    | exact p.elim
    | exact call_int1 pins s σ H _ us Q I rx (.inl ⟨_, rfl, post_ok p R (Rp.int _)⟩)
    | exact call_int1 pins s σ H _ us Q I rx (.inr ⟨_, rfl, post_ok p R (Rp.int _)⟩)
def reprD (d : PyData) : M Val := chk (d.showable && !d.hasDict && decide (d.depth ≤ 60) && decide (d.shown.length ≤ sizeLine)) (bS d.shown)
theorem c_repr (hg : X.A.guards = some []) (hu : X.A.units + 64 < cLine) : CallR X (.builtin "repr") (rDA ⟨X.K, cn⟩ E (on1L reprD)) := on1L_ok fun pins s σ H F m st x d us Q I rx R h1 p => by
  obtain ⟨z, p⟩ := post_chk p
  simp only [Bool.and_eq_true, decide_eq_true_eq, Bool.not_eq_true'] at z
  obtain ⟨⟨⟨z1, z2⟩, z3⟩, z4⟩ := z
  obtain ⟨u, rfl, ru⟩ := vals1 rx
  have q : Q (.str d.shown) H := post_ok p R (Rp.str _)
  cases h1 with
  | non => cases ru; exact PySem.P.repr_of_none ⟨.str _, H, I.tok _, ⟨_, rfl⟩, q⟩
  | bl b =>
    cases ru
    refine PySem.P.repr_of_bool ⟨.str _, H, I.tok _, ⟨_, rfl⟩, ?_⟩
    cases b <;> exact q
  | int i =>
    obtain ⟨t, rfl⟩ := ru
    have z1 : i.natAbs.log2 < 1920 := of_decide_eq_true z1
    exact PySem.P.repr_of_int z1 ⟨.str _, H, I.tok _, ⟨_, rfl⟩, q⟩
  | str y =>
    obtain ⟨t, rfl⟩ := ru
    exact PySem.P.repr_of_str ⟨.str _, H, I.tok _, ⟨_, rfl⟩, q⟩ z4
  | lst h1 h2 =>
    cases ru
    obtain ⟨as, rd⟩ := Dp.reads I _ _ _ (VB.dp R.le (.lst h1 h2)) rfl
    exact repr_of_reads' rd z1 (fun h => by rw [z2] at h; cases h) hg (by omega) (fun _ _ h => h) (fun h' u tk hk => ⟨.str _, H, I.kept hk, ⟨_, rfl⟩, q⟩) z4
  | tup h1 h2 =>
    cases ru
    obtain ⟨as, rd⟩ := Dp.reads I _ _ _ (VB.dp R.le (.tup h1 h2)) rfl
    exact repr_of_reads' rd z1 (fun h => by rw [z2] at h; cases h) hg (by omega) (fun _ _ h => h) (fun h' u tk hk => ⟨.str _, H, I.kept hk, ⟨_, rfl⟩, q⟩) z4
/-! ### isinstance(x, T), T a built-in class -/
def tyN : PyData → String
  | .none => "NoneType"
  | .bool _ => "bool"
  | .int _ => "int"
  | .str _ => "str"
  | .list _ => "list"
  | .tuple _ => "tuple"
  | .dict _ => "dict"
def isD (T : String) (d : PyData) : M Val := fun st => match kitB (tyN d) T with
  | some b => bB b st
  | none => .err
theorem VB.ty {K : PySem.W.Frag} {F H : Hp} {v : V} {d : PyData} (l : Le F H) (h : VB K F H v d) : TyX K H v (.type (tyN d)) := by
  cases h with
  | non => exact .base .non
  | bl b => exact .base (.bl b)
  | int i => exact .base (.int i)
  | str x => exact .base (.str x)
  | lst h r => exact .base (.lst h)
  | tup h r =>
    rcases h with (h | ⟨o, h⟩) | ⟨o, its, n, h1, h2, _⟩
    · exact .base (.tup (l _ _ h))
    · exact .fTuple (l _ _ h)
    · exact .kTuple h1 h2
theorem d_isi (T : String) {x : Str} {q : Pos} (hm : X.mg "isinstance" = none) (hm2 : X.mg x = none) (hv2 : bootBuiltins x = some (.type T)) (ha : PE X a (TD ⟨X.K, cn⟩ E f)) (hg : Gl X "isinstance" := by rfl) (hg2 : Gl X x := by rfl) (hn : x ≠ "__name__" := by decide) (hdb : (x == ("__debug__" : Str)) = false := by decide)
    (he : starEach [a, .Name x q] X.env = (false, eval a X.env) :: starEach [.Name x q] X.env := by rfl) (he2 : starEach [.Name x q] X.env = (false, eval (.Name x q) X.env) :: starEach [] X.env := by rfl) (hpl : (backTo pos (starEach [.Name x q] X.env)).any (·.1) = false := by rfl) :
    PE X (.Call (.Name "isinstance" p) [a, .Name x q] [] pos) (TD ⟨X.K, cn⟩ E (e1 (on1 (isD T)) f)) :=
  PE.imp (pe_callB call_isi hg hm boot_isinstance (pa_cons ha (pa_cons (pe_bltn (v := .ty T) hg2 hm2 hv2 rfl hn hdb) pa_nil he2) he) (by decide) (by decide) he hpl) fun σ H Q ⟨F, m, ρ, st, R, ev, p⟩ => ⟨F, m, ρ, st, R, ev, PostG.mono (PostG.bnd (T := RVal X.K) p) fun v H1 ⟨F1, m1, st1, x', S1, R1, r1, p⟩ => by
    unfold on1 at p
    cases ex : vw x' st1 with
    | none => rw [ex] at p; exact p.elim
    | some d =>
      rw [ex] at p
      dsimp only [isD] at p
      cases k : kitB (tyN d) T with
      | none => rw [k] at p; exact p.elim
      | some b =>
        rw [k] at p
        exact ⟨v, .ty T, _, _, b, rfl, .ty T, (vw_ok R1 r1 ex).ty R1.le, kit_ty k, post_ok p R1 (Rp.bl b)⟩⟩
/-! ### True, False by identity -/
def isBD (d e : PyData) : M Val := match d, e with
  | .bool b, .bool b' => bB (decide (b = b'))
  | _, _ => fail
theorem o_isB : OpR X (compareOp .Is) (rD ⟨X.K, cn⟩ E (on2 isBD)) := on2_ok fun pins s σ H F m st x y d e v u Q I rx ry R h1 h2 p => by
  cases h1 <;> cases h2 <;> first
    | exact p.elim
    | exact op_isBl pins s σ H _ _ v u Q I rx ry ⟨_, _, rfl, rfl, post_ok p R (Rp.bl _)⟩
end
end PL

set_option Elab.async false
set_option linter.all false
set_option maxRecDepth 100000
namespace PL
open PySem PySem.Spec L2
open PyProof.Rows hiding St
/-! ### the store's things changed -/
theorem Rel.setAt {K : PySem.W.Frag} {F H : Hp} {m : List Addr} {st : Sto} {k : Nat} {a : Addr} {o : HO} {so : SO} (R : Rel K F H m st) (ha : m[k]? = some a) (hF : F a = none) (ok : SOk K F (upd H a o) a so) : Stp F H m F (upd H a o) m ∧ Rel K F (upd H a o) m (st.set k so) := by
  have hm : a ∈ m := List.mem_of_getElem? ha
  refine ⟨⟨Le.refl F, ⟨[], by simp⟩, fun b u h n => by rw [upd_ne (fun z => n (by rw [z]; exact hm))]; exact h, fun _ _ _ _ f => f, fun _ h n => absurd h n⟩, ⟨fun b u e => ?_, by simp [R.len], R.nd, fun j b o' e1 e2 => ?_⟩⟩
  · rw [upd_ne (ne_of_none e hF)]; exact R.le _ _ e
  · by_cases hj : k = j
    · subst hj
      rw [ha] at e1; cases e1
      have hl : k < st.length := by rw [← R.len]; exact (List.getElem?_eq_some_iff.mp ha).1
      rw [List.getElem?_set_self hl] at e2
      cases e2
      exact ok
    · rw [List.getElem?_set_ne hj] at e2
      have ne : b ≠ a := fun z => hj (nodup_get R.nd ha (z ▸ e1))
      have ob := R.ob j b o' e1 e2
      cases o' with
      | lst ds => obtain ⟨h0, vs, h1, h2⟩ := ob; exact ⟨h0, vs, by rw [upd_ne ne]; exact h1, h2⟩
      | dct ds => obtain ⟨h0, vs, h1, h2⟩ := ob; exact ⟨h0, vs, by rw [upd_ne ne]; exact h1, h2⟩
      | frz d => exact ob
/-- an object that is newer than some moment becomes the store's next thing -/
theorem Rel.take {K : PySem.W.Frag} {F0 H0 F H : Hp} {m0 m : List Addr} {st : Sto} {p : Addr} {o : HO} {so : SO} (S : Stp F0 H0 m0 F H m) (R : Rel K F H m st) (hp : H0 p = none) (hF : F p = none) (hm : p ∉ m) (ok : SOk K F (upd H p o) p so) :
    Stp F0 H0 m0 F (upd H p o) (m ++ [p]) ∧ Rel K F (upd H p o) (m ++ [p]) (st ++ [so]) := by
  have R1 := R.extra hF hm o
  obtain ⟨r, er⟩ := S.mm
  refine ⟨⟨S.fF, ⟨r ++ [p], by rw [er, List.append_assoc]⟩, fun a u h n => by rw [upd_ne (ne_of_none h hp)]; exact S.frm a u h n, S.nF, fun a h n => ?_⟩, ⟨R1.le, by simp [R.len], ?_, fun k a so' e1 e2 => ?_⟩⟩
  · rcases List.mem_append.mp h with h | h
    · exact S.nm a h n
    · rw [List.mem_singleton.mp h]; exact hp
  · rw [List.nodup_append]
    exact ⟨R.nd, by simp, fun a ha b hb => by rw [List.mem_singleton.mp hb]; exact fun z => hm (z ▸ ha)⟩
  · by_cases hk : k < m.length
    · rw [List.getElem?_append_left hk] at e1
      rw [List.getElem?_append_left (by rw [← R.len]; exact hk)] at e2
      exact R1.ob k a so' e1 e2
    · have hl : k = m.length := by
        have := (List.getElem?_eq_some_iff.mp e1).1
        simp at this; omega
      subst hl
      rw [List.getElem?_append_right (Nat.le_refl _)] at e1
      rw [R.len, List.getElem?_append_right (Nat.le_refl _)] at e2
      simp at e1 e2
      subst e1; subst e2
      exact ok
/-! ### dicts -/
def keyD : PyData → Option Key
  | .int i => some (.inl i)
  | .str x => some (.inr x)
  | _ => none
def valD (kvs : List (Key × PyData)) (k : Key) : Option PyData := (kvs.find? fun kv => decide (kv.1 = k)).map (·.2)
def putD (kvs : List (Key × PyData)) (k : Key) (d : PyData) : List (Key × PyData) := if (kvs.any fun kv => decide (kv.1 = k)) = true then kvs.map (fun kv => if kv.1 = k then (kv.1, d) else kv) else kvs ++ [(k, d)]
abbrev RKV (K : PySem.W.Frag) (F : Hp) : List (Key × V) → List (Key × PyData) → Prop := Paired (fun (p : Key × V) (q : Key × PyData) => p.1 = q.1 ∧ Rp K F p.2 q.2)
theorem RKV.val {K : PySem.W.Frag} {F : Hp} {k : Key} : ∀ {ws : List (Key × V)} {kvs : List (Key × PyData)}, RKV K F ws kvs → (valD kvs k = none ∧ valV ws k = none) ∨ ∃ d v, valD kvs k = some d ∧ valV ws k = some v ∧ Rp K F v d
  | _, _, .nil => .inl ⟨rfl, rfl⟩
  | _, _, @Paired.cons _ _ _ p q ws kvs h r => by
    by_cases e : p.1 = k
    · refine .inr ⟨q.2, p.2, ?_, valV_pos e, h.2⟩
      have e2 : q.1 = k := by rw [← h.1]; exact e
      simp [valD, e2]
    · have e2 : ¬ q.1 = k := by rw [← h.1]; exact e
      have h1 : valD (q :: kvs) k = valD kvs k := by simp [valD, List.find?_cons, e2]
      rw [h1, valV_neg e]
      exact RKV.val r
theorem RKV.any {K : PySem.W.Frag} {F : Hp} {k : Key} : ∀ {ws : List (Key × V)} {kvs : List (Key × PyData)}, RKV K F ws kvs → (ws.any fun kv => decide (kv.1 = k)) = kvs.any fun kv => decide (kv.1 = k)
  | _, _, .nil => rfl
  | _, _, .cons h r => by rw [List.any_cons, List.any_cons, h.1, RKV.any r]
theorem RKV.length {K : PySem.W.Frag} {F : Hp} : ∀ {ws : List (Key × V)} {kvs : List (Key × PyData)}, RKV K F ws kvs → ws.length = kvs.length
  | _, _, .nil => rfl
  | _, _, .cons h r => by simp [RKV.length r]
theorem RKV.map {K : PySem.W.Frag} {F : Hp} {k : Key} {v : V} {d : PyData} (rv : Rp K F v d) : ∀ {ws : List (Key × V)} {kvs : List (Key × PyData)}, RKV K F ws kvs → RKV K F (ws.map fun kv => if kv.1 = k then (kv.1, v) else kv) (kvs.map fun kv => if kv.1 = k then (kv.1, d) else kv)
  | _, _, .nil => .nil
  | _, _, @Paired.cons _ _ _ p q ws kvs h r => by
    refine .cons ?_ (RKV.map rv r)
    dsimp only
    by_cases e : p.1 = k
    · have e2 : q.1 = k := by rw [← h.1]; exact e
      rw [if_pos e, if_pos e2]
      exact ⟨h.1, rv⟩
    · have e2 : ¬ q.1 = k := by rw [← h.1]; exact e
      rw [if_neg e, if_neg e2]
      exact h
theorem RKV.snoc {K : PySem.W.Frag} {F : Hp} {k : Key} {v : V} {d : PyData} (rv : Rp K F v d) : ∀ {ws : List (Key × V)} {kvs : List (Key × PyData)}, RKV K F ws kvs → RKV K F (ws ++ [(k, v)]) (kvs ++ [(k, d)])
  | _, _, .nil => .cons ⟨rfl, rv⟩ .nil
  | _, _, .cons h r => .cons h (RKV.snoc rv r)
theorem RKV.put {K : PySem.W.Frag} {F : Hp} {k : Key} {v : V} {d : PyData} {ws : List (Key × V)} {kvs : List (Key × PyData)} (rv : Rp K F v d) (h : RKV K F ws kvs) : RKV K F (putK ws k v) (putD kvs k d) := by
  unfold putK putD
  rw [h.any]
  split
  · exact h.map rv
  · exact h.snoc rv
theorem keyD_ok {K : PySem.W.Frag} {F H : Hp} {v : V} {d : PyData} {k : Key} (h : VB K F H v d) (e : keyD d = some k) : v = kV k := by
  cases h <;> first | cases e | skip
  · rfl
  · rfl
def dctV (x : Val) (st : Sto) : Option (Nat × List (Key × PyData)) := match x with
  | .ref k => (match st[k]? with
    | some (.dct kvs) => some (k, kvs)
    | _ => none)
  | _ => none
theorem dctV_ok {K : PySem.W.Frag} {F H : Hp} {m : List Addr} {st : Sto} {x : Val} {v : V} {k : Nat} {kvs : List (Key × PyData)} (R : Rel K F H m st) (h : RVal K F m x v) (e : dctV x st = some (k, kvs)) : ∃ a ws, v = .ref a ∧ m[k]? = some a ∧ F a = none ∧ H a = some (.dK ws) ∧ RKV K F ws kvs := by
  cases x with
  | dat d => cases e
  | scr ns => cases e
  | ref j =>
    obtain ⟨a, ha, rfl⟩ := h
    simp only [dctV] at e
    cases q : st[j]? with
    | none => rw [q] at e; cases e
    | some o =>
      rw [q] at e
      have ob := R.ob j a o ha q
      cases o with
      | dct kvs' => cases e; obtain ⟨h0, ws, h1, h2⟩ := ob; exact ⟨a, ws, rfl, ha, h0, h1, h2⟩
      | _ => cases e
def dgetV (x y : Val) : M Val := fun st => match dctV x st, (vw y st).bind keyD with
  | some (_, kvs), some key => (match valD kvs key with
    | some d => .ok (.dat d) st
    | none => .err)
  | _, _ => .err
section
variable {X : Cx} {cn : Str → Option Addr} {E : XK} {pos p : Pos} {a b c3 : Expr} {es : List Expr} {f f' f3 : Ev → M Val} {fs : Ev → M (List Val)}
theorem d_dget (hu : X.A.units + 1 < cLine) (ha : PE X a (TD ⟨X.K, cn⟩ E f)) (hb : PE X b (TD ⟨X.K, cn⟩ E f')) (hs : NoSl b := by exact fun _ _ => rfl) : PE X (.Subscript a b pos) (TD ⟨X.K, cn⟩ E (e2 dgetV f f')) :=
  PE.imp (pe_dget hu ha hb hs) fun σ H Q ⟨F, m, ρ, st, R, ev, p⟩ => ⟨F, m, ρ, st, R, ev, PostG.mono (PostG.bnd (T := RVal X.K) p) fun v H1 ⟨F1, m1, st1, x, S1, R1, r1, p⟩ =>
    ⟨F1, m1, ρ, st1, R1, ev.later S1, PostG.mono (PostG.bnd (T := RVal X.K) p) fun w H2 ⟨F2, m2, st2, y, S2, R2, r2, p⟩ => by
      unfold dgetV at p
      cases q1 : dctV x st2 with
      | none => rw [q1] at p; exact p.elim
      | some kk =>
        obtain ⟨k, kvs⟩ := kk
        cases q2 : vw y st2 with
        | none => rw [q1, q2] at p; exact p.elim
        | some d =>
          cases q3 : keyD d with
          | none => rw [q1, q2] at p; simp only [Option.bind_some, q3] at p; exact p.elim
          | some key =>
            rw [q1, q2] at p
            simp only [Option.bind_some, q3] at p
            obtain ⟨aa, ws, rfl, _, _, h1, h2⟩ := dctV_ok R2 (r1.later S2) q1
            have ek := keyD_ok (vw_ok R2 r2 q2) q3
            subst ek
            rcases h2.val (k := key) with ⟨e1, e2⟩ | ⟨d', v', e1, e2, r⟩
            · rw [e1] at p; exact p.elim
            · rw [e1] at p
              exact ⟨aa, v', rfl, by rw [← e2]; exact DGet.k h1, post_ok p R2 r⟩⟩⟩
/-- d.get(k, x) -/
def dget2V (x y z : Val) : M Val := fun st => match dctV x st, (vw y st).bind keyD with
  | some (_, kvs), some key => (match valD kvs key with
    | some d => .ok (.dat d) st
    | none => .ok z st)
  | _, _ => .err
def chkD (x : Val) : M Unit := fun st => match dctV x st with
  | some _ => .ok () st
  | none => .err
def eDget2 (f1 f2 f3 : Ev → M Val) : Ev → M Val := fun ρ => bnd (f1 ρ) fun x => bnd (chkD x) fun _ => bnd (f2 ρ) fun y => bnd (f3 ρ) fun z => dget2V x y z
theorem chkD_ok {α β : Type} {c : Cf} {T : Hp → List Addr → α → β → Prop} {F H : Hp} {m : List Addr} {st : Sto} {x : Val} {v : V} {k : Unit → M α} {Q : β → Hp → Prop} (R : Rel c.K F H m st) (r : RVal c.K F m x v) (p : PostG c E T F H m (bnd (chkD x) k st) Q) :
    (∃ aa ws, v = .ref aa ∧ H aa = some (.dK ws)) ∧ PostG c E T F H m (k () st) Q := by
  unfold bnd chkD at p
  cases q : dctV x st with
  | none => rw [q] at p; exact p.elim
  | some kk =>
    rw [q] at p
    obtain ⟨j, kvs⟩ := kk
    obtain ⟨aa, ws, e, _, _, h1, _⟩ := dctV_ok R r q
    exact ⟨⟨aa, ws, e, h1⟩, p⟩
theorem d_dget2 {apos cpos : Pos} (hu : X.A.units + 1 < cLine) (ha : PE X a (TD ⟨X.K, cn⟩ E f)) (hb : PE X b (TD ⟨X.K, cn⟩ E f')) (hc : PE X c3 (TD ⟨X.K, cn⟩ E f3)) (m : M2 X a "get" apos b c3 cpos := by exact ⟨rfl, rfl, rfl, rfl⟩) :
    PE X (.Call (.Attribute a "get" apos) [b, c3] [] cpos) (TD ⟨X.K, cn⟩ E (eDget2 f f' f3)) :=
  PE.imp (pe_dget2 hu ha hb hc m) fun σ H Q ⟨F, m, ρ, st, R, ev, p⟩ => ⟨F, m, ρ, st, R, ev, PostG.mono (PostG.bnd (T := RVal X.K) p) fun v H1 ⟨F1, m1, st1, x, S1, R1, r1, p⟩ => by
    obtain ⟨⟨aa, ws, e, h1⟩, p⟩ := chkD_ok R1 r1 p
    refine ⟨aa, e, .inl ⟨ws, .inl h1⟩, F1, m1, ρ, st1, R1, ev.later S1, PostG.mono (PostG.bnd (T := RVal X.K) p) fun w H2 ⟨F2, m2, st2, y, S2, R2, r2, p⟩ => ?_⟩
    refine ⟨F2, m2, ρ, st2, R2, (ev.later S1).later S2, PostG.mono (PostG.bnd (T := RVal X.K) p) fun w' H3 ⟨F3, m3, st3, z, S3, R3, r3, p⟩ => ?_⟩
    unfold dget2V at p
    cases q1 : dctV x st3 with
    | none => rw [q1] at p; exact p.elim
    | some kk =>
      obtain ⟨k, kvs⟩ := kk
      cases q2 : vw y st3 with
      | none => rw [q1, q2] at p; exact p.elim
      | some d =>
        cases q3 : keyD d with
        | none => rw [q1, q2] at p; simp only [Option.bind_some, q3] at p; exact p.elim
        | some key =>
          rw [q1, q2] at p
          simp only [Option.bind_some, q3] at p
          obtain ⟨aa', ws', e', _, _, h1', h2⟩ := dctV_ok R3 ((r1.later S2).later S3) q1
          rw [e] at e'
          cases e'
          have ek := keyD_ok (vw_ok R3 (r2.later S3) q2) q3
          subst ek
          rcases h2.val (k := key) with ⟨e1, e2⟩ | ⟨d', v', e1, e2, r⟩
          · rw [e1] at p
            exact ⟨none, by rw [← e2]; exact DGet.k h1', post_ok p R3 r3⟩
          · rw [e1] at p
            exact ⟨some v', by rw [← e2]; exact DGet.k h1', post_ok p R3 r⟩⟩
/-- k in d, k not in d -/
def dinV (neg : Bool) (y x : Val) : M Val := fun st => match dctV x st, (vw y st).bind keyD with
  | some (_, kvs), some key => bB (xor neg (valD kvs key).isSome) st
  | _, _ => .err
theorem din_key {F H : Hp} {m : List Addr} {st : Sto} {neg : Bool} {x y : Val} {v w : V} {Q : VK} (R : Rel X.K F H m st) (r1 : RVal X.K F m y w) (r2 : RVal X.K F m x v) (p : Post ⟨X.K, cn⟩ E F H m (dinV neg y x st) Q) : ∃ aa o, v = .ref aa ∧ DGet H aa w o ∧ Q (.bl (xor neg o.isSome)) H := by
  unfold dinV at p
  cases q1 : dctV x st with
  | none => rw [q1] at p; exact p.elim
  | some kk =>
    obtain ⟨k, kvs⟩ := kk
    cases q2 : vw y st with
    | none => rw [q1, q2] at p; exact p.elim
    | some d =>
      cases q3 : keyD d with
      | none => rw [q1, q2] at p; simp only [Option.bind_some, q3] at p; exact p.elim
      | some key =>
        rw [q1, q2] at p
        simp only [Option.bind_some, q3] at p
        obtain ⟨aa, ws, rfl, _, _, h1, h2⟩ := dctV_ok R r2 q1
        have ek := keyD_ok (vw_ok R r1 q2) q3
        subst ek
        rcases h2.val (k := key) with ⟨e1, e2⟩ | ⟨d', v', e1, e2, r⟩
        · rw [e1] at p
          exact ⟨aa, _, rfl, DGet.k h1, by rw [e2]; exact post_ok p R (Rp.bl _)⟩
        · rw [e1] at p
          exact ⟨aa, _, rfl, DGet.k h1, by rw [e2]; exact post_ok p R (Rp.bl _)⟩
theorem d_din (hu : X.A.units + 1 < cLine) (ha : PE X a (TD ⟨X.K, cn⟩ E f)) (hb : PE X b (TD ⟨X.K, cn⟩ E f')) (h1 : behindInMarks .In b = false := by rfl) : PE X (.Compare a [.In] [b] pos) (TD ⟨X.K, cn⟩ E (e2 (dinV false) f f')) :=
  PE.imp (pe_cmp (pc_din hu ha hb) h1) fun σ H Q ⟨F, m, ρ, st, R, ev, p⟩ => ⟨F, m, ρ, st, R, ev, PostG.mono (PostG.bnd (T := RVal X.K) p) fun v H1 ⟨F1, m1, st1, x, S1, R1, r1, p⟩ =>
    ⟨F1, m1, ρ, st1, R1, ev.later S1, PostG.mono (PostG.bnd (T := RVal X.K) p) fun w H2 ⟨F2, m2, st2, y, S2, R2, r2, p⟩ => by
      obtain ⟨aa, o, e1, e2, q⟩ := din_key R2 (r1.later S2) r2 p
      exact ⟨aa, o, e1, e2, by simpa using q⟩⟩⟩
/-- a dict display -/
def ePairs : List ((Ev → M Val) × (Ev → M Val)) → Ev → M (List (Key × PyData))
  | [], _ => ret []
  | (k, v) :: r, ρ => bnd (k ρ) fun x => bnd (v ρ) fun y => bnd (frzV x) fun d => bnd (opt (keyD d)) fun key => bnd (frzV y) fun e => bnd (ePairs r ρ) fun l => ret ((key, e) :: l)
def mergeD (kvs : List (Key × PyData)) : List (Key × PyData) := kvs.foldl (fun acc kv => putD acc kv.1 kv.2) []
def newS (so : SO) : M Val := fun st => .ok (.ref st.length) (st ++ [so])
def eDisp (prs : List ((Ev → M Val) × (Ev → M Val))) : Ev → M Val := fun ρ => bnd (ePairs prs ρ) fun kvs => chk (decide (kvs.length ≤ 15)) (newS (.dct (mergeD kvs)))
def RPrs (K : PySem.W.Frag) : Hp → List Addr → List (Key × PyData) → List (V × V) → Prop := fun F _ kvs ps => ∃ ws : List (Key × V), ps = ws.map (fun kv => (kV kv.1, kv.2)) ∧ RKV K F ws kvs
theorem td_pairs {c : Cf} {σ : St} : ∀ {prs : List ((Ev → M Val) × (Ev → M Val))} {H F : Hp} {m : List Addr} {ρ : Ev} {st : Sto} {Q : List (V × V) → Hp → Prop}, Rel c.K F H m st → EnvR c.K F m ρ σ → PostG c E (RPrs c.K) F H m (ePairs prs ρ st) Q →
    tPairs (prs.map fun q => (TD c E q.1, TD c E q.2)) σ H Q
  | [], H, F, m, ρ, st, Q, R, ev, p => p F H m _ (Stp.refl _ _ _) R ⟨[], rfl, .nil⟩
  | (k, v) :: r, H, F, m, ρ, st, Q, R, ev, p => by
    unfold ePairs at p
    refine ⟨F, m, ρ, st, R, ev, PostG.mono (PostG.bnd (T := RVal c.K) p) fun w H1 ⟨F1, m1, st1, x, S1, R1, r1, p⟩ => ?_⟩
    refine ⟨F1, m1, ρ, st1, R1, ev.later S1, PostG.mono (PostG.bnd (T := RVal c.K) p) fun w' H2 ⟨F2, m2, st2, y, S2, R2, r2, p⟩ => ?_⟩
    obtain ⟨F3, st3, d, S3, R3, r3, p, _⟩ := frz_ok R2 (r1.later S2) p
    cases q : keyD d with
    | none => rw [q] at p; exact p.elim
    | some key =>
      rw [q] at p
      have p : PostG c E (RPrs c.K) F3 H2 m2 (bnd (frzV y) (fun e => bnd (ePairs r ρ) fun l => ret ((key, e) :: l)) st3) Q := p
      obtain ⟨F4, st4, e, S4, R4, r4, p, _⟩ := frz_ok R3 (r2.later S3) p
      have ek := keyD_ok (Rp.vb R3.le r3) q
      subst ek
      refine td_pairs R4 (((ev.later S1).later S2).later (S3.trans S4)) (PostG.mono (PostG.bnd (T := RPrs c.K) p) fun ps H5 ⟨F5, m5, st5, l, S5, R5, ⟨ws, e5, r5⟩, p⟩ => ?_)
      subst e5
      exact p F5 H5 m5 _ (Stp.refl _ _ _) R5 ⟨(key, w') :: ws, rfl, .cons ⟨rfl, r4.mono S5.fF⟩ r5⟩
theorem RKV.merge {K : PySem.W.Frag} {F : Hp} : ∀ {ws : List (Key × V)} {kvs : List (Key × PyData)} {w0 : List (Key × V)} {k0 : List (Key × PyData)}, RKV K F ws kvs → RKV K F w0 k0 → RKV K F (mergeK w0 ws) (kvs.foldl (fun acc kv => putD acc kv.1 kv.2) k0)
  | _, _, _, _, .nil, h => h
  | _, _, w0, k0, @Paired.cons _ _ _ p q ws kvs h r, h0 => by
    have e : p.1 = q.1 := h.1
    show RKV K F (mergeK (putK w0 p.1 p.2) ws) (kvs.foldl _ (putD k0 q.1 q.2))
    rw [e]
    exact RKV.merge r (h0.put h.2)
theorem d_disp {keys : List (Option Expr)} {values : List Expr} {prs : List ((Ev → M Val) × (Ev → M Val))} (h : PPs X pos keys values (prs.map fun q => (TD ⟨X.K, cn⟩ E q.1, TD ⟨X.K, cn⟩ E q.2))) (hall : keys.all (·.isSome) = true := by rfl) (hl : keys.length = values.length := by rfl) (h0 : keys ≠ [] := by exact fun z => by cases z) (h15 : keys.length ≤ 15 := by decide) :
    PE X (.Dict keys values pos) (TD ⟨X.K, cn⟩ E (eDisp prs)) :=
  PE.imp (pe_disp h hall hl h0 h15) fun σ H Q ⟨F, m, ρ, st, R, ev, p⟩ q hq => by
    have hF : F q = none := by
      cases z : F q with
      | none => rfl
      | some u => rw [R.le _ _ z] at hq; cases hq
    have hm : q ∉ m := fun z => by
      obtain ⟨o, e⟩ := R.there z
      rw [hq] at e; cases e
    have R0 : Rel X.K F (upd H q (.dK [])) m st := R.extra hF hm _
    have S0 : Stp F H m F (upd H q (.dK [])) m := (Stp.refl F H m).extra hq _
    cases qq : ePairs prs ρ st with
    | err => unfold eDisp bnd at p; rw [qq] at p; exact p.elim
    | exc n fs st1 =>
      unfold eDisp bnd at p; rw [qq] at p
      refine td_pairs R0 (ev.later S0) ?_
      rw [qq]
      exact fun F' H' m' cls d s => p F' H' m' cls d (S0.trans s)
    | ok kvs st2 =>
      unfold eDisp bnd at p; rw [qq] at p
      obtain ⟨z, p⟩ := post_chk p
      refine td_pairs R0 (ev.later S0) ?_
      rw [qq]
      intro F2 H2 m2 ps S2 R2 ⟨ws, e, r⟩
      have h2 : H2 q = some (.dK []) := S2.frm q _ upd_same hm
      have f2 : F2 q = none := S2.nF q _ upd_same hm hF
      have n2 : q ∉ m2 := fun z => by
        have := S2.nm q z hm
        rw [upd_same] at this; cases this
      refine ⟨h2, ws, e, by rw [RKV.length r]; exact of_decide_eq_true z, ?_⟩
      have rm : RKV X.K F2 (mergeK [] ws) (mergeD kvs) := RKV.merge r .nil
      obtain ⟨S3, R3⟩ := Rel.take (S0.trans S2) R2 hq f2 n2 (o := .dK (mergeK [] ws)) (so := .dct (mergeD kvs)) ⟨f2, _, upd_same, rm⟩
      exact p _ _ _ _ S3 R3 ⟨q, by rw [← R2.len, List.getElem?_append_right (Nat.le_refl _)]; simp, rfl⟩
end
end PL

set_option Elab.async false
set_option linter.all false
set_option maxRecDepth 100000
namespace PL
open PySem PySem.Spec L2
open PyProof.Rows hiding St
section
variable {X : Cx} {cn : Str → Option Addr} {E : XK} {pos p : Pos} {a b c3 : Expr} {es : List Expr} {f f' f3 : Ev → M Val} {fs : Ev → M (List Val)}
/-! ### lists that change -/
def dLstN (xs : List Val) : M Val := bnd (frzAll xs) fun ds => chk (decide (ds.length ≤ sizeLine)) (newS (.lst ds))
theorem d_lstN {es : List Expr} (h : PA X es (TDA ⟨X.K, cn⟩ E fs)) : PE X (.List es pos) (TD ⟨X.K, cn⟩ E (eA dLstN fs)) :=
  PE.imp (pe_lst h) fun σ H Q ⟨F, m, ρ, st, R, ev, p⟩ => ⟨F, m, ρ, st, R, ev, PostG.mono (PostG.bnd (T := RVals X.K) p) fun vs H1 ⟨F1, m1, st1, xs, S1, R1, r1, p⟩ => by
    obtain ⟨F2, st2, ds, S2, R2, r2, p⟩ := frzAll_ok R1 r1 p
    obtain ⟨z, p⟩ := post_chk p
    refine ⟨by rw [r2.length]; exact of_decide_eq_true z, fun q hq => ?_⟩
    have hF : F2 q = none := by
      cases z : F2 q with
      | none => rfl
      | some u => rw [R2.le _ _ z] at hq; cases hq
    obtain ⟨S3, R3⟩ := R2.push hq (o := .lst vs) (so := .lst ds) ⟨hF, vs, upd_same, r2⟩
    exact p _ _ _ _ S3 R3 ⟨q, by rw [← R2.len, List.getElem?_append_right (Nat.le_refl _)]; simp, rfl⟩⟩
theorem d_dnew : PE X (.Dict [] [] pos) (TD ⟨X.K, cn⟩ E (fun _ => newS (.dct []))) :=
  PE.imp pe_dnewK fun σ H Q ⟨F, m, ρ, st, R, ev, p⟩ q hq => by
    have hF : F q = none := by
      cases z : F q with
      | none => rfl
      | some u => rw [R.le _ _ z] at hq; cases hq
    obtain ⟨S3, R3⟩ := R.push hq (o := .dK []) (so := .dct []) ⟨hF, [], upd_same, .nil⟩
    exact p _ _ _ _ S3 R3 ⟨q, by rw [← R.len, List.getElem?_append_right (Nat.le_refl _)]; simp, rfl⟩
def lstV (x : Val) (st : Sto) : Option (Nat × List PyData) := match x with
  | .ref k => (match st[k]? with
    | some (.lst ds) => some (k, ds)
    | _ => none)
  | _ => none
theorem lstV_ok {K : PySem.W.Frag} {F H : Hp} {m : List Addr} {st : Sto} {x : Val} {v : V} {k : Nat} {ds : List PyData} (R : Rel K F H m st) (h : RVal K F m x v) (e : lstV x st = some (k, ds)) : ∃ a ws, v = .ref a ∧ m[k]? = some a ∧ F a = none ∧ H a = some (.lst ws) ∧ RpAll K F ws ds := by
  cases x with
  | dat d => cases e
  | scr ns => cases e
  | ref j =>
    obtain ⟨a, ha, rfl⟩ := h
    simp only [lstV] at e
    cases q : st[j]? with
    | none => rw [q] at e; cases e
    | some o =>
      rw [q] at e
      have ob := R.ob j a o ha q
      cases o with
      | lst ds' => cases e; obtain ⟨h0, ws, h1, h2⟩ := ob; exact ⟨a, ws, rfl, ha, h0, h1, h2⟩
      | _ => cases e
def chkL (x : Val) : M Unit := fun st => match lstV x st with
  | some _ => .ok () st
  | none => .err
theorem chkL_ok {α β : Type} {c : Cf} {T : Hp → List Addr → α → β → Prop} {F H : Hp} {m : List Addr} {st : Sto} {x : Val} {v : V} {k : Unit → M α} {Q : β → Hp → Prop} (R : Rel c.K F H m st) (r : RVal c.K F m x v) (p : PostG c E T F H m (bnd (chkL x) k st) Q) :
    (∃ aa ws, v = .ref aa ∧ H aa = some (.lst ws)) ∧ PostG c E T F H m (k () st) Q := by
  unfold bnd chkL at p
  cases q : lstV x st with
  | none => rw [q] at p; exact p.elim
  | some kk =>
    rw [q] at p
    obtain ⟨j, ds⟩ := kk
    obtain ⟨aa, ws, e, _, _, h1, _⟩ := lstV_ok R r q
    exact ⟨⟨aa, ws, e, h1⟩, p⟩
def appV (x : Val) (d : PyData) : M Val := fun st => match lstV x st with
  | some (k, ds) => if ds.length < sizeLine then .ok (.dat .none) (st.set k (.lst (ds ++ [d]))) else .err
  | none => .err
def eApp (f g : Ev → M Val) : Ev → M Val := fun ρ => bnd (f ρ) fun x => bnd (chkL x) fun _ => bnd (g ρ) fun y => bnd (frzV y) fun d => appV x d
theorem d_append {apos cpos : Pos} (ha : PE X a (TD ⟨X.K, cn⟩ E f)) (hb : PE X b (TD ⟨X.K, cn⟩ E f')) (hbase : attributeBase a "append" X.env (eval a X.env) = eval a X.env := by rfl)
    (hfew : ((backTo cpos (starEach [b] X.env)).all (fun x => !x.1) && (backToKw cpos (keywordEach [] X.env)).all (fun x => x.1.isSome) && decide (([b] : List Expr).length + ([] : List Keyword).length + (if ([] : List Keyword).isEmpty then 0 else 1) < 30)) = true := by rfl)
    (hline : (apos.endLine == cpos.line) = true := by rfl) (hs : starEach [b] X.env = (false, eval b X.env) :: starEach [] X.env := by rfl) (hplain : (backTo cpos (starEach [] X.env)).any (·.1) = false := by rfl) :
    PE X (.Call (.Attribute a "append" apos) [b] [] cpos) (TD ⟨X.K, cn⟩ E (eApp f f')) :=
  PE.imp (pe_bm PySem.F.plainAttrs_list PySem.F.slot_list_append PySem.F.type_list_append mt_append ha (pa_cons hb pa_nil hs) hbase hfew hline hs hplain) fun σ H Q ⟨F, m, ρ, st, R, ev, p⟩ => ⟨F, m, ρ, st, R, ev, PostG.mono (PostG.bnd (T := RVal X.K) p) fun v H1 ⟨F1, m1, st1, x, S1, R1, r1, p⟩ => by
    obtain ⟨⟨aa, ws, e, h1⟩, p⟩ := chkL_ok R1 r1 p
    subst e
    refine ⟨.inl ⟨rfl, ws, SqL.of h1⟩, F1, m1, ρ, st1, R1, ev.later S1, PostG.mono (PostG.bnd (T := RVal X.K) p) fun w H2 ⟨F2, m2, st2, y, S2, R2, r2, p⟩ => ?_⟩
    obtain ⟨F3, st3, d, S3, R3, r3, p, _⟩ := frz_ok R2 r2 p
    unfold appV at p
    cases q : lstV x st3 with
    | none => rw [q] at p; exact p.elim
    | some kk =>
      obtain ⟨k, ds⟩ := kk
      rw [q] at p
      dsimp only at p
      obtain ⟨aa', ws', e', hk, hF, h1', h2⟩ := lstV_ok R3 (r1.later (S2.trans S3)) q
      cases e'
      by_cases hl : ds.length < sizeLine
      · rw [if_pos hl] at p
        obtain ⟨S4, R4⟩ := R3.setAt hk hF (o := .lst (ws' ++ [w])) (so := .lst (ds ++ [d])) ⟨hF, _, upd_same, h2.append (.cons r3 .nil)⟩
        exact ⟨aa, ws', w, rfl, rfl, h1', by rw [h2.length]; exact hl, p _ _ _ _ S4 R4 Rp.non⟩
      · rw [if_neg hl] at p; exact p.elim⟩
def extV (x : Val) (d : PyData) : M Val := fun st => match lstV x st, d with
  | some (k, ds), .list es => if ds.length + es.length ≤ sizeLine then .ok (.dat .none) (st.set k (.lst (ds ++ es))) else .err
  | _, _ => .err
def eExt (f g : Ev → M Val) : Ev → M Val := fun ρ => bnd (f ρ) fun x => bnd (chkL x) fun _ => bnd (g ρ) fun y => bnd (frzV y) fun d => extV x d
theorem d_extend {apos cpos : Pos} (ha : PE X a (TD ⟨X.K, cn⟩ E f)) (hb : PE X b (TD ⟨X.K, cn⟩ E f')) (hbase : attributeBase a "extend" X.env (eval a X.env) = eval a X.env := by rfl)
    (hfew : ((backTo cpos (starEach [b] X.env)).all (fun x => !x.1) && (backToKw cpos (keywordEach [] X.env)).all (fun x => x.1.isSome) && decide (([b] : List Expr).length + ([] : List Keyword).length + (if ([] : List Keyword).isEmpty then 0 else 1) < 30)) = true := by rfl)
    (hline : (apos.endLine == cpos.line) = true := by rfl) (hs : starEach [b] X.env = (false, eval b X.env) :: starEach [] X.env := by rfl) (hplain : (backTo cpos (starEach [] X.env)).any (·.1) = false := by rfl) :
    PE X (.Call (.Attribute a "extend" apos) [b] [] cpos) (TD ⟨X.K, cn⟩ E (eExt f f')) :=
  PE.imp (pe_bm PySem.F.plainAttrs_list PySem.F.slot_list_extend PySem.F.type_list_extend mt_extend ha (pa_cons hb pa_nil hs) hbase hfew hline hs hplain) fun σ H Q ⟨F, m, ρ, st, R, ev, p⟩ => ⟨F, m, ρ, st, R, ev, PostG.mono (PostG.bnd (T := RVal X.K) p) fun v H1 ⟨F1, m1, st1, x, S1, R1, r1, p⟩ => by
    obtain ⟨⟨aa, ws, e, h1⟩, p⟩ := chkL_ok R1 r1 p
    subst e
    refine ⟨.inl ⟨rfl, ws, SqL.of h1⟩, F1, m1, ρ, st1, R1, ev.later S1, PostG.mono (PostG.bnd (T := RVal X.K) p) fun w H2 ⟨F2, m2, st2, y, S2, R2, r2, p⟩ => ?_⟩
    obtain ⟨F3, st3, d, S3, R3, r3, p, _⟩ := frz_ok R2 r2 p
    unfold extV at p
    cases q : lstV x st3 with
    | none => rw [q] at p; exact p.elim
    | some kk =>
      obtain ⟨k, ds⟩ := kk
      rw [q] at p
      obtain ⟨aa', ws', e', hk, hF, h1', h2⟩ := lstV_ok R3 (r1.later (S2.trans S3)) q
      cases e'
      cases r3 with
      | @lst b' zs es' g1 g2 =>
        dsimp only at p
        by_cases hl : ds.length + es'.length ≤ sizeLine
        · rw [if_pos hl] at p
          obtain ⟨S4, R4⟩ := R3.setAt hk hF (o := .lst (ws' ++ zs)) (so := .lst (ds ++ es')) ⟨hF, _, upd_same, h2.append g2⟩
          exact ⟨aa, b', ws', zs, rfl, rfl, h1', R3.le _ _ g1, by rw [h2.length, g2.length]; exact hl, p _ _ _ _ S4 R4 Rp.non⟩
        · rw [if_neg hl] at p; exact p.elim
      | _ => exact p.elim⟩
end
/-! ### statements -/
inductive SRes where
  | nx (ρ : Ev) (st : Sto) | rt (v : Val) (st : Sto) | bk (ρ : Ev) (st : Sto) | ct (ρ : Ev) (st : Sto) | exc (c : Str) (fs : List (Str × PyData)) (st : Sto) | err
abbrev SM := Ev → Sto → SRes
def PostS (c : Cf) (E : XK) (F H : Hp) (m : List Addr) (r : SRes) (D : Ends) : Prop := match r with
  | .nx ρ st' => ∀ F' H' m' σ', Stp F H m F' H' m' → Rel c.K F' H' m' st' → EnvR c.K F' m' ρ σ' → D.nx σ' H'
  | .rt x st' => ∀ F' H' m' v, Stp F H m F' H' m' → Rel c.K F' H' m' st' → RVal c.K F' m' x v → D.rt v H'
  | .bk ρ st' => ∀ F' H' m' σ', Stp F H m F' H' m' → Rel c.K F' H' m' st' → EnvR c.K F' m' ρ σ' → D.bk σ' H'
  | .ct ρ st' => ∀ F' H' m' σ', Stp F H m F' H' m' → Rel c.K F' H' m' st' → EnvR c.K F' m' ρ σ' → D.ct σ' H'
  | .exc n fs st' => ∀ F' H' m' cls d, Stp F H m F' H' m' → Rel c.K F' H' m' st' → ExcIs c.K c.cn F' H' n fs cls d → E cls d H'
  | .err => False
theorem PostS.later {c : Cf} {E : XK} {F H F1 H1 : Hp} {m m1 : List Addr} {r : SRes} {D : Ends} (a : Stp F H m F1 H1 m1) (h : PostS c E F H m r D) : PostS c E F1 H1 m1 r D := by
  cases r with
  | nx x st => exact fun F' H' m' v s => h F' H' m' v (a.trans s)
  | rt x st => exact fun F' H' m' v s => h F' H' m' v (a.trans s)
  | bk x st => exact fun F' H' m' v s => h F' H' m' v (a.trans s)
  | ct x st => exact fun F' H' m' v s => h F' H' m' v (a.trans s)
  | exc n fs st => exact fun F' H' m' cls d s => h F' H' m' cls d (a.trans s)
  | err => exact h
def TSD (c : Cf) (E : XK) (f : SM) : TS := fun D σ H => ∃ F m ρ st, Rel c.K F H m st ∧ EnvR c.K F m ρ σ ∧ PostS c E F H m (f ρ st) D
theorem PS.imp {X : Cx} {st : Stmt} {t t' : TS} (h : PS X st t) (i : ∀ D σ H, t' D σ H → t D σ H) : PS X st t' := ⟨fun pins s σ H D I q => h.run pins s σ H D I (i _ _ _ q)⟩
theorem PSs.imp {X : Cx} {st : List Stmt} {t t' : TS} (h : PSs X st t) (i : ∀ D σ H, t' D σ H → t D σ H) : PSs X st t' := ⟨fun pins s σ H D I q => h.run pins s σ H D I (i _ _ _ q)⟩
/-- an expression, then a statement's end by its value -/
def sB {α : Type} (x : M α) (k : α → Sto → SRes) (st : Sto) : SRes := match x st with
  | .ok a st' => k a st'
  | .exc c fs st' => .exc c fs st'
  | .err => .err
theorem PostS.sB {α β : Type} {c : Cf} {E : XK} {T : Hp → List Addr → α → β → Prop} {F H : Hp} {m : List Addr} {st : Sto} {x : M α} {k : α → Sto → SRes} {D : Ends} (p : PostS c E F H m (PL.sB x k st) D) :
    PostG c E T F H m (x st) fun v H1 => ∃ F1 m1 st1 y, Stp F H m F1 H1 m1 ∧ Rel c.K F1 H1 m1 st1 ∧ T F1 m1 y v ∧ PostS c E F1 H1 m1 (k y st1) D := by
  unfold PL.sB at p
  cases q : x st with
  | ok y st1 =>
    rw [q] at p
    exact fun F' H' m' v s r' rv => ⟨F', m', st1, y, s, r', rv, PostS.later s p⟩
  | exc n fs st1 => rw [q] at p; exact p
  | err => rw [q] at p; exact p
def sNil : SM := fun ρ st => .nx ρ st
def sSeq2 (s t : SM) : SM := fun ρ st => match s ρ st with
  | .nx ρ' st' => t ρ' st'
  | r => r
def sRet (f : Ev → M Val) : SM := fun ρ => sB (f ρ) fun x st => .rt x st
def sRetN : SM := fun _ st => .rt (.dat .none) st
def sExpr (f : Ev → M Val) : SM := fun ρ => sB (f ρ) fun _ st => .nx ρ st
def sSet (i : Nat) (f : Ev → M Val) : SM := fun ρ => sB (f ρ) fun x st => .nx (ρ.set i (some x)) st
def sIf (t : Ev → M Bool) (a b : SM) : SM := fun ρ => sB (t ρ) fun k st => if k then a ρ st else b ρ st
section
variable {X : Cx} {cn : Str → Option Addr} {E : XK} {pos p : Pos} {a b c3 : Expr} {es : List Expr} {f f' f3 : Ev → M Val} {fs : Ev → M (List Val)} {s s' : SM} {stm : Stmt} {rest : List Stmt}
theorem ss_nil : PSs X [] (TSD ⟨X.K, cn⟩ E sNil) := PSs.imp pss_nil fun D σ H ⟨F, m, ρ, st, R, ev, p⟩ => p F H m σ (Stp.refl _ _ _) R ev
theorem ss_cons (h1 : PS X stm (TSD ⟨X.K, cn⟩ E s)) (h2 : PSs X rest (TSD ⟨X.K, cn⟩ E s')) : PSs X (stm :: rest) (TSD ⟨X.K, cn⟩ E (sSeq2 s s')) :=
  PSs.imp (pss_cons h1 h2) fun D σ H ⟨F, m, ρ, st, R, ev, p⟩ => ⟨F, m, ρ, st, R, ev, by
    unfold sSeq2 at p
    cases q : s ρ st with
    | nx ρ' st' =>
      rw [q] at p
      exact fun F' H' m' σ' S' R' ev' => ⟨F', m', ρ', st', R', ev', PostS.later S' p⟩
    | rt x st' => rw [q] at p; exact p
    | bk x st' => rw [q] at p; exact p
    | ct x st' => rw [q] at p; exact p
    | exc n fs st' => rw [q] at p; exact p
    | err => rw [q] at p; exact p⟩
theorem ss_one (h1 : PS X stm (TSD ⟨X.K, cn⟩ E s)) : PSs X [stm] (TSD ⟨X.K, cn⟩ E s) := pss_one h1
theorem s_ret (h : PE X a (TD ⟨X.K, cn⟩ E f)) : PS X (.Return (some a) pos) (TSD ⟨X.K, cn⟩ E (sRet f)) :=
  PS.imp (ps_ret h) fun D σ H ⟨F, m, ρ, st, R, ev, p⟩ => ⟨F, m, ρ, st, R, ev, PostG.mono (PostS.sB (T := RVal X.K) p) fun v H1 ⟨F1, m1, st1, x, S1, R1, r1, p⟩ => p F1 H1 m1 v (Stp.refl _ _ _) R1 r1⟩
theorem s_retN : PS X (.Return none pos) (TSD ⟨X.K, cn⟩ E sRetN) := PS.imp ps_retN fun D σ H ⟨F, m, ρ, st, R, ev, p⟩ => p F H m .non (Stp.refl _ _ _) R Rp.non
theorem s_pass : PS X (.Pass pos) (TSD ⟨X.K, cn⟩ E sNil) := PS.imp ps_pass fun D σ H ⟨F, m, ρ, st, R, ev, p⟩ => p F H m σ (Stp.refl _ _ _) R ev
theorem s_expr (h : PE X a (TD ⟨X.K, cn⟩ E f)) (hs : swapsWith a none pos.line X.env = pure false := by rfl) : PS X (.Expr a pos) (TSD ⟨X.K, cn⟩ E (sExpr f)) :=
  PS.imp (ps_expr h hs) fun D σ H ⟨F, m, ρ, st, R, ev, p⟩ => ⟨F, m, ρ, st, R, ev, PostG.mono (PostS.sB (T := RVal X.K) p) fun v H1 ⟨F1, m1, st1, x, S1, R1, r1, p⟩ => p F1 H1 m1 σ (Stp.refl _ _ _) R1 (ev.later S1)⟩
theorem s_set (i : Nat) {x : Str} {pos' : Pos} (hN : X.N.Nodup) (h : PE X a (TD ⟨X.K, cn⟩ E f)) (hi : X.N[i]? = some x := by rfl) (hx : Loc X.env.scope x := by first | exact Or.inl rfl | exact Or.inr rfl) (hs : swapsWith a (some (.Name x pos')) pos.line X.env = pure false := by rfl)
    (hf : X.fn x = true ∨ X.env.scope.names.lookup x = some .local := by first | exact .inl rfl | exact .inr rfl) : PS X (.Assign [.Name x pos'] a pos) (TSD ⟨X.K, cn⟩ E (sSet i f)) :=
  PS.imp (ps_set hN hi hx h hs hf) fun D σ H ⟨F, m, ρ, st, R, ev, p⟩ => ⟨F, m, ρ, st, R, ev, PostG.mono (PostS.sB (T := RVal X.K) p) fun v H1 ⟨F1, m1, st1, x, S1, R1, r1, p⟩ => p F1 H1 m1 _ (Stp.refl _ _ _) R1 ((ev.later S1).set r1)⟩
theorem s_if {t : Ev → M Bool} {ss ss' : List Stmt} (hc : PT X a (TDB ⟨X.K, cn⟩ E t)) (h1 : PSs X ss (TSD ⟨X.K, cn⟩ E s)) (h2 : PSs X ss' (TSD ⟨X.K, cn⟩ E s')) : PS X (.If a ss ss' pos) (TSD ⟨X.K, cn⟩ E (sIf t s s')) :=
  PS.imp (ps_if hc h1 h2) fun D σ H ⟨F, m, ρ, st, R, ev, p⟩ => ⟨F, m, ρ, st, R, ev, PostG.mono (PostS.sB (T := RB) p) fun v H1 ⟨F1, m1, st1, x, S1, R1, r1, p⟩ => by
    have r1 : x = v := r1
    subst r1
    cases x with
    | true => exact iteT ⟨F1, m1, ρ, st1, R1, ev.later S1, p⟩
    | false => exact iteF ⟨F1, m1, ρ, st1, R1, ev.later S1, p⟩⟩
/-! ### stores into dicts, several targets -/
def dputV (x y : Val) (d : PyData) (ρ : Ev) : Sto → SRes := fun st => match dctV x st, (vw y st).bind keyD with
  | some (k, kvs), some key => if kvs.length < sizeLine then .nx ρ (st.set k (.dct (putD kvs key d))) else .err
  | _, _ => .err
def sDput (fo fi fv : Ev → M Val) : SM := fun ρ => sB (fv ρ) fun z => sB (frzV z) fun d => sB (fo ρ) fun x => sB (fi ρ) fun y => dputV x y d ρ
theorem frzS_ok {c : Cf} {F H : Hp} {m : List Addr} {st : Sto} {x : Val} {v : V} {k : PyData → Sto → SRes} {D : Ends} (R : Rel c.K F H m st) (r : RVal c.K F m x v) (p : PostS c E F H m (PL.sB (frzV x) k st) D) :
    ∃ F1 st1 d, Stp F H m F1 H m ∧ Rel c.K F1 H m st1 ∧ Rp c.K F1 v d ∧ PostS c E F1 H m (k d st1) D := by
  cases q : frzV x st with
  | err => unfold PL.sB at p; rw [q] at p; exact p.elim
  | exc n fs st2 =>
    exfalso
    unfold frzV at q
    split at q <;> first | cases q | (split at q <;> cases q)
  | ok d st1 =>
    obtain ⟨F4, st7, d4, S4, R4, r4, _, hf'⟩ := frz_ok (E := E0) (T := fun _ _ (_ : Unit) (_ : Unit) => True) (k := fun _ => ret ()) (Q := fun _ _ => True) R r (by unfold PL.bnd; rw [q]; exact fun _ _ _ _ _ _ _ => trivial)
    rw [q] at hf'
    cases hf'
    unfold PL.sB at p
    rw [q] at p
    exact ⟨F4, st1, d, S4, R4, r4, PostS.later S4 p⟩
theorem s_dput {pos' : Pos} (hu : X.A.units + 1 < cLine) (ho : PE X a (TD ⟨X.K, cn⟩ E f)) (hi : PE X b (TD ⟨X.K, cn⟩ E f')) (hv : PE X c3 (TD ⟨X.K, cn⟩ E f3)) (hs : swapsWith c3 (some (.Subscript a b pos')) pos.line X.env = pure false := by rfl) :
    PS X (.Assign [.Subscript a b pos'] c3 pos) (TSD ⟨X.K, cn⟩ E (sDput f f' f3)) :=
  PS.imp (ps_dput hu ho hi hv hs) fun D σ H ⟨F, m, ρ, st, R, ev, p⟩ => ⟨F, m, ρ, st, R, ev, PostG.mono (PostS.sB (T := RVal X.K) p) fun v H1 ⟨F1, m1, st1, z, S1, R1, r1, p⟩ => by
    obtain ⟨F1', st1', d, S1', R1', r1', p⟩ := frzS_ok R1 r1 p
    refine ⟨F1', m1, ρ, st1', R1', (ev.later S1).later S1', PostG.mono (PostS.sB (T := RVal X.K) p) fun w H2 ⟨F2, m2, st2, x, S2, R2, r2, p⟩ => ?_⟩
    refine ⟨F2, m2, ρ, st2, R2, ((ev.later S1).later S1').later S2, PostG.mono (PostS.sB (T := RVal X.K) p) fun y' H3 ⟨F3, m3, st3, y, S3, R3, r3, p⟩ => ?_⟩
    unfold dputV at p
    cases q1 : dctV x st3 with
    | none => rw [q1] at p; exact p.elim
    | some kk =>
      obtain ⟨k, kvs⟩ := kk
      cases q2 : vw y st3 with
      | none => rw [q1, q2] at p; exact p.elim
      | some dk =>
        cases q3 : keyD dk with
        | none => rw [q1, q2] at p; simp only [Option.bind_some, q3] at p; exact p.elim
        | some key =>
          rw [q1, q2] at p
          simp only [Option.bind_some, q3] at p
          obtain ⟨aa, ws, rfl, hk, hF, h1, h2⟩ := dctV_ok R3 (r2.later S3) q1
          have ek := keyD_ok (vw_ok R3 r3 q2) q3
          subst ek
          by_cases hl : kvs.length < sizeLine
          · rw [if_pos hl] at p
            have rd := (r1'.mono S2.fF).mono S3.fF
            obtain ⟨S4, R4⟩ := R3.setAt hk hF (o := .dK (putK ws key v)) (so := .dct (putD kvs key d)) ⟨hF, _, upd_same, h2.put rd⟩
            exact ⟨aa, _, rfl, DPut.k h1 (by rw [h2.length]; exact hl), p _ _ _ _ S4 R4 ((((ev.later S1).later S1').later S2).later (S3.trans S4))⟩
          · rw [if_neg hl] at p; exact p.elim⟩
/-- t1, t2, .. = e, e a tuple that is data -/
def sUnp (t : Tg) (f : Ev → M Val) : SM := fun ρ => sB (f ρ) fun x => sB (frzV x) fun d st => match t d ρ with
  | some ρ' => .nx ρ' st
  | none => .err
theorem s_unp {ps : List Nat} {t : Tg} {tg : Expr} (h : PE X a (TD ⟨X.K, cn⟩ E f)) (hg : PG X tg (TGD X.K ps t)) (hs : swapsWithSole [tg] a pos.line X.env = pure false := by rfl) (hw : swappedStores [tg] a X.env = pure none := by rfl)
    (h1 : (assignEach [tg] X.env).map (·.2) = [assign tg X.env] := by rfl) : PS X (.Assign [tg] a pos) (TSD ⟨X.K, cn⟩ E (sUnp t f)) :=
  PS.imp (ps_asg h hg hs hw h1) fun D σ H ⟨F, m, ρ, st, R, ev, p⟩ => ⟨F, m, ρ, st, R, ev, PostG.mono (PostS.sB (T := RVal X.K) p) fun v H1 ⟨F1, m1, st1, x, S1, R1, r1, p⟩ => by
    obtain ⟨F2, st2, d, S2, R2, r2, p⟩ := frzS_ok R1 r1 p
    cases q : t d ρ with
    | none => rw [q] at p; exact p.elim
    | some ρ' =>
      rw [q] at p
      exact ⟨F2, m1, ρ, st2, d, ρ', R2, (ev.later S1).later S2, r2, q, fun σ' ev' _ => p F2 H1 m1 σ' (Stp.refl _ _ _) R2 ev'⟩⟩
/-- a, b = x, y with local names -/
def sPar2 (i j : Nat) (fs : Ev → M (List Val)) : SM := fun ρ => sB (fs ρ) fun xs st => match xs with
  | [x, y] => .nx ((ρ.set i (some x)).set j (some y)) st
  | _ => .err
def sPar3 (i j l : Nat) (fs : Ev → M (List Val)) : SM := fun ρ => sB (fs ρ) fun xs st => match xs with
  | [x, y, z] => .nx (((ρ.set i (some x)).set j (some y)).set l (some z)) st
  | _ => .err
theorem s_par2 (i j : Nat) {x y : Str} {px py pt : Pos} {kt k2 pt2} (hc : X.calm = true) (hN : X.N.Nodup) (h : PA X [a, b] (TDA ⟨X.K, cn⟩ E fs)) (hw : swappedStores [.Tuple [.Name x px, .Name y py] kt pt] (.Tuple [a, b] k2 pt2) X.env = pure (some [x, y]) := by rfl) (hi : X.N[i]? = some x := by rfl) (hj : X.N[j]? = some y := by rfl) (hij : i ≠ j := by decide)
    (hx : X.env.scope.names.lookup x = some .local := by rfl) (hy : X.env.scope.names.lookup y = some .local := by rfl)
    (hs : swapsWithSole [.Tuple [.Name x px, .Name y py] kt pt] (.Tuple [a, b] k2 pt2) pos.line X.env = pure false := by rfl) : PS X (.Assign [.Tuple [.Name x px, .Name y py] kt pt] (.Tuple [a, b] k2 pt2) pos) (TSD ⟨X.K, cn⟩ E (sPar2 i j fs)) :=
  PS.imp (ps_par hc hN hi hj hij hx hy h hw hs) fun D σ H ⟨F, m, ρ, st, R, ev, p⟩ => ⟨F, m, ρ, st, R, ev, PostG.mono (PostS.sB (T := RVals X.K) p) fun vs H1 ⟨F1, m1, st1, xs, S1, R1, r1, p⟩ => by
    cases r1 with
    | nil => exact p.elim
    | cons r1 r2 =>
      cases r2 with
      | nil => exact p.elim
      | cons r2 r3 =>
        cases r3 with
        | cons _ _ => exact p.elim
        | nil => exact ⟨_, _, rfl, p F1 H1 m1 _ (Stp.refl _ _ _) R1 (((ev.later S1).set r1).set r2)⟩⟩
theorem s_par3 (i j l : Nat) {x y z : Str} {px py pz pt : Pos} {kt k2 pt2} (hc : X.calm = true) (hN : X.N.Nodup) (h : PA X [a, b, c3] (TDA ⟨X.K, cn⟩ E fs)) (hw : swappedStores [.Tuple [.Name x px, .Name y py, .Name z pz] kt pt] (.Tuple [a, b, c3] k2 pt2) X.env = pure (some [x, y, z]) := by rfl) (hi : X.N[i]? = some x := by rfl) (hj : X.N[j]? = some y := by rfl) (hl : X.N[l]? = some z := by rfl) (hij : i ≠ j := by decide) (hil : i ≠ l := by decide) (hjl : j ≠ l := by decide)
    (hx : X.env.scope.names.lookup x = some .local := by rfl) (hy : X.env.scope.names.lookup y = some .local := by rfl) (hz : X.env.scope.names.lookup z = some .local := by rfl)
    (hs : swapsWithSole [.Tuple [.Name x px, .Name y py, .Name z pz] kt pt] (.Tuple [a, b, c3] k2 pt2) pos.line X.env = pure false := by rfl) : PS X (.Assign [.Tuple [.Name x px, .Name y py, .Name z pz] kt pt] (.Tuple [a, b, c3] k2 pt2) pos) (TSD ⟨X.K, cn⟩ E (sPar3 i j l fs)) :=
  PS.imp (ps_par3 hc hN hi hj hl hij hil hjl hx hy hz h hw hs) fun D σ H ⟨F, m, ρ, st, R, ev, p⟩ => ⟨F, m, ρ, st, R, ev, PostG.mono (PostS.sB (T := RVals X.K) p) fun vs H1 ⟨F1, m1, st1, xs, S1, R1, r1, p⟩ => by
    cases r1 with
    | nil => exact p.elim
    | cons r1 r2 =>
      cases r2 with
      | nil => exact p.elim
      | cons r2 r3 =>
        cases r3 with
        | nil => exact p.elim
        | cons r3 r4 =>
          cases r4 with
          | cons _ _ => exact p.elim
          | nil => exact ⟨_, _, _, rfl, p F1 H1 m1 _ (Stp.refl _ _ _) R1 ((((ev.later S1).set r1).set r2).set r3)⟩⟩
/-! ### for -/
def forGo (t : Tg) (body : SM) : List PyData → SM
  | [], ρ, st => .nx ρ st
  | d :: r, ρ, st => match t d ρ with
    | none => .err
    | some ρ1 => (match body ρ1 st with
      | .nx ρ2 st2 => forGo t body r ρ2 st2
      | .ct ρ2 st2 => forGo t body r ρ2 st2
      | .bk ρ2 st2 => .nx ρ2 st2
      | .rt v st2 => .rt v st2
      | .exc c fs st2 => .exc c fs st2
      | .err => .err)
def sFor (src : Ev → M (List PyData)) (t : Tg) (body : SM) : SM := fun ρ => sB (src ρ) fun its st => forGo t body its ρ st
theorem s_for {src : Ev → M (List PyData)} {ps : List Nat} {t : Tg} {tg iter : Expr} {body : List Stmt} {s : SM} (hp : PassesOwn (model X.prog X.w) X.A X.env X.xe) (hc : X.calm = true) (hi : PI X tg iter (TID ⟨X.K, cn⟩ E src)) (hg : PG X tg (TGD X.K ps t)) (hb : PSs X body (TSD ⟨X.K, cn⟩ E s))
    (hs : ∀ x, foldedSetIterable iter X.env x = pure x := by intro _; rfl) : PS X (.For tg iter body [] pos) (TSD ⟨X.K, cn⟩ E (sFor src t s)) :=
  PS.imp (ps_for hp hc hi hg hb hs) fun D σ H ⟨F, m, ρ, st, R, ev, p⟩ => ⟨F, m, ρ, st, R, ev, PostG.mono (PostS.sB (T := RIt X.K) p) fun J H1 ⟨F1, m1, st1, its, S1, R1, ok, p⟩ => by
    have ok : ItOk X.K J F1 its := ok
    refine ⟨fun i k σ H => k = its.length - i ∧ i ≤ its.length ∧ ∃ F m ρ st, Stp F1 H1 m1 F H m ∧ Rel X.K F H m st ∧ EnvR X.K F m ρ σ ∧ PostS ⟨X.K, cn⟩ E F H m (forGo t s (its.drop i) ρ st) D, ⟨its.length, by simp, Nat.zero_le _, F1, m1, ρ, st1, Stp.refl _ _ _, R1, ev.later S1, p⟩, ?_⟩
    rintro i k σ H ⟨rfl, hi, F, m, ρ, st, S, R, ev, p⟩
    by_cases hlt : i < its.length
    · refine .inr ⟨ok.go i F H m st S.fF R hlt, fun σ H => ∃ F m ρ st, Stp F1 H1 m1 F H m ∧ Rel X.K F H m st ∧ EnvR X.K F m ρ σ ∧ PostS ⟨X.K, cn⟩ E F H m (forGo t s (its.drop (i + 1)) ρ st) D, fun σ' H' w => ⟨its.length - (i + 1), by omega, rfl, hlt, w⟩, fun x H' y => ?_⟩
      obtain ⟨F', d, S', R', ed, rd⟩ := ok.yld i F H m st x H' S.fF R hlt y
      have hdrop : its.drop i = d :: its.drop (i + 1) := by
        rw [List.drop_eq_getElem_cons hlt]
        obtain ⟨h1, h2⟩ := List.getElem?_eq_some_iff.mp ed
        rw [h2]
      rw [hdrop] at p
      unfold forGo at p
      cases qt : t d ρ with
      | none => rw [qt] at p; exact p.elim
      | some ρ1 =>
        rw [qt] at p
        dsimp only at p
        refine ⟨F', m, ρ, st, d, ρ1, R', ev.later S', rd, qt, fun σ2 ev2 _ => ⟨F', m, ρ1, st, R', ev2, ?_⟩⟩
        have p := PostS.later S' p
        cases qb : s ρ1 st with
        | nx ρ2 st2 => rw [qb] at p; exact fun F2 H2 m2 σ3 S2 R2 ev3 => ⟨F2, m2, ρ2, st2, (S.trans S').trans S2, R2, ev3, PostS.later S2 p⟩
        | ct ρ2 st2 => rw [qb] at p; exact fun F2 H2 m2 σ3 S2 R2 ev3 => ⟨F2, m2, ρ2, st2, (S.trans S').trans S2, R2, ev3, PostS.later S2 p⟩
        | bk ρ2 st2 => rw [qb] at p; exact p
        | rt v st2 => rw [qb] at p; exact p
        | exc n fs st2 => rw [qb] at p; exact p
        | err => rw [qb] at p; exact p
    · have e : i = its.length := by omega
      subst e
      rw [List.drop_length] at p
      exact .inl ⟨ok.stop F H m st S.fF R, p F H m σ (Stp.refl _ _ _) R ev⟩⟩
end
end PL

set_option Elab.async false
set_option linter.all false
set_option maxRecDepth 100000
namespace PL
open PySem PySem.Spec L2
open PyProof.Rows hiding St
/-! ### defs, called where no repr is under way -/
structure FnG (P : Program) (w : World) (K : PySem.W.Frag) (mg : Str → Option Value) (base : Heap) (CX : CXT) (k : Nat) (f : Addr) (fd : FuncData) (ps : List Str) (sp : Sp) : Prop where
  len : ∀ vs H Q E, sp vs H Q E → vs.length = ps.length
  run : ∀ (A : Around) (outer : List Env) (s : Shared) (H : Hp) (args : Args) (us : List Value) (vs : List V) (Q : VK) (E : XK), Room k A → A.guards = some [] → Env0 P w K mg base A outer s H → BindsTo s fd args (ps.zip us) → Vals vs us → sp vs H Q E →
    codeAny (model P w) A (.call (.ref f) args) (CR CX outer P w H s Q E) s
theorem FnG.mono {P : Program} {w : World} {K : PySem.W.Frag} {mg : Str → Option Value} {base : Heap} {CX : CXT} {j k : Nat} {f : Addr} {fd : FuncData} {ps : List Str} {sp : Sp} (F : FnG P w K mg base CX j f fd ps sp) (h : j ≤ k) : FnG P w K mg base CX k f fd ps sp :=
  ⟨F.len, fun A outer s H args us vs Q E hr => F.run A outer s H args us vs Q E (hr.mono h)⟩
/-- a def by its body -/
theorem FnG.ofBody {CX : CXT} {P : Program} {w : World} {K : PySem.W.Frag} {mg : Str → Option Value} {base : Heap} {k : Nat} {f : Addr} {x qual : Str} {params : Arguments} {body : List Stmt} {scope : Scope} {dvs : List V} {kws : List (Str × V)} {fd : FuncData} {N ps : List Str} {sp : Sp}
    (D : FunD K x qual params body scope dvs kws f fd) (S : FnScope N ps scope) (len : ∀ vs H Q E, sp vs H Q E → vs.length = ps.length)
    (hbody : ∀ (cdv : Value) (A : Around) (outer : List Env) (s : Shared) (H : Hp) (vs : List V) (Q : VK) (E : XK), Room k (A.deeper (envOfC qual scope s.heap.objs.size f cdv)) → A.guards = some [] → sp vs H Q E →
      ∃ t, PSs (cxOf CX P w K mg base N qual scope f cdv A outer s H E) body t ∧ t { nx := fun _ H' => Q .non H', rt := Q } (start N vs) H) : FnG P w K mg base CX (k + 1) f fd ps sp := by
  obtain ⟨oc, od, dV, kV, doc, pm, an, cdv, ct, osl, e, lk, hcd, _, _⟩ := D.ex
  subst e
  constructor
  · exact len
  intro A outer s0 H args us vs Q E room gd env0 hb rel want
  have hlen := len vs H Q E want
  have kin : K.In s0.heap := env0.mod.kin.keeps (fun b o q => (env0.bs b o q).1)
  have nol : s0.heap.NoLimit := env0.mod.nolimit.keeps (fun b o q => (env0.bs b o q).1)
  have kinds : ∀ y ∈ ps.zip us, scope.names.lookup y.1 = some .local ∨ (scope.names.lookup y.1 = some .cell ∧ ((cellsFrom (s0.heap.objs.size + 1) scope.names []).lookup y.1).isSome = true) := by
    intro y hy
    rcases S.par y.1 (List.of_mem_zip (a := y.1) (b := y.2) hy).1 with z | z
    · exact Or.inl z
    · exact Or.inr ⟨z, PySem.W.cellsFrom_some _ _ _ (Or.inl z)⟩
  refine codeAny_call_function room.depth (kin _ _ lk) rfl S.co S.gen rfl (PySem.W.codeRec_of kin hcd) (hb _ _ _ _ ?_)
  refine wpAny_newFunctionEnv_cells S.kind kinds (fun env hv s1 x => ?_)
  subst hv
  refine ⟨nol.keeps x.toInCall.keep, codeAny_func ?_⟩
  obtain ⟨t, ht, hq⟩ := hbody cdv A outer s0 H vs Q E (room.deeper _) gd want
  have I0 : Inv (cxOf CX P w K mg base N qual scope f cdv A outer s0 H E) [] (start N vs) H s1 := inv_start S room.hd env0 hlen rel x
  refine wpAny_mono (ht.run [] s1 (start N vs) H _ I0 hq) (fun fl s2 h2 => ?_) (fun e s2 h2 => h2)
  cases fl with
  | ret u => obtain ⟨v, σ', H', J, rv, q⟩ := h2; exact ⟨v, H', J.os, J.bare, J.base, J.hok, rv, q⟩
  | next => obtain ⟨σ', H', J, q⟩ := h2; exact ⟨V.non, H', J.os, J.bare, J.base, J.hok, rfl, q⟩
  | brk => obtain ⟨_, _, _, q⟩ := h2; exact q.elim
  | cont => obtain ⟨_, _, _, q⟩ := h2; exact q.elim
section
variable {X : Cx} {CX : CXT} {k : Nat} {g : Addr} {fd : FuncData} {ps : List Str} {sp : Sp} {E : XK}
theorem FnG.go {pins : List (Addr × Obj)} {σ : St} {H : Hp} {s : Shared} {Q : VK} {us : List Value} {vs : List V} {args : Args} (F : FnG X.prog X.w X.K X.mg X.base CX k g fd ps sp) (hr : Room k X.A) (hg : X.A.guards = some []) (hx : Passes CX X E)
    (I : Inv X pins σ H s) (hb : BindsTo s fd args (ps.zip us)) (r : Vals vs us) (h : sp vs H Q E) : codeAny (model X.prog X.w) X.A (.call (.ref g) args) (fun r s' => match r with | .ok (.ret u) => EP X pins σ Q u s' | .ok _ => False | .error e => X.xe e s') s :=
  codeAny_mono (F.run X.A X.stack s H args us vs Q E hr hg I.env0 hb r h) fun r s' hq => by
    cases r with
    | error e => exact hx pins σ H s e s' I hq
    | ok fl =>
      cases fl with
      | ret u => exact I.after hq
      | next => exact hq.elim
      | brk => exact hq.elim
      | cont => exact hq.elim
end
/-- the promise of a def that is the function g on plain values -/
def spD (c : Cf) (n : Nat) (g : List Val → M Val) : Sp := fun vs H Q E => vs.length = n ∧ ∃ F m st xs, Rel c.K F H m st ∧ RVals c.K F m xs vs ∧ Post c E F H m (g xs st) Q
/-- a def of the text keeps the promise of g -/
def OkD (P : Program) (w : World) (K : PySem.W.Frag) (cn : Str → Option Addr) (mg : Str → Option Value) (base : Heap) (CX : CXT) (k : Nat) (x : Str) (ps : List Str) (g : List Val → M Val) : Prop :=
  ∃ f fd, mg x = some (.ref f) ∧ PySem.W.keepIn K (.ref f) = true ∧ FnG P w K mg base CX k f fd ps (spD ⟨K, cn⟩ ps.length g) ∧ Binds K fd ps [] ∧ ∃ oc od osl, K.lookup f = some ⟨oc, od, .func fd, osl⟩
section
variable {X : Cx} {cn : Str → Option Addr} {CX : CXT} {k : Nat} {E : XK} {x : Str} {ps : List Str} {g : List Val → M Val} {p pos : Pos} {a : Expr} {es : List Expr} {fs : Ev → M (List Val)}
theorem RVals.length {K : PySem.W.Frag} {F : Hp} {m : List Addr} : ∀ {xs : List Val} {vs : List V}, RVals K F m xs vs → xs.length = vs.length
  | _, _, .nil => rfl
  | _, _, .cons _ r => by simp [RVals.length r]
/-- the call's den: as many arguments as there are parameters -/
def eCall (n : Nat) (g : List Val → M Val) (fs : Ev → M (List Val)) : Ev → M Val := fun ρ => bnd (fs ρ) fun xs => chk (decide (xs.length = n)) (g xs)
theorem d_call (F : OkD X.prog X.w X.K cn X.mg X.base CX k x ps g) (hr : Room k X.A) (hgd : X.A.guards = some []) (hx : Passes CX X E) (ha : PA X (a :: es) (TDA ⟨X.K, cn⟩ E fs)) (hg : Gl X x := by rfl) (hdb : (x == ("__debug__" : Str)) = false := by decide)
    (he : starEach (a :: es) X.env = (false, eval a X.env) :: starEach es X.env := by rfl) (hpl : (backTo pos (starEach es X.env)).any (·.1) = false := by rfl) :
    PE X (.Call (.Name x p) (a :: es) [] pos) (TD ⟨X.K, cn⟩ E (eCall ps.length g fs)) := by
  obtain ⟨f, fd, hm, hk, F, hb, _⟩ := F
  refine ⟨fun pins s σ H Q I ⟨F0, m0, ρ, st, R, ev, p⟩ => ?_⟩
  refine wpAny_Call_Name_kw (ld_glob I hg hm ?_ hdb)
  refine PySem.W.callWith_K (h₀ := X.base) I.ok.mod.kin hk (thn (ha.run pos pins s σ H _ I ⟨F0, m0, ρ, st, R, ev, PostG.bnd (T := RVals X.K) p⟩) fun us s1 ⟨vs, H1, I1, r, F1, m1, st1, xs, S1, R1, r1, p⟩ => ⟨I1.kIn, ?_⟩) he hpl
  obtain ⟨z, p⟩ := post_chk p
  have hl : vs.length = ps.length := by rw [← RVals.length r1]; exact of_decide_eq_true z
  have hu : (us ++ []).length = ps.length := by rw [List.append_nil, ← r.length]; exact hl
  have bt := hb s1 us I1.kIn hu
  rw [List.append_nil] at bt
  exact wpAny_call (codeAny_mono (F.go hr hgd hx I1 bt r (Q := Q) (E := E) ⟨hl, F1, m1, st1, xs, R1, r1, p⟩) fun r s' h => by
    cases r with
    | error e => exact h
    | ok fl => cases fl with
      | ret u => exact h
      | next => exact h.elim
      | brk => exact h.elim
      | cont => exact h.elim)
theorem d_call0 (F : OkD X.prog X.w X.K cn X.mg X.base CX k x [] g) (hr : Room k X.A) (hgd : X.A.guards = some []) (hx : Passes CX X E) (hg : Gl X x := by rfl) (hdb : (x == ("__debug__" : Str)) = false := by decide) :
    PE X (.Call (.Name x p) [] [] pos) (TD ⟨X.K, cn⟩ E (eCall 0 g aNil)) := by
  obtain ⟨f, fd, hm, hk, F, hb, _⟩ := F
  refine ⟨fun pins s σ H Q I ⟨F0, m0, ρ, st, R, ev, p⟩ => ?_⟩
  refine wpAny_Call_Name_kw (ld_glob I hg hm ?_ hdb)
  have bt := hb s [] I.kIn rfl
  refine PySem.W.callWith_K0 I.kIn hk (wpAny_call (codeAny_mono (F.go hr hgd hx I bt .nil (Q := Q) (E := E) ⟨rfl, F0, m0, st, [], R, .nil, p⟩) fun r s' h => ?_))
  cases r with
  | error e => exact h
  | ok fl => cases fl with
    | ret u => exact h
    | next => exact h.elim
    | brk => exact h.elim
    | cont => exact h.elim
/-! ### a def's den from its body's -/
def gcV (n : Nat) (v : Val) (st : Sto) : Res Val := match v with
  | .dat d => .ok (.dat d) (st.take n)
  | .scr ns => .ok (.scr ns) (st.take n)
  | .ref k => if k < n then .ok (.ref k) (st.take n) else (match st[k]? with
    | some (.lst ds) => .ok (.dat (.list ds)) (st.take n)
    | some (.frz d) => .ok (.dat d) (st.take n)
    | some (.dct kvs) => .ok (.ref n) (st.take n ++ [.dct kvs])
    | none => .err)
def runF (N : Nat) (body : SM) (xs : List Val) : M Val := fun st => match body (xs.map some ++ List.replicate (N - xs.length) none) st with
  | .nx _ st' => gcV st.length (.dat .none) st'
  | .rt v st' => gcV st.length v st'
  | .exc c fs st' => .exc c fs (st'.take st.length)
  | _ => .err
theorem Rel.cut {K : PySem.W.Frag} {F H : Hp} {m : List Addr} {st : Sto} (R : Rel K F H m st) (n : Nat) : Rel K F H (m.take n) (st.take n) :=
  ⟨R.le, by simp [R.len], R.nd.sublist (List.take_sublist _ _), fun k a o e1 e2 => by
    rw [List.getElem?_take] at e1 e2
    split at e1
    · rename_i h
      rw [if_pos h] at e2
      exact R.ob k a o e1 e2
    · cases e1⟩
theorem Stp.cut {F H F' H' : Hp} {m m' : List Addr} (S : Stp F H m F' H' m') : Stp F H m F' H' m ∧ m'.take m.length = m := by
  obtain ⟨r, e⟩ := S.mm
  refine ⟨⟨S.fF, ⟨[], by simp⟩, S.frm, S.nF, fun a h n => absurd h n⟩, ?_⟩
  rw [e]
  simp
theorem gc_ok {c : Cf} {E : XK} {F H F' H' : Hp} {m m' : List Addr} {st st' : Sto} {x : Val} {v : V} {Q : VK} (R0 : Rel c.K F H m st) (p : Post c E F H m (gcV st.length x st') Q) (S : Stp F H m F' H' m') (R : Rel c.K F' H' m' st') (r : RVal c.K F' m' x v) : Q v H' := by
  obtain ⟨S1, em⟩ := S.cut
  have R1 : Rel c.K F' H' m (st'.take st.length) := by
    have := R.cut st.length
    rw [← R0.len, em] at this
    rw [← R0.len]
    exact this
  cases x with
  | dat d => exact p F' H' m v S1 R1 r
  | scr ns => exact p F' H' m v S1 R1 r
  | ref k =>
    obtain ⟨a, ha, rfl⟩ := r
    simp only [gcV] at p
    by_cases hk : k < st.length
    · rw [if_pos hk] at p
      refine p F' H' m _ S1 R1 ⟨a, ?_, rfl⟩
      rw [← em, List.getElem?_take, if_pos (by rw [R0.len]; exact hk)]
      exact ha
    · rw [if_neg hk] at p
      cases q : st'[k]? with
      | none => rw [q] at p; exact p.elim
      | some o =>
        rw [q] at p
        have ob := R.ob k a o ha q
        have hn : a ∉ m := fun z => by
          obtain ⟨j, hj⟩ := List.getElem?_of_mem z
          have hj' := S.at hj
          have e := nodup_get R.nd hj' ha
          have hlt := (List.getElem?_eq_some_iff.mp hj).1
          rw [R0.len] at hlt
          omega
        have hH : H a = none := S.nm a (List.mem_of_getElem? ha) hn
        cases o with
        | frz d => exact p F' H' m _ S1 R1 ob.2
        | lst ds =>
          obtain ⟨h0, vs, h1, h2⟩ := ob
          exact p _ _ _ _ (S1.adopt hH h0 _) (R1.adopt h0 hn h1) (.lst upd_same (h2.mono (Le.new h0)))
        | dct kvs =>
          obtain ⟨h0, ws, h1, h2⟩ := ob
          have eH : upd H' a (.dK ws) = H' := by
            funext b
            unfold upd
            split
            · rename_i e; rw [e, h1]
            · rfl
          obtain ⟨S2, R2⟩ := Rel.take S1 R1 hH h0 hn (o := .dK ws) (so := .dct kvs) ⟨h0, ws, upd_same, h2⟩
          rw [eH] at S2 R2
          refine p _ _ _ _ S2 R2 ⟨a, ?_, rfl⟩
          rw [← R0.len, List.getElem?_append_right (Nat.le_refl _)]
          simp
theorem start_env {K : PySem.W.Frag} {F : Hp} {m : List Addr} {xs : List Val} {vs : List V} {N : List Str} (r : RVals K F m xs vs) : EnvR K F m (xs.map some ++ List.replicate (N.length - xs.length) none) (start N vs) := by
  have hl := RVals.length r
  refine ⟨by simp [L2.start, hl], fun i x e => ?_⟩
  have hi : i < xs.length := by
    by_cases hi : i < xs.length
    · exact hi
    · rw [List.getElem?_append_right (by simpa using hi), List.getElem?_replicate] at e
      split at e <;> cases e
  rw [List.getElem?_append_left (by simpa using hi), List.getElem?_map] at e
  have h1 : xs[i]? = some x := by
    cases q : xs[i]? with
    | none => rw [q] at e; cases e
    | some y => rw [q] at e; cases e; rfl
  have key : ∀ {xs : List Val} {vs : List V} {i : Nat}, RVals K F m xs vs → xs[i]? = some x → ∃ v, vs[i]? = some v ∧ RVal K F m x v := by
    intro xs vs i r
    induction r generalizing i with
    | nil => intro e; simp at e
    | cons h t ih =>
      intro e
      cases i with
      | zero => simp at e; subst e; exact ⟨_, rfl, h⟩
      | succ i => obtain ⟨v, h1, h2⟩ := ih (i := i) (by simpa using e); exact ⟨v, by simpa using h1, h2⟩
  obtain ⟨v, h2, h3⟩ := key r h1
  refine ⟨v, ?_, h3⟩
  unfold L2.start
  rw [List.getElem?_append_left (by rw [List.length_map, ← hl]; exact hi), List.getElem?_map, h2]
  rfl
end
section
variable {P : Program} {w : World} {K : PySem.W.Frag} {cn : Str → Option Addr} {mg : Str → Option Value} {base : Heap}
/-- THE RULE: a def whose body is read as s -/
theorem okD {CX : CXT} {k : Nat} {f : Addr} {x qual : Str} {params : Arguments} {body : List Stmt} {scope : Scope} {dvs : List V} {kws : List (Str × V)} {fd : FuncData} {N ps : List Str} {s : SM} (hm : mg x = some (.ref f))
    (D : FunD K x qual params body scope dvs kws f fd) (S : FnScope N ps scope) (hb : Binds K fd ps [])
    (hbody : ∀ (cdv : Value) (A : Around) (outer : List Env) (sh : Shared) (H : Hp) (E : XK), Room k (A.deeper (envOfC qual scope sh.heap.objs.size f cdv)) → A.guards = some [] → PSs (cxOf CX P w K mg base N qual scope f cdv A outer sh H E) body (TSD ⟨K, cn⟩ E s)) :
    OkD P w K cn mg base CX (k + 1) x ps (runF N.length s) := by
  refine ⟨f, fd, hm, D.kp, FnG.ofBody D S (fun vs H Q E h => h.1) (fun cdv A outer sh H vs Q E hr hg h => ?_), hb, ?_⟩
  rotate_left
  · obtain ⟨oc, od, _, _, _, _, _, _, _, osl, _, lk, _⟩ := D.ex
    exact ⟨oc, od, osl, lk⟩
  refine ⟨_, hbody cdv A outer sh H E hr hg, ?_⟩
  obtain ⟨_, F, m, st, xs, R, r, p⟩ := h
  refine ⟨F, m, xs.map some ++ List.replicate (N.length - xs.length) none, st, R, start_env r, ?_⟩
  unfold runF at p
  cases q : s (xs.map some ++ List.replicate (N.length - xs.length) none) st with
  | nx ρ st' =>
    rw [q] at p
    exact fun F' H' m' σ' S' R' _ => gc_ok (v := V.non) R p S' R' Rp.non
  | rt v st' =>
    rw [q] at p
    exact fun F' H' m' v' S' R' r' => gc_ok R p S' R' r'
  | exc n fs st' =>
    rw [q] at p
    intro F' H' m' cls d S' R' e
    obtain ⟨S1, em⟩ := S'.cut
    have R1 : Rel K F' H' m (st'.take st.length) := by
      have := R'.cut st.length
      rw [← R.len, em] at this
      rw [← R.len]
      exact this
    exact p F' H' m cls d S1 R1 e
  | bk ρ st' => rw [q] at p; exact p.elim
  | ct ρ st' => rw [q] at p; exact p.elim
  | err => rw [q] at p; exact p.elim
end
end PL

set_option Elab.async false
set_option linter.all false
set_option maxRecDepth 100000
namespace PL
open PySem PySem.Spec L2
open PyProof.Rows hiding St
/-! ### the law's call -/
theorem lawG {P : Program} {w : World} {K : PySem.W.Frag} {mg mb : Str → Option Value} {CX : CXT} {k : Nat} {fa a : Addr} {fd : FuncData} {x : Str} {sp : Sp} {s0 : Shared} {vs : List Value} {ns : List Int}
    (kin : K.In s0.heap) (glob : s0.heap.Ns mainGlobals mg) (blt : s0.heap.Ns builtinsNs mb) (same : ∀ x : Str, x ≠ "__name__" → mb x = bootBuiltins x) (lim : s0.heap.NoLimit) (gens : s0.gens = #[])
    (obj : s0.heap.get? a = some { cls := .type "list", data := .seq vs.toArray }) (nums : IntsAre vs ns) (short : ns.length ≤ sizeLine) (room : Room k callerA)
    (F : ∀ base : Heap, K.In base → base.Ns mainGlobals mg → FnG P w K mg base CX k fa fd [x] sp) (bind : ∀ (s : Shared) (u : Value), BindsTo s fd ⟨[u], []⟩ [(x, u)])
    (keeps : ∀ H : Hp, L2.Only H → SqL K H a (ns.map V.int) → sp [.ref a] H (fun v _ => v = .bl true) fun _ _ _ => False)
    (none_out : ∀ H e s', CX [] H s0 (fun _ _ _ => False) e s' → False) :
    codeAny (model P w) callerA (.call (.ref fa) ⟨[.ref a], []⟩) (fun r s' => r = .ok (.ret (.bool true)) ∧ OldK s0.heap s'.heap ∧ s'.os = s0.os ∧ AllBare s'.gens) s0 := by
  have rel := vals_ints nums
  have many := nums.length
  have main : ∀ H : Hp, L2.Only H → SqL K H a (ns.map V.int) → HOk P w H s0.heap → (∀ b o, H b = some o → b = a) → (∀ o, H a = some o → K.lookup a = none) →
      codeAny (model P w) callerA (.call (.ref fa) ⟨[.ref a], []⟩) (fun r s' => r = .ok (.ret (.bool true)) ∧ OldK s0.heap s'.heap ∧ s'.os = s0.os ∧ AllBare s'.gens) s0 := by
    intro H only sq hok one noK
    have free : ∀ b o es ep, s0.heap.get? b = some o → o.data = .dict es ep → H b = none := by
      intro b o es ep e d
      cases q : H b with
      | none => rfl
      | some u =>
        rw [one b u q, obj] at e
        cases e
        cases (show Data.seq vs.toArray _ = Data.dict es ep from d)
    have nsH : ∀ b m, s0.heap.Ns b m → (hidT s0.heap H).Ns b m := by
      rintro b m ⟨o, es, ep, e, d, r⟩
      exact ⟨o, es, ep, hidT_get e (free b o es ep e d), d, r⟩
    have kinH : K.In (hidT s0.heap H) := by
      intro b o e
      refine hidT_get (kin b o e) ?_
      cases q : H b with
      | none => rfl
      | some u =>
        have eb := one b u q
        subst eb
        rw [noK u q] at e
        cases e
    have limH : (hidT s0.heap H).NoLimit := by
      obtain ⟨mc, h1, h2⟩ := lim
      exact ⟨mc, nsH _ _ h1, h2⟩
    have modH : Mod K mg (hidT s0.heap H) := ⟨kinH, nsH _ _ glob, ⟨mb, nsH _ _ blt, same⟩, limH⟩
    have e0 : Env0 P w K mg (hidT s0.heap H) callerA [] s0 H :=
      ⟨rfl, modH, fun b o e => of_hidT e, Nat.le_of_eq (hidT_size _ _), trivial, fun b hb => (List.not_mem_nil hb).elim, hok, .of_eq gens⟩
    refine codeAny_mono ((F _ kinH (nsH _ _ glob)).run callerA [] s0 H ⟨[.ref a], []⟩ [.ref a] [.ref a] _ _ room rfl e0 (bind s0 (.ref a)) (.cons rfl .nil) (keeps H only sq)) ?_
    intro r s' h
    match r, h with
    | .error e, h => exact (none_out H e s' h).elim
    | .ok .next, h => exact h.elim
    | .ok .brk, h => exact h.elim
    | .ok .cont, h => exact h.elim
    | .ok (.ret u), ⟨v, H', os, bare, un, hok', rv, q⟩ =>
      have q : v = .bl true := q
      subst q
      cases rv
      refine ⟨rfl, OldK.of_keep (fun b o e => ?_), os, bare⟩
      cases q : H b with
      | none => exact un.keep b o e q (fun z => (List.not_mem_nil z).elim) List.not_mem_nil
      | some u =>
        rcases only b with z | ⟨ob, xs, z⟩
        · rw [q] at z; cases z
        · have g1 := (hok b _ z).1
          have g2 := (hok' b _ (un.frzs b ob _ z)).1
          rw [e] at g1
          cases g1
          exact g2
  cases hk : K.lookup a with
  | some o =>
    have e := kin a o hk
    rw [obj] at e
    cases e
    refine main (fun _ => none) (fun _ => Or.inl rfl) (Or.inr ⟨_, vs.toArray, _, hk, rfl, rfl, rfl, ?_, ?_⟩) (fun b u z => nomatch z) (fun b o z => nomatch z) (fun o z => nomatch z)
    · rw [List.size_toArray, many]; exact short
    · simpa using rel
  | none =>
    have new : ∀ b, (upd (fun _ => none) a (.frz { cls := .type "list", data := .seq vs.toArray } (.lst (ns.map V.int)))) b = none ∨ b = a := fun b => by
      by_cases hb : b = a
      · exact Or.inr hb
      · exact Or.inl (by rw [upd_ne hb])
    refine main (upd (fun _ => none) a (.frz { cls := .type "list", data := .seq vs.toArray } (.lst (ns.map V.int)))) (fun b => ?_) (Or.inl (Or.inr ⟨_, upd_same⟩)) (fun b u z => ?_) (fun b o z => ?_) (fun _ _ => hk)
    · rcases new b with h | h
      · exact Or.inl h
      · subst h; exact Or.inr ⟨_, _, upd_same⟩
    · rcases new b with h | h
      · rw [h] at z; cases z
      · subst h
        rw [upd_same] at z
        cases z
        exact ⟨obj, by rw [List.length_map]; exact short, vs, _, rel, obj⟩
    · rcases new b with h | h
      · rw [h] at z; cases z
      · exact h
theorem walkG {l : PySem.W.OpenLaw} {n k : Nat} {q : Program} {loose : List Str} {XP : (Str → Option Value) → Heap → Prop} {YP : World → Heap → Prop} {d : DefRec} {CX : World → CXT} {x : Str}
    (hn : l.most = some n) (hn2 : n ≤ sizeLine) (hdf : d.params.defaults = []) (hr : Room k callerA)
    (F : ∀ (w : World) (mg : Str → Option Value) (fa : Addr) (h : Heap), YP w h → h.Ns mainGlobals mg → mg d.name = some (.ref fa) →
      ∃ (K : PySem.W.Frag) (fd : FuncData) (sp : Sp), K.In h ∧ (∀ (s : Shared) (u : Value), BindsTo s fd ⟨[u], []⟩ [(x, u)]) ∧
        (∀ (H : Hp) (a : Addr) (ns : List Int), ns.length ≤ n → L2.Only H → SqL K H a (ns.map V.int) → sp [.ref a] H (fun v _ => v = .bl true) fun _ _ _ => False) ∧
        ∀ base : Heap, K.In base → base.Ns mainGlobals mg → FnG l.prog w K mg base (CX w) k fa fd [x] sp)
    (hCX : ∀ (w : World) (H : Hp) (s : Shared) (e : Value) (s' : Shared), CX w [] H s (fun _ _ _ => False) e s' → False) :
    PySem.W.WalkO q loose XP YP l.row.toRowW d [] (fun f vs => PySem.call f vs) :=
  Att.attach_call hn hdf (fun w s₀ s1 mg mb fa o pm cd doc a vs ns G Y ho hd hcd hmg hobj hints hlen hg => by
    obtain ⟨K, fd, sp, kin, hb, hsp, hF⟩ := F w mg fa _ Y G.T.g hmg
    exact lawG kin G.T.g G.T.b G.T.builtins G.T.nolimit hg hobj hints (Nat.le_trans hlen hn2) hr hF hb (fun H hO hS => hsp H a ns hlen hO hS) (fun H e s' => hCX w H s1 e s'))
/-- the promise of a law whose den gives True -/
theorem law_keeps {K : PySem.W.Frag} {cn : Str → Option Addr} {g : List Val → M Val} {H : Hp} {a : Addr} {ns : List Int} {st : Sto} (h : g [.scr ns] [] = .ok (.dat (.bool true)) st) (sq : SqL K H a (ns.map V.int)) :
    spD ⟨K, cn⟩ 1 g [.ref a] H (fun v _ => v = .bl true) (fun _ _ _ => False) :=
  ⟨rfl, H, [], [], [.scr ns], ⟨Le.refl _, rfl, List.nodup_nil, fun k a o e => by simp at e⟩, .cons ⟨a, rfl, sq⟩ .nil, by
    rw [h]
    intro F' H' m' v _ _ r
    cases (show Rp K F' v (.bool true) from r)
    rfl⟩
/-! ### written data -/
mutual
def dataB (K : PySem.W.Frag) : PyData → Value → Bool
  | .none, v => (match v with
    | .none => true
    | _ => false)
  | .bool b, v => (match v with
    | .bool c => b == c
    | _ => false)
  | .int i, v => (match v with
    | .int j _ => decide (i = j)
    | _ => false)
  | .str x, v => (match v with
    | .str y _ => decide (x = y)
    | _ => false)
  | .tuple ds, v => (match v with
    | .ref a => (match K.lookup a with
      | some o => (match o.cls, o.data with
        | .type T, .seq its _ => decide (T = "tuple") && (decide (its.size ≤ sizeLine) && datasB K ds its.toList)
        | _, _ => false)
      | none => false)
    | _ => false)
  | .list _, _ => false
  | .dict _, _ => false
def datasB (K : PySem.W.Frag) : List PyData → List Value → Bool
  | [], vs => vs.isEmpty
  | d :: ds, vs => (match vs with
    | v :: r => dataB K d v && datasB K ds r
    | [] => false)
end
mutual
theorem dataB_ok {K : PySem.W.Frag} : ∀ (d : PyData) (v : Value), dataB K d v = true → ∃ x, RelV x v ∧ ∀ F, Rp K F x d
  | .none, v, h => by
    unfold dataB at h
    split at h
    · exact ⟨.non, rfl, fun _ => .non⟩
    · cases h
  | .bool b, v, h => by
    unfold dataB at h
    split at h
    · rename_i c
      have e : b = c := by simpa using h
      subst e
      exact ⟨.bl b, rfl, fun _ => .bl b⟩
    · cases h
  | .int i, v, h => by
    unfold dataB at h
    split at h
    · have e := of_decide_eq_true h
      subst e
      exact ⟨.int i, ⟨_, rfl⟩, fun _ => .int i⟩
    · cases h
  | .str y, v, h => by
    unfold dataB at h
    split at h
    · have e := of_decide_eq_true h
      subst e
      exact ⟨.str y, ⟨_, rfl⟩, fun _ => .str y⟩
    · cases h
  | .tuple ds, v, h => by
    unfold dataB at h
    split at h
    · rename_i a
      split at h
      · rename_i o ho
        split at h
        · rename_i T its n e1 e2
          simp only [Bool.and_eq_true, decide_eq_true_eq] at h
          obtain ⟨rfl, h2, h3⟩ := h
          obtain ⟨xs, r, k⟩ := datasB_ok ds its.toList h3
          exact ⟨.ref a, rfl, fun F => .tup (.inr ⟨o, its, n, ho, e1, e2, h2, r⟩) (k F)⟩
        · cases h
      · cases h
    · cases h
  | .list _, _, h => by unfold dataB at h; cases h
  | .dict _, _, h => by unfold dataB at h; cases h
theorem datasB_ok {K : PySem.W.Frag} : ∀ (ds : List PyData) (vs : List Value), datasB K ds vs = true → ∃ xs, Vals xs vs ∧ ∀ F, RpAll K F xs ds
  | [], vs, h => by
    unfold datasB at h
    cases vs with
    | nil => exact ⟨[], .nil, fun _ => .nil⟩
    | cons _ _ => cases h
  | d :: ds, vs, h => by
    unfold datasB at h
    cases vs with
    | nil => cases h
    | cons v r =>
      obtain ⟨h1, h2⟩ := Bool.and_eq_true_iff.mp h
      obtain ⟨x, r1, k1⟩ := dataB_ok d v h1
      obtain ⟨xs, r2, k2⟩ := datasB_ok ds r h2
      exact ⟨x :: xs, .cons r1 r2, fun F => .cons (k1 F) (k2 F)⟩
end
/-- the module's name x holds the data d -/
def gloB (K : PySem.W.Frag) (x : Str) (d : PyData) : Bool := match PySem.W.nsIn K mainGlobals x with
  | some (some v) => dataB K d v
  | _ => false
theorem gloB_ok {K : PySem.W.Frag} {h : Heap} {mg : Str → Option Value} {x : Str} {d : PyData} (X : K.In h) (G : h.Ns mainGlobals mg) (b : gloB K x d = true) : ∃ u y, mg x = some u ∧ RelV y u ∧ ∀ F, Rp K F y d := by
  unfold gloB at b
  split at b
  · rename_i v e
    obtain ⟨y, r, k⟩ := dataB_ok d v b
    exact ⟨v, y, PySem.W.mg_of X G e, r, k⟩
  · cases b
theorem d_glob {X : Cx} {cn : Str → Option Addr} {E : XK} {pos : Pos} {x : Str} {d : PyData} (h : ∃ u y, X.mg x = some u ∧ RelV y u ∧ ∀ F, Rp X.K F y d) (hg : Gl X x := by rfl) (hd : (x == ("__debug__" : Str)) = false := by decide) : PE X (.Name x pos) (TD ⟨X.K, cn⟩ E (eC d)) := by
  obtain ⟨u, y, h1, h2, h3⟩ := h
  exact td_const (t := tC .non) (pe_glob hg h1 h2 hd) h3
/-! ### written dicts with text keys -/
def entB (K : PySem.W.Frag) : List (Str × PyData) → List DictEntry → Bool
  | [], es => es.isEmpty
  | (x, d) :: r, es => (match es with
    | e :: t => (match e.key with
      | .str y _ => decide (x = y) && (dataB K d e.val && entB K r t)
      | _ => false)
    | [] => false)
def dctB (K : PySem.W.Frag) (x : Str) (kvs : List (Str × PyData)) : Bool := match K.lookup (He.ga K x) with
  | some o => (match o.data with
    | .dict es _ => entB K kvs es.toList
    | _ => false)
  | none => false
def lookS (kvs : List (Str × PyData)) (z : Str) : Option PyData := (kvs.find? fun kv => decide (kv.1 = z)).map (·.2)
theorem entB_ok {K : PySem.W.Frag} (z : Str) : ∀ (kvs : List (Str × PyData)) (es : List DictEntry), entB K kvs es = true →
    es.any (·.refKey) = false ∧ ((lookS kvs z = none ∧ es.find? (·.key.isStr z) = none) ∨ ∃ d e, lookS kvs z = some d ∧ es.find? (·.key.isStr z) = some e ∧ dataB K d e.val = true)
  | [], es, h => by
    unfold entB at h
    cases es with
    | nil => exact ⟨rfl, .inl ⟨rfl, rfl⟩⟩
    | cons _ _ => cases h
  | (x, d) :: r, es, h => by
    unfold entB at h
    cases es with
    | nil => cases h
    | cons e t =>
      dsimp only at h
      split at h
      · rename_i y tk hk
        simp only [Bool.and_eq_true, decide_eq_true_eq] at h
        obtain ⟨rfl, h2, h3⟩ := h
        obtain ⟨i1, i2⟩ := entB_ok z r t h3
        have rk : e.refKey = false := by unfold DictEntry.refKey; rw [hk]
        refine ⟨by rw [List.any_cons, rk, i1]; rfl, ?_⟩
        by_cases ez : x = z
        · refine .inr ⟨d, e, ?_, ?_, h2⟩
          · simp [lookS, List.find?_cons, ez]
          · have : e.key.isStr z = true := by rw [hk, ez]; simp [Value.isStr]
            rw [List.find?_cons, this]
        · have n1 : e.key.isStr z = false := by rw [hk]; simp [Value.isStr, ez]
          have n2 : lookS ((x, d) :: r) z = lookS r z := by simp [lookS, List.find?_cons, ez]
          rw [n2, List.find?_cons, n1]
          exact i2
      · cases h
end PL

set_option Elab.async false
set_option linter.all false
set_option maxRecDepth 100000
namespace PL
open PySem PySem.Spec L2
open PyProof.Rows hiding St
/-- the module's name x holds a written dict -/
def GDict (K : PySem.W.Frag) (w : World) (mg : Str → Option Value) (x : Str) (kvs : List (Str × PyData)) : Prop := ∃ a es n, mg x = some (.ref a) ∧ KDict K w a es n ∧ entB K kvs es.toList = true
theorem gdict_of {K : PySem.W.Frag} {w : World} {mg : Str → Option Value} {x : Str} {kvs : List (Str × PyData)} (hm : mg x = some (.ref (He.ga K x))) (hd : ∃ es n, KDict K w (He.ga K x) es n) (hb : dctB K x kvs = true) : GDict K w mg x kvs := by
  obtain ⟨es, n, D⟩ := hd
  refine ⟨_, es, n, hm, D, ?_⟩
  unfold dctB at hb
  rw [D.at_] at hb
  exact hb
theorem nsIn_of {K : PySem.W.Frag} {w : World} {a : Addr} {es : Array DictEntry} {n : Nat} {kvs : List (Str × PyData)} (D : KDict K w a es n) (hb : entB K kvs es.toList = true) (z : Str) :
    (lookS kvs z = none ∧ PySem.W.nsIn K a z = some none) ∨ ∃ d u, lookS kvs z = some d ∧ PySem.W.nsIn K a z = some (some u) ∧ dataB K d u = true := by
  obtain ⟨h1, h2⟩ := entB_ok z kvs es.toList hb
  unfold PySem.W.nsIn
  rw [D.at_]
  dsimp only
  rcases h2 with ⟨e1, e2⟩ | ⟨d, e, e1, e2, e3⟩
  · left
    refine ⟨e1, ?_⟩
    rw [e2, h1]
    rfl
  · right
    refine ⟨d, e.val, e1, ?_, e3⟩
    rw [e2]
section
variable {X : Cx} {cn : Str → Option Addr} {E : XK} {pos p q : Pos} {x : Str} {kvs : List (Str × PyData)} {a b : Expr} {f f' : Ev → M Val} {fs : Ev → M (List Val)}
def kinD (kvs : List (Str × PyData)) : PyData → M Val
  | .str z => bB (lookS kvs z).isSome
  | _ => fail
theorem d_kin (G : GDict X.K X.w X.mg x kvs) (ha : PE X a (TD ⟨X.K, cn⟩ E f)) (hg : Gl X x := by rfl) (hd : (x == ("__debug__" : Str)) = false := by decide) (hm : behindInMarks .In (.Name x q) = false := by rfl) : PE X (.Compare a [.In] [.Name x q] pos) (TD ⟨X.K, cn⟩ E (e1 (on1 (kinD kvs)) f)) := by
  obtain ⟨d, es, n, hmg, D, hb⟩ := G
  refine PE.imp (pe_cmpR (op_in_kd D) ha (pe_glob (v := .ref d) hg hmg rfl hd) hm) fun σ H Q ⟨F, m, ρ, st, R, ev, p⟩ => ⟨F, m, ρ, st, R, ev, PostG.mono (PostG.bnd (T := RVal X.K) p) fun v H1 ⟨F1, m1, st1, x', S1, R1, r1, p⟩ => ?_⟩
  unfold on1 at p
  cases ex : vw x' st1 with
  | none => rw [ex] at p; exact p.elim
  | some dd =>
    rw [ex] at p
    have vb := vw_ok R1 r1 ex
    obtain ⟨z, rfl⟩ : ∃ z, dd = .str z := by
      cases dd with
      | str z => exact ⟨z, rfl⟩
      | _ => exact p.elim
    cases vb
    rcases nsIn_of D hb z with ⟨e1, e2⟩ | ⟨d', u, e1, e2, _⟩
    · refine ⟨z, none, rfl, rfl, e2, ?_⟩
      have p : Post ⟨X.K, cn⟩ E F1 H1 m1 (bB (lookS kvs z).isSome st1) Q := p
      rw [e1] at p
      exact post_ok p R1 (Rp.bl _)
    · refine ⟨z, some u, rfl, rfl, e2, ?_⟩
      have p : Post ⟨X.K, cn⟩ E F1 H1 m1 (bB (lookS kvs z).isSome st1) Q := p
      rw [e1] at p
      exact post_ok p R1 (Rp.bl _)
def kgetD (kvs : List (Str × PyData)) : PyData → M Val
  | .str z => fun st => (match lookS kvs z with
    | some d => .ok (.dat d) st
    | none => .err)
  | _ => fail
theorem d_kget (G : GDict X.K X.w X.mg x kvs) (hb : PE X b (TD ⟨X.K, cn⟩ E f)) (hg : Gl X x := by rfl) (hd : (x == ("__debug__" : Str)) = false := by decide) (hs : PlainIx b := by exact fun _ _ => rfl) : PE X (.Subscript (.Name x q) b pos) (TD ⟨X.K, cn⟩ E (e1 (on1 (kgetD kvs)) f)) := by
  obtain ⟨d, es, n, hmg, D, hbb⟩ := G
  refine PE.imp (pe_ix ix_kdict (pe_glob (v := .ref d) hg hmg rfl hd) hb hs) fun σ H Q ⟨F, m, ρ, st, R, ev, p⟩ => ⟨F, m, ρ, st, R, ev, PostG.mono (PostG.bnd (T := RVal X.K) p) fun v H1 ⟨F1, m1, st1, x', S1, R1, r1, p⟩ => ?_⟩
  unfold on1 at p
  cases ex : vw x' st1 with
  | none => rw [ex] at p; exact p.elim
  | some dd =>
    rw [ex] at p
    have vb := vw_ok R1 r1 ex
    obtain ⟨z, rfl⟩ : ∃ z, dd = .str z := by
      cases dd with
      | str z => exact ⟨z, rfl⟩
      | _ => exact p.elim
    cases vb
    unfold kgetD at p
    dsimp only at p
    rcases nsIn_of D hbb z with ⟨e1, e2⟩ | ⟨d', u, e1, e2, e3⟩
    · rw [e1] at p; exact p.elim
    · rw [e1] at p
      obtain ⟨y, r, k⟩ := dataB_ok d' u e3
      exact ⟨d, z, y, rfl, rfl, ⟨es, n, u, D.at_, D.lit, e2, r⟩, post_ok p R1 (k F1)⟩
end
/-! ### calls with keywords alone -/
/-- the def binds these keywords (in the order of the call) as the values in the parameters' order -/
def KwOk (K : PySem.W.Frag) (fd : FuncData) (ps ks : List Str) (o : List Nat) : Prop :=
  ∀ (s : Shared) (ws : List Value), K.In s.heap → ws.length = ks.length → BindsTo s fd ⟨[], ks.zip ws⟩ (ps.zip (o.filterMap fun i => ws[i]?))
def OkK (P : Program) (w : World) (K : PySem.W.Frag) (cn : Str → Option Addr) (mg : Str → Option Value) (base : Heap) (CX : CXT) (k : Nat) (x : Str) (ps ks : List Str) (o : List Nat) (g : List Val → M Val) : Prop :=
  ∃ f fd, mg x = some (.ref f) ∧ PySem.W.keepIn K (.ref f) = true ∧ FnG P w K mg base CX k f fd ps (spD ⟨K, cn⟩ ps.length g) ∧ KwOk K fd ps ks o
section
variable {X : Cx} {cn : Str → Option Addr} {CX : CXT} {k : Nat} {E : XK} {x : Str} {ps ks : List Str} {o : List Nat} {g : List Val → M Val} {p pos : Pos} {kws : List Keyword} {fs : Ev → M (List Val)} {a : Expr} {f : Ev → M Val}
theorem PK.imp {X : Cx} {e : List Keyword} {t t' : TA} (h : PK X e t) (i : ∀ σ H Q, t' σ H Q → t σ H Q) : PK X e t' := ⟨fun pos pins s σ H Q I q => h.run pos pins s σ H Q I (i _ _ _ q)⟩
theorem k_nil : PK X [] (TDA ⟨X.K, cn⟩ E aNil) := PK.imp pk_nil fun σ H Q ⟨F, m, ρ, st, R, ev, p⟩ => p F H m [] (Stp.refl _ _ _) R .nil
theorem k_cons {nm : Option Str} {kpos : Pos} (ha : PE X a (TD ⟨X.K, cn⟩ E f)) (hr : PK X kws (TDA ⟨X.K, cn⟩ E fs)) : PK X (⟨nm, a, kpos⟩ :: kws) (TDA ⟨X.K, cn⟩ E (aCons f fs)) :=
  PK.imp (pk_cons ha hr) fun σ H Q ⟨F, m, ρ, st, R, ev, p⟩ => ⟨F, m, ρ, st, R, ev, PostG.mono (PostG.bnd (T := RVal X.K) p) fun v H1 ⟨F1, m1, st1, x, S1, R1, r1, p⟩ =>
    ⟨F1, m1, ρ, st1, R1, ev.later S1, PostG.mono (PostG.bnd (T := RVals X.K) p) fun vs H2 ⟨F2, m2, st2, xs, S2, R2, r2, p⟩ => p F2 H2 m2 _ (Stp.refl _ _ _) R2 (.cons (r1.later S2) r2)⟩⟩
theorem paired_perm {α β : Type} {T : α → β → Prop} {xs : List α} {ys : List β} (h : Paired T xs ys) : ∀ o : List Nat, Paired T (o.filterMap fun i => xs[i]?) (o.filterMap fun i => ys[i]?)
  | [] => .nil
  | i :: r => by
    have key : (xs[i]? = none ∧ ys[i]? = none) ∨ ∃ a b, xs[i]? = some a ∧ ys[i]? = some b ∧ T a b := by
      clear r
      induction h generalizing i with
      | nil => exact .inl ⟨rfl, rfl⟩
      | cons h t ih =>
        cases i with
        | zero => exact .inr ⟨_, _, rfl, rfl, h⟩
        | succ i => simpa using ih i
    rcases key with ⟨e1, e2⟩ | ⟨a, b, e1, e2, t⟩
    · rw [List.filterMap_cons, List.filterMap_cons, e1, e2]; exact paired_perm h r
    · rw [List.filterMap_cons, List.filterMap_cons, e1, e2]; exact .cons t (paired_perm h r)
def eCallK (n nk : Nat) (o : List Nat) (g : List Val → M Val) (fs : Ev → M (List Val)) : Ev → M Val := fun ρ => bnd (fs ρ) fun xs => chk (decide (xs.length = nk) && decide ((o.filterMap fun i => xs[i]?).length = n)) (g (o.filterMap fun i => xs[i]?))
/-- f(k1 = e1, ..) -/
theorem d_callK (F : OkK X.prog X.w X.K cn X.mg X.base CX k x ps ks o g) (hr : Room k X.A) (hgd : X.A.guards = some []) (hx : Passes CX X E) (ha : PK X kws (TDA ⟨X.K, cn⟩ E fs)) (hg : Gl X x := by rfl) (hdb : (x == ("__debug__" : Str)) = false := by decide)
    (hall : (backToKw pos (keywordEach kws X.env)).all (·.1.isSome) = true := by rfl) (hks : (backToKw pos (keywordEach kws X.env)).filterMap (·.1) = ks := by rfl)
    (hpl : ((backTo pos (starEach [] X.env)).any (·.1) || (backToKw pos (keywordEach kws X.env)).any (·.1.isNone)) = false := by rfl) :
    PE X (.Call (.Name x p) [] kws pos) (TD ⟨X.K, cn⟩ E (eCallK ps.length ks.length o g fs)) := by
  obtain ⟨f, fd, hm, hk, F, hb⟩ := F
  refine ⟨fun pins s σ H Q I ⟨F0, m0, ρ, st, R, ev, p⟩ => ?_⟩
  refine wpAny_Call_Name_kw (ld_glob I hg hm ?_ hdb)
  refine PySem.W.callWith_KW0 (h₀ := X.base) I.ok.mod.kin hk hall (thn (ha.run pos pins s σ H _ I ⟨F0, m0, ρ, st, R, ev, PostG.bnd (T := RVals X.K) p⟩) fun ws s1 ⟨vs, H1, I1, r, F1, m1, st1, xs, S1, R1, r1, p⟩ => ⟨I1.kIn, ?_⟩) hpl
  rw [hks]
  obtain ⟨z, p⟩ := post_chk p
  obtain ⟨z1, z2⟩ := Bool.and_eq_true_iff.mp z
  have e1 : ws.length = ks.length := by rw [← r.length, ← RVals.length r1]; exact of_decide_eq_true z1
  have q1 := paired_perm r1 o
  have q2 := paired_perm r o
  have hl : (o.filterMap fun i => vs[i]?).length = ps.length := by rw [← RVals.length q1]; exact of_decide_eq_true z2
  exact wpAny_call (codeAny_mono (F.go hr hgd hx I1 (hb s1 ws I1.kIn e1) q2 (Q := Q) (E := E) ⟨hl, F1, m1, st1, _, R1, q1, p⟩) fun r s' h => by
    cases r with
    | error e => exact h
    | ok fl => cases fl with
      | ret u => exact h
      | next => exact h.elim
      | brk => exact h.elim
      | cont => exact h.elim)
end
end PL

set_option Elab.async false
set_option linter.all false
set_option maxRecDepth 100000
namespace PL
open PySem PySem.Spec L2
open PyProof.Rows hiding St
theorem u65 {k : Nat} {A : Around} (r : Room k A) : A.units + 65 < cLine := by have := r.un; omega
theorem pas0 {X : Cx} {E : XK} : Passes CX0 X E := fun _ _ _ _ _ _ _ h => h.elim
theorem okK_of {P : Program} {w : World} {K : PySem.W.Frag} {cn : Str → Option Addr} {mg : Str → Option Value} {base : Heap} {CX : CXT} {k : Nat} {x qual : Str} {params : Arguments} {body : List Stmt} {scope : Scope} {kws : List (Str × V)} {ps ks : List Str} {o : List Nat} {g : List Val → M Val} {f : Addr} {fd : FuncData}
    (h : OkD P w K cn mg base CX k x ps g) (hm : mg x = some (.ref f)) (D : FunD K x qual params body scope [] kws f fd)
    (hb : ∀ (kV doc pm : Value) (an : Option Addr) (cdv ct : Value) (ws : List Value), ws.length = ks.length → bindArgs (PySem.W.fnOf x qual params body scope .none kV doc pm an cdv ct) ⟨[], ks.zip ws⟩ = pure (ps.zip (o.filterMap fun i => ws[i]?))) :
    OkK P w K cn mg base CX k x ps ks o g := by
  obtain ⟨f', fd', h1, h2, h3, _, oc', od', osl', lk'⟩ := h
  rw [hm] at h1
  cases h1
  obtain ⟨oc, od, dV, kV, doc, pm, an, cdv, ct, osl, e, lk, hcd, hD, hK⟩ := D.ex
  rw [lk] at lk'
  cases lk'
  refine ⟨_, _, hm, h2, h3, fun s ws hin hl => ?_⟩
  rcases hD with ⟨_, ed⟩ | ⟨z, _⟩
  · subst e
    subst ed
    exact .of_eq (hb kV doc pm an cdv ct ws hl)
  · exact absurd rfl z
theorem fnG_of {P : Program} {w : World} {K : PySem.W.Frag} {cn : Str → Option Addr} {mg : Str → Option Value} {base : Heap} {CX : CXT} {k : Nat} {x qual : Str} {params : Arguments} {body : List Stmt} {scope : Scope} {dvs : List V} {kws : List (Str × V)} {ps : List Str} {g : List Val → M Val} {f : Addr} {fd : FuncData}
    (h : OkD P w K cn mg base CX k x ps g) (hm : mg x = some (.ref f)) (D : FunD K x qual params body scope dvs kws f fd) : FnG P w K mg base CX k f fd ps (spD ⟨K, cn⟩ ps.length g) := by
  obtain ⟨f', fd', h1, h2, h3, _, oc', od', osl', lk'⟩ := h
  rw [hm] at h1
  cases h1
  obtain ⟨oc, od, dV, kV, doc, pm, an, cdv, ct, osl, e, lk, hcd, hD, hK⟩ := D.ex
  rw [lk] at lk'
  cases lk'
  exact h3
/-- name = [.. for ..] on one line -/
theorem s_setLc {X : Cx} {cn : Str → Option Addr} {E : XK} {pos spos py : Pos} {tg iter elt : Expr} (i : Nat) {y : Str} {ifs : List Expr} {scope : Scope} {own : List (Str × Nat)} {ps : List Nat} {src : Ev → M (List PyData)} {t : Tg} {cond : Ev → M Bool} {el : Ev → M Val} (hc : X.calm = true) (hN : X.N.Nodup) (hi : PI X tg iter (TID ⟨X.K, cn⟩ E src)) (ok : BlkOk X.N X.env.scope scope own) (hp : ∀ i ∈ ps, i ∈ own.map (·.2))
    (hg : ∀ (s : Shared) (H : Hp) (C : Addr) (cl : List (Str × Addr)) (fp : List Addr), PG (X.blk s H scope (compEnvC scope cl C X.env) fp) tg (TGD X.K ps t))
    (ht : ∀ (s : Shared) (H : Hp) (C : Addr) (cl : List (Str × Addr)) (fp : List Addr), PTs (X.blk s H scope (compEnvC scope cl C X.env) fp) ifs (TDB ⟨X.K, cn⟩ E0 cond))
    (he : ∀ (s : Shared) (H : Hp) (C : Addr) (cl : List (Str × Addr)) (fp : List Addr), PE (X.blk s H scope (compEnvC scope cl C X.env) fp) elt (TD ⟨X.K, cn⟩ E0 el)) (hy : X.N[i]? = some y := by rfl) (hyl : X.env.scope.names.lookup y = some .local := by rfl) (hsw : swapsWith (.ListComp elt [⟨tg, iter, ifs, 0⟩] scope pos) (some (.Name y py)) spos.line X.env = pure true := by exact sw_true rfl rfl rfl (by decide +kernel))
    (hs : ∀ x, foldedSetIterable iter X.env x = pure x := by intro _; rfl) :
    PS X (.Assign [.Name y py] (.ListComp elt [⟨tg, iter, ifs, 0⟩] scope pos) spos) (TSD ⟨X.K, cn⟩ E (sSet i (eLc src (own.map (·.2)) t cond el))) :=
  PS.imp (ps_setLc hc hN hy hyl hsw hi ok hg ht he hs) fun D σ H ⟨F, m, ρ, st, R, ev, p⟩ =>
    td_lc (c := ⟨X.K, cn⟩) hp ⟨F, m, ρ, st, R, ev, PostG.mono (PostS.sB (T := RVal X.K) p) fun v H1 ⟨F1, m1, st1, x, S1, R1, r1, p⟩ => p F1 H1 m1 _ (Stp.refl _ _ _) R1 ((ev.later S1).set r1)⟩
end PL

set_option Elab.async false
set_option linter.all false
set_option maxRecDepth 100000
/-! ### more: a statement never reached, defaults, texts, sorted -/
namespace PL
open PySem PySem.Spec L2
open PyProof.Rows hiding St
def sDead : SM := fun _ _ => .err
/-- a statement that the law never reaches -/
theorem s_dead {X : Cx} {cn : Str → Option Addr} {E : XK} {stm : Stmt} : PS X stm (TSD ⟨X.K, cn⟩ E sDead) := ⟨fun pins s σ H D I ⟨F, m, ρ, st, R, ev, p⟩ => p.elim⟩
/-! a def called with fewer values than it has parameters -/
def OkF (P : Program) (w : World) (K : PySem.W.Frag) (cn : Str → Option Addr) (mg : Str → Option Value) (base : Heap) (CX : CXT) (k : Nat) (x : Str) (ps : List Str) (ds : List PyData) (g : List Val → M Val) : Prop :=
  ∃ f fd, mg x = some (.ref f) ∧ PySem.W.keepIn K (.ref f) = true ∧ FnG P w K mg base CX k f fd ps (spD ⟨K, cn⟩ ps.length g) ∧ ∃ dv us, Vals dv us ∧ (∀ F, RpAll K F dv ds) ∧ Binds K fd ps us
def eCallF (n : Nat) (ds : List PyData) (g : List Val → M Val) (fs : Ev → M (List Val)) : Ev → M Val := fun ρ => bnd (fs ρ) fun xs => chk (decide (xs.length + ds.length = n)) (g (xs ++ ds.map .dat))
theorem RVals.app {K : PySem.W.Frag} {F : Hp} {m : List Addr} : ∀ {xs ys : List Val} {vs ws : List V}, RVals K F m xs vs → RVals K F m ys ws → RVals K F m (xs ++ ys) (vs ++ ws)
  | _, _, _, _, .nil, s => s
  | _, _, _, _, .cons h r, s => .cons h (RVals.app r s)
theorem RVals.ofRp {K : PySem.W.Frag} {F : Hp} {m : List Addr} : ∀ {ds : List PyData} {vs : List V}, RpAll K F vs ds → RVals K F m (ds.map .dat) vs
  | _, _, .nil => .nil
  | _, _, .cons h r => .cons h (RVals.ofRp r)
section
variable {X : Cx} {cn : Str → Option Addr} {CX : CXT} {k : Nat} {E : XK} {x : Str} {ps : List Str} {g : List Val → M Val} {p pos : Pos} {a : Expr} {es : List Expr} {fs : Ev → M (List Val)} {ds : List PyData}
theorem d_callF (F : OkF X.prog X.w X.K cn X.mg X.base CX k x ps ds g) (hr : Room k X.A) (hgd : X.A.guards = some []) (hx : Passes CX X E) (ha : PA X (a :: es) (TDA ⟨X.K, cn⟩ E fs)) (hg : Gl X x := by rfl) (hdb : (x == ("__debug__" : Str)) = false := by decide)
    (he : starEach (a :: es) X.env = (false, eval a X.env) :: starEach es X.env := by rfl) (hpl : (backTo pos (starEach es X.env)).any (·.1) = false := by rfl) :
    PE X (.Call (.Name x p) (a :: es) [] pos) (TD ⟨X.K, cn⟩ E (eCallF ps.length ds g fs)) := by
  obtain ⟨f, fd, hm, hk, F, dv, du, hdv, hdd, hb⟩ := F
  refine ⟨fun pins s σ H Q I ⟨F0, m0, ρ, st, R, ev, p⟩ => ?_⟩
  refine wpAny_Call_Name_kw (ld_glob I hg hm ?_ hdb)
  refine PySem.W.callWith_K (h₀ := X.base) I.ok.mod.kin hk (thn (ha.run pos pins s σ H _ I ⟨F0, m0, ρ, st, R, ev, PostG.bnd (T := RVals X.K) p⟩) fun us s1 ⟨vs, H1, I1, r, F1, m1, st1, xs, S1, R1, r1, p⟩ => ⟨I1.kIn, ?_⟩) he hpl
  obtain ⟨z, p⟩ := post_chk p
  have z := of_decide_eq_true z
  have l1 := RVals.length r1
  have l2 := r.length
  have l3 : dv.length = ds.length := (hdd F1).length
  have l4 := hdv.length
  have hl : (vs ++ dv).length = ps.length := by rw [List.length_append]; omega
  have hu : (us ++ du).length = ps.length := by rw [List.length_append]; omega
  exact wpAny_call (codeAny_mono (F.go hr hgd hx I1 (hb s1 us I1.kIn hu) (r.append hdv) (Q := Q) (E := E) ⟨hl, F1, m1, st1, _, R1, r1.app (RVals.ofRp (hdd F1)), p⟩) fun r s' h => by
    cases r with
    | error e => exact h
    | ok fl => cases fl with
      | ret u => exact h
      | next => exact h.elim
      | brk => exact h.elim
      | cont => exact h.elim)
end
theorem okF_of {P : Program} {w : World} {K : PySem.W.Frag} {cn : Str → Option Addr} {mg : Str → Option Value} {base : Heap} {CX : CXT} {k : Nat} {x qual : Str} {params : Arguments} {body : List Stmt} {scope : Scope} {dvs : List V} {kws : List (Str × V)} {f : Addr} {fd : FuncData} {ps : List Str} {g : List Val → M Val} {j : Nat} {ds : List PyData}
    (h : OkD P w K cn mg base CX k x ps g) (hm : mg x = some (.ref f)) (D : FunD K x qual params body scope dvs kws f fd) (hd : ∀ F, RpAll K F (dvs.drop j) ds) (hb : ∃ us, Vals (dvs.drop j) us ∧ Binds K fd ps us) : OkF P w K cn mg base CX k x ps ds g := by
  have F := fnG_of h hm D
  obtain ⟨us, h1, h2⟩ := hb
  exact ⟨f, fd, hm, D.kp, F, _, _, h1, hd, h2⟩
theorem binds_nil {K : PySem.W.Frag} {fd : FuncData} {ps : List Str} {vs : List V} (e : vs = []) (h : ∃ us, Vals vs us ∧ Binds K fd ps us) : Binds K fd ps [] := by
  obtain ⟨us, h1, h2⟩ := h
  subst e
  cases h1
  exact h2
/-! texts -/
def strsOf : List PyData → Option (List Str)
  | [] => some []
  | .str x :: r => (strsOf r).map (x :: ·)
  | _ :: _ => none
theorem strs_ok {K : PySem.W.Frag} {F : Hp} : ∀ {vs : List V} {ds : List PyData} {ys : List Str}, RpAll K F vs ds → strsOf ds = some ys → vs = ys.map V.str ∧ ds = ys.map .str
  | _, _, ys, .nil, e => by cases e; exact ⟨rfl, rfl⟩
  | _, _, ys, .cons h r, e => by
    cases h <;> first | cases e | skip
    rename_i x
    simp only [strsOf, Option.map_eq_some_iff] at e
    obtain ⟨zs, e1, rfl⟩ := e
    obtain ⟨h1, h2⟩ := strs_ok r e1
    exact ⟨by rw [h1]; rfl, by rw [h2]; rfl⟩
def strD : PyData → M Val
  | .str a => bS a
  | .int i => chk (decide (i.natAbs.log2 < 1920)) (bS (Str.ofString (toString i)))
  | _ => fail
def joinL (a : Str) (ds : List PyData) : M Val := fun st => match strsOf ds with
  | some ys => if (ys.map (·.length)).sum + ys.length * a.length ≤ 16777216 then .ok (.dat (.str (Txt.join a ys))) st else .err
  | none => .err
def joinD : PyData → PyData → M Val
  | .str a, .list ds => joinL a ds
  | .str a, .tuple ds => joinL a ds
  | _, _ => fail
/-- a receiver that is a text -/
def chkS (x : Val) : M Unit := fun st => match x with
  | .dat (.str _) => .ok () st
  | _ => .err
def eM1 (g : PyData → PyData → M Val) (f f' : Ev → M Val) : Ev → M Val := fun ρ => bnd (f ρ) fun x => bnd (chkS x) fun _ => bnd (f' ρ) fun y => on2 g x y
section
variable {X : Cx} {cn : Str → Option Addr} {E : XK} {pos p : Pos} {a b : Expr} {f f' : Ev → M Val}
theorem c_str : CallR X (.type "str") (rDA ⟨X.K, cn⟩ E (on1L strD)) := on1L_ok fun pins s σ H F m st x d us Q I rx R h1 p => by
  cases h1 <;> first | exact p.elim | skip
  · obtain ⟨z, p⟩ := post_chk p
    exact call_str_int pins s σ H _ us Q I rx ⟨_, rfl, of_decide_eq_true z, post_ok p R (Rp.str _)⟩
  · exact SkE.call_str_str pins s σ H _ us Q I rx ⟨_, rfl, post_ok p R (Rp.str _)⟩
theorem join_ok {c : Cf} {F H : Hp} {m : List Addr} {st : Sto} {z : Str} {w : V} {e : PyData} {Q : VK} (R : Rel c.K F H m st) (h : VB c.K F H w e) (p : Post c E F H m (joinD (.str z) e st) Q) :
    ∃ a p, ∃ ys : List Str, V.str z = .str a ∧ [w] = [.ref p] ∧ (SqL c.K H p (ys.map V.str) ∨ SqT c.K H p (ys.map V.str)) ∧ (ys.map (·.length)).sum + ys.length * a.length ≤ 16777216 ∧ Q (.str (Txt.join a ys)) H := by
  have key : ∀ {ds : List PyData} {vs : List V}, RpAll c.K F vs ds → Post c E F H m (joinL z ds st) Q → ∃ ys : List Str, vs = ys.map V.str ∧ (ys.map (·.length)).sum + ys.length * z.length ≤ 16777216 ∧ Q (.str (Txt.join z ys)) H := fun {ds vs} h2 p => by
    unfold joinL at p
    cases q : strsOf ds with
    | none => rw [q] at p; exact p.elim
    | some ys =>
      rw [q] at p
      dsimp only at p
      by_cases hl : (ys.map (·.length)).sum + ys.length * z.length ≤ 16777216
      · rw [if_pos hl] at p
        exact ⟨ys, (strs_ok h2 q).1, hl, post_ok p R (Rp.str _)⟩
      · rw [if_neg hl] at p; exact p.elim
  cases h with
  | lst h1 h2 =>
    obtain ⟨ys, rfl, hl, q⟩ := key h2 p
    exact ⟨z, _, ys, rfl, rfl, .inl (SqL.of h1), hl, q⟩
  | tup h1 h2 =>
    obtain ⟨ys, rfl, hl, q⟩ := key h2 p
    exact ⟨z, _, ys, rfl, rfl, .inr (R.le.sqT h1), hl, q⟩
  | _ => exact p.elim
theorem d_join {apos : Pos} (ha : PE X a (TD ⟨X.K, cn⟩ E f)) (hb : PE X b (TD ⟨X.K, cn⟩ E f')) (hs : starEach [b] X.env = [(false, eval b X.env)] := by rfl) (hbase : attributeBase a "join" X.env (eval a X.env) = eval a X.env := by rfl) (hline : (apos.endLine == pos.line) = true := by rfl) :
    PE X (.Call (.Attribute a "join" apos) [b] [] pos) (TD ⟨X.K, cn⟩ E (eM1 joinD f f')) :=
  PE.imp (pe_join ha hb hs hbase hline) fun σ H Q ⟨F, m, ρ, st, R, ev, p⟩ => ⟨F, m, ρ, st, R, ev, PostG.mono (PostG.bnd (T := RVal X.K) p) fun v H1 ⟨F1, m1, st1, x, S1, R1, r1, p⟩ => by
    cases x with
    | ref _ => exact p.elim
    | scr _ => exact p.elim
    | dat d =>
      obtain ⟨z, rfl⟩ : ∃ z, d = .str z := by
        cases d with
        | str z => exact ⟨z, rfl⟩
        | _ => exact p.elim
      cases r1
      refine ⟨⟨_, rfl⟩, F1, m1, ρ, st1, R1, ev.later S1, PostG.mono (PostG.bnd (T := RVal X.K) p) fun w H2 ⟨F2, m2, st2, y, S2, R2, r2, p⟩ => ?_⟩
      have p : Post ⟨X.K, cn⟩ E F2 H2 m2 (on2 joinD (.dat (.str z)) y st2) Q := p
      unfold on2 at p
      rw [show vw (.dat (.str z)) st2 = some (.str z) from rfl] at p
      cases ey : vw y st2 with
      | none => rw [ey] at p; exact p.elim
      | some e =>
        rw [ey] at p
        exact join_ok R2 (vw_ok R2 r2 ey) p⟩
/-! sorted of a list of texts -/
theorem lt_cps (x y : Str) : ltCps x.cps.toList y.cps.toList = sLt x y := by
  unfold sLt
  generalize x.cps.toList = a
  generalize y.cps.toList = b
  induction a generalizing b with
  | nil => cases b <;> simp [ltCps]
  | cons c r ih => cases b with
    | nil => simp [ltCps]
    | cons d t => simp only [ltCps, ih, List.cons_lt_cons_iff]; by_cases h : c < d <;> by_cases h2 : c = d <;> simp [h, h2] <;> omega
def leS (x y : Str) : Prop := sLt y x = false
theorem leS_iff {x y : Str} : leS x y ↔ x.cps.toList ≤ y.cps.toList := by
  unfold leS sLt
  simp
theorem leS_anti {x y : Str} (h : leS x y) (k : leS y x) : x = y := by
  have e := List.le_antisymm (leS_iff.mp h) (leS_iff.mp k)
  cases x; cases y
  congr 1
  exact Array.toList_inj.mp e
theorem leS_trans {x y z : Str} (h : leS x y) (k : leS y z) : leS x z := leS_iff.mpr (List.le_trans (leS_iff.mp h) (leS_iff.mp k))
theorem leS_of_lt {x y : Str} (h : sLt x y = true) : leS x y := by
  rw [leS_iff]
  unfold sLt at h
  exact List.le_of_lt (of_decide_eq_true h)
theorem rising_pw : ∀ (ys : List Str) (x : Str), risingS x ys = true → (x :: ys).Pairwise leS
  | [], x, _ => by simp
  | y :: r, x, h => by
    simp only [risingS, Bool.and_eq_true, Bool.not_eq_true'] at h
    have ih := rising_pw r y h.2
    have h1 : leS x y := by unfold leS; rw [← lt_cps]; exact h.1
    refine List.pairwise_cons.mpr ⟨fun z hz => ?_, ih⟩
    rcases List.mem_cons.mp hz with rfl | hz
    · exact h1
    · exact leS_trans h1 ((List.pairwise_cons.mp ih).1 z hz)
theorem sorted_pw {ys : List Str} (h : sortedS ys = true) : ys.Pairwise leS := by
  cases ys with
  | nil => simp
  | cons x r => exact rising_pw r x h
def insS (x : Str) : List Str → List Str
  | [] => [x]
  | y :: r => if sLt y x then y :: insS x r else x :: y :: r
def sortS : List Str → List Str
  | [] => []
  | x :: r => insS x (sortS r)
theorem ins_perm (x : Str) : ∀ ys, (insS x ys).Perm (x :: ys)
  | [] => .refl _
  | y :: r => by
    unfold insS
    split
    · exact ((ins_perm x r).cons y).trans (.swap _ _ _)
    · exact .refl _
theorem sort_perm : ∀ ys, (sortS ys).Perm ys
  | [] => .refl _
  | x :: r => (ins_perm x _).trans ((sort_perm r).cons x)
theorem ins_pw (x : Str) : ∀ ys, ys.Pairwise leS → (insS x ys).Pairwise leS
  | [], _ => by simp [insS]
  | y :: r, h => by
    obtain ⟨h1, h2⟩ := List.pairwise_cons.mp h
    unfold insS
    split
    · rename_i q
      refine List.pairwise_cons.mpr ⟨fun z hz => ?_, ins_pw x r h2⟩
      rcases List.mem_cons.mp ((ins_perm x r).mem_iff.mp hz) with rfl | hz
      · exact leS_of_lt q
      · exact h1 z hz
    · rename_i q
      have q : leS x y := by unfold leS; simpa using q
      refine List.pairwise_cons.mpr ⟨fun z hz => ?_, h⟩
      rcases List.mem_cons.mp hz with rfl | hz
      · exact q
      · exact leS_trans q (h1 z hz)
theorem sort_pw : ∀ ys, (sortS ys).Pairwise leS
  | [] => by simp [sortS]
  | x :: r => ins_pw x _ (sort_pw r)
theorem sort_uniq {xs ys : List Str} (p : ys.Perm xs) (h : sortedS ys = true) : ys = sortS xs :=
  List.Perm.eq_of_pairwise (le := leS) (fun _ _ _ _ => leS_anti) (sorted_pw h) (sort_pw xs) (p.trans (sort_perm xs).symm)
def sortD : PyData → M Val
  | .list ds => fun st => (match strsOf ds with
    | some xs => if xs.length < 64 then .ok (.dat (.list ((sortS xs).map .str))) st else .err
    | none => .err)
  | _ => fail
theorem rpStrs {K : PySem.W.Frag} {F : Hp} : ∀ (xs : List Str), RpAll K F (xs.map V.str) (xs.map .str)
  | [] => .nil
  | x :: r => .cons (.str x) (rpStrs r)
theorem c_sorted : CallR X (.builtin "sorted") (rDA ⟨X.K, cn⟩ E (on1L sortD)) := on1L_ok fun pins s σ H F m st x d us Q I rx R h1 p => by
  cases h1 with
  | @lst aa xs ds h1 h2 =>
    have p : Post ⟨X.K, cn⟩ E F H m ((match strsOf ds with
      | some xs => if xs.length < 64 then .ok (.dat (.list ((sortS xs).map .str))) st else .err
      | none => .err : Res Val)) Q := p
    cases q : strsOf ds with
    | none => rw [q] at p; exact p.elim
    | some ys =>
      rw [q] at p
      dsimp only at p
      obtain ⟨e1, e2⟩ := strs_ok h2 q
      subst e1
      by_cases hl : ys.length < 64
      · rw [if_pos hl] at p
        refine cr_sortedS pins s σ H _ us Q I rx ⟨_, ys, rfl, SqL.of h1, hl, fun zs pa hp hs hn => ?_⟩
        have e := sort_uniq hp hs
        subst e
        obtain ⟨S, R'⟩ := R.new hn (.lst ((sortS ys).map V.str))
        exact p _ _ _ _ S R' (.lst upd_same (rpStrs _))
      · rw [if_neg hl] at p; exact p.elim
  | _ => exact p.elim
end
end PL

set_option Elab.async false
set_option linter.all false
set_option maxRecDepth 100000
/-! ### reading dens forward -/
namespace PL
open PySem PySem.Spec L2
open PyProof.Rows hiding St
def W {α : Type} (x : M α) (st : Sto) (Q : α → Sto → Prop) : Prop := ∃ a st', x st = .ok a st' ∧ Q a st'
def WS (r : SRes) (Qn : Ev → Sto → Prop) (Qr : Val → Sto → Prop) : Prop := match r with
  | .nx ρ st => Qn ρ st
  | .rt v st => Qr v st
  | _ => False
variable {α β : Type} {st : Sto} {ρ : Ev}
theorem W.mono {x : M α} {Q Q' : α → Sto → Prop} (h : W x st Q) (k : ∀ a s, Q a s → Q' a s) : W x st Q' := let ⟨a, s, e, q⟩ := h; ⟨a, s, e, k a s q⟩
theorem WS.mono {r : SRes} {Qn Qn' : Ev → Sto → Prop} {Qr Qr' : Val → Sto → Prop} (h : WS r Qn Qr) (k : ∀ a s, Qn a s → Qn' a s) (k' : ∀ a s, Qr a s → Qr' a s) : WS r Qn' Qr' := by
  cases r with
  | nx ρ st => exact k _ _ h
  | rt v st => exact k' _ _ h
  | _ => exact h.elim
@[simp] theorem W_ret {a : α} {Q : α → Sto → Prop} : W (ret a) st Q ↔ Q a st := ⟨fun ⟨_, _, e, q⟩ => by cases e; exact q, fun q => ⟨_, _, rfl, q⟩⟩
theorem W_ok {a : α} {st' : Sto} {Q : α → Sto → Prop} {x : M α} (e : x st = .ok a st') : W x st Q ↔ Q a st' := ⟨fun ⟨_, _, e', q⟩ => by rw [e] at e'; cases e'; exact q, fun q => ⟨_, _, e, q⟩⟩
theorem W_opt {o : Option β} {k : β → α} {Q : α → Sto → Prop} {x : M α} (h1 : ∀ b, o = some b → x st = .ok (k b) st) (h2 : o = none → x st = .err) : W x st Q ↔ ∃ b, o = some b ∧ Q (k b) st := by
  constructor
  · rintro ⟨a, s, e, q⟩
    cases h : o with
    | none => rw [h2 h] at e; cases e
    | some b => rw [h1 b h] at e; cases e; exact ⟨b, rfl, q⟩
  · rintro ⟨b, e, q⟩
    exact ⟨_, _, h1 b e, q⟩
@[simp] theorem W_bnd {x : M α} {f : α → M β} {Q : β → Sto → Prop} : W (bnd x f) st Q ↔ W x st fun a st' => W (f a) st' Q := by
  constructor
  · rintro ⟨b, st', e, q⟩
    obtain ⟨a, s1, e1, e2⟩ := bnd_okE e
    exact ⟨a, s1, e1, b, st', e2, q⟩
  · rintro ⟨a, s1, e1, b, st', e2, q⟩
    exact ⟨b, st', by unfold bnd; rw [e1]; exact e2, q⟩
@[simp] theorem W_chk {b : Bool} {k : M Val} {Q : Val → Sto → Prop} : W (chk b k) st Q ↔ b = true ∧ W k st Q := by
  unfold W chk
  cases b <;> simp
@[simp] theorem W_bB {b : Bool} {Q : Val → Sto → Prop} : W (bB b) st Q ↔ Q (.dat (.bool b)) st := W_ret
@[simp] theorem W_bI {b : Int} {Q : Val → Sto → Prop} : W (bI b) st Q ↔ Q (.dat (.int b)) st := W_ret
@[simp] theorem W_bS {b : Str} {Q : Val → Sto → Prop} : W (bS b) st Q ↔ Q (.dat (.str b)) st := W_ret
@[simp] theorem W_eC {d : PyData} {Q : Val → Sto → Prop} : W (eC d ρ) st Q ↔ Q (.dat d) st := W_ret
@[simp] theorem W_eV {i : Nat} {Q : Val → Sto → Prop} : W (eV i ρ) st Q ↔ ∃ x, ρ[i]? = some (some x) ∧ Q x st := by
  unfold eV
  cases e : ρ[i]? with
  | none => simp [W, fail]
  | some o =>
    cases o with
    | none => simp [W, fail]
    | some x => simp [W_ret]
@[simp] theorem W_e1 {g : Val → M Val} {f : Ev → M Val} {Q : Val → Sto → Prop} : W (e1 g f ρ) st Q ↔ W (f ρ) st fun x st' => W (g x) st' Q := W_bnd
@[simp] theorem W_e2 {g : Val → Val → M Val} {f f' : Ev → M Val} {Q : Val → Sto → Prop} : W (e2 g f f' ρ) st Q ↔ W (f ρ) st fun x st' => W (f' ρ) st' fun y st'' => W (g x y) st'' Q := by
  unfold e2; rw [W_bnd]; simp only [W_bnd]
@[simp] theorem W_on1 {g : PyData → M Val} {d : PyData} {Q : Val → Sto → Prop} : W (on1 g (.dat d)) st Q ↔ W (g d) st Q := Iff.rfl
@[simp] theorem W_on2 {g : PyData → PyData → M Val} {d e : PyData} {Q : Val → Sto → Prop} : W (on2 g (.dat d) (.dat e)) st Q ↔ W (g d e) st Q := Iff.rfl
@[simp] theorem W_on1L {g : PyData → M Val} {x : Val} {Q : Val → Sto → Prop} : W (on1L g [x]) st Q ↔ W (on1 g x) st Q := Iff.rfl
@[simp] theorem W_eA {g : List Val → M Val} {fs : Ev → M (List Val)} {Q : Val → Sto → Prop} : W (eA g fs ρ) st Q ↔ W (fs ρ) st fun xs st' => W (g xs) st' Q := W_bnd
@[simp] theorem W_aNil {Q : List Val → Sto → Prop} : W (aNil ρ) st Q ↔ Q [] st := W_ret
@[simp] theorem W_aCons {f : Ev → M Val} {fs : Ev → M (List Val)} {Q : List Val → Sto → Prop} : W (aCons f fs ρ) st Q ↔ W (f ρ) st fun x st' => W (fs ρ) st' fun xs st'' => Q (x :: xs) st'' := by
  unfold aCons; simp only [W_bnd, W_ret]
@[simp] theorem W_eCall {n : Nat} {g : List Val → M Val} {fs : Ev → M (List Val)} {Q : Val → Sto → Prop} : W (eCall n g fs ρ) st Q ↔ W (fs ρ) st fun xs st' => xs.length = n ∧ W (g xs) st' Q := by
  unfold eCall; rw [W_bnd]; simp only [W_chk, decide_eq_true_eq]
@[simp] theorem W_eAnd {f f' : Ev → M Val} {Q : Val → Sto → Prop} : W (eAnd f f' ρ) st Q ↔ W (f ρ) st fun x st' => W (asB x) st' fun b st'' => W (if b then f' ρ else bB false) st'' Q := by
  unfold eAnd; rw [W_bnd]; simp only [W_bnd]
@[simp] theorem W_eOr {f f' : Ev → M Val} {Q : Val → Sto → Prop} : W (eOr f f' ρ) st Q ↔ W (f ρ) st fun x st' => W (asB x) st' fun b st'' => W (if b then bB true else f' ρ) st'' Q := by
  unfold eOr; rw [W_bnd]; simp only [W_bnd]
@[simp] theorem W_eNot {f : Ev → M Val} {Q : Val → Sto → Prop} : W (eNot f ρ) st Q ↔ W (f ρ) st fun x st' => W (asB x) st' fun b st'' => Q (.dat (.bool !b)) st'' := by
  unfold eNot; rw [W_bnd]; simp only [W_bnd, W_bB]
@[simp] theorem W_asB {b : Bool} {Q : Bool → Sto → Prop} : W (asB (.dat (.bool b))) st Q ↔ Q b st := W_ret
@[simp] theorem W_asI {b : Int} {Q : Int → Sto → Prop} : W (asI (.dat (.int b))) st Q ↔ Q b st := W_ret
@[simp] theorem W_eIf {t : Ev → M Bool} {f f' : Ev → M Val} {Q : Val → Sto → Prop} : W (eIf t f f' ρ) st Q ↔ W (t ρ) st fun b st' => W (if b then f ρ else f' ρ) st' Q := W_bnd
@[simp] theorem W_eB {f : Ev → M Val} {Q : Bool → Sto → Prop} : W (eB f ρ) st Q ↔ W (f ρ) st fun x st' => W (asB x) st' Q := W_bnd
@[simp] theorem W_eT {f : Ev → M Val} {Q : Bool → Sto → Prop} : W (eT f ρ) st Q ↔ W (f ρ) st fun x st' => W (truV x) st' Q := W_bnd
@[simp] theorem W_truV {d : PyData} {Q : Bool → Sto → Prop} : W (truV (.dat d)) st Q ↔ ∃ b, tru d = some b ∧ Q b st := by
  refine W_opt (k := id) (fun b h => ?_) (fun h => ?_) <;> simp [truV, vw, opt, h]
@[simp] theorem W_tN {t : Ev → M Bool} {Q : Bool → Sto → Prop} : W (tN t ρ) st Q ↔ W (t ρ) st fun b st' => Q (!b) st' := by unfold tN; rw [W_bnd]; simp only [W_ret]
@[simp] theorem W_tA {t u : Ev → M Bool} {Q : Bool → Sto → Prop} : W (tA t u ρ) st Q ↔ W (t ρ) st fun b st' => W (if b then u ρ else ret false) st' Q := W_bnd
@[simp] theorem W_tO {t u : Ev → M Bool} {Q : Bool → Sto → Prop} : W (tO t u ρ) st Q ↔ W (t ρ) st fun b st' => W (if b then ret true else u ρ) st' Q := W_bnd
@[simp] theorem W_tTrue {Q : Bool → Sto → Prop} : W (tTrue ρ) st Q ↔ Q true st := W_ret
@[simp] theorem W_frz {d : PyData} {Q : PyData → Sto → Prop} : W (frzV (.dat d)) st Q ↔ Q d st := W_ret
@[simp] theorem W_frzNil {Q : List PyData → Sto → Prop} : W (frzAll []) st Q ↔ Q [] st := W_ret
@[simp] theorem W_frzCons {x : Val} {xs : List Val} {Q : List PyData → Sto → Prop} : W (frzAll (x :: xs)) st Q ↔ W (frzV x) st fun d st' => W (frzAll xs) st' fun ds st'' => Q (d :: ds) st'' := by
  show W (bnd (frzV x) fun d => bnd (frzAll xs) fun ds => ret (d :: ds)) st Q ↔ _
  simp only [W_bnd, W_ret]
@[simp] theorem W_dTup {xs : List Val} {Q : Val → Sto → Prop} : W (dTup xs) st Q ↔ W (frzAll xs) st fun ds st' => ds.length ≤ sizeLine ∧ Q (.dat (.tuple ds)) st' := by
  unfold dTup; simp only [W_bnd, W_chk, W_ret, decide_eq_true_eq]
@[simp] theorem W_dLst {xs : List Val} {Q : Val → Sto → Prop} : W (dLst xs) st Q ↔ W (frzAll xs) st fun ds st' => ds.length ≤ sizeLine ∧ Q (.dat (.list ds)) st' := by
  unfold dLst; simp only [W_bnd, W_chk, W_ret, decide_eq_true_eq]
@[simp] theorem W_new {so : SO} {Q : Val → Sto → Prop} : W (newS so) st Q ↔ Q (.ref st.length) (st ++ [so]) := W_ok rfl
@[simp] theorem W_dLstN {xs : List Val} {Q : Val → Sto → Prop} : W (dLstN xs) st Q ↔ W (frzAll xs) st fun ds st' => ds.length ≤ sizeLine ∧ Q (.ref st'.length) (st' ++ [.lst ds]) := by
  unfold dLstN; simp only [W_bnd, W_chk, W_new, decide_eq_true_eq]
@[simp] theorem W_eSl {f : Ev → M Val} {lo hi : Ev → M (Option Int)} {Q : Val → Sto → Prop} : W (eSl f lo hi ρ) st Q ↔ W (f ρ) st fun x st' => W (lo ρ) st' fun l s2 => W (hi ρ) s2 fun h s3 => W (slD x l h) s3 Q := by
  unfold eSl; simp only [W_bnd]
@[simp] theorem W_oN {Q : Option Int → Sto → Prop} : W (oN ρ) st Q ↔ Q none st := W_ret
@[simp] theorem W_oS {f : Ev → M Val} {Q : Option Int → Sto → Prop} : W (oS f ρ) st Q ↔ W (f ρ) st fun x st' => W (asI x) st' fun i s2 => Q (some i) s2 := by
  unfold oS; simp only [W_bnd, W_ret]
@[simp] theorem W_slT {ds : List PyData} {l h : Option Int} {Q : Val → Sto → Prop} : W (slD (.dat (.tuple ds)) l h) st Q ↔ Q (.dat (.tuple (cutD ds l h))) st := W_ok rfl
@[simp] theorem W_slL {ds : List PyData} {l h : Option Int} {Q : Val → Sto → Prop} : W (slD (.dat (.list ds)) l h) st Q ↔ Q (.dat (.list (cutD ds l h))) st := W_ok rfl
@[simp] theorem W_slS {ns : List Int} {l h : Option Int} {Q : Val → Sto → Prop} : W (slD (.scr ns) l h) st Q ↔ Q (.dat (.list ((cutD ns l h).map .int))) st := W_ok rfl
@[simp] theorem W_ixT {ds : List PyData} {i : Int} {Q : Val → Sto → Prop} : W (ixD (.tuple ds) (.int i)) st Q ↔ ∃ d, L2.atI ds i = some d ∧ Q (.dat d) st := by
  exact W_opt (k := Val.dat) (fun b h => by simp [ixD, kgetD, h]) (fun h => by simp [ixD, kgetD, h])
@[simp] theorem W_ixL {ds : List PyData} {i : Int} {Q : Val → Sto → Prop} : W (ixD (.list ds) (.int i)) st Q ↔ ∃ d, L2.atI ds i = some d ∧ Q (.dat d) st := by
  exact W_opt (k := Val.dat) (fun b h => by simp [ixD, kgetD, h]) (fun h => by simp [ixD, kgetD, h])
@[simp] theorem W_eqD {d e : PyData} {Q : Val → Sto → Prop} : W (eqD d e) st Q ↔ (SeqAt.shaped d = true ∧ SeqAt.shaped e = true) ∧ Q (.dat (.bool (PyData.eqv d e))) st := by
  unfold eqD; simp only [W_chk, W_bB, Bool.and_eq_true]
@[simp] theorem W_neD {d e : PyData} {Q : Val → Sto → Prop} : W (neD d e) st Q ↔ (SeqAt.shaped d = true ∧ SeqAt.shaped e = true) ∧ Q (.dat (.bool (!PyData.eqv d e))) st := by
  unfold neD; simp only [W_chk, W_bB, Bool.and_eq_true]
@[simp] theorem W_inT {d : PyData} {ds : List PyData} {Q : Val → Sto → Prop} : W (inD d (.tuple ds)) st Q ↔ (SeqAt.shaped d = true ∧ SeqAt.shaped (.tuple ds) = true) ∧ Q (.dat (.bool (ds.any fun z => PyData.eqv z d))) st := by
  unfold inD inB
  by_cases h : (SeqAt.shaped d && SeqAt.shaped (.tuple ds)) = true
  · simp only [h, if_true]
    rw [Bool.and_eq_true] at h
    simp only [h, and_self, true_and]
    exact W_bB
  · have h' : ¬ (SeqAt.shaped d = true ∧ SeqAt.shaped (.tuple ds) = true) := by rwa [Bool.and_eq_true] at h
    simp [W, h, h']
@[simp] theorem W_inL {d : PyData} {ds : List PyData} {Q : Val → Sto → Prop} : W (inD d (.list ds)) st Q ↔ (SeqAt.shaped d = true ∧ SeqAt.shaped (.list ds) = true) ∧ Q (.dat (.bool (ds.any fun z => PyData.eqv z d))) st := by
  unfold inD inB
  by_cases h : (SeqAt.shaped d && SeqAt.shaped (.list ds)) = true
  · simp only [h, if_true]
    rw [Bool.and_eq_true] at h
    simp only [h, and_self, true_and]
    exact W_bB
  · have h' : ¬ (SeqAt.shaped d = true ∧ SeqAt.shaped (.list ds) = true) := by rwa [Bool.and_eq_true] at h
    simp [W, h, h']
@[simp] theorem W_isD {T : String} {d : PyData} {Q : Val → Sto → Prop} : W (isD T d) st Q ↔ ∃ b, kitB (tyN d) T = some b ∧ Q (.dat (.bool b)) st := by
  exact W_opt (k := fun b => Val.dat (.bool b)) (fun b h => by simp [isD, h, bB, ret]) (fun h => by simp [isD, h])
@[simp] theorem W_lenT {ds : List PyData} {Q : Val → Sto → Prop} : W (lenD (.tuple ds)) st Q ↔ Q (.dat (.int ds.length)) st := W_ret
@[simp] theorem W_lenL {ds : List PyData} {Q : Val → Sto → Prop} : W (lenD (.list ds)) st Q ↔ Q (.dat (.int ds.length)) st := W_ret
@[simp] theorem W_addI {i j : Int} {Q : Val → Sto → Prop} : W (addD (.int i) (.int j)) st Q ↔ Q (.dat (.int (i + j))) st := W_ret
@[simp] theorem W_subI {i j : Int} {Q : Val → Sto → Prop} : W (subD (.int i) (.int j)) st Q ↔ Q (.dat (.int (i - j))) st := W_ret
@[simp] theorem W_addT {xs ys : List PyData} {Q : Val → Sto → Prop} : W (addD (.tuple xs) (.tuple ys)) st Q ↔ xs.length + ys.length ≤ sizeLine ∧ Q (.dat (.tuple (xs ++ ys))) st := by
  unfold addD; simp only [W_chk, W_ret, decide_eq_true_eq]
@[simp] theorem W_addL {xs ys : List PyData} {Q : Val → Sto → Prop} : W (addD (.list xs) (.list ys)) st Q ↔ xs.length + ys.length ≤ sizeLine ∧ Q (.dat (.list (xs ++ ys))) st := by
  unfold addD; simp only [W_chk, W_ret, decide_eq_true_eq]
@[simp] theorem W_mulI {i j : Int} {Q : Val → Sto → Prop} : W (mulD (.int i) (.int j)) st Q ↔ (i64 i || i64 j) = true ∧ Q (.dat (.int (i * j))) st := by
  unfold mulD; simp only [W_chk, W_bI]
@[simp] theorem W_fdivI {i j : Int} {Q : Val → Sto → Prop} : W (fdivD (.int i) (.int j)) st Q ↔ (j ≠ 0 ∧ j.natAbs < 1073741824) ∧ Q (.dat (.int (i.fdiv j))) st := by
  unfold fdivD; simp only [W_chk, W_bI, decide_eq_true_eq]
@[simp] theorem W_modI {i j : Int} {Q : Val → Sto → Prop} : W (modD (.int i) (.int j)) st Q ↔ j ≠ 0 ∧ Q (.dat (.int (i.fmod j))) st := by
  unfold modD; simp only [W_chk, W_bI, decide_eq_true_eq]
@[simp] theorem W_powI {i j : Int} {Q : Val → Sto → Prop} : W (powD (.int i) (.int j)) st Q ↔ (0 ≤ j ∧ j ≤ 1000000 ∧ i.natAbs < 2 ^ 64) ∧ Q (.dat (.int (i ^ j.toNat))) st := by
  unfold powD; simp only [W_chk, W_bI, decide_eq_true_eq]
@[simp] theorem W_intI {i : Int} {Q : Val → Sto → Prop} : W (intD (.int i)) st Q ↔ Q (.dat (.int i)) st := W_ret
@[simp] theorem W_ltI {i j : Int} {Q : Val → Sto → Prop} : W (ltD (.int i) (.int j)) st Q ↔ Q (.dat (.bool (decide (i < j)))) st := W_ret
@[simp] theorem W_leI {i j : Int} {Q : Val → Sto → Prop} : W (leD (.int i) (.int j)) st Q ↔ Q (.dat (.bool (decide (i ≤ j)))) st := W_ret
@[simp] theorem W_gtI {i j : Int} {Q : Val → Sto → Prop} : W (gtD (.int i) (.int j)) st Q ↔ Q (.dat (.bool (decide (j < i)))) st := W_ret
@[simp] theorem W_geI {i j : Int} {Q : Val → Sto → Prop} : W (geD (.int i) (.int j)) st Q ↔ Q (.dat (.bool (decide (j ≤ i)))) st := W_ret
@[simp] theorem W_repr {d : PyData} {Q : Val → Sto → Prop} : W (reprD d) st Q ↔ (d.showable && !d.hasDict && decide (d.depth ≤ 60) && decide (d.shown.length ≤ sizeLine)) = true ∧ Q (.dat (.str d.shown)) st := by
  unfold reprD; simp only [W_chk, W_bS]
@[simp] theorem W_listT {ds : List PyData} {Q : Val → Sto → Prop} : W (listD (.tuple ds)) st Q ↔ Q (.dat (.list ds)) st := W_ret
@[simp] theorem W_listL {ds : List PyData} {Q : Val → Sto → Prop} : W (listD (.list ds)) st Q ↔ Q (.dat (.list ds)) st := W_ret
@[simp] theorem W_tupL {ds : List PyData} {Q : Val → Sto → Prop} : W (tupleD (.list ds)) st Q ↔ Q (.dat (.tuple ds)) st := W_ret
@[simp] theorem W_tupT {ds : List PyData} {Q : Val → Sto → Prop} : W (tupleD (.tuple ds)) st Q ↔ Q (.dat (.tuple ds)) st := W_ret
@[simp] theorem W_all {ds : List PyData} {Q : Val → Sto → Prop} : W (allD (.list ds)) st Q ↔ ∃ bs, bools ds = some bs ∧ Q (.dat (.bool (bs.all id))) st := by
  exact W_opt (k := fun bs : List Bool => Val.dat (.bool (bs.all id))) (fun b h => by simp [allD, h, bB, ret]) (fun h => by simp [allD, h])
@[simp] theorem W_kin {kvs : List (Str × PyData)} {z : Str} {Q : Val → Sto → Prop} : W (kinD kvs (.str z)) st Q ↔ Q (.dat (.bool (lookS kvs z).isSome)) st := W_ret
@[simp] theorem W_kget {kvs : List (Str × PyData)} {z : Str} {Q : Val → Sto → Prop} : W (kgetD kvs (.str z)) st Q ↔ ∃ d, lookS kvs z = some d ∧ Q (.dat d) st := by
  exact W_opt (k := Val.dat) (fun b h => by simp [ixD, kgetD, h]) (fun h => by simp [ixD, kgetD, h])
@[simp] theorem W_ite {p : Prop} [Decidable p] {x y : M α} {Q : α → Sto → Prop} : W (if p then x else y) st Q ↔ if p then W x st Q else W y st Q := by split <;> rfl
theorem atI_nat {xs : List α} (i : Nat) : atI xs (i : Int) = xs[i]? := by
  unfold atI ixN
  rw [if_pos (by omega)]
  by_cases h : i < xs.length
  · rw [if_pos (by omega)]; simp
  · rw [if_neg (by omega)]; simp; omega
@[simp] theorem atI_0 {xs : List α} : atI xs 0 = xs[0]? := atI_nat 0
@[simp] theorem atI_1 {xs : List α} : atI xs 1 = xs[1]? := atI_nat 1
@[simp] theorem atI_2 {xs : List α} : atI xs 2 = xs[2]? := atI_nat 2
@[simp] theorem atI_3 {xs : List α} : atI xs 3 = xs[3]? := atI_nat 3
@[simp] theorem atI_4 {xs : List α} : atI xs 4 = xs[4]? := atI_nat 4
@[simp] theorem atI_5 {xs : List α} : atI xs 5 = xs[5]? := atI_nat 5
@[simp] theorem atI_6 {xs : List α} : atI xs 6 = xs[6]? := atI_nat 6
@[simp] theorem atI_7 {xs : List α} : atI xs 7 = xs[7]? := atI_nat 7
@[simp] theorem atI_8 {xs : List α} : atI xs 8 = xs[8]? := atI_nat 8
@[simp] theorem atI_9 {xs : List α} : atI xs 9 = xs[9]? := atI_nat 9
@[simp] theorem atI_10 {xs : List α} : atI xs 10 = xs[10]? := atI_nat 10
@[simp] theorem atI_11 {xs : List α} : atI xs 11 = xs[11]? := atI_nat 11
@[simp] theorem atI_12 {xs : List α} : atI xs 12 = xs[12]? := atI_nat 12
@[simp] theorem atI_13 {xs : List α} : atI xs 13 = xs[13]? := atI_nat 13
@[simp] theorem atI_14 {xs : List α} : atI xs 14 = xs[14]? := atI_nat 14
@[simp] theorem atI_15 {xs : List α} : atI xs 15 = xs[15]? := atI_nat 15
@[simp] theorem atI_16 {xs : List α} : atI xs 16 = xs[16]? := atI_nat 16
@[simp] theorem atI_17 {xs : List α} : atI xs 17 = xs[17]? := atI_nat 17
@[simp] theorem atI_18 {xs : List α} : atI xs 18 = xs[18]? := atI_nat 18
@[simp] theorem atI_19 {xs : List α} : atI xs 19 = xs[19]? := atI_nat 19
@[simp] theorem atI_20 {xs : List α} : atI xs 20 = xs[20]? := atI_nat 20
@[simp] theorem ofS_inj {a b : String} : (Str.ofString a = Str.ofString b) ↔ a = b := by
  constructor
  · intro h
    rw [Str.ofString_eq_toList, Str.ofString_eq_toList] at h
    injection h with h
    have h2 : a.toList.map Char.toNat = b.toList.map Char.toNat := by simpa using congrArg Array.toList h
    have h3 : a.toList = b.toList := (List.map_inj_right fun x y e => Char.ext (UInt32.toNat_inj.mp e)).mp h2
    exact String.toList_inj.mp h3
  · intro h; rw [h]
theorem i64_fmod {x m : Int} (h : 0 < m ∧ m < 2 ^ 64) : i64 (x.fmod m) = true := by
  have h1 := Int.fmod_nonneg_of_pos x h.1
  have h2 := Int.fmod_lt_of_pos x h.1
  simp only [i64, decide_eq_true_eq]
  omega
theorem fm_lo {x m : Int} (h : 0 < m) : -18446744073709551616 < x.fmod m := by
  have h1 := Int.fmod_nonneg_of_pos x h
  omega
theorem fm_hi {x m : Int} (h : 0 < m) (h' : m ≤ 18446744073709551616) : x.fmod m < 18446744073709551616 := by
  have h2 := Int.fmod_lt_of_pos x h
  omega
/-! statements -/
@[simp] theorem WS_ite {p : Prop} [Decidable p] {x y : SRes} {Qn : Ev → Sto → Prop} {Qr : Val → Sto → Prop} : WS (if p then x else y) Qn Qr ↔ if p then WS x Qn Qr else WS y Qn Qr := by split <;> rfl
@[simp] theorem WS_nil {Qn : Ev → Sto → Prop} {Qr : Val → Sto → Prop} : WS (sNil ρ st) Qn Qr ↔ Qn ρ st := Iff.rfl
@[simp] theorem WS_seq {s t : SM} {Qn : Ev → Sto → Prop} {Qr : Val → Sto → Prop} : WS (sSeq2 s t ρ st) Qn Qr ↔ WS (s ρ st) (fun ρ' st' => WS (t ρ' st') Qn Qr) Qr := by
  unfold sSeq2
  cases s ρ st <;> exact Iff.rfl
@[simp] theorem WS_sB {x : M α} {k : α → Sto → SRes} {Qn : Ev → Sto → Prop} {Qr : Val → Sto → Prop} : WS (sB x k st) Qn Qr ↔ W x st fun a st' => WS (k a st') Qn Qr := by
  unfold sB W
  cases h : x st with
  | ok a s => exact ⟨fun q => ⟨a, s, rfl, q⟩, fun ⟨_, _, e, q⟩ => by cases e; exact q⟩
  | exc n fs s => exact ⟨fun q => q.elim, fun ⟨_, _, e, _⟩ => by cases e⟩
  | err => exact ⟨fun q => q.elim, fun ⟨_, _, e, _⟩ => by cases e⟩
@[simp] theorem WS_ret {f : Ev → M Val} {Qn : Ev → Sto → Prop} {Qr : Val → Sto → Prop} : WS (sRet f ρ st) Qn Qr ↔ W (f ρ) st Qr := WS_sB
@[simp] theorem WS_expr {f : Ev → M Val} {Qn : Ev → Sto → Prop} {Qr : Val → Sto → Prop} : WS (sExpr f ρ st) Qn Qr ↔ W (f ρ) st fun _ st' => Qn ρ st' := WS_sB
@[simp] theorem WS_set {i : Nat} {f : Ev → M Val} {Qn : Ev → Sto → Prop} {Qr : Val → Sto → Prop} : WS (sSet i f ρ st) Qn Qr ↔ W (f ρ) st fun x st' => Qn (ρ.set i (some x)) st' := WS_sB
@[simp] theorem WS_if {t : Ev → M Bool} {a b : SM} {Qn : Ev → Sto → Prop} {Qr : Val → Sto → Prop} : WS (sIf t a b ρ st) Qn Qr ↔ W (t ρ) st fun k st' => WS (if k then a ρ st' else b ρ st') Qn Qr := by
  unfold sIf; rw [WS_sB]
@[simp] theorem WS_par2 {i j : Nat} {fs : Ev → M (List Val)} {Qn : Ev → Sto → Prop} {Qr : Val → Sto → Prop} : WS (sPar2 i j fs ρ st) Qn Qr ↔ W (fs ρ) st fun xs st' => match xs with | [x, y] => Qn ((ρ.set i (some x)).set j (some y)) st' | _ => False := by
  unfold sPar2; rw [WS_sB]
  refine iff_of_eq (congrArg _ (funext fun xs => funext fun s => ?_))
  rcases xs with _ | ⟨x, _ | ⟨y, _ | _⟩⟩ <;> rfl
@[simp] theorem WS_par3 {i j l : Nat} {fs : Ev → M (List Val)} {Qn : Ev → Sto → Prop} {Qr : Val → Sto → Prop} : WS (sPar3 i j l fs ρ st) Qn Qr ↔ W (fs ρ) st fun xs st' => match xs with | [x, y, z] => Qn (((ρ.set i (some x)).set j (some y)).set l (some z)) st' | _ => False := by
  unfold sPar3; rw [WS_sB]
  refine iff_of_eq (congrArg _ (funext fun xs => funext fun s => ?_))
  rcases xs with _ | ⟨x, _ | ⟨y, _ | ⟨z, _ | _⟩⟩⟩ <;> rfl
@[simp] theorem WS_unp {t : Tg} {f : Ev → M Val} {Qn : Ev → Sto → Prop} {Qr : Val → Sto → Prop} : WS (sUnp t f ρ st) Qn Qr ↔ W (f ρ) st fun x st' => W (frzV x) st' fun d s2 => ∃ ρ', t d ρ = some ρ' ∧ Qn ρ' s2 := by
  unfold sUnp; rw [WS_sB]
  refine ⟨fun h => h.mono fun x s q => ?_, fun h => h.mono fun x s q => ?_⟩
  · rw [WS_sB] at q
    refine q.mono fun d s2 q => ?_
    cases e : t d ρ with
    | none => rw [e] at q; exact q.elim
    | some ρ' => rw [e] at q; exact ⟨ρ', rfl, q⟩
  · rw [WS_sB]
    refine q.mono fun d s2 ⟨ρ', e, q⟩ => ?_
    rw [e]
    exact q
@[simp] theorem WS_for {src : Ev → M (List PyData)} {t : Tg} {body : SM} {Qn : Ev → Sto → Prop} {Qr : Val → Sto → Prop} : WS (sFor src t body ρ st) Qn Qr ↔ W (src ρ) st fun its st' => WS (forGo t body its ρ st') Qn Qr := by
  unfold sFor; rw [WS_sB]
@[simp] theorem WS_for_nil {t : Tg} {body : SM} {Qn : Ev → Sto → Prop} {Qr : Val → Sto → Prop} : WS (forGo t body [] ρ st) Qn Qr ↔ Qn ρ st := Iff.rfl
/-- a turn that ends as its body ends, without break or continue -/
theorem WS_for_cons {t : Tg} {body : SM} {d : PyData} {r : List PyData} {Qn : Ev → Sto → Prop} {Qr : Val → Sto → Prop} {ρ1 : Ev} (e : t d ρ = some ρ1) (h : WS (body ρ1 st) (fun ρ2 st2 => WS (forGo t body r ρ2 st2) Qn Qr) Qr) : WS (forGo t body (d :: r) ρ st) Qn Qr := by
  unfold forGo
  rw [e]
  dsimp only
  cases q : body ρ1 st with
  | nx ρ2 st2 => rw [q] at h; exact h
  | rt v st2 => rw [q] at h; exact h
  | _ => rw [q] at h; exact h.elim
/-- a loop by an invariant over what is taken -/
theorem for_inv {t : Tg} {body : SM} {Qn : Ev → Sto → Prop} {Qr : Val → Sto → Prop} (I : Nat → Ev → Sto → Prop) : ∀ (its : List PyData) (k : Nat) (ρ : Ev) (st : Sto), I k ρ st →
    (∀ i d ρ st, its[i]? = some d → I (k + i) ρ st → ∃ ρ1, t d ρ = some ρ1 ∧ WS (body ρ1 st) (fun ρ2 st2 => I (k + i + 1) ρ2 st2) Qr) → (∀ ρ st, I (k + its.length) ρ st → Qn ρ st) → WS (forGo t body its ρ st) Qn Qr
  | [], k, ρ, st, h0, _, hd => hd ρ st (by simpa using h0)
  | d :: r, k, ρ, st, h0, hs, hd => by
    obtain ⟨ρ1, e, h⟩ := hs 0 d ρ st rfl (by simpa using h0)
    refine WS_for_cons e (h.mono (fun ρ2 st2 q => ?_) fun _ _ q => q)
    refine for_inv I r (k + 1) ρ2 st2 (by simpa using q) (fun i d' ρ' st' e' q' => ?_) (fun ρ' st' q' => hd ρ' st' (by rw [List.length_cons]; rw [show k + (r.length + 1) = k + 1 + r.length by omega]; exact q'))
    have := hs (i + 1) d' ρ' st' (by simpa using e') (by rw [show k + (i + 1) = k + 1 + i by omega]; exact q')
    rw [show k + 1 + i + 1 = k + (i + 1) + 1 by omega]
    exact this
@[simp] theorem W_rng1 {fs : Ev → M (List Val)} {Q : List PyData → Sto → Prop} : W (sRng1 fs ρ) st Q ↔ W (fs ρ) st fun xs st' => ∃ j : Int, xs = [.dat (.int j)] ∧ (-(2 ^ 62) ≤ j ∧ j < 2 ^ 62) ∧ Q ((List.range j.toNat).map fun (i : Nat) => .int (0 + (i : Int))) st' := by
  unfold sRng1; rw [W_bnd]
  refine ⟨fun h => h.mono fun xs s ⟨a, s', e, q⟩ => ?_, fun h => h.mono fun xs s ⟨j, e, hb, q⟩ => ?_⟩
  · dsimp only at e
    split at e
    · split at e
      · cases e; exact ⟨_, rfl, ‹_›, q⟩
      · cases e
    · cases e
  · subst e
    exact ⟨_, _, by dsimp only; rw [if_pos hb], q⟩
@[simp] theorem W_sSeq {f : Ev → M Val} {Q : List PyData → Sto → Prop} : W (sSeq f ρ) st Q ↔ W (f ρ) st fun x st' => W (frzV x) st' fun d s2 => W (items d) s2 Q := by
  unfold sSeq; simp only [W_bnd]
@[simp] theorem W_itL {ds : List PyData} {Q : List PyData → Sto → Prop} : W (items (.list ds)) st Q ↔ Q ds st := W_ret
@[simp] theorem W_itT {ds : List PyData} {Q : List PyData → Sto → Prop} : W (items (.tuple ds)) st Q ↔ Q ds st := W_ret
@[simp] theorem W_itS {x : Str} {Q : List PyData → Sto → Prop} : W (items (.str x)) st Q ↔ Q (signs x) st := W_ret
@[simp] theorem W_eLc {src : Ev → M (List PyData)} {vs : List Nat} {t : Tg} {cond : Ev → M Bool} {elt : Ev → M Val} {Q : Val → Sto → Prop} : W (eLc src vs t cond elt ρ) st Q ↔ W (src ρ) st fun its st' => its.length ≤ sizeLine ∧ W (compGo ρ vs t cond elt its) st' fun l s2 => Q (.dat (.list l)) s2 := by
  unfold eLc; rw [W_bnd]
  simp only [W_chk, W_bnd, W_ret, decide_eq_true_eq]
  have key : ∀ its s (R : List PyData → Sto → Prop), W (noX (compGo ρ vs t cond elt its)) s R ↔ W (compGo ρ vs t cond elt its) s R := fun its s R => by
    unfold W noX
    cases compGo ρ vs t cond elt its s <;> simp
  simp only [key]
@[simp] theorem W_cgNil {vs : List Nat} {t : Tg} {cond : Ev → M Bool} {elt : Ev → M Val} {Q : List PyData → Sto → Prop} : W (compGo ρ vs t cond elt []) st Q ↔ Q [] st := W_ret
@[simp] theorem W_cgCons {vs : List Nat} {t : Tg} {cond : Ev → M Bool} {elt : Ev → M Val} {d : PyData} {r : List PyData} {Q : List PyData → Sto → Prop} : W (compGo ρ vs t cond elt (d :: r)) st Q ↔ ∃ ρ1, t d (wipeE ρ vs) = some ρ1 ∧ W (cond ρ1) st fun b s1 =>
    if b = true then W (elt ρ1) s1 fun x s2 => W (frzV x) s2 fun e s3 => W (compGo ρ vs t cond elt r) s3 fun l s4 => Q (e :: l) s4 else W (compGo ρ vs t cond elt r) s1 Q := by
  show W (bnd _ _) st Q ↔ _
  rw [W_bnd]
  cases e : t d (wipeE ρ vs) with
  | none =>
    constructor
    · rintro ⟨a, s, h, _⟩
      unfold turnD at h
      rw [e] at h
      cases h
    · rintro ⟨_, h, _⟩
      cases h
  | some ρ1 =>
    have h : turnD ρ vs t cond elt d = bnd (cond ρ1) fun b => if b then bnd (elt ρ1) fun x => bnd (frzV x) fun e => ret (some e) else ret none := by
      funext s
      unfold turnD
      rw [e]
    rw [h]
    simp only [W_bnd, W_ret, Option.some.injEq, exists_eq_left']
    constructor
    · refine fun h => h.mono fun b s q => ?_
      cases b with
      | true => rw [if_pos rfl] at q ⊢; simpa only [W_bnd, W_ret] using q
      | false => rw [if_neg (by simp)] at q ⊢; simpa only [W_ret] using q
    · refine fun h => h.mono fun b s q => ?_
      cases b with
      | true => rw [if_pos rfl] at q ⊢; simpa only [W_bnd, W_ret] using q
      | false => rw [if_neg (by simp)] at q ⊢; simpa only [W_ret] using q
/-! a dict at the store's head -/
@[simp] theorem W_dget0 {kvs : List (Key × PyData)} {r : Sto} {x : Str} {Q : Val → Sto → Prop} : W (dgetV (.ref 0) (.dat (.str x))) (.dct kvs :: r) Q ↔ ∃ d, valD kvs (.inr x) = some d ∧ Q (.dat d) (.dct kvs :: r) := by
  refine W_opt (k := Val.dat) (fun b h => ?_) (fun h => ?_) <;> simp [dgetV, dctV, vw, keyD, h]
@[simp] theorem WS_dput {fo fi fv : Ev → M Val} {Qn : Ev → Sto → Prop} {Qr : Val → Sto → Prop} : WS (sDput fo fi fv ρ st) Qn Qr ↔ W (fv ρ) st fun z s1 => W (frzV z) s1 fun d s2 => W (fo ρ) s2 fun x s3 => W (fi ρ) s3 fun y s4 => WS (dputV x y d ρ s4) Qn Qr := by
  unfold sDput
  simp only [WS_sB]
@[simp] theorem WS_dput0 {x : Str} {d : PyData} {r : Sto} {kvs : List (Key × PyData)} {Qn : Ev → Sto → Prop} {Qr : Val → Sto → Prop} : WS (dputV (.ref 0) (.dat (.str x)) d ρ (.dct kvs :: r)) Qn Qr ↔ kvs.length < sizeLine ∧ Qn ρ (.dct (putD kvs (.inr x) d) :: r) := by
  by_cases h : kvs.length < sizeLine <;> simp [dputV, dctV, vw, keyD, WS, h]
/-! the feed of a law -/
def feedD (cells : List Int) (turn rest drawn : Int) : List (Key × PyData) := [(.inr "cells", .list (cells.map .int)), (.inr "turn", .int turn), (.inr "rest", .int rest), (.inr "drawn", .int drawn)]
variable {cells : List Int} {turn rest drawn : Int}
@[simp] theorem feed_cells : valD (feedD cells turn rest drawn) (.inr "cells") = some (.list (cells.map .int)) := rfl
@[simp] theorem feed_turn : valD (feedD cells turn rest drawn) (.inr "turn") = some (.int turn) := rfl
@[simp] theorem feed_rest : valD (feedD cells turn rest drawn) (.inr "rest") = some (.int rest) := rfl
@[simp] theorem feed_drawn : valD (feedD cells turn rest drawn) (.inr "drawn") = some (.int drawn) := rfl
@[simp] theorem feed_len : (feedD cells turn rest drawn).length = 4 := rfl
@[simp] theorem feed_pturn {i : Int} : putD (feedD cells turn rest drawn) (.inr "turn") (.int i) = feedD cells i rest drawn := rfl
@[simp] theorem feed_prest {i : Int} : putD (feedD cells turn rest drawn) (.inr "rest") (.int i) = feedD cells turn i drawn := rfl
@[simp] theorem feed_pdrawn {i : Int} : putD (feedD cells turn rest drawn) (.inr "drawn") (.int i) = feedD cells turn rest i := rfl
def FeedO (o : SO) : Prop := ∃ (cells : List Int) (turn rest drawn : Int), o = .dct (feedD cells turn rest drawn) ∧ 0 ≤ turn
theorem feedO_mk (h : 0 ≤ turn) : FeedO (.dct (feedD cells turn rest drawn)) := ⟨_, _, _, _, rfl, h⟩
theorem feed_cell {c0 : Int} (h : 0 ≤ turn) : ∃ c : Int, atI ((c0 :: cells).map PyData.int) (turn.fmod (((c0 :: cells).length : Nat) : Int)) = some (.int c) := by
  have h1 := Int.fmod_nonneg_of_pos turn (b := (((c0 :: cells).length : Nat) : Int)) (by simp)
  have h2 := Int.fmod_lt_of_pos turn (b := (((c0 :: cells).length : Nat) : Int)) (by simp)
  obtain ⟨k, hk⟩ := Int.eq_ofNat_of_zero_le h1
  rw [hk] at h2 ⊢
  rw [atI_nat, List.getElem?_map]
  have h3 : k < (c0 :: cells).length := by omega
  exact ⟨(c0 :: cells)[k], by rw [List.getElem?_eq_getElem h3]; rfl⟩
/-! a def -/
@[simp] theorem W_runF {N : Nat} {body : SM} {xs : List Val} {Q : Val → Sto → Prop} : W (runF N body xs) st Q ↔ WS (body (xs.map some ++ List.replicate (N - xs.length) none) st) (fun _ st' => W (fun s => gcV st.length (.dat .none) s) st' Q) (fun v st' => W (fun s => gcV st.length v s) st' Q) := by
  cases h : body (xs.map some ++ List.replicate (N - xs.length) none) st <;> simp only [W, runF, h, WS]
  all_goals exact ⟨fun ⟨_, _, e, _⟩ => (nomatch e), fun h => h.elim⟩
@[simp] theorem W_gcD {n : Nat} {d : PyData} {Q : Val → Sto → Prop} : W (fun s => gcV n (.dat d) s) st Q ↔ Q (.dat d) (st.take n) := W_ok rfl
theorem cg_pure {vs : List Nat} {t : Tg} {cond : Ev → M Bool} {elt : Ev → M Val} {c : PyData → Bool} {g : PyData → PyData} : ∀ (ds : List PyData) {st : Sto} {Q : List PyData → Sto → Prop}, (∀ d ∈ ds, ∃ ρ1, t d (wipeE ρ vs) = some ρ1 ∧ (∀ st Q, W (cond ρ1) st Q ↔ Q (c d) st) ∧ (c d = true → ∀ st Q, W (elt ρ1) st Q ↔ Q (.dat (g d)) st)) → (W (compGo ρ vs t cond elt ds) st Q ↔ Q ((ds.filter c).map g) st)
  | [], st, Q, _ => W_cgNil
  | d :: r, st, Q, h => by
    obtain ⟨ρ1, e, h1, h2⟩ := h d (by simp)
    have ih := fun {st : Sto} {Q : List PyData → Sto → Prop} => cg_pure r (st := st) (Q := Q) fun d' q => h d' (by simp [q])
    rw [W_cgCons]
    simp only [e, Option.some.injEq, exists_eq_left', h1]
    cases hc : c d with
    | true => simp [h2 hc, ih, hc]
    | false => simp [ih, hc]
theorem cg_inv {vs : List Nat} {t : Tg} {elt : Ev → M Val} (I : Sto → Prop) (P : PyData → Prop) : ∀ (ds : List PyData) {st : Sto}, (∀ d ∈ ds, ∀ st, I st → ∃ ρ1, t d (wipeE ρ vs) = some ρ1 ∧ W (elt ρ1) st fun x s2 => W (frzV x) s2 fun e s3 => P e ∧ I s3) → I st → W (compGo ρ vs t tTrue elt ds) st fun l s => l.length = ds.length ∧ (∀ e ∈ l, P e) ∧ I s
  | [], st, _, i => by simp [i]
  | d :: r, st, h, i => by
    obtain ⟨ρ1, e, h1⟩ := h d (by simp) st i
    rw [W_cgCons]
    refine ⟨ρ1, e, ?_⟩
    simp only [W_tTrue, if_true]
    refine h1.mono fun x s2 h2 => h2.mono fun e s3 ⟨p, i3⟩ => (cg_inv I P r (fun d' q => h d' (by simp [q])) i3).mono fun l s ⟨q1, q2, q3⟩ => ⟨by simp [q1], fun e' he => ?_, q3⟩
    rcases List.mem_cons.mp he with rfl | he
    · exact p
    · exact q2 e' he
/-! small data -/
def Sm (d : PyData) : Prop := d.canLay0 = true ∧ d.depth ≤ 10
def SmA (ds : List PyData) : Prop := ∀ d ∈ ds, Sm d
theorem SmA.nil : SmA [] := fun _ h => by cases h
theorem SmA.cons {d : PyData} {ds : List PyData} (h : Sm d) (r : SmA ds) : SmA (d :: ds) := fun e he => by
  cases he with
  | head => exact h
  | tail _ q => exact r e q
theorem SmA.app {ds es : List PyData} (h : SmA ds) (r : SmA es) : SmA (ds ++ es) := fun e he => by
  rcases List.mem_append.mp he with q | q
  · exact h e q
  · exact r e q
theorem SmA.lay {ds : List PyData} (h : SmA ds) : PyData.canLayAll0 ds = true := by
  induction ds with
  | nil => rfl
  | cons d r ih => simp [PyData.canLayAll0, (h d (by simp)).1, ih fun e he => h e (by simp [he])]
theorem SmA.dep {ds : List PyData} (h : SmA ds) : PyData.depthAll ds ≤ 10 := by
  induction ds with
  | nil => simp [PyData.depthAll]
  | cons d r ih => have := ih fun e he => h e (by simp [he]); have := (h d (by simp)).2; simp [PyData.depthAll]; omega
theorem Sm.shp {d : PyData} (h : Sm d) : SeqAt.shaped d = true := by
  obtain ⟨h1, h2⟩ := h
  simp [SeqAt.shaped, h1]
  omega
theorem SmA.shT {ds : List PyData} (h : SmA ds) : SeqAt.shaped (.tuple ds) = true := by
  have := h.dep
  simp [SeqAt.shaped, PyData.canLay0, PyData.depth, h.lay]
  omega
theorem SmA.shL {ds : List PyData} (h : SmA ds) : SeqAt.shaped (.list ds) = true := by
  have := h.dep
  simp [SeqAt.shaped, PyData.canLay0, PyData.depth, h.lay]
  omega
end PL

set_option Elab.async false
set_option linter.all false
set_option maxRecDepth 100000
/-! ### more rules for reading dens forward -/
namespace PL
open PySem PySem.Spec L2
open PyProof.Rows hiding St
variable {α β : Type} {st : Sto} {ρ : Ev}
theorem lstV_ref {k : Nat} : lstV (.ref k) st = (match st[k]? with | some (.lst ds) => some (k, ds) | _ => none) := rfl
@[simp] theorem W_chkL {k : Nat} {Q : Unit → Sto → Prop} : W (chkL (.ref k)) st Q ↔ ∃ ds, st[k]? = some (.lst ds) ∧ Q () st := by
  unfold W chkL
  rw [lstV_ref]
  cases h : st[k]? with
  | none => simp
  | some o => cases o <;> simp [and_assoc]
              exact ⟨fun ⟨(), q⟩ => q, fun q => ⟨(), q⟩⟩
@[simp] theorem W_extV {k : Nat} {es : List PyData} {Q : Val → Sto → Prop} : W (extV (.ref k) (.list es)) st Q ↔ ∃ ds, st[k]? = some (.lst ds) ∧ ds.length + es.length ≤ sizeLine ∧ Q (.dat .none) (st.set k (.lst (ds ++ es))) := by
  unfold W extV
  rw [lstV_ref]
  cases h : st[k]? with
  | none => simp
  | some o =>
    cases o with
    | lst ds => by_cases q : ds.length + es.length ≤ sizeLine <;> simp [q, and_assoc]
    | _ => simp
@[simp] theorem W_appV {k : Nat} {d : PyData} {Q : Val → Sto → Prop} : W (appV (.ref k) d) st Q ↔ ∃ ds, st[k]? = some (.lst ds) ∧ ds.length < sizeLine ∧ Q (.dat .none) (st.set k (.lst (ds ++ [d]))) := by
  unfold W appV
  rw [lstV_ref]
  cases h : st[k]? with
  | none => simp
  | some o =>
    cases o with
    | lst ds => by_cases q : ds.length < sizeLine <;> simp [q, and_assoc]
    | _ => simp
@[simp] theorem W_eExt {f g : Ev → M Val} {Q : Val → Sto → Prop} : W (eExt f g ρ) st Q ↔ W (f ρ) st fun x s1 => W (chkL x) s1 fun _ s2 => W (g ρ) s2 fun y s3 => W (frzV y) s3 fun d s4 => W (extV x d) s4 Q := by
  unfold eExt; simp only [W_bnd]
@[simp] theorem W_eApp {f g : Ev → M Val} {Q : Val → Sto → Prop} : W (eApp f g ρ) st Q ↔ W (f ρ) st fun x s1 => W (chkL x) s1 fun _ s2 => W (g ρ) s2 fun y s3 => W (frzV y) s3 fun d s4 => W (appV x d) s4 Q := by
  unfold eApp; simp only [W_bnd]
@[simp] theorem W_optK {o : Option α} {Q : α → Sto → Prop} : W (opt o) st Q ↔ ∃ a, o = some a ∧ Q a st := by
  cases o <;> simp [W, opt, and_assoc]
@[simp] theorem W_prNil {Q : List (Key × PyData) → Sto → Prop} : W (ePairs [] ρ) st Q ↔ Q [] st := W_ret
@[simp] theorem W_prCons {k v : Ev → M Val} {r : List ((Ev → M Val) × (Ev → M Val))} {Q : List (Key × PyData) → Sto → Prop} : W (ePairs ((k, v) :: r) ρ) st Q ↔ W (k ρ) st fun x s1 => W (v ρ) s1 fun y s2 => W (frzV x) s2 fun d s3 => W (opt (keyD d)) s3 fun key s4 => W (frzV y) s4 fun e s5 => W (ePairs r ρ) s5 fun l s6 => Q ((key, e) :: l) s6 := by
  show W (bnd _ _) st Q ↔ _
  simp only [W_bnd, W_ret]
@[simp] theorem W_eDisp {prs : List ((Ev → M Val) × (Ev → M Val))} {Q : Val → Sto → Prop} : W (eDisp prs ρ) st Q ↔ W (ePairs prs ρ) st fun kvs s => kvs.length ≤ 15 ∧ Q (.ref s.length) (s ++ [.dct (mergeD kvs)]) := by
  unfold eDisp; simp only [W_bnd, W_chk, W_new, decide_eq_true_eq]
@[simp] theorem W_eCallK {n nk : Nat} {o : List Nat} {g : List Val → M Val} {fs : Ev → M (List Val)} {Q : Val → Sto → Prop} : W (eCallK n nk o g fs ρ) st Q ↔ W (fs ρ) st fun xs st' => (xs.length = nk ∧ (o.filterMap fun i => xs[i]?).length = n) ∧ W (g (o.filterMap fun i => xs[i]?)) st' Q := by
  unfold eCallK; rw [W_bnd]; simp only [W_chk, Bool.and_eq_true, decide_eq_true_eq]
@[simp] theorem W_isB {b b' : Bool} {Q : Val → Sto → Prop} : W (isBD (.bool b) (.bool b')) st Q ↔ Q (.dat (.bool (decide (b = b')))) st := W_ret
@[simp] theorem W_gcDct {n : Nat} {kvs : List (Key × PyData)} {Q : Val → Sto → Prop} (h : st.length = n) : W (fun s => gcV n (.ref n) s) (st ++ [.dct kvs]) Q ↔ Q (.ref n) (st ++ [.dct kvs]) := by
  subst h
  exact W_ok (by simp [gcV])
@[simp] theorem W_frzR {k : Nat} {Q : PyData → Sto → Prop} : W (frzV (.ref k)) st Q ↔ (∃ ds, st[k]? = some (.lst ds) ∧ Q (.list ds) (st.set k (.frz (.list ds)))) ∨ ∃ d, st[k]? = some (.frz d) ∧ Q d st := by
  unfold W frzV
  cases h : st[k]? with
  | none => simp [h]
  | some o => cases o <;> simp [h, and_assoc]
theorem cut_len {xs : List α} {lo hi : Option Int} : (cutD xs lo hi).length ≤ xs.length := by unfold cutD; simp; omega
theorem cut_mem {xs : List α} {lo hi : Option Int} {x : α} (h : x ∈ cutD xs lo hi) : x ∈ xs := List.mem_of_mem_drop (List.mem_of_mem_take h)
theorem SmA.cut {ds : List PyData} {lo hi : Option Int} (h : SmA ds) : SmA (cutD ds lo hi) := fun d hd => h d (cut_mem hd)
theorem smA_all {ds : List PyData} (h : (ds.all fun d => d.canLay0 && decide (d.depth ≤ 10)) = true) : SmA ds := fun d hd => by
  have := List.all_eq_true.mp h d hd
  simpa [Sm] using this
end PL

set_option Elab.async false
set_option linter.all false
set_option maxRecDepth 100000
/-! ### texts, sizes, repr -/
namespace PL
open PySem PySem.Spec L2
open PyProof.Rows hiding St
variable {st : Sto} {ρ : Ev}
theorem ok_app (a b : Str) : PyData.strOk (a ++ b) = (PyData.strOk a && PyData.strOk b) := by
  unfold PyData.strOk
  rw [show (a ++ b).cps = a.cps ++ b.cps from rfl]
  simp [Array.all_append]
theorem ok_ofS (x : String) : PyData.strOk (Str.ofString x) = true := by
  rw [Str.ofString_eq_toList]
  unfold PyData.strOk
  simp
  intro c _
  have h := c.valid
  have e : c.toNat = c.val.toNat := rfl
  rcases h with h | h
  · rw [e]; have : c.val.toNat < 55296 := h; omega
  · rw [e]; have := h.2; exact this
theorem len_ofS (x : String) : (Str.ofString x).length = x.length := by
  rw [Str.ofString_eq_toList]
  simp [Str.length, String.length_toList]
theorem len_int {i : Int} {k : Nat} (hk : 0 < k) (h : i.natAbs < 10 ^ k) : (Str.ofString (toString i)).length ≤ k + 1 := by
  rw [len_ofS]
  cases i with
  | ofNat n =>
    have : n.repr.length ≤ k := (Nat.length_repr_le_iff hk).mpr (by simpa using h)
    show (Int.repr (Int.ofNat n)).length ≤ _
    unfold Int.repr
    dsimp only
    omega
  | negSucc n =>
    have : n.succ.repr.length ≤ k := (Nat.length_repr_le_iff hk).mpr (by simpa using h)
    show (Int.repr (Int.negSucc n)).length ≤ _
    unfold Int.repr
    dsimp only
    rw [String.length_append]
    have : "-".length = 1 := rfl
    omega
structure Tok8 (n : Nat) (x : Str) : Prop where
  ok : PyData.strOk x = true
  len : x.length ≤ n
theorem Tok8.mono {n m : Nat} {x : Str} (h : Tok8 n x) (l : n ≤ m) : Tok8 m x := ⟨h.ok, Nat.le_trans h.len l⟩
theorem Tok8.lit {n : Nat} {x : String} (h : x.length ≤ n) : Tok8 n (Str.ofString x) := ⟨ok_ofS x, by rw [len_ofS]; exact h⟩
theorem Tok8.join {a : Str} {n : Nat} (ha : PyData.strOk a = true) : ∀ {ys : List Str}, (∀ y ∈ ys, Tok8 n y) → Tok8 (ys.length * (n + a.length)) (Txt.join a ys) := fun {ys} h => by
  refine ⟨?_, ?_⟩
  · rw [TL.join_eq]
    induction ys with
    | nil => show PyData.strOk Str.empty = true; decide +kernel
    | cons x r ih =>
      cases r with
      | nil => exact (h x (by simp)).ok
      | cons y r =>
        show PyData.strOk (x ++ a ++ Str.join a (y :: r)) = true
        rw [ok_app, ok_app, (h x (by simp)).ok, ha, ih fun z hz => h z (by simp [hz])]
        rfl
  · rw [TL.join_eq]
    refine Nat.le_trans (StrLaws.join_length_le a ys) ?_
    have : (ys.map (·.length)).sum ≤ ys.length * n := by
      clear ha
      induction ys with
      | nil => simp
      | cons x r ih =>
        have h1 := (h x (by simp)).len
        have h2 := ih fun z hz => h z (by simp [hz])
        simp only [List.map_cons, List.sum_cons, List.length_cons, Nat.add_mul]
        omega
    rw [Nat.mul_add]
    omega
theorem sum_len {ys : List Str} {n : Nat} (h : ∀ y ∈ ys, Tok8 n y) : (ys.map (·.length)).sum ≤ ys.length * n := by
  induction ys with
  | nil => simp
  | cons x r ih =>
    have h1 := (h x (by simp)).len
    have h2 := ih fun z hz => h z (by simp [hz])
    simp only [List.map_cons, List.sum_cons, List.length_cons, Nat.add_mul]
    omega
theorem from_len : ∀ (ts : List Str) (k : Nat) (acc : Str), (textFrom k acc ts).length ≤ acc.length + piled ts
  | [], _, acc => by simp [textFrom]
  | t :: r, k, acc => by
    have h := from_len r (k + 1) (acc ++ (if k > 0 then ", " else "" : String) ++ t)
    rw [piled_cons]
    unfold textFrom
    refine Nat.le_trans h ?_
    rw [Str.length_append, Str.length_append]
    have : (Str.ofString (if k > 0 then ", " else "" : String)).length ≤ 2 := by split <;> decide +kernel
    omega
mutual
/-- a bound of the signs of repr -/
def szD : PyData → Nat
  | .none => 4
  | .bool _ => 5
  | .int i => (Str.ofString (toString i)).length
  | .str x => 10 * x.length + 2
  | .list xs => szA xs + 2
  | .tuple xs => szA xs + 3
  | .dict _ => 0
def szA : List PyData → Nat
  | [] => 0
  | x :: r => szD x + 2 + szA r
end
theorem txt_le {x : Str} (h : PyData.strOk x = true) : (reprText x).length ≤ 10 * x.length + 2 := StrLaws.reprText_len x fun c hc => by
  unfold PyData.strOk at h
  rw [Array.all_eq_true'] at h
  have := of_decide_eq_true (h c (by simpa using hc))
  omega
mutual
theorem shown_le : ∀ d : PyData, d.canLay0 = true → d.shown.length ≤ szD d
  | .none, _ => by decide +kernel
  | .bool b, _ => by cases b <;> decide +kernel
  | .int i, _ => Nat.le_refl _
  | .str x, h => txt_le (by simpa [PyData.canLay0] using h)
  | .list xs, h => by
    have := shownA_le xs (by simpa [PyData.canLay0] using h)
    show (textFrom 0 "[" (PyData.shownAll xs) ++ Str.ofString "]").length ≤ szA xs + 2
    rw [Str.length_append]
    have := from_len (PyData.shownAll xs) 0 "["
    have e1 : (Str.ofString "[").length = 1 := by decide +kernel
    have e2 : (Str.ofString "]").length = 1 := by decide +kernel
    omega
  | .tuple xs, h => by
    have := shownA_le xs (by simpa [PyData.canLay0] using h)
    show ((("(" : Str) ++ Str.join ", " (PyData.shownAll xs)) ++ Str.ofString (if (PyData.shownAll xs).length == 1 then ",)" else ")" : String)).length ≤ szA xs + 3
    rw [Str.length_append, Str.length_append]
    have e1 : (Str.ofString "(").length = 1 := by decide +kernel
    have e2 : (Str.ofString (if (PyData.shownAll xs).length == 1 then ",)" else ")" : String)).length ≤ 2 := by split <;> decide +kernel
    have e3 : (Str.join ", " (PyData.shownAll xs)).length ≤ piled (PyData.shownAll xs) := by
      cases hd : PyData.shownAll xs with
      | nil => exact Nat.zero_le _
      | cons t r => have := join_length_add (t :: r) (by simp); omega
    omega
  | .dict _, h => by simp [PyData.canLay0] at h
theorem shownA_le : ∀ ds : List PyData, PyData.canLayAll0 ds = true → piled (PyData.shownAll ds) ≤ szA ds
  | [], _ => Nat.le_refl _
  | d :: r, h => by
    simp only [PyData.canLayAll0, Bool.and_eq_true] at h
    have h1 := shown_le d h.1
    have h2 := shownA_le r h.2
    rw [PyData.shownAll, piled_cons, szA]
    omega
end
mutual
theorem nodict : ∀ d : PyData, d.canLay0 = true → d.hasDict = false
  | .none, _ => rfl
  | .bool b, _ => rfl
  | .int i, _ => rfl
  | .str x, h => rfl
  | .list xs, h => by simpa [PyData.hasDict] using nodictA xs (by simpa [PyData.canLay0] using h)
  | .tuple xs, h => by simpa [PyData.hasDict] using nodictA xs (by simpa [PyData.canLay0] using h)
  | .dict _, h => by simp [PyData.canLay0] at h
theorem nodictA : ∀ ds : List PyData, PyData.canLayAll0 ds = true → PyData.hasDictAll ds = false
  | [], _ => rfl
  | d :: r, h => by
    simp only [PyData.canLayAll0, Bool.and_eq_true] at h
    simp [PyData.hasDictAll, nodict d h.1, nodictA r h.2]
end
/-- plain data, depth at most k, at most n signs when shown -/
structure Gd (k n : Nat) (d : PyData) : Prop where
  lay : d.canLay0 = true
  shw : d.showable = true
  dep : d.depth ≤ k
  sz : szD d ≤ n
def GdA (k n : Nat) (ds : List PyData) : Prop := ∀ d ∈ ds, Gd k n d
theorem Gd.mono {k n k' n' : Nat} {d : PyData} (h : Gd k n d) (h1 : k ≤ k') (h2 : n ≤ n') : Gd k' n' d := ⟨h.lay, h.shw, Nat.le_trans h.dep h1, Nat.le_trans h.sz h2⟩
theorem Gd.none {k n : Nat} (h : 4 ≤ n) : Gd k n .none := ⟨rfl, rfl, Nat.zero_le _, h⟩
theorem Gd.bool {k n : Nat} {b : Bool} (h : 5 ≤ n) : Gd k n (.bool b) := ⟨rfl, rfl, Nat.zero_le _, h⟩
theorem Gd.str {k n m : Nat} {x : Str} (h : Tok8 m x) (hn : 10 * m + 2 ≤ n) : Gd k n (.str x) := by
  refine ⟨by simpa [PyData.canLay0] using h.ok, rfl, Nat.zero_le _, ?_⟩
  have := h.len
  show 10 * x.length + 2 ≤ n
  omega
theorem Gd.int {k n m : Nat} {i : Int} (h : i.natAbs < 10 ^ m) (h0 : 0 < m) (h1 : m ≤ 500) (hn : m + 1 ≤ n) : Gd k n (.int i) := by
  refine ⟨rfl, ?_, Nat.zero_le _, Nat.le_trans (len_int h0 h) hn⟩
  simp only [PyData.showable, decide_eq_true_eq]
  by_cases hz : i.natAbs = 0
  · rw [hz]; decide
  · rw [Nat.log2_lt hz]
    refine Nat.lt_of_lt_of_le h ?_
    calc 10 ^ m ≤ 10 ^ 500 := Nat.pow_le_pow_right (by omega) h1
      _ ≤ 2 ^ 1920 := by decide +kernel
theorem gd_lays {k n : Nat} : ∀ {ds : List PyData}, GdA k n ds → PyData.canLayAll0 ds = true ∧ PyData.showableAll ds = true ∧ PyData.depthAll ds ≤ k ∧ szA ds ≤ ds.length * (n + 2)
  | [], _ => ⟨rfl, rfl, Nat.zero_le _, by simp [szA]⟩
  | d :: r, h => by
    obtain ⟨h1, h2, h4, h5⟩ := gd_lays (ds := r) fun e he => h e (by simp [he])
    have hd := h d (by simp)
    refine ⟨by simp [PyData.canLayAll0, hd.lay, h1], by simp [PyData.showableAll, hd.shw, h2], by have := hd.dep; simp only [PyData.depthAll]; omega, ?_⟩
    rw [szA, List.length_cons, Nat.add_mul]
    have := hd.sz
    omega
theorem Gd.list {k n N : Nat} {ds : List PyData} (h : GdA k n ds) (hN : ds.length * (n + 2) + 2 ≤ N) : Gd (k + 1) N (.list ds) := by
  obtain ⟨h1, h2, h4, h5⟩ := gd_lays h
  refine ⟨by simpa [PyData.canLay0] using h1, by simpa [PyData.showable] using h2, by simp [PyData.depth, h4], ?_⟩
  show szA ds + 2 ≤ N
  omega
theorem Gd.tuple {k n N : Nat} {ds : List PyData} (h : GdA k n ds) (hN : ds.length * (n + 2) + 3 ≤ N) : Gd (k + 1) N (.tuple ds) := by
  obtain ⟨h1, h2, h4, h5⟩ := gd_lays h
  refine ⟨by simpa [PyData.canLay0] using h1, by simpa [PyData.showable] using h2, by simp [PyData.depth, h4], ?_⟩
  show szA ds + 3 ≤ N
  omega
theorem szA_mem {ds : List PyData} {d : PyData} (h : d ∈ ds) : szD d ≤ szA ds := by
  induction ds with
  | nil => cases h
  | cons e r ih =>
    rw [szA]
    rcases List.mem_cons.mp h with rfl | h
    · omega
    · have := ih h; omega
theorem laysA_mem {ds : List PyData} {d : PyData} (h : d ∈ ds) : (PyData.canLayAll0 ds = true → d.canLay0 = true) ∧ (PyData.showableAll ds = true → d.showable = true) ∧ d.depth ≤ PyData.depthAll ds := by
  induction ds with
  | nil => cases h
  | cons e r ih =>
    simp only [PyData.canLayAll0, PyData.showableAll, PyData.depthAll, Bool.and_eq_true]
    rcases List.mem_cons.mp h with rfl | h
    · exact ⟨fun q => q.1, fun q => q.1, by omega⟩
    · obtain ⟨h1, h2, h3⟩ := ih h
      exact ⟨fun q => h1 q.2, fun q => h2 q.2, by omega⟩
theorem Gd.inT {k n : Nat} {ds : List PyData} (h : Gd k n (.tuple ds)) : GdA k n ds := fun d hd => by
  obtain ⟨h1, h2, h3⟩ := laysA_mem hd
  have a1 := h.dep
  have a2 := h.sz
  have a3 := szA_mem hd
  simp only [PyData.depth] at a1
  simp only [szD] at a2
  exact ⟨h1 (by simpa [PyData.canLay0] using h.lay), h2 (by simpa [PyData.showable] using h.shw), by omega, by omega⟩
theorem Gd.inL {k n : Nat} {ds : List PyData} (h : Gd k n (.list ds)) : GdA k n ds := fun d hd => by
  obtain ⟨h1, h2, h3⟩ := laysA_mem hd
  have a1 := h.dep
  have a2 := h.sz
  have a3 := szA_mem hd
  simp only [PyData.depth] at a1
  simp only [szD] at a2
  exact ⟨h1 (by simpa [PyData.canLay0] using h.lay), h2 (by simpa [PyData.showable] using h.shw), by omega, by omega⟩
theorem Gd.txt {k n : Nat} {x : Str} (h : Gd k n (.str x)) : Tok8 n x := ⟨by simpa [PyData.canLay0] using h.lay, by have := h.sz; simp only [szD] at this; omega⟩
theorem Gd.shp {k n : Nat} {d : PyData} (h : Gd k n d) (hk : k ≤ 64) : SeqAt.shaped d = true := by
  have := h.dep
  simp [SeqAt.shaped, h.lay]
  omega
theorem Gd.rp {k n : Nat} {d : PyData} (h : Gd k n d) (hk : k ≤ 60) (hn : n ≤ 16777216) {Q : Val → Sto → Prop} : W (reprD d) st Q ↔ Q (.dat (.str d.shown)) st := by
  rw [W_repr]
  have h1 := h.dep
  have h2 := h.sz
  have h5 := shown_le d h.lay
  refine ⟨fun q => q.2, fun q => ⟨?_, q⟩⟩
  have h3 : d.depth ≤ 60 := by omega
  have h4 : d.shown.length ≤ 16777216 := by omega
  simp [h.shw, nodict d h.lay, sizeLine, h3, h4]
theorem GdA.nil {k n : Nat} : GdA k n [] := fun _ h => by cases h
theorem gdC {k n : Nat} {d : PyData} {ds : List PyData} : GdA k n (d :: ds) ↔ Gd k n d ∧ GdA k n ds := ⟨fun h => ⟨h d (by simp), fun e he => h e (by simp [he])⟩, fun h e he => by
  rcases List.mem_cons.mp he with rfl | he
  · exact h.1
  · exact h.2 e he⟩
theorem GdA.app {k n : Nat} {ds es : List PyData} (h : GdA k n ds) (r : GdA k n es) : GdA k n (ds ++ es) := fun e he => (List.mem_append.mp he).elim (h e) (r e)
theorem GdA.mono {k n k' n' : Nat} {ds : List PyData} (h : GdA k n ds) (h1 : k ≤ k') (h2 : n ≤ n') : GdA k' n' ds := fun d hd => (h d hd).mono h1 h2
theorem GdA.shT {k n : Nat} {ds : List PyData} (h : GdA k n ds) (hk : k ≤ 63) : SeqAt.shaped (.tuple ds) = true := (Gd.tuple h (Nat.le_refl _)).shp (by omega)
theorem GdA.shL {k n : Nat} {ds : List PyData} (h : GdA k n ds) (hk : k ≤ 63) : SeqAt.shaped (.list ds) = true := (Gd.list h (Nat.le_refl _)).shp (by omega)
/-- by looking -/
def gdB (k n : Nat) (d : PyData) : Bool := d.canLay0 && (d.showable && (decide (d.depth ≤ k) && decide (szD d ≤ n)))
theorem gd_of {k n : Nat} {d : PyData} (h : gdB k n d = true) : Gd k n d := by
  simp only [gdB, Bool.and_eq_true, decide_eq_true_eq] at h
  exact ⟨h.1, h.2.1, h.2.2.1, h.2.2.2⟩
theorem gdA_of {k n : Nat} {ds : List PyData} (h : ds.all (gdB k n) = true) : GdA k n ds := fun d hd => gd_of (List.all_eq_true.mp h d hd)
/-! the new dens -/
@[simp] theorem W_strS {x : Str} {Q : Val → Sto → Prop} : W (strD (.str x)) st Q ↔ Q (.dat (.str x)) st := W_ret
@[simp] theorem W_strI {i : Int} {Q : Val → Sto → Prop} : W (strD (.int i)) st Q ↔ i.natAbs.log2 < 1920 ∧ Q (.dat (.str (Str.ofString (toString i)))) st := by
  unfold strD; simp only [W_chk, W_bS, decide_eq_true_eq]
@[simp] theorem W_chkS {x : Str} {Q : Unit → Sto → Prop} : W (chkS (.dat (.str x))) st Q ↔ Q () st := W_ok rfl
@[simp] theorem W_eM1 {g : PyData → PyData → M Val} {f f' : Ev → M Val} {Q : Val → Sto → Prop} : W (eM1 g f f' ρ) st Q ↔ W (f ρ) st fun x s1 => W (chkS x) s1 fun _ s2 => W (f' ρ) s2 fun y s3 => W (on2 g x y) s3 Q := by
  unfold eM1; simp only [W_bnd]
theorem W_joinL0 {a : Str} {ds : List PyData} {Q : Val → Sto → Prop} : W (joinL a ds) st Q ↔ ∃ ys, strsOf ds = some ys ∧ (ys.map (·.length)).sum + ys.length * a.length ≤ 16777216 ∧ Q (.dat (.str (Txt.join a ys))) st := by
  unfold W joinL
  cases h : strsOf ds with
  | none => simp [h]
  | some ys => by_cases q : (ys.map (·.length)).sum + ys.length * a.length ≤ 16777216 <;> simp [h, q, and_assoc]
theorem W_joinL {a : Str} {ds : List PyData} {Q : Val → Sto → Prop} : W (joinD (.str a) (.list ds)) st Q ↔ ∃ ys, strsOf ds = some ys ∧ (ys.map (·.length)).sum + ys.length * a.length ≤ 16777216 ∧ Q (.dat (.str (Txt.join a ys))) st := W_joinL0
theorem W_joinT {a : Str} {ds : List PyData} {Q : Val → Sto → Prop} : W (joinD (.str a) (.tuple ds)) st Q ↔ ∃ ys, strsOf ds = some ys ∧ (ys.map (·.length)).sum + ys.length * a.length ≤ 16777216 ∧ Q (.dat (.str (Txt.join a ys))) st := W_joinL0
theorem W_sortD {ds : List PyData} {Q : Val → Sto → Prop} : W (sortD (.list ds)) st Q ↔ ∃ xs, strsOf ds = some xs ∧ xs.length < 64 ∧ Q (.dat (.list ((sortS xs).map .str))) st := by
  unfold W sortD
  cases h : strsOf ds with
  | none => simp [h]
  | some ys => by_cases q : ys.length < 64 <;> simp [h, q, and_assoc]
@[simp] theorem W_eCallF {n : Nat} {ds : List PyData} {g : List Val → M Val} {fs : Ev → M (List Val)} {Q : Val → Sto → Prop} : W (eCallF n ds g fs ρ) st Q ↔ W (fs ρ) st fun xs st' => xs.length + ds.length = n ∧ W (g (xs ++ ds.map .dat)) st' Q := by
  unfold eCallF; rw [W_bnd]; simp only [W_chk, decide_eq_true_eq]
theorem strs_map (ys : List Str) : strsOf (ys.map .str) = some ys := by
  induction ys with
  | nil => rfl
  | cons y r ih => simp [strsOf, ih]
/-- a walk whose turns count -/
theorem cg_invN {vs : List Nat} {t : Tg} {elt : Ev → M Val} (I : Nat → Sto → Prop) (P : PyData → Prop) : ∀ (ds : List PyData) (k : Nat) {st : Sto}, (∀ i d st, ds[i]? = some d → I (k + i) st → ∃ ρ1, t d (wipeE ρ vs) = some ρ1 ∧ W (elt ρ1) st fun x s2 => W (frzV x) s2 fun e s3 => P e ∧ I (k + i + 1) s3) → I k st → W (compGo ρ vs t tTrue elt ds) st fun l s => l.length = ds.length ∧ (∀ e ∈ l, P e) ∧ I (k + ds.length) s
  | [], k, st, _, i => by simp [i]
  | d :: r, k, st, h, i => by
    obtain ⟨ρ1, e, h1⟩ := h 0 d st rfl i
    rw [W_cgCons]
    refine ⟨ρ1, e, ?_⟩
    simp only [W_tTrue, if_true]
    refine h1.mono fun x s2 h2 => h2.mono fun e s3 ⟨p, i3⟩ => (cg_invN I P r (k + 1) (fun i d' st' q i' => ?_) i3).mono fun l s ⟨q1, q2, q3⟩ => ⟨by simp [q1], fun e' he => ?_, ?_⟩
    · have := h (i + 1) d' st' (by simpa using q) (by rw [show k + (i + 1) = k + 1 + i by omega]; exact i')
      rw [show k + 1 + i + 1 = k + (i + 1) + 1 by omega]
      exact this
    · rcases List.mem_cons.mp he with rfl | he
      · exact p
      · exact q2 e' he
    · rw [List.length_cons, show k + (r.length + 1) = k + 1 + r.length by omega]
      exact q3
/-- a walk that keeps some of the items -/
theorem cg_sub {vs : List Nat} {t : Tg} {cond : Ev → M Bool} {elt : Ev → M Val} (I : Nat → Sto → Prop) : ∀ (ds : List PyData) (k : Nat) {st : Sto}, (∀ i d st, ds[i]? = some d → I (k + i) st → ∃ ρ1, t d (wipeE ρ vs) = some ρ1 ∧ W (cond ρ1) st (fun _ s1 => I (k + i + 1) s1) ∧ ∀ st Q, W (elt ρ1) st Q ↔ Q (.dat d) st) → I k st → W (compGo ρ vs t cond elt ds) st fun l s => l.Sublist ds ∧ I (k + ds.length) s
  | [], k, st, _, i => by simp [i]
  | d :: r, k, st, h, i => by
    obtain ⟨ρ1, e, h1, h2⟩ := h 0 d st rfl i
    rw [W_cgCons]
    refine ⟨ρ1, e, h1.mono fun b s1 i1 => ?_⟩
    have ih := fun {st : Sto} (i3 : I (k + 1) st) => cg_sub I r (k + 1) (st := st) (fun i d' st' q i' => by
      have := h (i + 1) d' st' (by simpa using q) (by rw [show k + (i + 1) = k + 1 + i by omega]; exact i')
      rw [show k + 1 + i + 1 = k + (i + 1) + 1 by omega]
      exact this) i3
    cases b with
    | true =>
      simp only [if_true, h2, W_frz]
      refine (ih i1).mono fun l s ⟨q1, q2⟩ => ⟨q1.cons₂ d, ?_⟩
      rw [List.length_cons, show k + (r.length + 1) = k + 1 + r.length by omega]
      exact q2
    | false =>
      simp only [Bool.false_eq_true, if_false]
      refine (ih i1).mono fun l s ⟨q1, q2⟩ => ⟨q1.cons d, ?_⟩
      rw [List.length_cons, show k + (r.length + 1) = k + 1 + r.length by omega]
      exact q2
/-! a repr is a text as well -/
theorem chr_lt (c : Char) : c.toNat < 0x110000 := by
  have h := c.valid
  have e : c.toNat = c.val.toNat := rfl
  rcases h with h | h
  · rw [e]; have : c.val.toNat < 55296 := h; omega
  · rw [e]; exact h.2
theorem rchar_ok {q c : Nat} (hq : q < 0x110000) (hc : c < 0x110000) : ∀ x ∈ Builtin.Str.reprChar q c, x < 0x110000 := by
  have hd : ∀ n w : Nat, ∀ x ∈ List.replicate (w - ((Nat.toDigits 16 n).map Char.toNat).length) 48 ++ (Nat.toDigits 16 n).map Char.toNat, x < 0x110000 := fun n w x hx => by
    rcases List.mem_append.mp hx with h | h
    · have := (List.mem_replicate.mp h).2; omega
    · obtain ⟨d, _, rfl⟩ := List.mem_map.mp h
      exact chr_lt d
  intro x hx
  unfold Builtin.Str.reprChar at hx
  dsimp only at hx
  split at hx
  · simp at hx; omega
  split at hx
  · simp at hx; omega
  split at hx
  · simp at hx; omega
  split at hx
  · simp at hx; omega
  split at hx
  · simp at hx; omega
  split at hx
  · rcases List.mem_append.mp hx with h | h
    · simp at h; omega
    · exact hd _ _ x h
  split at hx
  · rcases List.mem_append.mp hx with h | h
    · simp at h; omega
    · exact hd _ _ x h
  · rcases List.mem_append.mp hx with h | h
    · simp at h; omega
    · exact hd _ _ x h
theorem rfold_ok {q : Nat} (hq : q < 0x110000) : ∀ (l : List Nat) (acc : Array Nat), (∀ c ∈ l, c < 0x110000) → (∀ c ∈ acc, c < 0x110000) → ∀ c ∈ l.foldl (fun out c => out ++ (Builtin.Str.reprChar q c).toArray) acc, c < 0x110000
  | [], acc, _, h => h
  | a :: r, acc, h1, h2 => rfold_ok hq r _ (fun c hc => h1 c (by simp [hc])) fun c hc => by
    rcases Array.mem_append.mp hc with h | h
    · exact h2 c h
    · exact rchar_ok hq (h1 a (by simp)) c (by simpa using h)
theorem rtext_ok {x : Str} (h : PyData.strOk x = true) : PyData.strOk (reprText x) = true := by
  have hx : ∀ c ∈ x.cps, c < 0x110000 := by
    unfold PyData.strOk at h
    rw [Array.all_eq_true'] at h
    exact fun c hc => of_decide_eq_true (h c hc)
  have hq : reprQuote x < 0x110000 := by
    unfold reprQuote
    split <;> omega
  unfold PyData.strOk
  rw [Array.all_eq_true']
  intro c hc
  refine decide_eq_true ?_
  unfold reprText at hc
  rw [← Array.foldl_toList] at hc
  rcases Array.mem_push.mp hc with h | h
  · exact rfold_ok hq _ _ (fun c hc => hx c (by simpa using hc)) (fun c hc => by simp at hc; omega) c h
  · omega
theorem tfrom_ok : ∀ (ts : List Str) (k : Nat) (acc : Str), (∀ t ∈ ts, PyData.strOk t = true) → PyData.strOk acc = true → PyData.strOk (textFrom k acc ts) = true
  | [], _, acc, _, h => h
  | t :: r, k, acc, h, h2 => by
    unfold textFrom
    refine tfrom_ok r _ _ (fun t ht => h t (by simp [ht])) ?_
    rw [ok_app, ok_app, h2, h t (by simp), ok_ofS]
    rfl
theorem sjoin_ok (a : Str) (ha : PyData.strOk a = true) : ∀ ys : List Str, (∀ y ∈ ys, PyData.strOk y = true) → PyData.strOk (Str.join a ys) = true
  | [], _ => by show PyData.strOk Str.empty = true; decide +kernel
  | [x], h => h x (by simp)
  | x :: y :: r, h => by
    show PyData.strOk (x ++ a ++ Str.join a (y :: r)) = true
    rw [ok_app, ok_app, h x (by simp), ha, sjoin_ok a ha (y :: r) fun z hz => h z (by simp [hz])]
    rfl
mutual
theorem shown_ok : ∀ d : PyData, d.canLay0 = true → PyData.strOk d.shown = true
  | .none, _ => ok_ofS _
  | .bool b, _ => by cases b <;> exact ok_ofS _
  | .int i, _ => ok_ofS _
  | .str x, h => rtext_ok (by simpa [PyData.canLay0] using h)
  | .list xs, h => by
    show PyData.strOk (textFrom 0 "[" (PyData.shownAll xs) ++ Str.ofString "]") = true
    rw [ok_app, ok_ofS, tfrom_ok _ _ _ (shownA_ok xs (by simpa [PyData.canLay0] using h)) (ok_ofS _)]
    rfl
  | .tuple xs, h => by
    show PyData.strOk ((("(" : Str) ++ Str.join ", " (PyData.shownAll xs)) ++ Str.ofString (if (PyData.shownAll xs).length == 1 then ",)" else ")" : String)) = true
    rw [ok_app, ok_app, ok_ofS, ok_ofS, sjoin_ok _ (ok_ofS _) _ (shownA_ok xs (by simpa [PyData.canLay0] using h))]
    rfl
  | .dict _, h => by simp [PyData.canLay0] at h
theorem shownA_ok : ∀ ds : List PyData, PyData.canLayAll0 ds = true → ∀ t ∈ PyData.shownAll ds, PyData.strOk t = true
  | [], _ => fun _ h => by cases h
  | d :: r, h => by
    simp only [PyData.canLayAll0, Bool.and_eq_true] at h
    intro t ht
    rcases List.mem_cons.mp ht with rfl | ht
    · exact shown_ok d h.1
    · exact shownA_ok r h.2 t ht
end
theorem Gd.shs {k n : Nat} {d : PyData} (h : Gd k n d) : SeqAt.shaped (.str d.shown) = true := by
  simp [SeqAt.shaped, PyData.canLay0, PyData.depth, shown_ok d h.lay]
end PL

set_option Elab.async false
set_option linter.all false
set_option maxRecDepth 100000
/-! ### enumerate of a tuple, of a text -/
namespace PL
open PySem PySem.Spec L2
open PyProof.Rows hiding St
open AutoSeq1 (wpAny_loadPart')
abbrev tupIt (t : Addr) : Obj := { cls := .type "tuple_iterator", data := .fields #[.ref t, .int 0 0] }
abbrev enumOb (it : Addr) : Obj := { cls := .type "enumerate", data := .fields #[.none, .bool false, .ref it, rawInt 0, .none, .none] }
theorem enumT_meets (t : Addr) (items : Array Value) (n : Nat) (dct : Option Addr) (sl : Array (Option Value)) :
    Meets (Builtin.«enumerate.__new__» ⟨[.type "enumerate", .ref t], []⟩) (fun _ R s => s.heap.get? t = some { cls := .type "tuple", dict := dct, data := .seq items n, slots := sl } ∧
      R (.ok (.ret (.ref (s.heap.push (tupIt t)).objs.size))) { s with heap := (s.heap.push (tupIt t)).push (enumOb s.heap.objs.size) }) :=
  .of_wp fun prog w A R s h => by
    obtain ⟨hp, g, d, tk, os⟩ := s
    obtain ⟨hl, h⟩ := h
    have q1 := sub_enumerate
    have q2 : Heap.IsTuple (Shared.heap ⟨hp, g, d, tk, os⟩) t items := ⟨_, hl, rfl, n, rfl⟩
    wp_walk using wpAny_loadPart' hl
    refine wpAny_stack_any fun st => wpAny_pure ?_
    split
    · rename_i c _ _ _ _ _
      cases (c == Value.type "enumerate")
      all_goals
        wp_walk using wpAny_loadPart' hl, wpAny_pyIter_tuple q2
        exact ⟨_, rfl, h⟩
    · wp_walk using wpAny_loadPart' hl, wpAny_pyIter_tuple q2
      exact ⟨_, rfl, h⟩
section
variable {prog : Program} {w : World} {A : Around} {E : Value → Shared → Prop} {s : Shared}
theorem enumT_call {t : Addr} {items : Array Value} {Q : Value → Shared → Prop} (hL : s.heap.IsTuple t items)
    (h : ∀ h1, IsEnum h1 (s.heap.objs.size + 1) s.heap.objs.size 0 .none → h1.IsTupleIter s.heap.objs.size t 0 → (∀ b o, s.heap.get? b = some o → h1.get? b = some o) → Q (.ref (s.heap.objs.size + 1)) { s with heap := h1 }) :
    wpAny (model prog w) A (call (.type "enumerate") [.ref t]) Q E s := by
  obtain ⟨⟨c, dct, dt, sl⟩, hl, hc, n, hd⟩ := hL
  replace hc : c = .type "tuple" := hc
  replace hd : dt = .seq items n := hd
  subst hc hd
  refine callType_new F.called_enumerate (by decide) (F.typeCall_enumerate_1 _) (F.newCall_enumerate_1 _) (fun obj => F.args_object_init_2 obj _) F.entry_enumerate_new (enumT_meets t items n dct sl) ⟨hl, ?_⟩
  have hz : (s.heap.push (tupIt t)).objs.size = s.heap.objs.size + 1 := Heap.size_push ..
  show _ ∧ _
  rw [hz]
  have he : IsEnum ((s.heap.push (tupIt t)).push (enumOb s.heap.objs.size)) (s.heap.objs.size + 1) s.heap.objs.size 0 .none := by
    have := Heap.get?_push_size (s.heap.push (tupIt t)) (o := enumOb s.heap.objs.size) rfl
    rw [hz] at this
    exact this
  exact ⟨⟨_, he, rfl⟩, h _ he ⟨_, Heap.get?_push_of_some _ (Heap.get?_push_size _ rfl), rfl, rfl⟩ fun b o x => Heap.get?_push_of_some _ (Heap.get?_push_of_some _ x)⟩
end
/-- the tuple at a, each item in a new pair -/
def IteT (K : PySem.W.Frag) (a : Addr) : It :=
  ⟨fun i H => ∃ (xs : List V) (x : V), SqT K H a xs ∧ xs[i]? = some x, fun i H v H' => ∃ T x, v = .ref T ∧ H T = none ∧ H' = upd H T (.tup [.int (i : Nat), x]) ∧ ∀ xs, SqT K H a xs → xs[i]? = some x, fun i H => ∃ xs : List V, SqT K H a xs ∧ xs.length = i⟩
theorem turnT {P : Program} {w : World} {K : PySem.W.Frag} {elts : List Expr} {kk : Nat} {tpos : Pos} (a e it : Addr) (hae : a ≠ it) (hee : e ≠ a) :
    Turn P w K (.Tuple elts kk tpos) (IteT K a) [e, it] e (fun i h => (∃ old, IsEnum h e it ((i : Nat) : Int) old) ∧ h.IsTupleIter it a i ∧ e ≠ it) where
  mem := by simp
  obj := fun i h st b hb => by
    obtain ⟨⟨old, he⟩, ⟨o, ho, hc, hd⟩, _⟩ := st
    rcases (by simpa using hb : b = e ∨ b = it) with rfl | rfl
    · exact ⟨_, he, fun v q => nomatch q⟩
    · exact ⟨o, ho, fun v q => by rw [hd] at q; cases q⟩
  keep := fun i h h1 st k => let ⟨⟨old, he⟩, hi, hne⟩ := st; ⟨⟨old, k e (by simp) _ he⟩, hi.at fun o q => k it (by simp) o q, hne⟩
  item := by
    intro X hP hw hK hc i pins s σ H E I hf st hg
    subst hP hw hK
    obtain ⟨⟨old, he⟩, hit, hne⟩ := st
    obtain ⟨xs, x, hq, hx⟩ := hg
    obtain ⟨its, rv, p, hz⟩ := I.tuple hq
    obtain ⟨u, hu, ru⟩ := rv.get hx
    have hel : e < s.heap.objs.size := Heap.lt_size he
    have hil : it < s.heap.objs.size := by obtain ⟨_, q, _⟩ := hit; exact Heap.lt_size q
    have hin : X.A.in1.handled = none := I.ok.hd hc
    have li : i < its.length := (List.getElem?_eq_some_iff.mp hu).1
    refine wpAny_pyNext_enum_itemD (Draws.tuple hin it a hae its.toArray) he ⟨hit, p⟩ (by simpa using li) hne (by simp [hne, hee]) fun x1 h1 tk hx1 ho st1 hT hsz hk => ?_
    obtain rfl : x1 = u := by
      have q : its[i]? = some x1 := by simpa using hx1
      rw [hu] at q
      exact (Option.some.inj q).symm
    refine ⟨_, rfl, wpAny_letOwnedTupleGo_enum (s := { s with heap := h1, toks := tk + 1 }) ho fun h2 he2 sb => ?_⟩
    have hT2 : h2.get? s.heap.objs.size = some { cls := .type "tuple", data := .seq #[.int i tk, x1] } := (sb.2 _ (Nat.ne_of_gt hel)).trans hT
    have new : ObjOk X.prog X.w (upd H s.heap.objs.size (.tup [.int (i : Nat), x])) h2 s.heap.objs.size (.tup [.int (i : Nat), x]) :=
      ⟨by show 2 ≤ sizeLine; decide, [.int i tk, x1], .cons ⟨_, rfl⟩ (.cons ru .nil), ⟨_, hT2, rfl, _, rfl⟩⟩
    have I1 : Inv X pins σ (upd H s.heap.objs.size (.tup [.int (i : Nat), x])) { s with heap := h2, toks := tk + 1 } :=
      I.turnedNew (ch := [e, it]) (fun b ob hb q => (sb.2 b (fun z => hb (by simp [z]))).trans (hk b ob (fun z => hb (by simp [z])) (fun z => hb (by simp [z])) q)) hf (Nat.le_refl _) new
    refine ⟨.ref s.heap.objs.size, _, I1, rfl, ⟨_, x, rfl, I.hok.fresh (Nat.le_refl _), rfl, fun ys hy => by rw [I.tuple_inj hy hq]; exact hx⟩, ⟨⟨x1, ?_⟩, st1.1.at fun o q => (sb.2 it (Ne.symm hne)).trans q, hne⟩, fun b hb => ?_⟩
    · rw [show ((i + 1 : Nat) : Int) = (i : Int) + 1 by omega]; exact he2
    · have hb1 : b < s.heap.objs.size := by
        rcases (by simpa using hb : b = e ∨ b = it) with rfl | rfl
        · exact hel
        · exact hil
      rw [upd_ne (Nat.ne_of_lt hb1)]
      exact (hf b hb).1
  done := by
    intro X hP hw hK hc i pins s σ H E I hf st hg
    subst hP hw hK
    obtain ⟨⟨old, he⟩, hit, hne⟩ := st
    obtain ⟨xs, hq, hx⟩ := hg
    obtain ⟨its, rv, p, hz⟩ := I.tuple hq
    obtain ⟨f0, f1, f2, f3, f4, f5⟩ := hf it (by simp)
    have hl := rv.length
    have hin : X.A.in1.handled = none := I.ok.hd hc
    have ei : its.toArray.size = i := by rw [List.size_toArray]; omega
    exact wpAny_pyNext_enum_endD (Draws.tuple hin it a hae its.toArray) he ⟨by rw [ei]; exact hit, p⟩ fun h1 eb => ⟨rfl, I.turned (t' := s.toks) (fun b o hb q => eb b o hb q) f0 f1 f3 f4 f5⟩
  self := fun A i s Q E st h => let ⟨⟨_, he⟩, _⟩ := st; wpAny_pyIter_enum he h
def iEnT (K : PySem.W.Frag) (ta : TA) : TI := fun σ H R => ta σ H fun vs H1 => ∃ a xs, vs = [.ref a] ∧ SqT K H1 a xs ∧ R (IteT K a) H1
theorem pi_enumT {X : Cx} {e : Expr} {ta : TA} {p pos tpos : Pos} {elts : List Expr} {kk : Nat} (hg : Gl X "enumerate") (hm : X.mg "enumerate" = none) (ha : PA X [e] ta) (hs : starEach [e] X.env = [(false, eval e X.env)] := by rfl) :
    PI X (.Tuple elts kk tpos) (.Call (.Name "enumerate" p) [e] [] pos) (iEnT X.K ta) := by
  refine ⟨fun pins s σ H R I h => ?_⟩
  refine Call_ (ld_blt I hg hm boot_enumerate (PyProof.Rows.callWith_type1 (thn (ha.run pos pins s σ H _ I h) fun us s1 ⟨vs, H1, I1, r1, a, xs, ex, hq, q⟩ => ?_) hs rfl))
  subst ex
  rw [Vals.ref1 r1]
  obtain ⟨its, rv, pt, hz⟩ := I1.tuple hq
  have la : a < s1.heap.objs.size := by obtain ⟨o, ho, _⟩ := pt; exact Heap.lt_size ho
  refine enumT_call pt fun h1 he hit hk => wpAny_pyIter_enum he ?_
  refine ⟨s1.heap.objs.size + 1, [s1.heap.objs.size + 1, s1.heap.objs.size], _, _, H1, rfl, I1.kept (t' := s1.toks) hk, turnT a (s1.heap.objs.size + 1) s1.heap.objs.size (Nat.ne_of_lt la) (Nat.ne_of_gt (Nat.lt_succ_of_lt la)), ⟨⟨.none, he⟩, hit, Nat.succ_ne_self _⟩, fun b hb => ?_, q⟩
  have hle : s1.heap.objs.size ≤ b := by
    rcases (by simpa using hb : b = s1.heap.objs.size + 1 ∨ b = s1.heap.objs.size) with z | z
    · rw [z]; exact Nat.le_add_right _ _
    · rw [z]; exact Nat.le_refl _
  exact I1.fpOk hle (I1.hok.fresh hle)
/-! the plain rule -/
def numb : Nat → List PyData → List PyData
  | _, [] => []
  | k, d :: r => .tuple [.int (k : Nat), d] :: numb (k + 1) r
theorem numb_len : ∀ (k : Nat) (ds : List PyData), (numb k ds).length = ds.length
  | _, [] => rfl
  | k, d :: r => by simp [numb, numb_len (k + 1) r]
theorem numb_get : ∀ (k : Nat) (ds : List PyData) (i : Nat) {d : PyData}, ds[i]? = some d → (numb k ds)[i]? = some (.tuple [.int ((k + i : Nat) : Int), d])
  | _, [], _, _, h => by simp at h
  | k, d :: r, 0, _, h => by simp at h; subst h; simp [numb]
  | k, d :: r, i + 1, d', h => by
    have := numb_get (k + 1) r i (d := d') (by simpa using h)
    rw [show k + (i + 1) = k + 1 + i by omega]
    simpa [numb] using this
theorem itOk_enT {K : PySem.W.Frag} {F : Hp} {a : Addr} {vs : List V} {ds : List PyData} (h : SqT K F a vs) (r : RpAll K F vs ds) : ItOk K (IteT K a) F (numb 0 ds) := by
  have e := numb_len 0 ds
  refine ⟨fun i G H m st l R hi => ?_, fun i G H m st x H1 l R hi y => ?_, fun G H m st l R => ?_⟩
  · exact ⟨vs, vs[i]'(by rw [r.length]; omega), R.le.sqT (l.sqT h), by simp⟩
  · obtain ⟨T, x0, rfl, hT, rfl, y⟩ := y
    obtain ⟨d, e1, q⟩ := r.get' (y vs (R.le.sqT (l.sqT h)))
    obtain ⟨S, R1⟩ := R.new hT (.tup [.int (i : Nat), x0])
    refine ⟨_, .tuple [.int ((i : Nat) : Int), d], S, R1, by simpa using numb_get 0 ds i e1, .tup (SqT.of upd_same) (.cons (.int _) (.cons ((q.mono l).mono S.fF) .nil))⟩
  · exact ⟨vs, R.le.sqT (l.sqT h), by rw [r.length]; omega⟩
def enumD : List PyData → M (List PyData)
  | [.tuple ds] => PL.ret (numb 0 ds)
  | _ => fail
def sEnum (fs : Ev → M (List Val)) : Ev → M (List PyData) := fun ρ => bnd (fs ρ) fun xs => bnd (frzAll xs) enumD
theorem i_enum {X : Cx} {cn : Str → Option Addr} {E : XK} {e : Expr} {fs : Ev → M (List Val)} {p pos tpos : Pos} {elts : List Expr} {kk : Nat} (hm : X.mg "enumerate" = none) (ha : PA X [e] (TDA ⟨X.K, cn⟩ E fs)) (hg : Gl X "enumerate" := by rfl) (hs : starEach [e] X.env = [(false, eval e X.env)] := by rfl) :
    PI X (.Tuple elts kk tpos) (.Call (.Name "enumerate" p) [e] [] pos) (TID ⟨X.K, cn⟩ E (sEnum fs)) :=
  PI.imp (pi_enumT hg hm ha hs) fun σ H R ⟨F, m, ρ, st, R0, ev, p⟩ => ⟨F, m, ρ, st, R0, ev, PostG.mono (PostG.bnd (T := RVals X.K) p) fun vs H1 ⟨F1, m1, st1, xs, S1, R1, r1, p⟩ => by
    obtain ⟨F2, st2, ds, S2, R2, r2, p⟩ := frzAll_ok R1 r1 p
    unfold enumD at p
    split at p
    · rename_i es
      cases r2 with
      | cons h1 h2 =>
        cases h2
        cases h1 with
        | tup g1 g2 => exact ⟨_, _, rfl, R2.le.sqT g1, p F2 H1 m1 _ (Stp.refl _ _ _) R2 (itOk_enT g1 g2)⟩
    · exact p.elim⟩
end PL

set_option Elab.async false
set_option linter.all false
set_option maxRecDepth 100000
/-! ### d.get(k, x) of a written dict, list(text), sorted(dict) -/
namespace PL
open PySem PySem.Spec L2
open PyProof.Rows hiding St
section
variable {X : Cx} {cn : Str → Option Addr} {E : XK} {pos p q apos cpos : Pos} {x : Str} {kvs : List (Str × PyData)} {a b c : Expr} {f f' f3 : Ev → M Val}
def kget2V (kvs : List (Str × PyData)) (y z : Val) : M Val := fun st => match vw y st with
  | some (.str k) => (match lookS kvs k with
    | some d => .ok (.dat d) st
    | none => .ok z st)
  | _ => .err
def eKget2 (kvs : List (Str × PyData)) (f f' : Ev → M Val) : Ev → M Val := fun ρ => bnd (f ρ) fun y => bnd (f' ρ) fun z => kget2V kvs y z
theorem d_kget2 (G : GDict X.K X.w X.mg x kvs) (hb : PE X b (TD ⟨X.K, cn⟩ E f)) (hc : PE X c (TD ⟨X.K, cn⟩ E f')) (hg : Gl X x := by rfl) (hd : (x == ("__debug__" : Str)) = false := by decide) (m : M2 X (.Name x q) "get" apos b c cpos := by exact ⟨rfl, rfl, rfl, rfl⟩) :
    PE X (.Call (.Attribute (.Name x q) "get" apos) [b, c] [] cpos) (TD ⟨X.K, cn⟩ E (eKget2 kvs f f')) := by
  obtain ⟨d, es, n, hmg, D, hbb⟩ := G
  have ho : PE X (.Name x q) (tC (.ref d)) := pe_glob (v := .ref d) hg hmg rfl hd
  refine ⟨fun pins s σ H Q I ⟨F, m0, ρ, st, R, ev, p⟩ => ?_⟩
  refine wpAny_Call_method m.base m.few m.line PySem.F.plainAttrs_dict PySem.F.slot_dict_get PySem.F.type_dict_get (thn (ho.run pins s σ H (fun v H1 => v = .ref d ∧ H1 = H) I ⟨rfl, rfl⟩) fun u s1 ⟨v, H1, I1, rx, ev1, eH⟩ => ?_)
  subst ev1 eH
  cases rx
  refine ⟨kd_type D I1, fun b hb => ?_, ?_⟩
  · cases hb
    exact ⟨_, I1.kIn _ _ D.at_, rfl⟩
  rw [m.trees]
  refine Calls.callWith_builtin rfl (Calls.evalArgs_plain (Calls.spliced_cons (thn (hb.run pins s1 σ H1 _ I1 ⟨F, m0, ρ, st, R, ev, PostG.bnd (T := RVal X.K) p⟩) fun iv s2 ⟨y, H2, I2, ry, F2, m2, st2, y', S2, R2, r2, p⟩ => Calls.spliced_cons (thn (hc.run pins s2 σ H2 _ I2 ⟨F2, m2, ρ, st2, R2, ev.later S2, PostG.bnd (T := RVal X.K) p⟩) fun fv s3 ⟨z, H3, I3, rz, F3, m3, st3, z', S3, R3, r3, p⟩ => Calls.spliced_nil ?_))))
  have p : Post ⟨X.K, cn⟩ E F3 H3 m3 (kget2V kvs y' z' st3) Q := p
  unfold kget2V at p
  cases ex : vw y' st3 with
  | none => rw [ex] at p; exact p.elim
  | some dd =>
    rw [ex] at p
    have vb := vw_ok R3 (r2.later S3) ex
    obtain ⟨k, rfl⟩ : ∃ k, dd = .str k := by
      cases dd with
      | str k => exact ⟨k, rfl⟩
      | _ => exact p.elim
    cases vb
    obtain ⟨t, rfl⟩ := ry
    have mp := PySem.W.mapOf_K (prog := X.prog) (w := X.w) I3.kIn D.at_ D.lit
    refine call_meetsIn PySem.F.slot_dict_get (kd_type D I3) PySem.F.entry_dict_get (PySem.F.args_dict_get_3 _ _ _) (meets_dict_get_default (PySem.strKind X.prog X.w) d (PySem.strKind_is X.prog X.w k t) D.low fv) ⟨_, mp, ?_⟩
    dsimp only at p
    rcases nsIn_of D hbb k with ⟨e1, e2⟩ | ⟨d', u, e1, e2, e3⟩
    · rw [PySem.W.find_K D.at_ e2]
      rw [e1] at p
      exact ⟨z, H3, I3.tok _, rz, post_ok p R3 r3⟩
    · rw [PySem.W.find_K D.at_ e2]
      rw [e1] at p
      obtain ⟨y0, ry0, rp0⟩ := dataB_ok (K := X.K) d' u e3
      exact ⟨y0, H3, I3.tok _, ry0, post_ok p R3 (rp0 F3)⟩
/-! list(text) -/
theorem vals_sign {x : Str} {acc : Array Value} (h : ItemsOf (SignAt x) acc x.cps.size) : Vals (x.cps.toList.map fun c => V.str ⟨#[c]⟩) acc.toList := by
  have key : ∀ (l : List Nat) (vs : List Value), l.length = vs.length → (∀ (j : Nat) (v : Value), vs[j]? = some v → ∃ c u, l[j]? = some c ∧ v = .str ⟨#[c]⟩ u) → Vals (l.map fun c => V.str ⟨#[c]⟩) vs := by
    intro l
    induction l with
    | nil => intro vs e _; cases vs with
      | nil => exact .nil
      | cons => simp at e
    | cons c r ih => intro vs e k; cases vs with
      | nil => simp at e
      | cons v vs =>
        obtain ⟨c1, u, e1, rfl⟩ := k 0 v rfl
        simp at e1
        subst e1
        exact .cons ⟨u, rfl⟩ (ih vs (by simpa using e) fun j v hj => by simpa using k (j + 1) v (by simpa using hj))
  refine key _ _ (by simp [h.1]) fun j v hj => ?_
  obtain ⟨c, u, e1, e2⟩ := h.2 j v (by simpa using hj)
  exact ⟨c, u, by simpa using e1, e2⟩
theorem rpSigns {K : PySem.W.Frag} {F : Hp} : ∀ l : List Nat, RpAll K F (l.map fun c => V.str ⟨#[c]⟩) (l.map fun c => PyData.str ⟨#[c]⟩)
  | [] => .nil
  | c :: r => .cons (.str _) (rpSigns r)
def listS : PyData → M Val
  | .str x => chk (decide (x.cps.size ≤ sizeLine)) (PL.ret (.dat (.list (PL.signs x))))
  | _ => fail
theorem c_listS (hc : X.calm = true) : CallR X (.type "list") (rDA ⟨X.K, cn⟩ E (on1L listS)) := on1L_ok fun pins s σ H F m st x d us Q I rx R h1 p => by
  cases h1 with
  | str x =>
    obtain ⟨z, p⟩ := post_chk p
    have z := of_decide_eq_true z
    obtain ⟨u, rfl, t, rfl⟩ := vals1 rx
    refine call_list_str (hn := z) (I.ok.hd hc) x t fun h1 tk acc c hk hg hi => ?_
    have hn : H s.heap.objs.size = none := I.hok.fresh (Nat.le_refl _)
    obtain ⟨S, R1⟩ := R.new hn (.lst (x.cps.toList.map fun c => V.str ⟨#[c]⟩))
    refine ⟨.ref _, _, I.laid (t' := tk) (o := .lst (x.cps.toList.map fun c => V.str ⟨#[c]⟩)) hk (Nat.le_refl _) ⟨by simpa using z, acc.toList, c, vals_sign hi, by rw [Array.toArray_toList]; exact hg⟩, rfl, p _ _ _ _ S R1 (.lst upd_same (rpSigns _))⟩
  | _ => exact p.elim
/-! sorted(d), the keys texts -/
def keysS : List (Key × PyData) → Option (List Str)
  | [] => some []
  | (.inr k, _) :: r => (keysS r).map (k :: ·)
  | (.inl _, _) :: _ => none
theorem keysS_ok {K : PySem.W.Frag} {F : Hp} : ∀ {ws : List (Key × V)} {kvs : List (Key × PyData)} {ks : List Str}, RKV K F ws kvs → keysS kvs = some ks → ws.map (·.1) = ks.map Sum.inr
  | _, _, ks, .nil, e => by cases e; rfl
  | _, _, ks, @Paired.cons _ _ _ p q ws kvs h r, e => by
    obtain ⟨k, d⟩ := q
    cases k with
    | inl i => cases e
    | inr k =>
      simp only [keysS, Option.map_eq_some_iff] at e
      obtain ⟨zs, e1, rfl⟩ := e
      have := keysS_ok r e1
      have h1 : p.1 = Sum.inr k := h.1
      simp [this, h1]
def sortDV (xs : List Val) : M Val := fun st => match xs with
  | [x] => (match dctV x st with
    | some (_, kvs) => (match keysS kvs with
      | some ks => if ks.length < 64 then .ok (.dat (.list ((sortS ks).map .str))) st else .err
      | none => .err)
    | none => .err)
  | _ => .err
theorem c_sortedD (hc : X.calm = true) : CallR X (.builtin "sorted") (rDA ⟨X.K, cn⟩ E sortDV) := by
  intro pins s σ H vs us Q I rx ⟨F, m, st, xs, R, h1, p⟩
  unfold sortDV at p
  split at p
  · rename_i x
    cases h1 with
    | cons r1 r2 =>
      cases r2
      cases q : dctV x st with
      | none => rw [q] at p; exact p.elim
      | some kk =>
        obtain ⟨k, kvs⟩ := kk
        rw [q] at p
        dsimp only at p
        cases qk : keysS kvs with
        | none => rw [qk] at p; exact p.elim
        | some ks =>
          rw [qk] at p
          dsimp only at p
          obtain ⟨aa, ws, rfl, _, _, g1, g2⟩ := dctV_ok R r1 q
          by_cases hl : ks.length < 64
          · rw [if_pos hl] at p
            refine call_sortedD hc pins s σ H _ us Q I rx ⟨aa, ws, ks, rfl, .inl g1, keysS_ok g2 qk, hl, fun ys pp z1 z2 hn => ?_⟩
            obtain rfl := sort_uniq z1 z2
            obtain ⟨S, R1⟩ := R.new hn (.lst ((sortS ks).map V.str))
            exact p _ _ _ _ S R1 (.lst upd_same (rpStrs _))
          · rw [if_neg hl] at p; exact p.elim
  · exact p.elim
end
end PL

set_option Elab.async false
set_option linter.all false
set_option maxRecDepth 100000
/-! ### enumerate of a text -/
namespace PL
open PySem PySem.Spec L2
open PyProof.Rows hiding St
/-- the signs of z, each in a new pair -/
def IteS (z : Str) : It :=
  ⟨fun i _ => i < z.cps.size, fun i H v H1 => ∃ T c, v = .ref T ∧ H T = none ∧ z.cps[i]? = some c ∧ H1 = upd H T (.tup [.int (i : Nat), .str ⟨#[c]⟩]), fun i _ => z.cps.size = i⟩
theorem strIt_at {h h1 : Heap} {it : Addr} {ty : String} {z : Str} {tz : Tok} {i : Nat} (x : h.IsStrIter it ty z tz i) (k : ∀ o, h.get? it = some o → h1.get? it = some o) : h1.IsStrIter it ty z tz i := let ⟨o, ho, r⟩ := x; ⟨o, k o ho, r⟩
theorem turnS {P : Program} {w : World} {K : PySem.W.Frag} {elts : List Expr} {kk : Nat} {tpos : Pos} (z : Str) (tz : Tok) (e it : Addr) :
    Turn P w K (.Tuple elts kk tpos) (IteS z) [e, it] e (fun i h => (∃ old, IsEnum h e it ((i : Nat) : Int) old) ∧ h.IsStrIter it (strIterType z) z tz i ∧ e ≠ it) where
  mem := by simp
  obj := fun i h st b hb => by
    obtain ⟨⟨old, he⟩, ⟨o, ho, hc, hd⟩, _⟩ := st
    rcases (by simpa using hb : b = e ∨ b = it) with rfl | rfl
    · exact ⟨_, he, fun v q => nomatch q⟩
    · exact ⟨o, ho, fun v q => by rw [hd] at q; cases q⟩
  keep := fun i h h1 st k => let ⟨⟨old, he⟩, hi, hne⟩ := st; ⟨⟨old, k e (by simp) _ he⟩, strIt_at hi fun o q => k it (by simp) o q, hne⟩
  item := by
    intro X hP hw hK hc i pins s σ H E I hf st hg
    subst hP hw hK
    obtain ⟨⟨old, he⟩, hit, hne⟩ := st
    have hel : e < s.heap.objs.size := Heap.lt_size he
    have hil : it < s.heap.objs.size := by obtain ⟨_, q, _⟩ := hit; exact Heap.lt_size q
    have hin : X.A.in1.handled = none := I.ok.hd hc
    have li : i < z.cps.size := hg
    refine wpAny_pyNext_enum_itemD (Draws.text hin it z tz) he hit li hne (by simp [hne]) fun x1 h1 tk hx1 ho st1 hT hsz hk => ?_
    obtain ⟨c, uc, hc1, rfl⟩ := hx1
    refine ⟨_, rfl, wpAny_letOwnedTupleGo_enum (s := { s with heap := h1, toks := tk + 1 }) ho fun h2 he2 sb => ?_⟩
    have hT2 : h2.get? s.heap.objs.size = some { cls := .type "tuple", data := .seq #[.int i tk, Value.str ⟨#[c]⟩ uc] } := (sb.2 _ (Nat.ne_of_gt hel)).trans hT
    have new : ObjOk X.prog X.w (upd H s.heap.objs.size (.tup [.int (i : Nat), .str ⟨#[c]⟩])) h2 s.heap.objs.size (.tup [.int (i : Nat), .str ⟨#[c]⟩]) :=
      ⟨by show 2 ≤ sizeLine; decide, [.int i tk, Value.str ⟨#[c]⟩ uc], .cons ⟨_, rfl⟩ (.cons ⟨_, rfl⟩ .nil), ⟨_, hT2, rfl, _, rfl⟩⟩
    have I1 : Inv X pins σ (upd H s.heap.objs.size (.tup [.int (i : Nat), .str ⟨#[c]⟩])) { s with heap := h2, toks := tk + 1 } :=
      I.turnedNew (ch := [e, it]) (fun b ob hb q => (sb.2 b (fun z => hb (by simp [z]))).trans (hk b ob (fun z => hb (by simp [z])) (fun z => hb (by simp [z])) q)) hf (Nat.le_refl _) new
    refine ⟨.ref s.heap.objs.size, _, I1, rfl, ⟨_, c, rfl, I.hok.fresh (Nat.le_refl _), hc1, rfl⟩, ⟨⟨Value.str ⟨#[c]⟩ uc, ?_⟩, strIt_at st1 fun o q => (sb.2 it (Ne.symm hne)).trans q, hne⟩, fun b hb => ?_⟩
    · rw [show ((i + 1 : Nat) : Int) = (i : Int) + 1 by omega]; exact he2
    · have hb1 : b < s.heap.objs.size := by
        rcases (by simpa using hb : b = e ∨ b = it) with rfl | rfl
        · exact hel
        · exact hil
      rw [upd_ne (Nat.ne_of_lt hb1)]
      exact (hf b hb).1
  done := by
    intro X hP hw hK hc i pins s σ H E I hf st hg
    subst hP hw hK
    obtain ⟨⟨old, he⟩, hit, hne⟩ := st
    have hx : z.cps.size = i := hg
    obtain ⟨f0, f1, f2, f3, f4, f5⟩ := hf it (by simp)
    have hin : X.A.in1.handled = none := I.ok.hd hc
    exact wpAny_pyNext_enum_endD (Draws.text hin it z tz) he (by rw [hx]; exact hit) fun h1 eb => ⟨rfl, I.turned (t' := s.toks) (fun b o hb q => eb b o hb q) f0 f1 f3 f4 f5⟩
  self := fun A i s Q E st h => let ⟨⟨_, he⟩, _⟩ := st; wpAny_pyIter_enum he h
def iEnS (ta : TA) : TI := fun σ H R => ta σ H fun vs H1 => ∃ z, vs = [.str z] ∧ R (IteS z) H1
theorem pi_enumS {X : Cx} {e : Expr} {ta : TA} {p pos tpos : Pos} {elts : List Expr} {kk : Nat} (hg : Gl X "enumerate") (hm : X.mg "enumerate" = none) (ha : PA X [e] ta) (hs : starEach [e] X.env = [(false, eval e X.env)] := by rfl) :
    PI X (.Tuple elts kk tpos) (.Call (.Name "enumerate" p) [e] [] pos) (iEnS ta) := by
  refine ⟨fun pins s σ H R I h => ?_⟩
  refine Call_ (ld_blt I hg hm boot_enumerate (PyProof.Rows.callWith_type1 (thn (ha.run pos pins s σ H _ I h) fun us s1 ⟨vs, H1, I1, r1, z, ex, q⟩ => ?_) hs rfl))
  subst ex
  obtain ⟨u, rfl, t, rfl⟩ := vals1 r1
  refine call_enumerate_str fun h1 he hit hsz hk => wpAny_pyIter_enum he ?_
  refine ⟨s1.heap.objs.size + 1, [s1.heap.objs.size + 1, s1.heap.objs.size], _, _, H1, rfl, I1.kept (t' := s1.toks) hk, turnS z t (s1.heap.objs.size + 1) s1.heap.objs.size, ⟨⟨.none, he⟩, hit, Nat.succ_ne_self _⟩, fun b hb => ?_, q⟩
  have hle : s1.heap.objs.size ≤ b := by
    rcases (by simpa using hb : b = s1.heap.objs.size + 1 ∨ b = s1.heap.objs.size) with z | z
    · rw [z]; exact Nat.le_add_right _ _
    · rw [z]; exact Nat.le_refl _
  exact I1.fpOk hle (I1.hok.fresh hle)
theorem itOk_enS {K : PySem.W.Frag} {F : Hp} {z : Str} : ItOk K (IteS z) F (numb 0 (PL.signs z)) := by
  have e := numb_len 0 (PL.signs z)
  have e2 : (PL.signs z).length = z.cps.size := by unfold PL.signs; simp
  refine ⟨fun i G H m st l R hi => ?_, fun i G H m st x H1 l R hi y => ?_, fun G H m st l R => ?_⟩
  · show i < z.cps.size
    omega
  · obtain ⟨T, c, rfl, hT, hc, rfl⟩ := y
    obtain ⟨S, R1⟩ := R.new hT (.tup [.int (i : Nat), .str ⟨#[c]⟩])
    have q : (PL.signs z)[i]? = some (.str ⟨#[c]⟩) := by unfold PL.signs; rw [List.getElem?_map, Array.getElem?_toList, hc]; rfl
    exact ⟨_, .tuple [.int ((i : Nat) : Int), .str ⟨#[c]⟩], S, R1, by simpa using numb_get 0 (PL.signs z) i q, .tup (SqT.of upd_same) (.cons (.int _) (.cons (.str _) .nil))⟩
  · show z.cps.size = _
    omega
def enumSD : List PyData → M (List PyData)
  | [.str z] => PL.ret (numb 0 (PL.signs z))
  | _ => fail
def sEnumS (fs : Ev → M (List Val)) : Ev → M (List PyData) := fun ρ => bnd (fs ρ) fun xs => bnd (frzAll xs) enumSD
theorem i_enumS {X : Cx} {cn : Str → Option Addr} {E : XK} {e : Expr} {fs : Ev → M (List Val)} {p pos tpos : Pos} {elts : List Expr} {kk : Nat} (hm : X.mg "enumerate" = none) (ha : PA X [e] (TDA ⟨X.K, cn⟩ E fs)) (hg : Gl X "enumerate" := by rfl) (hs : starEach [e] X.env = [(false, eval e X.env)] := by rfl) :
    PI X (.Tuple elts kk tpos) (.Call (.Name "enumerate" p) [e] [] pos) (TID ⟨X.K, cn⟩ E (sEnumS fs)) :=
  PI.imp (pi_enumS hg hm ha hs) fun σ H R ⟨F, m, ρ, st, R0, ev, p⟩ => ⟨F, m, ρ, st, R0, ev, PostG.mono (PostG.bnd (T := RVals X.K) p) fun vs H1 ⟨F1, m1, st1, xs, S1, R1, r1, p⟩ => by
    obtain ⟨F2, st2, ds, S2, R2, r2, p⟩ := frzAll_ok R1 r1 p
    unfold enumSD at p
    split at p
    · rename_i es
      cases r2 with
      | cons h1 h2 =>
        cases h2
        cases h1
        exact ⟨_, rfl, p F2 H1 m1 _ (Stp.refl _ _ _) R2 itOk_enS⟩
    · exact p.elim⟩
end PL

set_option Elab.async false
set_option linter.all false
set_option maxRecDepth 100000
/-! ### sorted(set(texts)) -/
namespace PL
open PySem PySem.Spec L2
open PyProof.Rows hiding St
def keyS (e : Int × Value) : Str := match e.2 with
  | .str x _ => x
  | _ => Str.empty
def EnS (P : Program) (w : World) (e : Int × Value) : Prop := ∃ x tk, e.2 = Value.str x tk ∧ e.1 = (PySem.strKind P w).hash x
/-- the set at a holds just the texts ys; it can be walked -/
structure SetS (P : Program) (w : World) (h : Heap) (a : Addr) (ys : List Str) : Prop where
  ex : ∃ o es ep t, (h.get? a = some o ∧ o.ExactSet ∧ o.data = .set es ep t) ∧ (∀ e ∈ es.toList, EnS P w e) ∧ (es.toList.map keyS).Perm ys ∧ es.size < scanBound ∧ t.fits es.size = true ∧ Ris t.place.toList ∧ (w.params.followText "set-order" = true ∨ t.led = true)
  nd : ys.Nodup
section
variable {P : Program} {w : World}
theorem SetS.keep {h h' : Heap} {a : Addr} {ys : List Str} (R : SetS P w h a ys) (k : ∀ o, h.get? a = some o → h'.get? a = some o) : SetS P w h' a ys := by
  obtain ⟨o, es, ep, t, ⟨h1, h2⟩, r⟩ := R.ex
  exact ⟨⟨o, es, ep, t, ⟨k o h1, h2⟩, r⟩, R.nd⟩
theorem enS_el {l : List (Int × Value)} (g : ∀ e ∈ l, EnS P w e) : ElemsOf (PySem.strKind P w) l := fun e he => by
  obtain ⟨x, tk, q1, q2⟩ := g e he
  exact ⟨⟨x, by rw [q1]; exact strKind_is P w x tk, q2⟩, by rw [q1]; rfl⟩
theorem enS_key {e : Int × Value} (g : EnS P w e) (x : Str) : (PySem.strKind P w).is x e.2 = true ↔ keyS e = x := by
  obtain ⟨y, tk, q1, _⟩ := g
  unfold keyS
  rw [q1]
  constructor
  · intro q
    exact (PySem.strKind P w).inj _ _ _ (strKind_is P w y tk) q
  · intro q
    subst q
    exact strKind_is P w _ tk
theorem enS_mem {l : List (Int × Value)} (g : ∀ e ∈ l, EnS P w e) (x : Str) : x ∈ l.map keyS ↔ ∃ e ∈ l, (PySem.strKind P w).is x e.2 = true := by
  simp only [List.mem_map]
  exact ⟨fun ⟨e, he, q⟩ => ⟨e, he, (enS_key (g e he) x).mpr q⟩, fun ⟨e, he, q⟩ => ⟨e, he, (enS_key (g e he) x).mp q⟩⟩
end
def addS (ys : List Str) (x : Str) : List Str := if x ∈ ys then ys else x :: ys
def dedS (xs : List Str) : List Str := xs.foldl addS []
section
variable {P : Program} {w : World} {A : Around} {E : Value → Shared → Prop} {s : Shared} {a : Addr} {ys : List Str}
theorem setS_end {gv : Bool → Sem Unit} (hgv : ∀ (b : Bool) (s1 : Shared) (Z : Unit → Shared → Prop), Z () s1 → wpAny (model P w) A (gv b) Z E s1)
    {o : Obj} {es es1 : Array (Int × Value)} {ep : Nat} {t t2 : SetTable} {zs : List Str} {dm : Bool} {R : Option Bool → Shared → Prop} (ho : s.heap.get? a = some o) (hex : o.ExactSet) (hd : o.data = .set es ep t)
    (g1 : ∀ e ∈ es1.toList, EnS P w e) (pk : (es1.toList.map keyS).Perm zs) (nd : zs.Nodup) (hb : es1.size < scanBound) (hf : t2.fits es1.size = true) (hr : Ris t2.place.toList) (hl : w.params.followText "set-order" = true ∨ t2.led = true)
    (hR : ∀ h1, Heap.SameBut a s.heap h1 → SetS P w h1 a zs → R (some true) { s with heap := h1 }) :
    wpAny (model P w) A (do
        storeSet a es1 t2
        if (!dm && t2.tooFull) = true then do
            gv (relayAll t2 es1 (SetTable.grown es1.size)).2.2
            storeSet a (relayAll t2 es1 (SetTable.grown es1.size)).1 (relayAll t2 es1 (SetTable.grown es1.size)).2.1
            pure (some true)
          else pure (some true)) R E s := by
  have st1 := store_at (es' := es1) (t' := t2) ho hd
  have sb := Heap.SameBut.update s.heap a (Obj.putSet es1 t2)
  refine wpAny_bind (wpAny_storeSet_of ho hd ?_ (fits_of_scanBound hb))
  split
  · have c1 := relayAll_perm t2 es1 (SetTable.grown es1.size)
    have c2 := relayAll_fits t2 es1 (SetTable.grown es1.size)
    have c3 := relayAll_ris t2 es1 (SetTable.grown es1.size)
    have c4 := relayAll_led t2 es1 (SetTable.grown es1.size)
    revert c1 c2 c3 c4
    generalize relayAll t2 es1 (SetTable.grown es1.size) = q
    obtain ⟨es2, t3, gave⟩ := q
    intro c1 c2 c3 c4
    dsimp only at c1 c2 c3 c4 ⊢
    have n2 : es2.size < scanBound := by
      have e := c1.length_eq
      simp only [Array.length_toList] at e
      omega
    refine wpAny_bind (hgv _ _ _ (wpAny_bind (wpAny_storeSet_of st1 rfl ?_ (fits_of_scanBound n2))))
    refine wpAny_pure (hR _ (sb.trans (Heap.SameBut.update _ a _)) ⟨⟨_, es2, _, t3, ⟨store_at (es' := es2) (t' := t3) st1 rfl, hex, rfl⟩, fun e he => g1 e (c1.mem_iff.mp he), (c1.map keyS).trans pk, n2, c2, c3, ?_⟩, nd⟩)
    rcases hl with hl | hl
    · exact .inl hl
    · exact .inr (c4.trans hl)
  · exact wpAny_pure (hR _ sb ⟨⟨_, es1, _, t2, ⟨st1, hex, rfl⟩, g1, pk, hb, hf, hr, hl⟩, nd⟩)
theorem setS_addH {x : Str} {tk : Tok} {Q : Bool → Shared → Prop} (R : SetS P w s.heap a ys) (room : ys.length + 1 < scanBound)
    (hQ : ∀ b h1, Heap.SameBut a s.heap h1 → SetS P w h1 a (addS ys x) → Q b { s with heap := h1 }) :
    wpAny (model P w) A (setAddHashed a (.str x tk) ((PySem.strKind P w).hash x)) Q E s := by
  obtain ⟨o, es, ep, t, ⟨ho, hex, hd⟩, g, pk, hb, hf, hr, hl⟩ := R.ex
  have el := enS_el g
  have hsc : (Value.str x tk).scannable = true := rfl
  have isx : (PySem.strKind P w).is x (.str x tk) = true := strKind_is P w x tk
  have gv : ∀ (b : Bool) (s1 : Shared) (Z : Unit → Shared → Prop), Z () s1 → wpAny (model P w) A (match b with | true => rule "set.scan.the-table-gave-way" | false => pure ()) Z E s1 := fun b s1 Z q => by
    cases b
    · exact wpAny_pure q
    · exact wpAny_rule q
  unfold setAddHashed setAddHashedIn
  refine wpAny_holding (wpAny_bind (wpAny_setState_of ho hd hf ?_))
  dsimp only
  rw [byScan_of hsc hb el]
  simp only [↓reduceIte]
  unfold setAddByScan
  refine wpAny_bind (wpAny_bind (wpAny_rule (wpAny_bind (wpAny_setScan_of isx ho hd hf el ?_))))
  cases fi : List.findIdx? (fun e => (PySem.strKind P w).is x e.2) es.toList with
  | some j =>
    obtain ⟨hj, pj, _⟩ := List.findIdx?_eq_some_iff_getElem.mp fi
    have mx : x ∈ ys := pk.mem_iff.mp ((enS_mem g x).mpr ⟨_, List.getElem_mem hj, pj⟩)
    refine wpAny_pure (wpAny_pure (hQ _ s.heap (Heap.SameBut.refl a s.heap) ?_))
    unfold addS
    rw [if_pos mx]
    exact R
  | none =>
    dsimp only
    have nx : x ∉ ys := fun z => by
      obtain ⟨e, he, q⟩ := (enS_mem g x).mp (pk.mem_iff.mpr z)
      have c := List.findIdx?_eq_none_iff.mp fi e he
      rw [q] at c
      cases c
    have e0 : addS ys x = x :: ys := if_neg nx
    rw [e0] at hQ
    have c1 := layNew_perm t es ((PySem.strKind P w).hash x) (.str x tk)
    have c2 := layNew_fits t es ((PySem.strKind P w).hash x) (.str x tk)
    have c3 := layNew_ris t es ((PySem.strKind P w).hash x) (.str x tk) hr
    have c4 := layNew_led t es ((PySem.strKind P w).hash x) (.str x tk)
    revert c1 c2 c3 c4
    generalize layNew t es ((PySem.strKind P w).hash x) (.str x tk) = q
    obtain ⟨es1, t1, dm, gave⟩ := q
    intro c1 c2 c3 c4
    dsimp only at c1 c2 c3 c4 ⊢
    rw [Array.toList_push] at c1
    have pc := c1.trans (List.perm_append_singleton _ _)
    have g1 : ∀ e ∈ es1.toList, EnS P w e := fun e he => by
      rcases List.mem_cons.mp (pc.mem_iff.mp he) with z | z
      · rw [z]; exact ⟨x, tk, rfl, rfl⟩
      · exact g e z
    have pk1 : (es1.toList.map keyS).Perm (x :: ys) := (pc.map keyS).trans (pk.cons x)
    have nd1 : (x :: ys).Nodup := List.nodup_cons.mpr ⟨nx, R.nd⟩
    have hb1 : es1.size < scanBound := by
      have e := pk1.length_eq
      simp only [List.length_map, Array.length_toList, List.length_cons] at e
      omega
    have hl1 : w.params.followText "set-order" = true ∨ t1.led = true := by
      rcases hl with hl | hl
      · exact .inl hl
      · exact .inr (c4.trans hl)
    refine wpAny_bind (gv _ _ _ ?_)
    split
    · refine wpAny_bind ?_
      rw [hashByValue_scannable 8 hsc]
      refine wpAny_pure (setS_end (fun b s1 Z q => ?_) ho hex hd g1 pk1 nd1 hb1 ?_ ?_ ?_ ?_)
      · cases b
        · exact wpAny_pure q
        · exact wpAny_rule q
      · first | (split <;> first | exact c2 | exact SetTable.fits_plain_off c2) | exact c2
      · first | (split <;> exact c3) | exact c3
      · first | (split <;> exact hl1) | exact hl1
      · exact fun h1 sb r => wpAny_pure (hQ _ h1 sb r)
    · refine wpAny_bind (wpAny_pure ?_)
      simp only [↓reduceIte]
      refine setS_end (fun b s1 Z q => ?_) ho hex hd g1 pk1 nd1 hb1 c2 c3 hl1 fun h1 sb r => wpAny_pure (hQ _ h1 sb r)
      cases b
      · exact wpAny_pure q
      · exact wpAny_rule q
theorem setS_new {h : Heap} {a : Addr} (ho : h.get? a = some { cls := .type "set", dict := none, data := .set #[] 0 (.fresh 0 0 (!w.params.followText "set-order")) }) : SetS P w h a [] := by
  refine ⟨⟨_, #[], 0, _, ⟨ho, ⟨rfl, rfl, rfl⟩, rfl⟩, fun e he => by simp at he, .refl _, by decide, rfl, List.Pairwise.nil, ?_⟩, List.nodup_nil⟩
  show _ ∨ (!w.params.followText "set-order") = true
  cases w.params.followText "set-order"
  · exact .inr rfl
  · exact .inl rfl
theorem addS_len (ys : List Str) (x : Str) : (addS ys x).length ≤ ys.length + 1 := by
  unfold addS
  split
  · omega
  · simp
theorem fold_len : ∀ (xs ys : List Str), (xs.foldl addS ys).length ≤ ys.length + xs.length
  | [], ys => by simp
  | x :: r, ys => by
    have h1 := fold_len r (addS ys x)
    have h2 := addS_len ys x
    simp only [List.foldl_cons, List.length_cons]
    omega
theorem take_fold {xs : List Str} {i : Nat} {x : Str} (h : xs[i]? = some x) : (xs.take (i + 1)).foldl addS [] = addS ((xs.take i).foldl addS []) x := by
  have e : xs.take (i + 1) = xs.take i ++ [x] := by rw [List.take_succ, h]; rfl
  rw [e, List.foldl_append]
  rfl
/-- the loop of set.update -/
theorem setS_loop {I : Addr} {fp wr : List Addr} {G : Array GenState → Array GenState → Prop} {n : Nat} {Pv : Nat → Value → Prop} {St : Nat → Shared → Prop} {R : Result → Shared → Prop}
    (W : WalksS P w A.in1 I fp wr G n Pv St) (D : Addr) (hD : D ∉ fp) (xs : List Str) (hn : n = xs.length) (hfew : xs.length + 1 < scanBound) (hv : ∀ i v, Pv i v → ∃ x tk, xs[i]? = some x ∧ v = .str x tk) :
    ∀ (k i : Nat) (s : Shared), n - i = k → i ≤ n → St i s → SetS P w s.heap D ((xs.take i).foldl addS []) →
      (∀ s1, Moved (D :: wr) G s s1 → SetS P w s1.heap D (dedS xs) → R (.ok (.ret .none)) s1) →
      codeAny (model P w) A (.builtin "set.update.loop" ⟨[.ref D, .ref I], []⟩) R s := by
  have hDw : D ∉ wr := fun h => hD (W.sub _ h)
  have mor : ∀ b ∈ wr, b ∈ D :: wr := fun b hb => List.mem_cons_of_mem _ hb
  intro k
  induction k with
  | zero =>
    intro i s hk hi hst hS hR
    obtain rfl : i = n := by omega
    refine codeAny_builtin F.entry_set_update_loop ?_
    rw [Around.under_plainId F.plain_set_update_loop _]
    show wpAny _ A.in1 (pyNext (.ref I) >>= _) _ _ s
    refine wpAny_bind (W.done s _ _ hst fun s1 hm => ?_)
    have e : (xs.take i).foldl addS [] = dedS xs := by rw [hn, List.take_length]; rfl
    rw [e] at hS
    exact wpAny_pure (hR s1 (hm.mono mor) (hS.keep fun o q => hm.heap D o hDw q))
  | succ k ih =>
    intro i s hk hi hst hS hR
    have hlt : i < n := by omega
    refine codeAny_builtin F.entry_set_update_loop ?_
    rw [Around.under_plainId F.plain_set_update_loop _]
    show wpAny _ A.in1 (pyNext (.ref I) >>= _) _ _ s
    refine wpAny_bind (W.item i s _ _ hlt hst fun v s1 hP hst1 hm => ?_)
    obtain ⟨x, tk, hx, rfl⟩ := hv i v hP
    have hS1 : SetS P w s1.heap D ((xs.take i).foldl addS []) := hS.keep fun o q => hm.heap D o hDw q
    show wpAny _ A.in1 (holding [Value.str x tk] (setAdd D (.str x tk)) >>= _) _ _ s1
    refine wpAny_bind (wpAny_holding ?_)
    unfold setAdd
    refine wpAny_holding (wpAny_bind ((PySem.strKind P w).pyHash (k := x) (strKind_is _ _ _ _) ?_))
    have room : ((xs.take i).foldl addS []).length + 1 < scanBound := by
      have q1 := fold_len (xs.take i) []
      have q2 : (xs.take i).length ≤ xs.length := List.length_take_le' _ _
      simp only [List.length_nil, Nat.zero_add] at q1
      omega
    refine setS_addH (s := { s1 with toks := s1.toks + 1 }) hS1 room fun b h1 sb hS2 => ?_
    rw [← take_fold hx] at hS2
    refine wpAny_pure ⟨plainId_quiet F.plain_set_update_loop _, ih (i + 1) _ (by omega) hlt (W.frame _ s1 _ _ hst1 (Nat.le_succ _) fun c hc o q => ?_) hS2 fun s2 hm2 hS3 => ?_⟩
    · rw [sb.2 c fun z => hD (by rw [← z]; exact hc)]; exact q
    · refine hR s2 (Moved.trans W.gtrans ((hm.mono mor).then_heap (Nat.le_succ _) fun c o hc q => ?_) hm2) hS3
      rw [sb.2 c fun z => hc (by rw [z]; exact List.mem_cons_self)]; exact q
/-- the object that set() lays -/
abbrev newSet (w : World) : Obj := { cls := .type "set", dict := none, data := .set #[] 0 (.fresh 0 0 (!w.params.followText "set-order")) }
set_option maxHeartbeats 3200000 in
theorem setS_list {l : Addr} {items : Array Value} {xs : List Str} {Q : Value → Shared → Prop} (hh : A.handled = none) (hl : s.heap.IsList l items) (hi : StrsAre items.toList xs) (hfew : xs.length + 1 < scanBound)
    (h : ∀ (h1 : Heap) (tk : Nat), SetS P w h1 s.heap.objs.size (dedS xs) → (∀ b o, b < s.heap.objs.size → s.heap.get? b = some o → h1.get? b = some o) → Q (.ref s.heap.objs.size) { s with heap := h1, toks := tk }) :
    wpAny (model P w) A (call (.type "set") [.ref l]) Q E s := by
  obtain ⟨c, tl, hmro⟩ := F.called_set.mro
  have hmade := F.called_set.made
  have hsub := F.called_set.sub
  refine wpAny_call (codeAny_of_tree ?_)
  show wpAny _ _ (callAny (.type "set") _) _ _ _
  refine wpAny_pure ⟨Code.quiet_builtin _ (by decide +kernel), codeAny_builtin F.entry_type_call ?_⟩
  rw [Around.under_plain (weight_type_call_type "set" [.ref l] []) rfl]
  have a1 := F.called_set.notType
  have a2 := F.called_set.canCreate
  have a3 := F.typeCall_set_1 (.ref l)
  repeat (any_goals (first | assumption | wp_step))
  refine codeAny_mono (code_set_led1 (.ref l) (E := E) (Q₁ := fun ob s1 => ob = .ref s.heap.objs.size ∧ s1 = { s with heap := s.heap.push (newSet w) }) ⟨rfl, rfl⟩) fun r s1 hr => ?_
  cases r with
  | error e => exact hr
  | ok fl =>
    cases fl with
    | ret obj =>
      obtain ⟨rfl, rfl⟩ := hr
      have at0 : (s.heap.push (newSet w)).get? s.heap.objs.size = some (newSet w) := Heap.get?_push_size _ rfl
      have ty0 : Shared.TypeIs { s with heap := s.heap.push (newSet w) } (.ref s.heap.objs.size) "set" := ⟨_, at0, rfl⟩
      have a4 := F.called_set.init.lookup
      have a5 := F.called_set.init.bind (.ref s.heap.objs.size)
      repeat (any_goals (first | assumption | wp_step))
      refine codeAny_mono (codeAny_call_builtin (R := wants (fun r s2 => r = .none ∧ ∃ h1 tk, s2 = { s with heap := h1, toks := tk } ∧ SetS P w h1 s.heap.objs.size (dedS xs) ∧
          (∀ b o, b < s.heap.objs.size → s.heap.get? b = some o → h1.get? b = some o)) E) F.called_set.init.plain F.entry_set_init (check_set_init_1 ty0 ?_)) fun r2 s2 hr2 => ?_
      · obtain ⟨ol, hol, hcl, nl, hdl⟩ := hl
        obtain ⟨ocls, odict, odata, oslots⟩ := ol
        simp only at hcl hdl
        subst hcl; subst hdl
        have hol1 : (s.heap.push (newSet w)).get? l = some { cls := .type "list", dict := odict, data := .seq items nl, slots := oslots } := Heap.get?_push_of_some _ hol
        have b1 := F.sub_list_set
        have b2 := F.sub_list_frozenset
        have b3 : (Value.type "list" == Value.type "dict") = false := by decide
        have hl1 : (s.heap.push (newSet w)).IsList l items := ⟨_, hol1, rfl, nl, rfl⟩
        unfold Builtin.«set.__init__» noKeywords Builtin.Frozenset.updateFrom
        generalize hPI : pyIter = PI
        wp_walk
        subst hPI
        refine wpAny_pyIter_list hl1 (wpAny_bind (wpAny_runValue ?_))
        have ll : l < s.heap.objs.size := Heap.lt_size hol
        have hh3 : A.in1.in1.in1.handled = none := by simp [hh]
        have zp : (s.heap.push (newSet w)).objs.size = s.heap.objs.size + 1 := Heap.size_push ..
        have b4 : l ≠ (s.heap.push (newSet w)).objs.size := by rw [zp]; exact Nat.ne_of_lt (Nat.lt_succ_of_lt ll)
        have b5 : s.heap.objs.size ∉ [(s.heap.push (newSet w)).objs.size, l] := by
          rw [zp]
          intro z
          rcases List.mem_cons.mp z with z | z
          · omega
          · exact Nat.ne_of_gt ll (List.mem_singleton.mp z)
        have hsz : items.size = xs.length := by rw [← Array.length_toList]; exact StrsAre.len_eq hi
        have hv : ∀ (i : Nat) (v : Value), items[i]? = some v → ∃ x tk, xs[i]? = some x ∧ v = .str x tk := fun i v hv => by
          obtain ⟨tk, e⟩ := SS.strs_at hi i v (by rw [Array.getElem?_toList]; exact hv)
          have li : i < xs.length := by rw [← hsz]; exact (Array.getElem?_eq_some_iff.mp hv).1
          exact ⟨_, tk, List.getElem?_eq_getElem li, by rw [e, List.getD_eq_getElem?_getD, List.getElem?_eq_getElem li]; rfl⟩
        refine setS_loop ((Walks.list hh3 _ l b4 items).toS) s.heap.objs.size b5 xs hsz hfew hv (items.size - 0) 0 _ (by omega) (Nat.zero_le _)
          ⟨⟨_, Heap.get?_push_size _ rfl, rfl, rfl⟩, hl1.push _⟩ (setS_new (Heap.get?_push_of_some _ at0)) fun s3 hm hS3 => ?_
        obtain ⟨h1, g1, d1, tk1, os1⟩ := s3
        obtain rfl : g1 = s.gens := hm.gens
        obtain rfl : d1 = s.drawn := hm.drawn
        obtain rfl : os1 = s.os := hm.os
        show wpAny _ _ _ _ _ _
        refine wpAny_pure ?_
        show wpAny _ _ (PySem.ret Value.none) _ _ _
        refine wpAny_pure ⟨rfl, h1, tk1, rfl, hS3, fun b o hb q => hm.heap b o (fun z => ?_) (Heap.get?_push_of_some _ (Heap.get?_push_of_some _ q))⟩
        rcases List.mem_cons.mp z with z | z
        · exact Nat.ne_of_lt hb z
        · have q1 := List.mem_singleton.mp z
          rw [zp] at q1
          exact Nat.ne_of_lt (Nat.lt_succ_of_lt hb) q1
      · cases r2 with
        | error e => exact hr2
        | ok fl2 =>
          cases fl2 with
          | ret r =>
            obtain ⟨rfl, h1, tk, rfl, hS3, hk⟩ := hr2
            repeat (any_goals (first | assumption | wp_step))
            exact h _ _ hS3 hk
          | _ => exact hr2.elim
    | _ => exact hr.elim
set_option maxHeartbeats 3200000 in
theorem setS_tup {l : Addr} {items : Array Value} {xs : List Str} {Q : Value → Shared → Prop} (hh : A.handled = none) (hl : s.heap.IsTuple l items) (hi : StrsAre items.toList xs) (hfew : xs.length + 1 < scanBound)
    (h : ∀ (h1 : Heap) (tk : Nat), SetS P w h1 s.heap.objs.size (dedS xs) → (∀ b o, b < s.heap.objs.size → s.heap.get? b = some o → h1.get? b = some o) → Q (.ref s.heap.objs.size) { s with heap := h1, toks := tk }) :
    wpAny (model P w) A (call (.type "set") [.ref l]) Q E s := by
  obtain ⟨c, tl, hmro⟩ := F.called_set.mro
  have hmade := F.called_set.made
  have hsub := F.called_set.sub
  refine wpAny_call (codeAny_of_tree ?_)
  show wpAny _ _ (callAny (.type "set") _) _ _ _
  refine wpAny_pure ⟨Code.quiet_builtin _ (by decide +kernel), codeAny_builtin F.entry_type_call ?_⟩
  rw [Around.under_plain (weight_type_call_type "set" [.ref l] []) rfl]
  have a1 := F.called_set.notType
  have a2 := F.called_set.canCreate
  have a3 := F.typeCall_set_1 (.ref l)
  repeat (any_goals (first | assumption | wp_step))
  refine codeAny_mono (code_set_led1 (.ref l) (E := E) (Q₁ := fun ob s1 => ob = .ref s.heap.objs.size ∧ s1 = { s with heap := s.heap.push (newSet w) }) ⟨rfl, rfl⟩) fun r s1 hr => ?_
  cases r with
  | error e => exact hr
  | ok fl =>
    cases fl with
    | ret obj =>
      obtain ⟨rfl, rfl⟩ := hr
      have at0 : (s.heap.push (newSet w)).get? s.heap.objs.size = some (newSet w) := Heap.get?_push_size _ rfl
      have ty0 : Shared.TypeIs { s with heap := s.heap.push (newSet w) } (.ref s.heap.objs.size) "set" := ⟨_, at0, rfl⟩
      have a4 := F.called_set.init.lookup
      have a5 := F.called_set.init.bind (.ref s.heap.objs.size)
      repeat (any_goals (first | assumption | wp_step))
      refine codeAny_mono (codeAny_call_builtin (R := wants (fun r s2 => r = .none ∧ ∃ h1 tk, s2 = { s with heap := h1, toks := tk } ∧ SetS P w h1 s.heap.objs.size (dedS xs) ∧
          (∀ b o, b < s.heap.objs.size → s.heap.get? b = some o → h1.get? b = some o)) E) F.called_set.init.plain F.entry_set_init (check_set_init_1 ty0 ?_)) fun r2 s2 hr2 => ?_
      · obtain ⟨ol, hol, hcl, nl, hdl⟩ := hl
        obtain ⟨ocls, odict, odata, oslots⟩ := ol
        simp only at hcl hdl
        subst hcl; subst hdl
        have hol1 : (s.heap.push (newSet w)).get? l = some { cls := .type "tuple", dict := odict, data := .seq items nl, slots := oslots } := Heap.get?_push_of_some _ hol
        have b1 := F.sub_tuple_set
        have b2 := F.sub_tuple_frozenset
        have b3 : (Value.type "tuple" == Value.type "dict") = false := by decide
        have hl1 : (s.heap.push (newSet w)).IsTuple l items := ⟨_, hol1, rfl, nl, rfl⟩
        unfold Builtin.«set.__init__» noKeywords Builtin.Frozenset.updateFrom
        generalize hPI : pyIter = PI
        wp_walk
        subst hPI
        refine wpAny_pyIter_tuple hl1 (wpAny_bind (wpAny_runValue ?_))
        have ll : l < s.heap.objs.size := Heap.lt_size hol
        have hh3 : A.in1.in1.in1.handled = none := by simp [hh]
        have zp : (s.heap.push (newSet w)).objs.size = s.heap.objs.size + 1 := Heap.size_push ..
        have b4 : l ≠ (s.heap.push (newSet w)).objs.size := by rw [zp]; exact Nat.ne_of_lt (Nat.lt_succ_of_lt ll)
        have b5 : s.heap.objs.size ∉ [(s.heap.push (newSet w)).objs.size, l] := by
          rw [zp]
          intro z
          rcases List.mem_cons.mp z with z | z
          · omega
          · exact Nat.ne_of_gt ll (List.mem_singleton.mp z)
        have hsz : items.size = xs.length := by rw [← Array.length_toList]; exact StrsAre.len_eq hi
        have hv : ∀ (i : Nat) (v : Value), items[i]? = some v → ∃ x tk, xs[i]? = some x ∧ v = .str x tk := fun i v hv => by
          obtain ⟨tk, e⟩ := SS.strs_at hi i v (by rw [Array.getElem?_toList]; exact hv)
          have li : i < xs.length := by rw [← hsz]; exact (Array.getElem?_eq_some_iff.mp hv).1
          exact ⟨_, tk, List.getElem?_eq_getElem li, by rw [e, List.getD_eq_getElem?_getD, List.getElem?_eq_getElem li]; rfl⟩
        refine setS_loop ((Walks.tuple hh3 _ l b4 items).toS) s.heap.objs.size b5 xs hsz hfew hv (items.size - 0) 0 _ (by omega) (Nat.zero_le _)
          ⟨⟨_, Heap.get?_push_size _ rfl, rfl, rfl⟩, hl1.push _⟩ (setS_new (Heap.get?_push_of_some _ at0)) fun s3 hm hS3 => ?_
        obtain ⟨h1, g1, d1, tk1, os1⟩ := s3
        obtain rfl : g1 = s.gens := hm.gens
        obtain rfl : d1 = s.drawn := hm.drawn
        obtain rfl : os1 = s.os := hm.os
        show wpAny _ _ _ _ _ _
        refine wpAny_pure ?_
        show wpAny _ _ (PySem.ret Value.none) _ _ _
        refine wpAny_pure ⟨rfl, h1, tk1, rfl, hS3, fun b o hb q => hm.heap b o (fun z => ?_) (Heap.get?_push_of_some _ (Heap.get?_push_of_some _ q))⟩
        rcases List.mem_cons.mp z with z | z
        · exact Nat.ne_of_lt hb z
        · have q1 := List.mem_singleton.mp z
          rw [zp] at q1
          exact Nat.ne_of_lt (Nat.lt_succ_of_lt hb) q1
      · cases r2 with
        | error e => exact hr2
        | ok fl2 =>
          cases fl2 with
          | ret r =>
            obtain ⟨rfl, h1, tk, rfl, hS3, hk⟩ := hr2
            repeat (any_goals (first | assumption | wp_step))
            exact h _ _ hS3 hk
          | _ => exact hr2.elim
    | _ => exact hr.elim
/-! ### the rules -/
def SetSO (P : Program) (w : World) (a : Addr) (ys : List Str) : HO := .ext fun h => SetS P w h a ys
theorem setSO_new {H : Hp} {h : Heap} (R : SetS P w h a ys) : ObjOk P w H h a (SetSO P w a ys) := by
  obtain ⟨o, _, _, _, ⟨ho, _⟩, _⟩ := R.ex
  exact ⟨R, ⟨o, ho⟩, fun h1 h2 p k => SetS.keep p k⟩
theorem sortedS_set {Q : Value → Shared → Prop} (R : SetS P w s.heap a ys) (hh : A.handled = none) (hL : ys.length ≤ sizeLine)
    (hQ : ∀ s1 p (out : Array Value) (c : Nat) (zs : List Str), (∀ b o, s.heap.get? b = some o → s1.heap.get? b = some o) → s1.gens = s.gens → s1.os = s.os → s.heap.objs.size ≤ p →
      s1.heap.get? p = some (seqObj "list" out c) → StrsAre out.toList zs → zs.Perm ys → sortedS zs = true → Q (.ref p) s1) :
    wpAny (model P w) A (call (.builtin "sorted") [.ref a]) Q E s := by
  obtain ⟨o, es, ep, t, ⟨ho, hex, hd⟩, g, pk, hb, hf, hr, hl⟩ := R.ex
  refine Calls.call_function_entry kind_sorted plain_sorted entry_sorted (args_sorted1 _) ?_
  unfold Builtin.«sorted»
  refine wpAny_bind (m := checkCount "sorted" 1 1 _) (wpAny_pure (wpAny_bind ?_))
  refine collect_set (A := A.in1) hh ⟨o, ho, hex.1, hd⟩ hf hb hr hl fun s1 vs k1 hz g1 o1 pm => ?_
  have vl : vs.length = ys.length := by rw [pm.length_eq, List.length_map, ← pk.length_eq, List.length_map]
  let kv : Value → Str := fun v => match v with | .str x _ => x | _ => Str.empty
  have hS : StrsAre vs (vs.map kv) := by
    have : ∀ v ∈ vs, ∃ x tk, v = .str x tk := fun v hv => by
      obtain ⟨e, he, q⟩ := List.mem_map.mp (pm.mem_iff.mp hv)
      obtain ⟨x, tk, q1, _⟩ := g e he
      exact ⟨x, tk, by rw [← q]; exact q1⟩
    clear pm vl
    induction vs with
    | nil => exact .nil
    | cons v r ih =>
      obtain ⟨x, tk, rfl⟩ := this v (by simp)
      exact .cons x tk (ih fun u hu => this u (by simp [hu]))
  have pk2 : (vs.map kv).Perm ys := by
    have q := pm.map kv
    rw [List.map_map] at q
    exact q.trans pk
  refine wpAny_bind (wpAny_newList ?_ (by rw [vl]; exact hL))
  have atL : (s1.heap.push (seqObj "list" vs.toArray 0)).get? s1.heap.objs.size = some (seqObj "list" vs.toArray 0) := Heap.get?_push_size _ rfl
  refine wpAny_bind (wpAny_holding (wpAny_call_entry slot_list_sort ⟨_, atL, rfl⟩ entry_list_sort (list_sort_treeKAny strKind_oneLt (s := { s1 with heap := s1.heap.push (seqObj "list" vs.toArray 0) }) atL hS.keysOf (fun v1 v2 rest e => keyKind_strs (by rw [← e]; exact hS)) (by rw [vl]; exact hL) fun st1 hp hs => ⟨_, rfl, ?_⟩) (args_list_sort _)))
  obtain ⟨zs, z1, z2, z3⟩ := sorted_out_str hS hp hs
  obtain ⟨c, hc⟩ := sortedHeap_at (vs := vs) (out := (arrOf st1).map (·.2)) atL
  refine wpAny_pure ⟨_, rfl, hQ _ s1.heap.objs.size _ c zs (fun b u q => ?_) g1 o1 hz hc z1 (z2.trans pk2) z3⟩
  have q1 := k1 b u q
  have q2 := Heap.lt_size q1
  show (sortedHeap (s1.heap.push (seqObj "list" vs.toArray 0)) s1.heap.objs.size vs _).get? b = some u
  rw [sortedHeap_old (Nat.ne_of_lt q2) (by rw [size_push']; exact Nat.lt_succ_of_lt q2)]
  exact Heap.get?_push_of_some _ q1
end
section
variable {X : Cx} {cn : Str → Option Addr} {E : XK} {pos p p2 pos2 : Pos} {b : Expr} {f : Ev → M Val}
def rSetS (K : PySem.W.Frag) (P : Program) (w : World) : List V → Hp → VK → Prop := fun vs H Q => ∃ (l : Addr) (xs : List Str), vs = [V.ref l] ∧ (SqL K H l (xs.map V.str) ∨ SqT K H l (xs.map V.str)) ∧ xs.length < 4000 ∧ ∀ a, H a = none → Q (.ref a) (upd H a (SetSO P w a (dedS xs)))
theorem c_setS (hc : X.calm = true) : CallR X (.type "set") (rSetS X.K X.prog X.w) := by
  intro pins s σ H vs us Q I r h
  obtain ⟨l, xs, rfl, hl, hf, q⟩ := h
  rw [Vals.ref1 r]
  have hn : H s.heap.objs.size = none := I.hok.fresh (Nat.le_refl _)
  have hs : xs.length + 1 < scanBound := by unfold scanBound; omega
  have fin : ∀ (h1 : Heap) (tk : Nat), SetS X.prog X.w h1 s.heap.objs.size (dedS xs) → (∀ b o, b < s.heap.objs.size → s.heap.get? b = some o → h1.get? b = some o) → EP X pins σ Q (.ref s.heap.objs.size) { s with heap := h1, toks := tk } := fun h1 tk R k =>
    ⟨.ref _, upd H s.heap.objs.size (SetSO X.prog X.w s.heap.objs.size (dedS xs)), I.laid (t' := tk) (fun b o e => k b o (Heap.lt_size e) e) (Nat.le_refl _) (setSO_new R), rfl, q _ hn⟩
  rcases hl with hl | hl
  · obtain ⟨its, rv, pl, _⟩ := I.list hl
    exact setS_list (I.ok.hd hc) pl.isList (by rw [List.toList_toArray]; exact rv.strs) hs fin
  · obtain ⟨its, rv, pl, _⟩ := I.tuple hl
    exact setS_tup (I.ok.hd hc) pl (by rw [List.toList_toArray]; exact rv.strs) hs fin
def rSrtS (P : Program) (w : World) : List V → Hp → VK → Prop := fun vs H Q => ∃ (a : Addr) (ys : List Str), vs = [V.ref a] ∧ H a = some (SetSO P w a ys) ∧ ys.length ≤ sizeLine ∧ ∀ q, H q = none → Q (.ref q) (upd H q (.lst ((sortS ys).map V.str)))
theorem c_srtS (hc : X.calm = true) : CallR X (.builtin "sorted") (rSrtS X.prog X.w) := by
  intro pins s σ H vs us Q I r h
  obtain ⟨a, ys, rfl, ha, hL, q⟩ := h
  have R : SetS X.prog X.w s.heap a ys := (I.hok a _ ha).1
  rw [Vals.ref1 r]
  refine sortedS_set R (I.ok.hd hc) hL fun s1 pp out c zs k g o hp hg z1 z2 z3 => ?_
  obtain rfl := sort_uniq z2 z3
  have hn : H pp = none := I.hok.fresh hp
  have hlen : ((sortS ys).map V.str).length ≤ sizeLine := by rw [List.length_map, (sort_perm ys).length_eq]; exact hL
  have J : Inv X pins σ (upd H pp (.lst ((sortS ys).map V.str))) { s with heap := s1.heap, gens := s1.gens, drawn := s1.drawn, toks := s1.toks } :=
    I.call (ch := []) (Un.laid k hp hn) (I.hok.laid k hp ⟨hlen, out.toList, c, vals_of_strs z1, by rw [Array.toArray_toList]; exact hg⟩) (by rw [g]; exact I.bare) (fun _ z => nomatch z)
  have e : s1 = { s with heap := s1.heap, gens := s1.gens, drawn := s1.drawn, toks := s1.toks } := by
    cases s1; cases s; cases o; rfl
  rw [e]
  exact ⟨.ref pp, _, J, rfl, q pp hn⟩
def ssetL (ds : List PyData) : M Val := fun st => match strsOf ds with
  | some xs => if xs.length < 4000 then .ok (.dat (.list ((sortS (dedS xs)).map .str))) st else .err
  | none => .err
def ssetD : PyData → M Val
  | .list ds => ssetL ds
  | .tuple ds => ssetL ds
  | _ => fail
theorem Rel.ext {K : PySem.W.Frag} {F H : Hp} {m : List Addr} {st : Sto} (R : Rel K F H m st) {q : Addr} (hq : H q = none) (o : HO) : Stp F H m F (upd H q o) m ∧ Rel K F (upd H q o) m st := by
  have hF : F q = none := by
    cases z : F q with
    | none => rfl
    | some u => rw [R.le _ _ z] at hq; cases hq
  refine ⟨⟨Le.refl F, ⟨[], by simp⟩, fun a u h _ => by rw [upd_ne (ne_of_none h hq)]; exact h, fun a u h _ z => z, fun a h n => absurd h n⟩, ⟨fun a u z => ?_, R.len, R.nd, fun k a so e1 e2 => ?_⟩⟩
  · rw [upd_ne (ne_of_none (R.le _ _ z) hq)]; exact R.le _ _ z
  · have ob := R.ob k a so e1 e2
    have keep : ∀ {u : HO}, H a = some u → upd H q o a = some u := fun h => by rw [upd_ne (ne_of_none h hq)]; exact h
    cases so with
    | lst ds => obtain ⟨h0, vs, h1, h2⟩ := ob; exact ⟨h0, vs, keep h1, h2⟩
    | dct kvs => obtain ⟨h0, vs, h1, h2⟩ := ob; exact ⟨h0, vs, keep h1, h2⟩
    | frz d => exact ob
/-- sorted(set(e)) -/
theorem d_sset (hc : X.calm = true) (m1 : X.mg "sorted" = none) (m2 : X.mg "set" = none) (hb : PE X b (TD ⟨X.K, cn⟩ E f)) (g1 : Gl X "sorted" := by rfl) (g2 : Gl X "set" := by rfl)
    (q1 : starEach [b] X.env = (false, eval b X.env) :: starEach [] X.env := by rfl) (q2 : (backTo pos2 (starEach [] X.env)).any (·.1) = false := by rfl)
    (q3 : starEach [.Call (.Name "set" p2) [b] [] pos2] X.env = (false, eval (.Call (.Name "set" p2) [b] [] pos2) X.env) :: starEach [] X.env := by rfl) (q4 : (backTo pos (starEach [] X.env)).any (·.1) = false := by rfl) :
    PE X (.Call (.Name "sorted" p) [.Call (.Name "set" p2) [b] [] pos2] [] pos) (TD ⟨X.K, cn⟩ E (e1 (on1 ssetD) f)) := by
  refine PE.imp (pe_callB (c_srtS hc) g1 m1 PyProof.Rows.boot_sorted (pa_cons (pe_callTy (c_setS hc) g2 m2 PyProof.Rows.boot_set (pa_cons hb pa_nil q1) (by decide) (by decide) q1 q2) pa_nil q3) (by decide) (by decide) q3 q4) fun σ H Q ⟨F, m, ρ, st, R, ev, p⟩ => ?_
  refine ⟨F, m, ρ, st, R, ev, PostG.mono (PostG.bnd (T := RVal X.K) p) fun v H1 ⟨F1, m1, st1, x, S1, R1, r1, p⟩ => ?_⟩
  have p : Post ⟨X.K, cn⟩ E F1 H1 m1 (on1 ssetD x st1) Q := p
  unfold on1 at p
  cases ex : vw x st1 with
  | none => rw [ex] at p; exact p.elim
  | some d =>
    rw [ex] at p
    have key : ∀ {ds : List PyData} {vs : List V}, RpAll X.K F1 vs ds → Post ⟨X.K, cn⟩ E F1 H1 m1 (ssetL ds st1) Q → ∃ xs : List Str, vs = xs.map V.str ∧ xs.length < 4000 ∧ ∀ c, H1 c = none → rSrtS X.prog X.w [V.ref c] (upd H1 c (SetSO X.prog X.w c (dedS xs))) Q := fun {ds vs} h2 p => by
      unfold ssetL at p
      cases z : strsOf ds with
      | none => rw [z] at p; exact p.elim
      | some xs =>
        rw [z] at p
        dsimp only at p
        by_cases hl : xs.length < 4000
        · rw [if_pos hl] at p
          refine ⟨xs, (strs_ok h2 z).1, hl, fun c hcn => ⟨c, dedS xs, rfl, upd_same, ?_, fun q hq => ?_⟩⟩
          · have := fold_len xs []
            have e : sizeLine = 16777216 := rfl
            simp only [List.length_nil, Nat.zero_add] at this
            show (dedS xs).length ≤ sizeLine
            unfold dedS
            omega
          · obtain ⟨S2, R2⟩ := R1.ext hcn (SetSO X.prog X.w c (dedS xs))
            obtain ⟨S3, R3⟩ := R2.new hq (.lst ((sortS (dedS xs)).map V.str))
            exact p _ _ _ _ (S2.trans S3) R3 (.lst upd_same (rpStrs _))
        · rw [if_neg hl] at p; exact p.elim
    have h1 := vw_ok R1 r1 ex
    cases h1 with
    | lst g1 g2 =>
      obtain ⟨xs, rfl, hl, k⟩ := key g2 p
      exact ⟨_, xs, rfl, .inl (SqL.of g1), hl, k⟩
    | tup g1 g2 =>
      obtain ⟨xs, rfl, hl, k⟩ := key g2 p
      exact ⟨_, xs, rfl, .inr (R1.le.sqT g1), hl, k⟩
    | _ => exact p.elim
end
end PL

set_option Elab.async false
set_option linter.all false
set_option maxRecDepth 100000
/-! ### a key in a written dict, as a test -/
namespace PL
open PySem PySem.Spec L2
open PyProof.Rows hiding St
section
variable {X : Cx} {cn : Str → Option Addr} {E : XK} {pos p q : Pos} {x : Str} {kvs : List (Str × PyData)} {a : Expr} {f : Ev → M Val}
theorem t_kin (G : GDict X.K X.w X.mg x kvs) (ha : PE X a (TD ⟨X.K, cn⟩ E f)) (hg : Gl X x := by rfl) (hd : (x == ("__debug__" : Str)) = false := by decide) (hm : behindInMarks .In (.Name x q) = false := by rfl) : PT X (.Compare a [.In] [.Name x q] pos) (TDB ⟨X.K, cn⟩ E (eB (e1 (on1 (kinD kvs)) f))) := by
  obtain ⟨d, es, n, hmg, D, hb⟩ := G
  refine PT.imp (pt_cmpR (op_in_kd D) ha (pe_glob (v := .ref d) hg hmg rfl hd) hm) fun σ H Q h => ?_
  obtain ⟨F, m, ρ, st, R, ev, p⟩ := td_test h
  refine ⟨F, m, ρ, st, R, ev, PostG.mono (PostG.bnd (T := RVal X.K) p) fun v H1 ⟨F1, m1, st1, x', S1, R1, r1, p⟩ => ?_⟩
  unfold on1 at p
  cases ex : vw x' st1 with
  | none => rw [ex] at p; exact p.elim
  | some dd =>
    rw [ex] at p
    have vb := vw_ok R1 r1 ex
    obtain ⟨z, rfl⟩ : ∃ z, dd = .str z := by
      cases dd with
      | str z => exact ⟨z, rfl⟩
      | _ => exact p.elim
    cases vb
    rcases nsIn_of D hb z with ⟨e1, e2⟩ | ⟨d', u, e1, e2, _⟩
    · refine ⟨z, none, rfl, rfl, e2, ?_⟩
      have p := post_ok (c := ⟨X.K, cn⟩) (E := E) (x := .dat (.bool (lookS kvs z).isSome)) p R1 (Rp.bl _)
      rw [e1] at p
      exact p
    · refine ⟨z, some u, rfl, rfl, e2, ?_⟩
      have p := post_ok (c := ⟨X.K, cn⟩) (E := E) (x := .dat (.bool (lookS kvs z).isSome)) p R1 (Rp.bl _)
      rw [e1] at p
      exact p
end
end PL

set_option Elab.async false
set_option linter.all false
set_option maxRecDepth 100000
/-! ### a comprehension whose list is changed later -/
namespace PL
open PySem PySem.Spec L2
open PyProof.Rows hiding St
def eLcN (src : Ev → M (List PyData)) (vs : List Nat) (t : Tg) (cond : Ev → M Bool) (elt : Ev → M Val) : Ev → M Val := fun ρ => bnd (src ρ) fun its => chk (decide (its.length ≤ sizeLine)) (bnd (noX (compGo ρ vs t cond elt its)) fun l => newS (.lst l))
theorem take_in {K : PySem.W.Frag} {F1 H1 F H : Hp} {m1 m : List Addr} {st : Sto} {D : Addr} {ws : List V} {acc : List PyData} (S : Stp F1 H1 m1 F H m) (R : Rel K F H m st) (hD : H1 D = none) (fD : F D = none) (mD : D ∉ m) (hH : H D = some (.lst ws)) (r : RpAll K F ws acc) :
    Stp F1 H1 m1 F H (m ++ [D]) ∧ Rel K F H (m ++ [D]) (st ++ [.lst acc]) := by
  refine ⟨⟨S.fF, ?_, S.frm, S.nF, fun a h n => ?_⟩, ⟨R.le, by simp [R.len], ?_, fun k a so e1 e2 => ?_⟩⟩
  · obtain ⟨q, e⟩ := S.mm
    exact ⟨q ++ [D], by rw [e, List.append_assoc]⟩
  · rcases List.mem_append.mp h with h | h
    · exact S.nm a h n
    · rw [List.mem_singleton.mp h]; exact hD
  · refine List.nodup_append.mpr ⟨R.nd, by simp, fun x hx y hy e => ?_⟩
    rw [List.mem_singleton.mp hy] at e
    exact mD (e ▸ hx)
  · by_cases hk : k < m.length
    · rw [List.getElem?_append_left hk] at e1
      rw [List.getElem?_append_left (by rw [← R.len]; exact hk)] at e2
      exact R.ob k a so e1 e2
    · have hk2 : k = m.length := by
        have := (List.getElem?_eq_some_iff.mp e1).1
        simp at this
        omega
      subst hk2
      simp at e1
      rw [R.len] at e2
      simp at e2
      subst e1 e2
      exact ⟨fD, ws, hH, r⟩
section
variable {E : XK}
theorem td_lcN {c : Cf} {src : Ev → M (List PyData)} {vs ps : List Nat} {t : Tg} {cond : Ev → M Bool} {elt : Ev → M Val} {σ : St} {H : Hp} {Q : VK} (hp : ∀ i ∈ ps, i ∈ vs) (h : TD c E (eLcN src vs t cond elt) σ H Q) :
    tLc (TID c E src) (TGD c.K ps t) (TDB c E0 cond) (TD c E0 elt) vs σ H Q := by
  obtain ⟨F0, m0, ρ, st0, R0, ev0, p⟩ := h
  refine ⟨F0, m0, ρ, st0, R0, ev0, PostG.mono (PostG.bnd (T := RIt c.K) p) fun J H1 ⟨F1, m1, st1, its, S1, R1, ok, p⟩ => ?_⟩
  obtain ⟨hz, p⟩ := post_chk p
  have hz : its.length ≤ sizeLine := of_decide_eq_true hz
  have ok : ItOk c.K J F1 its := ok
  have ev1 := ev0.later S1
  intro D hD
  have hDF : F1 D = none := by
    cases q : F1 D with
    | none => rfl
    | some o => rw [R1.le _ _ q] at hD; cases hD
  have hDm : D ∉ m1 := fun z => by
    obtain ⟨o, e⟩ := R1.there z
    rw [hD] at e; cases e
  cases q : compGo ρ vs t cond elt its st1 with
  | err => unfold PL.bnd noX at p; rw [q] at p; exact p.elim
  | exc n fs st2 => unfold PL.bnd noX at p; rw [q] at p; exact p.elim
  | ok L stF =>
    have p : Post c E F1 H1 m1 (.ok (.ref stF.length) (stF ++ [.lst L])) Q := by unfold PL.bnd noX at p; rw [q] at p; exact p
    refine ⟨fun i k H => k = its.length - i ∧ i ≤ its.length ∧ ∃ F m st acc ws l, Stp F1 H1 m1 F H m ∧ Rel c.K F H m st ∧ F D = none ∧ D ∉ m ∧ H D = some (.lst ws) ∧ RpAll c.K F ws acc ∧ acc ++ l = L ∧ acc.length ≤ i ∧ compGo ρ vs t cond elt (its.drop i) st = .ok l stF, ⟨its.length, ?_⟩, ?_⟩
    · refine ⟨by simp, Nat.zero_le _, F1, m1, st1, [], [], L, (Stp.refl _ _ _).extra hD _, R1.extra hDF hDm _, hDF, hDm, upd_same, .nil, rfl, Nat.le_refl _, q⟩
    · rintro i k H ⟨rfl, hi, F, m, st, acc, ws, l, S, R, fD, mD, hH, rw', el, hal, hgo⟩
      by_cases hlt : i < its.length
      · refine .inr ⟨ok.go i F H m st S.fF R hlt, fun H => ∃ F m st acc ws l, Stp F1 H1 m1 F H m ∧ Rel c.K F H m st ∧ F D = none ∧ D ∉ m ∧ H D = some (.lst ws) ∧ RpAll c.K F ws acc ∧ acc ++ l = L ∧ acc.length ≤ i + 1 ∧ compGo ρ vs t cond elt (its.drop (i + 1)) st = .ok l stF, fun H' w => ⟨its.length - (i + 1), by omega, rfl, hlt, w⟩, fun x H' y => ?_⟩
        obtain ⟨F', d, S', R', ed, rd⟩ := ok.yld i F H m st x H' S.fF R hlt y
        have hdrop : its.drop i = d :: its.drop (i + 1) := by
          rw [List.drop_eq_getElem_cons hlt]
          obtain ⟨h1, h2⟩ := List.getElem?_eq_some_iff.mp ed
          rw [h2]
        rw [hdrop] at hgo
        unfold compGo at hgo
        obtain ⟨o, st2, ht, hgo⟩ := bnd_okE hgo
        obtain ⟨l', st3, hrest, hgo⟩ := bnd_okE hgo
        have fD' : F' D = none := S'.nF D _ hH mD fD
        have hH' : H' D = some (.lst ws) := S'.frm D _ hH mD
        have rw2 := rw'.mono S'.fF
        unfold turnD at ht
        cases qt : t d (wipeE ρ vs) with
        | none => rw [qt] at ht; cases ht
        | some ρ1 =>
          rw [qt] at ht
          dsimp only at ht
          obtain ⟨b, st4, hc, ht⟩ := bnd_okE ht
          refine ⟨F', m, wipeE ρ vs, st, d, ρ1, R', ((ev1.later S).later S').wipe vs, rd, qt, fun σ2 ev2 o2 => ⟨wipe_only o2 hp, F', m, ρ1, st, R', ev2, ?_⟩⟩
          rw [hc]
          intro F2 H2 m2 b' S2 R2 eb
          have eb : b = b' := eb
          subst eb
          have nm2 : D ∉ m2 := fun z => by
            have := S2.nm D z mD
            rw [hH'] at this; cases this
          have fD2 : F2 D = none := S2.nF D _ hH' mD fD'
          have hH2 : H2 D = some (.lst ws) := S2.frm D _ hH' mD
          have rw3 := rw2.mono S2.fF
          cases b with
          | false =>
            refine iteF ?_
            cases ht
            cases hgo
            exact ⟨F2, m2, st2, acc, ws, l', (S.trans S').trans S2, R2, fD2, nm2, hH2, rw3, el, by omega, hrest⟩
          | true =>
            refine iteT ⟨F2, m2, ρ1, st4, R2, ev2.later S2, ?_⟩
            have ht : bnd (elt ρ1) (fun x => bnd (frzV x) fun e => ret (some e)) st4 = .ok o st2 := ht
            obtain ⟨xv, st5, he, ht⟩ := bnd_okE ht
            obtain ⟨e, st6, hf, ht⟩ := bnd_okE ht
            rw [he]
            intro F3 H3 m3 v S3 R3 r3
            have nm3 : D ∉ m3 := fun z => by
              have := S3.nm D z nm2
              rw [hH2] at this; cases this
            have fD3 : F3 D = none := S3.nF D _ hH2 nm2 fD2
            have hH3 : H3 D = some (.lst ws) := S3.frm D _ hH2 nm2
            have rw4 := rw3.mono S3.fF
            obtain ⟨F4, st7, d4, S4, R4, r4, _, hf'⟩ := frz_ok (E := E0) (T := fun _ _ (_ : Unit) (_ : Unit) => True) (k := fun _ => ret ()) (Q := fun _ _ => True) R3 r3 (by unfold PL.bnd; rw [hf]; exact fun _ _ _ _ _ _ _ => trivial)
            rw [hf] at hf'
            cases hf'
            cases ht
            cases hgo
            have nm4 : D ∉ m3 := nm3
            have fD4 : F4 D = none := S4.nF D _ hH3 nm3 fD3
            have zl : ws.length = acc.length := rw'.length
            refine ⟨ws, hH3, by omega, F4, m3, st2, acc ++ [e], ws ++ [v], l', ?_, R4.extra fD4 nm3 _, fD4, nm3, upd_same, (rw4.mono S4.fF).append (.cons r4 .nil), by rw [List.append_assoc]; exact el, by simp; omega, hrest⟩
            exact ((((S.trans S').trans S2).trans S3).trans S4).extra hD _
      · have e : i = its.length := by omega
        subst e
        refine .inl ⟨ok.stop F H m st S.fF R, ?_⟩
        rw [List.drop_length] at hgo
        cases hgo
        rw [List.append_nil] at el
        subst el
        obtain ⟨S5, R5⟩ := take_in S R hD fD mD hH rw'
        exact p _ _ _ _ S5 R5 ⟨D, by rw [← R.len]; simp, rfl⟩
end
section
variable {X : Cx} {cn : Str → Option Addr} {E : XK} {pos : Pos} {tg iter elt : Expr}
theorem d_lcN {ifs : List Expr} {scope : Scope} {own : List (Str × Nat)} {ps : List Nat} {src : Ev → M (List PyData)} {t : Tg} {cond : Ev → M Bool} {el : Ev → M Val} (hc : X.calm = true) (hN : X.N.Nodup) (hi : PI X tg iter (TID ⟨X.K, cn⟩ E src)) (ok : BlkOk X.N X.env.scope scope own) (hp : ∀ i ∈ ps, i ∈ own.map (·.2))
    (hg : ∀ (s : Shared) (H : Hp) (C : Addr) (cl : List (Str × Addr)) (fp : List Addr), PG (X.blk s H scope (compEnvC scope cl C X.env) fp) tg (TGD X.K ps t))
    (ht : ∀ (s : Shared) (H : Hp) (C : Addr) (cl : List (Str × Addr)) (fp : List Addr), PTs (X.blk s H scope (compEnvC scope cl C X.env) fp) ifs (TDB ⟨X.K, cn⟩ E0 cond))
    (he : ∀ (s : Shared) (H : Hp) (C : Addr) (cl : List (Str × Addr)) (fp : List Addr), PE (X.blk s H scope (compEnvC scope cl C X.env) fp) elt (TD ⟨X.K, cn⟩ E0 el)) (hs : ∀ x, foldedSetIterable iter X.env x = pure x := by intro _; rfl) :
    PE X (.ListComp elt [⟨tg, iter, ifs, 0⟩] scope pos) (TD ⟨X.K, cn⟩ E (eLcN src (own.map (·.2)) t cond el)) :=
  PE.imp (pe_lc hc hN hi ok hg ht he hs) fun σ H Q h => td_lcN (c := ⟨X.K, cn⟩) hp h
end
/-- name = [.. for ..] on one line -/
theorem s_setLcN {X : Cx} {cn : Str → Option Addr} {E : XK} {pos spos py : Pos} {tg iter elt : Expr} (i : Nat) {y : Str} {ifs : List Expr} {scope : Scope} {own : List (Str × Nat)} {ps : List Nat} {src : Ev → M (List PyData)} {t : Tg} {cond : Ev → M Bool} {el : Ev → M Val} (hc : X.calm = true) (hN : X.N.Nodup) (hi : PI X tg iter (TID ⟨X.K, cn⟩ E src)) (ok : BlkOk X.N X.env.scope scope own) (hp : ∀ i ∈ ps, i ∈ own.map (·.2))
    (hg : ∀ (s : Shared) (H : Hp) (C : Addr) (cl : List (Str × Addr)) (fp : List Addr), PG (X.blk s H scope (compEnvC scope cl C X.env) fp) tg (TGD X.K ps t))
    (ht : ∀ (s : Shared) (H : Hp) (C : Addr) (cl : List (Str × Addr)) (fp : List Addr), PTs (X.blk s H scope (compEnvC scope cl C X.env) fp) ifs (TDB ⟨X.K, cn⟩ E0 cond))
    (he : ∀ (s : Shared) (H : Hp) (C : Addr) (cl : List (Str × Addr)) (fp : List Addr), PE (X.blk s H scope (compEnvC scope cl C X.env) fp) elt (TD ⟨X.K, cn⟩ E0 el)) (hy : X.N[i]? = some y := by rfl) (hyl : X.env.scope.names.lookup y = some .local := by rfl) (hsw : swapsWith (.ListComp elt [⟨tg, iter, ifs, 0⟩] scope pos) (some (.Name y py)) spos.line X.env = pure true := by exact sw_true rfl rfl rfl (by decide +kernel))
    (hs : ∀ x, foldedSetIterable iter X.env x = pure x := by intro _; rfl) :
    PS X (.Assign [.Name y py] (.ListComp elt [⟨tg, iter, ifs, 0⟩] scope pos) spos) (TSD ⟨X.K, cn⟩ E (sSet i (eLcN src (own.map (·.2)) t cond el))) :=
  PS.imp (ps_setLc hc hN hy hyl hsw hi ok hg ht he hs) fun D σ H ⟨F, m, ρ, st, R, ev, p⟩ =>
    td_lcN (c := ⟨X.K, cn⟩) hp ⟨F, m, ρ, st, R, ev, PostG.mono (PostS.sB (T := RVal X.K) p) fun v H1 ⟨F1, m1, st1, x, S1, R1, r1, p⟩ => p F1 H1 m1 _ (Stp.refl _ _ _) R1 ((ev.later S1).set r1)⟩
end PL

set_option Elab.async false
set_option linter.all false
set_option maxRecDepth 100000
/-! ### rules for dicts anywhere in the store, for the newer dens -/
namespace PL
open PySem PySem.Spec L2
open PyProof.Rows hiding St
variable {st : Sto} {ρ : Ev}
@[simp] theorem set_last {α : Type} {l : List α} {x y : α} : (l ++ [x]).set l.length y = l ++ [y] := by
  induction l with
  | nil => rfl
  | cons a r ih => simp [ih]
theorem dctV_ref {k : Nat} : dctV (.ref k) st = (match st[k]? with | some (.dct kvs) => some (k, kvs) | _ => none) := rfl
theorem W_dgetR {k : Nat} {x : Str} {Q : Val → Sto → Prop} : W (dgetV (.ref k) (.dat (.str x))) st Q ↔ ∃ kvs, st[k]? = some (.dct kvs) ∧ ∃ d, valD kvs (.inr x) = some d ∧ Q (.dat d) st := by
  unfold W dgetV
  rw [dctV_ref]
  cases h : st[k]? with
  | none => simp [h]
  | some o =>
    cases o with
    | dct kvs => cases h2 : valD kvs (.inr x) <;> simp [h, vw, keyD, h2, and_assoc]
    | _ => simp [h]
@[simp] theorem W_chkD {k : Nat} {Q : Unit → Sto → Prop} : W (chkD (.ref k)) st Q ↔ ∃ kvs, st[k]? = some (.dct kvs) ∧ Q () st := by
  unfold W chkD
  rw [dctV_ref]
  cases h : st[k]? with
  | none => simp [h]
  | some o =>
    cases o with
    | dct kvs =>
      simp [h, and_assoc]
      exact ⟨fun ⟨(), q⟩ => q, fun q => ⟨(), q⟩⟩
    | _ => simp [h]
@[simp] theorem W_eDget2 {f1 f2 f3 : Ev → M Val} {Q : Val → Sto → Prop} : W (eDget2 f1 f2 f3 ρ) st Q ↔ W (f1 ρ) st fun x s1 => W (chkD x) s1 fun _ s2 => W (f2 ρ) s2 fun y s3 => W (f3 ρ) s3 fun z s4 => W (dget2V x y z) s4 Q := by
  unfold eDget2; simp only [W_bnd]
def orV (o : Option PyData) (z : Val) : Val := match o with
  | some d => .dat d
  | none => z
theorem orV_dat {o : Option PyData} {z : PyData} : orV o (.dat z) = .dat (o.getD z) := by cases o <;> rfl
theorem W_dget2V {k : Nat} {x : Str} {z : Val} {Q : Val → Sto → Prop} : W (dget2V (.ref k) (.dat (.str x)) z) st Q ↔ ∃ kvs, st[k]? = some (.dct kvs) ∧ Q (orV (valD kvs (.inr x)) z) st := by
  unfold W dget2V
  rw [dctV_ref]
  cases h : st[k]? with
  | none => simp [h]
  | some o =>
    cases o with
    | dct kvs => cases h2 : valD kvs (.inr x) <;> simp [h, vw, keyD, h2, and_assoc, orV]
    | _ => simp [h]
theorem WS_dputR {k : Nat} {x : Str} {d : PyData} {Qn : Ev → Sto → Prop} {Qr : Val → Sto → Prop} : WS (dputV (.ref k) (.dat (.str x)) d ρ st) Qn Qr ↔ ∃ kvs, st[k]? = some (.dct kvs) ∧ kvs.length < sizeLine ∧ Qn ρ (st.set k (.dct (putD kvs (.inr x) d))) := by
  unfold dputV
  rw [dctV_ref]
  cases h : st[k]? with
  | none => simp [h, WS]
  | some o =>
    cases o with
    | dct kvs => by_cases q : kvs.length < sizeLine <;> simp [h, vw, keyD, q, WS]
    | _ => simp [h, WS]
theorem W_sset0 {ds : List PyData} {Q : Val → Sto → Prop} : W (ssetL ds) st Q ↔ ∃ xs, strsOf ds = some xs ∧ xs.length < 4000 ∧ Q (.dat (.list ((sortS (dedS xs)).map .str))) st := by
  unfold W ssetL
  cases h : strsOf ds with
  | none => simp [h]
  | some ys => by_cases q : ys.length < 4000 <;> simp [h, q, and_assoc]
theorem W_ssetL {ds : List PyData} {Q : Val → Sto → Prop} : W (ssetD (.list ds)) st Q ↔ ∃ xs, strsOf ds = some xs ∧ xs.length < 4000 ∧ Q (.dat (.list ((sortS (dedS xs)).map .str))) st := W_sset0
theorem W_ssetT {ds : List PyData} {Q : Val → Sto → Prop} : W (ssetD (.tuple ds)) st Q ↔ ∃ xs, strsOf ds = some xs ∧ xs.length < 4000 ∧ Q (.dat (.list ((sortS (dedS xs)).map .str))) st := W_sset0
@[simp] theorem W_eKget2 {kvs : List (Str × PyData)} {f f' : Ev → M Val} {Q : Val → Sto → Prop} : W (eKget2 kvs f f' ρ) st Q ↔ W (f ρ) st fun y s1 => W (f' ρ) s1 fun z s2 => W (kget2V kvs y z) s2 Q := by
  unfold eKget2; simp only [W_bnd]
theorem W_kget2V {kvs : List (Str × PyData)} {x : Str} {z : Val} {Q : Val → Sto → Prop} : W (kget2V kvs (.dat (.str x)) z) st Q ↔ Q (orV (lookS kvs x) z) st := by
  unfold W kget2V
  cases h : lookS kvs x <;> simp [vw, h, and_assoc, orV]
@[simp] theorem W_listS {x : Str} {Q : Val → Sto → Prop} : W (listS (.str x)) st Q ↔ x.cps.size ≤ sizeLine ∧ Q (.dat (.list (PL.signs x))) st := by
  unfold listS; simp only [W_chk, W_ret, decide_eq_true_eq]
@[simp] theorem W_sEnum {fs : Ev → M (List Val)} {Q : List PyData → Sto → Prop} : W (sEnum fs ρ) st Q ↔ W (fs ρ) st fun xs s1 => W (frzAll xs) s1 fun ds s2 => W (enumD ds) s2 Q := by
  unfold sEnum; simp only [W_bnd]
@[simp] theorem W_enumT {ds : List PyData} {Q : List PyData → Sto → Prop} : W (enumD [.tuple ds]) st Q ↔ Q (numb 0 ds) st := W_ret
@[simp] theorem W_sEnumS {fs : Ev → M (List Val)} {Q : List PyData → Sto → Prop} : W (sEnumS fs ρ) st Q ↔ W (fs ρ) st fun xs s1 => W (frzAll xs) s1 fun ds s2 => W (enumSD ds) s2 Q := by
  unfold sEnumS; simp only [W_bnd]
@[simp] theorem W_enumS {x : Str} {Q : List PyData → Sto → Prop} : W (enumSD [.str x]) st Q ↔ Q (numb 0 (PL.signs x)) st := W_ret
theorem W_sortDV {k : Nat} {Q : Val → Sto → Prop} : W (sortDV [.ref k]) st Q ↔ ∃ kvs, st[k]? = some (.dct kvs) ∧ ∃ ks, keysS kvs = some ks ∧ ks.length < 64 ∧ Q (.dat (.list ((sortS ks).map .str))) st := by
  unfold W sortDV
  simp only [dctV_ref]
  cases h : st[k]? with
  | none => simp
  | some o =>
    cases o with
    | dct kvs =>
      cases h2 : keysS kvs with
      | none => simp [h2]
      | some ks => by_cases q : ks.length < 64 <;> simp [h2, q, and_assoc]
    | _ => simp
@[simp] theorem W_eLcN {src : Ev → M (List PyData)} {vs : List Nat} {t : Tg} {cond : Ev → M Bool} {elt : Ev → M Val} {Q : Val → Sto → Prop} : W (eLcN src vs t cond elt ρ) st Q ↔ W (src ρ) st fun its st' => its.length ≤ sizeLine ∧ W (compGo ρ vs t cond elt its) st' fun l s2 => Q (.ref s2.length) (s2 ++ [.lst l]) := by
  unfold eLcN; rw [W_bnd]
  simp only [W_chk, W_bnd, W_new, decide_eq_true_eq]
  have key : ∀ its s (R : List PyData → Sto → Prop), W (noX (compGo ρ vs t cond elt its)) s R ↔ W (compGo ρ vs t cond elt its) s R := fun its s R => by
    unfold W noX
    cases compGo ρ vs t cond elt its s <;> simp
  simp only [key]
theorem eqv_ss {x y : Str} : PyData.eqv (.str x) (.str y) = (x == y) := by simp [PyData.eqv]
theorem eqv_ii {x y : Int} : PyData.eqv (.int x) (.int y) = (x == y) := by simp [PyData.eqv]
end PL

set_option Elab.async false
set_option linter.all false
set_option maxRecDepth 100000
/-! ### sorted of ints -/
namespace PL
open PySem PySem.Spec L2
open PyProof.Rows hiding St
def intsOf : List PyData → Option (List Int)
  | [] => some []
  | .int i :: r => (intsOf r).map (i :: ·)
  | _ :: _ => none
def insI (x : Int) : List Int → List Int
  | [] => [x]
  | y :: r => if y < x then y :: insI x r else x :: y :: r
def sortI : List Int → List Int
  | [] => []
  | x :: r => insI x (sortI r)
theorem insI_perm (x : Int) : ∀ ys, (insI x ys).Perm (x :: ys)
  | [] => .refl _
  | y :: r => by
    unfold insI
    split
    · exact ((insI_perm x r).cons y).trans (.swap _ _ _)
    · exact .refl _
theorem sortI_perm : ∀ ys, (sortI ys).Perm ys
  | [] => .refl _
  | x :: r => (insI_perm x _).trans ((sortI_perm r).cons x)
theorem insI_pw (x : Int) : ∀ ys : List Int, ys.Pairwise (· ≤ ·) → (insI x ys).Pairwise (· ≤ ·)
  | [], _ => by simp [insI]
  | y :: r, h => by
    obtain ⟨h1, h2⟩ := List.pairwise_cons.mp h
    unfold insI
    split
    · refine List.pairwise_cons.mpr ⟨fun z hz => ?_, insI_pw x r h2⟩
      rcases List.mem_cons.mp ((insI_perm x r).mem_iff.mp hz) with rfl | hz
      · omega
      · exact h1 z hz
    · refine List.pairwise_cons.mpr ⟨fun z hz => ?_, h⟩
      rcases List.mem_cons.mp hz with rfl | hz
      · omega
      · have := h1 z hz; omega
theorem sortI_pw : ∀ ys, (sortI ys).Pairwise (· ≤ ·)
  | [] => by simp [sortI]
  | x :: r => insI_pw x _ (sortI_pw r)
theorem sortI_uniq {xs ys : List Int} (p : ys.Perm xs) (h : ys.Pairwise (· ≤ ·)) : ys = sortI xs :=
  List.Perm.eq_of_pairwise (le := (· ≤ ·)) (fun a b _ _ h1 h2 => Int.le_antisymm h1 h2) h (sortI_pw xs) (p.trans (sortI_perm xs).symm)
section
variable {X : Cx} {cn : Str → Option Addr} {E : XK}
theorem ints_ok {K : PySem.W.Frag} {F : Hp} : ∀ {vs : List V} {ds : List PyData} {is : List Int}, RpAll K F vs ds → intsOf ds = some is → vs = is.map V.int ∧ ds = is.map .int
  | _, _, _, .nil, e => by cases e; exact ⟨rfl, rfl⟩
  | _, _, _, .cons (.int i) r, e => by
    simp only [intsOf, Option.map_eq_some_iff] at e
    obtain ⟨js, e1, rfl⟩ := e
    obtain ⟨h1, h2⟩ := ints_ok r e1
    exact ⟨by rw [h1]; rfl, by rw [h2]; rfl⟩
  | _, _, _, .cons .non r, e => by cases e
  | _, _, _, .cons (.bl _) r, e => by cases e
  | _, _, _, .cons (.str _) r, e => by cases e
  | _, _, _, .cons (.lst _ _) r, e => by cases e
  | _, _, _, .cons (.tup _ _) r, e => by cases e
def sortX : PyData → M Val
  | .list ds => fun st => (match strsOf ds with
    | some xs => if xs.length < 64 then .ok (.dat (.list ((sortS xs).map .str))) st else .err
    | none => (match intsOf ds with
      | some is => .ok (.dat (.list ((sortI is).map .int))) st
      | none => .err))
  | _ => fail
theorem rpInts {K : PySem.W.Frag} {F : Hp} : ∀ (xs : List Int), RpAll K F (xs.map V.int) (xs.map .int)
  | [] => .nil
  | x :: r => .cons (.int x) (rpInts r)
theorem c_sortedX : CallR X (.builtin "sorted") (rDA ⟨X.K, cn⟩ E (on1L sortX)) := on1L_ok fun pins s σ H F m st x d us Q I rx R h1 p => by
  cases h1 with
  | @lst aa xs ds h1 h2 =>
    have p : Post ⟨X.K, cn⟩ E F H m ((match strsOf ds with
      | some xs => if xs.length < 64 then .ok (.dat (.list ((sortS xs).map .str))) st else .err
      | none => (match intsOf ds with
        | some is => .ok (.dat (.list ((sortI is).map .int))) st
        | none => .err) : Res Val)) Q := p
    cases q : strsOf ds with
    | none =>
      rw [q] at p
      dsimp only at p
      cases q2 : intsOf ds with
      | none => rw [q2] at p; exact p.elim
      | some is =>
        rw [q2] at p
        dsimp only at p
        obtain ⟨e1, e2⟩ := ints_ok h2 q2
        subst e1
        refine cr_sortedI pins s σ H _ us Q I rx ⟨_, is, rfl, SqL.of h1, fun zs pa hp hs hn => ?_⟩
        have e := sortI_uniq hp hs
        subst e
        obtain ⟨S, R'⟩ := R.new hn (.lst ((sortI is).map V.int))
        exact p _ _ _ _ S R' (.lst upd_same (rpInts _))
    | some ys =>
      rw [q] at p
      dsimp only at p
      obtain ⟨e1, e2⟩ := strs_ok h2 q
      subst e1
      by_cases hl : ys.length < 64
      · rw [if_pos hl] at p
        refine cr_sortedS pins s σ H _ us Q I rx ⟨_, ys, rfl, SqL.of h1, hl, fun zs pa hp hs hn => ?_⟩
        have e := sort_uniq hp hs
        subst e
        obtain ⟨S, R'⟩ := R.new hn (.lst ((sortS ys).map V.str))
        exact p _ _ _ _ S R' (.lst upd_same (rpStrs _))
      · rw [if_neg hl] at p; exact p.elim
  | _ => exact p.elim
end
end PL

set_option Elab.async false
set_option linter.all false
set_option maxRecDepth 100000
/-! ### t[::-1], xs[::-1] -/
namespace PL
open PySem PySem.Spec L2
open PyProof.Rows hiding St
section
variable {prog : Program} {w : World} {A : Around} {E : Value → Shared → Prop} {s : Shared}
theorem applied_rev {sl : Addr} {vl vu vs : Value} {n : Nat} {Q : Int × Int × Nat → Shared → Prop} (hs : s.heap.IsSliceOf sl vl vu vs) (pl : IsPart vl none) (pu : IsPart vu none) (ps : IsPart vs (some (-1)))
    (h : Q ((n : Int) - 1, -1, n) s) : wpAny (model prog w) A (Builtin.Slice.sliceApplied (.ref sl) (pure (n : Int))) Q E s := by
  obtain ⟨os, hos, hcs, hds⟩ := id hs
  unfold Builtin.Slice.sliceApplied Builtin.Slice.sliceFields
  refine wpAny_bind (wpAny_bind (wpAny_field hos hds (x := vl) rfl (wpAny_bind (wpAny_field hos hds (x := vu) rfl (wpAny_bind (wpAny_field hos hds (x := vs) rfl (wpAny_pure ?_)))))))
  refine wpAny_bind (HT.slicePart_ ps ?_)
  show wpAny _ _ (if ((-1 : Int) == 0) = true then _ else _) _ _ s
  rw [if_neg (by decide)]
  refine wpAny_bind (HT.slicePart_ pl (wpAny_bind (HT.slicePart_ pu (wpAny_bind (wpAny_pure ?_)))))
  show wpAny _ _ (match Builtin.Slice.sliceAdjust none none (-1) (n : Int) with | (lo, hi) => pure (lo, (-1 : Int), Builtin.Slice.slicePlaces lo hi (-1))) _ _ s
  have e1 : Builtin.Slice.sliceAdjust none none (-1) (n : Int) = ((n : Int) - 1, -1) := by
    unfold Builtin.Slice.sliceAdjust
    simp
  have e2 : Builtin.Slice.slicePlaces ((n : Int) - 1) (-1) (-1) = n := by
    unfold Builtin.Slice.slicePlaces
    rw [if_neg (by decide)]
    by_cases h : (n : Int) - 1 > -1
    · rw [if_pos h]
      have : ((n : Int) - 1 - -1 - 1) / (- -1) = (n : Int) - 1 := by
        rw [show (- -1 : Int) = 1 by decide, Int.ediv_one]
        omega
      rw [this]
      omega
    · rw [if_neg h]
      have : n = 0 := by omega
      subst this
      rfl
  rw [e1]
  show wpAny _ _ (pure ((n : Int) - 1, (-1 : Int), Builtin.Slice.slicePlaces ((n : Int) - 1) (-1) (-1))) _ _ s
  rw [e2]
  exact wpAny_pure h
theorem fm_congr {α β : Type} {f g : α → Option β} : ∀ {l : List α}, (∀ a ∈ l, f a = g a) → l.filterMap f = l.filterMap g
  | [], _ => rfl
  | a :: l, h => by
    rw [List.filterMap_cons, List.filterMap_cons, h a (by simp), fm_congr fun b hb => h b (by simp [hb])]
theorem pick_rev (xs : Array Value) : ((List.range xs.size).filterMap fun (m : Nat) => xs[((xs.size : Int) - 1 + (m : Int) * -1).toNat]?).toArray = xs.toList.reverse.toArray := by
  have e : (List.range xs.size).filterMap (fun (m : Nat) => xs[((xs.size : Int) - 1 + (m : Int) * -1).toNat]?) = xs.toList.reverse := by
    have h1 : (List.range xs.size).filterMap (fun (m : Nat) => xs[((xs.size : Int) - 1 + (m : Int) * -1).toNat]?) = (List.range xs.size).filterMap fun (m : Nat) => xs.toList.reverse[m]? := by
      refine fm_congr fun m hm => ?_
      have hm := List.mem_range.mp hm
      rw [List.getElem?_reverse (by simpa using hm), Array.getElem?_toList]
      congr 1
      simp
      omega
    rw [h1]
    have h2 : ∀ l : List Value, (List.range l.length).filterMap (fun m => l[m]?) = l := by
      intro l
      induction l with
      | nil => rfl
      | cons a r ih =>
        rw [List.length_cons, List.range_succ_eq_map, List.filterMap_cons]
        simp only [List.getElem?_cons_zero, List.filterMap_map]
        congr 1
    have := h2 xs.toList.reverse
    rw [List.length_reverse, Array.length_toList] at this
    exact this
  rw [e]
theorem getItem_tuple_rev {t sl : Addr} {items : Array Value} {vl vu vs : Value} {Q : Value → Shared → Prop} (ht : IsTup s.heap t items) (hs : s.heap.IsSliceOf sl vl vu vs) (pl : IsPart vl none) (pu : IsPart vu none) (ps : IsPart vs (some (-1)))
    (h : Q (.ref s.heap.objs.size) { s with heap := s.heap.push { cls := .type "tuple", data := .seq items.toList.reverse.toArray } })
    (hsz : items.size ≤ sizeLine) : wpAny (model prog w) A (getItem (.ref t) (.ref sl)) Q E s := by
  have htake : sizeOk (.seq items.toList.reverse.toArray) := by
    show items.toList.reverse.toArray.size ≤ sizeLine
    rw [List.size_toArray, List.length_reverse, Array.length_toList]
    exact hsz
  obtain ⟨os, hos, hcs, hds⟩ := id hs
  have hTs : s.TypeIs (.ref sl) "slice" := ⟨os, hos, hcs⟩
  unfold getItem
  try with_reducible refine wpAny_holding ?_
  first | refine wpAny_bind (wpAny_pure ?_) | skip
  refine wpAny_bind (wpAny_sequenceKey ht.typeIs (by decide) ?_)
  refine wpAny_bind (wpAny_callSpecial?_slot (name := Str.ofString "__getitem__") ht.typeIs PyProof.Rows.slot_tuple_getitem
    (wpAny_call_entry PyProof.Rows.slot_tuple_getitem ht.typeIs entry_tuple_getitem ?_ (args_tuple_getitem _ _)))
  show wpAny _ _ (Builtin.Tuple.tupleItemsOf (.ref t) >>= _) _ _ s
  refine wpAny_bind (tupleItemsOf_ ht ?_)
  refine wpAny_bind (wpAny_typeOf hTs ?_)
  rw [if_pos (by decide)]
  refine wpAny_bind (applied_rev (n := items.size) hs pl pu ps ?_)
  have hno : ¬ ((((items.size : Int) - 1) == 0 && (-1 : Int) == 1 && items.size == items.size) = true) := by
    simp
  show wpAny _ _ (if (((items.size : Int) - 1) == 0 && (-1 : Int) == 1 && items.size == items.size) = true then _ else _) _ _ s
  rw [if_neg hno, pick_rev]
  first
    | exact wpAny_bind (m := Builtin.Tuple.tupleExact _) (wpAny_newObj_type (wpAny_pure ⟨_, rfl, wpAny_pure h⟩) htake)
    | exact wpAny_bind (m := Builtin.Tuple.tupleExact _) (wpAny_newObj_type (wpAny_bind (wpAny_pure (wpAny_pure ⟨_, rfl, wpAny_pure h⟩))) htake)
    | exact wpAny_bind (wpAny_bind (m := Builtin.Tuple.tupleExact _) (wpAny_newObj_type (wpAny_pure (wpAny_pure ⟨_, rfl, wpAny_pure h⟩)) htake))
    | exact wpAny_bind (wpAny_bind (m := Builtin.Tuple.tupleExact _) (wpAny_newObj_type (wpAny_pure ⟨_, rfl, wpAny_pure h⟩) htake))
end
section
variable {X : Cx} {cn : Str → Option Addr} {E : XK}
def tRev (K : PySem.W.Frag) (te : TE) : TE := fun σ H Q => te σ H fun x H1 => (∃ a xs, x = .ref a ∧ SqL K H1 a xs ∧ ∀ p, H1 p = none → Q (.ref p) (upd H1 p (.lst xs.reverse))) ∨ (∃ a xs, x = .ref a ∧ SqT K H1 a xs ∧ ∀ p, H1 p = none → Q (.ref p) (upd H1 p (.tup xs.reverse)))
theorem pe_rev {e : Expr} {te : TE} {k : Nat} {p1 p2 p3 pos : Pos} (he : PE X e te) : PE X (.Subscript e (.Slice none none (some (.UnaryOp .USub (.Constant (.int 1) k p1) p2)) p3) pos) (tRev X.K te) := by
  refine ⟨fun pins s σ H Q I h => ?_⟩
  refine Subscript_ (thn (he.run pins s σ H _ I h) fun v s1 ⟨x, H1, I1, r1, q1⟩ => ?_)
  obtain ⟨a, rfl⟩ : ∃ a, x = .ref a := by
    rcases q1 with ⟨a, _, e, _⟩ | ⟨a, _, e, _⟩ <;> exact ⟨a, e⟩
  cases r1
  have hst : PO X (some (.UnaryOp .USub (.Constant (.int 1) k p1) p2)) (tPart (tUn (rU fun i => .int (-i)) (tC (.int 1)))) := po_some (pe_un un_neg pe_int)
  refine wpAny_Slice (thn (po_none.run pins s1 σ H1 (fun o H2 => o = none ∧ H2 = H1) I1 ⟨rfl, rfl⟩) fun vl s2 ⟨l, H2, I2, pl, el, e2⟩ => ?_)
  subst el e2
  refine thn (po_none.run pins s2 σ H2 (fun o H3 => o = none ∧ H3 = H2) I2 ⟨rfl, rfl⟩) fun vu s3 ⟨u, H3, I3, pu, eu, e3⟩ => ?_
  subst eu e3
  refine thn (hst.run pins s3 σ H3 (fun o H4 => o = some (-1) ∧ H4 = H3) I3 ⟨1, rfl, -1, rfl, rfl, rfl⟩) fun vs s4 ⟨o, H4, I4, ps, eo, e4⟩ => ?_
  subst eo e4
  have I5 : Inv X pins σ H4 { s4 with heap := s4.heap.push { cls := .type "slice", data := .fields #[vl, vu, vs] } } := I4.kept (t' := s4.toks) fun b ob q => Heap.get?_push_of_some _ q
  show wpAny (model X.prog X.w) X.A (subscriptTail e (.Slice none none (some (.UnaryOp .USub (.Constant (.int 1) k p1) p2)) p3) (.ref a) (.ref s4.heap.objs.size)) (EP X pins σ Q) X.xe { s4 with heap := s4.heap.push { cls := .type "slice", data := .fields #[vl, vu, vs] } }
  rcases q1 with ⟨a', xs, ea, hx, q⟩ | ⟨a', xs, ea, hx, q⟩
  · cases ea
    obtain ⟨its, r, ht, hz⟩ := I5.list hx
    have hlen := r.length
    refine tail_any (ops := [.ref a, .ref s4.heap.objs.size]) ht.isList.typeIs (PySem.slot_list_getitem.lookup) ?_ (by with_unfolding_all rfl)
    refine wpAny_getItem_list_slice ht.isList (Heap.IsSliceOf.new _ vl vu vs) pl pu ps (by decide) ?_ (by rw [List.size_toArray]; omega)
    rw [PySem.W.krv_pick]
    refine ⟨.ref _, _, I5.laid (t' := s4.toks) (o := .lst xs.reverse) (fun b ob q => Heap.get?_push_of_some _ q) (Nat.le_refl _) ?_, rfl, q _ (I5.hok.fresh (Nat.le_refl _))⟩
    exact ⟨by rw [List.length_reverse]; exact hz, _, 0, r.reverse, Heap.get?_push_size _ rfl⟩
  · cases ea
    obtain ⟨its, r, ht, hz⟩ := I5.tuple hx
    have hlen := r.length
    refine tail_any (ops := [.ref a, .ref s4.heap.objs.size]) ht.typeIs (PyProof.Rows.slot_tuple_getitem.lookup) ?_ (by with_unfolding_all rfl)
    refine getItem_tuple_rev ht (Heap.IsSliceOf.new _ vl vu vs) pl pu ps ?_ (by rw [List.size_toArray]; omega)
    refine ⟨.ref _, _, I5.laid (t' := s4.toks) (o := .tup xs.reverse) (fun b ob q => Heap.get?_push_of_some _ q) (Nat.le_refl _) ?_, rfl, q _ (I5.hok.fresh (Nat.le_refl _))⟩
    exact ⟨by rw [List.length_reverse]; exact hz, _, r.reverse, IsTup.new _ _⟩
theorem RpAll.rev {K : PySem.W.Frag} {F : Hp} : ∀ {vs : List V} {ds : List PyData}, RpAll K F vs ds → RpAll K F vs.reverse ds.reverse
  | _, _, .nil => .nil
  | _, _, .cons h r => by
    rw [List.reverse_cons, List.reverse_cons]
    exact (RpAll.rev r).append (.cons h .nil)
def revD : PyData → M Val
  | .list ds => PL.ret (.dat (.list ds.reverse))
  | .tuple ds => PL.ret (.dat (.tuple ds.reverse))
  | _ => fail
theorem d_rev {e : Expr} {f : Ev → M Val} {k : Nat} {p1 p2 p3 pos : Pos} (he : PE X e (TD ⟨X.K, cn⟩ E f)) : PE X (.Subscript e (.Slice none none (some (.UnaryOp .USub (.Constant (.int 1) k p1) p2)) p3) pos) (TD ⟨X.K, cn⟩ E (e1 (on1 revD) f)) :=
  PE.imp (pe_rev he) fun σ H Q h => td1 (R := fun x H1 => _) h fun F H1 m st x v R r1 p => by
    unfold on1 at p
    cases ex : vw x st with
    | none => rw [ex] at p; exact p.elim
    | some d =>
      rw [ex] at p
      have b := vw_ok R r1 ex
      cases b with
      | lst q1 q2 =>
        refine .inl ⟨_, _, rfl, SqL.of q1, fun q hq => ?_⟩
        obtain ⟨S4, R4⟩ := R.new hq (.lst _)
        exact p _ _ _ _ S4 R4 (.lst upd_same (q2.rev.mono S4.fF))
      | tup q1 q2 =>
        refine .inr ⟨_, _, rfl, R.le.sqT q1, fun q hq => ?_⟩
        obtain ⟨S4, R4⟩ := R.new hq (.tup _)
        exact p _ _ _ _ S4 R4 (.tup (SqT.of upd_same) (q2.rev.mono S4.fF))
      | _ => exact p.elim
@[simp] theorem W_revT {ds : List PyData} {st : Sto} {Q : Val → Sto → Prop} : W (revD (.tuple ds)) st Q ↔ Q (.dat (.tuple ds.reverse)) st := W_ret
@[simp] theorem W_revL {ds : List PyData} {st : Sto} {Q : Val → Sto → Prop} : W (revD (.list ds)) st Q ↔ Q (.dat (.list ds.reverse)) st := W_ret
end
end PL

set_option Elab.async false
set_option linter.all false
set_option maxRecDepth 100000
namespace PLaw
open PySem PySem.Spec L2 PL
open PyProof.Rows hiding St
def top (i : Nat) : Stmt := PySem.Challenge.pw_pagelives_k01_kinds.main.body.getD i (.Pass ⟨0, 0, 0, 0⟩)
def c_GUARDS : PyData := (.tuple [(.str "ahead"), (.str "quiet"), (.str "calm"), (.str "struck"), (.str "first"), (.str "clean"), (.str "whole"), (.str "level"), (.str "settled"), (.str "dead"), (.str "walked"), (.str "fixed")])
def c_HARMS : PyData := (.tuple [(.str "old"), (.str "missed"), (.str "open")])
def c_LONE_DEEDS : PyData := (.tuple [(.str "seal"), (.str "stop"), (.str "end")])
def c_LONGEST : PyData := (.int 8)
def c_LOWERCASE : PyData := (.str "abcdefghijklmnopqrstuvwxyz")
def c_NUMBERED_RECORDS : PyData := (.tuple [(.str "keep"), (.str "write"), (.str "plain")])
def c_PAGE_DEEDS : PyData := (.tuple [(.str "keep"), (.str "plain"), (.str "write"), (.str "free"), (.str "strike"), (.str "flush"), (.str "put")])
def c_PLAIN_RECORDS : PyData := (.tuple [(.str "free"), (.str "strike")])
/-- what the top has left -/
structure Tx (K : PySem.W.Frag) (mg : Str → Option Value) (w : World) : Prop where
  f_all : mg "all" = none
  f_bool : mg "bool" = none
  f_int : mg "int" = none
  f_isinstance : mg "isinstance" = none
  f_len : mg "len" = none
  f_list : mg "list" = none
  f_range : mg "range" = none
  f_repr : mg "repr" = none
  f_set : mg "set" = none
  f_sorted : mg "sorted" = none
  f_str : mg "str" = none
  f_tuple : mg "tuple" = none
  f_zip : mg "zip" = none
  g_GUARDS : ∃ u y, mg "GUARDS" = some u ∧ RelV y u ∧ ∀ F, Rp K F y c_GUARDS
  g_HARMS : ∃ u y, mg "HARMS" = some u ∧ RelV y u ∧ ∀ F, Rp K F y c_HARMS
  g_LONE_DEEDS : ∃ u y, mg "LONE_DEEDS" = some u ∧ RelV y u ∧ ∀ F, Rp K F y c_LONE_DEEDS
  g_LONGEST : ∃ u y, mg "LONGEST" = some u ∧ RelV y u ∧ ∀ F, Rp K F y c_LONGEST
  g_LOWERCASE : ∃ u y, mg "LOWERCASE" = some u ∧ RelV y u ∧ ∀ F, Rp K F y c_LOWERCASE
  g_NUMBERED_RECORDS : ∃ u y, mg "NUMBERED_RECORDS" = some u ∧ RelV y u ∧ ∀ F, Rp K F y c_NUMBERED_RECORDS
  g_PAGE_DEEDS : ∃ u y, mg "PAGE_DEEDS" = some u ∧ RelV y u ∧ ∀ F, Rp K F y c_PAGE_DEEDS
  g_PLAIN_RECORDS : ∃ u y, mg "PLAIN_RECORDS" = some u ∧ RelV y u ∧ ∀ F, Rp K F y c_PLAIN_RECORDS
  mp_is_integer : mg "is_integer" = some (.ref (He.ga K "is_integer"))
  dp_is_integer : ∃ fd, FunD K "is_integer" "is_integer" (defArgs (top 9)) (defBody (top 9)) (defScope (top 9)) [] [] (He.ga K "is_integer") fd
  mp_is_number : mg "is_number" = some (.ref (He.ga K "is_number"))
  dp_is_number : ∃ fd, FunD K "is_number" "is_number" (defArgs (top 10)) (defBody (top 10)) (defScope (top 10)) [] [] (He.ga K "is_number") fd
  mp_is_count : mg "is_count" = some (.ref (He.ga K "is_count"))
  dp_is_count : ∃ fd, FunD K "is_count" "is_count" (defArgs (top 11)) (defBody (top 11)) (defScope (top 11)) [] [] (He.ga K "is_count") fd
  mp_is_page : mg "is_page" = some (.ref (He.ga K "is_page"))
  dp_is_page : ∃ fd, FunD K "is_page" "is_page" (defArgs (top 12)) (defBody (top 12)) (defScope (top 12)) [] [] (He.ga K "is_page") fd
  mp_first_word : mg "first_word" = some (.ref (He.ga K "first_word"))
  dp_first_word : ∃ fd, FunD K "first_word" "first_word" (defArgs (top 13)) (defBody (top 13)) (defScope (top 13)) [] [] (He.ga K "first_word") fd
  mp_is_record : mg "is_record" = some (.ref (He.ga K "is_record"))
  dp_is_record : ∃ fd, FunD K "is_record" "is_record" (defArgs (top 14)) (defBody (top 14)) (defScope (top 14)) [] [] (He.ga K "is_record") fd
  mp_is_deed : mg "is_deed" = some (.ref (He.ga K "is_deed"))
  dp_is_deed : ∃ fd, FunD K "is_deed" "is_deed" (defArgs (top 15)) (defBody (top 15)) (defScope (top 15)) [] [] (He.ga K "is_deed") fd
  mp_is_guard : mg "is_guard" = some (.ref (He.ga K "is_guard"))
  dp_is_guard : ∃ fd, FunD K "is_guard" "is_guard" (defArgs (top 16)) (defBody (top 16)) (defScope (top 16)) [] [] (He.ga K "is_guard") fd
  mp_is_rule : mg "is_rule" = some (.ref (He.ga K "is_rule"))
  dp_is_rule : ∃ fd, FunD K "is_rule" "is_rule" (defArgs (top 17)) (defBody (top 17)) (defScope (top 17)) [] [] (He.ga K "is_rule") fd
  mf_law_spring : mg "_law_spring" = some (.ref (He.ga K "_law_spring"))
  df_law_spring : ∃ fd, FunD K "_law_spring" "_law_spring" (defArgs (top 19)) (defBody (top 19)) (defScope (top 19)) [] [] (He.ga K "_law_spring") fd
  mf_law_dip : mg "_law_dip" = some (.ref (He.ga K "_law_dip"))
  df_law_dip : ∃ fd, FunD K "_law_dip" "_law_dip" (defArgs (top 20)) (defBody (top 20)) (defScope (top 20)) [] [] (He.ga K "_law_dip") fd
  mf_law_pick : mg "_law_pick" = some (.ref (He.ga K "_law_pick"))
  df_law_pick : ∃ fd, FunD K "_law_pick" "_law_pick" (defArgs (top 21)) (defBody (top 21)) (defScope (top 21)) [] [] (He.ga K "_law_pick") fd
  mf_law_is_integer : mg "_law_is_integer" = some (.ref (He.ga K "_law_is_integer"))
  df_law_is_integer : ∃ fd, FunD K "_law_is_integer" "_law_is_integer" (defArgs (top 22)) (defBody (top 22)) (defScope (top 22)) [] [] (He.ga K "_law_is_integer") fd
  mf_law_is_page : mg "_law_is_page" = some (.ref (He.ga K "_law_is_page"))
  df_law_is_page : ∃ fd, FunD K "_law_is_page" "_law_is_page" (defArgs (top 23)) (defBody (top 23)) (defScope (top 23)) [] [] (He.ga K "_law_is_page") fd
  mf_law_is_count : mg "_law_is_count" = some (.ref (He.ga K "_law_is_count"))
  df_law_is_count : ∃ fd, FunD K "_law_is_count" "_law_is_count" (defArgs (top 24)) (defBody (top 24)) (defScope (top 24)) [] [] (He.ga K "_law_is_count") fd
  mf_law_is_record : mg "_law_is_record" = some (.ref (He.ga K "_law_is_record"))
  df_law_is_record : ∃ fd, FunD K "_law_is_record" "_law_is_record" (defArgs (top 25)) (defBody (top 25)) (defScope (top 25)) [] [] (He.ga K "_law_is_record") fd
  mf_law_is_deed : mg "_law_is_deed" = some (.ref (He.ga K "_law_is_deed"))
  df_law_is_deed : ∃ fd, FunD K "_law_is_deed" "_law_is_deed" (defArgs (top 26)) (defBody (top 26)) (defScope (top 26)) [] [] (He.ga K "_law_is_deed") fd
  mf_law_guards : mg "_law_guards" = some (.ref (He.ga K "_law_guards"))
  df_law_guards : ∃ fd, FunD K "_law_guards" "_law_guards" (defArgs (top 27)) (defBody (top 27)) (defScope (top 27)) [] [] (He.ga K "_law_guards") fd
  mf_law_is_rule : mg "_law_is_rule" = some (.ref (He.ga K "_law_is_rule"))
  df_law_is_rule : ∃ fd, FunD K "_law_is_rule" "_law_is_rule" (defArgs (top 28)) (defBody (top 28)) (defScope (top 28)) [] [] (He.ga K "_law_is_rule") fd
  mf_law_rule : mg "_law_rule" = some (.ref (He.ga K "_law_rule"))
  df_law_rule : ∃ fd, FunD K "_law_rule" "_law_rule" (defArgs (top 29)) (defBody (top 29)) (defScope (top 29)) [] [] (He.ga K "_law_rule") fd
  mf_law_pages : mg "_law_pages" = some (.ref (He.ga K "_law_pages"))
  df_law_pages : ∃ fd, FunD K "_law_pages" "_law_pages" (defArgs (top 30)) (defBody (top 30)) (defScope (top 30)) [] [] (He.ga K "_law_pages") fd
  mf_law_deed : mg "_law_deed" = some (.ref (He.ga K "_law_deed"))
  df_law_deed : ∃ fd, FunD K "_law_deed" "_law_deed" (defArgs (top 31)) (defBody (top 31)) (defScope (top 31)) [] [] (He.ga K "_law_deed") fd
  mf_law_bent : mg "_law_bent" = some (.ref (He.ga K "_law_bent"))
  df_law_bent : ∃ fd, FunD K "_law_bent" "_law_bent" (defArgs (top 32)) (defBody (top 32)) (defScope (top 32)) [] [] (He.ga K "_law_bent") fd
  mf_law_record : mg "_law_record" = some (.ref (He.ga K "_law_record"))
  df_law_record : ∃ fd, FunD K "_law_record" "_law_record" (defArgs (top 33)) (defBody (top 33)) (defScope (top 33)) [] [] (He.ga K "_law_record") fd
  mf_law_are_right : mg "_law_are_right" = some (.ref (He.ga K "_law_are_right"))
  df_law_are_right : ∃ fd, FunD K "_law_are_right" "_law_are_right" (defArgs (top 34)) (defBody (top 34)) (defScope (top 34)) [] [] (He.ga K "_law_are_right") fd
  mp_law : mg "law" = some (.ref (He.ga K "law"))
  dp_law : ∃ fd, FunD K "law" "law" (defArgs (top 35)) (defBody (top 35)) (defScope (top 35)) [] [] (He.ga K "law") fd
variable {P : Program} {w : World} {K : PySem.W.Frag} {cn : Str → Option Addr} {mg : Str → Option Value} {base : Heap}
/-! ### is_integer -/
abbrev tp_is_integer : Stmt := top 9
def bp_is_integer : SM := (sRet (eAnd (e1 (on1 (isD "int")) (eV 0)) (eNot (e1 (on1 (isD "bool")) (eV 0)))))
def sp_is_integer : List Val → M Val := runF 1 bp_is_integer
theorem scp_is_integer : FnScope ["thing"] ["thing"] (defScope tp_is_integer) := ⟨rfl, rfl, rfl, by decide +kernel, rfl, by decide +kernel, by decide +kernel⟩
set_option maxHeartbeats 4000000 in
theorem okp_is_integer (T : Tx K mg w) : OkD P w K cn mg base CX0 1 "is_integer" ["thing"] sp_is_integer := by
  obtain ⟨fd, F⟩ := T.dp_is_integer
  exact okD T.mp_is_integer F scp_is_integer (F.bindsN (ps := ["thing"]) fun _ _ _ _ _ _ us hl => match us, hl with | [_], _ => rfl) (fun cdv A outer sh H E hr hg => PSs.nox (ss_one (s_ret (d_and (d_isi "int" T.f_isinstance T.f_int PyProof.Rows.boot_int (d_var 0)) (d_one (d_not (d_isi "bool" T.f_isinstance T.f_bool PyProof.Rows.boot_bool (d_var 0))))))))
theorem okKp_is_integer_0 (T : Tx K mg w) : OkK P w K cn mg base CX0 1 "is_integer" ["thing"] ["thing"] [0] sp_is_integer := by
  obtain ⟨fd, F⟩ := T.dp_is_integer
  exact okK_of (okp_is_integer T) T.mp_is_integer F (fun _ _ _ _ _ _ ws hl => match ws, hl with | [_], _ => rfl)
/-! ### is_number -/
abbrev tp_is_number : Stmt := top 10
def bp_is_number : SM := (sRet (eAnd (eCall 1 sp_is_integer (aCons (eV 0) aNil)) (e2 (on2 geD) (eV 0) (eC (.int 0)))))
def sp_is_number : List Val → M Val := runF 1 bp_is_number
theorem scp_is_number : FnScope ["thing"] ["thing"] (defScope tp_is_number) := ⟨rfl, rfl, rfl, by decide +kernel, rfl, by decide +kernel, by decide +kernel⟩
set_option maxHeartbeats 4000000 in
theorem okp_is_number (T : Tx K mg w) : OkD P w K cn mg base CX0 2 "is_number" ["thing"] sp_is_number := by
  obtain ⟨fd, F⟩ := T.dp_is_number
  exact okD T.mp_is_number F scp_is_number (F.bindsN (ps := ["thing"]) fun _ _ _ _ _ _ us hl => match us, hl with | [_], _ => rfl) (fun cdv A outer sh H E hr hg => PSs.nox (ss_one (s_ret (d_and (d_call (okp_is_integer T) (hr.mono (by decide)) hg pas0 (a_cons (d_var 0) (a_nil))) (d_one (d_cmp o_ge (d_var 0) (d_int)))))))
theorem okKp_is_number_0 (T : Tx K mg w) : OkK P w K cn mg base CX0 2 "is_number" ["thing"] ["thing"] [0] sp_is_number := by
  obtain ⟨fd, F⟩ := T.dp_is_number
  exact okK_of (okp_is_number T) T.mp_is_number F (fun _ _ _ _ _ _ ws hl => match ws, hl with | [_], _ => rfl)
/-! ### is_count -/
abbrev tp_is_count : Stmt := top 11
def bp_is_count : SM := (sRet (eAnd (eCall 1 sp_is_integer (aCons (eV 0) aNil)) (e2 (on2 geD) (eV 0) (eC (.int 1)))))
def sp_is_count : List Val → M Val := runF 1 bp_is_count
theorem scp_is_count : FnScope ["thing"] ["thing"] (defScope tp_is_count) := ⟨rfl, rfl, rfl, by decide +kernel, rfl, by decide +kernel, by decide +kernel⟩
set_option maxHeartbeats 4000000 in
theorem okp_is_count (T : Tx K mg w) : OkD P w K cn mg base CX0 2 "is_count" ["thing"] sp_is_count := by
  obtain ⟨fd, F⟩ := T.dp_is_count
  exact okD T.mp_is_count F scp_is_count (F.bindsN (ps := ["thing"]) fun _ _ _ _ _ _ us hl => match us, hl with | [_], _ => rfl) (fun cdv A outer sh H E hr hg => PSs.nox (ss_one (s_ret (d_and (d_call (okp_is_integer T) (hr.mono (by decide)) hg pas0 (a_cons (d_var 0) (a_nil))) (d_one (d_cmp o_ge (d_var 0) (d_int)))))))
/-! ### is_page -/
abbrev tp_is_page : Stmt := top 12
def bp_is_page : SM := (sSeq2 (sIf (tO (tN (eT (e1 (on1 (isD "str")) (eV 0)))) (tN (eB (eCh (on2 leD) (on2 leD) (eC (.int 1)) (eA (on1L lenD) (aCons (eV 0) aNil)) (eC c_LONGEST))))) (sRet (eC (.bool false))) sNil) (sRet (eA (on1L allD) (aCons (eLc (sSeq (eV 0)) [1] (gN 1) tTrue (e2 (on2 inD) (eV 1) (eC c_LOWERCASE))) aNil))))
def sp_is_page : List Val → M Val := runF 2 bp_is_page
theorem scp_is_page : FnScope ["thing", "sign"] ["thing"] (defScope tp_is_page) := ⟨rfl, rfl, rfl, by decide +kernel, rfl, by decide +kernel, by decide +kernel⟩
set_option maxHeartbeats 4000000 in
theorem okp_is_page (T : Tx K mg w) : OkD P w K cn mg base CX0 1 "is_page" ["thing"] sp_is_page := by
  obtain ⟨fd, F⟩ := T.dp_is_page
  exact okD T.mp_is_page F scp_is_page (F.bindsN (ps := ["thing"]) fun _ _ _ _ _ _ us hl => match us, hl with | [_], _ => rfl) (fun cdv A outer sh H E hr hg => PSs.nox (ss_cons (s_if (PW.pt (w_or (t_not (t_val (d_isi "str" T.f_isinstance T.f_str PyProof.Rows.boot_str (d_var 0)))) (w_or1 (t_not (t_chain o_le o_le (d_int) (d_callB c_len T.f_len PySem.boot_len (a_cons (d_var 0) (a_nil))) (d_glob T.g_LONGEST)))))) (ss_one (s_ret (d_bl))) (ss_nil)) (ss_one (s_ret (d_callB (c_all rfl) T.f_all PyProof.Rows.boot_all (a_cons (d_lc (own := [("sign", 1)]) (ps := [1]) rfl scp_is_page.nd (i_seq (d_var 0)) (blkOk_by (N := ["thing", "sign"]) (sc := defScope tp_is_page) (by decide +kernel)) (by simp) (fun _ _ _ _ _ => g_name 1 scp_is_page.nd (by simp)) (fun _ _ _ _ _ => c_nil) (fun _ _ _ _ _ => d_cmp (o_in (u65 hr)) (d_var 1) (d_glob T.g_LOWERCASE))) (a_nil)))))))
theorem okKp_is_page_0 (T : Tx K mg w) : OkK P w K cn mg base CX0 1 "is_page" ["thing"] ["thing"] [0] sp_is_page := by
  obtain ⟨fd, F⟩ := T.dp_is_page
  exact okK_of (okp_is_page T) T.mp_is_page F (fun _ _ _ _ _ _ ws hl => match ws, hl with | [_], _ => rfl)
/-! ### first_word -/
abbrev tp_first_word : Stmt := top 13
def bp_first_word : SM := (sSeq2 (sIf (tO (tN (eT (e1 (on1 (isD "tuple")) (eV 0)))) (tO (eB (e2 (on2 eqD) (eA (on1L lenD) (aCons (eV 0) aNil)) (eC (.int 0)))) (tN (eT (e1 (on1 (isD "str")) (e2 (on2 ixD) (eV 0) (eC (.int 0)))))))) (sRet (eC (.str ""))) sNil) (sRet (e2 (on2 ixD) (eV 0) (eC (.int 0)))))
def sp_first_word : List Val → M Val := runF 1 bp_first_word
theorem scp_first_word : FnScope ["thing"] ["thing"] (defScope tp_first_word) := ⟨rfl, rfl, rfl, by decide +kernel, rfl, by decide +kernel, by decide +kernel⟩
set_option maxHeartbeats 4000000 in
theorem okp_first_word (T : Tx K mg w) : OkD P w K cn mg base CX0 1 "first_word" ["thing"] sp_first_word := by
  obtain ⟨fd, F⟩ := T.dp_first_word
  exact okD T.mp_first_word F scp_first_word (F.bindsN (ps := ["thing"]) fun _ _ _ _ _ _ us hl => match us, hl with | [_], _ => rfl) (fun cdv A outer sh H E hr hg => PSs.nox (ss_cons (s_if (PW.pt (w_or (t_not (t_val (d_isi "tuple" T.f_isinstance T.f_tuple PyProof.Rows.boot_tuple (d_var 0)))) (w_or (t_cmp (o_eq hr.units) (d_callB c_len T.f_len PySem.boot_len (a_cons (d_var 0) (a_nil))) (d_int)) (w_or1 (t_not (t_val (d_isi "str" T.f_isinstance T.f_str PyProof.Rows.boot_str (d_ix (d_var 0) (d_int))))))))) (ss_one (s_ret (d_str))) (ss_nil)) (ss_one (s_ret (d_ix (d_var 0) (d_int))))))
/-! ### is_record -/
abbrev tp_is_record : Stmt := top 14
def bp_is_record : SM := (sSeq2 (sSet 1 (eCall 1 sp_first_word (aCons (eV 0) aNil))) (sSeq2 (sIf (eB (e2 (on2 inD) (eV 1) (eC c_NUMBERED_RECORDS))) (sRet (eAnd (e2 (on2 eqD) (eA (on1L lenD) (aCons (eV 0) aNil)) (eC (.int 3))) (eAnd (eCall 1 sp_is_page (aCons (e2 (on2 ixD) (eV 0) (eC (.int 1))) aNil)) (eCall 1 sp_is_count (aCons (e2 (on2 ixD) (eV 0) (eC (.int 2))) aNil))))) sNil) (sRet (eAnd (e2 (on2 inD) (eV 1) (eC c_PLAIN_RECORDS)) (eAnd (e2 (on2 eqD) (eA (on1L lenD) (aCons (eV 0) aNil)) (eC (.int 2))) (eCall 1 sp_is_page (aCons (e2 (on2 ixD) (eV 0) (eC (.int 1))) aNil)))))))
def sp_is_record : List Val → M Val := runF 2 bp_is_record
theorem scp_is_record : FnScope ["thing", "word"] ["thing"] (defScope tp_is_record) := ⟨rfl, rfl, rfl, by decide +kernel, rfl, by decide +kernel, by decide +kernel⟩
set_option maxHeartbeats 4000000 in
theorem okp_is_record (T : Tx K mg w) : OkD P w K cn mg base CX0 3 "is_record" ["thing"] sp_is_record := by
  obtain ⟨fd, F⟩ := T.dp_is_record
  exact okD T.mp_is_record F scp_is_record (F.bindsN (ps := ["thing"]) fun _ _ _ _ _ _ us hl => match us, hl with | [_], _ => rfl) (fun cdv A outer sh H E hr hg => PSs.nox (ss_cons (s_set 1 scp_is_record.nd (d_call (okp_first_word T) (hr.mono (by decide)) hg pas0 (a_cons (d_var 0) (a_nil)))) (ss_cons (s_if (t_cmp (o_in (u65 hr)) (d_var 1) (d_glob T.g_NUMBERED_RECORDS)) (ss_one (s_ret (d_and (d_cmp (o_eq hr.units) (d_callB c_len T.f_len PySem.boot_len (a_cons (d_var 0) (a_nil))) (d_int)) (d_and (d_call (okp_is_page T) (hr.mono (by decide)) hg pas0 (a_cons (d_ix (d_var 0) (d_int)) (a_nil))) (d_one (d_call (okp_is_count T) (hr.mono (by decide)) hg pas0 (a_cons (d_ix (d_var 0) (d_int)) (a_nil)))))))) (ss_nil)) (ss_one (s_ret (d_and (d_cmp (o_in (u65 hr)) (d_var 1) (d_glob T.g_PLAIN_RECORDS)) (d_and (d_cmp (o_eq hr.units) (d_callB c_len T.f_len PySem.boot_len (a_cons (d_var 0) (a_nil))) (d_int)) (d_one (d_call (okp_is_page T) (hr.mono (by decide)) hg pas0 (a_cons (d_ix (d_var 0) (d_int)) (a_nil)))))))))))
theorem okKp_is_record_0 (T : Tx K mg w) : OkK P w K cn mg base CX0 3 "is_record" ["thing"] ["thing"] [0] sp_is_record := by
  obtain ⟨fd, F⟩ := T.dp_is_record
  exact okK_of (okp_is_record T) T.mp_is_record F (fun _ _ _ _ _ _ ws hl => match ws, hl with | [_], _ => rfl)
/-! ### is_deed -/
abbrev tp_is_deed : Stmt := top 15
def bp_is_deed : SM := (sSeq2 (sSet 1 (eCall 1 sp_first_word (aCons (eV 0) aNil))) (sSeq2 (sIf (eB (e2 (on2 inD) (eV 1) (eC c_LONE_DEEDS))) (sRet (e2 (on2 eqD) (eA (on1L lenD) (aCons (eV 0) aNil)) (eC (.int 1)))) sNil) (sSeq2 (sIf (eB (e2 (on2 eqD) (eV 1) (eC (.str "point")))) (sRet (eAnd (e2 (on2 eqD) (eA (on1L lenD) (aCons (eV 0) aNil)) (eC (.int 2))) (eCall 1 sp_is_count (aCons (e2 (on2 ixD) (eV 0) (eC (.int 1))) aNil)))) sNil) (sRet (eAnd (e2 (on2 inD) (eV 1) (eC c_PAGE_DEEDS)) (eAnd (e2 (on2 eqD) (eA (on1L lenD) (aCons (eV 0) aNil)) (eC (.int 2))) (eCall 1 sp_is_page (aCons (e2 (on2 ixD) (eV 0) (eC (.int 1))) aNil))))))))
def sp_is_deed : List Val → M Val := runF 2 bp_is_deed
theorem scp_is_deed : FnScope ["thing", "word"] ["thing"] (defScope tp_is_deed) := ⟨rfl, rfl, rfl, by decide +kernel, rfl, by decide +kernel, by decide +kernel⟩
set_option maxHeartbeats 4000000 in
theorem okp_is_deed (T : Tx K mg w) : OkD P w K cn mg base CX0 3 "is_deed" ["thing"] sp_is_deed := by
  obtain ⟨fd, F⟩ := T.dp_is_deed
  exact okD T.mp_is_deed F scp_is_deed (F.bindsN (ps := ["thing"]) fun _ _ _ _ _ _ us hl => match us, hl with | [_], _ => rfl) (fun cdv A outer sh H E hr hg => PSs.nox (ss_cons (s_set 1 scp_is_deed.nd (d_call (okp_first_word T) (hr.mono (by decide)) hg pas0 (a_cons (d_var 0) (a_nil)))) (ss_cons (s_if (t_cmp (o_in (u65 hr)) (d_var 1) (d_glob T.g_LONE_DEEDS)) (ss_one (s_ret (d_cmp (o_eq hr.units) (d_callB c_len T.f_len PySem.boot_len (a_cons (d_var 0) (a_nil))) (d_int)))) (ss_nil)) (ss_cons (s_if (t_cmp (o_eq hr.units) (d_var 1) (d_str)) (ss_one (s_ret (d_and (d_cmp (o_eq hr.units) (d_callB c_len T.f_len PySem.boot_len (a_cons (d_var 0) (a_nil))) (d_int)) (d_one (d_call (okp_is_count T) (hr.mono (by decide)) hg pas0 (a_cons (d_ix (d_var 0) (d_int)) (a_nil))))))) (ss_nil)) (ss_one (s_ret (d_and (d_cmp (o_in (u65 hr)) (d_var 1) (d_glob T.g_PAGE_DEEDS)) (d_and (d_cmp (o_eq hr.units) (d_callB c_len T.f_len PySem.boot_len (a_cons (d_var 0) (a_nil))) (d_int)) (d_one (d_call (okp_is_page T) (hr.mono (by decide)) hg pas0 (a_cons (d_ix (d_var 0) (d_int)) (a_nil))))))))))))
theorem okKp_is_deed_0 (T : Tx K mg w) : OkK P w K cn mg base CX0 3 "is_deed" ["thing"] ["thing"] [0] sp_is_deed := by
  obtain ⟨fd, F⟩ := T.dp_is_deed
  exact okK_of (okp_is_deed T) T.mp_is_deed F (fun _ _ _ _ _ _ ws hl => match ws, hl with | [_], _ => rfl)
/-! ### is_guard -/
abbrev tp_is_guard : Stmt := top 16
def bp_is_guard : SM := (sRet (eAnd (e1 (on1 (isD "str")) (eV 0)) (e2 (on2 inD) (eV 0) (eC c_GUARDS))))
def sp_is_guard : List Val → M Val := runF 1 bp_is_guard
theorem scp_is_guard : FnScope ["thing"] ["thing"] (defScope tp_is_guard) := ⟨rfl, rfl, rfl, by decide +kernel, rfl, by decide +kernel, by decide +kernel⟩
set_option maxHeartbeats 4000000 in
theorem okp_is_guard (T : Tx K mg w) : OkD P w K cn mg base CX0 1 "is_guard" ["thing"] sp_is_guard := by
  obtain ⟨fd, F⟩ := T.dp_is_guard
  exact okD T.mp_is_guard F scp_is_guard (F.bindsN (ps := ["thing"]) fun _ _ _ _ _ _ us hl => match us, hl with | [_], _ => rfl) (fun cdv A outer sh H E hr hg => PSs.nox (ss_one (s_ret (d_and (d_isi "str" T.f_isinstance T.f_str PyProof.Rows.boot_str (d_var 0)) (d_one (d_cmp (o_in (u65 hr)) (d_var 0) (d_glob T.g_GUARDS)))))))
/-! ### is_rule -/
abbrev tp_is_rule : Stmt := top 17
def bp_is_rule : SM := (sSeq2 (sIf (tO (tN (eT (e1 (on1 (isD "tuple")) (eV 0)))) (tN (eT (eA (on1L allD) (aCons (eLc (sSeq (eV 0)) [1] (gN 1) tTrue (eCall 1 sp_is_guard (aCons (eV 1) aNil))) aNil))))) (sRet (eC (.bool false))) sNil) (sRet (eA (on1L allD) (aCons (eLc (sZip (aCons (eV 0) (aCons (eSl (eV 0) (oS (eC (.int 1))) oN) aNil))) [1, 2] (gT 2 (gsCons (gN 1) (gsCons (gN 2) gsNil))) tTrue (e2 (on2 ltD) (eV 1) (eV 2))) aNil))))
def sp_is_rule : List Val → M Val := runF 3 bp_is_rule
theorem scp_is_rule : FnScope ["thing", "one", "other"] ["thing"] (defScope tp_is_rule) := ⟨rfl, rfl, rfl, by decide +kernel, rfl, by decide +kernel, by decide +kernel⟩
set_option maxHeartbeats 4000000 in
theorem okp_is_rule (T : Tx K mg w) : OkD P w K cn mg base CX0 2 "is_rule" ["thing"] sp_is_rule := by
  obtain ⟨fd, F⟩ := T.dp_is_rule
  exact okD T.mp_is_rule F scp_is_rule (F.bindsN (ps := ["thing"]) fun _ _ _ _ _ _ us hl => match us, hl with | [_], _ => rfl) (fun cdv A outer sh H E hr hg => PSs.nox (ss_cons (s_if (PW.pt (w_or (t_not (t_val (d_isi "tuple" T.f_isinstance T.f_tuple PyProof.Rows.boot_tuple (d_var 0)))) (w_or1 (t_not (t_val (d_callB (c_all rfl) T.f_all PyProof.Rows.boot_all (a_cons (d_lc (own := [("one", 1)]) (ps := [1]) rfl scp_is_rule.nd (i_seq (d_var 0)) (blkOk_by (N := ["thing", "one", "other"]) (sc := defScope tp_is_rule) (by decide +kernel)) (by simp) (fun _ _ _ _ _ => g_name 1 scp_is_rule.nd (by simp)) (fun _ _ _ _ _ => c_nil) (fun _ _ _ _ _ => d_call (okp_is_guard T) (hr.mono (by decide)) hg pas0 (a_cons (d_var 1) (a_nil)))) (a_nil)))))))) (ss_one (s_ret (d_bl))) (ss_nil)) (ss_one (s_ret (d_callB (c_all rfl) T.f_all PyProof.Rows.boot_all (a_cons (d_lc (own := [("one", 1), ("other", 2)]) (ps := [1, 2]) rfl scp_is_rule.nd (i_zip T.f_zip (a_cons (d_var 0) (a_cons (d_sl (d_var 0) (s_some (d_int)) (s_none)) (a_nil)))) (blkOk_by (N := ["thing", "one", "other"]) (sc := defScope tp_is_rule) (by decide +kernel)) (by simp) (fun _ _ _ _ _ => g_tup rfl (gs_cons (g_name 1 scp_is_rule.nd (by simp)) (gs_cons (g_name 2 scp_is_rule.nd (by simp)) (gs_nil)))) (fun _ _ _ _ _ => c_nil) (fun _ _ _ _ _ => d_cmp o_lt (d_var 1) (d_var 2))) (a_nil)))))))
theorem okKp_is_rule_0 (T : Tx K mg w) : OkK P w K cn mg base CX0 2 "is_rule" ["thing"] ["thing"] [0] sp_is_rule := by
  obtain ⟨fd, F⟩ := T.dp_is_rule
  exact okK_of (okp_is_rule T) T.mp_is_rule F (fun _ _ _ _ _ _ ws hl => match ws, hl with | [_], _ => rfl)
/-! ### _law_spring -/
abbrev tf_law_spring : Stmt := top 19
def bf_law_spring : SM := (sRet (eDisp [((eC (.str "cells")), (eA (on1L listD) (aCons (eSl (eV 0) oN (oS (eC (.int 60)))) aNil))), ((eC (.str "place")), (eC (.int 0))), ((eC (.str "rest")), (eC (.int 0))), ((eC (.str "count")), (eC (.int 0)))]))
def sf_law_spring : List Val → M Val := runF 1 bf_law_spring
theorem scf_law_spring : FnScope ["_law_script"] ["_law_script"] (defScope tf_law_spring) := ⟨rfl, rfl, rfl, by decide +kernel, rfl, by decide +kernel, by decide +kernel⟩
set_option maxHeartbeats 4000000 in
theorem okf_law_spring (T : Tx K mg w) : OkD P w K cn mg base CX0 1 "_law_spring" ["_law_script"] sf_law_spring := by
  obtain ⟨fd, F⟩ := T.df_law_spring
  exact okD T.mf_law_spring F scf_law_spring (F.bindsN (ps := ["_law_script"]) fun _ _ _ _ _ _ us hl => match us, hl with | [_], _ => rfl) (fun cdv A outer sh H E hr hg => PSs.nox (ss_one (s_ret (d_disp (prs := [((eC (.str "cells")), (eA (on1L listD) (aCons (eSl (eV 0) oN (oS (eC (.int 60)))) aNil))), ((eC (.str "place")), (eC (.int 0))), ((eC (.str "rest")), (eC (.int 0))), ((eC (.str "count")), (eC (.int 0)))]) (pps_cons (d_str) (d_callT c_list T.f_list PyProof.Rows.boot_list (a_cons (d_sl (d_var 0) (s_none) (s_some (d_int))) (a_nil))) (pps_cons (d_str) (d_int) (pps_cons (d_str) (d_int) (pps_cons (d_str) (d_int) (pps_nil)))))))))
/-! ### _law_dip -/
abbrev tf_law_dip : Stmt := top 20
def bf_law_dip : SM := (sSeq2 (sSet 2 (e2 (on2 addD) (e2 dgetV (eV 0) (eC (.str "count"))) (eC (.int 1)))) (sSeq2 (sDput (eV 0) (eC (.str "count")) (eV 2)) (sSeq2 (sIf (eB (e2 (on2 gtD) (e2 dgetV (eV 0) (eC (.str "rest"))) (eC (.int 0)))) (sSeq2 (sSet 3 (e2 (on2 modD) (eA (on1L intD) (aCons (e2 dgetV (eV 0) (eC (.str "rest"))) aNil)) (eV 1))) (sSeq2 (sDput (eV 0) (eC (.str "rest")) (e2 (on2 fdivD) (e2 dgetV (eV 0) (eC (.str "rest"))) (eV 1))) (sRet (eV 3)))) sNil) (sSeq2 (sSet 4 (e2 dgetV (eV 0) (eC (.str "place")))) (sSeq2 (sDput (eV 0) (eC (.str "place")) (e2 (on2 addD) (eV 4) (eC (.int 1)))) (sSeq2 (sSet 5 (eC (.int 61001))) (sSeq2 (sIf (eB (e2 (on2 neD) (e2 dgetV (eV 0) (eC (.str "cells"))) (eA dLst aNil))) (sSet 5 (e2 (on2 ixD) (e2 dgetV (eV 0) (eC (.str "cells"))) (e2 (on2 modD) (eA (on1L intD) (aCons (eV 4) aNil)) (eA (on1L lenD) (aCons (e2 dgetV (eV 0) (eC (.str "cells"))) aNil))))) sNil) (sSeq2 (sIf (tA (eB (e2 (on2 geD) (eV 5) (e2 (on2 powD) (eC (.int 10)) (eC (.int 18))))) (eB (e2 (on2 ltD) (eV 4) (eA (on1L lenD) (aCons (e2 dgetV (eV 0) (eC (.str "cells"))) aNil))))) (sSeq2 (sDput (eV 0) (eC (.str "rest")) (e2 (on2 fdivD) (eV 5) (eV 1))) (sRet (e2 (on2 modD) (eA (on1L intD) (aCons (eV 5) aNil)) (eV 1)))) sNil) (sSeq2 (sSet 6 (e2 (on2 modD) (eA (on1L intD) (aCons (e2 (on2 powD) (e2 (on2 addD) (e2 (on2 addD) (e2 (on2 modD) (eA (on1L intD) (aCons (eV 5) aNil)) (eC (.int 2147483353))) (e2 (on2 mulD) (eC (.int 5003)) (eV 2))) (eC (.int 307))) (eC (.int 3))) aNil)) (eC (.int 2147483647)))) (sSeq2 (sSet 6 (e2 (on2 modD) (eA (on1L intD) (aCons (e2 (on2 powD) (e2 (on2 addD) (eV 6) (e2 (on2 mulD) (eC (.int 30011)) (eV 2))) (eC (.int 5))) aNil)) (eC (.int 2147483587)))) (sRet (e2 (on2 modD) (eA (on1L intD) (aCons (e2 (on2 fdivD) (eV 6) (eC (.int 128))) aNil)) (eV 1)))))))))))))
def sf_law_dip : List Val → M Val := runF 7 bf_law_dip
theorem scf_law_dip : FnScope ["_law_spring_here", "_law_many", "_law_count", "_law_figure", "_law_turn", "_law_cell", "_law_mixed"] ["_law_spring_here", "_law_many"] (defScope tf_law_dip) := ⟨rfl, rfl, rfl, by decide +kernel, rfl, by decide +kernel, by decide +kernel⟩
set_option maxHeartbeats 4000000 in
theorem okf_law_dip (T : Tx K mg w) : OkD P w K cn mg base CX0 1 "_law_dip" ["_law_spring_here", "_law_many"] sf_law_dip := by
  obtain ⟨fd, F⟩ := T.df_law_dip
  exact okD T.mf_law_dip F scf_law_dip (F.bindsN (ps := ["_law_spring_here", "_law_many"]) fun _ _ _ _ _ _ us hl => match us, hl with | [_, _], _ => rfl) (fun cdv A outer sh H E hr hg => PSs.nox (ss_cons (s_set 2 scf_law_dip.nd (d_op o_add (d_dget (hu_of hr) (d_var 0) (d_str)) (d_int))) (ss_cons (s_dput (hu_of hr) (d_var 0) (d_str) (d_var 2)) (ss_cons (s_if (t_cmp o_gt (d_dget (hu_of hr) (d_var 0) (d_str)) (d_int)) (ss_cons (s_set 3 scf_law_dip.nd (d_op o_mod (d_callT c_int T.f_int PyProof.Rows.boot_int (a_cons (d_dget (hu_of hr) (d_var 0) (d_str)) (a_nil))) (d_var 1))) (ss_cons (s_dput (hu_of hr) (d_var 0) (d_str) (d_op o_fdiv (d_dget (hu_of hr) (d_var 0) (d_str)) (d_var 1))) (ss_one (s_ret (d_var 3))))) (ss_nil)) (ss_cons (s_set 4 scf_law_dip.nd (d_dget (hu_of hr) (d_var 0) (d_str))) (ss_cons (s_dput (hu_of hr) (d_var 0) (d_str) (d_op o_add (d_var 4) (d_int))) (ss_cons (s_set 5 scf_law_dip.nd (d_int)) (ss_cons (s_if (t_cmp (o_ne hr.units) (d_dget (hu_of hr) (d_var 0) (d_str)) (d_lst (a_nil))) (ss_one (s_set 5 scf_law_dip.nd (d_ix (d_dget (hu_of hr) (d_var 0) (d_str)) (d_op o_mod (d_callT c_int T.f_int PyProof.Rows.boot_int (a_cons (d_var 4) (a_nil))) (d_callB c_len T.f_len PySem.boot_len (a_cons (d_dget (hu_of hr) (d_var 0) (d_str)) (a_nil))))))) (ss_nil)) (ss_cons (s_if (PW.pt (w_and (t_cmp o_ge (d_var 5) (d_op o_pow (d_int) (d_int))) (w_and1 (t_cmp o_lt (d_var 4) (d_callB c_len T.f_len PySem.boot_len (a_cons (d_dget (hu_of hr) (d_var 0) (d_str)) (a_nil))))))) (ss_cons (s_dput (hu_of hr) (d_var 0) (d_str) (d_op o_fdiv (d_var 5) (d_var 1))) (ss_one (s_ret (d_op o_mod (d_callT c_int T.f_int PyProof.Rows.boot_int (a_cons (d_var 5) (a_nil))) (d_var 1))))) (ss_nil)) (ss_cons (s_set 6 scf_law_dip.nd (d_op o_mod (d_callT c_int T.f_int PyProof.Rows.boot_int (a_cons (d_op o_pow (d_op o_add (d_op o_add (d_op o_mod (d_callT c_int T.f_int PyProof.Rows.boot_int (a_cons (d_var 5) (a_nil))) (d_int)) (d_op o_mul (d_int) (d_var 2))) (d_int)) (d_int)) (a_nil))) (d_int))) (ss_cons (s_set 6 scf_law_dip.nd (d_op o_mod (d_callT c_int T.f_int PyProof.Rows.boot_int (a_cons (d_op o_pow (d_op o_add (d_var 6) (d_op o_mul (d_int) (d_var 2))) (d_int)) (a_nil))) (d_int))) (ss_one (s_ret (d_op o_mod (d_callT c_int T.f_int PyProof.Rows.boot_int (a_cons (d_op o_fdiv (d_var 6) (d_int)) (a_nil))) (d_var 1)))))))))))))))
/-! ### _law_pick -/
abbrev tf_law_pick : Stmt := top 21
def bf_law_pick : SM := (sRet (e2 (on2 ixD) (eV 1) (eCall 2 sf_law_dip (aCons (eV 0) (aCons (eA (on1L lenD) (aCons (eV 1) aNil)) aNil)))))
def sf_law_pick : List Val → M Val := runF 2 bf_law_pick
theorem scf_law_pick : FnScope ["_law_spring_here", "_law_items"] ["_law_spring_here", "_law_items"] (defScope tf_law_pick) := ⟨rfl, rfl, rfl, by decide +kernel, rfl, by decide +kernel, by decide +kernel⟩
set_option maxHeartbeats 4000000 in
theorem okf_law_pick (T : Tx K mg w) : OkD P w K cn mg base CX0 2 "_law_pick" ["_law_spring_here", "_law_items"] sf_law_pick := by
  obtain ⟨fd, F⟩ := T.df_law_pick
  exact okD T.mf_law_pick F scf_law_pick (F.bindsN (ps := ["_law_spring_here", "_law_items"]) fun _ _ _ _ _ _ us hl => match us, hl with | [_, _], _ => rfl) (fun cdv A outer sh H E hr hg => PSs.nox (ss_one (s_ret (d_ix (d_var 1) (d_call (okf_law_dip T) (hr.mono (by decide)) hg pas0 (a_cons (d_var 0) (a_cons (d_callB c_len T.f_len PySem.boot_len (a_cons (d_var 1) (a_nil))) (a_nil))))))))
/-! ### _law_is_integer -/
abbrev tf_law_is_integer : Stmt := top 22
def bf_law_is_integer : SM := (sRet (eAnd (e1 (on1 (isD "int")) (eV 0)) (eNot (e1 (on1 (isD "bool")) (eV 0)))))
def sf_law_is_integer : List Val → M Val := runF 1 bf_law_is_integer
theorem scf_law_is_integer : FnScope ["_law_item"] ["_law_item"] (defScope tf_law_is_integer) := ⟨rfl, rfl, rfl, by decide +kernel, rfl, by decide +kernel, by decide +kernel⟩
set_option maxHeartbeats 4000000 in
theorem okf_law_is_integer (T : Tx K mg w) : OkD P w K cn mg base CX0 1 "_law_is_integer" ["_law_item"] sf_law_is_integer := by
  obtain ⟨fd, F⟩ := T.df_law_is_integer
  exact okD T.mf_law_is_integer F scf_law_is_integer (F.bindsN (ps := ["_law_item"]) fun _ _ _ _ _ _ us hl => match us, hl with | [_], _ => rfl) (fun cdv A outer sh H E hr hg => PSs.nox (ss_one (s_ret (d_and (d_isi "int" T.f_isinstance T.f_int PyProof.Rows.boot_int (d_var 0)) (d_one (d_not (d_isi "bool" T.f_isinstance T.f_bool PyProof.Rows.boot_bool (d_var 0))))))))
/-! ### _law_is_page -/
abbrev tf_law_is_page : Stmt := top 23
def bf_law_is_page : SM := (sSeq2 (sIf (tO (tN (eT (e1 (on1 (isD "str")) (eV 0)))) (tO (eB (e2 (on2 ltD) (eA (on1L lenD) (aCons (eV 0) aNil)) (eC (.int 1)))) (eB (e2 (on2 gtD) (eA (on1L lenD) (aCons (eV 0) aNil)) (eC (.int 8)))))) (sRet (eC (.bool false))) sNil) (sRet (e2 (on2 eqD) (eLc (sSeq (eV 0)) [1] (gN 1) (tN (eB (eCh (on2 leD) (on2 leD) (eC (.str "a")) (eV 1) (eC (.str "z"))))) (eV 1)) (eA dLst aNil))))
def sf_law_is_page : List Val → M Val := runF 2 bf_law_is_page
theorem scf_law_is_page : FnScope ["_law_item", "_law_sign"] ["_law_item"] (defScope tf_law_is_page) := ⟨rfl, rfl, rfl, by decide +kernel, rfl, by decide +kernel, by decide +kernel⟩
set_option maxHeartbeats 4000000 in
theorem okf_law_is_page (T : Tx K mg w) : OkD P w K cn mg base CX0 1 "_law_is_page" ["_law_item"] sf_law_is_page := by
  obtain ⟨fd, F⟩ := T.df_law_is_page
  exact okD T.mf_law_is_page F scf_law_is_page (F.bindsN (ps := ["_law_item"]) fun _ _ _ _ _ _ us hl => match us, hl with | [_], _ => rfl) (fun cdv A outer sh H E hr hg => PSs.nox (ss_cons (s_if (PW.pt (w_or (t_not (t_val (d_isi "str" T.f_isinstance T.f_str PyProof.Rows.boot_str (d_var 0)))) (w_or (t_cmp o_lt (d_callB c_len T.f_len PySem.boot_len (a_cons (d_var 0) (a_nil))) (d_int)) (w_or1 (t_cmp o_gt (d_callB c_len T.f_len PySem.boot_len (a_cons (d_var 0) (a_nil))) (d_int)))))) (ss_one (s_ret (d_bl))) (ss_nil)) (ss_one (s_ret (d_cmp (o_eq hr.units) (d_lc (own := [("_law_sign", 1)]) (ps := [1]) rfl scf_law_is_page.nd (i_seq (d_var 0)) (blkOk_by (N := ["_law_item", "_law_sign"]) (sc := defScope tf_law_is_page) (by decide +kernel)) (by simp) (fun _ _ _ _ _ => g_name 1 scf_law_is_page.nd (by simp)) (fun _ _ _ _ _ => c_one (t_not (t_chain o_le o_le (d_str) (d_var 1) (d_str)))) (fun _ _ _ _ _ => d_var 1)) (d_lst (a_nil)))))))
/-! ### _law_is_count -/
abbrev tf_law_is_count : Stmt := top 24
def bf_law_is_count : SM := (sRet (eAnd (eCall 1 sf_law_is_integer (aCons (eV 0) aNil)) (e2 (on2 gtD) (eV 0) (eC (.int 0)))))
def sf_law_is_count : List Val → M Val := runF 1 bf_law_is_count
theorem scf_law_is_count : FnScope ["_law_item"] ["_law_item"] (defScope tf_law_is_count) := ⟨rfl, rfl, rfl, by decide +kernel, rfl, by decide +kernel, by decide +kernel⟩
set_option maxHeartbeats 4000000 in
theorem okf_law_is_count (T : Tx K mg w) : OkD P w K cn mg base CX0 2 "_law_is_count" ["_law_item"] sf_law_is_count := by
  obtain ⟨fd, F⟩ := T.df_law_is_count
  exact okD T.mf_law_is_count F scf_law_is_count (F.bindsN (ps := ["_law_item"]) fun _ _ _ _ _ _ us hl => match us, hl with | [_], _ => rfl) (fun cdv A outer sh H E hr hg => PSs.nox (ss_one (s_ret (d_and (d_call (okf_law_is_integer T) (hr.mono (by decide)) hg pas0 (a_cons (d_var 0) (a_nil))) (d_one (d_cmp o_gt (d_var 0) (d_int)))))))
/-! ### _law_is_record -/
abbrev tf_law_is_record : Stmt := top 25
def bf_law_is_record : SM := (sSeq2 (sIf (tO (tN (eT (e1 (on1 (isD "tuple")) (eV 0)))) (tO (eB (e2 (on2 ltD) (eA (on1L lenD) (aCons (eV 0) aNil)) (eC (.int 2)))) (tO (tN (eT (e1 (on1 (isD "str")) (e2 (on2 ixD) (eV 0) (eC (.int 0)))))) (tN (eT (eCall 1 sf_law_is_page (aCons (e2 (on2 ixD) (eV 0) (eC (.int 1))) aNil))))))) (sRet (eC (.bool false))) sNil) (sSeq2 (sIf (eB (e2 (on2 inD) (e2 (on2 ixD) (eV 0) (eC (.int 0))) (eA dTup (aCons (eC (.str "free")) (aCons (eC (.str "strike")) aNil))))) (sRet (e2 (on2 eqD) (eA (on1L lenD) (aCons (eV 0) aNil)) (eC (.int 2)))) sNil) (sRet (eAnd (e2 (on2 inD) (e2 (on2 ixD) (eV 0) (eC (.int 0))) (eA dTup (aCons (eC (.str "keep")) (aCons (eC (.str "write")) (aCons (eC (.str "plain")) aNil))))) (eAnd (e2 (on2 eqD) (eA (on1L lenD) (aCons (eV 0) aNil)) (eC (.int 3))) (eCall 1 sf_law_is_count (aCons (e2 (on2 ixD) (eV 0) (eC (.int 2))) aNil)))))))
def sf_law_is_record : List Val → M Val := runF 1 bf_law_is_record
theorem scf_law_is_record : FnScope ["_law_item"] ["_law_item"] (defScope tf_law_is_record) := ⟨rfl, rfl, rfl, by decide +kernel, rfl, by decide +kernel, by decide +kernel⟩
set_option maxHeartbeats 4000000 in
theorem okf_law_is_record (T : Tx K mg w) : OkD P w K cn mg base CX0 3 "_law_is_record" ["_law_item"] sf_law_is_record := by
  obtain ⟨fd, F⟩ := T.df_law_is_record
  exact okD T.mf_law_is_record F scf_law_is_record (F.bindsN (ps := ["_law_item"]) fun _ _ _ _ _ _ us hl => match us, hl with | [_], _ => rfl) (fun cdv A outer sh H E hr hg => PSs.nox (ss_cons (s_if (PW.pt (w_or (t_not (t_val (d_isi "tuple" T.f_isinstance T.f_tuple PyProof.Rows.boot_tuple (d_var 0)))) (w_or (t_cmp o_lt (d_callB c_len T.f_len PySem.boot_len (a_cons (d_var 0) (a_nil))) (d_int)) (w_or (t_not (t_val (d_isi "str" T.f_isinstance T.f_str PyProof.Rows.boot_str (d_ix (d_var 0) (d_int))))) (w_or1 (t_not (t_val (d_call (okf_law_is_page T) (hr.mono (by decide)) hg pas0 (a_cons (d_ix (d_var 0) (d_int)) (a_nil)))))))))) (ss_one (s_ret (d_bl))) (ss_nil)) (ss_cons (s_if (t_cmp (o_in (u65 hr)) (d_ix (d_var 0) (d_int)) (d_tup (a_cons (d_str) (a_cons (d_str) (a_nil))))) (ss_one (s_ret (d_cmp (o_eq hr.units) (d_callB c_len T.f_len PySem.boot_len (a_cons (d_var 0) (a_nil))) (d_int)))) (ss_nil)) (ss_one (s_ret (d_and (d_cmp (o_in (u65 hr)) (d_ix (d_var 0) (d_int)) (d_tup (a_cons (d_str) (a_cons (d_str) (a_cons (d_str) (a_nil)))))) (d_and (d_cmp (o_eq hr.units) (d_callB c_len T.f_len PySem.boot_len (a_cons (d_var 0) (a_nil))) (d_int)) (d_one (d_call (okf_law_is_count T) (hr.mono (by decide)) hg pas0 (a_cons (d_ix (d_var 0) (d_int)) (a_nil)))))))))))
/-! ### _law_is_deed -/
abbrev tf_law_is_deed : Stmt := top 26
def bf_law_is_deed : SM := (sSeq2 (sIf (tO (tN (eT (e1 (on1 (isD "tuple")) (eV 0)))) (tO (eB (e2 (on2 ltD) (eA (on1L lenD) (aCons (eV 0) aNil)) (eC (.int 1)))) (tN (eT (e1 (on1 (isD "str")) (e2 (on2 ixD) (eV 0) (eC (.int 0)))))))) (sRet (eC (.bool false))) sNil) (sSeq2 (sIf (eB (e2 (on2 inD) (e2 (on2 ixD) (eV 0) (eC (.int 0))) (eA dTup (aCons (eC (.str "seal")) (aCons (eC (.str "stop")) (aCons (eC (.str "end")) aNil)))))) (sRet (e2 (on2 eqD) (eA (on1L lenD) (aCons (eV 0) aNil)) (eC (.int 1)))) sNil) (sSeq2 (sIf (eB (e2 (on2 neD) (eA (on1L lenD) (aCons (eV 0) aNil)) (eC (.int 2)))) (sRet (eC (.bool false))) sNil) (sSeq2 (sIf (eB (e2 (on2 eqD) (e2 (on2 ixD) (eV 0) (eC (.int 0))) (eC (.str "point")))) (sRet (eCall 1 sf_law_is_count (aCons (e2 (on2 ixD) (eV 0) (eC (.int 1))) aNil))) sNil) (sRet (eAnd (e2 (on2 inD) (e2 (on2 ixD) (eV 0) (eC (.int 0))) (eA dTup (aCons (eC (.str "keep")) (aCons (eC (.str "plain")) (aCons (eC (.str "write")) (aCons (eC (.str "free")) (aCons (eC (.str "strike")) (aCons (eC (.str "flush")) (aCons (eC (.str "put")) aNil))))))))) (eCall 1 sf_law_is_page (aCons (e2 (on2 ixD) (eV 0) (eC (.int 1))) aNil))))))))
def sf_law_is_deed : List Val → M Val := runF 1 bf_law_is_deed
theorem scf_law_is_deed : FnScope ["_law_item"] ["_law_item"] (defScope tf_law_is_deed) := ⟨rfl, rfl, rfl, by decide +kernel, rfl, by decide +kernel, by decide +kernel⟩
set_option maxHeartbeats 4000000 in
theorem okf_law_is_deed (T : Tx K mg w) : OkD P w K cn mg base CX0 3 "_law_is_deed" ["_law_item"] sf_law_is_deed := by
  obtain ⟨fd, F⟩ := T.df_law_is_deed
  exact okD T.mf_law_is_deed F scf_law_is_deed (F.bindsN (ps := ["_law_item"]) fun _ _ _ _ _ _ us hl => match us, hl with | [_], _ => rfl) (fun cdv A outer sh H E hr hg => PSs.nox (ss_cons (s_if (PW.pt (w_or (t_not (t_val (d_isi "tuple" T.f_isinstance T.f_tuple PyProof.Rows.boot_tuple (d_var 0)))) (w_or (t_cmp o_lt (d_callB c_len T.f_len PySem.boot_len (a_cons (d_var 0) (a_nil))) (d_int)) (w_or1 (t_not (t_val (d_isi "str" T.f_isinstance T.f_str PyProof.Rows.boot_str (d_ix (d_var 0) (d_int))))))))) (ss_one (s_ret (d_bl))) (ss_nil)) (ss_cons (s_if (t_cmp (o_in (u65 hr)) (d_ix (d_var 0) (d_int)) (d_tup (a_cons (d_str) (a_cons (d_str) (a_cons (d_str) (a_nil)))))) (ss_one (s_ret (d_cmp (o_eq hr.units) (d_callB c_len T.f_len PySem.boot_len (a_cons (d_var 0) (a_nil))) (d_int)))) (ss_nil)) (ss_cons (s_if (t_cmp (o_ne hr.units) (d_callB c_len T.f_len PySem.boot_len (a_cons (d_var 0) (a_nil))) (d_int)) (ss_one (s_ret (d_bl))) (ss_nil)) (ss_cons (s_if (t_cmp (o_eq hr.units) (d_ix (d_var 0) (d_int)) (d_str)) (ss_one (s_ret (d_call (okf_law_is_count T) (hr.mono (by decide)) hg pas0 (a_cons (d_ix (d_var 0) (d_int)) (a_nil))))) (ss_nil)) (ss_one (s_ret (d_and (d_cmp (o_in (u65 hr)) (d_ix (d_var 0) (d_int)) (d_tup (a_cons (d_str) (a_cons (d_str) (a_cons (d_str) (a_cons (d_str) (a_cons (d_str) (a_cons (d_str) (a_cons (d_str) (a_nil)))))))))) (d_one (d_call (okf_law_is_page T) (hr.mono (by decide)) hg pas0 (a_cons (d_ix (d_var 0) (d_int)) (a_nil))))))))))))
/-! ### _law_guards -/
abbrev tf_law_guards : Stmt := top 27
def bf_law_guards : SM := (sSeq2 (sSet 0 (eA dLst (aCons (eC (.str "ahead")) (aCons (eC (.str "quiet")) (aCons (eC (.str "calm")) (aCons (eC (.str "struck")) (aCons (eC (.str "first")) (aCons (eC (.str "clean")) aNil)))))))) (sRet (e2 (on2 addD) (eV 0) (eA dLst (aCons (eC (.str "whole")) (aCons (eC (.str "level")) (aCons (eC (.str "settled")) (aCons (eC (.str "dead")) (aCons (eC (.str "walked")) (aCons (eC (.str "fixed")) aNil))))))))))
def sf_law_guards : List Val → M Val := runF 1 bf_law_guards
theorem scf_law_guards : FnScope ["_law_first"] [] (defScope tf_law_guards) := ⟨rfl, rfl, rfl, by decide +kernel, rfl, by decide +kernel, by decide +kernel⟩
set_option maxHeartbeats 4000000 in
theorem okf_law_guards (T : Tx K mg w) : OkD P w K cn mg base CX0 1 "_law_guards" [] sf_law_guards := by
  obtain ⟨fd, F⟩ := T.df_law_guards
  exact okD T.mf_law_guards F scf_law_guards (F.bindsN (ps := []) fun _ _ _ _ _ _ us hl => match us, hl with | [], _ => rfl) (fun cdv A outer sh H E hr hg => PSs.nox (ss_cons (s_set 0 scf_law_guards.nd (d_lst (a_cons (d_str) (a_cons (d_str) (a_cons (d_str) (a_cons (d_str) (a_cons (d_str) (a_cons (d_str) (a_nil))))))))) (ss_one (s_ret (d_op o_add (d_var 0) (d_lst (a_cons (d_str) (a_cons (d_str) (a_cons (d_str) (a_cons (d_str) (a_cons (d_str) (a_cons (d_str) (a_nil)))))))))))))
/-! ### _law_is_rule -/
abbrev tf_law_is_rule : Stmt := top 28
def bf_law_is_rule : SM := (sSeq2 (sIf (tN (eT (e1 (on1 (isD "tuple")) (eV 0)))) (sRet (eC (.bool false))) sNil) (sSeq2 (sIf (eB (e2 (on2 neD) (eLc (sSeq (eV 0)) [1] (gN 1) (tO (tN (eT (e1 (on1 (isD "str")) (eV 1)))) (eB (e2 (on2 ninD) (eV 1) (eCall 0 sf_law_guards aNil)))) (eV 1)) (eA dLst aNil))) (sRet (eC (.bool false))) sNil) (sRet (e2 (on2 eqD) (eA (on1L listD) (aCons (eV 0) aNil)) (e1 (on1 ssetD) (eV 0))))))
def sf_law_is_rule : List Val → M Val := runF 2 bf_law_is_rule
theorem scf_law_is_rule : FnScope ["_law_item", "_law_one"] ["_law_item"] (defScope tf_law_is_rule) := ⟨rfl, rfl, rfl, by decide +kernel, rfl, by decide +kernel, by decide +kernel⟩
set_option maxHeartbeats 4000000 in
theorem okf_law_is_rule (T : Tx K mg w) : OkD P w K cn mg base CX0 2 "_law_is_rule" ["_law_item"] sf_law_is_rule := by
  obtain ⟨fd, F⟩ := T.df_law_is_rule
  exact okD T.mf_law_is_rule F scf_law_is_rule (F.bindsN (ps := ["_law_item"]) fun _ _ _ _ _ _ us hl => match us, hl with | [_], _ => rfl) (fun cdv A outer sh H E hr hg => PSs.nox (ss_cons (s_if (t_not (t_val (d_isi "tuple" T.f_isinstance T.f_tuple PyProof.Rows.boot_tuple (d_var 0)))) (ss_one (s_ret (d_bl))) (ss_nil)) (ss_cons (s_if (t_cmp (o_ne hr.units) (d_lc (own := [("_law_one", 1)]) (ps := [1]) rfl scf_law_is_rule.nd (i_seq (d_var 0)) (blkOk_by (N := ["_law_item", "_law_one"]) (sc := defScope tf_law_is_rule) (by decide +kernel)) (by simp) (fun _ _ _ _ _ => g_name 1 scf_law_is_rule.nd (by simp)) (fun _ _ _ _ _ => c_one (PW.pt (w_or (t_not (t_val (d_isi "str" T.f_isinstance T.f_str PyProof.Rows.boot_str (d_var 1)))) (w_or1 (t_cmp (o_nin (u65 hr)) (d_var 1) (d_call0 (okf_law_guards T) (hr.mono (by decide)) hg pas0)))))) (fun _ _ _ _ _ => d_var 1)) (d_lst (a_nil))) (ss_one (s_ret (d_bl))) (ss_nil)) (ss_one (s_ret (d_cmp (o_eq hr.units) (d_callT c_list T.f_list PyProof.Rows.boot_list (a_cons (d_var 0) (a_nil))) (d_sset rfl T.f_sorted T.f_set (d_var 0))))))))
/-! ### _law_rule -/
abbrev tf_law_rule : Stmt := top 29
def bf_law_rule : SM := (sSeq2 (sPar2 1 2 (aCons (eCall 2 sf_law_dip (aCons (eV 0) (aCons (eC (.int 6)) aNil))) (aCons (eA (on1L sortX) (aCons (eCall 0 sf_law_guards aNil) aNil)) aNil))) (sSeq2 (sIf (eB (e2 (on2 ltD) (eV 1) (eC (.int 2)))) (sRet (eA (on1L tupleD) (aCons (eSl (eV 2) oN (oS (e2 (on2 mulD) (eC (.int 12)) (eV 1)))) aNil))) sNil) (sSeq2 (sIf (eB (e2 (on2 eqD) (eV 1) (eC (.int 2)))) (sSeq2 (sSet 3 (eCall 2 sf_law_pick (aCons (eV 0) (aCons (eV 2) aNil)))) (sRet (eA (on1L tupleD) (aCons (eLc (sSeq (eV 2)) [4] (gN 4) (eB (e2 (on2 neD) (eV 4) (eV 3))) (eV 4)) aNil)))) sNil) (sRet (eA (on1L tupleD) (aCons (eLc (sSeq (eV 2)) [4] (gN 4) (eB (e2 (on2 eqD) (eCall 2 sf_law_dip (aCons (eV 0) (aCons (eC (.int 3)) aNil))) (eC (.int 0)))) (eV 4)) aNil))))))
def sf_law_rule : List Val → M Val := runF 5 bf_law_rule
theorem scf_law_rule : FnScope ["_law_spring_here", "_law_way", "_law_guards_here", "_law_out", "_law_one"] ["_law_spring_here"] (defScope tf_law_rule) := ⟨rfl, rfl, rfl, by decide +kernel, rfl, by decide +kernel, by decide +kernel⟩
set_option maxHeartbeats 4000000 in
theorem okf_law_rule (T : Tx K mg w) : OkD P w K cn mg base CX0 3 "_law_rule" ["_law_spring_here"] sf_law_rule := by
  obtain ⟨fd, F⟩ := T.df_law_rule
  exact okD T.mf_law_rule F scf_law_rule (F.bindsN (ps := ["_law_spring_here"]) fun _ _ _ _ _ _ us hl => match us, hl with | [_], _ => rfl) (fun cdv A outer sh H E hr hg => PSs.nox (ss_cons (s_par2 1 2 rfl scf_law_rule.nd (a_cons (d_call (okf_law_dip T) (hr.mono (by decide)) hg pas0 (a_cons (d_var 0) (a_cons (d_int) (a_nil)))) (a_cons (d_callB c_sortedX T.f_sorted PyProof.Rows.boot_sorted (a_cons (d_call0 (okf_law_guards T) (hr.mono (by decide)) hg pas0) (a_nil))) (a_nil)))) (ss_cons (s_if (t_cmp o_lt (d_var 1) (d_int)) (ss_one (s_ret (d_callT c_tuple T.f_tuple PyProof.Rows.boot_tuple (a_cons (d_sl (d_var 2) (s_none) (s_some (d_op o_mul (d_int) (d_var 1)))) (a_nil))))) (ss_nil)) (ss_cons (s_if (t_cmp (o_eq hr.units) (d_var 1) (d_int)) (ss_cons (s_set 3 scf_law_rule.nd (d_call (okf_law_pick T) (hr.mono (by decide)) hg pas0 (a_cons (d_var 0) (a_cons (d_var 2) (a_nil))))) (ss_one (s_ret (d_callT c_tuple T.f_tuple PyProof.Rows.boot_tuple (a_cons (d_lc (own := [("_law_one", 4)]) (ps := [4]) rfl scf_law_rule.nd (i_seq (d_var 2)) (blkOk_by (N := ["_law_spring_here", "_law_way", "_law_guards_here", "_law_out", "_law_one"]) (sc := defScope tf_law_rule) (by decide +kernel)) (by simp) (fun _ _ _ _ _ => g_name 4 scf_law_rule.nd (by simp)) (fun _ _ _ _ _ => c_one (t_cmp (o_ne hr.units) (d_var 4) (d_var 3))) (fun _ _ _ _ _ => d_var 4)) (a_nil)))))) (ss_nil)) (ss_one (s_ret (d_callT c_tuple T.f_tuple PyProof.Rows.boot_tuple (a_cons (d_lc (own := [("_law_one", 4)]) (ps := [4]) rfl scf_law_rule.nd (i_seq (d_var 2)) (blkOk_by (N := ["_law_spring_here", "_law_way", "_law_guards_here", "_law_out", "_law_one"]) (sc := defScope tf_law_rule) (by decide +kernel)) (by simp) (fun _ _ _ _ _ => g_name 4 scf_law_rule.nd (by simp)) (fun _ _ _ _ _ => c_one (t_cmp (o_eq hr.units) (d_call (okf_law_dip T) (hr.mono (by decide)) hg pas0 (a_cons (d_var 0) (a_cons (d_int) (a_nil)))) (d_int))) (fun _ _ _ _ _ => d_var 4)) (a_nil)))))))))
/-! ### _law_pages -/
abbrev tf_law_pages : Stmt := top 30
def bf_law_pages : SM := (sSeq2 (sSet 1 (eA dLst (aCons (eA dLst (aCons (eC (.str "a")) (aCons (eC (.str "b")) (aCons (eC (.str "c")) aNil)))) (aCons (eA dLst (aCons (eC (.str "p")) (aCons (eC (.str "pq")) (aCons (eC (.str "q")) aNil)))) (aCons (eA dLst (aCons (eC (.str "zzzzzzzz")) (aCons (eC (.str "a")) (aCons (eC (.str "ab")) aNil)))) (aCons (eA dLst (aCons (eC (.str "seal")) (aCons (eC (.str "stop")) (aCons (eC (.str "keep")) aNil)))) aNil)))))) (sRet (eCall 2 sf_law_pick (aCons (eV 0) (aCons (e2 (on2 addD) (eV 1) (eA dLst (aCons (eA dLst (aCons (eC (.str "strike")) (aCons (eC (.str "write")) (aCons (eC (.str "free")) aNil)))) (aCons (eA dLst (aCons (eC (.str "point")) (aCons (eC (.str "put")) (aCons (eC (.str "flush")) aNil)))) aNil)))) aNil)))))
def sf_law_pages : List Val → M Val := runF 2 bf_law_pages
theorem scf_law_pages : FnScope ["_law_spring_here", "_law_menu"] ["_law_spring_here"] (defScope tf_law_pages) := ⟨rfl, rfl, rfl, by decide +kernel, rfl, by decide +kernel, by decide +kernel⟩
set_option maxHeartbeats 4000000 in
theorem okf_law_pages (T : Tx K mg w) : OkD P w K cn mg base CX0 3 "_law_pages" ["_law_spring_here"] sf_law_pages := by
  obtain ⟨fd, F⟩ := T.df_law_pages
  exact okD T.mf_law_pages F scf_law_pages (F.bindsN (ps := ["_law_spring_here"]) fun _ _ _ _ _ _ us hl => match us, hl with | [_], _ => rfl) (fun cdv A outer sh H E hr hg => PSs.nox (ss_cons (s_set 1 scf_law_pages.nd (d_lst (a_cons (d_lst (a_cons (d_str) (a_cons (d_str) (a_cons (d_str) (a_nil))))) (a_cons (d_lst (a_cons (d_str) (a_cons (d_str) (a_cons (d_str) (a_nil))))) (a_cons (d_lst (a_cons (d_str) (a_cons (d_str) (a_cons (d_str) (a_nil))))) (a_cons (d_lst (a_cons (d_str) (a_cons (d_str) (a_cons (d_str) (a_nil))))) (a_nil))))))) (ss_one (s_ret (d_call (okf_law_pick T) (hr.mono (by decide)) hg pas0 (a_cons (d_var 0) (a_cons (d_op o_add (d_var 1) (d_lst (a_cons (d_lst (a_cons (d_str) (a_cons (d_str) (a_cons (d_str) (a_nil))))) (a_cons (d_lst (a_cons (d_str) (a_cons (d_str) (a_cons (d_str) (a_nil))))) (a_nil))))) (a_nil))))))))
/-! ### _law_deed -/
abbrev tf_law_deed : Stmt := top 31
def bf_law_deed : SM := (sSeq2 (sSet 2 (eA dLst (aCons (eC (.str "keep")) (aCons (eC (.str "plain")) (aCons (eC (.str "write")) (aCons (eC (.str "free")) (aCons (eC (.str "strike")) (aCons (eC (.str "flush")) (aCons (eC (.str "put")) (aCons (eC (.str "seal")) (aCons (eC (.str "point")) (aCons (eC (.str "stop")) (aCons (eC (.str "end")) aNil))))))))))))) (sSeq2 (sSet 3 (eCall 2 sf_law_pick (aCons (eV 0) (aCons (eV 2) aNil)))) (sSeq2 (sIf (eB (e2 (on2 eqD) (eV 3) (eC (.str "point")))) (sRet (eA dTup (aCons (eV 3) (aCons (eCall 2 sf_law_pick (aCons (eV 0) (aCons (eA dLst (aCons (eC (.int 1)) (aCons (eC (.int 2)) (aCons (eC (.int 9)) (aCons (eC (.int 10)) (aCons (e2 (on2 addD) (eC (.int 1)) (eCall 2 sf_law_dip (aCons (eV 0) (aCons (eC (.int 60)) aNil)))) (aCons (e2 (on2 powD) (eC (.int 10)) (eC (.int 59))) aNil))))))) aNil))) aNil)))) sNil) (sRet (eIf (eB (e2 (on2 inD) (eV 3) (eA dTup (aCons (eC (.str "seal")) (aCons (eC (.str "stop")) (aCons (eC (.str "end")) aNil)))))) (eA dTup (aCons (eV 3) aNil)) (eA dTup (aCons (eV 3) (aCons (eCall 2 sf_law_pick (aCons (eV 0) (aCons (eV 1) aNil))) aNil))))))))
def sf_law_deed : List Val → M Val := runF 4 bf_law_deed
theorem scf_law_deed : FnScope ["_law_spring_here", "_law_pages_here", "_law_words", "_law_word"] ["_law_spring_here", "_law_pages_here"] (defScope tf_law_deed) := ⟨rfl, rfl, rfl, by decide +kernel, rfl, by decide +kernel, by decide +kernel⟩
set_option maxHeartbeats 4000000 in
theorem okf_law_deed (T : Tx K mg w) : OkD P w K cn mg base CX0 3 "_law_deed" ["_law_spring_here", "_law_pages_here"] sf_law_deed := by
  obtain ⟨fd, F⟩ := T.df_law_deed
  exact okD T.mf_law_deed F scf_law_deed (F.bindsN (ps := ["_law_spring_here", "_law_pages_here"]) fun _ _ _ _ _ _ us hl => match us, hl with | [_, _], _ => rfl) (fun cdv A outer sh H E hr hg => PSs.nox (ss_cons (s_set 2 scf_law_deed.nd (d_lst (a_cons (d_str) (a_cons (d_str) (a_cons (d_str) (a_cons (d_str) (a_cons (d_str) (a_cons (d_str) (a_cons (d_str) (a_cons (d_str) (a_cons (d_str) (a_cons (d_str) (a_cons (d_str) (a_nil)))))))))))))) (ss_cons (s_set 3 scf_law_deed.nd (d_call (okf_law_pick T) (hr.mono (by decide)) hg pas0 (a_cons (d_var 0) (a_cons (d_var 2) (a_nil))))) (ss_cons (s_if (t_cmp (o_eq hr.units) (d_var 3) (d_str)) (ss_one (s_ret (d_tup (a_cons (d_var 3) (a_cons (d_call (okf_law_pick T) (hr.mono (by decide)) hg pas0 (a_cons (d_var 0) (a_cons (d_lst (a_cons (d_int) (a_cons (d_int) (a_cons (d_int) (a_cons (d_int) (a_cons (d_op o_add (d_int) (d_call (okf_law_dip T) (hr.mono (by decide)) hg pas0 (a_cons (d_var 0) (a_cons (d_int) (a_nil))))) (a_cons (d_op o_pow (d_int) (d_int)) (a_nil)))))))) (a_nil)))) (a_nil)))))) (ss_nil)) (ss_one (s_ret (d_if (t_cmp (o_in (u65 hr)) (d_var 3) (d_tup (a_cons (d_str) (a_cons (d_str) (a_cons (d_str) (a_nil)))))) (d_tup (a_cons (d_var 3) (a_nil))) (d_tup (a_cons (d_var 3) (a_cons (d_call (okf_law_pick T) (hr.mono (by decide)) hg pas0 (a_cons (d_var 0) (a_cons (d_var 1) (a_nil)))) (a_nil)))))))))))
/-! ### _law_bent -/
abbrev tf_law_bent : Stmt := top 32
def bf_law_bent : SM := (sSeq2 (sPar2 2 3 (aCons (eCall 2 sf_law_dip (aCons (eV 0) (aCons (e2 (on2 addD) (eA (on1L lenD) (aCons (eV 1) aNil)) (eC (.int 1))) aNil))) (aCons (eCall 2 sf_law_dip (aCons (eV 0) (aCons (eC (.int 5)) aNil))) aNil))) (sSeq2 (sSet 4 (eCall 2 sf_law_pick (aCons (eV 0) (aCons (eA dLst (aCons (eC (.int 0)) (aCons (eC (.int 1)) (aCons (e1 (on1 negD) (eC (.int 1))) (aCons (eC (.bool true)) (aCons (eC .none) (aCons (eC (.str "")) (aCons (eC (.str "a")) (aCons (eC (.str "A")) (aCons (eC (.str "abcdefghi")) (aCons (eC (.str "a b")) (aCons (eC (.str "keep")) (aCons (eC (.str "free")) (aCons (eA dTup aNil) (aCons (eC (.str "1")) (aCons (e2 (on2 powD) (eC (.int 10)) (eC (.int 59))) aNil)))))))))))))))) aNil)))) (sSeq2 (sIf (eB (e2 (on2 eqD) (eV 3) (eC (.int 0)))) (sRet (e2 (on2 addD) (e2 (on2 addD) (eSl (eV 1) oN (oS (eV 2))) (eA dTup (aCons (eV 4) aNil))) (eSl (eV 1) (oS (eV 2)) oN))) sNil) (sSeq2 (sIf (eB (e2 (on2 eqD) (eV 3) (eC (.int 1)))) (sRet (e2 (on2 addD) (eSl (eV 1) oN (oS (eV 2))) (eSl (eV 1) (oS (e2 (on2 addD) (eV 2) (eC (.int 1)))) oN))) sNil) (sSeq2 (sIf (eB (e2 (on2 eqD) (eV 3) (eC (.int 2)))) (sRet (eA (on1L listD) (aCons (eV 1) aNil))) sNil) (sRet (eIf (eB (e2 (on2 eqD) (eV 3) (eC (.int 3)))) (e2 (on2 addD) (e2 (on2 addD) (eSl (eV 1) oN (oS (eV 2))) (eA dTup (aCons (eV 4) aNil))) (eSl (eV 1) (oS (e2 (on2 addD) (eV 2) (eC (.int 1)))) oN)) (e1 (on1 revD) (eV 1)))))))))
def sf_law_bent : List Val → M Val := runF 5 bf_law_bent
theorem scf_law_bent : FnScope ["_law_spring_here", "_law_item", "_law_k", "_law_way", "_law_odd"] ["_law_spring_here", "_law_item"] (defScope tf_law_bent) := ⟨rfl, rfl, rfl, by decide +kernel, rfl, by decide +kernel, by decide +kernel⟩
set_option maxHeartbeats 4000000 in
theorem okf_law_bent (T : Tx K mg w) : OkD P w K cn mg base CX0 3 "_law_bent" ["_law_spring_here", "_law_item"] sf_law_bent := by
  obtain ⟨fd, F⟩ := T.df_law_bent
  exact okD T.mf_law_bent F scf_law_bent (F.bindsN (ps := ["_law_spring_here", "_law_item"]) fun _ _ _ _ _ _ us hl => match us, hl with | [_, _], _ => rfl) (fun cdv A outer sh H E hr hg => PSs.nox (ss_cons (s_par2 2 3 rfl scf_law_bent.nd (a_cons (d_call (okf_law_dip T) (hr.mono (by decide)) hg pas0 (a_cons (d_var 0) (a_cons (d_op o_add (d_callB c_len T.f_len PySem.boot_len (a_cons (d_var 1) (a_nil))) (d_int)) (a_nil)))) (a_cons (d_call (okf_law_dip T) (hr.mono (by decide)) hg pas0 (a_cons (d_var 0) (a_cons (d_int) (a_nil)))) (a_nil)))) (ss_cons (s_set 4 scf_law_bent.nd (d_call (okf_law_pick T) (hr.mono (by decide)) hg pas0 (a_cons (d_var 0) (a_cons (d_lst (a_cons (d_int) (a_cons (d_int) (a_cons (d_un o_neg (d_int)) (a_cons (d_bl) (a_cons (d_non) (a_cons (d_str) (a_cons (d_str) (a_cons (d_str) (a_cons (d_str) (a_cons (d_str) (a_cons (d_str) (a_cons (d_str) (a_cons (d_tup (a_nil)) (a_cons (d_str) (a_cons (d_op o_pow (d_int) (d_int)) (a_nil))))))))))))))))) (a_nil))))) (ss_cons (s_if (t_cmp (o_eq hr.units) (d_var 3) (d_int)) (ss_one (s_ret (d_op o_add (d_op o_add (d_sl (d_var 1) (s_none) (s_some (d_var 2))) (d_tup (a_cons (d_var 4) (a_nil)))) (d_sl (d_var 1) (s_some (d_var 2)) (s_none))))) (ss_nil)) (ss_cons (s_if (t_cmp (o_eq hr.units) (d_var 3) (d_int)) (ss_one (s_ret (d_op o_add (d_sl (d_var 1) (s_none) (s_some (d_var 2))) (d_sl (d_var 1) (s_some (d_op o_add (d_var 2) (d_int))) (s_none))))) (ss_nil)) (ss_cons (s_if (t_cmp (o_eq hr.units) (d_var 3) (d_int)) (ss_one (s_ret (d_callT c_list T.f_list PyProof.Rows.boot_list (a_cons (d_var 1) (a_nil))))) (ss_nil)) (ss_one (s_ret (d_if (t_cmp (o_eq hr.units) (d_var 3) (d_int)) (d_op o_add (d_op o_add (d_sl (d_var 1) (s_none) (s_some (d_var 2))) (d_tup (a_cons (d_var 4) (a_nil)))) (d_sl (d_var 1) (s_some (d_op o_add (d_var 2) (d_int))) (s_none))) (d_rev (d_var 1)))))))))))
/-! ### _law_record -/
abbrev tf_law_record : Stmt := top 33
def bf_law_record : SM := (sSeq2 (sPar2 2 3 (aCons (eCall 2 sf_law_pick (aCons (eV 0) (aCons (eA dLst (aCons (eC (.str "keep")) (aCons (eC (.str "write")) (aCons (eC (.str "plain")) (aCons (eC (.str "free")) (aCons (eC (.str "strike")) aNil)))))) aNil))) (aCons (eCall 2 sf_law_pick (aCons (eV 0) (aCons (eV 1) aNil))) aNil))) (sRet (eIf (eB (e2 (on2 inD) (eV 2) (eA dTup (aCons (eC (.str "free")) (aCons (eC (.str "strike")) aNil))))) (eA dTup (aCons (eV 2) (aCons (eV 3) aNil))) (eA dTup (aCons (eV 2) (aCons (eV 3) (aCons (e2 (on2 addD) (eC (.int 1)) (eCall 2 sf_law_dip (aCons (eV 0) (aCons (eC (.int 9)) aNil)))) aNil)))))))
def sf_law_record : List Val → M Val := runF 4 bf_law_record
theorem scf_law_record : FnScope ["_law_spring_here", "_law_pages_here", "_law_word", "_law_page"] ["_law_spring_here", "_law_pages_here"] (defScope tf_law_record) := ⟨rfl, rfl, rfl, by decide +kernel, rfl, by decide +kernel, by decide +kernel⟩
set_option maxHeartbeats 4000000 in
theorem okf_law_record (T : Tx K mg w) : OkD P w K cn mg base CX0 3 "_law_record" ["_law_spring_here", "_law_pages_here"] sf_law_record := by
  obtain ⟨fd, F⟩ := T.df_law_record
  exact okD T.mf_law_record F scf_law_record (F.bindsN (ps := ["_law_spring_here", "_law_pages_here"]) fun _ _ _ _ _ _ us hl => match us, hl with | [_, _], _ => rfl) (fun cdv A outer sh H E hr hg => PSs.nox (ss_cons (s_par2 2 3 rfl scf_law_record.nd (a_cons (d_call (okf_law_pick T) (hr.mono (by decide)) hg pas0 (a_cons (d_var 0) (a_cons (d_lst (a_cons (d_str) (a_cons (d_str) (a_cons (d_str) (a_cons (d_str) (a_cons (d_str) (a_nil))))))) (a_nil)))) (a_cons (d_call (okf_law_pick T) (hr.mono (by decide)) hg pas0 (a_cons (d_var 0) (a_cons (d_var 1) (a_nil)))) (a_nil)))) (ss_one (s_ret (d_if (t_cmp (o_in (u65 hr)) (d_var 2) (d_tup (a_cons (d_str) (a_cons (d_str) (a_nil))))) (d_tup (a_cons (d_var 2) (a_cons (d_var 3) (a_nil)))) (d_tup (a_cons (d_var 2) (a_cons (d_var 3) (a_cons (d_op o_add (d_int) (d_call (okf_law_dip T) (hr.mono (by decide)) hg pas0 (a_cons (d_var 0) (a_cons (d_int) (a_nil))))) (a_nil))))))))))
/-! ### _law_are_right -/
abbrev tf_law_are_right : Stmt := top 34
def bf_law_are_right : SM := (sSeq2 (sSet 1 (eA dLst (aCons (eCall 1 sp_is_integer (aCons (eV 0) aNil)) (aCons (eCall 1 sp_is_number (aCons (eV 0) aNil)) (aCons (eCall 1 sp_is_page (aCons (eV 0) aNil)) (aCons (eCall 1 sp_is_record (aCons (eV 0) aNil)) (aCons (eCall 1 sp_is_deed (aCons (eV 0) aNil)) (aCons (eCall 1 sp_is_rule (aCons (eV 0) aNil)) aNil)))))))) (sSeq2 (sSet 2 (eA dLst (aCons (eCall 1 sf_law_is_integer (aCons (eV 0) aNil)) (aCons (eAnd (eCall 1 sf_law_is_integer (aCons (eV 0) aNil)) (e2 (on2 geD) (eV 0) (eC (.int 0)))) (aCons (eCall 1 sf_law_is_page (aCons (eV 0) aNil)) (aCons (eCall 1 sf_law_is_record (aCons (eV 0) aNil)) aNil)))))) (sRet (e2 (on2 eqD) (eA (on1L reprD) (aCons (eV 1) aNil)) (eA (on1L reprD) (aCons (e2 (on2 addD) (eV 2) (eA dLst (aCons (eCall 1 sf_law_is_deed (aCons (eV 0) aNil)) (aCons (eCall 1 sf_law_is_rule (aCons (eV 0) aNil)) aNil)))) aNil))))))
def sf_law_are_right : List Val → M Val := runF 3 bf_law_are_right
theorem scf_law_are_right : FnScope ["_law_item", "_law_told", "_law_due"] ["_law_item"] (defScope tf_law_are_right) := ⟨rfl, rfl, rfl, by decide +kernel, rfl, by decide +kernel, by decide +kernel⟩
set_option maxHeartbeats 4000000 in
theorem okf_law_are_right (T : Tx K mg w) : OkD P w K cn mg base CX0 4 "_law_are_right" ["_law_item"] sf_law_are_right := by
  obtain ⟨fd, F⟩ := T.df_law_are_right
  exact okD T.mf_law_are_right F scf_law_are_right (F.bindsN (ps := ["_law_item"]) fun _ _ _ _ _ _ us hl => match us, hl with | [_], _ => rfl) (fun cdv A outer sh H E hr hg => PSs.nox (ss_cons (s_set 1 scf_law_are_right.nd (d_lst (a_cons (d_call (okp_is_integer T) (hr.mono (by decide)) hg pas0 (a_cons (d_var 0) (a_nil))) (a_cons (d_call (okp_is_number T) (hr.mono (by decide)) hg pas0 (a_cons (d_var 0) (a_nil))) (a_cons (d_call (okp_is_page T) (hr.mono (by decide)) hg pas0 (a_cons (d_var 0) (a_nil))) (a_cons (d_call (okp_is_record T) (hr.mono (by decide)) hg pas0 (a_cons (d_var 0) (a_nil))) (a_cons (d_call (okp_is_deed T) (hr.mono (by decide)) hg pas0 (a_cons (d_var 0) (a_nil))) (a_cons (d_call (okp_is_rule T) (hr.mono (by decide)) hg pas0 (a_cons (d_var 0) (a_nil))) (a_nil))))))))) (ss_cons (s_set 2 scf_law_are_right.nd (d_lst (a_cons (d_call (okf_law_is_integer T) (hr.mono (by decide)) hg pas0 (a_cons (d_var 0) (a_nil))) (a_cons (d_and (d_call (okf_law_is_integer T) (hr.mono (by decide)) hg pas0 (a_cons (d_var 0) (a_nil))) (d_one (d_cmp o_ge (d_var 0) (d_int)))) (a_cons (d_call (okf_law_is_page T) (hr.mono (by decide)) hg pas0 (a_cons (d_var 0) (a_nil))) (a_cons (d_call (okf_law_is_record T) (hr.mono (by decide)) hg pas0 (a_cons (d_var 0) (a_nil))) (a_nil))))))) (ss_one (s_ret (d_cmp (o_eq hr.units) (d_callB (c_repr hg hr.units) T.f_repr PyProof.Rows.boot_repr (a_cons (d_var 1) (a_nil))) (d_callB (c_repr hg hr.units) T.f_repr PyProof.Rows.boot_repr (a_cons (d_op o_add (d_var 2) (d_lst (a_cons (d_call (okf_law_is_deed T) (hr.mono (by decide)) hg pas0 (a_cons (d_var 0) (a_nil))) (a_cons (d_call (okf_law_is_rule T) (hr.mono (by decide)) hg pas0 (a_cons (d_var 0) (a_nil))) (a_nil))))) (a_nil)))))))))
/-! ### law -/
abbrev tp_law : Stmt := top 35
def bp_law : SM := (sSeq2 (sSet 1 (eCall 1 sf_law_spring (aCons (eV 0) aNil))) (sSeq2 (sPar2 2 3 (aCons (eCall 1 sf_law_pages (aCons (eV 1) aNil)) (aCons (eA dLstN (aCons (eC .none) (aCons (eC (.bool true)) (aCons (eC (.bool false)) (aCons (eC (.int 0)) (aCons (eC (.int 1)) (aCons (e1 (on1 negD) (eC (.int 1))) (aCons (e2 (on2 powD) (eC (.int 10)) (eC (.int 59))) (aCons (eC (.str "")) (aCons (eC (.str "a")) (aCons (eC (.str "abcdefgh")) (aCons (eC (.str "abcdefghi")) aNil)))))))))))) aNil))) (sSeq2 (sExpr (eExt (eV 3) (eA dLst (aCons (eC (.str "aB")) (aCons (eC (.str "a1")) (aCons (eC (.str "-")) (aCons (eA dTup aNil) (aCons (eA dLst aNil) (aCons (eA dTup (aCons (eC (.str "seal")) aNil)) (aCons (eA dLst (aCons (eC (.str "seal")) aNil)) (aCons (eA dTup (aCons (eC (.str "seal")) (aCons (eC (.str "a")) aNil))) (aCons (eA dTup (aCons (eC (.str "point")) (aCons (eC (.int 0)) aNil))) (aCons (eA dTup (aCons (eC (.str "point")) (aCons (eC (.bool true)) aNil))) aNil))))))))))))) (sSeq2 (sExpr (eExt (eV 3) (eA dLst (aCons (eA dTup (aCons (eC (.str "point")) (aCons (eC (.str "1")) aNil))) (aCons (eA dTup (aCons (eC (.str "keep")) aNil)) (aCons (eA dTup (aCons (eC (.str "stop")) aNil)) (aCons (eA dTup (aCons (eC (.str "keep")) (aCons (eC (.str "a")) (aCons (eC (.int 1)) aNil)))) (aCons (eA dTup (aCons (eC (.str "keep")) (aCons (eC (.str "a")) (aCons (eC (.int 0)) aNil)))) (aCons (eA dTup (aCons (eC (.str "keep")) (aCons (eC (.str "a")) (aCons (eC (.bool true)) aNil)))) aNil))))))))) (sSeq2 (sExpr (eExt (eV 3) (eA dLst (aCons (eA dTup (aCons (eC (.str "free")) (aCons (eC (.str "a")) (aCons (eC (.int 1)) aNil)))) (aCons (eA dTup (aCons (eC (.str "write")) (aCons (eC (.str "a")) aNil))) (aCons (eA dTup (aCons (eC (.str "Keep")) (aCons (eC (.str "a")) (aCons (eC (.int 1)) aNil)))) (aCons (eA dTup (aCons (eC (.str "ahead")) (aCons (eC (.str "ahead")) aNil))) (aCons (eA dTup (aCons (eC (.str "dead")) (aCons (eC (.str "ahead")) aNil))) aNil)))))))) (sSeq2 (sExpr (eExt (eV 3) (eA dLst (aCons (eA dTup (aCons (eC (.str "ahead")) (aCons (eC (.str "dead")) aNil))) (aCons (eA dTup (aCons (eC (.str "ahead")) (aCons (eC .none) aNil))) (aCons (eC (.str "ahead")) (aCons (eA dTup (aCons (eC (.str "old")) aNil)) (aCons (eA dTup (aCons (eA dTup (aCons (eC (.str "ahead")) aNil)) aNil)) aNil)))))))) (sSeq2 (sFor (sRng1 (aCons (eC (.int 6)) aNil)) (gN 4) (sSeq2 (sSet 5 (eA dLst (aCons (eCall 2 sf_law_deed (aCons (eV 1) (aCons (eV 2) aNil))) (aCons (eCall 2 sf_law_record (aCons (eV 1) (aCons (eV 2) aNil))) (aCons (eCall 1 sf_law_rule (aCons (eV 1) aNil)) aNil))))) (sExpr (eExt (eV 3) (e2 (on2 addD) (eV 5) (eLc (sSeq (eV 5)) [7] (gN 7) tTrue (eCall 2 sf_law_bent (aCons (eV 1) (aCons (eV 7) aNil))))))))) (sSeq2 (sIf (eB (e2 (on2 neD) (eLc (sSeq (eV 3)) [8] (gN 8) (tN (eT (eCall 1 sf_law_are_right (aCons (eV 8) aNil)))) (eV 8)) (eA dLst aNil))) (sRet (eC (.bool false))) sNil) (sSeq2 (sSet 6 (eA dLstN (aCons (eCallK 1 1 [0] sp_is_integer (aCons (eC (.int 1)) aNil)) (aCons (eCallK 1 1 [0] sp_is_number (aCons (eC (.int 1)) aNil)) (aCons (eCallK 1 1 [0] sp_is_page (aCons (eC (.str "a")) aNil)) (aCons (eCallK 1 1 [0] sp_is_record (aCons (eA dTup (aCons (eC (.str "free")) (aCons (eC (.str "a")) aNil))) aNil)) aNil)))))) (sSeq2 (sExpr (eExt (eV 6) (eA dLst (aCons (eCallK 1 1 [0] sp_is_deed (aCons (eA dTup (aCons (eC (.str "end")) aNil)) aNil)) (aCons (eCallK 1 1 [0] sp_is_rule (aCons (eA dTup aNil) aNil)) aNil))))) (sRet (e2 (on2 eqD) (eA (on1L reprD) (aCons (eA dLst (aCons (eC c_GUARDS) (aCons (eC c_HARMS) (aCons (eV 6) aNil)))) aNil)) (eA (on1L reprD) (aCons (eA dLst (aCons (eA (on1L tupleD) (aCons (eCall 0 sf_law_guards aNil) aNil)) (aCons (eA dTup (aCons (eC (.str "old")) (aCons (eC (.str "missed")) (aCons (eC (.str "open")) aNil)))) (aCons (e2 (on2 mulD) (eA dLst (aCons (eC (.bool true)) aNil)) (eC (.int 6))) aNil)))) aNil))))))))))))))
def sp_law : List Val → M Val := runF 9 bp_law
theorem scp_law : FnScope ["_law_script", "_law_spring_here", "_law_pages_here", "_law_items", "_law_lap", "_law_made", "_law_told", "_law_one", "_law_item"] ["_law_script"] (defScope tp_law) := ⟨rfl, rfl, rfl, by decide +kernel, rfl, by decide +kernel, by decide +kernel⟩
set_option maxHeartbeats 4000000 in
theorem okp_law (T : Tx K mg w) : OkD P w K cn mg base CX0 5 "law" ["_law_script"] sp_law := by
  obtain ⟨fd, F⟩ := T.dp_law
  exact okD T.mp_law F scp_law (F.bindsN (ps := ["_law_script"]) fun _ _ _ _ _ _ us hl => match us, hl with | [_], _ => rfl) (fun cdv A outer sh H E hr hg => PSs.nox (ss_cons (s_set 1 scp_law.nd (d_call (okf_law_spring T) (hr.mono (by decide)) hg pas0 (a_cons (d_var 0) (a_nil)))) (ss_cons (s_par2 2 3 rfl scp_law.nd (a_cons (d_call (okf_law_pages T) (hr.mono (by decide)) hg pas0 (a_cons (d_var 1) (a_nil))) (a_cons (d_lstN (a_cons (d_non) (a_cons (d_bl) (a_cons (d_bl) (a_cons (d_int) (a_cons (d_int) (a_cons (d_un o_neg (d_int)) (a_cons (d_op o_pow (d_int) (d_int)) (a_cons (d_str) (a_cons (d_str) (a_cons (d_str) (a_cons (d_str) (a_nil))))))))))))) (a_nil)))) (ss_cons (s_expr (d_extend (d_var 3) (d_lst (a_cons (d_str) (a_cons (d_str) (a_cons (d_str) (a_cons (d_tup (a_nil)) (a_cons (d_lst (a_nil)) (a_cons (d_tup (a_cons (d_str) (a_nil))) (a_cons (d_lst (a_cons (d_str) (a_nil))) (a_cons (d_tup (a_cons (d_str) (a_cons (d_str) (a_nil)))) (a_cons (d_tup (a_cons (d_str) (a_cons (d_int) (a_nil)))) (a_cons (d_tup (a_cons (d_str) (a_cons (d_bl) (a_nil)))) (a_nil)))))))))))))) (ss_cons (s_expr (d_extend (d_var 3) (d_lst (a_cons (d_tup (a_cons (d_str) (a_cons (d_str) (a_nil)))) (a_cons (d_tup (a_cons (d_str) (a_nil))) (a_cons (d_tup (a_cons (d_str) (a_nil))) (a_cons (d_tup (a_cons (d_str) (a_cons (d_str) (a_cons (d_int) (a_nil))))) (a_cons (d_tup (a_cons (d_str) (a_cons (d_str) (a_cons (d_int) (a_nil))))) (a_cons (d_tup (a_cons (d_str) (a_cons (d_str) (a_cons (d_bl) (a_nil))))) (a_nil)))))))))) (ss_cons (s_expr (d_extend (d_var 3) (d_lst (a_cons (d_tup (a_cons (d_str) (a_cons (d_str) (a_cons (d_int) (a_nil))))) (a_cons (d_tup (a_cons (d_str) (a_cons (d_str) (a_nil)))) (a_cons (d_tup (a_cons (d_str) (a_cons (d_str) (a_cons (d_int) (a_nil))))) (a_cons (d_tup (a_cons (d_str) (a_cons (d_str) (a_nil)))) (a_cons (d_tup (a_cons (d_str) (a_cons (d_str) (a_nil)))) (a_nil))))))))) (ss_cons (s_expr (d_extend (d_var 3) (d_lst (a_cons (d_tup (a_cons (d_str) (a_cons (d_str) (a_nil)))) (a_cons (d_tup (a_cons (d_str) (a_cons (d_non) (a_nil)))) (a_cons (d_str) (a_cons (d_tup (a_cons (d_str) (a_nil))) (a_cons (d_tup (a_cons (d_tup (a_cons (d_str) (a_nil))) (a_nil))) (a_nil))))))))) (ss_cons (s_for (ps := [4]) PassesOwn.never rfl (i_rng1 T.f_range (a_cons (d_int) (a_nil))) (g_name 4 scp_law.nd (by simp)) (ss_cons (s_set 5 scp_law.nd (d_lst (a_cons (d_call (okf_law_deed T) (hr.mono (by decide)) hg pas0 (a_cons (d_var 1) (a_cons (d_var 2) (a_nil)))) (a_cons (d_call (okf_law_record T) (hr.mono (by decide)) hg pas0 (a_cons (d_var 1) (a_cons (d_var 2) (a_nil)))) (a_cons (d_call (okf_law_rule T) (hr.mono (by decide)) hg pas0 (a_cons (d_var 1) (a_nil))) (a_nil)))))) (ss_one (s_expr (d_extend (d_var 3) (d_op o_add (d_var 5) (d_lc (own := [("_law_one", 7)]) (ps := [7]) rfl scp_law.nd (i_seq (d_var 5)) (blkOk_by (N := ["_law_script", "_law_spring_here", "_law_pages_here", "_law_items", "_law_lap", "_law_made", "_law_told", "_law_one", "_law_item"]) (sc := defScope tp_law) (by decide +kernel)) (by simp) (fun _ _ _ _ _ => g_name 7 scp_law.nd (by simp)) (fun _ _ _ _ _ => c_nil) (fun _ _ _ _ _ => d_call (okf_law_bent T) (hr.mono (by decide)) hg pas0 (a_cons (d_var 1) (a_cons (d_var 7) (a_nil))))))))))) (ss_cons (s_if (t_cmp (o_ne hr.units) (d_lc (own := [("_law_item", 8)]) (ps := [8]) rfl scp_law.nd (i_seq (d_var 3)) (blkOk_by (N := ["_law_script", "_law_spring_here", "_law_pages_here", "_law_items", "_law_lap", "_law_made", "_law_told", "_law_one", "_law_item"]) (sc := defScope tp_law) (by decide +kernel)) (by simp) (fun _ _ _ _ _ => g_name 8 scp_law.nd (by simp)) (fun _ _ _ _ _ => c_one (t_not (t_val (d_call (okf_law_are_right T) (hr.mono (by decide)) hg pas0 (a_cons (d_var 8) (a_nil)))))) (fun _ _ _ _ _ => d_var 8)) (d_lst (a_nil))) (ss_one (s_ret (d_bl))) (ss_nil)) (ss_cons (s_set 6 scp_law.nd (d_lstN (a_cons (d_callK (okKp_is_integer_0 T) (hr.mono (by decide)) hg pas0 (k_cons (d_int) (k_nil))) (a_cons (d_callK (okKp_is_number_0 T) (hr.mono (by decide)) hg pas0 (k_cons (d_int) (k_nil))) (a_cons (d_callK (okKp_is_page_0 T) (hr.mono (by decide)) hg pas0 (k_cons (d_str) (k_nil))) (a_cons (d_callK (okKp_is_record_0 T) (hr.mono (by decide)) hg pas0 (k_cons (d_tup (a_cons (d_str) (a_cons (d_str) (a_nil)))) (k_nil))) (a_nil))))))) (ss_cons (s_expr (d_extend (d_var 6) (d_lst (a_cons (d_callK (okKp_is_deed_0 T) (hr.mono (by decide)) hg pas0 (k_cons (d_tup (a_cons (d_str) (a_nil))) (k_nil))) (a_cons (d_callK (okKp_is_rule_0 T) (hr.mono (by decide)) hg pas0 (k_cons (d_tup (a_nil)) (k_nil))) (a_nil)))))) (ss_one (s_ret (d_cmp (o_eq hr.units) (d_callB (c_repr hg hr.units) T.f_repr PyProof.Rows.boot_repr (a_cons (d_lst (a_cons (d_glob T.g_GUARDS) (a_cons (d_glob T.g_HARMS) (a_cons (d_var 6) (a_nil))))) (a_nil))) (d_callB (c_repr hg hr.units) T.f_repr PyProof.Rows.boot_repr (a_cons (d_lst (a_cons (d_callT c_tuple T.f_tuple PyProof.Rows.boot_tuple (a_cons (d_call0 (okf_law_guards T) (hr.mono (by decide)) hg pas0) (a_nil))) (a_cons (d_tup (a_cons (d_str) (a_cons (d_str) (a_cons (d_str) (a_nil))))) (a_cons (d_op o_mul (d_lst (a_cons (d_bl) (a_nil))) (d_int)) (a_nil))))) (a_nil)))))))))))))))))
end PLaw

set_option Elab.async false
set_option linter.all false
set_option maxRecDepth 100000
namespace PLaw
open PySem PySem.Spec L2 PL
open PyProof.Rows hiding St
theorem pureOf {x : M Val} {st : Sto} {b : Val} (h : W x st fun v s => v = b ∧ s = st) : x st = .ok b st := by
  obtain ⟨a, s, e, rfl, rfl⟩ := h
  exact e
theorem kit_str (d : PyData) : kitB (tyN d) "str" = some (match d with | .str _ => true | _ => false) := by cases d <;> rfl
theorem kit_tuple (d : PyData) : kitB (tyN d) "tuple" = some (match d with | .tuple _ => true | _ => false) := by cases d <;> rfl
theorem kit_bool (d : PyData) : kitB (tyN d) "bool" = some (match d with | .bool _ => true | _ => false) := by cases d <;> rfl
theorem kit_int (d : PyData) : kitB (tyN d) "int" = some (match d with | .int _ => true | .bool _ => true | _ => false) := by cases d <;> rfl
def intB (d : PyData) : Bool := match d with | .int _ => true | _ => false
def numB (d : PyData) : Bool := match d with | .int i => decide (0 ≤ i) | _ => false
def cntB (d : PyData) : Bool := match d with | .int i => decide (1 ≤ i) | _ => false
def lowB (c : Nat) : Bool := decide (97 ≤ c) && decide (c ≤ 122)
def pgS (x : Str) : Bool := decide (1 ≤ x.length) && (decide (x.length ≤ 8) && x.cps.toList.all lowB)
def pgB (d : PyData) : Bool := match d with | .str x => pgS x | _ => false
def wd1 (d : PyData) : Str := match d with | .tuple (.str x :: _) => x | _ => ""
def sIn (x : Str) (ws : List Str) : Bool := ws.any fun z => z == x
def wordIn (d : PyData) (ws : List Str) : Bool := match d with | .str x => sIn x ws | _ => false
theorem any_str (ws : List Str) (x : Str) : ((ws.map PyData.str).any fun z => PyData.eqv z (.str x)) = sIn x ws := by
  induction ws with
  | nil => rfl
  | cons w r ih => simp only [List.map_cons, List.any_cons, ih, sIn, PyData.eqv]
theorem sh0 {x : Str} (h : PyData.strOk x = true) : SeqAt.shaped (.str x) = true := by simp [SeqAt.shaped, PyData.canLay0, PyData.depth, h]
theorem shI (i : Int) : SeqAt.shaped (.int i) = true := by simp [SeqAt.shaped, PyData.canLay0, PyData.depth]
theorem shLit (x : String) : SeqAt.shaped (.str (Str.ofString x)) = true := sh0 (ok_ofS x)
theorem int_p (d : PyData) (st : Sto) : sp_is_integer [.dat d] st = .ok (.dat (.bool (intB d))) st := by
  apply pureOf
  unfold sp_is_integer bp_is_integer
  cases d <;> simp [kit_int, kit_bool, intB]
theorem W_int_p {d : PyData} {st : Sto} {Q : Val → Sto → Prop} : W (sp_is_integer [.dat d]) st Q ↔ Q (.dat (.bool (intB d))) st := W_ok (int_p d st)
theorem num_p (d : PyData) (st : Sto) : sp_is_number [.dat d] st = .ok (.dat (.bool (numB d))) st := by
  apply pureOf
  unfold sp_is_number bp_is_number
  cases d <;> simp [W_int_p, intB, numB]
theorem W_num_p {d : PyData} {st : Sto} {Q : Val → Sto → Prop} : W (sp_is_number [.dat d]) st Q ↔ Q (.dat (.bool (numB d))) st := W_ok (num_p d st)
theorem cnt_p (d : PyData) (st : Sto) : sp_is_count [.dat d] st = .ok (.dat (.bool (cntB d))) st := by
  apply pureOf
  unfold sp_is_count bp_is_count
  cases d <;> simp [W_int_p, intB, cntB]
theorem W_cnt_p {d : PyData} {st : Sto} {Q : Val → Sto → Prop} : W (sp_is_count [.dat d]) st Q ↔ Q (.dat (.bool (cntB d))) st := W_ok (cnt_p d st)
theorem low_in (c : Nat) : subText ⟨#[c]⟩ "abcdefghijklmnopqrstuvwxyz" = lowB c := by
  unfold subText
  rw [show (⟨#[c]⟩ : Str) = ⟨#[c]⟩ from rfl, StrLaws.found_one]
  have e : (Str.ofString "abcdefghijklmnopqrstuvwxyz").cps.toList = [97, 98, 99, 100, 101, 102, 103, 104, 105, 106, 107, 108, 109, 110, 111, 112, 113, 114, 115, 116, 117, 118, 119, 120, 121, 122] := by decide +kernel
  rw [e]
  unfold lowB
  rw [Bool.eq_iff_iff]
  simp
  omega
theorem bools_map {α : Type} (f : α → Bool) (l : List α) : bools (l.map fun x => PyData.bool (f x)) = some (l.map f) := by
  induction l with
  | nil => rfl
  | cons x r ih => simp [bools, ih]
theorem shC {x : Str} (h : PyData.strOk x = true) {c : Nat} (hc : c ∈ x.cps.toList) : PyData.strOk ⟨#[c]⟩ = true := by
  unfold PyData.strOk at h ⊢
  rw [Array.all_eq_true'] at h
  have := h c (by simpa using hc)
  simpa using this
@[simp] theorem W_lenS {x : Str} {st : Sto} {Q : Val → Sto → Prop} : W (lenD (.str x)) st Q ↔ x.length ≤ sizeLine ∧ Q (.dat (.int x.length)) st := by
  unfold lenD; simp only [W_chk, W_bI, decide_eq_true_eq]
@[simp] theorem W_inS {x y : Str} {st : Sto} {Q : Val → Sto → Prop} : W (inD (.str x) (.str y)) st Q ↔ Q (.dat (.bool (subText x y))) st := W_ret
@[simp] theorem W_eCh {g g' : Val → Val → M Val} {f1 f2 f3 : Ev → M Val} {ρ : Ev} {st : Sto} {Q : Val → Sto → Prop} : W (eCh g g' f1 f2 f3 ρ) st Q ↔ W (f1 ρ) st fun x s1 => W (f2 ρ) s1 fun y s2 => W (g x y) s2 fun z s3 => W (asB z) s3 fun b s4 => W (if b then bnd (f3 ρ) fun w => g' y w else bB false) s4 Q := by
  unfold eCh; simp only [W_bnd]
theorem page_p {k n : Nat} {d : PyData} (h : Gd k n d) (hn : n ≤ 16777216) (st : Sto) : sp_is_page [.dat d] st = .ok (.dat (.bool (pgB d))) st := by
  apply pureOf
  unfold sp_is_page bp_is_page
  cases d with
  | str x =>
    have hl : x.length ≤ 16777216 := Nat.le_trans h.txt.len hn
    have key : ∀ {ρ0 : Option Val} {st : Sto} {Q : List PyData → Sto → Prop}, W (compGo [ρ0, none] [1] (gN 1) tTrue (e2 (on2 inD) (eV 1) (eC c_LOWERCASE)) (PL.signs x)) st Q ↔ Q (((x.cps.toList.map lowB)).map PyData.bool) st := fun {ρ0 st Q} => by
      rw [cg_pure (c := fun _ => true) (g := fun d => match d with | .str y => .bool (subText y "abcdefghijklmnopqrstuvwxyz") | _ => .none)]
      · rw [List.filter_eq_self.mpr (by simp)]
        unfold PL.signs
        rw [List.map_map, List.map_map]
        have : (x.cps.toList.map ((fun d => match d with | PyData.str y => PyData.bool (subText y "abcdefghijklmnopqrstuvwxyz") | _ => .none) ∘ fun c => PyData.str ⟨#[c]⟩)) = x.cps.toList.map (PyData.bool ∘ lowB) := List.map_congr_left fun c _ => by simp [low_in]
        rw [this]
      · intro d hd
        unfold PL.signs at hd
        obtain ⟨c, hc, rfl⟩ := List.mem_map.mp hd
        exact ⟨_, rfl, fun st Q => by simp, fun _ st Q => by simp [wipeE, c_LOWERCASE]⟩
    by_cases h1 : 1 ≤ x.length
    · by_cases h2 : x.length ≤ 8
      · have e1 : (1 : Int) ≤ (x.length : Int) := by omega
        have e2 : (x.length : Int) ≤ 8 := by omega
        have e3 : x.cps.toList.length ≤ 16777216 := by simpa [Str.length] using hl
        have e4 : (PL.signs x).length ≤ 16777216 := by unfold PL.signs; simpa using e3
        have e5 : bools (x.cps.toList.map (PyData.bool ∘ lowB)) = some (x.cps.toList.map lowB) := bools_map lowB _
        simp [kit_str, tru, sizeLine, hl, e1, e2, c_LONGEST, key, e4, e5, pgB, pgS, h1, h2]
      · have e1 : (1 : Int) ≤ (x.length : Int) := by omega
        have e2 : ¬ (x.length : Int) ≤ 8 := by omega
        simp [kit_str, tru, sizeLine, hl, e1, e2, c_LONGEST, pgB, pgS, h1, h2]
    · have e1 : ¬ (1 : Int) ≤ (x.length : Int) := by omega
      simp [kit_str, tru, sizeLine, hl, e1, pgB, pgS, h1]
  | _ => simp [kit_str, tru, pgB]
theorem W_page_p {k n : Nat} {d : PyData} {st : Sto} {Q : Val → Sto → Prop} (h : Gd k n d) (hn : n ≤ 16777216) : W (sp_is_page [.dat d]) st Q ↔ Q (.dat (.bool (pgB d))) st := W_ok (page_p h hn st)
theorem fw_p (d : PyData) (st : Sto) : sp_first_word [.dat d] st = .ok (.dat (.str (wd1 d))) st := by
  apply pureOf
  unfold sp_first_word bp_first_word
  cases d with
  | tuple ds =>
    cases ds with
    | nil => simp [kit_tuple, tru, wd1, shI, PyData.eqv]
    | cons a r =>
      have q : ¬ ((r.length : Int) + 1 = 0) := by omega
      cases a <;> simp [kit_tuple, kit_str, tru, wd1, shI, PyData.eqv, q]
  | _ => simp [kit_tuple, tru, wd1]
theorem W_fw_p {d : PyData} {st : Sto} {Q : Val → Sto → Prop} : W (sp_first_word [.dat d]) st Q ↔ Q (.dat (.str (wd1 d))) st := W_ok (fw_p d st)
theorem wd1_ok {k n : Nat} {d : PyData} (h : Gd k n d) : PyData.strOk (wd1 d) = true := by
  unfold wd1
  split
  · exact (h.inT _ (by simp)).txt.ok
  · exact ok_ofS ""
theorem W_inWs {ws : List Str} {w : Str} {st : Sto} {Q : Val → Sto → Prop} (hw : PyData.strOk w = true) (hs : SeqAt.shaped (.tuple (ws.map .str)) = true) : W (inD (.str w) (.tuple (ws.map .str))) st Q ↔ Q (.dat (.bool (sIn w ws))) st := by
  rw [W_inT, any_str]
  exact ⟨fun h => h.2, fun h => ⟨⟨sh0 hw, hs⟩, h⟩⟩
def numW : List Str := ["keep", "write", "plain"]
def plnW : List Str := ["free", "strike"]
theorem W_inNum {w : Str} {st : Sto} {Q : Val → Sto → Prop} (hw : PyData.strOk w = true) : W (inD (.str w) c_NUMBERED_RECORDS) st Q ↔ Q (.dat (.bool (sIn w numW))) st := W_inWs (ws := numW) hw (by decide +kernel)
theorem W_inPln {w : Str} {st : Sto} {Q : Val → Sto → Prop} (hw : PyData.strOk w = true) : W (inD (.str w) c_PLAIN_RECORDS) st Q ↔ Q (.dat (.bool (sIn w plnW))) st := W_inWs (ws := plnW) hw (by decide +kernel)
def recB (d : PyData) : Bool := match d with
  | .tuple [.str w, p, c] => sIn w numW && (pgB p && cntB c)
  | .tuple [.str w, p] => sIn w plnW && pgB p
  | _ => false
theorem num_pln {w : Str} (h : sIn w numW = true) : sIn w plnW = false := by
  simp [sIn, numW, plnW] at h ⊢
  rcases h with rfl | rfl | rfl <;> decide +kernel
theorem sIn0 : sIn "" numW = false ∧ sIn "" plnW = false := by decide +kernel
set_option maxHeartbeats 4000000 in
theorem rec_p {k n : Nat} {d : PyData} (h : Gd k n d) (hn : n ≤ 16777216) (st : Sto) : sp_is_record [.dat d] st = .ok (.dat (.bool (recB d))) st := by
  apply pureOf
  unfold sp_is_record bp_is_record
  have hw0 := wd1_ok h
  have i0 := sIn0.1
  have i1 := sIn0.2
  have o0 := ok_ofS ""
  by_cases hd : ∃ w r, d = .tuple (.str w :: r)
  · obtain ⟨w, r, rfl⟩ := hd
    have hw : PyData.strOk w = true := hw0
    clear hw0
    have e0 : wd1 (.tuple (.str w :: r)) = w := rfl
    cases hN : sIn w numW with
    | true =>
      have hP := num_pln hN
      by_cases hl : r.length = 2
      · match r, hl, h with
        | [p, c], _, h =>
          have gp := h.inT p (by simp)
          cases hpg : pgB p <;> simp [W_fw_p, e0, W_inNum, W_inPln, hw, hN, hP, shI, PyData.eqv, W_page_p gp hn, W_cnt_p, recB, hpg, tru]
      · have q : ¬ ((r.length : Int) + 1 = 3) := by omega
        have e1 : recB (.tuple (.str w :: r)) = false := by
          match r, hl with
          | [], _ => rfl
          | [p], _ => simp [recB, hP]
          | p :: c :: e :: r, _ => rfl
        simp [W_fw_p, e0, W_inNum, W_inPln, hw, hN, hP, shI, PyData.eqv, e1, q, tru]
    | false =>
      cases hP : sIn w plnW with
      | true =>
        by_cases hl : r.length = 1
        · match r, hl, h with
          | [p], _, h =>
            have gp := h.inT p (by simp)
            simp [W_fw_p, e0, W_inNum, W_inPln, hw, hN, hP, shI, PyData.eqv, W_page_p gp hn, recB, tru]
        · have q : ¬ ((r.length : Int) + 1 = 2) := by omega
          have e1 : recB (.tuple (.str w :: r)) = false := by
            match r, hl with
            | [], _ => rfl
            | [p, c], _ => simp [recB, hN]
            | p :: c :: e :: r, _ => rfl
          simp [W_fw_p, e0, W_inNum, W_inPln, hw, hN, hP, shI, PyData.eqv, e1, q, tru]
      | false =>
        have e1 : recB (.tuple (.str w :: r)) = false := by
          match r with
          | [] => rfl
          | [p] => simp [recB, hP]
          | [p, c] => simp [recB, hN]
          | p :: c :: e :: r => rfl
        simp [W_fw_p, e0, W_inNum, W_inPln, hw, hN, hP, shI, PyData.eqv, e1, tru]
  · have e0 : wd1 d = "" := by
      unfold wd1
      split
      · exact (hd ⟨_, _, rfl⟩).elim
      · rfl
    have e1 : recB d = false := by
      unfold recB
      split
      · exact (hd ⟨_, _, rfl⟩).elim
      · exact (hd ⟨_, _, rfl⟩).elim
      · rfl
    simp [W_fw_p, e0, e1, W_inNum, W_inPln, o0, i0, i1, tru]
theorem W_rec_p {k n : Nat} {d : PyData} {st : Sto} {Q : Val → Sto → Prop} (h : Gd k n d) (hn : n ≤ 16777216) : W (sp_is_record [.dat d]) st Q ↔ Q (.dat (.bool (recB d))) st := W_ok (rec_p h hn st)
def lonW : List Str := ["seal", "stop", "end"]
def pagW : List Str := ["keep", "plain", "write", "free", "strike", "flush", "put"]
theorem W_inLon {w : Str} {st : Sto} {Q : Val → Sto → Prop} (hw : PyData.strOk w = true) : W (inD (.str w) c_LONE_DEEDS) st Q ↔ Q (.dat (.bool (sIn w lonW))) st := W_inWs (ws := lonW) hw (by decide +kernel)
theorem W_inPag {w : Str} {st : Sto} {Q : Val → Sto → Prop} (hw : PyData.strOk w = true) : W (inD (.str w) c_PAGE_DEEDS) st Q ↔ Q (.dat (.bool (sIn w pagW))) st := W_inWs (ws := pagW) hw (by decide +kernel)
def deedB (d : PyData) : Bool := match d with
  | .tuple [.str w] => sIn w lonW
  | .tuple [.str w, p] => if w = "point" then cntB p else sIn w pagW && pgB p
  | _ => false
theorem lon_pag {w : Str} (h : sIn w lonW = true) : sIn w pagW = false ∧ w ≠ "point" := by
  simp [sIn, lonW] at h
  rcases h with rfl | rfl | rfl <;> decide +kernel
theorem sIn1 : sIn "" lonW = false ∧ sIn "" pagW = false := by decide +kernel
set_option maxHeartbeats 4000000 in
theorem deed_p {k n : Nat} {d : PyData} (h : Gd k n d) (hn : n ≤ 16777216) (st : Sto) : sp_is_deed [.dat d] st = .ok (.dat (.bool (deedB d))) st := by
  apply pureOf
  unfold sp_is_deed bp_is_deed
  have hw0 := wd1_ok h
  have i0 := sIn1.1
  have i1 := sIn1.2
  have o0 := ok_ofS ""
  have sp := shLit "point"
  by_cases hd : ∃ w r, d = .tuple (.str w :: r)
  · obtain ⟨w, r, rfl⟩ := hd
    have hw : PyData.strOk w = true := hw0
    clear hw0
    have sw := sh0 hw
    have e0 : wd1 (.tuple (.str w :: r)) = w := rfl
    cases hL : sIn w lonW with
    | true =>
      obtain ⟨hP, hpt⟩ := lon_pag hL
      by_cases hl : r.length = 0
      · match r, hl with
        | [], _ => simp [W_fw_p, e0, W_inLon, W_inPag, hw, hL, hP, shI, PyData.eqv, deedB, tru]
      · have q : ¬ ((r.length : Int) + 1 = 1) := by omega
        have hl' : ¬ r = [] := fun e => hl (by rw [e]; rfl)
        have e1 : deedB (.tuple (.str w :: r)) = false := by
          match r, hl with
          | [p], _ => simp [deedB, hP, hpt]
          | p :: c :: r, _ => rfl
        simp [W_fw_p, e0, W_inLon, W_inPag, hw, hL, hP, shI, PyData.eqv, e1, q, hl', tru]
    | false =>
      by_cases hpt : w = "point"
      · subst hpt
        by_cases hl : r.length = 1
        · match r, hl with
          | [p], _ => simp [W_fw_p, e0, W_inLon, W_inPag, hw, hL, shI, sp, PyData.eqv, W_cnt_p, deedB, tru]
        · have q : ¬ ((r.length : Int) + 1 = 2) := by omega
          have e1 : deedB (.tuple (.str "point" :: r)) = false := by
            match r, hl with
            | [], _ => exact hL
            | p :: c :: r, _ => rfl
          simp [W_fw_p, e0, W_inLon, W_inPag, hw, hL, shI, sp, PyData.eqv, e1, q, tru]
      · cases hP : sIn w pagW with
        | true =>
          by_cases hl : r.length = 1
          · match r, hl, h with
            | [p], _, h =>
              have gp := h.inT p (by simp)
              simp [W_fw_p, e0, W_inLon, W_inPag, hw, hL, hP, hpt, sw, shI, sp, PyData.eqv, W_page_p gp hn, deedB, tru]
          · have q : ¬ ((r.length : Int) + 1 = 2) := by omega
            have e1 : deedB (.tuple (.str w :: r)) = false := by
              match r, hl with
              | [], _ => exact hL
              | p :: c :: r, _ => rfl
            simp [W_fw_p, e0, W_inLon, W_inPag, hw, hL, hP, hpt, sw, shI, sp, PyData.eqv, e1, q, tru]
        | false =>
          have e1 : deedB (.tuple (.str w :: r)) = false := by
            match r with
            | [] => exact hL
            | [p] => simp [deedB, hP, hpt]
            | p :: c :: r => rfl
          simp [W_fw_p, e0, W_inLon, W_inPag, hw, hL, hP, hpt, sw, shI, sp, PyData.eqv, e1, tru]
  · have e0 : wd1 d = "" := by
      unfold wd1
      split
      · exact (hd ⟨_, _, rfl⟩).elim
      · rfl
    have e1 : deedB d = false := by
      unfold deedB
      split
      · exact (hd ⟨_, _, rfl⟩).elim
      · exact (hd ⟨_, _, rfl⟩).elim
      · rfl
    have s0 := shLit ""
    simp [W_fw_p, e0, e1, W_inLon, W_inPag, o0, i0, i1, s0, sp, PyData.eqv, tru]
theorem W_deed_p {k n : Nat} {d : PyData} {st : Sto} {Q : Val → Sto → Prop} (h : Gd k n d) (hn : n ≤ 16777216) : W (sp_is_deed [.dat d]) st Q ↔ Q (.dat (.bool (deedB d))) st := W_ok (deed_p h hn st)
def grdW : List Str := ["ahead", "quiet", "calm", "struck", "first", "clean", "whole", "level", "settled", "dead", "walked", "fixed"]
theorem W_inGrd {w : Str} {st : Sto} {Q : Val → Sto → Prop} (hw : PyData.strOk w = true) : W (inD (.str w) c_GUARDS) st Q ↔ Q (.dat (.bool (sIn w grdW))) st := W_inWs (ws := grdW) hw (by decide +kernel)
def grdB (d : PyData) : Bool := wordIn d grdW
theorem grd_p {k n : Nat} {d : PyData} (h : Gd k n d) (st : Sto) : sp_is_guard [.dat d] st = .ok (.dat (.bool (grdB d))) st := by
  apply pureOf
  unfold sp_is_guard bp_is_guard
  cases d with
  | str x => simp [kit_str, W_inGrd h.txt.ok, grdB, wordIn]
  | _ => simp [kit_str, grdB, wordIn]
theorem W_grd_p {k n : Nat} {d : PyData} {st : Sto} {Q : Val → Sto → Prop} (h : Gd k n d) : W (sp_is_guard [.dat d]) st Q ↔ Q (.dat (.bool (grdB d))) st := W_ok (grd_p h st)
@[simp] theorem W_sZip {fs : Ev → M (List Val)} {ρ : Ev} {st : Sto} {Q : List PyData → Sto → Prop} : W (sZip fs ρ) st Q ↔ W (fs ρ) st fun xs s1 => W (frzAll xs) s1 fun ds s2 => W (zipD ds) s2 Q := by
  unfold sZip; simp only [W_bnd]
def ascS : List Str → Bool
  | x :: y :: r => sLt x y && ascS (y :: r)
  | _ => true
@[simp] theorem W_zipT {a b : List PyData} {st : Sto} {Q : List PyData → Sto → Prop} : W (zipD [.tuple a, .tuple b]) st Q ↔ Q (pairUp a b) st := W_ret
theorem cut1 {α : Type} (xs : List α) : PL.cutD xs (some 1) none = xs.tail := by
  unfold PL.cutD
  have e : HT.sIx xs.length 0 (some 1) = min 1 xs.length := HT.sIx_nat xs.length 0 1
  rw [e, HT.sIx_none]
  cases xs with
  | nil => rfl
  | cons x r => simp
theorem pair_asc : ∀ (xs : List Str), ((pairUp (xs.map .str) (xs.map PyData.str).tail).map fun d => match d with | .tuple [.str a, .str b] => sLt a b | _ => false).all id = ascS xs
  | [] => rfl
  | [x] => rfl
  | x :: y :: r => by
    have ih := pair_asc (y :: r)
    simp only [pairUp, List.map_cons, List.tail_cons, List.zipWith_cons_cons, List.all_cons, id_eq, ascS] at ih ⊢
    rw [ih]
def rulB (d : PyData) : Bool := match d with
  | .tuple ds => ds.all grdB && (match strsOf ds with | some xs => ascS xs | none => false)
  | _ => false
theorem grd_strs : ∀ {ds : List PyData}, ds.all grdB = true → ∃ xs, strsOf ds = some xs ∧ ds = xs.map .str
  | [], _ => ⟨[], rfl, rfl⟩
  | d :: r, h => by
    simp only [List.all_cons, Bool.and_eq_true] at h
    obtain ⟨xs, e1, e2⟩ := grd_strs h.2
    cases d with
    | str x => exact ⟨x :: xs, by simp [strsOf, e1], by simp [e2]⟩
    | _ => simp [grdB, wordIn] at h
set_option maxHeartbeats 4000000 in
theorem rule_p {k n : Nat} {d : PyData} (h : Gd k n d) (hl : ∀ ds, d = .tuple ds → ds.length ≤ 10000) (st : Sto) : sp_is_rule [.dat d] st = .ok (.dat (.bool (rulB d))) st := by
  apply pureOf
  unfold sp_is_rule bp_is_rule
  cases d with
  | tuple ds =>
    have hl := hl ds rfl
    have hl1 : ds.length ≤ 16777216 := by omega
    have key : ∀ {ρ0 : Option Val} {st : Sto} {Q : List PyData → Sto → Prop}, W (compGo [ρ0, none, none] [1] (gN 1) tTrue (eCall 1 sp_is_guard (aCons (eV 1) aNil)) ds) st Q ↔ Q (ds.map fun d => .bool (grdB d)) st := fun {ρ0 st Q} => by
      rw [cg_pure (c := fun _ => true) (g := fun d => .bool (grdB d))]
      · rw [List.filter_eq_self.mpr (by simp)]
      · intro d hd
        exact ⟨_, rfl, fun st Q => by simp, fun _ st Q => by simp [wipeE, W_grd_p (h.inT d hd)]⟩
    have hb : (ds.map grdB).all id = ds.all grdB := by rw [List.all_map]; rfl
    cases hg : ds.all grdB with
    | false =>
      rw [hg] at hb
      simp [kit_tuple, tru, sizeLine, hl1, key, bools_map, rulB, hg, hb, -List.all_map, -List.all_eq_true, -List.all_eq_false]
    | true =>
      obtain ⟨xs, e1, he⟩ := grd_strs hg
      rw [hg] at hb
      have hz : (pairUp ds ds.tail).length ≤ 16777216 := by
        unfold pairUp
        rw [List.length_zipWith]
        omega
      have key2 : ∀ {ρ0 : Option Val} {st : Sto} {Q : List PyData → Sto → Prop}, W (compGo [ρ0, none, none] [1, 2] (gT 2 (gsCons (gN 1) (gsCons (gN 2) gsNil))) tTrue (e2 (on2 ltD) (eV 1) (eV 2)) (pairUp ds ds.tail)) st Q ↔ Q ((pairUp ds ds.tail).map fun d => .bool (match d with | .tuple [.str a, .str b] => sLt a b | _ => false)) st := fun {ρ0 st Q} => by
        rw [cg_pure (c := fun _ => true) (g := fun d => .bool (match d with | .tuple [.str a, .str b] => sLt a b | _ => false))]
        · rw [List.filter_eq_self.mpr (by simp)]
        · intro d hd
          subst he
          unfold pairUp at hd
          obtain ⟨i, hi, e⟩ := List.getElem_of_mem hd
          simp only [List.getElem_zipWith, List.getElem_map, List.getElem_tail] at e
          subst e
          refine ⟨_, rfl, fun st Q => by simp, fun _ st Q => ?_⟩
          simp [wipeE]
          exact W_ret
      have pa := pair_asc xs
      rw [← he] at pa
      simp [kit_tuple, tru, sizeLine, hl1, key, key2, bools_map, rulB, hg, hb, e1, cut1, hz, pa, -List.all_map, -List.all_eq_true]
  | _ => simp [kit_tuple, tru, rulB]
theorem W_rule_p {k n : Nat} {d : PyData} {st : Sto} {Q : Val → Sto → Prop} (h : Gd k n d) (hl : ∀ ds, d = .tuple ds → ds.length ≤ 10000) : W (sp_is_rule [.dat d]) st Q ↔ Q (.dat (.bool (rulB d))) st := W_ok (rule_p h hl st)
end PLaw

set_option Elab.async false
set_option linter.all false
set_option maxRecDepth 100000
namespace PLaw
open PySem PySem.Spec L2 PL
open PyProof.Rows hiding St
/-! ### the spring -/
def sprD (cells : List Int) (place rest count : Int) : List (Key × PyData) := [(.inr "cells", .list (cells.map .int)), (.inr "place", .int place), (.inr "rest", .int rest), (.inr "count", .int count)]
section
variable {cells : List Int} {place rest count : Int}
@[simp] theorem spr_cells : valD (sprD cells place rest count) (.inr "cells") = some (.list (cells.map .int)) := rfl
@[simp] theorem spr_place : valD (sprD cells place rest count) (.inr "place") = some (.int place) := rfl
@[simp] theorem spr_rest : valD (sprD cells place rest count) (.inr "rest") = some (.int rest) := rfl
@[simp] theorem spr_count : valD (sprD cells place rest count) (.inr "count") = some (.int count) := rfl
@[simp] theorem spr_len : (sprD cells place rest count).length = 4 := rfl
@[simp] theorem spr_pplace {i : Int} : putD (sprD cells place rest count) (.inr "place") (.int i) = sprD cells i rest count := rfl
@[simp] theorem spr_prest {i : Int} : putD (sprD cells place rest count) (.inr "rest") (.int i) = sprD cells place i count := rfl
@[simp] theorem spr_pcount {i : Int} : putD (sprD cells place rest count) (.inr "count") (.int i) = sprD cells place rest i := rfl
end
def SpO (c : Nat) (o : SO) : Prop := ∃ (cells : List Int) (place rest count : Int), o = .dct (sprD cells place rest count) ∧ 0 ≤ place ∧ 0 ≤ count ∧ count ≤ c
theorem SpO.mono {c c' : Nat} {o : SO} (h : SpO c o) (l : c ≤ c') : SpO c' o := by
  obtain ⟨a, b, d, e, rfl, h1, h2, h3⟩ := h
  exact ⟨a, b, d, e, rfl, h1, h2, by omega⟩
theorem spring_ok (ns : List Int) : W (sf_law_spring [.scr ns]) [] fun v st => ∃ o, v = .ref 0 ∧ SpO 0 o ∧ st = [o] := by
  unfold sf_law_spring bf_law_spring
  simp [keyD]
  have e : ∀ x, mergeD [(.inr "cells", x), (.inr "place", .int 0), (.inr "rest", .int 0), (.inr "count", .int 0)] = [(.inr "cells", x), (.inr "place", .int 0), (.inr "rest", .int 0), (.inr "count", .int 0)] := fun _ => rfl
  rw [e]
  refine (W_gcDct (st := []) rfl).mpr ?_
  exact ⟨rfl, _, ⟨_, 0, 0, 0, rfl, by decide, by decide, by decide⟩, rfl⟩
theorem pw3 {x c : Int} (h0 : 0 ≤ c) (h1 : c ≤ 1000000000000) : (x.fmod 2147483353 + 5003 * (c + 1) + 307).natAbs < 18446744073709551616 := by
  have := Int.fmod_nonneg_of_pos x (b := 2147483353) (by decide)
  have := Int.fmod_lt_of_pos x (b := 2147483353) (by decide)
  omega
theorem pw3' {c : Int} (h0 : 0 ≤ c) (h1 : c ≤ 1000000000000) : (61001 + 5003 * (c + 1) + 307).natAbs < 18446744073709551616 := by omega
theorem pw5 {x c : Int} (h0 : 0 ≤ c) (h1 : c ≤ 1000000000000) : (x.fmod 2147483647 + 30011 * (c + 1)).natAbs < 18446744073709551616 := by
  have := Int.fmod_nonneg_of_pos x (b := 2147483647) (by decide)
  have := Int.fmod_lt_of_pos x (b := 2147483647) (by decide)
  omega
set_option maxHeartbeats 4000000 in
theorem dip_ok {c : Nat} {o : SO} {r : Sto} {n : Int} (ho : SpO c o) (hc : c ≤ 1000000000000) (h0 : 0 < n) (h1 : n < 1000000) : W (sf_law_dip [.ref 0, .dat (.int n)]) (o :: r) fun v st => ∃ d o', v = .dat (.int d) ∧ 0 ≤ d ∧ d < n ∧ SpO (c + 1) o' ∧ st = o' :: r := by
  obtain ⟨cells, turn, rest, count, rfl, ht, k0, k1⟩ := ho
  have k2 : count ≤ 1000000000000 := by omega
  have mk : ∀ {cells : List Int} {place rest : Int}, 0 ≤ place → SpO (c + 1) (.dct (sprD cells place rest (count + 1))) := fun h => ⟨_, _, _, _, rfl, h, by omega, by omega⟩
  unfold sf_law_dip bf_law_dip
  have n0 : n ≠ 0 := by omega
  have n1 : n.natAbs < 1073741824 := by omega
  have m0 : ∀ x : Int, 0 ≤ x.fmod n := fun x => Int.fmod_nonneg_of_pos x h0
  have m1 : ∀ x : Int, x.fmod n < n := fun x => Int.fmod_lt_of_pos x h0
  have ht' : 0 ≤ turn + 1 := by omega
  have p3 := fun x => pw3 (x := x) k0 k2
  have p3' := pw3' k0 k2
  have p5 := fun x => pw5 (x := x) k0 k2
  by_cases hr : 0 < rest
  · simp [hr, n0, n1, sizeLine, m0, m1, mk, ht]
  · by_cases hne : cells = []
    · subst hne
      have q : ¬ turn < 0 := by omega
      simp [hr, n0, n1, sizeLine, m0, m1, mk, ht', SeqAt.shaped, PyData.canLay0, PyData.canLayAll0, PyData.depth, PyData.depthAll, PyData.eqv, PyData.eqvAll, fm_lo, fm_hi, i64, q, p3, p3', p5]
    · obtain ⟨cc, hcc⟩ : ∃ c : Int, atI (cells.map PyData.int) (turn.fmod ((cells.length : Nat) : Int)) = some (.int c) := by
        cases cells with
        | nil => exact (hne rfl).elim
        | cons c0 cells => exact feed_cell ht
      have hs : SeqAt.shaped (.list (cells.map PyData.int)) = true := SmA.shL fun d hd => by
        obtain ⟨i, _, rfl⟩ := List.mem_map.mp hd
        exact ⟨rfl, by simp [PyData.depth]⟩
      have hn : SeqAt.shaped (.list []) = true := by decide +kernel
      have he : PyData.eqv (.list (cells.map PyData.int)) (.list []) = false := by
        cases cells with
        | nil => exact (hne rfl).elim
        | cons c0 cells => simp [PyData.eqv, PyData.eqvAll]
      by_cases q2 : (1000000000000000000 : Int) ≤ cc
      · by_cases q1 : turn < ((cells.length : Nat) : Int)
        · simp [hr, n0, n1, sizeLine, m0, m1, mk, ht', fm_lo, fm_hi, i64, hs, hn, he, hcc, hne, q1, q2, p3, p5]
        · simp [hr, n0, n1, sizeLine, m0, m1, mk, ht', fm_lo, fm_hi, i64, hs, hn, he, hcc, hne, q1, q2, p3, p5]
      · simp [hr, n0, n1, sizeLine, m0, m1, mk, ht', fm_lo, fm_hi, i64, hs, hn, he, hcc, hne, q2, p3, p5]
theorem pick_ok {c : Nat} {o : SO} {r : Sto} {ds : List PyData} (ho : SpO c o) (hc : c ≤ 1000000000000) (h0 : ds ≠ []) (h1 : ds.length < 1000000) : W (sf_law_pick [.ref 0, .dat (.list ds)]) (o :: r) fun v st => ∃ d o', v = .dat d ∧ d ∈ ds ∧ SpO (c + 1) o' ∧ st = o' :: r := by
  unfold sf_law_pick bf_law_pick
  have hl : 0 < ds.length := List.length_pos_iff.mpr h0
  simp
  refine (dip_ok (n := ds.length) ho hc (by omega) (by omega)).mono ?_
  rintro v st ⟨d, o', rfl, q0, q1, ho', rfl⟩
  obtain ⟨k, rfl⟩ := Int.eq_ofNat_of_zero_le q0
  have hk : k < ds.length := by omega
  simp [PL.atI_nat, List.getElem?_eq_getElem hk, ho']
end PLaw

set_option Elab.async false
set_option linter.all false
set_option maxRecDepth 100000
namespace PLaw
open PySem PySem.Spec L2 PL
open PyProof.Rows hiding St
theorem oint_l (d : PyData) (st : Sto) : sf_law_is_integer [.dat d] st = .ok (.dat (.bool (intB d))) st := by
  apply pureOf
  unfold sf_law_is_integer bf_law_is_integer
  cases d <;> simp [kit_int, kit_bool, intB]
theorem W_oint {d : PyData} {st : Sto} {Q : Val → Sto → Prop} : W (sf_law_is_integer [.dat d]) st Q ↔ Q (.dat (.bool (intB d))) st := W_ok (oint_l d st)
theorem ocnt_l (d : PyData) (st : Sto) : sf_law_is_count [.dat d] st = .ok (.dat (.bool (cntB d))) st := by
  apply pureOf
  unfold sf_law_is_count bf_law_is_count
  cases d <;> simp [W_oint, intB, cntB]
  rename_i i
  omega
theorem W_ocnt {d : PyData} {st : Sto} {Q : Val → Sto → Prop} : W (sf_law_is_count [.dat d]) st Q ↔ Q (.dat (.bool (cntB d))) st := W_ok (ocnt_l d st)
@[simp] theorem W_leS {x y : Str} {st : Sto} {Q : Val → Sto → Prop} : W (leD (.str x) (.str y)) st Q ↔ Q (.dat (.bool (!sLt y x))) st := W_ret
theorem lt_a (c : Nat) : sLt ⟨#[c]⟩ "a" = decide (c < 97) := by
  unfold sLt
  have e : (Str.ofString "a").cps.toList = [97] := by decide +kernel
  rw [e]
  exact decide_eq_decide.mpr (by rw [List.cons_lt_cons_iff]; simp)
theorem lt_z (c : Nat) : sLt "z" ⟨#[c]⟩ = decide (122 < c) := by
  unfold sLt
  have e : (Str.ofString "z").cps.toList = [122] := by decide +kernel
  rw [e]
  exact decide_eq_decide.mpr (by rw [List.cons_lt_cons_iff]; simp)
def cNl (d : PyData) : Bool := match d with
  | .str y => !(match y.cps.toList with | [c] => lowB c | _ => false)
  | _ => false
theorem signs_nl (x : Str) : ((PL.signs x).filter cNl).isEmpty = x.cps.toList.all lowB := by
  unfold PL.signs
  rw [List.filter_map, List.isEmpty_map]
  induction x.cps.toList with
  | nil => rfl
  | cons c r ih =>
    cases h : lowB c <;> simp [cNl, h] at ih ⊢
    exact ih
theorem eqv_nil (l : List PyData) : PyData.eqv (.list l) (.list []) = l.isEmpty := by
  cases l <;> simp [PyData.eqv, PyData.eqvAll]
set_option maxHeartbeats 4000000 in
theorem opage_l {k n : Nat} {d : PyData} (h : Gd k n d) (hn : n ≤ 16777216) (st : Sto) : sf_law_is_page [.dat d] st = .ok (.dat (.bool (pgB d))) st := by
  apply pureOf
  unfold sf_law_is_page bf_law_is_page
  have s0 : SeqAt.shaped (.list []) = true := by decide +kernel
  cases d with
  | str x =>
    have hl : x.length ≤ 16777216 := Nat.le_trans h.txt.len hn
    have key : ∀ {ρ0 : Option Val} {st : Sto} {Q : List PyData → Sto → Prop}, W (compGo [ρ0, none] [1] (gN 1) (tN (eB (eCh (on2 leD) (on2 leD) (eC (.str "a")) (eV 1) (eC (.str "z"))))) (eV 1) (PL.signs x)) st Q ↔ Q ((PL.signs x).filter cNl) st := fun {ρ0 st Q} => by
      rw [cg_pure (c := cNl) (g := id)]
      · rw [List.map_id]
      · intro d hd
        unfold PL.signs at hd
        obtain ⟨c, hc, rfl⟩ := List.mem_map.mp hd
        refine ⟨_, rfl, fun st Q => ?_, fun _ st Q => by simp [wipeE]⟩
        have e : cNl (.str ⟨#[c]⟩) = !lowB c := rfl
        rw [e]
        by_cases h1 : c < 97
        · have h2 : lowB c = false := by simp [lowB]; omega
          simp [wipeE, lt_a, lt_z, h1, h2]
        · have h2 : lowB c = decide (c ≤ 122) := by unfold lowB; simp; omega
          by_cases h3 : 122 < c
          · have h4 : ¬ c ≤ 122 := by omega
            simp [wipeE, lt_a, lt_z, h1, h2, h3, h4]
          · have h4 : c ≤ 122 := by omega
            simp [wipeE, lt_a, lt_z, h1, h2, h3, h4]
    have shf : SeqAt.shaped (.list ((PL.signs x).filter cNl)) = true := SmA.shL fun d hd => by
      have hd := (List.mem_filter.mp hd).1
      unfold PL.signs at hd
      obtain ⟨c, hc, rfl⟩ := List.mem_map.mp hd
      exact ⟨by simpa [PyData.canLay0] using shC h.txt.ok hc, by simp [PyData.depth]⟩
    by_cases h1 : 1 ≤ x.length
    · by_cases h2 : x.length ≤ 8
      · have e1 : ¬ (x.length : Int) < 1 := by omega
        have e2 : ¬ (8 : Int) < (x.length : Int) := by omega
        have e3 : x.cps.toList.length ≤ 16777216 := by simpa [Str.length] using hl
        have e4 : (PL.signs x).length ≤ 16777216 := by unfold PL.signs; simpa using e3
        simp [kit_str, tru, sizeLine, hl, e1, e2, key, e4, pgB, pgS, h1, h2, shf, s0, eqv_nil, signs_nl]
      · have e1 : ¬ (x.length : Int) < 1 := by omega
        have e2 : (8 : Int) < (x.length : Int) := by omega
        simp [kit_str, tru, sizeLine, hl, e1, e2, pgB, pgS, h1, h2]
    · have e1 : (x.length : Int) < 1 := by omega
      simp [kit_str, tru, sizeLine, hl, e1, pgB, pgS, h1]
  | _ => simp [kit_str, tru, pgB]
theorem W_opage {k n : Nat} {d : PyData} {st : Sto} {Q : Val → Sto → Prop} (h : Gd k n d) (hn : n ≤ 16777216) : W (sf_law_is_page [.dat d]) st Q ↔ Q (.dat (.bool (pgB d))) st := W_ok (opage_l h hn st)
set_option maxHeartbeats 4000000 in
theorem orec_l {k n : Nat} {d : PyData} (h : Gd k n d) (hn : n ≤ 16777216) (st : Sto) : sf_law_is_record [.dat d] st = .ok (.dat (.bool (recB d))) st := by
  apply pureOf
  unfold sf_law_is_record bf_law_is_record
  have wn := fun {w : Str} {st : Sto} {Q : Val → Sto → Prop} (hw : PyData.strOk w = true) => W_inWs (ws := numW) (st := st) (Q := Q) hw (by decide +kernel)
  have wp := fun {w : Str} {st : Sto} {Q : Val → Sto → Prop} (hw : PyData.strOk w = true) => W_inWs (ws := plnW) (st := st) (Q := Q) hw (by decide +kernel)
  have en : numW.map PyData.str = [.str "keep", .str "write", .str "plain"] := rfl
  have ep : plnW.map PyData.str = [.str "free", .str "strike"] := rfl
  rw [en] at wn
  rw [ep] at wp
  cases d with
  | tuple ds =>
    match ds, h with
    | [], h => simp [kit_tuple, tru, recB]
    | [a], h => simp [kit_tuple, tru, recB]
    | a :: b :: r, h =>
      have q : ¬ ((r.length : Int) + 1 + 1 < 2) := by omega
      have gb := h.inT b (by simp)
      cases a with
      | str w =>
        have hw : PyData.strOk w = true := (h.inT _ (by simp)).txt.ok
        cases hb : pgB b with
        | false =>
          have e1 : recB (.tuple (.str w :: b :: r)) = false := by
            match r with
            | [] => simp [recB, hb]
            | [c] => simp [recB, hb]
            | c :: e :: r => rfl
          simp [kit_tuple, kit_str, tru, q, W_opage gb hn, hb, e1]
        | true =>
          cases hP : sIn w plnW with
          | true =>
            have hN : sIn w numW = false := by
              cases hN : sIn w numW with
              | false => rfl
              | true => rw [num_pln hN] at hP; cases hP
            match r with
            | [] => simp [-W_inT, kit_tuple, kit_str, tru, q, W_opage gb hn, hb, wp hw, hP, hN, recB, shI, PyData.eqv, sizeLine]
            | [c] => simp [-W_inT, kit_tuple, kit_str, tru, q, W_opage gb hn, hb, wp hw, hP, hN, recB, shI, PyData.eqv, sizeLine]
            | c :: e :: r =>
              have q2 : ¬ ((r.length : Int) + 1 + 1 + 1 + 1 = 2) := by omega
              have q3 : ¬ ((r.length : Int) + 1 + 1 + 1 + 1 < 2) := by omega
              simp [-W_inT, kit_tuple, kit_str, tru, q2, q3, W_opage gb hn, hb, wp hw, hP, hN, recB, shI, PyData.eqv, sizeLine]
          | false =>
            cases hN : sIn w numW with
            | false =>
              have e1 : recB (.tuple (.str w :: b :: r)) = false := by
                match r with
                | [] => simp [recB, hP]
                | [c] => simp [recB, hN]
                | c :: e :: r => rfl
              simp [-W_inT, kit_tuple, kit_str, tru, q, W_opage gb hn, hb, wp hw, wn hw, hP, hN, e1, sizeLine]
            | true =>
              match r with
              | [] => simp [-W_inT, kit_tuple, kit_str, tru, q, W_opage gb hn, hb, wp hw, wn hw, hP, hN, recB, shI, PyData.eqv, sizeLine]
              | [c] => simp [-W_inT, kit_tuple, kit_str, tru, q, W_opage gb hn, W_ocnt, hb, wp hw, wn hw, hP, hN, recB, shI, PyData.eqv, sizeLine]
              | c :: e :: r =>
                have q2 : ¬ ((r.length : Int) + 1 + 1 + 1 + 1 = 3) := by omega
                have q3 : ¬ ((r.length : Int) + 1 + 1 + 1 + 1 < 2) := by omega
                simp [-W_inT, kit_tuple, kit_str, tru, q2, q3, W_opage gb hn, hb, wp hw, wn hw, hP, hN, recB, shI, PyData.eqv, sizeLine]
      | _ =>
        have e1 : ∀ a : PyData, (∀ w, a ≠ .str w) → recB (.tuple (a :: b :: r)) = false := fun a ha => by
          unfold recB
          split
          · rename_i e; cases e; exact (ha _ rfl).elim
          · rename_i e; cases e; exact (ha _ rfl).elim
          · rfl
        simp [kit_tuple, kit_str, tru, q, e1]
  | _ => simp [kit_tuple, tru, recB]
theorem W_orec {k n : Nat} {d : PyData} {st : Sto} {Q : Val → Sto → Prop} (h : Gd k n d) (hn : n ≤ 16777216) : W (sf_law_is_record [.dat d]) st Q ↔ Q (.dat (.bool (recB d))) st := W_ok (orec_l h hn st)
set_option maxHeartbeats 4000000 in
theorem odeed_l {k n : Nat} {d : PyData} (h : Gd k n d) (hn : n ≤ 16777216) (st : Sto) : sf_law_is_deed [.dat d] st = .ok (.dat (.bool (deedB d))) st := by
  apply pureOf
  unfold sf_law_is_deed bf_law_is_deed
  have wl := fun {w : Str} {st : Sto} {Q : Val → Sto → Prop} (hw : PyData.strOk w = true) => W_inWs (ws := lonW) (st := st) (Q := Q) hw (by decide +kernel)
  have wp := fun {w : Str} {st : Sto} {Q : Val → Sto → Prop} (hw : PyData.strOk w = true) => W_inWs (ws := pagW) (st := st) (Q := Q) hw (by decide +kernel)
  have el : lonW.map PyData.str = [.str "seal", .str "stop", .str "end"] := rfl
  have ep : pagW.map PyData.str = [.str "keep", .str "plain", .str "write", .str "free", .str "strike", .str "flush", .str "put"] := rfl
  rw [el] at wl
  rw [ep] at wp
  have sp := shLit "point"
  cases d with
  | tuple ds =>
    match ds, h with
    | [], h => simp [kit_tuple, tru, deedB]
    | a :: r, h =>
      have q : ¬ ((r.length : Int) + 1 < 1) := by omega
      cases a with
      | str w =>
        have hw : PyData.strOk w = true := (h.inT _ (by simp)).txt.ok
        have sw := sh0 hw
        cases hL : sIn w lonW with
        | true =>
          obtain ⟨hP, hpt⟩ := lon_pag hL
          match r with
          | [] => simp [-W_inT, kit_tuple, kit_str, tru, q, wl hw, hL, deedB, shI, PyData.eqv, sizeLine]
          | [p] => simp [-W_inT, kit_tuple, kit_str, tru, q, wl hw, hL, hP, hpt, deedB, shI, PyData.eqv, sizeLine]
          | p :: e :: r =>
            have q2 : ¬ ((r.length : Int) + 1 + 1 + 1 = 1) := by omega
            have q3 : ¬ ((r.length : Int) + 1 + 1 + 1 < 1) := by omega
            simp [-W_inT, kit_tuple, kit_str, tru, q2, q3, wl hw, hL, deedB, shI, PyData.eqv, sizeLine]
        | false =>
          match r, h with
          | [], h => simp [-W_inT, kit_tuple, kit_str, tru, q, wl hw, hL, deedB, shI, PyData.eqv, sizeLine]
          | [p], h =>
            have gp := h.inT p (by simp)
            by_cases hpt : w = "point"
            · subst hpt
              simp [-W_inT, kit_tuple, kit_str, tru, q, wl hw, hL, deedB, shI, sp, PyData.eqv, sizeLine, W_ocnt]
            · cases hP : sIn w pagW <;> simp [-W_inT, kit_tuple, kit_str, tru, q, wl hw, wp hw, hL, hP, hpt, deedB, shI, sw, sp, PyData.eqv, sizeLine, W_opage gp hn]
          | p :: e :: r, h =>
            have q2 : ¬ ((r.length : Int) + 1 + 1 + 1 = 2) := by omega
            have q3 : ¬ ((r.length : Int) + 1 + 1 + 1 < 1) := by omega
            simp [-W_inT, kit_tuple, kit_str, tru, q2, q3, wl hw, hL, deedB, shI, PyData.eqv, sizeLine]
      | _ =>
        have e1 : ∀ a : PyData, (∀ w, a ≠ .str w) → deedB (.tuple (a :: r)) = false := fun a ha => by
          unfold deedB
          split
          · rename_i e; cases e; exact (ha _ rfl).elim
          · rename_i e; cases e; exact (ha _ rfl).elim
          · rfl
        simp [kit_tuple, kit_str, tru, q, e1]
  | _ => simp [kit_tuple, tru, deedB]
theorem W_odeed {k n : Nat} {d : PyData} {st : Sto} {Q : Val → Sto → Prop} (h : Gd k n d) (hn : n ≤ 16777216) : W (sf_law_is_deed [.dat d]) st Q ↔ Q (.dat (.bool (deedB d))) st := W_ok (odeed_l h hn st)
end PLaw

set_option Elab.async false
set_option linter.all false
set_option maxRecDepth 100000
namespace PLaw
open PySem PySem.Spec L2 PL
open PyProof.Rows hiding St
theorem W_ninL {d : PyData} {ds : List PyData} {st : Sto} {Q : Val → Sto → Prop} : W (ninD d (.list ds)) st Q ↔ (SeqAt.shaped d = true ∧ SeqAt.shaped (.list ds) = true) ∧ Q (.dat (.bool (!ds.any fun z => PyData.eqv z d))) st := by
  unfold ninD inB
  by_cases h : (SeqAt.shaped d && SeqAt.shaped (.list ds)) = true
  · simp only [h, if_true]
    rw [Bool.and_eq_true] at h
    simp only [h, and_self, true_and]
    exact W_bB
  · have h' : ¬ (SeqAt.shaped d = true ∧ SeqAt.shaped (.list ds) = true) := by rwa [Bool.and_eq_true] at h
    simp [W, h, h']
theorem guards_l (st : Sto) : sf_law_guards [] st = .ok (.dat (.list (grdW.map .str))) st := by
  apply pureOf
  unfold sf_law_guards bf_law_guards
  simp [sizeLine, grdW]
theorem W_guards_l {st : Sto} {Q : Val → Sto → Prop} : W (sf_law_guards []) st Q ↔ Q (.dat (.list (grdW.map .str))) st := W_ok (guards_l st)
theorem sLt_trans {x y z : Str} (h1 : sLt x y = true) (h2 : sLt y z = true) : sLt x z = true := by
  cases h : sLt x z with
  | true => rfl
  | false =>
    have a : leS z x := h
    have b := leS_of_lt h1
    have c : y = z := leS_anti (leS_of_lt h2) (leS_trans a b)
    subst c
    have a' : sLt x y = false := a
    rw [a'] at h1
    cases h1
theorem asc_iff : ∀ {xs : List Str}, ascS xs = true ↔ xs.Pairwise (fun a b => sLt a b = true)
  | [] => by simp [ascS]
  | [x] => by simp [ascS]
  | x :: y :: r => by
    have ih := asc_iff (xs := y :: r)
    simp only [ascS, Bool.and_eq_true]
    rw [ih]
    constructor
    · rintro ⟨h1, h2⟩
      refine List.pairwise_cons.mpr ⟨fun z hz => ?_, h2⟩
      rcases List.mem_cons.mp hz with rfl | hz
      · exact h1
      · exact sLt_trans h1 ((List.pairwise_cons.mp h2).1 z hz)
    · intro h
      obtain ⟨h1, h2⟩ := List.pairwise_cons.mp h
      exact ⟨h1 y (by simp), h2⟩
theorem ded_fold : ∀ (xs ys : List Str), ys.Nodup → (xs.foldl addS ys).Nodup ∧ ∀ p, p ∈ xs.foldl addS ys ↔ p ∈ xs ∨ p ∈ ys
  | [], ys, h => ⟨h, fun p => by simp⟩
  | x :: r, ys, h => by
    have h1 : (addS ys x).Nodup := by
      unfold addS
      split
      · exact h
      · rename_i q; exact List.nodup_cons.mpr ⟨q, h⟩
    obtain ⟨a, b⟩ := ded_fold r (addS ys x) h1
    refine ⟨a, fun p => ?_⟩
    rw [List.foldl_cons, b]
    have : p ∈ addS ys x ↔ p = x ∨ p ∈ ys := by
      unfold addS
      split
      · rename_i q; exact ⟨.inr, fun e => e.elim (fun e => e ▸ q) id⟩
      · simp
    rw [this, List.mem_cons]
    constructor
    · rintro (h | h | h) <;> simp [h]
    · rintro ((h | h) | h) <;> simp [h]
theorem ded_nd (xs : List Str) : (dedS xs).Nodup := (ded_fold xs [] (by simp)).1
theorem ded_mem (xs : List Str) (p : Str) : p ∈ dedS xs ↔ p ∈ xs := by
  have := (ded_fold xs [] (by simp)).2 p
  unfold dedS
  simpa using this
theorem sLt_ne {x y : Str} (h : sLt x y = true) : x ≠ y := fun e => by
  subst e
  have : leS x x := leS_iff.mpr (List.le_refl _)
  have a : sLt x x = false := this
  rw [a] at h
  cases h
theorem asc_sort (xs : List Str) : ascS xs = decide (xs = sortS (dedS xs)) := by
  rw [Bool.eq_iff_iff, decide_eq_true_eq, asc_iff]
  constructor
  · intro h
    refine List.Perm.eq_of_pairwise (le := leS) (fun _ _ _ _ => leS_anti) (h.imp fun q => leS_of_lt q) (sort_pw _) ?_
    refine ((List.perm_ext_iff_of_nodup (h.imp fun q => sLt_ne q) (ded_nd xs)).mpr fun p => (ded_mem xs p).symm).trans (sort_perm _).symm
  · intro h
    have h1 := sort_pw (dedS xs)
    have h2 : (sortS (dedS xs)).Nodup := (sort_perm _).nodup_iff.mpr (ded_nd xs)
    rw [← h] at h1 h2
    refine (h1.and h2).imp fun {a b} q => ?_
    cases e : sLt a b with
    | true => rfl
    | false => exact (q.2 (leS_anti q.1 e)).elim
theorem eqv_strs : ∀ (xs ys : List Str), PyData.eqvAll (xs.map .str) (ys.map .str) = decide (xs = ys)
  | [], [] => by simp [PyData.eqvAll]
  | [], y :: ys => by simp [PyData.eqvAll]
  | x :: xs, [] => by simp [PyData.eqvAll]
  | x :: xs, y :: ys => by
    have ih := eqv_strs xs ys
    simp only [List.map_cons, PyData.eqvAll, PyData.eqv, ih]
    rw [Bool.eq_iff_iff]
    simp
theorem grd_in {x : Str} : ((grdW.map PyData.str).any fun z => PyData.eqv z (.str x)) = sIn x grdW := any_str grdW x
set_option maxHeartbeats 4000000 in
theorem orule_l {k n : Nat} {d : PyData} (h : Gd k n d) (hk : k ≤ 60) (hl : ∀ ds, d = .tuple ds → ds.length ≤ 1000) (st : Sto) : sf_law_is_rule [.dat d] st = .ok (.dat (.bool (rulB d))) st := by
  apply pureOf
  unfold sf_law_is_rule bf_law_is_rule
  have s0 : SeqAt.shaped (.list []) = true := by decide +kernel
  have s1 : SeqAt.shaped (.list (grdW.map .str)) = true := by decide +kernel
  cases d with
  | tuple ds =>
    have hl := hl ds rfl
    have hl1 : ds.length ≤ 16777216 := by omega
    have key : ∀ {ρ0 : Option Val} {st : Sto} {Q : List PyData → Sto → Prop}, W (compGo [ρ0, none] [1] (gN 1) (tO (tN (eT (e1 (on1 (isD "str")) (eV 1)))) (eB (e2 (on2 ninD) (eV 1) (eCall 0 sf_law_guards aNil)))) (eV 1) ds) st Q ↔ Q (ds.filter fun d => !grdB d) st := fun {ρ0 st Q} => by
      rw [cg_pure (c := fun d => !grdB d) (g := id)]
      · rw [List.map_id]
      · intro d hd
        have gd := h.inT d hd
        refine ⟨_, rfl, fun st Q => ?_, fun _ st Q => by simp [wipeE]⟩
        cases d with
        | str x =>
          have sx := sh0 gd.txt.ok
          simp only [W_tO, W_tN, W_eT, W_e1, W_eV, W_eB, W_e2]
          simp [wipeE, kit_str, tru, grdB, wordIn, W_guards_l, W_ninL, sx, s1, grd_in, -List.any_map]
        | _ => simp [wipeE, kit_str, tru, grdB, wordIn]
    have shf : SeqAt.shaped (.list (ds.filter fun d => !grdB d)) = true := GdA.shL (k := k) (n := n) (fun d hd => h.inT d (List.mem_filter.mp hd).1) (by omega)
    have shd : SeqAt.shaped (.list ds) = true := GdA.shL (k := k) (n := n) (fun d hd => h.inT d hd) (by omega)
    have hb : (ds.filter fun d => !grdB d).isEmpty = ds.all grdB := by
      rw [Bool.eq_iff_iff, List.isEmpty_iff, List.filter_eq_nil_iff, List.all_eq_true]
      simp
    generalize (ds.filter fun d => !grdB d) = X at key shf hb
    cases hg : ds.all grdB with
    | false =>
      rw [hg] at hb
      have hb : X ≠ [] := fun e => by subst e; cases hb
      simp [kit_tuple, tru, sizeLine, hl1, key, shf, s0, eqv_nil, List.isEmpty_iff, hb, rulB, hg, -List.all_eq_true, -List.all_eq_false]
    | true =>
      obtain ⟨xs, q1, he⟩ := grd_strs hg
      rw [hg] at hb
      have hb : X = [] := List.isEmpty_iff.mp hb
      have hx : xs.length < 4000 := by
        have : ds.length = xs.length := by rw [he]; simp
        omega
      have sh2 : SeqAt.shaped (.list ((sortS (dedS xs)).map .str)) = true := GdA.shL (k := k) (n := n) (fun d hd => by
        obtain ⟨x, hx, rfl⟩ := List.mem_map.mp hd
        have : x ∈ xs := (ded_mem xs x).mp ((sort_perm _).mem_iff.mp hx)
        exact h.inT _ (by rw [he]; exact List.mem_map.mpr ⟨x, this, rfl⟩)) (by omega)
      have eq1 : PyData.eqv (.list ds) (.list ((sortS (dedS xs)).map .str)) = ascS xs := by
        rw [he, asc_sort]
        simp only [PyData.eqv]
        exact eqv_strs _ _
      simp [kit_tuple, tru, sizeLine, hl1, key, shf, s0, eqv_nil, hb, rulB, hg, W_ssetT, q1, hx, shd, sh2, eq1, -List.all_eq_true]
  | _ => simp [kit_tuple, tru, rulB]
theorem W_orule {k n : Nat} {d : PyData} {st : Sto} {Q : Val → Sto → Prop} (h : Gd k n d) (hk : k ≤ 60) (hl : ∀ ds, d = .tuple ds → ds.length ≤ 1000) : W (sf_law_is_rule [.dat d]) st Q ↔ Q (.dat (.bool (rulB d))) st := W_ok (orule_l h hk hl st)
/-- a value that the law looks at -/
structure It (d : PyData) : Prop where
  gd : Gd 2 60000 d
  ln : ∀ ds, d = .tuple ds → ds.length ≤ 1000
set_option maxHeartbeats 4000000 in
theorem right_l {d : PyData} (h : It d) (st : Sto) : sf_law_are_right [.dat d] st = .ok (.dat (.bool true)) st := by
  apply pureOf
  unfold sf_law_are_right bf_law_are_right
  have hl : ∀ ds, d = .tuple ds → ds.length ≤ 10000 := fun ds e => Nat.le_trans (h.ln ds e) (by omega)
  have hn : ∀ {x : Option Val} {st : Sto} {Q : Val → Sto → Prop}, W (if intB d = true then e2 (on2 geD) (eV 0) (eC (.int 0)) [some (.dat d), x, none] else bB false) st Q ↔ Q (.dat (.bool (numB d))) st := fun {x st Q} => by
    cases d <;> simp [intB, numB]
  have g : Gd 1 100 (.list [.bool (intB d), .bool (numB d), .bool (pgB d), .bool (recB d), .bool (deedB d), .bool (rulB d)]) := Gd.list (k := 0) (n := 5) (fun e he => by
    simp at he
    rcases he with rfl | rfl | rfl | rfl | rfl | rfl <;> exact .bool (by omega)) (by simp)
  have w1 := fun {st : Sto} {Q : Val → Sto → Prop} => g.rp (st := st) (Q := Q) (by omega) (by omega)
  have g0 := h.gd
  simp [-W_repr, -W_ite, W_int_p, W_num_p, W_page_p g0 (by omega), W_rec_p g0 (by omega), W_deed_p g0 (by omega), W_rule_p g0 hl, W_oint, W_opage g0 (by omega), W_orec g0 (by omega), W_odeed g0 (by omega), W_orule g0 (by omega) h.ln, hn, sizeLine, w1, g.shs, PyData.eqv]
end PLaw

set_option Elab.async false
set_option linter.all false
set_option maxRecDepth 100000
namespace PLaw
open PySem PySem.Spec L2 PL
open PyProof.Rows hiding St
@[simp] theorem W_negI {i : Int} {st : Sto} {Q : Val → Sto → Prop} : W (negD (.int i)) st Q ↔ Q (.dat (.int (-i))) st := W_ret
def gsS : List Str := ["ahead", "calm", "clean", "dead", "first", "fixed", "level", "quiet", "settled", "struck", "walked", "whole"]
theorem gs_tok : ∀ x ∈ gsS, Tok8 12 x := by
  intro x hx
  have : (gsS.all fun x => PyData.strOk x && decide (x.length ≤ 12)) = true := by decide +kernel
  have := List.all_eq_true.mp this x hx
  simp only [Bool.and_eq_true, decide_eq_true_eq] at this
  exact ⟨this.1, this.2⟩
theorem sub_gd {xs : List Str} (h : xs.Sublist gsS) : GdA 0 130 (xs.map .str) := fun d hd => by
  obtain ⟨x, hx, rfl⟩ := List.mem_map.mp hd
  exact .str (gs_tok x (h.mem hx)) (by omega)
theorem sub_len {xs : List Str} (h : xs.Sublist gsS) : xs.length ≤ 12 := h.length_le
def PgL (pgs : List PyData) : Prop := pgs.length = 3 ∧ ∀ d ∈ pgs, ∃ x, d = .str x ∧ pgS x = true ∧ Tok8 12 x
def pgLB (d : PyData) : Bool := match d with
  | .list pgs => decide (pgs.length = 3) && pgs.all fun d => match d with | .str x => pgS x && (PyData.strOk x && decide (x.length ≤ 12)) | _ => false
  | _ => false
theorem pgL_of {d : PyData} (h : pgLB d = true) : ∃ pgs, d = .list pgs ∧ PgL pgs := by
  cases d with
  | list pgs =>
    simp only [pgLB, Bool.and_eq_true, decide_eq_true_eq, List.all_eq_true] at h
    refine ⟨pgs, rfl, h.1, fun d hd => ?_⟩
    have := h.2 d hd
    cases d with
    | str x =>
      simp only [Bool.and_eq_true, decide_eq_true_eq] at this
      exact ⟨x, rfl, this.1, this.2.1, this.2.2⟩
    | _ => cases this
  | _ => cases h
theorem all_of {p : PyData → Bool} {ds : List PyData} {d : PyData} (h : ds.all p = true) (hd : d ∈ ds) : p d = true := List.all_eq_true.mp h d hd
theorem pages_ok {c : Nat} {o : SO} {r : Sto} (ho : SpO c o) (hc : c ≤ 1000000000) : W (sf_law_pages [.ref 0]) (o :: r) fun v st => ∃ pgs o', v = .dat (.list pgs) ∧ PgL pgs ∧ SpO (c + 1) o' ∧ st = o' :: r := by
  unfold sf_law_pages bf_law_pages
  simp [sizeLine]
  refine (pick_ok ho (by omega) (by simp) (by simp)).mono ?_
  rintro _ _ ⟨d, o', rfl, hd, ho', rfl⟩
  obtain ⟨pgs, rfl, hp⟩ := pgL_of (all_of (p := pgLB) (by decide +kernel) hd)
  simp [hp, ho']
theorem W_sortXs {xs : List Str} {st : Sto} {Q : Val → Sto → Prop} : W (sortX (.list (xs.map .str))) st Q ↔ xs.length < 64 ∧ Q (.dat (.list ((sortS xs).map .str))) st := by
  have h := PL.strs_map xs
  unfold W sortX
  by_cases q : xs.length < 64 <;> simp [h, q, and_assoc]
theorem sort_gs : sortS grdW = gsS := by decide +kernel
theorem sub_strs {l : List PyData} {xs : List Str} (h : l.Sublist (xs.map .str)) : ∃ ys : List Str, l = ys.map .str ∧ ys.Sublist xs := by
  obtain ⟨ys, h1, h2⟩ := List.sublist_map_iff.mp h
  exact ⟨ys, h2, h1⟩
theorem gsD_ne : ¬ gsS.map PyData.str = [] := by decide +kernel
theorem gsD_len : (gsS.map PyData.str).length = 12 := by decide +kernel
set_option maxHeartbeats 4000000 in
theorem rul_ok {c : Nat} {o : SO} {r : Sto} (ho : SpO c o) (hc : c ≤ 1000000000) : W (sf_law_rule [.ref 0]) (o :: r) fun v st => ∃ (xs : List Str) (o' : SO), v = .dat (.tuple (xs.map .str)) ∧ xs.Sublist gsS ∧ SpO (c + 13) o' ∧ st = o' :: r := by
  unfold sf_law_rule bf_law_rule
  simp only [W_runF, WS_seq, WS_par2, W_aCons, W_aNil, W_eCall, W_eV, W_eC, List.map_cons, List.map_nil]
  simp
  refine (dip_ok ho (by omega) (by decide) (by decide)).mono ?_
  rintro _ _ ⟨way, o1, rfl, w0, w1, ho1, rfl⟩
  have e1 : strsOf (grdW.map .str) = some grdW := PL.strs_map _
  have e2 : grdW.length < 64 := by decide +kernel
  simp only [W_guards_l, W_on1L, W_on1, W_sortXs, e2, sort_gs, true_and]
  have fin : ∀ {l : List PyData}, l.Sublist (gsS.map .str) → ∃ xs : List Str, l = xs.map .str ∧ xs.Sublist gsS := fun h1 => sub_strs h1
  have gl := gsD_len
  have gne := gsD_ne
  have gl2 : (gsS.map PyData.str).length ≤ 16777216 := by rw [gl]; omega
  have sub : ∀ (lo hi : Option Int), (PL.cutD (gsS.map PyData.str) lo hi).Sublist (gsS.map .str) := fun lo hi => (List.take_sublist _ _).trans (List.drop_sublist _ _)
  generalize hgs : gsS.map PyData.str = gs at *
  by_cases h2 : way < 2
  · simp [h2, i64]
    obtain ⟨ys, e, hy⟩ := fin (sub none (some (12 * way)))
    exact ⟨ys, e, hy, ho1.mono (by omega)⟩
  · by_cases h3 : way = 2
    · subst h3
      simp [shI, PyData.eqv]
      refine (pick_ok ho1 (by omega) gne (by rw [gl]; omega)).mono ?_
      rintro _ _ ⟨out, o2, rfl, hout, ho2, rfl⟩
      have so : SeqAt.shaped out = true := by
        rw [← hgs] at hout
        obtain ⟨x, hx, rfl⟩ := List.mem_map.mp hout
        exact sh0 (gs_tok x hx).ok
      simp [sizeLine, gl2]
      refine W.mono (cg_sub (t := gN 4) (fun _ s => s = o2 :: r) gs 0 (fun i d st hi e => ⟨_, rfl, ?_, fun st Q => by simp [wipeE]⟩) rfl) ?_
      · have sd : SeqAt.shaped d = true := by
          have hd := List.mem_of_getElem? hi
          rw [← hgs] at hd
          obtain ⟨x, hx, rfl⟩ := List.mem_map.mp hd
          exact sh0 (gs_tok x hx).ok
        subst e
        simp [wipeE, so, sd]
      · rintro l s ⟨hl, rfl⟩
        obtain ⟨ys, e, hy⟩ := fin hl
        simp
        exact ⟨ys, e, hy, ho2.mono (by omega)⟩
    · simp [shI, PyData.eqv, h2, h3, sizeLine, gl2]
      refine W.mono (cg_sub (t := gN 4) (fun k s => ∃ o', SpO (c + 1 + k) o' ∧ s = o' :: r) gs 0 (fun i d st hi ⟨o', ho', e⟩ => ⟨_, rfl, ?_, fun st Q => by simp [wipeE]⟩) ⟨o1, ho1, rfl⟩) ?_
      · have hi' : i < 12 := by have := (List.getElem?_eq_some_iff.mp hi).1; rw [gl] at this; exact this
        subst e
        simp [wipeE]
        refine (dip_ok ho' (by omega) (by decide) (by decide)).mono ?_
        rintro _ _ ⟨d, o3, rfl, d0, d1, ho3, rfl⟩
        simp [shI]
        exact ho3.mono (by omega)
      · rintro l s ⟨hl, o', ho', rfl⟩
        rw [gl] at ho'
        obtain ⟨ys, e, hy⟩ := fin hl
        simp
        exact ⟨ys, e, hy, ho'.mono (by omega)⟩

structure TupI (ds : List PyData) : Prop where
  ln : ds.length ≤ 20
  gd : GdA 1 700 ds
theorem TupI.it {ds : List PyData} (h : TupI ds) : It (.tuple ds) := ⟨Gd.tuple h.gd (by have := h.ln; omega), fun es e => by cases e; have := h.ln; omega⟩
def wdB (d : PyData) : Bool := match d with | .str x => PyData.strOk x && decide (x.length ≤ 12) | _ => false
theorem wd_of {d : PyData} (h : wdB d = true) : ∃ w, d = .str w ∧ Tok8 12 w := by
  cases d with
  | str x =>
    simp only [wdB, Bool.and_eq_true, decide_eq_true_eq] at h
    exact ⟨x, rfl, h.1, h.2⟩
  | _ => cases h
def ptB (d : PyData) : Bool := match d with | .int i => decide (i.natAbs < 10 ^ 60) | _ => false
theorem pt_of {d : PyData} (h : ptB d = true) : ∃ i : Int, d = .int i ∧ i.natAbs < 10 ^ 60 := by
  cases d with
  | int i => exact ⟨i, rfl, by simpa [ptB] using h⟩
  | _ => cases h
theorem gW {w : Str} (h : Tok8 12 w) : Gd 1 700 (.str w) := .str h (by omega)
theorem gI {i : Int} (h : i.natAbs < 10 ^ 60) : Gd 1 700 (.int i) := .int h (by omega) (by omega) (by omega)
set_option maxHeartbeats 4000000 in
theorem deed_ok {c : Nat} {o : SO} {r : Sto} {pgs : List PyData} (ho : SpO c o) (hc : c ≤ 1000000000) (hp : PgL pgs) : W (sf_law_deed [.ref 0, .dat (.list pgs)]) (o :: r) fun v st => ∃ ds o', v = .dat (.tuple ds) ∧ TupI ds ∧ SpO (c + 3) o' ∧ st = o' :: r := by
  unfold sf_law_deed bf_law_deed
  have pne : pgs ≠ [] := fun e => by have := hp.1; rw [e] at this; cases this
  have wl := fun {w : Str} {st : Sto} {Q : Val → Sto → Prop} (hw : PyData.strOk w = true) => W_inWs (ws := lonW) (st := st) (Q := Q) hw (by decide +kernel)
  have el : lonW.map PyData.str = [.str "seal", .str "stop", .str "end"] := rfl
  rw [el] at wl
  simp [-W_inT, sizeLine]
  refine (pick_ok ho (by omega) (by simp) (by simp)).mono ?_
  rintro _ _ ⟨d, o1, rfl, hd, ho1, rfl⟩
  obtain ⟨w, rfl, hw⟩ := wd_of (all_of (p := wdB) (by decide +kernel) hd)
  have sw := sh0 hw.ok
  by_cases hpt : w = "point"
  · subst hpt
    simp [shLit, PyData.eqv]
    refine (dip_ok ho1 (by omega) (by decide) (by decide)).mono ?_
    rintro _ _ ⟨d, o2, rfl, d0, d1, ho2, rfl⟩
    simp [sizeLine]
    refine (pick_ok ho2 (by omega) (by simp) (by simp)).mono ?_
    rintro _ _ ⟨e, o3, rfl, he, ho3, rfl⟩
    have hb : ptB e = true := by
      simp only [List.mem_cons, List.not_mem_nil, or_false] at he
      rcases he with rfl | rfl | rfl | rfl | rfl | rfl
      · decide +kernel
      · decide +kernel
      · decide +kernel
      · decide +kernel
      · simp [ptB]; omega
      · decide +kernel
    obtain ⟨i, rfl, hi⟩ := pt_of hb
    simp [sizeLine]
    exact ⟨⟨by simp, gdC.mpr ⟨gW hw, gdC.mpr ⟨gI hi, .nil⟩⟩⟩, ho3.mono (by omega)⟩
  · cases hL : sIn w lonW with
    | true =>
      simp [-W_inT, shLit, sw, PyData.eqv, hpt, wl hw.ok, hL, sizeLine]
      exact ⟨⟨by simp, gdC.mpr ⟨gW hw, .nil⟩⟩, ho1.mono (by omega)⟩
    | false =>
      simp [-W_inT, shLit, sw, PyData.eqv, hpt, wl hw.ok, hL, sizeLine]
      refine (pick_ok ho1 (by omega) pne (by have := hp.1; omega)).mono ?_
      rintro _ _ ⟨d, o2, rfl, hd, ho2, rfl⟩
      obtain ⟨x, rfl, hx1, hx2⟩ := hp.2 d hd
      simp [sizeLine]
      exact ⟨⟨by simp, gdC.mpr ⟨gW hw, gdC.mpr ⟨gW hx2, .nil⟩⟩⟩, ho2.mono (by omega)⟩
set_option maxHeartbeats 4000000 in
theorem record_ok {c : Nat} {o : SO} {r : Sto} {pgs : List PyData} (ho : SpO c o) (hc : c ≤ 1000000000) (hp : PgL pgs) : W (sf_law_record [.ref 0, .dat (.list pgs)]) (o :: r) fun v st => ∃ ds o', v = .dat (.tuple ds) ∧ TupI ds ∧ SpO (c + 3) o' ∧ st = o' :: r := by
  unfold sf_law_record bf_law_record
  have pne : pgs ≠ [] := fun e => by have := hp.1; rw [e] at this; cases this
  have wl := fun {w : Str} {st : Sto} {Q : Val → Sto → Prop} (hw : PyData.strOk w = true) => W_inWs (ws := plnW) (st := st) (Q := Q) hw (by decide +kernel)
  have el : plnW.map PyData.str = [.str "free", .str "strike"] := rfl
  rw [el] at wl
  simp [-W_inT, sizeLine]
  refine (pick_ok ho (by omega) (by simp) (by simp)).mono ?_
  rintro _ _ ⟨d, o1, rfl, hd, ho1, rfl⟩
  obtain ⟨w, rfl, hw⟩ := wd_of (all_of (p := wdB) (by decide +kernel) hd)
  refine (pick_ok ho1 (by omega) pne (by have := hp.1; omega)).mono ?_
  rintro _ _ ⟨d, o2, rfl, hd, ho2, rfl⟩
  obtain ⟨x, rfl, hx1, hx2⟩ := hp.2 d hd
  cases hL : sIn w plnW with
  | true =>
    simp [-W_inT, wl hw.ok, hL, sizeLine]
    exact ⟨⟨by simp, gdC.mpr ⟨gW hw, gdC.mpr ⟨gW hx2, .nil⟩⟩⟩, ho2.mono (by omega)⟩
  | false =>
    simp [-W_inT, wl hw.ok, hL, sizeLine]
    refine (dip_ok ho2 (by omega) (by decide) (by decide)).mono ?_
    rintro _ _ ⟨d, o3, rfl, d0, d1, ho3, rfl⟩
    simp [sizeLine]
    exact ⟨⟨by simp, gdC.mpr ⟨gW hw, gdC.mpr ⟨gW hx2, gdC.mpr ⟨gI (by omega), .nil⟩⟩⟩⟩, ho3.mono (by omega)⟩
def oddB (d : PyData) : Bool := gdB 1 700 d
theorem gda_cut {k n : Nat} {ds : List PyData} (h : GdA k n ds) (lo hi : Option Int) : GdA k n (PL.cutD ds lo hi) := fun d hd => h d (cut_mem hd)
theorem gda_it {ds : List PyData} (h : GdA 1 700 ds) (hl : ds.length ≤ 50) : It (.tuple ds) := ⟨Gd.tuple h (by omega), fun es e => by cases e; omega⟩
theorem gda_itL {ds : List PyData} (h : GdA 1 700 ds) (hl : ds.length ≤ 50) : It (.list ds) := ⟨Gd.list h (by omega), fun es e => by cases e⟩
set_option maxHeartbeats 4000000 in
theorem bent_ok {c : Nat} {o : SO} {r : Sto} {ds : List PyData} (ho : SpO c o) (hc : c ≤ 1000000000) (hd : TupI ds) : W (sf_law_bent [.ref 0, .dat (.tuple ds)]) (o :: r) fun v st => ∃ e o', v = .dat e ∧ It e ∧ SpO (c + 3) o' ∧ st = o' :: r := by
  unfold sf_law_bent bf_law_bent
  have hln := hd.ln
  simp [sizeLine]
  refine (dip_ok ho (n := ds.length + 1) (by omega) (by omega) (by omega)).mono ?_
  rintro _ _ ⟨k, o1, rfl, k0, k1, ho1, rfl⟩
  refine (dip_ok ho1 (by omega) (by decide) (by decide)).mono ?_
  rintro _ _ ⟨way, o2, rfl, w0, w1, ho2, rfl⟩
  simp [sizeLine]
  refine (pick_ok ho2 (by omega) (by simp) (by simp)).mono ?_
  rintro _ _ ⟨odd, o3, rfl, hodd, ho3, rfl⟩
  have go : Gd 1 700 odd := gd_of (all_of (p := oddB) (by decide +kernel) hodd)
  have a1 := gda_cut hd.gd none (some k)
  have a2 := gda_cut hd.gd (some k) none
  have a3 := gda_cut hd.gd (some (k + 1)) none
  have l1 := cut_len (xs := ds) (lo := none) (hi := some k)
  have l2 := cut_len (xs := ds) (lo := some k) (hi := none)
  have l3 := cut_len (xs := ds) (lo := some (k + 1)) (hi := none)
  have b1 : It (.tuple (PL.cutD ds none (some k) ++ odd :: PL.cutD ds (some k) none)) := gda_it (PL.GdA.app a1 (gdC.mpr ⟨go, a2⟩)) (by simp; omega)
  have b2 : It (.tuple (PL.cutD ds none (some k) ++ PL.cutD ds (some (k + 1)) none)) := gda_it (PL.GdA.app a1 a3) (by simp; omega)
  have b3 : It (.tuple (PL.cutD ds none (some k) ++ odd :: PL.cutD ds (some (k + 1)) none)) := gda_it (PL.GdA.app a1 (gdC.mpr ⟨go, a3⟩)) (by simp; omega)
  have b4 : It (.list ds) := gda_itL hd.gd (by omega)
  have b5 : It (.tuple ds.reverse) := gda_it (fun d h => hd.gd d (List.mem_reverse.mp h)) (by simp; omega)
  have ho4 := ho3.mono (c' := c + 3) (by omega)
  generalize PL.cutD ds none (some k) = A at *
  generalize PL.cutD ds (some k) none = B at *
  generalize PL.cutD ds (some (k + 1)) none = C at *
  have z1 : A.length + 1 ≤ 16777216 := by omega
  have z2 : A.length + 1 + B.length ≤ 16777216 := by omega
  have z3 : A.length + 1 + C.length ≤ 16777216 := by omega
  have z4 : A.length + C.length ≤ 16777216 := by omega
  have z5 : A.length ≤ 16777215 := by omega
  have h5 : (way = 0 ∨ way = 1) ∨ (way = 2 ∨ way = 3) ∨ way = 4 := by omega
  rcases h5 with (rfl | rfl) | (rfl | rfl) | rfl
  · simp [shI, PyData.eqv, sizeLine, z1, z2, z3, z4, z5]
    first | exact ⟨b1, ho4⟩ | exact ⟨by omega, b1, ho4⟩
  · simp [shI, PyData.eqv, sizeLine, z1, z2, z3, z4, z5]
    first | exact ⟨b2, ho4⟩ | exact ⟨by omega, b2, ho4⟩
  · simp [shI, PyData.eqv, sizeLine, z1, z2, z3, z4, z5]
    first | exact ⟨b4, ho4⟩ | exact ⟨by omega, b4, ho4⟩
  · simp [shI, PyData.eqv, sizeLine, z1, z2, z3, z4, z5]
    first | exact ⟨b3, ho4⟩ | exact ⟨by omega, b3, ho4⟩
  · simp [shI, PyData.eqv, sizeLine, z1, z2, z3, z4, z5]
    first | exact ⟨b5, ho4⟩ | exact ⟨by omega, b5, ho4⟩
end PLaw

set_option Elab.async false
set_option linter.all false
set_option maxRecDepth 100000
namespace PLaw
open PySem PySem.Spec L2 PL
open PyProof.Rows hiding St
def itB (d : PyData) : Bool := gdB 2 60000 d && (match d with | .tuple ds => decide (ds.length ≤ 1000) | _ => true)
theorem it_of {d : PyData} (h : itB d = true) : It d := by
  simp only [itB, Bool.and_eq_true] at h
  refine ⟨gd_of h.1, fun ds e => ?_⟩
  subst e
  simpa using h.2
def LwJ (ns : List Int) (pgs : List PyData) (k : Nat) (ρ : Ev) (s : Sto) : Prop := ∃ x4 x5 x6 o its, ρ = [some (.scr ns), some (.ref 0), some (.dat (.list pgs)), some (.ref 1), x4, x5, x6, none, none] ∧ s = [o, .lst its] ∧ (∀ d ∈ its, It d) ∧ its.length ≤ 100 + 10 * k ∧ SpO (1 + 100 * k) o
theorem mul6 {st : Sto} {Q : Val → Sto → Prop} : W (mulD (.list [.bool true]) (.int 6)) st Q ↔ Q (.dat (.list [.bool true, .bool true, .bool true, .bool true, .bool true, .bool true])) st := W_ok rfl
def firstI : List PyData := [.none, .bool true, .bool false, .int 0, .int 1, .int (-1), .int 100000000000000000000000000000000000000000000000000000000000, .str "", .str "a", .str "abcdefgh", .str "abcdefghi"]
set_option maxHeartbeats 16000000 in
theorem law_true (ns : List Int) (h : ns.length ≤ 63) : ∃ st, sp_law [.scr ns] [] = .ok (.dat (.bool true)) st := by
  have key : W (sp_law [.scr ns]) [] fun v _ => v = .dat (.bool true) := by
    unfold sp_law bp_law
    simp [-W_repr]
    refine (spring_ok ns).mono ?_
    rintro _ _ ⟨o, rfl, ho, rfl⟩
    refine (pages_ok ho (by omega)).mono ?_
    rintro _ _ ⟨pgs, o1, rfl, hp, ho1, rfl⟩
    have s0 : SeqAt.shaped (.list []) = true := by decide +kernel
    simp [-W_repr, sizeLine]
    refine for_inv (LwJ ns pgs) _ 0 _ _ ⟨_, _, _, _, _, rfl, rfl, ?_, ?_, ho1⟩ ?_ ?_
    · intro d hd
      exact it_of (all_of (p := itB) (by decide +kernel) hd)
    · simp
    · rintro i d ρ st hi ⟨x4, x5, x6, o, its, rfl, rfl, hits, hil, ho⟩
      have hi' : i < 6 := by
        have := (List.getElem?_eq_some_iff.mp hi).1
        simpa using this
      refine ⟨_, rfl, ?_⟩
      simp [-W_repr]
      refine (deed_ok ho (by omega) hp).mono ?_
      rintro _ _ ⟨d1, o2, rfl, hd1, ho2, rfl⟩
      refine (record_ok ho2 (by omega) hp).mono ?_
      rintro _ _ ⟨d2, o3, rfl, hd2, ho3, rfl⟩
      refine (rul_ok ho3 (by omega)).mono ?_
      rintro _ _ ⟨xs, o4, rfl, hxs, ho4, rfl⟩
      have hd3 : TupI (xs.map .str) := ⟨by have := sub_len hxs; simp; omega, GdA.mono (sub_gd hxs) (by omega) (by omega)⟩
      simp [-W_repr, sizeLine]
      refine ⟨_, rfl, ?_⟩
      simp [-W_repr, wipeE]
      refine (bent_ok ho4 (by omega) hd1).mono ?_
      rintro _ _ ⟨e1, o5, rfl, he1, ho5, rfl⟩
      simp [-W_repr]
      refine ⟨_, rfl, ?_⟩
      simp [-W_repr, wipeE]
      refine (bent_ok ho5 (by omega) hd2).mono ?_
      rintro _ _ ⟨e2, o6, rfl, he2, ho6, rfl⟩
      simp [-W_repr]
      refine ⟨_, rfl, ?_⟩
      simp [-W_repr, wipeE]
      refine (bent_ok ho6 (by omega) hd3).mono ?_
      rintro _ _ ⟨e3, o7, rfl, he3, ho7, rfl⟩
      simp [-W_repr, sizeLine]
      refine ⟨by omega, ⟨_, _, _, _, _, rfl, rfl, ?_, ?_, ho7.mono (by omega)⟩⟩
      · intro d hd
        rcases List.mem_append.mp hd with q | q
        · exact hits d q
        · simp at q
          rcases q with rfl | rfl | rfl | rfl | rfl | rfl
          · exact hd1.it
          · exact hd2.it
          · exact hd3.it
          · exact he1
          · exact he2
          · exact he3
      · simp; omega
    · rintro ρ st ⟨x4, x5, x6, o, its, rfl, rfl, hits, hil, ho⟩
      simp at hil
      have hl : its.length ≤ 16777216 := by omega
      simp [-W_repr, sizeLine, hl]
      rw [cg_pure (c := fun _ => false) (g := id)]
      · have e1 : List.filter (fun (_ : PyData) => false) its = [] := by simp
        rw [e1]
        have t1 := fun {st : Sto} {Q : Val → Sto → Prop} => W_int_p (d := .int 1) (st := st) (Q := Q)
        have t2 := fun {st : Sto} {Q : Val → Sto → Prop} => W_num_p (d := .int 1) (st := st) (Q := Q)
        have t3 := fun {st : Sto} {Q : Val → Sto → Prop} => W_page_p (k := 0) (n := 100) (d := .str "a") (st := st) (Q := Q) (gd_of (by decide +kernel)) (by omega)
        have t4 := fun {st : Sto} {Q : Val → Sto → Prop} => W_rec_p (k := 1) (n := 100) (d := .tuple [.str "free", .str "a"]) (st := st) (Q := Q) (gd_of (by decide +kernel)) (by omega)
        have t5 := fun {st : Sto} {Q : Val → Sto → Prop} => W_deed_p (k := 1) (n := 100) (d := .tuple [.str "end"]) (st := st) (Q := Q) (gd_of (by decide +kernel)) (by omega)
        have t6 := fun {st : Sto} {Q : Val → Sto → Prop} => W_rule_p (k := 1) (n := 100) (d := .tuple []) (st := st) (Q := Q) (gd_of (by decide +kernel)) (fun ds e => by cases e; simp)
        rw [show intB (.int 1) = true from rfl] at t1
        rw [show numB (.int 1) = true from rfl] at t2
        rw [show pgB (.str "a") = true by decide +kernel] at t3
        rw [show recB (.tuple [.str "free", .str "a"]) = true by decide +kernel] at t4
        rw [show deedB (.tuple [.str "end"]) = true by decide +kernel] at t5
        rw [show rulB (.tuple []) = true by decide +kernel] at t6
        have g : Gd 2 10000 (.list [.tuple (grdW.map .str), .tuple [.str "old", .str "missed", .str "open"], .list [.bool true, .bool true, .bool true, .bool true, .bool true, .bool true]]) := gd_of (by decide +kernel)
        have w7 := fun {st : Sto} {Q : Val → Sto → Prop} => g.rp (st := st) (Q := Q) (by omega) (by omega)
        have eg : c_GUARDS = .tuple (grdW.map .str) := rfl
        have eh : c_HARMS = .tuple [.str "old", .str "missed", .str "open"] := rfl
        rw [eg, eh]
        have wg := fun {st : Sto} {Q : Val → Sto → Prop} => W_guards_l (st := st) (Q := Q)
        generalize grdW.map PyData.str = GW at *
        simp [-W_repr, s0, PyData.eqv, PyData.eqvAll, t1, t2, t3, t4, t5, t6, wg, mul6, w7, g.shs]
      · intro d hd
        have w2 := fun {st : Sto} {Q : Val → Sto → Prop} => W_ok (Q := Q) (right_l (hits d hd) st)
        refine ⟨_, rfl, fun st Q => ?_, fun hc => by cases hc⟩
        simp [wipeE, w2, tru]
  obtain ⟨v, st, e, rfl⟩ := key
  exact ⟨st, e⟩
end PLaw

set_option Elab.async false
set_option linter.all false
set_option maxRecDepth 100000
namespace PLaw
open PySem PySem.Spec L2 PL
open PyProof.Rows hiding St
/-! ### the head -/
def fn : List He.DefD := [⟨("is_integer", none), "is_integer", "is_integer", defArgs (top 9), defBody (top 9), defScope (top 9), [], []⟩,
  ⟨("is_number", none), "is_number", "is_number", defArgs (top 10), defBody (top 10), defScope (top 10), [], []⟩,
  ⟨("is_count", none), "is_count", "is_count", defArgs (top 11), defBody (top 11), defScope (top 11), [], []⟩,
  ⟨("is_page", none), "is_page", "is_page", defArgs (top 12), defBody (top 12), defScope (top 12), [], []⟩,
  ⟨("first_word", none), "first_word", "first_word", defArgs (top 13), defBody (top 13), defScope (top 13), [], []⟩,
  ⟨("is_record", none), "is_record", "is_record", defArgs (top 14), defBody (top 14), defScope (top 14), [], []⟩,
  ⟨("is_deed", none), "is_deed", "is_deed", defArgs (top 15), defBody (top 15), defScope (top 15), [], []⟩,
  ⟨("is_guard", none), "is_guard", "is_guard", defArgs (top 16), defBody (top 16), defScope (top 16), [], []⟩,
  ⟨("is_rule", none), "is_rule", "is_rule", defArgs (top 17), defBody (top 17), defScope (top 17), [], []⟩,
  ⟨("_law_spring", none), "_law_spring", "_law_spring", defArgs (top 19), defBody (top 19), defScope (top 19), [], []⟩,
  ⟨("_law_dip", none), "_law_dip", "_law_dip", defArgs (top 20), defBody (top 20), defScope (top 20), [], []⟩,
  ⟨("_law_pick", none), "_law_pick", "_law_pick", defArgs (top 21), defBody (top 21), defScope (top 21), [], []⟩,
  ⟨("_law_is_integer", none), "_law_is_integer", "_law_is_integer", defArgs (top 22), defBody (top 22), defScope (top 22), [], []⟩,
  ⟨("_law_is_page", none), "_law_is_page", "_law_is_page", defArgs (top 23), defBody (top 23), defScope (top 23), [], []⟩,
  ⟨("_law_is_count", none), "_law_is_count", "_law_is_count", defArgs (top 24), defBody (top 24), defScope (top 24), [], []⟩,
  ⟨("_law_is_record", none), "_law_is_record", "_law_is_record", defArgs (top 25), defBody (top 25), defScope (top 25), [], []⟩,
  ⟨("_law_is_deed", none), "_law_is_deed", "_law_is_deed", defArgs (top 26), defBody (top 26), defScope (top 26), [], []⟩,
  ⟨("_law_guards", none), "_law_guards", "_law_guards", defArgs (top 27), defBody (top 27), defScope (top 27), [], []⟩,
  ⟨("_law_is_rule", none), "_law_is_rule", "_law_is_rule", defArgs (top 28), defBody (top 28), defScope (top 28), [], []⟩,
  ⟨("_law_rule", none), "_law_rule", "_law_rule", defArgs (top 29), defBody (top 29), defScope (top 29), [], []⟩,
  ⟨("_law_pages", none), "_law_pages", "_law_pages", defArgs (top 30), defBody (top 30), defScope (top 30), [], []⟩,
  ⟨("_law_deed", none), "_law_deed", "_law_deed", defArgs (top 31), defBody (top 31), defScope (top 31), [], []⟩,
  ⟨("_law_bent", none), "_law_bent", "_law_bent", defArgs (top 32), defBody (top 32), defScope (top 32), [], []⟩,
  ⟨("_law_record", none), "_law_record", "_law_record", defArgs (top 33), defBody (top 33), defScope (top 33), [], []⟩,
  ⟨("_law_are_right", none), "_law_are_right", "_law_are_right", defArgs (top 34), defBody (top 34), defScope (top 34), [], []⟩,
  ⟨("law", none), "law", "law", defArgs (top 35), defBody (top 35), defScope (top 35), [], []⟩]
def fa : List He.Fa := [.glo "is_integer", .glo "is_number", .glo "is_count", .glo "is_page", .glo "first_word", .glo "is_record", .glo "is_deed", .glo "is_guard", .glo "is_rule", .glo "_law_spring", .glo "_law_dip", .glo "_law_pick", .glo "_law_is_integer", .glo "_law_is_page", .glo "_law_is_count", .glo "_law_is_record", .glo "_law_is_deed", .glo "_law_guards", .glo "_law_is_rule", .glo "_law_rule", .glo "_law_pages", .glo "_law_deed", .glo "_law_bent", .glo "_law_record", .glo "_law_are_right", .glo "law", .free "all", .free "bool", .free "int", .free "isinstance", .free "len", .free "list", .free "range", .free "repr", .free "set", .free "sorted", .free "str", .free "tuple", .free "zip"]
def tabs : List He.Tab := []
def ex (K : PySem.W.Frag) : Bool := (gloB K "GUARDS" c_GUARDS && (gloB K "HARMS" c_HARMS && (gloB K "LONE_DEEDS" c_LONE_DEEDS && (gloB K "LONGEST" c_LONGEST && (gloB K "LOWERCASE" c_LOWERCASE && (gloB K "NUMBERED_RECORDS" c_NUMBERED_RECORDS && (gloB K "PAGE_DEEDS" c_PAGE_DEEDS && (gloB K "PLAIN_RECORDS" c_PLAIN_RECORDS && true))))))))
abbrev R : PySem.W.OpenRow := PySem.W.OpenLaw.row PySem.Challenge.rw_pagelives_k01_kinds
abbrev hk : PySem.W.Hook := He.hookX 5 fa fn tabs [] ex
def ob (s : PySem.W.SharedT) : He.AlX := He.obsX 5 fa fn tabs [] ex (HandSHeadRun.getT s)
theorem ob_eq (s : PySem.W.SharedT) : ob s = hk.obs s.abs := He.obsX_eq (HandSHeadRun.getT_eq s)
def loose0 : List Str := ["GUARDS", "HARMS", "LOWERCASE", "LONGEST", "NUMBERED_RECORDS", "PLAIN_RECORDS", "PAGE_DEEDS", "LONE_DEEDS", "is_integer", "is_number", "is_count", "is_page", "first_word", "is_record", "is_deed"]
def loose1 : List Str := ["is_guard", "is_rule", "_law_spring", "_law_dip", "_law_pick", "_law_is_integer", "_law_is_page", "_law_is_count", "_law_is_record", "_law_is_deed", "_law_guards", "_law_is_rule", "_law_rule", "_law_pages", "_law_deed"]
def loose2 : List Str := ["_law_bent", "_law_record", "_law_are_right"]
abbrev loose : List Str := loose0 ++ loose1 ++ loose2
set_option maxHeartbeats 0 in
theorem run_false (w : World) : HandSHeadRun.RunEq R (PySem.W.view R.prog [35]) hk ob 30000 loose (w.withFollow "special-get-raises" false) := by
  intro os
  kernel_rfl
set_option maxHeartbeats 0 in
theorem run_true (w : World) : HandSHeadRun.RunEq R (PySem.W.view R.prog [35]) hk ob 30000 loose (w.withFollow "special-get-raises" true) := by
  intro os
  kernel_rfl
theorem run (w : World) : HandSHeadRun.RunEq R (PySem.W.view R.prog [35]) hk ob 30000 loose w :=
  PySem.W.byRow2 "special-get-raises" (P := fun w => HandSHeadRun.RunEq R (PySem.W.view R.prog [35]) hk ob 30000 loose w) run_false run_true w
theorem facts {w : World} {K : PySem.W.Frag} {h : Heap} {mg : Str → Option Value} (X : K.In h) (G : h.Ns mainGlobals mg) (c : He.SaysX fa fn tabs [] ex w h K) : Tx K mg w where
  f_all := He.free_ok X G (c.t.d.fact 26 (f := .free "all") rfl)
  f_bool := He.free_ok X G (c.t.d.fact 27 (f := .free "bool") rfl)
  f_int := He.free_ok X G (c.t.d.fact 28 (f := .free "int") rfl)
  f_isinstance := He.free_ok X G (c.t.d.fact 29 (f := .free "isinstance") rfl)
  f_len := He.free_ok X G (c.t.d.fact 30 (f := .free "len") rfl)
  f_list := He.free_ok X G (c.t.d.fact 31 (f := .free "list") rfl)
  f_range := He.free_ok X G (c.t.d.fact 32 (f := .free "range") rfl)
  f_repr := He.free_ok X G (c.t.d.fact 33 (f := .free "repr") rfl)
  f_set := He.free_ok X G (c.t.d.fact 34 (f := .free "set") rfl)
  f_sorted := He.free_ok X G (c.t.d.fact 35 (f := .free "sorted") rfl)
  f_str := He.free_ok X G (c.t.d.fact 36 (f := .free "str") rfl)
  f_tuple := He.free_ok X G (c.t.d.fact 37 (f := .free "tuple") rfl)
  f_zip := He.free_ok X G (c.t.d.fact 38 (f := .free "zip") rfl)
  g_GUARDS := gloB_ok X G (He.ba c.more).1
  g_HARMS := gloB_ok X G (He.ba (He.ba c.more).2).1
  g_LONE_DEEDS := gloB_ok X G (He.ba (He.ba (He.ba c.more).2).2).1
  g_LONGEST := gloB_ok X G (He.ba (He.ba (He.ba (He.ba c.more).2).2).2).1
  g_LOWERCASE := gloB_ok X G (He.ba (He.ba (He.ba (He.ba (He.ba c.more).2).2).2).2).1
  g_NUMBERED_RECORDS := gloB_ok X G (He.ba (He.ba (He.ba (He.ba (He.ba (He.ba c.more).2).2).2).2).2).1
  g_PAGE_DEEDS := gloB_ok X G (He.ba (He.ba (He.ba (He.ba (He.ba (He.ba (He.ba c.more).2).2).2).2).2).2).1
  g_PLAIN_RECORDS := gloB_ok X G (He.ba (He.ba (He.ba (He.ba (He.ba (He.ba (He.ba (He.ba c.more).2).2).2).2).2).2).2).1
  mp_is_integer := He.glo_ok X G (c.t.d.fact 0 (f := .glo "is_integer") rfl)
  dp_is_integer := c.t.d.def_ 0 rfl
  mp_is_number := He.glo_ok X G (c.t.d.fact 1 (f := .glo "is_number") rfl)
  dp_is_number := c.t.d.def_ 1 rfl
  mp_is_count := He.glo_ok X G (c.t.d.fact 2 (f := .glo "is_count") rfl)
  dp_is_count := c.t.d.def_ 2 rfl
  mp_is_page := He.glo_ok X G (c.t.d.fact 3 (f := .glo "is_page") rfl)
  dp_is_page := c.t.d.def_ 3 rfl
  mp_first_word := He.glo_ok X G (c.t.d.fact 4 (f := .glo "first_word") rfl)
  dp_first_word := c.t.d.def_ 4 rfl
  mp_is_record := He.glo_ok X G (c.t.d.fact 5 (f := .glo "is_record") rfl)
  dp_is_record := c.t.d.def_ 5 rfl
  mp_is_deed := He.glo_ok X G (c.t.d.fact 6 (f := .glo "is_deed") rfl)
  dp_is_deed := c.t.d.def_ 6 rfl
  mp_is_guard := He.glo_ok X G (c.t.d.fact 7 (f := .glo "is_guard") rfl)
  dp_is_guard := c.t.d.def_ 7 rfl
  mp_is_rule := He.glo_ok X G (c.t.d.fact 8 (f := .glo "is_rule") rfl)
  dp_is_rule := c.t.d.def_ 8 rfl
  mf_law_spring := He.glo_ok X G (c.t.d.fact 9 (f := .glo "_law_spring") rfl)
  df_law_spring := c.t.d.def_ 9 rfl
  mf_law_dip := He.glo_ok X G (c.t.d.fact 10 (f := .glo "_law_dip") rfl)
  df_law_dip := c.t.d.def_ 10 rfl
  mf_law_pick := He.glo_ok X G (c.t.d.fact 11 (f := .glo "_law_pick") rfl)
  df_law_pick := c.t.d.def_ 11 rfl
  mf_law_is_integer := He.glo_ok X G (c.t.d.fact 12 (f := .glo "_law_is_integer") rfl)
  df_law_is_integer := c.t.d.def_ 12 rfl
  mf_law_is_page := He.glo_ok X G (c.t.d.fact 13 (f := .glo "_law_is_page") rfl)
  df_law_is_page := c.t.d.def_ 13 rfl
  mf_law_is_count := He.glo_ok X G (c.t.d.fact 14 (f := .glo "_law_is_count") rfl)
  df_law_is_count := c.t.d.def_ 14 rfl
  mf_law_is_record := He.glo_ok X G (c.t.d.fact 15 (f := .glo "_law_is_record") rfl)
  df_law_is_record := c.t.d.def_ 15 rfl
  mf_law_is_deed := He.glo_ok X G (c.t.d.fact 16 (f := .glo "_law_is_deed") rfl)
  df_law_is_deed := c.t.d.def_ 16 rfl
  mf_law_guards := He.glo_ok X G (c.t.d.fact 17 (f := .glo "_law_guards") rfl)
  df_law_guards := c.t.d.def_ 17 rfl
  mf_law_is_rule := He.glo_ok X G (c.t.d.fact 18 (f := .glo "_law_is_rule") rfl)
  df_law_is_rule := c.t.d.def_ 18 rfl
  mf_law_rule := He.glo_ok X G (c.t.d.fact 19 (f := .glo "_law_rule") rfl)
  df_law_rule := c.t.d.def_ 19 rfl
  mf_law_pages := He.glo_ok X G (c.t.d.fact 20 (f := .glo "_law_pages") rfl)
  df_law_pages := c.t.d.def_ 20 rfl
  mf_law_deed := He.glo_ok X G (c.t.d.fact 21 (f := .glo "_law_deed") rfl)
  df_law_deed := c.t.d.def_ 21 rfl
  mf_law_bent := He.glo_ok X G (c.t.d.fact 22 (f := .glo "_law_bent") rfl)
  df_law_bent := c.t.d.def_ 22 rfl
  mf_law_record := He.glo_ok X G (c.t.d.fact 23 (f := .glo "_law_record") rfl)
  df_law_record := c.t.d.def_ 23 rfl
  mf_law_are_right := He.glo_ok X G (c.t.d.fact 24 (f := .glo "_law_are_right") rfl)
  df_law_are_right := c.t.d.def_ 24 rfl
  mp_law := He.glo_ok X G (c.t.d.fact 25 (f := .glo "law") rfl)
  dp_law := c.t.d.def_ 25 rfl
end PLaw

set_option Elab.async false
set_option linter.all false
set_option maxRecDepth 100000
open PySem PySem.W PySem.Calls
set_option maxRecDepth 100000 in
set_option maxHeartbeats 0 in
theorem PySem.Challenge.cw_pagelives_k01_kinds_holds : PySem.Challenge.rw_pagelives_k01_kinds.Holds := by
  w_on; o_law
  refine HandSHeadRun.head_any (r := PLaw.R) (q := view PLaw.R.prog [35]) (H := PLaw.hk) (ob := PLaw.ob) (M := 30000) (loose := PLaw.loose) (d := HandSHeadRun.topDef PLaw.R.prog 35) (kwd := []) PLaw.ob_eq
    (by kernel_rfl) (fun s => by kernel_rfl) PLaw.run (by kernel_rfl) (by kernel_rfl) (by kernel_rfl) (by rfl) (by first | assumption | decide +kernel) (by decide +kernel) ⟨rfl, rfl, rfl, rfl, rfl, by decide +kernel⟩ ?hw ?hc
  case hw => w_witness2
  case hc =>
    refine PL.walkG (l := PySem.Challenge.rw_pagelives_k01_kinds) (n := 63) (k := 5) (x := "_law_script") (CX := fun _ => L2.CX0) rfl (by decide) (by kernel_rfl) ⟨rfl, by decide, by decide⟩ ?F (fun _ _ _ _ _ z => z)
    intro w mg fa h Y G hmg0
    obtain ⟨K, KX, c⟩ := Y
    have hmg : mg ("law" : PySem.Str) = some (.ref fa) := by
      have e : (HandSHeadRun.topDef PLaw.R.prog 35).name = ("law" : PySem.Str) := by kernel_rfl
      rw [← e]
      exact hmg0
    have T := PLaw.facts KX G c
    obtain ⟨fd, F⟩ := T.dp_law
    have efa := hmg.symm.trans T.mp_law
    cases efa
    have bi := L2.FunD.bindsA (ps := ["_law_script"]) F fun _ _ _ _ _ _ us hl => match us, hl with | [_], _ => rfl
    refine ⟨K, fd, PL.spD ⟨K, fun _ => none⟩ 1 PLaw.sp_law, KX, fun s v => bi s [v] rfl, fun H a ns hl _ hS => PL.law_keeps (PLaw.law_true ns hl).choose_spec hS, fun base _ _ => ?_⟩
    exact PL.fnG_of (PLaw.okp_law T) T.mp_law F
