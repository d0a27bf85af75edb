import PyProof.Rows.All
import Wide.All
import OpenK.AllK
import Wide.FinOn
import HandS.ForMost
import HandS.IsInst
import HandS.Exc
import HandS.WordsExc
import HandS.Defaults
import HandS.TupAny
import HandS.Deep
import HandS.Zip
import HandS.Style
import HandS.HeadHook4
import HandS.HeadEnd
import HandS.Head2
import PySem.Challenge.RW_pagelives_k31_stands_by_form
set_option Elab.async false
set_option linter.all false
set_option maxRecDepth 100000
/-! A layer of plain data over HandS: every expression and statement read as a function on plain data and a small store. -/
namespace PL
open PySem PySem.Spec L2
open PyProof.Rows hiding St

/-- a value of the plain reading: data, a changeable thing of the store, the script -/
inductive Val where
  | dat (d : PyData) | ref (k : Nat) | scr (ns : List Int)
/-- a thing of the store: a list, a dict, a thing that is plain data from now on -/
inductive SO where
  | lst (xs : List PyData) | dct (kvs : List (Key × PyData)) | frz (d : PyData)
abbrev Sto := List SO
abbrev Ev := List (Option Val)
inductive Res (α : Type) where
  | ok (a : α) (st : Sto) | exc (c : Str) (fs : List (Str × PyData)) (st : Sto) | err
abbrev M (α : Type) := Sto → Res α
def ret {α : Type} (a : α) : M α := fun st => .ok a st
def fail {α : Type} : M α := fun _ => .err
def bnd {α β : Type} (x : M α) (f : α → M β) : M β := fun st => match x st with
  | .ok a st' => f a st'
  | .exc c fs st' => .exc c fs st'
  | .err => .err
def opt {α : Type} (x : Option α) : M α := fun st => match x with
  | some a => .ok a st
  | none => .err

/-! ### how data stand in the heap -/
mutual
inductive Rp (K : PySem.W.Frag) (F : Hp) : V → PyData → Prop
  | non : Rp K F .non .none
  | bl (b : Bool) : Rp K F (.bl b) (.bool b)
  | int (i : Int) : Rp K F (.int i) (.int i)
  | str (x : Str) : Rp K F (.str x) (.str x)
  | lst {a : Addr} {xs : List V} {ds : List PyData} : F a = some (.lst xs) → RpAll K F xs ds → Rp K F (.ref a) (.list ds)
  | tup {a : Addr} {xs : List V} {ds : List PyData} : SqT K F a xs → RpAll K F xs ds → Rp K F (.ref a) (.tuple ds)
inductive RpAll (K : PySem.W.Frag) (F : Hp) : List V → List PyData → Prop
  | nil : RpAll K F [] []
  | cons {v : V} {vs : List V} {d : PyData} {ds : List PyData} : Rp K F v d → RpAll K F vs ds → RpAll K F (v :: vs) (d :: ds)
end
def Le (F F' : Hp) : Prop := ∀ a o, F a = some o → F' a = some o
theorem Le.refl (F : Hp) : Le F F := fun _ _ h => h
theorem Le.trans {F G J : Hp} (a : Le F G) (b : Le G J) : Le F J := fun c o h => b c o (a c o h)
theorem Le.rd {F F' : Hp} (l : Le F F') {a : Addr} {u : HO} (h : Rd F a u) : Rd F' a u := by
  rcases h with h | ⟨o, h⟩
  · exact .inl (l _ _ h)
  · exact .inr ⟨o, l _ _ h⟩
theorem Le.sqT {K : PySem.W.Frag} {F F' : Hp} (l : Le F F') {a : Addr} {xs : List V} (h : SqT K F a xs) : SqT K F' a xs := by
  rcases h with h | h
  · exact .inl (l.rd h)
  · exact .inr h
theorem Le.sqL {K : PySem.W.Frag} {F F' : Hp} (l : Le F F') {a : Addr} {xs : List V} (h : SqL K F a xs) : SqL K F' a xs := by
  rcases h with h | h
  · exact .inl (l.rd h)
  · exact .inr h
mutual
theorem Rp.mono {K : PySem.W.Frag} {F F' : Hp} (l : Le F F') : ∀ {v : V} {d : PyData}, Rp K F v d → Rp K F' v d
  | _, _, .non => .non
  | _, _, .bl b => .bl b
  | _, _, .int i => .int i
  | _, _, .str x => .str x
  | _, _, .lst h r => .lst (l _ _ h) (RpAll.mono l r)
  | _, _, .tup h r => .tup (l.sqT h) (RpAll.mono l r)
theorem RpAll.mono {K : PySem.W.Frag} {F F' : Hp} (l : Le F F') : ∀ {vs : List V} {ds : List PyData}, RpAll K F vs ds → RpAll K F' vs ds
  | _, _, .nil => .nil
  | _, _, .cons h r => .cons (h.mono l) (RpAll.mono l r)
end
mutual
theorem Rp.dp {K : PySem.W.Frag} {F : Hp} : ∀ {v : V} {d : PyData}, Rp K F v d → Dp K F v d
  | _, _, .non => .non
  | _, _, .bl b => .bl b
  | _, _, .int i => .int i
  | _, _, .str x => .str x
  | _, _, .lst h r => .lst (SqL.of h) (RpAll.dp r)
  | _, _, .tup h r => .tup h (RpAll.dp r)
theorem RpAll.dp {K : PySem.W.Frag} {F : Hp} : ∀ {vs : List V} {ds : List PyData}, RpAll K F vs ds → DpAll K F vs ds
  | _, _, .nil => .nil
  | _, _, .cons h r => .cons h.dp (RpAll.dp r)
end
theorem RpAll.length {K : PySem.W.Frag} {F : Hp} : ∀ {vs : List V} {ds : List PyData}, RpAll K F vs ds → vs.length = ds.length
  | _, _, .nil => rfl
  | _, _, .cons _ r => by simp [RpAll.length r]
theorem RpAll.append {K : PySem.W.Frag} {F : Hp} : ∀ {vs ws : List V} {ds es : List PyData}, RpAll K F vs ds → RpAll K F ws es → RpAll K F (vs ++ ws) (ds ++ es)
  | _, _, _, _, .nil, s => s
  | _, _, _, _, .cons h r, s => .cons h (RpAll.append r s)
theorem RpAll.get {K : PySem.W.Frag} {F : Hp} : ∀ {vs : List V} {ds : List PyData} {i : Nat} {d : PyData}, RpAll K F vs ds → ds[i]? = some d → ∃ v, vs[i]? = some v ∧ Rp K F v d
  | _, _, _, _, .nil, e => by simp at e
  | _, _, 0, _, .cons h _, e => by simp at e; subst e; exact ⟨_, rfl, h⟩
  | _, _, i + 1, d, .cons _ r, e => by
    obtain ⟨v, h1, h2⟩ := RpAll.get (i := i) (d := d) r (by simpa using e)
    exact ⟨v, by simpa using h1, h2⟩
theorem RpAll.get' {K : PySem.W.Frag} {F : Hp} : ∀ {vs : List V} {ds : List PyData} {i : Nat} {v : V}, RpAll K F vs ds → vs[i]? = some v → ∃ d, ds[i]? = some d ∧ Rp K F v d
  | _, _, _, _, .nil, e => by simp at e
  | _, _, 0, _, .cons h _, e => by simp at e; subst e; exact ⟨_, rfl, h⟩
  | _, _, i + 1, d, .cons _ r, e => by
    obtain ⟨v, h1, h2⟩ := RpAll.get' (i := i) (v := d) r (by simpa using e)
    exact ⟨v, by simpa using h1, h2⟩
theorem RpAll.drop {K : PySem.W.Frag} {F : Hp} : ∀ {vs : List V} {ds : List PyData} (n : Nat), RpAll K F vs ds → RpAll K F (vs.drop n) (ds.drop n)
  | _, _, 0, r => r
  | _, _, _ + 1, .nil => .nil
  | _, _, n + 1, .cons _ r => RpAll.drop n r
theorem RpAll.take {K : PySem.W.Frag} {F : Hp} : ∀ {vs : List V} {ds : List PyData} (n : Nat), RpAll K F vs ds → RpAll K F (vs.take n) (ds.take n)
  | _, _, 0, _ => .nil
  | _, _, _ + 1, .nil => .nil
  | _, _, n + 1, .cons h r => .cons h (RpAll.take n r)

/-! ### the store -/
def SOk (K : PySem.W.Frag) (F H : Hp) (a : Addr) : SO → Prop
  | .lst ds => F a = none ∧ ∃ vs, H a = some (.lst vs) ∧ RpAll K F vs ds
  | .dct kvs => F a = none ∧ ∃ ws, H a = some (.dK ws) ∧ Paired (fun (p : Key × V) (q : Key × PyData) => p.1 = q.1 ∧ Rp K F p.2 q.2) ws kvs
  | .frz d => (F a).isSome = true ∧ Rp K F (.ref a) d
structure Rel (K : PySem.W.Frag) (F H : Hp) (m : List Addr) (st : Sto) : Prop where
  le : Le F H
  len : m.length = st.length
  nd : m.Nodup
  ob : ∀ (k : Nat) (a : Addr) (o : SO), m[k]? = some a → st[k]? = some o → SOk K F H a o
/-- from one moment to a later one -/
structure Stp (F H : Hp) (m : List Addr) (F' H' : Hp) (m' : List Addr) : Prop where
  fF : Le F F'
  mm : ∃ r, m' = m ++ r
  frm : ∀ a o, H a = some o → a ∉ m → H' a = some o
  nF : ∀ a o, H a = some o → a ∉ m → F a = none → F' a = none
  nm : ∀ a, a ∈ m' → a ∉ m → H a = none
theorem Stp.refl (F H : Hp) (m : List Addr) : Stp F H m F H m := ⟨Le.refl F, ⟨[], by simp⟩, fun _ _ h _ => h, fun _ _ _ _ h => h, fun _ h n => absurd h n⟩
theorem Stp.trans {F H F1 H1 F2 H2 : Hp} {m m1 m2 : List Addr} (a : Stp F H m F1 H1 m1) (b : Stp F1 H1 m1 F2 H2 m2) : Stp F H m F2 H2 m2 := by
  have key : ∀ x o, H x = some o → x ∉ m → x ∉ m1 := fun x o h n z => by
    have := a.nm x z n
    rw [h] at this; cases this
  refine ⟨a.fF.trans b.fF, ?_, fun x o h n => b.frm x o (a.frm x o h n) (key x o h n), fun x o h n f => b.nF x o (a.frm x o h n) (key x o h n) (a.nF x o h n f), fun x h n => ?_⟩
  · obtain ⟨r, e⟩ := a.mm
    obtain ⟨r', e'⟩ := b.mm
    exact ⟨r ++ r', by rw [e', e, List.append_assoc]⟩
  · by_cases z : x ∈ m1
    · exact a.nm x z n
    · cases q : H x with
      | none => rfl
      | some o =>
        have := b.nm x h z
        rw [a.frm x o q n] at this; cases this
theorem Stp.at {F H F1 H1 : Hp} {m m1 : List Addr} (a : Stp F H m F1 H1 m1) {k : Nat} {x : Addr} (h : m[k]? = some x) : m1[k]? = some x := by
  obtain ⟨r, e⟩ := a.mm
  rw [e, List.getElem?_append_left (List.getElem?_eq_some_iff.mp h).1]
  exact h
def RVal (K : PySem.W.Frag) (F : Hp) (m : List Addr) : Val → V → Prop
  | .dat d, v => Rp K F v d
  | .ref k, v => ∃ a, m[k]? = some a ∧ v = .ref a
  | .scr ns, v => ∃ a, v = .ref a ∧ SqL K F a (ns.map V.int)
theorem RVal.later {K : PySem.W.Frag} {F H F1 H1 : Hp} {m m1 : List Addr} (a : Stp F H m F1 H1 m1) : ∀ {x : Val} {v : V}, RVal K F m x v → RVal K F1 m1 x v
  | .dat _, _, h => Rp.mono a.fF h
  | .ref _, _, ⟨b, h, e⟩ => ⟨b, a.at h, e⟩
  | .scr _, _, ⟨b, e, h⟩ => ⟨b, e, a.fF.sqL h⟩
def RVals (K : PySem.W.Frag) (F : Hp) (m : List Addr) : List Val → List V → Prop := Paired (RVal K F m)
theorem RVals.later {K : PySem.W.Frag} {F H F1 H1 : Hp} {m m1 : List Addr} (a : Stp F H m F1 H1 m1) : ∀ {xs : List Val} {vs : List V}, RVals K F m xs vs → RVals K F1 m1 xs vs
  | _, _, .nil => .nil
  | _, _, .cons h r => .cons (h.later a) (RVals.later a r)
structure EnvR (K : PySem.W.Frag) (F : Hp) (m : List Addr) (ρ : Ev) (σ : St) : Prop where
  len : ρ.length = σ.length
  at_ : ∀ (i : Nat) (x : Val), ρ[i]? = some (some x) → ∃ v, σ[i]? = some (some v) ∧ RVal K F m x v
theorem EnvR.later {K : PySem.W.Frag} {F H F1 H1 : Hp} {m m1 : List Addr} {ρ : Ev} {σ : St} (a : Stp F H m F1 H1 m1) (h : EnvR K F m ρ σ) : EnvR K F1 m1 ρ σ :=
  ⟨h.len, fun i x e => let ⟨v, e1, r⟩ := h.at_ i x e; ⟨v, e1, r.later a⟩⟩
theorem EnvR.set {K : PySem.W.Frag} {F : Hp} {m : List Addr} {ρ : Ev} {σ : St} {i : Nat} {x : Val} {v : V} (h : EnvR K F m ρ σ) (r : RVal K F m x v) : EnvR K F m (ρ.set i (some x)) (σ.set i (some v)) := by
  refine ⟨by simp [h.len], fun j y e => ?_⟩
  by_cases hj : i = j
  · subst hj
    by_cases hl : i < ρ.length
    · rw [List.getElem?_set_self hl] at e
      cases e
      exact ⟨v, List.getElem?_set_self (by rw [← h.len]; exact hl), r⟩
    · rw [List.getElem?_eq_none (by simp; omega)] at e; cases e
  · rw [List.getElem?_set_ne hj] at e ⊢
    exact h.at_ j y e

/-! ### readings -/
/-- an exception that leaves: its class by name, its fields -/
def ExcIs (K : PySem.W.Frag) (cn : Str → Option Addr) (F H : Hp) (c : Str) (fs : List (Str × PyData)) (cls : Value) (d : Option Addr) : Prop :=
  ∃ C dd vs, cn c = some C ∧ cls = .ref C ∧ d = some dd ∧ H dd = some (.xd vs) ∧ Paired (fun (p : Str × V) (q : Str × PyData) => p.1 = q.1 ∧ Rp K F p.2 q.2) vs fs
structure Cf where
  K : PySem.W.Frag
  cn : Str → Option Addr
/-- what is wanted behind a run r: T tells how its answer stands -/
def PostG {α β : Type} (c : Cf) (E : XK) (T : Hp → List Addr → α → β → Prop) (F H : Hp) (m : List Addr) (r : Res α) (Q : β → Hp → Prop) : Prop := match r with
  | .ok x st' => ∀ F' H' m' v, Stp F H m F' H' m' → Rel c.K F' H' m' st' → T F' m' x v → Q v H'
  | .exc n fs st' => ∀ F' H' m' cls d, Stp F H m F' H' m' → Rel c.K F' H' m' st' → ExcIs c.K c.cn F' H' n fs cls d → E cls d H'
  | .err => False
abbrev Post (c : Cf) (E : XK) (F H : Hp) (m : List Addr) (r : Res Val) (Q : VK) : Prop := PostG c E (RVal c.K) F H m r Q
abbrev PostA (c : Cf) (E : XK) (F H : Hp) (m : List Addr) (r : Res (List Val)) (Q : List V → Hp → Prop) : Prop := PostG c E (RVals c.K) F H m r Q
def RB : Hp → List Addr → Bool → Bool → Prop := fun _ _ a b => a = b
abbrev PostB (c : Cf) (E : XK) (F H : Hp) (m : List Addr) (r : Res Bool) (Q : Bool → Hp → Prop) : Prop := PostG c E RB F H m r Q
theorem PostG.later {α β : Type} {c : Cf} {E : XK} {T : Hp → List Addr → α → β → Prop} {F H F1 H1 : Hp} {m m1 : List Addr} {r : Res α} {Q : β → Hp → Prop} (a : Stp F H m F1 H1 m1) (h : PostG c E T F H m r Q) : PostG c E T F1 H1 m1 r Q := by
  cases r with
  | ok x st => exact fun F' H' m' v s => h F' H' m' v (a.trans s)
  | exc n fs st => exact fun F' H' m' cls d s => h F' H' m' cls d (a.trans s)
  | err => exact h
theorem PostG.mono {α β : Type} {c : Cf} {E : XK} {T : Hp → List Addr → α → β → Prop} {F H : Hp} {m : List Addr} {r : Res α} {Q Q' : β → Hp → Prop} (h : PostG c E T F H m r Q) (k : ∀ v H', Q v H' → Q' v H') : PostG c E T F H m r Q' := by
  cases r with
  | ok x st => exact fun F' H' m' v s r t => k _ _ (h F' H' m' v s r t)
  | exc n fs st => exact h
  | err => exact h
def TDg {α β : Type} (c : Cf) (E : XK) (T : Hp → List Addr → α → β → Prop) (f : Ev → M α) : St → Hp → (β → Hp → Prop) → Prop := fun σ H Q => ∃ F m ρ st, Rel c.K F H m st ∧ EnvR c.K F m ρ σ ∧ PostG c E T F H m (f ρ st) Q
abbrev TD (c : Cf) (E : XK) (f : Ev → M Val) : TE := TDg c E (RVal c.K) f
abbrev TDA (c : Cf) (E : XK) (f : Ev → M (List Val)) : TA := TDg c E (RVals c.K) f
abbrev TDB (c : Cf) (E : XK) (f : Ev → M Bool) : TT := TDg c E RB f
theorem PE.imp {X : Cx} {e : Expr} {t t' : TE} (h : PE X e t) (i : ∀ σ H Q, t' σ H Q → t σ H Q) : PE X e t' := ⟨fun pins s σ H Q I q => h.run pins s σ H Q I (i _ _ _ q)⟩
theorem PT.imp {X : Cx} {e : Expr} {t t' : TT} (h : PT X e t) (i : ∀ σ H Q, t' σ H Q → t σ H Q) : PT X e t' := ⟨fun pins s σ H Q I q => h.run pins s σ H Q I (i _ _ _ q)⟩
theorem PA.imp {X : Cx} {e : List Expr} {t t' : TA} (h : PA X e t) (i : ∀ σ H Q, t' σ H Q → t σ H Q) : PA X e t' := ⟨fun pos pins s σ H Q I q => h.run pos pins s σ H Q I (i _ _ _ q)⟩

/-! ### joining -/
section
variable {c : Cf} {E : XK} {σ : St} {H : Hp} {α β γ δ κ μ : Type}
theorem PostG.bnd {T : Hp → List Addr → α → β → Prop} {T2 : Hp → List Addr → γ → δ → Prop} {Q : δ → Hp → Prop} {F : Hp} {m : List Addr} {st : Sto} {x : M α} {k : α → M γ} (p : PostG c E T2 F H m (bnd x k st) Q) :
    PostG c E T F H m (x st) fun v H1 => ∃ F1 m1 st1 y, Stp F H m F1 H1 m1 ∧ Rel c.K F1 H1 m1 st1 ∧ T F1 m1 y v ∧ PostG c E T2 F1 H1 m1 (k y st1) Q := by
  simp only [PL.bnd] at p
  cases q : x st with
  | ok y st1 =>
    rw [q] at p
    exact fun F' H' m' v s r' rv => ⟨F', m', st1, y, s, r', rv, PostG.later s p⟩
  | exc n fs st1 => rw [q] at p; exact p
  | err => rw [q] at p; exact p
/-- a value, then g of it -/
theorem td1 {T : Hp → List Addr → α → β → Prop} {T2 : Hp → List Addr → γ → δ → Prop} {Q : δ → Hp → Prop} {f : Ev → M α} {g : α → M γ} (h : TDg c E T2 (fun ρ => bnd (f ρ) g) σ H Q) {R : β → Hp → Prop}
    (k : ∀ F H1 m st x v, Rel c.K F H1 m st → T F m x v → PostG c E T2 F H1 m (g x st) Q → R v H1) : TDg c E T f σ H R := by
  obtain ⟨F, m, ρ, st, r, ev, p⟩ := h
  refine ⟨F, m, ρ, st, r, ev, ?_⟩
  simp only [bnd] at p
  cases q : f ρ st with
  | ok x st1 =>
    rw [q] at p
    exact fun F' H' m' v s r' rv => k F' H' m' st1 x v r' rv (PostG.later s p)
  | exc n fs st1 => rw [q] at p; exact p
  | err => rw [q] at p; exact p
/-- .. with what stands around kept -/
theorem td1e {T : Hp → List Addr → α → β → Prop} {T2 : Hp → List Addr → γ → δ → Prop} {Q : δ → Hp → Prop} {f : Ev → M α} {g : Ev → α → M γ} (h : TDg c E T2 (fun ρ => bnd (f ρ) (g ρ)) σ H Q) {R : β → Hp → Prop}
    (k : ∀ F H1 m ρ st x v, Rel c.K F H1 m st → EnvR c.K F m ρ σ → T F m x v → PostG c E T2 F H1 m (g ρ x st) Q → R v H1) : TDg c E T f σ H R := by
  obtain ⟨F, m, ρ, st, r, ev, p⟩ := h
  refine ⟨F, m, ρ, st, r, ev, ?_⟩
  simp only [bnd] at p
  cases q : f ρ st with
  | ok x st1 =>
    rw [q] at p
    exact fun F' H' m' v s r' rv => k F' H' m' ρ st1 x v r' (ev.later s) rv (PostG.later s p)
  | exc n fs st1 => rw [q] at p; exact p
  | err => rw [q] at p; exact p
theorem td2 {T : Hp → List Addr → α → β → Prop} {T' : Hp → List Addr → κ → μ → Prop} {T2 : Hp → List Addr → γ → δ → Prop} {Q : δ → Hp → Prop} (mo : ∀ {F H F1 H1 : Hp} {m m1 : List Addr} {x : α} {v : β}, Stp F H m F1 H1 m1 → T F m x v → T F1 m1 x v)
    {f : Ev → M α} {f2 : Ev → M κ} {g : α → κ → M γ} (h : TDg c E T2 (fun ρ => bnd (f ρ) fun x => bnd (f2 ρ) fun y => g x y) σ H Q) {R : β → μ → Hp → Prop}
    (k : ∀ F H1 m st x y v w, Rel c.K F H1 m st → T F m x v → T' F m y w → PostG c E T2 F H1 m (g x y st) Q → R v w H1) : TDg c E T f σ H fun v H1 => TDg c E T' f2 σ H1 fun w H2 => R v w H2 :=
  td1e (g := fun ρ x => bnd (f2 ρ) fun y => g x y) h fun F H1 m ρ st x v r ev rv p => by
    refine ⟨F, m, ρ, st, r, ev, ?_⟩
    simp only [bnd] at p
    cases q2 : f2 ρ st with
    | ok y st2 =>
      rw [q2] at p
      exact fun F2 H2 m2 w s2 r2 rw2 => k F2 H2 m2 st2 x y v w r2 (mo s2 rv) rw2 (PostG.later s2 p)
    | exc n fs st2 => rw [q2] at p; exact p
    | err => rw [q2] at p; exact p
end
end PL

set_option Elab.async false
set_option linter.all false
set_option maxRecDepth 100000
namespace PL
open PySem PySem.Spec L2
open PyProof.Rows hiding St

/-! ### what a value shows -/
def vw (x : Val) (st : Sto) : Option PyData := match x with
  | .dat d => some d
  | .ref k => (match st[k]? with
    | some (.lst ds) => some (.list ds)
    | some (.frz d) => some d
    | _ => none)
  | .scr _ => none
inductive VB (K : PySem.W.Frag) (F H : Hp) : V → PyData → Prop
  | non : VB K F H .non .none
  | bl (b : Bool) : VB K F H (.bl b) (.bool b)
  | int (i : Int) : VB K F H (.int i) (.int i)
  | str (x : Str) : VB K F H (.str x) (.str x)
  | lst {a : Addr} {xs : List V} {ds : List PyData} : H a = some (.lst xs) → RpAll K F xs ds → VB K F H (.ref a) (.list ds)
  | tup {a : Addr} {xs : List V} {ds : List PyData} : SqT K F a xs → RpAll K F xs ds → VB K F H (.ref a) (.tuple ds)
theorem Rp.vb {K : PySem.W.Frag} {F H : Hp} (l : Le F H) {v : V} {d : PyData} (h : Rp K F v d) : VB K F H v d := by
  cases h with
  | non => exact .non
  | bl b => exact .bl b
  | int i => exact .int i
  | str x => exact .str x
  | lst h r => exact .lst (l _ _ h) r
  | tup h r => exact .tup h r
theorem VB.dp {K : PySem.W.Frag} {F H : Hp} (l : Le F H) {v : V} {d : PyData} (h : VB K F H v d) : Dp K H v d := by
  cases h with
  | non => exact .non
  | bl b => exact .bl b
  | int i => exact .int i
  | str x => exact .str x
  | lst h r => exact .lst (SqL.of h) (r.mono l).dp
  | tup h r => exact .tup (l.sqT h) (r.mono l).dp
theorem vw_ok {K : PySem.W.Frag} {F H : Hp} {m : List Addr} {st : Sto} {x : Val} {v : V} {d : PyData} (R : Rel K F H m st) (h : RVal K F m x v) (e : vw x st = some d) : VB K F H v d := by
  cases x with
  | dat d' => cases e; exact Rp.vb R.le h
  | scr ns => cases e
  | ref k =>
    obtain ⟨a, ha, rfl⟩ := h
    simp only [vw] at e
    cases q : st[k]? with
    | none => rw [q] at e; cases e
    | some o =>
      rw [q] at e
      have ob := R.ob k a o ha q
      cases o with
      | lst ds => cases e; obtain ⟨_, vs, h1, h2⟩ := ob; exact .lst h1 h2
      | dct kvs => cases e
      | frz d' => cases e; exact Rp.vb R.le ob.2

/-! ### new objects -/
theorem Rel.there {K : PySem.W.Frag} {F H : Hp} {m : List Addr} {st : Sto} (R : Rel K F H m st) {a : Addr} (h : a ∈ m) : ∃ o, H a = some o := by
  obtain ⟨k, hk⟩ := List.getElem?_of_mem h
  have hl : k < st.length := by rw [← R.len]; exact (List.getElem?_eq_some_iff.mp hk).1
  have := R.ob k a st[k] hk (List.getElem?_eq_getElem hl)
  cases e : st[k] with
  | lst ds => rw [e] at this; obtain ⟨_, vs, h1, _⟩ := this; exact ⟨_, h1⟩
  | dct ds => rw [e] at this; obtain ⟨_, vs, h1, _⟩ := this; exact ⟨_, h1⟩
  | frz d =>
    rw [e] at this
    obtain ⟨h1, _⟩ := this
    cases q : F a with
    | none => rw [q] at h1; cases h1
    | some o => exact ⟨o, R.le _ _ q⟩
theorem Le.new {F : Hp} {p : Addr} {o : HO} (h : F p = none) : Le F (upd F p o) := fun a u e => by rw [upd_ne (ne_of_none e h)]; exact e
theorem SOk.new {K : PySem.W.Frag} {F H : Hp} {a p : Addr} {o : HO} {so : SO} (le : Le F H) (hp : H p = none) (ne : a ≠ p) (h : SOk K F H a so) : SOk K (upd F p o) (upd H p o) a so := by
  have hF : F p = none := by
    cases q : F p with
    | none => rfl
    | some u => rw [le _ _ q] at hp; cases hp
  have l : Le F (upd F p o) := Le.new hF
  cases so with
  | lst ds => obtain ⟨h0, vs, h1, h2⟩ := h; exact ⟨by rw [upd_ne ne]; exact h0, vs, by rw [upd_ne ne]; exact h1, h2.mono l⟩
  | dct ds => obtain ⟨h0, vs, h1, h2⟩ := h; exact ⟨by rw [upd_ne ne]; exact h0, vs, by rw [upd_ne ne]; exact h1, Paired.mapP h2 fun p q z => ⟨z.1, z.2.mono l⟩⟩
  | frz d => obtain ⟨h0, h1⟩ := h; exact ⟨by rw [upd_ne ne]; exact h0, h1.mono l⟩
theorem Rel.new {K : PySem.W.Frag} {F H : Hp} {m : List Addr} {st : Sto} (R : Rel K F H m st) {p : Addr} (hp : H p = none) (o : HO) : Stp F H m (upd F p o) (upd H p o) m ∧ Rel K (upd F p o) (upd H p o) m st := by
  have hF : F p = none := by
    cases q : F p with
    | none => rfl
    | some u => rw [R.le _ _ q] at hp; cases hp
  have hm : p ∉ m := fun h => by
    obtain ⟨o, e⟩ := R.there h
    rw [hp] at e; cases e
  refine ⟨⟨Le.new hF, ⟨[], by simp⟩, fun a u h _ => by rw [upd_ne (ne_of_none h hp)]; exact h, fun a u h _ f => by rw [upd_ne (ne_of_none h hp)]; exact f, fun a h n => absurd h n⟩, ⟨fun a u e => ?_, R.len, R.nd, fun k a so e1 e2 => ?_⟩⟩
  · by_cases h : a = p
    · subst h; rw [upd_same] at e ⊢; exact e
    · rw [upd_ne h] at e ⊢; exact R.le _ _ e
  · exact SOk.new R.le hp (fun z => hm (z ▸ List.mem_of_getElem? e1)) (R.ob k a so e1 e2)
/-- a new object that is not yet data: the store's next thing -/
theorem Rel.push {K : PySem.W.Frag} {F H : Hp} {m : List Addr} {st : Sto} (R : Rel K F H m st) {p : Addr} (hp : H p = none) {o : HO} {so : SO} (ok : SOk K F (upd H p o) p so) : Stp F H m F (upd H p o) (m ++ [p]) ∧ Rel K F (upd H p o) (m ++ [p]) (st ++ [so]) := by
  have hm : p ∉ m := fun h => by
    obtain ⟨o, e⟩ := R.there h
    rw [hp] at e; cases e
  refine ⟨⟨Le.refl F, ⟨[p], rfl⟩, fun a u h _ => by rw [upd_ne (ne_of_none h hp)]; exact h, fun a u h _ f => f, fun a h n => ?_⟩, ⟨fun a u e => ?_, by simp [R.len], ?_, fun k a so' e1 e2 => ?_⟩⟩
  · rcases List.mem_append.mp h with h | h
    · exact absurd h n
    · rw [List.mem_singleton.mp h]; exact hp
  · rw [upd_ne (ne_of_none (R.le _ _ e) hp)]; exact R.le _ _ e
  · rw [List.nodup_append]
    exact ⟨R.nd, by simp, fun a ha b hb => by rw [List.mem_singleton.mp hb]; exact fun z => hm (z ▸ ha)⟩
  · by_cases hk : k < m.length
    · rw [List.getElem?_append_left hk] at e1
      rw [List.getElem?_append_left (by rw [← R.len]; exact hk)] at e2
      have ob := R.ob k a so' e1 e2
      have ne : a ≠ p := fun z => hm (z ▸ List.mem_of_getElem? e1)
      cases so' with
      | lst ds => obtain ⟨h0, vs, h1, h2⟩ := ob; exact ⟨h0, vs, by rw [upd_ne ne]; exact h1, h2⟩
      | dct ds => obtain ⟨h0, vs, h1, h2⟩ := ob; exact ⟨h0, vs, by rw [upd_ne ne]; exact h1, h2⟩
      | frz d => exact ob
    · have hl : k = m.length := by
        have := (List.getElem?_eq_some_iff.mp e1).1
        simp at this; omega
      subst hl
      rw [List.getElem?_append_right (Nat.le_refl _)] at e1
      rw [R.len, List.getElem?_append_right (Nat.le_refl _)] at e2
      simp at e1 e2
      subst e1; subst e2
      exact ok

/-! ### constants, names -/
section
variable {X : Cx} {cn : Str → Option Addr} {E : XK} {pos : Pos}
theorem post_ok {c : Cf} {F H : Hp} {m : List Addr} {st : Sto} {x : Val} {v : V} {Q : VK} (p : Post c E F H m (.ok x st) Q) (R : Rel c.K F H m st) (r : RVal c.K F m x v) : Q v H := p F H m v (Stp.refl _ _ _) R r
def eC (d : PyData) : Ev → M Val := fun _ => ret (.dat d)
def eV (i : Nat) : Ev → M Val := fun ρ => match ρ[i]? with
  | some (some x) => ret x
  | _ => fail
theorem td_const {t : TE} {v : V} {d : PyData} {e : Expr} (h : PE X e (tC v)) (r : ∀ F, Rp X.K F v d) : PE X e (TD ⟨X.K, cn⟩ E (eC d)) :=
  PE.imp h fun σ H Q ⟨F, m, ρ, st, R, ev, p⟩ => post_ok p R (r F)
theorem d_int {i j} : PE X (.Constant (.int i) j pos) (TD ⟨X.K, cn⟩ E (eC (.int i))) := td_const (t := tC .non) pe_int fun _ => .int i
theorem d_bl {b j} : PE X (.Constant (.bool b) j pos) (TD ⟨X.K, cn⟩ E (eC (.bool b))) := td_const (t := tC .non) pe_bl fun _ => .bl b
theorem d_non {j} : PE X (.Constant .none j pos) (TD ⟨X.K, cn⟩ E (eC .none)) := td_const (t := tC .non) pe_non fun _ => .non
theorem d_str {x j} : PE X (.Constant (.str x) j pos) (TD ⟨X.K, cn⟩ E (eC (.str x))) := td_const (t := tC .non) pe_str fun _ => .str x
theorem d_var (i : Nat) {x : Str} (hN : X.N[i]? = some x := by rfl) (hv : Vis X.env.scope x := by first | exact Or.inl rfl | exact Or.inr (Or.inl rfl) | exact Or.inr (Or.inr rfl)) (hd : (x == ("__debug__" : Str)) = false := by decide)
    (hcd : (x == ("__classdict__" : Str)) = false := by decide) : PE X (.Name x pos) (TD ⟨X.K, cn⟩ E (eV i)) :=
  PE.imp (pe_var hN hv hd hcd) fun σ H Q ⟨F, m, ρ, st, R, ev, p⟩ => by
    unfold eV at p
    cases e : ρ[i]? with
    | none => rw [e] at p; exact p.elim
    | some o =>
      rw [e] at p
      cases o with
      | none => exact p.elim
      | some x =>
        obtain ⟨v, h1, h2⟩ := ev.at_ i x e
        exact ⟨v, h1, post_ok p R h2⟩

/-! ### operators -/
def rD (c : Cf) (E : XK) (g : Val → Val → M Val) : R2 := fun x y H Q => ∃ F m st x' y', Rel c.K F H m st ∧ RVal c.K F m x' x ∧ RVal c.K F m y' y ∧ Post c E F H m (g x' y' st) Q
def rD1 (c : Cf) (E : XK) (g : Val → M Val) : V → Hp → VK → Prop := fun x H Q => ∃ F m st x', Rel c.K F H m st ∧ RVal c.K F m x' x ∧ Post c E F H m (g x' st) Q
def e1 (g : Val → M Val) (f : Ev → M Val) : Ev → M Val := fun ρ => bnd (f ρ) g
def e2 (g : Val → Val → M Val) (f f' : Ev → M Val) : Ev → M Val := fun ρ => bnd (f ρ) fun x => bnd (f' ρ) fun y => g x y
theorem td_op {c : Cf} {g : Val → Val → M Val} {f f' : Ev → M Val} {σ : St} {H : Hp} {Q : VK} (h : TD c E (e2 g f f') σ H Q) : tOp (rD c E g) (TD c E f) (TD c E f') σ H Q :=
  td2 (T := RVal c.K) (T' := RVal c.K) (R := fun x y H2 => rD c E g x y H2 Q) (fun S h => RVal.later S h) h fun F H1 m st x y v w R r1 r2 p => ⟨F, m, st, x, y, R, r1, r2, p⟩
theorem td_un {c : Cf} {g : Val → M Val} {f : Ev → M Val} {σ : St} {H : Hp} {Q : VK} (h : TD c E (e1 g f) σ H Q) : tUn (rD1 c E g) (TD c E f) σ H Q :=
  td1 h fun F H1 m st x v R r1 p => ⟨F, m, st, x, R, r1, p⟩
variable {a b : Expr} {f f' : Ev → M Val}
theorem d_op {op : Operator} {g : Val → Val → M Val} (ho : OpR X (binaryOp op) (rD ⟨X.K, cn⟩ E g)) (ha : PE X a (TD ⟨X.K, cn⟩ E f)) (hb : PE X b (TD ⟨X.K, cn⟩ E f')) : PE X (.BinOp a op b pos) (TD ⟨X.K, cn⟩ E (e2 g f f')) :=
  PE.imp (pe_op ho ha hb) fun σ H Q h => td_op h
theorem d_un {op : UnaryOp} {g : Val → M Val} (ho : UnR X (unaryOp op) (rD1 ⟨X.K, cn⟩ E g)) (ha : PE X a (TD ⟨X.K, cn⟩ E f)) : PE X (.UnaryOp op a pos) (TD ⟨X.K, cn⟩ E (e1 g f)) :=
  PE.imp (pe_un ho ha) fun σ H Q h => td_un h
theorem d_cmp {op : CmpOp} {g : Val → Val → M Val} (ho : OpR X (compareOp op) (rD ⟨X.K, cn⟩ E g)) (ha : PE X a (TD ⟨X.K, cn⟩ E f)) (hb : PE X b (TD ⟨X.K, cn⟩ E f')) (hm : behindInMarks op b = false := by rfl) :
    PE X (.Compare a [op] [b] pos) (TD ⟨X.K, cn⟩ E (e2 g f f')) :=
  PE.imp (pe_cmpR ho ha hb hm) fun σ H Q h => td_op h

/-- two views at once -/
def on2 (g : PyData → PyData → M Val) (x y : Val) : M Val := fun st => match vw x st, vw y st with
  | some d, some e => g d e st
  | _, _ => .err
theorem on2_ok {fv : Value → Value → Sem Value} {g : PyData → PyData → M Val}
    (h : ∀ (pins : List (Addr × Obj)) (s : Shared) (σ : St) (H F : Hp) (m : List Addr) (st : Sto) (x y : V) (d e : PyData) (v u : Value) (Q : VK), Inv X pins σ H s → RelV x v → RelV y u → Rel X.K F H m st → VB X.K F H x d → VB X.K F H y e → Post ⟨X.K, cn⟩ E F H m (g d e st) Q →
      wpAny (model X.prog X.w) X.A (fv v u) (EP X pins σ Q) X.xe s) : OpR X fv (rD ⟨X.K, cn⟩ E (on2 g)) := by
  intro pins s σ H x y v u Q I rx ry ⟨F, m, st, x', y', R, h1, h2, p⟩
  unfold on2 at p
  cases ex : vw x' st with
  | none => rw [ex] at p; exact p.elim
  | some d =>
    cases ey : vw y' st with
    | none => rw [ex, ey] at p; exact p.elim
    | some e => rw [ex, ey] at p; exact h pins s σ H F m st x y d e v u Q I rx ry R (vw_ok R h1 ex) (vw_ok R h2 ey) p
def on1 (g : PyData → M Val) (x : Val) : M Val := fun st => match vw x st with
  | some d => g d st
  | _ => .err
def bB (b : Bool) : M Val := ret (.dat (.bool b))
def bI (i : Int) : M Val := ret (.dat (.int i))
def bS (x : Str) : M Val := ret (.dat (.str x))
def chk (b : Bool) (k : M Val) : M Val := fun st => if b then k st else .err
theorem post_chk {c : Cf} {F H : Hp} {m : List Addr} {st : Sto} {b : Bool} {k : M Val} {Q : VK} (p : Post c E F H m (chk b k st) Q) : b = true ∧ Post c E F H m (k st) Q := by
  unfold chk at p
  cases b with
  | true => exact ⟨rfl, p⟩
  | false => exact p.elim
def addD : PyData → PyData → M Val
  | .int i, .int j => bI (i + j)
  | .str x, .str y => chk (decide (x.length + y.length ≤ sizeLine)) (bS (x ++ y))
  | .list xs, .list ys => chk (decide (xs.length + ys.length ≤ sizeLine)) (ret (.dat (.list (xs ++ ys))))
  | .tuple xs, .tuple ys => chk (decide (xs.length + ys.length ≤ sizeLine)) (ret (.dat (.tuple (xs ++ ys))))
  | _, _ => fail
theorem o_add : OpR X (binaryOp .Add) (rD ⟨X.K, cn⟩ E (on2 addD)) := on2_ok fun pins s σ H F m st x y d e v u Q I rx ry R h1 h2 p => by
  cases h1 <;> cases h2 <;> first
    | exact p.elim
    | exact op_add pins s σ H _ _ v u Q I rx ry ⟨_, _, rfl, rfl, post_ok p R (.int _)⟩
    | skip
  · obtain ⟨z, p⟩ := post_chk p
    exact op_add_str pins s σ H _ _ v u Q I rx ry ⟨_, _, rfl, rfl, of_decide_eq_true z, post_ok p R (.str _)⟩
  · rename_i a xs ds ha hr b ys es hb hs
    obtain ⟨z, p⟩ := post_chk p
    refine op_cat pins s σ H _ _ v u Q I rx ry ⟨_, _, _, _, rfl, rfl, ha, hb, by rw [hr.length, hs.length]; exact of_decide_eq_true z, fun q hq => ?_⟩
    obtain ⟨S, R'⟩ := R.new hq (.lst (xs ++ ys))
    exact p _ _ _ _ S R' (.lst upd_same ((hr.append hs).mono S.fF))
  · rename_i a xs ds ha hr b ys es hb hs
    obtain ⟨z, p⟩ := post_chk p
    refine op_catA pins s σ H _ _ v u Q I rx ry ⟨_, _, _, _, rfl, rfl, R.le.sqT ha, R.le.sqT hb, by rw [hr.length, hs.length]; exact of_decide_eq_true z, fun e => ?_, fun _ e => ?_, fun _ _ q hq => ?_⟩
    · subst e
      cases hr
      exact post_ok p R (.tup hb hs)
    · subst e
      cases hs
      exact post_ok p R (.tup ha (by rw [List.append_nil]; exact hr))
    · obtain ⟨S, R'⟩ := R.new hq (.tup (xs ++ ys))
      exact p _ _ _ _ S R' (.tup (SqT.of upd_same) ((hr.append hs).mono S.fF))
def subD : PyData → PyData → M Val
  | .int i, .int j => bI (i - j)
  | _, _ => fail
theorem o_sub : OpR X (binaryOp .Sub) (rD ⟨X.K, cn⟩ E (on2 subD)) := on2_ok fun pins s σ H F m st x y d e v u Q I rx ry R h1 h2 p => by
  cases h1 <;> cases h2 <;> first
    | exact p.elim
    | exact op_sub pins s σ H _ _ v u Q I rx ry ⟨_, _, rfl, rfl, post_ok p R (.int _)⟩
def i64 (i : Int) : Bool := decide (-(2 ^ 64) < i ∧ i < 2 ^ 64)
def mulD : PyData → PyData → M Val
  | .int i, .int j => chk (i64 i || i64 j) (bI (i * j))
  | .list xs, .int k => chk (decide (-(2 ^ 63) ≤ k ∧ k < 2 ^ 63 ∧ xs.length * k.toNat ≤ sizeLine)) (ret (.dat (.list (List.replicate k.toNat xs).flatten)))
  | _, _ => fail
theorem RpAll.rep {K : PySem.W.Frag} {F : Hp} {vs : List V} {ds : List PyData} (h : RpAll K F vs ds) : ∀ k : Nat, RpAll K F (List.replicate k vs).flatten (List.replicate k ds).flatten
  | 0 => .nil
  | k + 1 => by
    rw [List.replicate_succ, List.replicate_succ, List.flatten_cons, List.flatten_cons]
    exact h.append (RpAll.rep h k)
theorem o_mul : OpR X (binaryOp .Mult) (rD ⟨X.K, cn⟩ E (on2 mulD)) := on2_ok fun pins s σ H F m st x y d e v u Q I rx ry R h1 h2 p => by
  cases h1 <;> cases h2 <;> first
    | exact p.elim
    | skip
  · obtain ⟨z, p⟩ := post_chk p
    refine op_mul pins s σ H _ _ v u Q I rx ry ⟨_, _, rfl, rfl, ?_, post_ok p R (.int _)⟩
    rcases Bool.or_eq_true_iff.mp z with z | z
    · exact .inl (of_decide_eq_true z)
    · exact .inr (of_decide_eq_true z)
  · rename_i a xs ds ha hr i
    obtain ⟨z, p⟩ := post_chk p
    obtain ⟨z1, z2, z3⟩ := of_decide_eq_true z
    refine op_rep pins s σ H _ _ v u Q I rx ry ⟨_, _, _, rfl, rfl, ha, z1, z2, by rw [hr.length]; exact z3, fun q hq => ?_⟩
    obtain ⟨S, R'⟩ := R.new hq (.lst (List.replicate i.toNat xs).flatten)
    exact p _ _ _ _ S R' (.lst upd_same ((hr.rep _).mono S.fF))
def fdivD : PyData → PyData → M Val
  | .int i, .int j => chk (decide (j ≠ 0 ∧ j.natAbs < 1073741824)) (bI (i.fdiv j))
  | _, _ => fail
theorem o_fdiv : OpR X (binaryOp .FloorDiv) (rD ⟨X.K, cn⟩ E (on2 fdivD)) := on2_ok fun pins s σ H F m st x y d e v u Q I rx ry R h1 h2 p => by
  cases h1 <;> cases h2 <;> first
    | exact p.elim
    | skip
  obtain ⟨z, p⟩ := post_chk p
  have z' := of_decide_eq_true z
  exact op_fdivN pins s σ H _ _ v u Q I rx ry ⟨_, _, rfl, rfl, z', post_ok p R (.int _)⟩
def modD : PyData → PyData → M Val
  | .int i, .int j => chk (decide (j ≠ 0)) (bI (i.fmod j))
  | _, _ => fail
theorem o_mod : OpR X (binaryOp .Mod) (rD ⟨X.K, cn⟩ E (on2 modD)) := on2_ok fun pins s σ H F m st x y d e v u Q I rx ry R h1 h2 p => by
  cases h1 <;> cases h2 <;> first
    | exact p.elim
    | skip
  obtain ⟨z, p⟩ := post_chk p
  exact op_modN pins s σ H _ _ v u Q I rx ry ⟨_, _, rfl, rfl, of_decide_eq_true z, post_ok p R (.int _)⟩
def powD : PyData → PyData → M Val
  | .int i, .int j => chk (decide (0 ≤ j ∧ j ≤ 1000000 ∧ i.natAbs < 2 ^ 64)) (bI (i ^ j.toNat))
  | _, _ => fail
theorem o_pow : OpR X (binaryOp .Pow) (rD ⟨X.K, cn⟩ E (on2 powD)) := on2_ok fun pins s σ H F m st x y d e v u Q I rx ry R h1 h2 p => by
  cases h1 <;> cases h2 <;> first
    | exact p.elim
    | skip
  obtain ⟨z, p⟩ := post_chk p
  have z' := of_decide_eq_true z
  exact op_pow pins s σ H _ _ v u Q I rx ry ⟨_, _, rfl, rfl, z', post_ok p R (.int _)⟩
def negD : PyData → M Val
  | .int i => bI (-i)
  | _ => fail
theorem on1_ok {fv : Value → Sem Value} {g : PyData → M Val}
    (h : ∀ (pins : List (Addr × Obj)) (s : Shared) (σ : St) (H F : Hp) (m : List Addr) (st : Sto) (x : V) (d : PyData) (v : Value) (Q : VK), Inv X pins σ H s → RelV x v → Rel X.K F H m st → VB X.K F H x d → Post ⟨X.K, cn⟩ E F H m (g d st) Q →
      wpAny (model X.prog X.w) X.A (fv v) (EP X pins σ Q) X.xe s) : UnR X fv (rD1 ⟨X.K, cn⟩ E (on1 g)) := by
  intro pins s σ H x v Q I rx ⟨F, m, st, x', R, h1, p⟩
  unfold on1 at p
  cases ex : vw x' st with
  | none => rw [ex] at p; exact p.elim
  | some d => rw [ex] at p; exact h pins s σ H F m st x d v Q I rx R (vw_ok R h1 ex) p
theorem o_neg : UnR X (unaryOp .USub) (rD1 ⟨X.K, cn⟩ E (on1 negD)) := on1_ok fun pins s σ H F m st x d v Q I rx R h1 p => by
  cases h1 <;> first
    | exact p.elim
    | exact un_neg pins s σ H _ v Q I rx ⟨_, rfl, post_ok p R (.int _)⟩

/-! ### comparisons -/
def eqD (d e : PyData) : M Val := chk (SeqAt.shaped d && SeqAt.shaped e) (bB (PyData.eqv d e))
def neD (d e : PyData) : M Val := chk (SeqAt.shaped d && SeqAt.shaped e) (bB (!PyData.eqv d e))
theorem o_eq (hu : X.A.units + 64 < cLine) : OpR X (compareOp .Eq) (rD ⟨X.K, cn⟩ E (on2 eqD)) := on2_ok fun pins s σ H F m st x y d e v u Q I rx ry R h1 h2 p => by
  obtain ⟨z, p⟩ := post_chk p
  obtain ⟨z1, z2⟩ := Bool.and_eq_true_iff.mp z
  exact op_eqD hu pins s σ H _ _ v u Q I rx ry ⟨d, e, h1.dp R.le, h2.dp R.le, z1, z2, post_ok p R (.bl _)⟩
theorem o_ne (hu : X.A.units + 64 < cLine) : OpR X (compareOp .NotEq) (rD ⟨X.K, cn⟩ E (on2 neD)) := on2_ok fun pins s σ H F m st x y d e v u Q I rx ry R h1 h2 p => by
  obtain ⟨z, p⟩ := post_chk p
  obtain ⟨z1, z2⟩ := Bool.and_eq_true_iff.mp z
  exact op_neD hu pins s σ H _ _ v u Q I rx ry ⟨d, e, h1.dp R.le, h2.dp R.le, z1, z2, post_ok p R (.bl _)⟩
def sLt (x y : Str) : Bool := decide (x.cps.toList < y.cps.toList)
def ltD : PyData → PyData → M Val
  | .int i, .int j => bB (decide (i < j))
  | .str x, .str y => bB (sLt x y)
  | _, _ => fail
def leD : PyData → PyData → M Val
  | .int i, .int j => bB (decide (i ≤ j))
  | .str x, .str y => bB (!sLt y x)
  | _, _ => fail
def gtD : PyData → PyData → M Val
  | .int i, .int j => bB (decide (j < i))
  | .str x, .str y => bB (sLt y x)
  | _, _ => fail
def geD : PyData → PyData → M Val
  | .int i, .int j => bB (decide (j ≤ i))
  | .str x, .str y => bB (!sLt x y)
  | _, _ => fail
theorem o_lt : OpR X (compareOp .Lt) (rD ⟨X.K, cn⟩ E (on2 ltD)) := on2_ok fun pins s σ H F m st x y d e v u Q I rx ry R h1 h2 p => by
  cases h1 <;> cases h2 <;> first
    | exact p.elim
    | exact op_lt pins s σ H _ _ v u Q I rx ry ⟨_, _, rfl, rfl, post_ok p R (.bl _)⟩
    | exact op_lt_str pins s σ H _ _ v u Q I rx ry ⟨_, _, rfl, rfl, post_ok p R (.bl _)⟩
theorem o_le : OpR X (compareOp .LtE) (rD ⟨X.K, cn⟩ E (on2 leD)) := on2_ok fun pins s σ H F m st x y d e v u Q I rx ry R h1 h2 p => by
  cases h1 <;> cases h2 <;> first
    | exact p.elim
    | exact op_le pins s σ H _ _ v u Q I rx ry ⟨_, _, rfl, rfl, post_ok p R (.bl _)⟩
    | exact op_le_str pins s σ H _ _ v u Q I rx ry ⟨_, _, rfl, rfl, post_ok p R (.bl _)⟩
theorem o_gt : OpR X (compareOp .Gt) (rD ⟨X.K, cn⟩ E (on2 gtD)) := on2_ok fun pins s σ H F m st x y d e v u Q I rx ry R h1 h2 p => by
  cases h1 <;> cases h2 <;> first
    | exact p.elim
    | exact op_gt pins s σ H _ _ v u Q I rx ry ⟨_, _, rfl, rfl, post_ok p R (.bl _)⟩
    | exact op_gt_str pins s σ H _ _ v u Q I rx ry ⟨_, _, rfl, rfl, post_ok p R (.bl _)⟩
theorem o_ge : OpR X (compareOp .GtE) (rD ⟨X.K, cn⟩ E (on2 geD)) := on2_ok fun pins s σ H F m st x y d e v u Q I rx ry R h1 h2 p => by
  cases h1 <;> cases h2 <;> first
    | exact p.elim
    | exact op_ge pins s σ H _ _ v u Q I rx ry ⟨_, _, rfl, rfl, post_ok p R (.bl _)⟩
    | exact op_ge_str pins s σ H _ _ v u Q I rx ry ⟨_, _, rfl, rfl, post_ok p R (.bl _)⟩
def subText (i j : Str) : Bool := !(Builtin.Str.occurrences j i 0 j.length 1).isEmpty
def inB : PyData → PyData → Option Bool
  | d, .list ds => if SeqAt.shaped d && SeqAt.shaped (.list ds) then some (ds.any fun z => PyData.eqv z d) else none
  | d, .tuple ds => if SeqAt.shaped d && SeqAt.shaped (.tuple ds) then some (ds.any fun z => PyData.eqv z d) else none
  | .str i, .str j => some (subText i j)
  | _, _ => none
def inD (d e : PyData) : M Val := fun st => match inB d e with
  | some b => bB b st
  | none => .err
def ninD (d e : PyData) : M Val := fun st => match inB d e with
  | some b => bB (!b) st
  | none => .err
theorem in_room {A : Around} {d : PyData} (sd : SeqAt.shaped d = true) (hu : A.units + 65 < cLine) : A.units + (d.depth + 1) < cLine := by
  have := SeqAt.depth_of_shaped sd
  omega
end
end PL

set_option Elab.async false
set_option linter.all false
set_option maxRecDepth 100000
namespace PL
open PySem PySem.Spec L2
open PyProof.Rows hiding St
section
variable {X : Cx} {cn : Str → Option Addr} {E : XK} {pos : Pos} {a b : Expr} {f f' : Ev → M Val}
/-! ### in, not in -/
theorem room_in {A : Around} {d : PyData} {n : Nat} (sd : SeqAt.shaped d = true) (hu : A.units + 65 < cLine) : A.units + 1 + min n d.depth < cLine := by
  have := SeqAt.depth_of_shaped sd
  have := Nat.min_le_right n d.depth
  omega
theorem o_in (hu : X.A.units + 65 < cLine) : OpR X (compareOp .In) (rD ⟨X.K, cn⟩ E (on2 inD)) := on2_ok fun pins s σ H F m st x y d e v u Q I rx ry R h1 h2 p => by
  obtain ⟨as, r1⟩ := Dp.reads I d x v (h1.dp R.le) rx
  obtain ⟨bs, r2⟩ := Dp.reads I e y u (h2.dp R.le) ry
  have go : ∀ ds, (e = .list ds ∨ e = .tuple ds) → (SeqAt.shaped d && SeqAt.shaped e) = true ∧ Post ⟨X.K, cn⟩ E F H m (bB (ds.any fun z => PyData.eqv z d) st) Q → wpAny (model X.prog X.w) X.A (compareOp .In v u) (EP X pins σ Q) X.xe s := fun ds he ⟨z, p⟩ => by
    obtain ⟨z1, z2⟩ := Bool.and_eq_true_iff.mp z
    have q := post_ok (v := .bl _) p R (Rp.bl _)
    rcases he with he | he
    · subst he
      exact SeqAt.in_list_reads r2 r1 (SeqAt.canLay_of_shaped z2) (SeqAt.canLay_of_shaped z1) (room_in z1 hu) ⟨.bl _, H, I, rfl, q⟩
    · subst he
      exact SeqAt.in_tuple_reads r2 r1 (SeqAt.canLay_of_shaped z2) (SeqAt.canLay_of_shaped z1) (room_in z1 hu) ⟨.bl _, H, I, rfl, q⟩
  have tx : ∀ i j, d = .str i → e = .str j → wpAny (model X.prog X.w) X.A (compareOp .In v u) (EP X pins σ Q) X.xe s := fun i j e1 e2 => by
    subst e1; subst e2
    cases h1; cases h2
    exact op_in_str pins s σ H _ _ v u Q I rx ry ⟨_, _, rfl, rfl, post_ok p R (.bl _)⟩
  cases e with
  | list ds =>
    refine go ds (.inl rfl) ?_
    unfold inD inB at p
    cases z : (SeqAt.shaped d && SeqAt.shaped (.list ds)) with
    | true => simp only [z, if_true] at p; exact ⟨rfl, p⟩
    | false => simp only [z] at p; exact p.elim
  | tuple ds =>
    refine go ds (.inr rfl) ?_
    unfold inD inB at p
    cases z : (SeqAt.shaped d && SeqAt.shaped (.tuple ds)) with
    | true => simp only [z, if_true] at p; exact ⟨rfl, p⟩
    | false => simp only [z] at p; exact p.elim
  | str j =>
    cases d <;> first | exact p.elim | exact tx _ _ rfl rfl
  | _ => cases d <;> exact p.elim
theorem o_nin (hu : X.A.units + 65 < cLine) : OpR X (compareOp .NotIn) (rD ⟨X.K, cn⟩ E (on2 ninD)) := on2_ok fun pins s σ H F m st x y d e v u Q I rx ry R h1 h2 p => by
  obtain ⟨as, r1⟩ := Dp.reads I d x v (h1.dp R.le) rx
  obtain ⟨bs, r2⟩ := Dp.reads I e y u (h2.dp R.le) ry
  have go : ∀ ds, (e = .list ds ∨ e = .tuple ds) → (SeqAt.shaped d && SeqAt.shaped e) = true ∧ Post ⟨X.K, cn⟩ E F H m (bB (!ds.any fun z => PyData.eqv z d) st) Q → wpAny (model X.prog X.w) X.A (compareOp .NotIn v u) (EP X pins σ Q) X.xe s := fun ds he ⟨z, p⟩ => by
    obtain ⟨z1, z2⟩ := Bool.and_eq_true_iff.mp z
    have q := post_ok (v := .bl _) p R (Rp.bl _)
    rcases he with he | he
    · subst he
      exact SeqAt.notIn_list_reads r2 r1 (SeqAt.canLay_of_shaped z2) (SeqAt.canLay_of_shaped z1) (room_in z1 hu) ⟨.bl _, H, I, rfl, q⟩
    · subst he
      exact SeqAt.notIn_tuple_reads r2 r1 (SeqAt.canLay_of_shaped z2) (SeqAt.canLay_of_shaped z1) (room_in z1 hu) ⟨.bl _, H, I, rfl, q⟩
  have tx : ∀ i j, d = .str i → e = .str j → wpAny (model X.prog X.w) X.A (compareOp .NotIn v u) (EP X pins σ Q) X.xe s := fun i j e1 e2 => by
    subst e1; subst e2
    cases h1; cases h2
    exact op_notIn_str pins s σ H _ _ v u Q I rx ry ⟨_, _, rfl, rfl, post_ok p R (.bl _)⟩
  cases e with
  | list ds =>
    refine go ds (.inl rfl) ?_
    unfold ninD inB at p
    cases z : (SeqAt.shaped d && SeqAt.shaped (.list ds)) with
    | true => simp only [z, if_true] at p; exact ⟨rfl, p⟩
    | false => simp only [z] at p; exact p.elim
  | tuple ds =>
    refine go ds (.inr rfl) ?_
    unfold ninD inB at p
    cases z : (SeqAt.shaped d && SeqAt.shaped (.tuple ds)) with
    | true => simp only [z, if_true] at p; exact ⟨rfl, p⟩
    | false => simp only [z] at p; exact p.elim
  | str j =>
    cases d <;> first | exact p.elim | exact tx _ _ rfl rfl
  | _ => cases d <;> exact p.elim
/-! ### is None -/
def isN (d e : PyData) : M Val := match e with
  | .none => bB (match d with | .none => true | _ => false)
  | _ => fail
def isnN (d e : PyData) : M Val := match e with
  | .none => bB (match d with | .none => false | _ => true)
  | _ => fail
theorem o_is : OpR X (compareOp .Is) (rD ⟨X.K, cn⟩ E (on2 isN)) := on2_ok fun pins s σ H F m st x y d e v u Q I rx ry R h1 h2 p => by
  cases h2 <;> first
    | exact p.elim
    | (cases h1 <;> exact op_isN pins s σ H _ _ v u Q I rx ry ⟨rfl, post_ok p R (.bl _)⟩)
theorem o_isn : OpR X (compareOp .IsNot) (rD ⟨X.K, cn⟩ E (on2 isnN)) := on2_ok fun pins s σ H F m st x y d e v u Q I rx ry R h1 h2 p => by
  cases h2 <;> first
    | exact p.elim
    | (cases h1 <;> exact op_notN pins s σ H _ _ v u Q I rx ry ⟨rfl, post_ok p R (.bl _)⟩)
/-! ### chains -/
def asB (x : Val) : M Bool := fun st => match x with
  | .dat (.bool b) => .ok b st
  | _ => .err
def eCh (g g' : Val → Val → M Val) (f1 f2 f3 : Ev → M Val) : Ev → M Val := fun ρ => bnd (f1 ρ) fun x => bnd (f2 ρ) fun y => bnd (g x y) fun z => bnd (asB z) fun b => if b then bnd (f3 ρ) fun w => g' y w else bB false
theorem asB_post {α β : Type} {c : Cf} {T : Hp → List Addr → α → β → Prop} {F H : Hp} {m : List Addr} {st : Sto} {z : Val} {v : V} {k : Bool → M α} {Q : β → Hp → Prop} (r : RVal c.K F m z v) (p : PostG c E T F H m (bnd (asB z) k st) Q) :
    ∃ b, v = .bl b ∧ PostG c E T F H m (k b st) Q := by
  cases z with
  | dat d =>
    cases d <;> first | exact p.elim | skip
    rename_i b
    cases r
    exact ⟨b, rfl, p⟩
  | ref k => exact p.elim
  | scr ns => exact p.elim
theorem td_chain {c : Cf} {g g' : Val → Val → M Val} {f1 f2 f3 : Ev → M Val} {σ : St} {H : Hp} {Q : VK} (h : TD c E (eCh g g' f1 f2 f3) σ H Q) : tChain (rD c E g) (rD c E g') (TD c E f1) (TD c E f2) (TD c E f3) σ H Q := by
  obtain ⟨F, m, ρ, st, R, ev, p⟩ := h
  refine ⟨F, m, ρ, st, R, ev, ?_⟩
  have p1 := PostG.bnd (T := RVal c.K) p
  refine PostG.mono p1 fun v H1 ⟨F1, m1, st1, x, S1, R1, r1, p⟩ => ⟨F1, m1, ρ, st1, R1, ev.later S1, ?_⟩
  refine PostG.mono (PostG.bnd (T := RVal c.K) p) fun w H2 ⟨F2, m2, st2, y, S2, R2, r2, p⟩ => ⟨F2, m2, st2, x, y, R2, r1.later S2, r2, ?_⟩
  refine PostG.mono (PostG.bnd (T := RVal c.K) p) fun z' H3 ⟨F3, m3, st3, z, S3, R3, r3, p⟩ => ?_
  obtain ⟨b, e, p⟩ := asB_post r3 p
  refine ⟨b, e, ?_⟩
  cases b with
  | false => exact iteF (post_ok p R3 (Rp.bl false))
  | true =>
    refine iteT ⟨F3, m3, ρ, st3, R3, (ev.later S1).later (S2.trans S3), ?_⟩
    exact PostG.mono (PostG.bnd (T := RVal c.K) p) fun w' H4 ⟨F4, m4, st4, w, S4, R4, r4, p⟩ => ⟨F4, m4, st4, y, w, R4, (r2.later S3).later S4, r4, p⟩
theorem d_chain {op op' : CmpOp} {e3 : Expr} {g g' : Val → Val → M Val} {f3 : Ev → M Val} (ho : OpR X (compareOp op) (rD ⟨X.K, cn⟩ E g)) (ho' : OpR X (compareOp op') (rD ⟨X.K, cn⟩ E g')) (ha : PE X a (TD ⟨X.K, cn⟩ E f)) (hb : PE X b (TD ⟨X.K, cn⟩ E f')) (hc : PE X e3 (TD ⟨X.K, cn⟩ E f3))
    (hm : lastMarks [op, op'] [b, e3] = false := by with_unfolding_all rfl) : PE X (.Compare a [op, op'] [b, e3] pos) (TD ⟨X.K, cn⟩ E (eCh g g' f f' f3)) := PE.imp (pe_chain ho ho' ha hb hc hm) fun _ _ _ h => td_chain h

/-! ### tests -/
def eB (f : Ev → M Val) : Ev → M Bool := fun ρ => bnd (f ρ) asB
theorem td_test {c : Cf} {f : Ev → M Val} {σ : St} {H : Hp} {Q : Bool → Hp → Prop} (h : TDB c E (eB f) σ H Q) : TD c E f σ H fun x H' => ∃ k, x = .bl k ∧ Q k H' := by
  obtain ⟨F, m, ρ, st, R, ev, p⟩ := h
  refine ⟨F, m, ρ, st, R, ev, PostG.mono (PostG.bnd (T := RVal c.K) p) fun v H1 ⟨F1, m1, st1, x, S1, R1, r1, p⟩ => ?_⟩
  obtain ⟨b, e, p⟩ := asB_post (k := ret) r1 (by
    unfold PL.bnd
    cases q : asB x st1 <;> rw [q] at p <;> exact p)
  exact ⟨b, e, p F1 H1 m1 b (Stp.refl _ _ _) R1 rfl⟩
theorem t_cmp {op : CmpOp} {g : Val → Val → M Val} (ho : OpR X (compareOp op) (rD ⟨X.K, cn⟩ E g)) (ha : PE X a (TD ⟨X.K, cn⟩ E f)) (hb : PE X b (TD ⟨X.K, cn⟩ E f')) (hm : behindInMarks op b = false := by rfl) :
    PT X (.Compare a [op] [b] pos) (TDB ⟨X.K, cn⟩ E (eB (e2 g f f'))) := PT.imp (pt_cmpR ho ha hb hm) fun σ H Q h => td_op (c := ⟨X.K, cn⟩) (td_test h)
/-- truth of data -/
def tru : PyData → Option Bool
  | .none => some false
  | .bool b => some b
  | .int i => some (i != 0)
  | .str x => if x.length ≤ sizeLine then some ((x.length : Int) != 0) else none
  | .list xs => some (!xs.isEmpty)
  | .tuple xs => some (!xs.isEmpty)
  | .dict _ => none
def truV (x : Val) : M Bool := fun st => match vw x st with
  | some d => opt (tru d) st
  | none => .err
def eT (f : Ev → M Val) : Ev → M Bool := fun ρ => bnd (f ρ) truV
theorem RpAll.isEmpty {K : PySem.W.Frag} {F : Hp} {vs : List V} {ds : List PyData} (h : RpAll K F vs ds) : vs.isEmpty = ds.isEmpty := by cases h <;> rfl
theorem truV_ok {c : Cf} {F H : Hp} {m : List Addr} {st : Sto} {x : Val} {v : V} {Q : Bool → Hp → Prop} (R : Rel c.K F H m st) (r : RVal c.K F m x v) (p : PostB c E F H m (truV x st) Q) : ∃ k, TruV c.K v H k ∧ Q k H := by
  unfold truV at p
  cases e : vw x st with
  | none => rw [e] at p; exact p.elim
  | some d =>
    rw [e] at p
    dsimp only at p
    have hb := vw_ok R r e
    cases t : tru d with
    | none => rw [t] at p; exact p.elim
    | some k =>
      rw [t] at p
      refine ⟨k, ?_, p F H m k (Stp.refl _ _ _) R rfl⟩
      cases hb with
      | non => cases t; rfl
      | bl b => cases t; rfl
      | int i => cases t; rfl
      | str y =>
        have t' : (if y.length ≤ sizeLine then some ((y.length : Int) != 0) else none) = some k := t
        by_cases hl : y.length ≤ sizeLine
        · rw [if_pos hl] at t'
          cases t'
          exact ⟨hl, rfl⟩
        · rw [if_neg hl] at t'
          cases t'
      | lst h1 h2 => cases t; exact .inl ⟨_, SqL.of h1, by rw [h2.isEmpty]⟩
      | tup h1 h2 => cases t; exact .inr (.inl ⟨_, R.le.sqT h1, by rw [h2.isEmpty]⟩)
theorem t_val (ha : PE X a (TD ⟨X.K, cn⟩ E f)) (he : ∀ whole, isTrue a X.env whole = (do let v ← whole; standAt a.pos; holding [v] (truthy v)) := by intro _; rfl) : PT X a (TDB ⟨X.K, cn⟩ E (eT f)) :=
  PT.imp (pt_truth ha he) fun σ H Q ⟨F, m, ρ, st, R, ev, p⟩ => ⟨F, m, ρ, st, R, ev, PostG.mono (PostG.bnd (T := RVal X.K) p) fun v H1 ⟨F1, m1, st1, x, S1, R1, r1, p⟩ => truV_ok R1 r1 p⟩
def tN (t : Ev → M Bool) : Ev → M Bool := fun ρ => bnd (t ρ) fun b => ret (!b)
def tA (t u : Ev → M Bool) : Ev → M Bool := fun ρ => bnd (t ρ) fun b => if b then u ρ else ret false
def tO (t u : Ev → M Bool) : Ev → M Bool := fun ρ => bnd (t ρ) fun b => if b then ret true else u ρ
variable {t u : Ev → M Bool} {rest : List Expr}
theorem t_not (ha : PT X a (TDB ⟨X.K, cn⟩ E t)) : PT X (.UnaryOp .Not a pos) (TDB ⟨X.K, cn⟩ E (tN t)) :=
  PT.imp (pt_not ha) fun σ H Q ⟨F, m, ρ, st, R, ev, p⟩ => ⟨F, m, ρ, st, R, ev, PostG.mono (PostG.bnd (T := RB) p) fun v H1 ⟨F1, m1, st1, x, S1, R1, r1, p⟩ => by
    have r1 : x = v := r1
    subst r1
    exact p F1 H1 m1 _ (Stp.refl _ _ _) R1 rfl⟩
/-- a chain of and, or as a test -/
def PWd (X : Cx) (e : Expr) (t : TT) : Prop := PW X e t
theorem w_and1 (ha : PT X a (TDB ⟨X.K, cn⟩ E t)) : PW X (.BoolOp .And [a] pos) (TDB ⟨X.K, cn⟩ E t) := pw_and1 ha
theorem w_or1 (ha : PT X a (TDB ⟨X.K, cn⟩ E t)) : PW X (.BoolOp .Or [a] pos) (TDB ⟨X.K, cn⟩ E t) := pw_or1 ha
theorem PW.imp {X : Cx} {e : Expr} {t t' : TT} (h : PW X e t) (i : ∀ σ H Q, t' σ H Q → t σ H Q) : PW X e t' := ⟨fun wh pins s σ H Q I q => h.run wh pins s σ H Q I (i _ _ _ q)⟩
theorem w_and (ha : PT X a (TDB ⟨X.K, cn⟩ E t)) (hb : PW X (.BoolOp .And (b :: rest) pos) (TDB ⟨X.K, cn⟩ E u)) : PW X (.BoolOp .And (a :: b :: rest) pos) (TDB ⟨X.K, cn⟩ E (tA t u)) :=
  PW.imp (pw_and ha hb) fun σ H Q ⟨F, m, ρ, st, R, ev, p⟩ => ⟨F, m, ρ, st, R, ev, PostG.mono (PostG.bnd (T := RB) p) fun v H1 ⟨F1, m1, st1, x, S1, R1, r1, p⟩ => by
    have r1 : x = v := r1
    subst r1
    cases x with
    | true => exact iteT ⟨F1, m1, ρ, st1, R1, ev.later S1, p⟩
    | false => exact iteF (p F1 H1 m1 false (Stp.refl _ _ _) R1 rfl)⟩
theorem w_or (ha : PT X a (TDB ⟨X.K, cn⟩ E t)) (hb : PW X (.BoolOp .Or (b :: rest) pos) (TDB ⟨X.K, cn⟩ E u)) : PW X (.BoolOp .Or (a :: b :: rest) pos) (TDB ⟨X.K, cn⟩ E (tO t u)) :=
  PW.imp (pw_or ha hb) fun σ H Q ⟨F, m, ρ, st, R, ev, p⟩ => ⟨F, m, ρ, st, R, ev, PostG.mono (PostG.bnd (T := RB) p) fun v H1 ⟨F1, m1, st1, x, S1, R1, r1, p⟩ => by
    have r1 : x = v := r1
    subst r1
    cases x with
    | false => exact iteF ⟨F1, m1, ρ, st1, R1, ev.later S1, p⟩
    | true => exact iteT (p F1 H1 m1 true (Stp.refl _ _ _) R1 rfl)⟩
theorem t_chain {op op' : CmpOp} {e3 : Expr} {g g' : Val → Val → M Val} {f3 : Ev → M Val} (ho : OpR X (compareOp op) (rD ⟨X.K, cn⟩ E g)) (ho' : OpR X (compareOp op') (rD ⟨X.K, cn⟩ E g')) (ha : PE X a (TD ⟨X.K, cn⟩ E f)) (hb : PE X b (TD ⟨X.K, cn⟩ E f')) (hc : PE X e3 (TD ⟨X.K, cn⟩ E f3))
    (hm : lastMarks [op, op'] [b, e3] = false := by with_unfolding_all rfl) : PT X (.Compare a [op, op'] [b, e3] pos) (TDB ⟨X.K, cn⟩ E (eB (eCh g g' f f' f3))) := PT.imp (pt_chain ho ho' ha hb hc hm) fun _ _ _ h => td_chain (td_test h)
/-! ### and, or, not as values (bools), conditional expressions -/
def eAnd (f f' : Ev → M Val) : Ev → M Val := fun ρ => bnd (f ρ) fun x => bnd (asB x) fun b => if b then f' ρ else bB false
def eOr (f f' : Ev → M Val) : Ev → M Val := fun ρ => bnd (f ρ) fun x => bnd (asB x) fun b => if b then bB true else f' ρ
def eNot (f : Ev → M Val) : Ev → M Val := fun ρ => bnd (f ρ) fun x => bnd (asB x) fun b => bB (!b)
def eIf (t : Ev → M Bool) (f f' : Ev → M Val) : Ev → M Val := fun ρ => bnd (t ρ) fun b => if b then f ρ else f' ρ
theorem d_one {op} (h : PE X a (TD ⟨X.K, cn⟩ E f)) : PE X (.BoolOp op [a] pos) (TD ⟨X.K, cn⟩ E f) := pe_one h
theorem d_and (ha : PE X a (TD ⟨X.K, cn⟩ E f)) (hb : PE X (.BoolOp .And (b :: rest) pos) (TD ⟨X.K, cn⟩ E f')) : PE X (.BoolOp .And (a :: b :: rest) pos) (TD ⟨X.K, cn⟩ E (eAnd f f')) :=
  PE.imp (pe_and ha hb) fun σ H Q ⟨F, m, ρ, st, R, ev, p⟩ => ⟨F, m, ρ, st, R, ev, PostG.mono (PostG.bnd (T := RVal X.K) p) fun v H1 ⟨F1, m1, st1, x, S1, R1, r1, p⟩ => by
    obtain ⟨b, e, p⟩ := asB_post r1 p
    refine ⟨b, e, ?_⟩
    cases b with
    | true => exact iteT ⟨F1, m1, ρ, st1, R1, ev.later S1, p⟩
    | false => exact iteF (post_ok p R1 (Rp.bl false))⟩
theorem d_or (ha : PE X a (TD ⟨X.K, cn⟩ E f)) (hb : PE X (.BoolOp .Or (b :: rest) pos) (TD ⟨X.K, cn⟩ E f')) : PE X (.BoolOp .Or (a :: b :: rest) pos) (TD ⟨X.K, cn⟩ E (eOr f f')) :=
  PE.imp (pe_or ha hb) fun σ H Q ⟨F, m, ρ, st, R, ev, p⟩ => ⟨F, m, ρ, st, R, ev, PostG.mono (PostG.bnd (T := RVal X.K) p) fun v H1 ⟨F1, m1, st1, x, S1, R1, r1, p⟩ => by
    obtain ⟨b, e, p⟩ := asB_post r1 p
    refine ⟨b, e, ?_⟩
    cases b with
    | false => exact iteF ⟨F1, m1, ρ, st1, R1, ev.later S1, p⟩
    | true => exact iteT (post_ok p R1 (Rp.bl true))⟩
theorem d_not (ha : PE X a (TD ⟨X.K, cn⟩ E f)) : PE X (.UnaryOp .Not a pos) (TD ⟨X.K, cn⟩ E (eNot f)) :=
  PE.imp (pe_not ha) fun σ H Q ⟨F, m, ρ, st, R, ev, p⟩ => ⟨F, m, ρ, st, R, ev, PostG.mono (PostG.bnd (T := RVal X.K) p) fun v H1 ⟨F1, m1, st1, x, S1, R1, r1, p⟩ => by
    obtain ⟨b, e, p⟩ := asB_post r1 p
    exact ⟨b, e, post_ok p R1 (Rp.bl _)⟩⟩
theorem d_if {e3 : Expr} (hc : PT X e3 (TDB ⟨X.K, cn⟩ E t)) (ha : PE X a (TD ⟨X.K, cn⟩ E f)) (hb : PE X b (TD ⟨X.K, cn⟩ E f')) : PE X (.IfExp e3 a b pos) (TD ⟨X.K, cn⟩ E (eIf t f f')) :=
  PE.imp (pe_ifExp hc ha hb) fun σ H Q ⟨F, m, ρ, st, R, ev, p⟩ => ⟨F, m, ρ, st, R, ev, PostG.mono (PostG.bnd (T := RB) p) fun v H1 ⟨F1, m1, st1, x, S1, R1, r1, p⟩ => by
    have r1 : x = v := r1
    subst r1
    cases x with
    | true => exact iteT ⟨F1, m1, ρ, st1, R1, ev.later S1, p⟩
    | false => exact iteF ⟨F1, m1, ρ, st1, R1, ev.later S1, p⟩⟩
/-! ### argument lists -/
def aNil : Ev → M (List Val) := fun _ => ret []
def aCons (f : Ev → M Val) (fs : Ev → M (List Val)) : Ev → M (List Val) := fun ρ => bnd (f ρ) fun x => bnd (fs ρ) fun xs => ret (x :: xs)
variable {es : List Expr} {fs : Ev → M (List Val)}
theorem a_nil : PA X [] (TDA ⟨X.K, cn⟩ E aNil) := PA.imp pa_nil fun σ H Q ⟨F, m, ρ, st, R, ev, p⟩ => p F H m [] (Stp.refl _ _ _) R .nil
theorem a_cons (ha : PE X a (TD ⟨X.K, cn⟩ E f)) (hr : PA X es (TDA ⟨X.K, cn⟩ E fs)) (hs : starEach (a :: es) X.env = (false, eval a X.env) :: starEach es X.env := by rfl) : PA X (a :: es) (TDA ⟨X.K, cn⟩ E (aCons f fs)) :=
  PA.imp (pa_cons ha hr hs) fun σ H Q ⟨F, m, ρ, st, R, ev, p⟩ => ⟨F, m, ρ, st, R, ev, PostG.mono (PostG.bnd (T := RVal X.K) p) fun v H1 ⟨F1, m1, st1, x, S1, R1, r1, p⟩ =>
    ⟨F1, m1, ρ, st1, R1, ev.later S1, PostG.mono (PostG.bnd (T := RVals X.K) p) fun vs H2 ⟨F2, m2, st2, xs, S2, R2, r2, p⟩ => p F2 H2 m2 _ (Stp.refl _ _ _) R2 (.cons (r1.later S2) r2)⟩⟩
end
end PL

set_option Elab.async false
set_option linter.all false
set_option maxRecDepth 100000
namespace PL
open PySem PySem.Spec L2
open PyProof.Rows hiding St
/-! ### a thing becomes plain data -/
def frzV (x : Val) : M PyData := fun st => match x with
  | .dat d => .ok d st
  | .ref k => (match st[k]? with
    | some (.lst ds) => .ok (.list ds) (st.set k (.frz (.list ds)))
    | some (.frz d) => .ok d st
    | _ => .err)
  | .scr _ => .err
theorem nodup_get {m : List Addr} (h : m.Nodup) {i j : Nat} {a : Addr} (e1 : m[i]? = some a) (e2 : m[j]? = some a) : i = j := by
  obtain ⟨l1, q1⟩ := List.getElem?_eq_some_iff.mp e1
  obtain ⟨l2, q2⟩ := List.getElem?_eq_some_iff.mp e2
  exact (List.getElem_inj h).mp (q1.trans q2.symm)
/-- the thing k of the store changes, at the ghost's side alone -/
theorem Rel.freeze {K : PySem.W.Frag} {F H : Hp} {m : List Addr} {st : Sto} {k : Nat} {a : Addr} {ds : List PyData} {vs : List V} (R : Rel K F H m st) (ha : m[k]? = some a) (hF : F a = none) (hH : H a = some (.lst vs)) (hr : RpAll K F vs ds) :
    Stp F H m (upd F a (.lst vs)) H m ∧ Rel K (upd F a (.lst vs)) H m (st.set k (.frz (.list ds))) := by
  have l : Le F (upd F a (.lst vs)) := Le.new hF
  have hm : a ∈ m := List.mem_of_getElem? ha
  refine ⟨⟨l, ⟨[], by simp⟩, fun _ _ h _ => h, fun b o _ n f => by rw [upd_ne (fun z => n (by rw [z]; exact hm))]; exact f, fun _ h n => absurd h n⟩, ⟨fun b o e => ?_, by simp [R.len], R.nd, fun j b o e1 e2 => ?_⟩⟩
  · by_cases hb : b = a
    · subst hb; rw [upd_same] at e; rw [hH]; exact e
    · rw [upd_ne hb] at e; exact R.le _ _ e
  · by_cases hj : k = j
    · subst hj
      rw [ha] at e1; cases e1
      have hl : k < st.length := by rw [← R.len]; exact (List.getElem?_eq_some_iff.mp ha).1
      rw [List.getElem?_set_self hl] at e2
      cases e2
      exact ⟨by rw [upd_same]; rfl, .lst upd_same (hr.mono l)⟩
    · rw [List.getElem?_set_ne hj] at e2
      have ne : b ≠ a := fun z => hj (nodup_get R.nd ha (z ▸ e1))
      have ob := R.ob j b o e1 e2
      cases o with
      | lst ds => obtain ⟨h0, vs, h1, h2⟩ := ob; exact ⟨by rw [upd_ne ne]; exact h0, vs, h1, h2.mono l⟩
      | dct ds => obtain ⟨h0, vs, h1, h2⟩ := ob; exact ⟨by rw [upd_ne ne]; exact h0, vs, h1, Paired.mapP h2 fun p q z => ⟨z.1, z.2.mono l⟩⟩
      | frz d => obtain ⟨h0, h1⟩ := ob; exact ⟨by rw [upd_ne ne]; exact h0, h1.mono l⟩
theorem frz_ok {α β : Type} {c : Cf} {E : XK} {T : Hp → List Addr → α → β → Prop} {F H : Hp} {m : List Addr} {st : Sto} {x : Val} {v : V} {k : PyData → M α} {Q : β → Hp → Prop} (R : Rel c.K F H m st) (r : RVal c.K F m x v) (p : PostG c E T F H m (bnd (frzV x) k st) Q) :
    ∃ F1 st1 d, Stp F H m F1 H m ∧ Rel c.K F1 H m st1 ∧ Rp c.K F1 v d ∧ PostG c E T F1 H m (k d st1) Q ∧ frzV x st = .ok d st1 := by
  cases x with
  | dat d => exact ⟨F, st, d, Stp.refl _ _ _, R, r, p, rfl⟩
  | scr ns => exact p.elim
  | ref j =>
    obtain ⟨a, ha, rfl⟩ := r
    unfold bnd frzV at p
    dsimp only at p
    cases q : st[j]? with
    | none => rw [q] at p; exact p.elim
    | some o =>
      rw [q] at p
      have ob := R.ob j a o ha q
      cases o with
      | dct kvs => exact p.elim
      | frz d => exact ⟨F, st, d, Stp.refl _ _ _, R, ob.2, p, by unfold frzV; dsimp only; rw [q]⟩
      | lst ds =>
        obtain ⟨h0, vs, h1, h2⟩ := ob
        obtain ⟨S, R'⟩ := R.freeze ha h0 h1 h2
        exact ⟨_, _, .list ds, S, R', .lst upd_same (h2.mono S.fF), PostG.later S p, by unfold frzV; dsimp only; rw [q]⟩
def frzAll : List Val → M (List PyData)
  | [] => ret []
  | x :: xs => bnd (frzV x) fun d => bnd (frzAll xs) fun ds => ret (d :: ds)
theorem bnd_assoc {α β γ : Type} (x : M α) (f : α → M β) (g : β → M γ) : bnd (bnd x f) g = bnd x fun a => bnd (f a) g := by
  funext st
  unfold bnd
  cases x st <;> rfl
theorem bnd_ret {α β : Type} (a : α) (f : α → M β) : bnd (ret a) f = f a := rfl
theorem frzAll_ok {α β : Type} {c : Cf} {E : XK} {T : Hp → List Addr → α → β → Prop} {Q : β → Hp → Prop} {H : Hp} {m : List Addr} : ∀ {xs : List Val} {vs : List V} {F : Hp} {st : Sto} {k : List PyData → M α}, Rel c.K F H m st → RVals c.K F m xs vs → PostG c E T F H m (bnd (frzAll xs) k st) Q →
    ∃ F1 st1 ds, Stp F H m F1 H m ∧ Rel c.K F1 H m st1 ∧ RpAll c.K F1 vs ds ∧ PostG c E T F1 H m (k ds st1) Q
  | _, _, F, st, k, R, .nil, p => ⟨F, st, [], Stp.refl _ _ _, R, .nil, p⟩
  | _, _, F, st, k, R, .cons r rs, p => by
    unfold frzAll at p
    rw [bnd_assoc] at p
    obtain ⟨F1, st1, d, S1, R1, r1, p, _⟩ := frz_ok R r p
    rw [bnd_assoc] at p
    obtain ⟨F2, st2, ds, S2, R2, r2, p⟩ := frzAll_ok R1 (RVals.later S1 rs) p
    exact ⟨F2, st2, d :: ds, S1.trans S2, R2, .cons (r1.mono S2.fF) r2, p⟩

/-! ### walks -/
structure ItOk (K : PySem.W.Frag) (J : It) (F0 : Hp) (its : List PyData) : Prop where
  go : ∀ i F H m st, Le F0 F → Rel K F H m st → i < its.length → J.go i H
  yld : ∀ i F H m st x H', Le F0 F → Rel K F H m st → i < its.length → J.yld i H x H' → ∃ F' d, Stp F H m F' H' m ∧ Rel K F' H' m st ∧ its[i]? = some d ∧ Rp K F' x d
  stop : ∀ F H m st, Le F0 F → Rel K F H m st → J.stop its.length H
def RIt (K : PySem.W.Frag) : Hp → List Addr → List PyData → It → Prop := fun F _ its J => ItOk K J F its
abbrev TID (c : Cf) (E : XK) (src : Ev → M (List PyData)) : TI := TDg c E (RIt c.K) src
theorem PI.imp {X : Cx} {tg e : Expr} {t t' : TI} (h : PI X tg e t) (i : ∀ σ H R, t' σ H R → t σ H R) : PI X tg e t' := ⟨fun pins s σ H R I q => h.run pins s σ H R I (i _ _ _ q)⟩
theorem PI.or {X : Cx} {tg e : Expr} {t t' : TI} (h : PI X tg e t) (h' : PI X tg e t') : PI X tg e (fun σ H R => t σ H R ∨ t' σ H R) := ⟨fun pins s σ H R I q => q.elim (h.run pins s σ H R I) (h'.run pins s σ H R I)⟩
theorem itOk_list {K : PySem.W.Frag} {F : Hp} {a : Addr} {vs : List V} {ds : List PyData} (h : F a = some (.lst vs)) (r : RpAll K F vs ds) : ItOk K (Itl K a) F ds := by
  refine ⟨fun i G H m st l R hi => ?_, fun i G H m st x H' l R hi y => ?_, fun G H m st l R => ?_⟩
  · exact ⟨vs, vs[i]'(by rw [r.length]; exact hi), SqL.of (R.le _ _ (l _ _ h)), by simp⟩
  · obtain ⟨rfl, y⟩ := y
    obtain ⟨d, e, q⟩ := r.get' (y vs (SqL.of (R.le _ _ (l _ _ h))))
    exact ⟨G, d, Stp.refl _ _ _, R, e, q.mono l⟩
  · exact ⟨vs, SqL.of (R.le _ _ (l _ _ h)), by rw [r.length]; exact Nat.le_refl _⟩
theorem itOk_tup {K : PySem.W.Frag} {F : Hp} {a : Addr} {vs : List V} {ds : List PyData} (h : SqT K F a vs) (r : RpAll K F vs ds) : ItOk K (Itt K a) F ds := by
  refine ⟨fun i G H m st l R hi => ?_, fun i G H m st x H' l R hi y => ?_, fun G H m st l R => ?_⟩
  · exact ⟨vs, vs[i]'(by rw [r.length]; exact hi), R.le.sqT (l.sqT h), by simp⟩
  · obtain ⟨rfl, y⟩ := y
    obtain ⟨d, e, q⟩ := r.get' (y vs (R.le.sqT (l.sqT h)))
    exact ⟨G, d, Stp.refl _ _ _, R, e, q.mono l⟩
  · exact ⟨vs, R.le.sqT (l.sqT h), by rw [r.length]; exact Nat.le_refl _⟩
def signs (x : Str) : List PyData := x.cps.toList.map fun c => .str ⟨#[c]⟩
theorem itOk_str {K : PySem.W.Frag} {F : Hp} {x : Str} : ItOk K (Its x) F (signs x) := by
  refine ⟨fun i G H m st l R hi => ?_, fun i G H m st v H' l R hi y => ?_, fun G H m st l R => ?_⟩
  · show i < x.cps.size
    simpa [signs] using hi
  · obtain ⟨rfl, cc, y, e⟩ := y
    subst e
    refine ⟨G, .str ⟨#[cc]⟩, Stp.refl _ _ _, R, ?_, .str _⟩
    unfold signs
    rw [List.getElem?_map, Array.getElem?_toList, y]
    rfl
  · simp [signs, Its]
theorem itOk_range {K : PySem.W.Frag} {F : Hp} {lo : Int} {n : Nat} : ItOk K (Itr lo n) F ((List.range n).map fun (i : Nat) => .int (lo + (i : Int))) := by
  refine ⟨fun i G H m st l R hi => ?_, fun i G H m st v H' l R hi y => ?_, fun G H m st l R => ?_⟩
  · show i < n
    simpa using hi
  · obtain ⟨rfl, e⟩ := y
    subst e
    refine ⟨G, .int (lo + i), Stp.refl _ _ _, R, ?_, .int _⟩
    rw [List.getElem?_map, List.getElem?_range (by simpa using hi)]
    rfl
  · simp [Itr]
def pairUp (xs ys : List PyData) : List PyData := List.zipWith (fun a b => .tuple [a, b]) xs ys
theorem pairUp_get {xs ys : List PyData} {i : Nat} {a b : PyData} (h1 : xs[i]? = some a) (h2 : ys[i]? = some b) : (pairUp xs ys)[i]? = some (.tuple [a, b]) := by
  unfold pairUp
  rw [List.getElem?_zipWith, h1, h2]
theorem itOk_zipT {K : PySem.W.Frag} {F : Hp} {a b : Addr} {vs ws : List V} {ds es : List PyData} (h : SqT K F a vs) (r : RpAll K F vs ds) (h' : SqT K F b ws) (r' : RpAll K F ws es) : ItOk K (RZ.ItzT K a b) F (pairUp ds es) := by
  have hlen : (pairUp ds es).length = min ds.length es.length := by simp [pairUp]
  refine ⟨fun i G H m st l R hi => ?_, fun i G H m st v H' l R hi y => ?_, fun G H m st l R => ?_⟩
  · rw [hlen] at hi
    have h1 : i < vs.length := by rw [r.length]; omega
    have h2 : i < ws.length := by rw [r'.length]; omega
    exact ⟨vs, ws, vs[i], ws[i], R.le.sqT (l.sqT h), R.le.sqT (l.sqT h'), by simp, by simp⟩
  · obtain ⟨t, x, z, rfl, hn, rfl, y1, y2⟩ := y
    obtain ⟨d, e1, q1⟩ := r.get' (y1 vs (R.le.sqT (l.sqT h)))
    obtain ⟨d', e2, q2⟩ := r'.get' (y2 ws (R.le.sqT (l.sqT h')))
    obtain ⟨S, R'⟩ := R.new hn (.tup [x, z])
    exact ⟨_, _, S, R', pairUp_get e1 e2, .tup (SqT.of upd_same) (.cons ((q1.mono l).mono S.fF) (.cons ((q2.mono l).mono S.fF) .nil))⟩
  · refine ⟨vs, ws, R.le.sqT (l.sqT h), R.le.sqT (l.sqT h'), ?_⟩
    rw [hlen, r.length, r'.length]
    omega
theorem itOk_zipL {K : PySem.W.Frag} {F : Hp} {a b : Addr} {vs ws : List V} {ds es : List PyData} (h : F a = some (.lst vs)) (r : RpAll K F vs ds) (h' : F b = some (.lst ws)) (r' : RpAll K F ws es) : ItOk K (Itz K a b) F (pairUp ds es) := by
  have hlen : (pairUp ds es).length = min ds.length es.length := by simp [pairUp]
  refine ⟨fun i G H m st l R hi => ?_, fun i G H m st v H' l R hi y => ?_, fun G H m st l R => ?_⟩
  · rw [hlen] at hi
    have h1 : i < vs.length := by rw [r.length]; omega
    have h2 : i < ws.length := by rw [r'.length]; omega
    exact ⟨vs, ws, vs[i], ws[i], SqL.of (R.le _ _ (l _ _ h)), SqL.of (R.le _ _ (l _ _ h')), by simp, by simp⟩
  · obtain ⟨t, x, z, rfl, hn, rfl, y1, y2⟩ := y
    obtain ⟨d, e1, q1⟩ := r.get' (y1 vs (SqL.of (R.le _ _ (l _ _ h))))
    obtain ⟨d', e2, q2⟩ := r'.get' (y2 ws (SqL.of (R.le _ _ (l _ _ h'))))
    obtain ⟨S, R'⟩ := R.new hn (.tup [x, z])
    exact ⟨_, _, S, R', pairUp_get e1 e2, .tup (SqT.of upd_same) (.cons ((q1.mono l).mono S.fF) (.cons ((q2.mono l).mono S.fF) .nil))⟩
  · refine ⟨vs, ws, SqL.of (R.le _ _ (l _ _ h)), SqL.of (R.le _ _ (l _ _ h')), ?_⟩
    rw [hlen, r.length, r'.length]
    omega
section
variable {X : Cx} {cn : Str → Option Addr} {E : XK} {pos : Pos} {a b tg : Expr} {f f' : Ev → M Val} {fs : Ev → M (List Val)}
def items : PyData → M (List PyData)
  | .list ds => ret ds
  | .tuple ds => ret ds
  | .str x => ret (signs x)
  | _ => fail
def sSeq (f : Ev → M Val) : Ev → M (List PyData) := fun ρ => bnd (f ρ) fun x => bnd (frzV x) items
/-- the den tells which kind of thing is walked -/
theorem i_seq (ha : PE X a (TD ⟨X.K, cn⟩ E f)) : PI X tg a (TID ⟨X.K, cn⟩ E (sSeq f)) := by
  refine PI.imp (PI.or (pi_list ha) (PI.or (pi_tup ha) (pi_str ha))) fun σ H R ⟨F, m, ρ, st, R0, ev, p⟩ => ?_
  cases q : f ρ st with
  | err => unfold sSeq bnd at p; rw [q] at p; exact p.elim
  | exc n fs st1 =>
    refine .inl ⟨F, m, ρ, st, R0, ev, ?_⟩
    unfold sSeq bnd at p; rw [q] at p ⊢; exact p
  | ok x st1 =>
    have p1 : PostG ⟨X.K, cn⟩ E (RIt X.K) F H m (bnd (frzV x) items st1) R := by unfold sSeq bnd at p; rw [q] at p; exact p
    have key : ∀ (U : V → Hp → Prop) (d0 : PyData) (st2 : Sto), frzV x st1 = .ok d0 st2 → (∀ F2 H1 m2 v, Rel X.K F2 H1 m2 st2 → Rp X.K F2 v d0 → PostG ⟨X.K, cn⟩ E (RIt X.K) F2 H1 m2 (items d0 st2) R → U v H1) → TD ⟨X.K, cn⟩ E f σ H U := fun U d0 st2 q2 hU => by
      refine ⟨F, m, ρ, st, R0, ev, ?_⟩
      rw [q]
      intro F1 H1 m1 v S1 R1 r1
      obtain ⟨F2, st2', d, S2, R2, r2, p3, e⟩ := frz_ok R1 r1 (PostG.later S1 p1)
      rw [q2] at e
      cases e
      exact hU F2 H1 m1 v R2 r2 p3
    cases q2 : frzV x st1 with
    | err => unfold bnd at p1; rw [q2] at p1; exact p1.elim
    | exc n fs st2 =>
      exfalso
      unfold frzV at q2
      split at q2 <;> first | cases q2 | (split at q2 <;> cases q2)
    | ok d st2 =>
      cases d with
      | list ds => exact .inl (key _ _ _ q2 fun F2 H1 m2 v R2 r2 p3 => by
          cases r2 with
          | lst h1 h2 => exact ⟨_, rfl, ⟨_, SqL.of (R2.le _ _ h1)⟩, p3 F2 H1 m2 _ (Stp.refl _ _ _) R2 (itOk_list h1 h2)⟩)
      | tuple ds => exact .inr (.inl (key _ _ _ q2 fun F2 H1 m2 v R2 r2 p3 => by
          cases r2 with
          | tup h1 h2 => exact ⟨_, rfl, ⟨_, R2.le.sqT h1⟩, p3 F2 H1 m2 _ (Stp.refl _ _ _) R2 (itOk_tup h1 h2)⟩))
      | str y => exact .inr (.inr (key _ _ _ q2 fun F2 H1 m2 v R2 r2 p3 => by
          cases r2 with
          | str _ => exact ⟨_, rfl, p3 F2 H1 m2 _ (Stp.refl _ _ _) R2 itOk_str⟩))
      | _ => unfold bnd at p1; rw [q2] at p1; exact p1.elim
def sRng1 (fs : Ev → M (List Val)) : Ev → M (List PyData) := fun ρ => bnd (fs ρ) fun xs st => match xs with
  | [.dat (.int j)] => if -(2 ^ 62) ≤ j ∧ j < 2 ^ 62 then .ok ((List.range j.toNat).map fun (i : Nat) => .int (0 + (i : Int))) st else .err
  | _ => .err
theorem i_rng1 {p : Pos} (hm : X.mg "range" = none) (ha : PA X [a] (TDA ⟨X.K, cn⟩ E fs)) (hg : Gl X "range" := by rfl) (hs : starEach [a] X.env = [(false, eval a X.env)] := by rfl) : PI X tg (.Call (.Name "range" p) [a] [] pos) (TID ⟨X.K, cn⟩ E (sRng1 fs)) :=
  PI.imp (pi_range1 hg hm ha hs) fun σ H R ⟨F, m, ρ, st, R0, ev, p⟩ => ⟨F, m, ρ, st, R0, ev, PostG.mono (PostG.bnd (T := RVals X.K) p) fun vs H1 ⟨F1, m1, st1, xs, S1, R1, r1, p⟩ => by
    cases r1 with
    | nil => exact p.elim
    | @cons x v xs vs h r =>
      cases x with
      | dat d =>
        cases d with
        | int j =>
          cases r with
          | cons _ _ => exact p.elim
          | nil =>
            cases h
            dsimp only at p
            by_cases hb : -(2 ^ 62) ≤ j ∧ j < 2 ^ 62
            · rw [if_pos hb] at p
              exact ⟨j, rfl, hb.1, hb.2, p F1 H1 m1 _ (Stp.refl _ _ _) R1 itOk_range⟩
            · rw [if_neg hb] at p
              exact p.elim
        | _ => cases r <;> exact p.elim
      | ref k => cases r <;> exact p.elim
      | scr k => cases r <;> exact p.elim⟩
def sRng2 (fs : Ev → M (List Val)) : Ev → M (List PyData) := fun ρ => bnd (fs ρ) fun xs st => match xs with
  | [.dat (.int i), .dat (.int j)] => if -(2 ^ 62) ≤ i ∧ i < 2 ^ 62 ∧ -(2 ^ 62) ≤ j ∧ j < 2 ^ 62 then .ok ((List.range (j - i).toNat).map fun (k : Nat) => .int (i + (k : Int))) st else .err
  | _ => .err
theorem vals2_int {K : PySem.W.Frag} {F : Hp} {m : List Addr} {i j : Int} {vs : List V} (h : RVals K F m [.dat (.int i), .dat (.int j)] vs) : vs = [.int i, .int j] := by
  cases h with
  | cons h1 h2 =>
    cases h2 with
    | cons h3 h4 =>
      cases h4
      cases h1
      cases h3
      rfl
theorem i_rng2 {p : Pos} (hm : X.mg "range" = none) (ha : PA X [a, b] (TDA ⟨X.K, cn⟩ E fs)) (hg : Gl X "range" := by rfl) (hs : starEach [a, b] X.env = [(false, eval a X.env), (false, eval b X.env)] := by rfl) (hs2 : starEach [b] X.env = [(false, eval b X.env)] := by rfl) :
    PI X tg (.Call (.Name "range" p) [a, b] [] pos) (TID ⟨X.K, cn⟩ E (sRng2 fs)) :=
  PI.imp (pi_range2 hg hm ha hs hs2) fun σ H R ⟨F, m, ρ, st, R0, ev, p⟩ => ⟨F, m, ρ, st, R0, ev, PostG.mono (PostG.bnd (T := RVals X.K) p) fun vs H1 ⟨F1, m1, st1, xs, S1, R1, r1, p⟩ => by
    dsimp only at p
    split at p
    · rename_i i j
      split at p
      · rename_i hb
        exact ⟨i, j, vals2_int r1, hb, p F1 H1 m1 _ (Stp.refl _ _ _) R1 itOk_range⟩
      · exact p.elim
    · exact p.elim⟩
/-- zip of two lists, of two tuples -/
def zipD : List PyData → M (List PyData)
  | [.list xs, .list ys] => ret (pairUp xs ys)
  | [.tuple xs, .tuple ys] => ret (pairUp xs ys)
  | _ => fail
def sZip (fs : Ev → M (List Val)) : Ev → M (List PyData) := fun ρ => bnd (fs ρ) fun xs => bnd (frzAll xs) zipD
theorem i_zip {p tpos : Pos} {elts : List Expr} {kk : Nat} (hm : X.mg "zip" = none) (ha : PA X [a, b] (TDA ⟨X.K, cn⟩ E fs)) (hg : Gl X "zip" := by rfl) (hs : starEach [a, b] X.env = (false, eval a X.env) :: starEach [b] X.env := by rfl) (hpl : (backTo pos (starEach [b] X.env)).any (·.1) = false := by rfl) :
    PI X (.Tuple elts kk tpos) (.Call (.Name "zip" p) [a, b] [] pos) (TID ⟨X.K, cn⟩ E (sZip fs)) :=
  PI.imp (RZ.pi_zipA hg hm ha hs hpl) fun σ H R ⟨F, m, ρ, st, R0, ev, p⟩ => ⟨F, m, ρ, st, R0, ev, PostG.mono (PostG.bnd (T := RVals X.K) p) fun vs H1 ⟨F1, m1, st1, xs, S1, R1, r1, p⟩ => by
    obtain ⟨F2, st2, ds, S2, R2, r2, p⟩ := frzAll_ok R1 r1 p
    unfold zipD at p
    split at p
    · cases r2 with
      | cons h1 h2 =>
        cases h2 with
        | cons h3 h4 =>
          cases h4
          cases h1 with
          | lst a1 a2 =>
            cases h3 with
            | lst b1 b2 => exact ⟨_, _, _, _, rfl, .inl ⟨SqL.of (R2.le _ _ a1), SqL.of (R2.le _ _ b1), p F2 H1 m1 _ (Stp.refl _ _ _) R2 (itOk_zipL a1 a2 b1 b2)⟩⟩
    · cases r2 with
      | cons h1 h2 =>
        cases h2 with
        | cons h3 h4 =>
          cases h4
          cases h1 with
          | tup a1 a2 =>
            cases h3 with
            | tup b1 b2 => exact ⟨_, _, _, _, rfl, .inr ⟨R2.le.sqT a1, R2.le.sqT b1, p F2 H1 m1 _ (Stp.refl _ _ _) R2 (itOk_zipT a1 a2 b1 b2)⟩⟩
    · exact p.elim⟩
/-! ### targets -/
def Only (ps : List Nat) (σ σ' : St) : Prop := σ'.length = σ.length ∧ ∀ j, j ∉ ps → σ'[j]? = σ[j]?
theorem Only.refl (ps : List Nat) (σ : St) : Only ps σ σ := ⟨rfl, fun _ _ => rfl⟩
theorem Only.trans {ps : List Nat} {σ σ1 σ2 : St} (a : Only ps σ σ1) (b : Only ps σ1 σ2) : Only ps σ σ2 := ⟨b.1.trans a.1, fun j h => (b.2 j h).trans (a.2 j h)⟩
abbrev Tg := PyData → Ev → Option Ev
def TGD (K : PySem.W.Frag) (ps : List Nat) (t : Tg) : TG := fun v σ H Q => ∃ F m ρ st d ρ', Rel K F H m st ∧ EnvR K F m ρ σ ∧ Rp K F v d ∧ t d ρ = some ρ' ∧ ∀ σ', EnvR K F m ρ' σ' → Only ps σ σ' → Q σ' H
theorem PG.imp {X : Cx} {e : Expr} {t t' : TG} (h : PG X e t) (i : ∀ v σ H Q, t' v σ H Q → t v σ H Q) : PG X e t' := ⟨fun pins s σ H v u Q I r q => h.run pins s σ H v u Q I r (i _ _ _ _ q)⟩
def gN (i : Nat) : Tg := fun d ρ => some (ρ.set i (some (.dat d)))
theorem g_name (i : Nat) {x : Str} {ps : List Nat} (hN : X.N.Nodup) (hps : i ∈ ps) (hi : X.N[i]? = some x := by rfl) (hx : Loc X.env.scope x := by first | exact Or.inl rfl | exact Or.inr rfl) (hf : X.fn x = true ∨ X.env.scope.names.lookup x = some .local := by first | exact .inl rfl | exact .inr rfl) :
    PG X (.Name x pos) (TGD X.K ps (gN i)) := PG.imp (pg_name hN hi hx hf) fun v σ H Q ⟨F, m, ρ, st, d, ρ', R, ev, r, e, k⟩ => by
  cases e
  exact k _ (ev.set r) ⟨by simp, fun j hj => List.getElem?_set_ne (fun z => hj (by rw [← z]; exact hps))⟩
abbrev Tgs := List PyData → Ev → Option Ev
def TGDs (K : PySem.W.Frag) (ps : List Nat) (t : Tgs) : TGs := fun vs σ H Q => ∃ F m ρ st ds ρ', Rel K F H m st ∧ EnvR K F m ρ σ ∧ RpAll K F vs ds ∧ t ds ρ = some ρ' ∧ ∀ σ', EnvR K F m ρ' σ' → Only ps σ σ' → Q σ' H
theorem PGs.imp {X : Cx} {e : List Expr} {t t' : TGs} (h : PGs X e t) (i : ∀ v σ H Q, t' v σ H Q → t v σ H Q) : PGs X e t' := ⟨fun pins s σ H v u Q I r q => h.run pins s σ H v u Q I r (i _ _ _ _ q)⟩
def gsNil : Tgs := fun ds ρ => match ds with
  | [] => some ρ
  | _ => none
def gsCons (t : Tg) (u : Tgs) : Tgs := fun ds ρ => match ds with
  | d :: r => (t d ρ).bind fun ρ1 => u r ρ1
  | [] => none
theorem gs_nil {ps : List Nat} : PGs X [] (TGDs X.K ps gsNil) := PGs.imp pgs_nil fun vs σ H Q ⟨F, m, ρ, st, ds, ρ', R, ev, r, e, k⟩ => by
  cases r with
  | nil => cases e; exact ⟨rfl, k σ ev (Only.refl _ _)⟩
  | cons _ _ => cases e
theorem gs_cons {ps : List Nat} {es : List Expr} {t : Tg} {u : Tgs} (h1 : PG X a (TGD X.K ps t)) (h2 : PGs X es (TGDs X.K ps u)) (hs : (assignEach (a :: es) X.env).map (·.2) = assign a X.env :: (assignEach es X.env).map (·.2) := by rfl) :
    PGs X (a :: es) (TGDs X.K ps (gsCons t u)) := PGs.imp (pgs_cons h1 h2 hs) fun vs σ H Q ⟨F, m, ρ, st, ds, ρ', R, ev, r, e, k⟩ => by
  cases r with
  | nil => cases e
  | @cons v vs d ds h r =>
    simp only [gsCons] at e
    cases q : t d ρ with
    | none => rw [q] at e; cases e
    | some ρ1 =>
      rw [q] at e
      exact ⟨v, vs, rfl, F, m, ρ, st, d, ρ1, R, ev, h, q, fun σ1 ev1 o1 => ⟨F, m, ρ1, st, ds, ρ', R, ev1, r, e, fun σ2 ev2 o2 => k σ2 ev2 (o1.trans o2)⟩⟩
def gT (n : Nat) (u : Tgs) : Tg := fun d ρ => match d with
  | .tuple ds => if ds.length = n then u ds ρ else none
  | _ => none
theorem g_tup {ps : List Nat} {es : List Expr} {k n : Nat} {u : Tgs} (hc : X.calm = true) (h : PGs X es (TGDs X.K ps u)) (hn : (assignEach es X.env).length = n := by rfl) (hst : (assignEach es X.env).findIdx? (·.1) = none := by rfl) :
    PG X (.Tuple es k pos) (TGD X.K ps (gT n u)) := PG.imp (pg_tup hc h hn hst) fun v σ H Q ⟨F, m, ρ, st, d, ρ', R, ev, r, e, kk⟩ => by
  cases r with
  | @tup a xs ds h1 h2 =>
    have e' : (if ds.length = n then u ds ρ else none) = some ρ' := e
    by_cases hl : ds.length = n
    · rw [if_pos hl] at e'
      exact ⟨a, xs, rfl, R.le.sqT h1, by rw [h2.length]; exact hl, F, m, ρ, st, ds, ρ', R, ev, h2, e', kk⟩
    · rw [if_neg hl] at e'; cases e'
  | _ => cases e
/-! ### comprehensions -/
def wipeE (ρ : Ev) : List Nat → Ev
  | [] => ρ
  | v :: vs => (wipeE ρ vs).set v none
theorem wipe_out' {σ : St} {j : Nat} : ∀ {vs : List Nat}, j ∉ vs → (wipe σ vs)[j]? = σ[j]?
  | [], _ => rfl
  | v :: vs, h => by
    unfold wipe
    rw [List.getElem?_set_ne (fun z => h (by rw [z]; exact List.mem_cons_self))]
    exact wipe_out' (fun z => h (List.mem_cons_of_mem _ z))
theorem wipe_in {σ : St} {j : Nat} (hj : j < σ.length) : ∀ {vs : List Nat}, j ∈ vs → (wipe σ vs)[j]? = some none
  | v :: vs, h => by
    unfold wipe
    by_cases hv : v = j
    · subst hv
      rw [List.getElem?_set_self (by rw [wipe_length]; exact hj)]
    · rw [List.getElem?_set_ne hv]
      rcases List.mem_cons.mp h with h | h
      · exact absurd h.symm hv
      · exact wipe_in hj h
theorem wipe_only {ps vs : List Nat} {σ σ2 : St} (o : Only ps (wipe σ vs) σ2) (hp : ∀ i ∈ ps, i ∈ vs) : wipe σ2 vs = wipe σ vs := by
  have hl : σ2.length = σ.length := by rw [o.1, wipe_length]
  refine List.ext_getElem? fun j => ?_
  by_cases hj : j ∈ vs
  · by_cases hjl : j < σ.length
    · rw [wipe_in (by rw [hl]; exact hjl) hj, wipe_in hjl hj]
    · rw [List.getElem?_eq_none (by rw [wipe_length, hl]; omega), List.getElem?_eq_none (by rw [wipe_length]; omega)]
  · rw [wipe_out' hj, o.2 j fun z => hj (hp j z)]
theorem EnvR.wipe {K : PySem.W.Frag} {F : Hp} {m : List Addr} {ρ : Ev} {σ : St} (h : EnvR K F m ρ σ) : ∀ vs : List Nat, EnvR K F m (wipeE ρ vs) (L2.wipe σ vs)
  | [] => h
  | v :: vs => by
    have ih := EnvR.wipe h vs
    refine ⟨by simp [wipeE, L2.wipe, ih.len], fun i x e => ?_⟩
    unfold wipeE at e
    unfold L2.wipe
    by_cases hv : v = i
    · subst hv
      by_cases hl : v < (wipeE ρ vs).length
      · rw [List.getElem?_set_self hl] at e; cases e
      · rw [List.getElem?_eq_none (by simp; omega)] at e; cases e
    · rw [List.getElem?_set_ne hv] at e ⊢
      exact ih.at_ i x e

theorem Rel.extra {K : PySem.W.Frag} {F H : Hp} {m : List Addr} {st : Sto} (R : Rel K F H m st) {p : Addr} (hF : F p = none) (hm : p ∉ m) (o : HO) : Rel K F (upd H p o) m st := by
  refine ⟨fun a u e => ?_, R.len, R.nd, fun k a so e1 e2 => ?_⟩
  · rw [upd_ne (ne_of_none e hF)]; exact R.le _ _ e
  · have ne : a ≠ p := fun z => hm (z ▸ List.mem_of_getElem? e1)
    have ob := R.ob k a so e1 e2
    cases so with
    | lst ds => obtain ⟨h0, vs, h1, h2⟩ := ob; exact ⟨h0, vs, by rw [upd_ne ne]; exact h1, h2⟩
    | dct ds => obtain ⟨h0, vs, h1, h2⟩ := ob; exact ⟨h0, vs, by rw [upd_ne ne]; exact h1, h2⟩
    | frz d => exact ob
theorem Stp.extra {F H F1 H1 : Hp} {m m1 : List Addr} (S : Stp F H m F1 H1 m1) {p : Addr} (hp : H p = none) (o : HO) : Stp F H m F1 (upd H1 p o) m1 :=
  ⟨S.fF, S.mm, fun a u h n => by rw [upd_ne (ne_of_none h hp)]; exact S.frm a u h n, S.nF, S.nm⟩
/-- an object that stands apart becomes data -/
theorem Rel.adopt {K : PySem.W.Frag} {F H : Hp} {m : List Addr} {st : Sto} (R : Rel K F H m st) {p : Addr} {o : HO} (hF : F p = none) (hm : p ∉ m) (hH : H p = some o) : Rel K (upd F p o) H m st := by
  have l : Le F (upd F p o) := Le.new hF
  refine ⟨fun a u e => ?_, R.len, R.nd, fun k a so e1 e2 => ?_⟩
  · by_cases h : a = p
    · subst h; rw [upd_same] at e; rw [hH]; exact e
    · rw [upd_ne h] at e; exact R.le _ _ e
  · have ne : a ≠ p := fun z => hm (z ▸ List.mem_of_getElem? e1)
    have ob := R.ob k a so e1 e2
    cases so with
    | lst ds => obtain ⟨h0, vs, h1, h2⟩ := ob; exact ⟨by rw [upd_ne ne]; exact h0, vs, h1, h2.mono l⟩
    | dct ds => obtain ⟨h0, vs, h1, h2⟩ := ob; exact ⟨by rw [upd_ne ne]; exact h0, vs, h1, Paired.mapP h2 fun p q z => ⟨z.1, z.2.mono l⟩⟩
    | frz d => obtain ⟨h0, h1⟩ := ob; exact ⟨by rw [upd_ne ne]; exact h0, h1.mono l⟩
theorem Stp.adopt {F H F1 H1 : Hp} {m m1 : List Addr} (S : Stp F H m F1 H1 m1) {p : Addr} (hp : H p = none) (hF : F1 p = none) (o : HO) : Stp F H m (upd F1 p o) H1 m1 :=
  ⟨S.fF.trans (Le.new hF), S.mm, S.frm, fun a u h n f => by rw [upd_ne (ne_of_none h hp)]; exact S.nF a u h n f, S.nm⟩
def turnD (ρ : Ev) (vs : List Nat) (t : Tg) (cond : Ev → M Bool) (elt : Ev → M Val) (d : PyData) : M (Option PyData) := fun st => match t d (wipeE ρ vs) with
  | none => .err
  | some ρ1 => bnd (cond ρ1) (fun b => if b then bnd (elt ρ1) fun x => bnd (frzV x) fun e => ret (some e) else ret none) st
def compGo (ρ : Ev) (vs : List Nat) (t : Tg) (cond : Ev → M Bool) (elt : Ev → M Val) : List PyData → M (List PyData)
  | [] => ret []
  | d :: r => bnd (turnD ρ vs t cond elt d) fun o => bnd (compGo ρ vs t cond elt r) fun l => ret (match o with
    | some e => e :: l
    | none => l)
def noX {α : Type} (x : M α) : M α := fun st => match x st with
  | .ok a st' => .ok a st'
  | _ => .err
def eLc (src : Ev → M (List PyData)) (vs : List Nat) (t : Tg) (cond : Ev → M Bool) (elt : Ev → M Val) : Ev → M Val := fun ρ => bnd (src ρ) fun its => chk (decide (its.length ≤ sizeLine)) (bnd (noX (compGo ρ vs t cond elt its)) fun l => ret (.dat (.list l)))
theorem bnd_okE {α β : Type} {x : M α} {f : α → M β} {st st' : Sto} {b : β} (h : bnd x f st = .ok b st') : ∃ a st1, x st = .ok a st1 ∧ f a st1 = .ok b st' := by
  unfold bnd at h
  cases q : x st with
  | ok a st1 => rw [q] at h; exact ⟨a, st1, rfl, h⟩
  | exc n fs st1 => rw [q] at h; cases h
  | err => rw [q] at h; cases h
theorem td_lc {c : Cf} {src : Ev → M (List PyData)} {vs ps : List Nat} {t : Tg} {cond : Ev → M Bool} {elt : Ev → M Val} {σ : St} {H : Hp} {Q : VK} (hp : ∀ i ∈ ps, i ∈ vs) (h : TD c E (eLc src vs t cond elt) σ H Q) :
    tLc (TID c E src) (TGD c.K ps t) (TDB c E0 cond) (TD c E0 elt) vs σ H Q := by
  obtain ⟨F0, m0, ρ, st0, R0, ev0, p⟩ := h
  refine ⟨F0, m0, ρ, st0, R0, ev0, PostG.mono (PostG.bnd (T := RIt c.K) p) fun J H1 ⟨F1, m1, st1, its, S1, R1, ok, p⟩ => ?_⟩
  obtain ⟨hz, p⟩ := post_chk p
  have hz : its.length ≤ sizeLine := of_decide_eq_true hz
  have ok : ItOk c.K J F1 its := ok
  have ev1 := ev0.later S1
  intro D hD
  have hDF : F1 D = none := by
    cases q : F1 D with
    | none => rfl
    | some o => rw [R1.le _ _ q] at hD; cases hD
  have hDm : D ∉ m1 := fun z => by
    obtain ⟨o, e⟩ := R1.there z
    rw [hD] at e; cases e
  cases q : compGo ρ vs t cond elt its st1 with
  | err => unfold PL.bnd noX at p; rw [q] at p; exact p.elim
  | exc n fs st2 => unfold PL.bnd noX at p; rw [q] at p; exact p.elim
  | ok L stF =>
    have p : Post c E F1 H1 m1 (.ok (.dat (.list L)) stF) Q := by unfold PL.bnd noX at p; rw [q] at p; exact p
    refine ⟨fun i k H => k = its.length - i ∧ i ≤ its.length ∧ ∃ F m st acc ws l, Stp F1 H1 m1 F H m ∧ Rel c.K F H m st ∧ F D = none ∧ D ∉ m ∧ H D = some (.lst ws) ∧ RpAll c.K F ws acc ∧ acc ++ l = L ∧ acc.length ≤ i ∧ compGo ρ vs t cond elt (its.drop i) st = .ok l stF, ⟨its.length, ?_⟩, ?_⟩
    · refine ⟨by simp, Nat.zero_le _, F1, m1, st1, [], [], L, (Stp.refl _ _ _).extra hD _, R1.extra hDF hDm _, hDF, hDm, upd_same, .nil, rfl, Nat.le_refl _, q⟩
    · rintro i k H ⟨rfl, hi, F, m, st, acc, ws, l, S, R, fD, mD, hH, rw', el, hal, hgo⟩
      by_cases hlt : i < its.length
      · refine .inr ⟨ok.go i F H m st S.fF R hlt, fun H => ∃ F m st acc ws l, Stp F1 H1 m1 F H m ∧ Rel c.K F H m st ∧ F D = none ∧ D ∉ m ∧ H D = some (.lst ws) ∧ RpAll c.K F ws acc ∧ acc ++ l = L ∧ acc.length ≤ i + 1 ∧ compGo ρ vs t cond elt (its.drop (i + 1)) st = .ok l stF, fun H' w => ⟨its.length - (i + 1), by omega, rfl, hlt, w⟩, fun x H' y => ?_⟩
        obtain ⟨F', d, S', R', ed, rd⟩ := ok.yld i F H m st x H' S.fF R hlt y
        have hdrop : its.drop i = d :: its.drop (i + 1) := by
          rw [List.drop_eq_getElem_cons hlt]
          obtain ⟨h1, h2⟩ := List.getElem?_eq_some_iff.mp ed
          rw [h2]
        rw [hdrop] at hgo
        unfold compGo at hgo
        obtain ⟨o, st2, ht, hgo⟩ := bnd_okE hgo
        obtain ⟨l', st3, hrest, hgo⟩ := bnd_okE hgo
        have fD' : F' D = none := S'.nF D _ hH mD fD
        have hH' : H' D = some (.lst ws) := S'.frm D _ hH mD
        have rw2 := rw'.mono S'.fF
        unfold turnD at ht
        cases qt : t d (wipeE ρ vs) with
        | none => rw [qt] at ht; cases ht
        | some ρ1 =>
          rw [qt] at ht
          dsimp only at ht
          obtain ⟨b, st4, hc, ht⟩ := bnd_okE ht
          refine ⟨F', m, wipeE ρ vs, st, d, ρ1, R', ((ev1.later S).later S').wipe vs, rd, qt, fun σ2 ev2 o2 => ⟨wipe_only o2 hp, F', m, ρ1, st, R', ev2, ?_⟩⟩
          rw [hc]
          intro F2 H2 m2 b' S2 R2 eb
          have eb : b = b' := eb
          subst eb
          have nm2 : D ∉ m2 := fun z => by
            have := S2.nm D z mD
            rw [hH'] at this; cases this
          have fD2 : F2 D = none := S2.nF D _ hH' mD fD'
          have hH2 : H2 D = some (.lst ws) := S2.frm D _ hH' mD
          have rw3 := rw2.mono S2.fF
          cases b with
          | false =>
            refine iteF ?_
            cases ht
            cases hgo
            exact ⟨F2, m2, st2, acc, ws, l', (S.trans S').trans S2, R2, fD2, nm2, hH2, rw3, el, by omega, hrest⟩
          | true =>
            refine iteT ⟨F2, m2, ρ1, st4, R2, ev2.later S2, ?_⟩
            have ht : bnd (elt ρ1) (fun x => bnd (frzV x) fun e => ret (some e)) st4 = .ok o st2 := ht
            obtain ⟨xv, st5, he, ht⟩ := bnd_okE ht
            obtain ⟨e, st6, hf, ht⟩ := bnd_okE ht
            rw [he]
            intro F3 H3 m3 v S3 R3 r3
            have nm3 : D ∉ m3 := fun z => by
              have := S3.nm D z nm2
              rw [hH2] at this; cases this
            have fD3 : F3 D = none := S3.nF D _ hH2 nm2 fD2
            have hH3 : H3 D = some (.lst ws) := S3.frm D _ hH2 nm2
            have rw4 := rw3.mono S3.fF
            obtain ⟨F4, st7, d4, S4, R4, r4, _, hf'⟩ := frz_ok (E := E0) (T := fun _ _ (_ : Unit) (_ : Unit) => True) (k := fun _ => ret ()) (Q := fun _ _ => True) R3 r3 (by unfold PL.bnd; rw [hf]; exact fun _ _ _ _ _ _ _ => trivial)
            rw [hf] at hf'
            cases hf'
            cases ht
            cases hgo
            have nm4 : D ∉ m3 := nm3
            have fD4 : F4 D = none := S4.nF D _ hH3 nm3 fD3
            have zl : ws.length = acc.length := rw'.length
            refine ⟨ws, hH3, by omega, F4, m3, st2, acc ++ [e], ws ++ [v], l', ?_, R4.extra fD4 nm3 _, fD4, nm3, upd_same, (rw4.mono S4.fF).append (.cons r4 .nil), by rw [List.append_assoc]; exact el, by simp; omega, hrest⟩
            exact ((((S.trans S').trans S2).trans S3).trans S4).extra hD _
      · have e : i = its.length := by omega
        subst e
        refine .inl ⟨ok.stop F H m st S.fF R, ?_⟩
        rw [List.drop_length] at hgo
        cases hgo
        rw [List.append_nil] at el
        subst el
        exact p _ _ _ _ (S.adopt hD fD _) (R.adopt fD mD hH) (.lst upd_same (rw'.mono (Le.new fD)))
end
end PL

set_option Elab.async false
set_option linter.all false
set_option maxRecDepth 100000
namespace PL
open PySem PySem.Spec L2
open PyProof.Rows hiding St
section
variable {X : Cx} {cn : Str → Option Addr} {E : XK} {pos : Pos} {a b tg iter elt : Expr} {f f' : Ev → M Val} {fs : Ev → M (List Val)}
/-! ### comprehensions -/
def tTrue : Ev → M Bool := fun _ => ret true
theorem c_nil : PTs X [] (TDB ⟨X.K, cn⟩ E tTrue) := ⟨fun pins s σ H Q I ⟨F, m, ρ, st, R, ev, p⟩ => pts_nil.run pins s σ H Q I (p F H m true (Stp.refl _ _ _) R rfl)⟩
theorem c_one {t : Ev → M Bool} (h : PT X a (TDB ⟨X.K, cn⟩ E t)) : PTs X [a] (TDB ⟨X.K, cn⟩ E t) := pts_one h
theorem d_lc {ifs : List Expr} {scope : Scope} {own : List (Str × Nat)} {ps : List Nat} {src : Ev → M (List PyData)} {t : Tg} {cond : Ev → M Bool} {el : Ev → M Val} (hc : X.calm = true) (hN : X.N.Nodup) (hi : PI X tg iter (TID ⟨X.K, cn⟩ E src)) (ok : BlkOk X.N X.env.scope scope own) (hp : ∀ i ∈ ps, i ∈ own.map (·.2))
    (hg : ∀ (s : Shared) (H : Hp) (C : Addr) (cl : List (Str × Addr)) (fp : List Addr), PG (X.blk s H scope (compEnvC scope cl C X.env) fp) tg (TGD X.K ps t))
    (ht : ∀ (s : Shared) (H : Hp) (C : Addr) (cl : List (Str × Addr)) (fp : List Addr), PTs (X.blk s H scope (compEnvC scope cl C X.env) fp) ifs (TDB ⟨X.K, cn⟩ E0 cond))
    (he : ∀ (s : Shared) (H : Hp) (C : Addr) (cl : List (Str × Addr)) (fp : List Addr), PE (X.blk s H scope (compEnvC scope cl C X.env) fp) elt (TD ⟨X.K, cn⟩ E0 el)) (hs : ∀ x, foldedSetIterable iter X.env x = pure x := by intro _; rfl) :
    PE X (.ListComp elt [⟨tg, iter, ifs, 0⟩] scope pos) (TD ⟨X.K, cn⟩ E (eLc src (own.map (·.2)) t cond el)) :=
  PE.imp (pe_lc hc hN hi ok hg ht he hs) fun σ H Q h => td_lc (c := ⟨X.K, cn⟩) hp h
/-! ### displays -/
def dTup (xs : List Val) : M Val := bnd (frzAll xs) fun ds => chk (decide (ds.length ≤ sizeLine)) (ret (.dat (.tuple ds)))
def dLst (xs : List Val) : M Val := bnd (frzAll xs) fun ds => chk (decide (ds.length ≤ sizeLine)) (ret (.dat (.list ds)))
def eA (g : List Val → M Val) (fs : Ev → M (List Val)) : Ev → M Val := fun ρ => bnd (fs ρ) g
theorem d_tup {es : List Expr} {k : Nat} (h : PA X es (TDA ⟨X.K, cn⟩ E fs)) : PE X (.Tuple es k pos) (TD ⟨X.K, cn⟩ E (eA dTup fs)) :=
  PE.imp (pe_tup h) fun σ H Q ⟨F, m, ρ, st, R, ev, p⟩ => ⟨F, m, ρ, st, R, ev, PostG.mono (PostG.bnd (T := RVals X.K) p) fun vs H1 ⟨F1, m1, st1, xs, S1, R1, r1, p⟩ => by
    obtain ⟨F2, st2, ds, S2, R2, r2, p⟩ := frzAll_ok R1 r1 p
    obtain ⟨z, p⟩ := post_chk p
    refine ⟨by rw [r2.length]; exact of_decide_eq_true z, fun q hq => ?_⟩
    obtain ⟨S3, R3⟩ := R2.new hq (.tup vs)
    exact p _ _ _ _ S3 R3 (.tup (SqT.of upd_same) (r2.mono S3.fF))⟩
theorem d_lst {es : List Expr} (h : PA X es (TDA ⟨X.K, cn⟩ E fs)) : PE X (.List es pos) (TD ⟨X.K, cn⟩ E (eA dLst fs)) :=
  PE.imp (pe_lst h) fun σ H Q ⟨F, m, ρ, st, R, ev, p⟩ => ⟨F, m, ρ, st, R, ev, PostG.mono (PostG.bnd (T := RVals X.K) p) fun vs H1 ⟨F1, m1, st1, xs, S1, R1, r1, p⟩ => by
    obtain ⟨F2, st2, ds, S2, R2, r2, p⟩ := frzAll_ok R1 r1 p
    obtain ⟨z, p⟩ := post_chk p
    refine ⟨by rw [r2.length]; exact of_decide_eq_true z, fun q hq => ?_⟩
    obtain ⟨S3, R3⟩ := R2.new hq (.lst vs)
    exact p _ _ _ _ S3 R3 (.lst upd_same (r2.mono S3.fF))⟩
/-! ### subscripts -/
theorem RpAll.atI {K : PySem.W.Frag} {F : Hp} {vs : List V} {ds : List PyData} {i : Int} {d : PyData} (h : RpAll K F vs ds) (e : L2.atI ds i = some d) : ∃ v, L2.atI vs i = some v ∧ Rp K F v d := by
  unfold L2.atI at e ⊢
  rw [h.length]
  cases q : ixN ds.length i with
  | none => rw [q] at e; cases e
  | some j => rw [q] at e; exact h.get e
def ixD : PyData → PyData → M Val
  | .list ds, .int i => fun st => (match L2.atI ds i with
    | some d => .ok (.dat d) st
    | none => .err)
  | .tuple ds, .int i => fun st => (match L2.atI ds i with
    | some d => .ok (.dat d) st
    | none => .err)
  | .str z, .int i => fun st => (match L2.atI z.cps.toList i with
    | some c => if z.length ≤ sizeLine then .ok (.dat (.str ⟨#[c]⟩)) st else .err
    | none => .err)
  | _, _ => fail
theorem o_ix : IxR X (rD ⟨X.K, cn⟩ E (on2 ixD)) := by
  intro ea eb pins s σ H x y v u Q I rx ry ⟨F, m, st, x', y', R, h1, h2, p⟩ hs
  unfold on2 at p
  cases ex : vw x' st with
  | none => rw [ex] at p; exact p.elim
  | some d =>
    cases ey : vw y' st with
    | none => rw [ex, ey] at p; exact p.elim
    | some e =>
      rw [ex, ey] at p
      have b1 := vw_ok R h1 ex
      have b2 := vw_ok R h2 ey
      refine ix_seq ea eb pins s σ H x y v u Q I rx ry ?_ hs
      dsimp only at p
      cases b2 <;> first
        | (cases b1 <;> exact p.elim)
        | skip
      cases b1 <;> first
        | exact p.elim
        | skip
      · rename_i i z
        unfold ixD at p
        dsimp only at p
        cases q : L2.atI z.cps.toList i with
        | none => rw [q] at p; exact p.elim
        | some c =>
          rw [q] at p
          dsimp only at p
          by_cases hl : z.length ≤ sizeLine
          · rw [if_pos hl] at p
            exact .inr (.inr ⟨_, _, c, rfl, rfl, hl, q, post_ok p R (Rp.str _)⟩)
          · rw [if_neg hl] at p; exact p.elim
      · rename_i i aa xs ds ha hr
        unfold ixD at p
        dsimp only at p
        cases q : L2.atI ds i with
        | none => rw [q] at p; exact p.elim
        | some c =>
          rw [q] at p
          obtain ⟨v, e1, e2⟩ := hr.atI q
          exact .inl ⟨_, _, _, v, rfl, rfl, SqL.of ha, e1, post_ok p R e2⟩
      · rename_i i aa xs ds ha hr
        unfold ixD at p
        dsimp only at p
        cases q : L2.atI ds i with
        | none => rw [q] at p; exact p.elim
        | some c =>
          rw [q] at p
          obtain ⟨v, e1, e2⟩ := hr.atI q
          exact .inr (.inl ⟨_, _, _, v, rfl, rfl, R.le.sqT ha, e1, post_ok p R e2⟩)
theorem d_ix (ha : PE X a (TD ⟨X.K, cn⟩ E f)) (hb : PE X b (TD ⟨X.K, cn⟩ E f')) (hs : PlainIx b := by exact fun _ _ => rfl) : PE X (.Subscript a b pos) (TD ⟨X.K, cn⟩ E (e2 (on2 ixD) f f')) :=
  PE.imp (pe_ix o_ix ha hb hs) fun σ H Q h => td_op (c := ⟨X.K, cn⟩) h
/-! ### slices -/
def cutD {α : Type} (xs : List α) (lo hi : Option Int) : List α := (xs.drop (HT.sIx xs.length 0 lo)).take (HT.sIx xs.length xs.length hi - HT.sIx xs.length 0 lo)
def slD (x : Val) (lo hi : Option Int) : M Val := fun st => match x with
  | .scr ns => .ok (.dat (.list ((cutD ns lo hi).map .int))) st
  | _ => (match vw x st with
    | some (.list ds) => .ok (.dat (.list (cutD ds lo hi))) st
    | some (.tuple ds) => .ok (.dat (.tuple (cutD ds lo hi))) st
    | _ => .err)
def asI (x : Val) : M Int := fun st => match x with
  | .dat (.int i) => .ok i st
  | _ => .err
def oN : Ev → M (Option Int) := fun _ => ret none
def oS (f : Ev → M Val) : Ev → M (Option Int) := fun ρ => bnd (f ρ) fun x => bnd (asI x) fun i => ret (some i)
def RO : Hp → List Addr → Option Int → Option Int → Prop := fun _ _ a b => a = b
abbrev TDO (c : Cf) (E : XK) (f : Ev → M (Option Int)) : TO := TDg c E RO f
theorem PO.imp {X : Cx} {e : Option Expr} {t t' : TO} (h : PO X e t) (i : ∀ σ H R, t' σ H R → t σ H R) : PO X e t' := ⟨fun pins s σ H R I q => h.run pins s σ H R I (i _ _ _ q)⟩
theorem s_none : PO X none (TDO ⟨X.K, cn⟩ E oN) := PO.imp po_none fun σ H Q ⟨F, m, ρ, st, R, ev, p⟩ => p F H m none (Stp.refl _ _ _) R rfl
theorem s_some (h : PE X a (TD ⟨X.K, cn⟩ E f)) : PO X (some a) (TDO ⟨X.K, cn⟩ E (oS f)) :=
  PO.imp (po_some h) fun σ H Q ⟨F, m, ρ, st, R, ev, p⟩ => ⟨F, m, ρ, st, R, ev, PostG.mono (PostG.bnd (T := RVal X.K) p) fun v H1 ⟨F1, m1, st1, x, S1, R1, r1, p⟩ => by
    cases x with
    | dat d =>
      cases d with
      | int i => cases r1; exact ⟨i, rfl, p F1 H1 m1 _ (Stp.refl _ _ _) R1 rfl⟩
      | _ => exact p.elim
    | _ => exact p.elim⟩
theorem RpAll.cut {K : PySem.W.Frag} {F : Hp} {vs : List V} {ds : List PyData} (h : RpAll K F vs ds) (lo hi : Option Int) : RpAll K F (cutV vs lo hi) (cutD ds lo hi) := by
  unfold cutV cutD
  rw [h.length]
  exact (h.drop _).take _
def eSl (f : Ev → M Val) (lo hi : Ev → M (Option Int)) : Ev → M Val := fun ρ => bnd (f ρ) fun x => bnd (lo ρ) fun l => bnd (hi ρ) fun h => slD x l h
theorem cutD_whole {α : Type} {xs : List α} {lo hi : Option Int} (h : HT.sIx xs.length 0 lo = 0 ∧ HT.sIx xs.length xs.length hi = xs.length) : cutD xs lo hi = xs := by
  unfold cutD
  rw [h.1, h.2]
  simp
theorem cut_map (ns : List Int) (lo hi : Option Int) : cutV (ns.map V.int) lo hi = (cutD ns lo hi).map V.int := by
  unfold cutV cutD
  simp [List.map_drop, List.map_take]
theorem RpAll.ints {K : PySem.W.Frag} {F : Hp} : ∀ ns : List Int, RpAll K F (ns.map V.int) (ns.map PyData.int)
  | [] => .nil
  | n :: r => .cons (.int n) (RpAll.ints r)
theorem SlR.imp {r r' : V → Option Int → Option Int → Hp → VK → Prop} (h : SlR X r) (i : ∀ x l u H Q, r' x l u H Q → r x l u H Q) : SlR X r' := fun pins s σ H x v vl vu lo hi sl Q I rx hs pl pu q => h pins s σ H x v vl vu lo hi sl Q I rx hs pl pu (i _ _ _ _ _ q)
theorem d_sl {lo hi : Option Expr} {fl fh : Ev → M (Option Int)} {p2 : Pos} (ha : PE X a (TD ⟨X.K, cn⟩ E f)) (hl : PO X lo (TDO ⟨X.K, cn⟩ E fl)) (hh : PO X hi (TDO ⟨X.K, cn⟩ E fh)) :
    PE X (.Subscript a (.Slice lo hi none p2) pos) (TD ⟨X.K, cn⟩ E (eSl f fl fh)) :=
  PE.imp (pe_slice (sl_list.or sl_tupA) ha hl hh) fun σ H Q ⟨F, m, ρ, st, R, ev, p⟩ => ⟨F, m, ρ, st, R, ev, PostG.mono (PostG.bnd (T := RVal X.K) p) fun v H1 ⟨F1, m1, st1, x, S1, R1, r1, p⟩ =>
    ⟨F1, m1, ρ, st1, R1, ev.later S1, PostG.mono (PostG.bnd (T := RO) p) fun l H2 ⟨F2, m2, st2, l', S2, R2, r2, p⟩ =>
    ⟨F2, m2, ρ, st2, R2, (ev.later S1).later S2, PostG.mono (PostG.bnd (T := RO) p) fun h H3 ⟨F3, m3, st3, h', S3, R3, r3, p⟩ => by
      have r2 : l' = l := r2
      have r3 : h' = h := r3
      subst r2; subst r3
      have rv := (r1.later S2).later S3
      have gen : ∀ d, vw x st3 = some d → (∀ ds, d = .list ds → Post ⟨X.K, cn⟩ E F3 H3 m3 (.ok (.dat (.list (cutD ds l' h'))) st3) Q) → (∀ ds, d = .tuple ds → Post ⟨X.K, cn⟩ E F3 H3 m3 (.ok (.dat (.tuple (cutD ds l' h'))) st3) Q) → ((∃ ds, d = .list ds) ∨ ∃ ds, d = .tuple ds) → rSlL X.K v l' h' H3 Q ∨ rSlA X.K v l' h' H3 Q := fun d e k1 k2 kk => by
        have b := vw_ok R3 rv e
        rcases kk with ⟨ds, rfl⟩ | ⟨ds, rfl⟩
        · cases b with
          | lst q1 q2 =>
            refine .inl ⟨_, _, rfl, SqL.of q1, fun q hq => ?_⟩
            obtain ⟨S4, R4⟩ := R3.new hq (.lst (cutV _ l' h'))
            exact k1 ds rfl _ _ _ _ S4 R4 (.lst upd_same ((q2.cut l' h').mono S4.fF))
        · cases b with
          | tup q1 q2 =>
            refine .inr ⟨_, _, rfl, R3.le.sqT q1, fun hw => ?_, fun _ q hq => ?_⟩
            · refine post_ok (k2 ds rfl) R3 ?_
              rw [q2.length] at hw
              rw [cutD_whole hw]
              exact .tup q1 q2
            · obtain ⟨S4, R4⟩ := R3.new hq (.tup (cutV _ l' h'))
              exact k2 ds rfl _ _ _ _ S4 R4 (.tup (SqT.of upd_same) ((q2.cut l' h').mono S4.fF))
      cases x with
      | scr ns =>
        obtain ⟨aa, rfl, hq⟩ := rv
        refine .inl ⟨aa, _, rfl, R3.le.sqL hq, fun q hq => ?_⟩
        rw [cut_map]
        obtain ⟨S4, R4⟩ := R3.new hq (.lst ((cutD ns l' h').map V.int))
        exact p _ _ _ _ S4 R4 (.lst upd_same (RpAll.ints _))
      | dat d =>
        cases d with
        | list ds => exact gen _ rfl (fun ds' e => by cases e; exact p) (fun ds' e => by cases e) (.inl ⟨_, rfl⟩)
        | tuple ds => exact gen _ rfl (fun ds' e => by cases e) (fun ds' e => by cases e; exact p) (.inr ⟨_, rfl⟩)
        | _ => exact p.elim
      | ref k =>
        unfold slD at p
        dsimp only at p
        cases q : vw (.ref k) st3 with
        | none => rw [q] at p; exact p.elim
        | some d =>
          rw [q] at p
          cases d with
          | list ds => exact gen _ q (fun ds' e => by cases e; exact p) (fun ds' e => by cases e) (.inl ⟨_, rfl⟩)
          | tuple ds => exact gen _ q (fun ds' e => by cases e) (fun ds' e => by cases e; exact p) (.inr ⟨_, rfl⟩)
          | _ => exact p.elim⟩⟩⟩
end
end PL

set_option Elab.async false
set_option linter.all false
set_option maxRecDepth 100000
namespace PL
open PySem PySem.Spec L2
open PyProof.Rows hiding St
section
variable {X : Cx} {cn : Str → Option Addr} {E : XK} {pos p : Pos} {a b : Expr} {es : List Expr} {f f' : Ev → M Val} {fs : Ev → M (List Val)}
/-! ### built-in calls -/
def rDA (c : Cf) (E : XK) (g : List Val → M Val) : List V → Hp → VK → Prop := fun vs H Q => ∃ F m st xs, Rel c.K F H m st ∧ RVals c.K F m xs vs ∧ Post c E F H m (g xs st) Q
theorem td_call {c : Cf} {g : List Val → M Val} {σ : St} {H : Hp} {Q : VK} (h : TD c E (eA g fs) σ H Q) : tCB (rDA c E g) (TDA c E fs) σ H Q := by
  obtain ⟨F, m, ρ, st, R, ev, p⟩ := h
  exact ⟨F, m, ρ, st, R, ev, PostG.mono (PostG.bnd (T := RVals c.K) p) fun vs H1 ⟨F1, m1, st1, xs, S1, R1, r1, p⟩ => ⟨F1, m1, st1, xs, R1, r1, p⟩⟩
theorem d_callB {x : Str} {id : String} {g : List Val → M Val} (hc : CallR X (.builtin id) (rDA ⟨X.K, cn⟩ E g)) (hm : X.mg x = none) (hv : bootBuiltins x = some (.builtin id)) (ha : PA X (a :: es) (TDA ⟨X.K, cn⟩ E fs)) (hg : Gl X x := by rfl) (hn : x ≠ "__name__" := by decide) (hdb : (x == ("__debug__" : Str)) = false := by decide)
    (he : starEach (a :: es) X.env = (false, eval a X.env) :: starEach es X.env := by rfl) (hpl : (backTo pos (starEach es X.env)).any (·.1) = false := by rfl) : PE X (.Call (.Name x p) (a :: es) [] pos) (TD ⟨X.K, cn⟩ E (eA g fs)) :=
  PE.imp (pe_callB hc hg hm hv ha hn hdb he hpl) fun σ H Q h => td_call h
theorem d_callT {x : Str} {T : String} {g : List Val → M Val} (hc : CallR X (.type T) (rDA ⟨X.K, cn⟩ E g)) (hm : X.mg x = none) (hv : bootBuiltins x = some (.type T)) (ha : PA X (a :: es) (TDA ⟨X.K, cn⟩ E fs)) (hg : Gl X x := by rfl) (hn : x ≠ "__name__" := by decide) (hdb : (x == ("__debug__" : Str)) = false := by decide)
    (he : starEach (a :: es) X.env = (false, eval a X.env) :: starEach es X.env := by rfl) (hpl : (backTo pos (starEach es X.env)).any (·.1) = false := by rfl) : PE X (.Call (.Name x p) (a :: es) [] pos) (TD ⟨X.K, cn⟩ E (eA g fs)) :=
  PE.imp (pe_callTy hc hg hm hv ha hn hdb he hpl) fun σ H Q h => td_call h
/-- one argument, by its view -/
def on1L (g : PyData → M Val) (xs : List Val) : M Val := match xs with
  | [x] => on1 g x
  | _ => fail
theorem on1L_ok {fv : Value} {g : PyData → M Val}
    (h : ∀ (pins : List (Addr × Obj)) (s : Shared) (σ : St) (H F : Hp) (m : List Addr) (st : Sto) (x : V) (d : PyData) (us : List Value) (Q : VK), Inv X pins σ H s → Vals [x] us → Rel X.K F H m st → VB X.K F H x d → Post ⟨X.K, cn⟩ E F H m (g d st) Q →
      wpAny (model X.prog X.w) X.A (call fv us) (EP X pins σ Q) X.xe s) : CallR X fv (rDA ⟨X.K, cn⟩ E (on1L g)) := by
  intro pins s σ H xs us Q I rx ⟨F, m, st, xs', R, h1, p⟩
  cases h1 with
  | nil => exact p.elim
  | cons h1 h2 =>
    cases h2 with
    | cons _ _ => exact p.elim
    | nil =>
      rename_i x' x
      have p : Post ⟨X.K, cn⟩ E F H m (on1 g x' st) Q := p
      unfold on1 at p
      cases ex : vw x' st with
      | none => rw [ex] at p; exact p.elim
      | some d => rw [ex] at p; exact h pins s σ H F m st x d us Q I rx R (vw_ok R h1 ex) p
def lenD : PyData → M Val
  | .str z => chk (decide (z.length ≤ sizeLine)) (bI z.length)
  | .list ds => bI ds.length
  | .tuple ds => bI ds.length
  | _ => fail
theorem c_len : CallR X (.builtin "len") (rDA ⟨X.K, cn⟩ E (on1L lenD)) := on1L_ok fun pins s σ H F m st x d us Q I rx R h1 p => by
  cases h1 <;> first | exact p.elim | skip
  · obtain ⟨z, p⟩ := post_chk p
    exact call_len pins s σ H _ us Q I rx ⟨_, _, rfl, ⟨of_decide_eq_true z, rfl⟩, post_ok p R (Rp.int _)⟩
  · rename_i h1 h2
    exact call_len pins s σ H _ us Q I rx ⟨_, _, rfl, .inl ⟨_, SqL.of h1, rfl⟩, post_ok p R (by rw [h2.length]; exact Rp.int _)⟩
  · rename_i h1 h2
    exact call_len pins s σ H _ us Q I rx ⟨_, _, rfl, .inr ⟨_, R.le.sqT h1, rfl⟩, post_ok p R (by rw [h2.length]; exact Rp.int _)⟩
def bools : List PyData → Option (List Bool)
  | [] => some []
  | .bool b :: r => (bools r).map (b :: ·)
  | _ :: _ => none
theorem bools_ok {K : PySem.W.Frag} {F : Hp} : ∀ {vs : List V} {ds : List PyData} {bs : List Bool}, RpAll K F vs ds → bools ds = some bs → vs = bs.map V.bl
  | _, _, bs, .nil, e => by cases e; rfl
  | _, _, bs, .cons h r, e => by
    cases h <;> first | cases e | skip
    rename_i vs ds b
    unfold bools at e
    cases q : bools ds with
    | none => rw [q] at e; cases e
    | some l =>
      rw [q] at e
      cases e
      rw [bools_ok r q]
      rfl
def allD : PyData → M Val
  | .list ds => fun st => (match bools ds with
    | some bs => bB (bs.all id) st
    | none => .err)
  | _ => fail
def anyD : PyData → M Val
  | .list ds => fun st => (match bools ds with
    | some bs => bB (bs.any id) st
    | none => .err)
  | _ => fail
theorem c_all (hc : X.calm = true) : CallR X (.builtin "all") (rDA ⟨X.K, cn⟩ E (on1L allD)) := on1L_ok fun pins s σ H F m st x d us Q I rx R h1 p => by
  cases h1 <;> first | exact p.elim | skip
  rename_i aa xs ds h1 h2
  unfold allD at p
  dsimp only at p
  cases q : bools ds with
  | none => rw [q] at p; exact p.elim
  | some bs =>
    rw [q] at p
    have e := bools_ok h2 q
    subst e
    exact cr_all hc pins s σ H _ us Q I rx ⟨_, bs, rfl, SqL.of h1, post_ok p R (Rp.bl _)⟩
theorem c_any (hc : X.calm = true) : CallR X (.builtin "any") (rDA ⟨X.K, cn⟩ E (on1L anyD)) := on1L_ok fun pins s σ H F m st x d us Q I rx R h1 p => by
  cases h1 <;> first | exact p.elim | skip
  rename_i aa xs ds h1 h2
  unfold anyD at p
  dsimp only at p
  cases q : bools ds with
  | none => rw [q] at p; exact p.elim
  | some bs =>
    rw [q] at p
    have e := bools_ok h2 q
    subst e
    exact cr_any hc pins s σ H _ us Q I rx ⟨_, bs, rfl, SqL.of h1, post_ok p R (Rp.bl _)⟩
def listD : PyData → M Val
  | .list ds => ret (.dat (.list ds))
  | .tuple ds => ret (.dat (.list ds))
  | _ => fail
theorem c_list : CallR X (.type "list") (rDA ⟨X.K, cn⟩ E (on1L listD)) := on1L_ok fun pins s σ H F m st x d us Q I rx R h1 p => by
  cases h1 <;> first | exact p.elim | skip
  · rename_i aa xs ds h1 h2
    refine call_list_of pins s σ H _ us Q I rx ⟨_, _, rfl, .inl (SqL.of h1), fun l hl => ?_⟩
    obtain ⟨S, R'⟩ := R.new hl (.lst xs)
    exact p _ _ _ _ S R' (.lst upd_same (h2.mono S.fF))
  · rename_i aa xs ds h1 h2
    refine call_list_of pins s σ H _ us Q I rx ⟨_, _, rfl, .inr (R.le.sqT h1), fun l hl => ?_⟩
    obtain ⟨S, R'⟩ := R.new hl (.lst xs)
    exact p _ _ _ _ S R' (.lst upd_same (h2.mono S.fF))
def tupleD : PyData → M Val
  | .list ds => ret (.dat (.tuple ds))
  | .tuple ds => ret (.dat (.tuple ds))
  | _ => fail
theorem c_tuple : CallR X (.type "tuple") (rDA ⟨X.K, cn⟩ E (on1L tupleD)) := on1L_ok fun pins s σ H F m st x d us Q I rx R h1 p => by
  cases h1 <;> first | exact p.elim | skip
  · rename_i aa xs ds h1 h2
    refine call_tuple_of pins s σ H _ us Q I rx ⟨_, _, rfl, .inl ⟨SqL.of h1, fun l hl => ?_⟩⟩
    obtain ⟨S, R'⟩ := R.new hl (.tup xs)
    exact p _ _ _ _ S R' (.tup (SqT.of upd_same) (h2.mono S.fF))
  · rename_i aa xs ds h1 h2
    exact call_tuple_of pins s σ H _ us Q I rx ⟨_, _, rfl, .inr ⟨R.le.sqT h1, post_ok p R (.tup h1 h2)⟩⟩
def intD : PyData → M Val
  | .int i => bI i
  | .bool b => bI (if b then 1 else 0)
  | _ => fail
theorem c_int : CallR X (.type "int") (rDA ⟨X.K, cn⟩ E (on1L intD)) := on1L_ok fun pins s σ H F m st x d us Q I rx R h1 p => by
  cases h1 <;> first
    | exact p.elim
    | exact call_int1 pins s σ H _ us Q I rx (.inl ⟨_, rfl, post_ok p R (Rp.int _)⟩)
    | exact call_int1 pins s σ H _ us Q I rx (.inr ⟨_, rfl, post_ok p R (Rp.int _)⟩)
def reprD (d : PyData) : M Val := chk (d.showable && !d.hasDict && decide (d.depth ≤ 60) && decide (d.shown.length ≤ sizeLine)) (bS d.shown)
theorem c_repr (hg : X.A.guards = some []) (hu : X.A.units + 64 < cLine) : CallR X (.builtin "repr") (rDA ⟨X.K, cn⟩ E (on1L reprD)) := on1L_ok fun pins s σ H F m st x d us Q I rx R h1 p => by
  obtain ⟨z, p⟩ := post_chk p
  simp only [Bool.and_eq_true, decide_eq_true_eq, Bool.not_eq_true'] at z
  obtain ⟨⟨⟨z1, z2⟩, z3⟩, z4⟩ := z
  obtain ⟨u, rfl, ru⟩ := vals1 rx
  have q : Q (.str d.shown) H := post_ok p R (Rp.str _)
  cases h1 with
  | non => cases ru; exact PySem.P.repr_of_none ⟨.str _, H, I.tok _, ⟨_, rfl⟩, q⟩
  | bl b =>
    cases ru
    refine PySem.P.repr_of_bool ⟨.str _, H, I.tok _, ⟨_, rfl⟩, ?_⟩
    cases b <;> exact q
  | int i =>
    obtain ⟨t, rfl⟩ := ru
    have z1 : i.natAbs.log2 < 1920 := of_decide_eq_true z1
    exact PySem.P.repr_of_int z1 ⟨.str _, H, I.tok _, ⟨_, rfl⟩, q⟩
  | str y =>
    obtain ⟨t, rfl⟩ := ru
    exact PySem.P.repr_of_str ⟨.str _, H, I.tok _, ⟨_, rfl⟩, q⟩ z4
  | lst h1 h2 =>
    cases ru
    obtain ⟨as, rd⟩ := Dp.reads I _ _ _ (VB.dp R.le (.lst h1 h2)) rfl
    exact repr_of_reads' rd z1 (fun h => by rw [z2] at h; cases h) hg (by omega) (fun _ _ h => h) (fun h' u tk hk => ⟨.str _, H, I.kept hk, ⟨_, rfl⟩, q⟩) z4
  | tup h1 h2 =>
    cases ru
    obtain ⟨as, rd⟩ := Dp.reads I _ _ _ (VB.dp R.le (.tup h1 h2)) rfl
    exact repr_of_reads' rd z1 (fun h => by rw [z2] at h; cases h) hg (by omega) (fun _ _ h => h) (fun h' u tk hk => ⟨.str _, H, I.kept hk, ⟨_, rfl⟩, q⟩) z4
/-! ### isinstance(x, T), T a built-in class -/
def tyN : PyData → String
  | .none => "NoneType"
  | .bool _ => "bool"
  | .int _ => "int"
  | .str _ => "str"
  | .list _ => "list"
  | .tuple _ => "tuple"
  | .dict _ => "dict"
def isD (T : String) (d : PyData) : M Val := fun st => match kitB (tyN d) T with
  | some b => bB b st
  | none => .err
theorem VB.ty {K : PySem.W.Frag} {F H : Hp} {v : V} {d : PyData} (l : Le F H) (h : VB K F H v d) : TyX K H v (.type (tyN d)) := by
  cases h with
  | non => exact .base .non
  | bl b => exact .base (.bl b)
  | int i => exact .base (.int i)
  | str x => exact .base (.str x)
  | lst h r => exact .base (.lst h)
  | tup h r =>
    rcases h with (h | ⟨o, h⟩) | ⟨o, its, n, h1, h2, _⟩
    · exact .base (.tup (l _ _ h))
    · exact .fTuple (l _ _ h)
    · exact .kTuple h1 h2
theorem d_isi (T : String) {x : Str} {q : Pos} (hm : X.mg "isinstance" = none) (hm2 : X.mg x = none) (hv2 : bootBuiltins x = some (.type T)) (ha : PE X a (TD ⟨X.K, cn⟩ E f)) (hg : Gl X "isinstance" := by rfl) (hg2 : Gl X x := by rfl) (hn : x ≠ "__name__" := by decide) (hdb : (x == ("__debug__" : Str)) = false := by decide)
    (he : starEach [a, .Name x q] X.env = (false, eval a X.env) :: starEach [.Name x q] X.env := by rfl) (he2 : starEach [.Name x q] X.env = (false, eval (.Name x q) X.env) :: starEach [] X.env := by rfl) (hpl : (backTo pos (starEach [.Name x q] X.env)).any (·.1) = false := by rfl) :
    PE X (.Call (.Name "isinstance" p) [a, .Name x q] [] pos) (TD ⟨X.K, cn⟩ E (e1 (on1 (isD T)) f)) :=
  PE.imp (pe_callB call_isi hg hm boot_isinstance (pa_cons ha (pa_cons (pe_bltn (v := .ty T) hg2 hm2 hv2 rfl hn hdb) pa_nil he2) he) (by decide) (by decide) he hpl) fun σ H Q ⟨F, m, ρ, st, R, ev, p⟩ => ⟨F, m, ρ, st, R, ev, PostG.mono (PostG.bnd (T := RVal X.K) p) fun v H1 ⟨F1, m1, st1, x', S1, R1, r1, p⟩ => by
    unfold on1 at p
    cases ex : vw x' st1 with
    | none => rw [ex] at p; exact p.elim
    | some d =>
      rw [ex] at p
      dsimp only [isD] at p
      cases k : kitB (tyN d) T with
      | none => rw [k] at p; exact p.elim
      | some b =>
        rw [k] at p
        exact ⟨v, .ty T, _, _, b, rfl, .ty T, (vw_ok R1 r1 ex).ty R1.le, kit_ty k, post_ok p R1 (Rp.bl b)⟩⟩
/-! ### True, False by identity -/
def isBD (d e : PyData) : M Val := match d, e with
  | .bool b, .bool b' => bB (decide (b = b'))
  | _, _ => fail
theorem o_isB : OpR X (compareOp .Is) (rD ⟨X.K, cn⟩ E (on2 isBD)) := on2_ok fun pins s σ H F m st x y d e v u Q I rx ry R h1 h2 p => by
  cases h1 <;> cases h2 <;> first
    | exact p.elim
    | exact op_isBl pins s σ H _ _ v u Q I rx ry ⟨_, _, rfl, rfl, post_ok p R (Rp.bl _)⟩
end
end PL

set_option Elab.async false
set_option linter.all false
set_option maxRecDepth 100000
namespace PL
open PySem PySem.Spec L2
open PyProof.Rows hiding St
/-! ### the store's things changed -/
theorem Rel.setAt {K : PySem.W.Frag} {F H : Hp} {m : List Addr} {st : Sto} {k : Nat} {a : Addr} {o : HO} {so : SO} (R : Rel K F H m st) (ha : m[k]? = some a) (hF : F a = none) (ok : SOk K F (upd H a o) a so) : Stp F H m F (upd H a o) m ∧ Rel K F (upd H a o) m (st.set k so) := by
  have hm : a ∈ m := List.mem_of_getElem? ha
  refine ⟨⟨Le.refl F, ⟨[], by simp⟩, fun b u h n => by rw [upd_ne (fun z => n (by rw [z]; exact hm))]; exact h, fun _ _ _ _ f => f, fun _ h n => absurd h n⟩, ⟨fun b u e => ?_, by simp [R.len], R.nd, fun j b o' e1 e2 => ?_⟩⟩
  · rw [upd_ne (ne_of_none e hF)]; exact R.le _ _ e
  · by_cases hj : k = j
    · subst hj
      rw [ha] at e1; cases e1
      have hl : k < st.length := by rw [← R.len]; exact (List.getElem?_eq_some_iff.mp ha).1
      rw [List.getElem?_set_self hl] at e2
      cases e2
      exact ok
    · rw [List.getElem?_set_ne hj] at e2
      have ne : b ≠ a := fun z => hj (nodup_get R.nd ha (z ▸ e1))
      have ob := R.ob j b o' e1 e2
      cases o' with
      | lst ds => obtain ⟨h0, vs, h1, h2⟩ := ob; exact ⟨h0, vs, by rw [upd_ne ne]; exact h1, h2⟩
      | dct ds => obtain ⟨h0, vs, h1, h2⟩ := ob; exact ⟨h0, vs, by rw [upd_ne ne]; exact h1, h2⟩
      | frz d => exact ob
/-- an object that is newer than some moment becomes the store's next thing -/
theorem Rel.take {K : PySem.W.Frag} {F0 H0 F H : Hp} {m0 m : List Addr} {st : Sto} {p : Addr} {o : HO} {so : SO} (S : Stp F0 H0 m0 F H m) (R : Rel K F H m st) (hp : H0 p = none) (hF : F p = none) (hm : p ∉ m) (ok : SOk K F (upd H p o) p so) :
    Stp F0 H0 m0 F (upd H p o) (m ++ [p]) ∧ Rel K F (upd H p o) (m ++ [p]) (st ++ [so]) := by
  have R1 := R.extra hF hm o
  obtain ⟨r, er⟩ := S.mm
  refine ⟨⟨S.fF, ⟨r ++ [p], by rw [er, List.append_assoc]⟩, fun a u h n => by rw [upd_ne (ne_of_none h hp)]; exact S.frm a u h n, S.nF, fun a h n => ?_⟩, ⟨R1.le, by simp [R.len], ?_, fun k a so' e1 e2 => ?_⟩⟩
  · rcases List.mem_append.mp h with h | h
    · exact S.nm a h n
    · rw [List.mem_singleton.mp h]; exact hp
  · rw [List.nodup_append]
    exact ⟨R.nd, by simp, fun a ha b hb => by rw [List.mem_singleton.mp hb]; exact fun z => hm (z ▸ ha)⟩
  · by_cases hk : k < m.length
    · rw [List.getElem?_append_left hk] at e1
      rw [List.getElem?_append_left (by rw [← R.len]; exact hk)] at e2
      exact R1.ob k a so' e1 e2
    · have hl : k = m.length := by
        have := (List.getElem?_eq_some_iff.mp e1).1
        simp at this; omega
      subst hl
      rw [List.getElem?_append_right (Nat.le_refl _)] at e1
      rw [R.len, List.getElem?_append_right (Nat.le_refl _)] at e2
      simp at e1 e2
      subst e1; subst e2
      exact ok
/-! ### dicts -/
def keyD : PyData → Option Key
  | .int i => some (.inl i)
  | .str x => some (.inr x)
  | _ => none
def valD (kvs : List (Key × PyData)) (k : Key) : Option PyData := (kvs.find? fun kv => decide (kv.1 = k)).map (·.2)
def putD (kvs : List (Key × PyData)) (k : Key) (d : PyData) : List (Key × PyData) := if (kvs.any fun kv => decide (kv.1 = k)) = true then kvs.map (fun kv => if kv.1 = k then (kv.1, d) else kv) else kvs ++ [(k, d)]
abbrev RKV (K : PySem.W.Frag) (F : Hp) : List (Key × V) → List (Key × PyData) → Prop := Paired (fun (p : Key × V) (q : Key × PyData) => p.1 = q.1 ∧ Rp K F p.2 q.2)
theorem RKV.val {K : PySem.W.Frag} {F : Hp} {k : Key} : ∀ {ws : List (Key × V)} {kvs : List (Key × PyData)}, RKV K F ws kvs → (valD kvs k = none ∧ valV ws k = none) ∨ ∃ d v, valD kvs k = some d ∧ valV ws k = some v ∧ Rp K F v d
  | _, _, .nil => .inl ⟨rfl, rfl⟩
  | _, _, @Paired.cons _ _ _ p q ws kvs h r => by
    by_cases e : p.1 = k
    · refine .inr ⟨q.2, p.2, ?_, valV_pos e, h.2⟩
      have e2 : q.1 = k := by rw [← h.1]; exact e
      simp [valD, e2]
    · have e2 : ¬ q.1 = k := by rw [← h.1]; exact e
      have h1 : valD (q :: kvs) k = valD kvs k := by simp [valD, List.find?_cons, e2]
      rw [h1, valV_neg e]
      exact RKV.val r
theorem RKV.any {K : PySem.W.Frag} {F : Hp} {k : Key} : ∀ {ws : List (Key × V)} {kvs : List (Key × PyData)}, RKV K F ws kvs → (ws.any fun kv => decide (kv.1 = k)) = kvs.any fun kv => decide (kv.1 = k)
  | _, _, .nil => rfl
  | _, _, .cons h r => by rw [List.any_cons, List.any_cons, h.1, RKV.any r]
theorem RKV.length {K : PySem.W.Frag} {F : Hp} : ∀ {ws : List (Key × V)} {kvs : List (Key × PyData)}, RKV K F ws kvs → ws.length = kvs.length
  | _, _, .nil => rfl
  | _, _, .cons h r => by simp [RKV.length r]
theorem RKV.map {K : PySem.W.Frag} {F : Hp} {k : Key} {v : V} {d : PyData} (rv : Rp K F v d) : ∀ {ws : List (Key × V)} {kvs : List (Key × PyData)}, RKV K F ws kvs → RKV K F (ws.map fun kv => if kv.1 = k then (kv.1, v) else kv) (kvs.map fun kv => if kv.1 = k then (kv.1, d) else kv)
  | _, _, .nil => .nil
  | _, _, @Paired.cons _ _ _ p q ws kvs h r => by
    refine .cons ?_ (RKV.map rv r)
    dsimp only
    by_cases e : p.1 = k
    · have e2 : q.1 = k := by rw [← h.1]; exact e
      rw [if_pos e, if_pos e2]
      exact ⟨h.1, rv⟩
    · have e2 : ¬ q.1 = k := by rw [← h.1]; exact e
      rw [if_neg e, if_neg e2]
      exact h
theorem RKV.snoc {K : PySem.W.Frag} {F : Hp} {k : Key} {v : V} {d : PyData} (rv : Rp K F v d) : ∀ {ws : List (Key × V)} {kvs : List (Key × PyData)}, RKV K F ws kvs → RKV K F (ws ++ [(k, v)]) (kvs ++ [(k, d)])
  | _, _, .nil => .cons ⟨rfl, rv⟩ .nil
  | _, _, .cons h r => .cons h (RKV.snoc rv r)
theorem RKV.put {K : PySem.W.Frag} {F : Hp} {k : Key} {v : V} {d : PyData} {ws : List (Key × V)} {kvs : List (Key × PyData)} (rv : Rp K F v d) (h : RKV K F ws kvs) : RKV K F (putK ws k v) (putD kvs k d) := by
  unfold putK putD
  rw [h.any]
  split
  · exact h.map rv
  · exact h.snoc rv
theorem keyD_ok {K : PySem.W.Frag} {F H : Hp} {v : V} {d : PyData} {k : Key} (h : VB K F H v d) (e : keyD d = some k) : v = kV k := by
  cases h <;> first | cases e | skip
  · rfl
  · rfl
def dctV (x : Val) (st : Sto) : Option (Nat × List (Key × PyData)) := match x with
  | .ref k => (match st[k]? with
    | some (.dct kvs) => some (k, kvs)
    | _ => none)
  | _ => none
theorem dctV_ok {K : PySem.W.Frag} {F H : Hp} {m : List Addr} {st : Sto} {x : Val} {v : V} {k : Nat} {kvs : List (Key × PyData)} (R : Rel K F H m st) (h : RVal K F m x v) (e : dctV x st = some (k, kvs)) : ∃ a ws, v = .ref a ∧ m[k]? = some a ∧ F a = none ∧ H a = some (.dK ws) ∧ RKV K F ws kvs := by
  cases x with
  | dat d => cases e
  | scr ns => cases e
  | ref j =>
    obtain ⟨a, ha, rfl⟩ := h
    simp only [dctV] at e
    cases q : st[j]? with
    | none => rw [q] at e; cases e
    | some o =>
      rw [q] at e
      have ob := R.ob j a o ha q
      cases o with
      | dct kvs' => cases e; obtain ⟨h0, ws, h1, h2⟩ := ob; exact ⟨a, ws, rfl, ha, h0, h1, h2⟩
      | _ => cases e
def dgetV (x y : Val) : M Val := fun st => match dctV x st, (vw y st).bind keyD with
  | some (_, kvs), some key => (match valD kvs key with
    | some d => .ok (.dat d) st
    | none => .err)
  | _, _ => .err
section
variable {X : Cx} {cn : Str → Option Addr} {E : XK} {pos p : Pos} {a b c3 : Expr} {es : List Expr} {f f' f3 : Ev → M Val} {fs : Ev → M (List Val)}
theorem d_dget (hu : X.A.units + 1 < cLine) (ha : PE X a (TD ⟨X.K, cn⟩ E f)) (hb : PE X b (TD ⟨X.K, cn⟩ E f')) (hs : NoSl b := by exact fun _ _ => rfl) : PE X (.Subscript a b pos) (TD ⟨X.K, cn⟩ E (e2 dgetV f f')) :=
  PE.imp (pe_dget hu ha hb hs) fun σ H Q ⟨F, m, ρ, st, R, ev, p⟩ => ⟨F, m, ρ, st, R, ev, PostG.mono (PostG.bnd (T := RVal X.K) p) fun v H1 ⟨F1, m1, st1, x, S1, R1, r1, p⟩ =>
    ⟨F1, m1, ρ, st1, R1, ev.later S1, PostG.mono (PostG.bnd (T := RVal X.K) p) fun w H2 ⟨F2, m2, st2, y, S2, R2, r2, p⟩ => by
      unfold dgetV at p
      cases q1 : dctV x st2 with
      | none => rw [q1] at p; exact p.elim
      | some kk =>
        obtain ⟨k, kvs⟩ := kk
        cases q2 : vw y st2 with
        | none => rw [q1, q2] at p; exact p.elim
        | some d =>
          cases q3 : keyD d with
          | none => rw [q1, q2] at p; simp only [Option.bind_some, q3] at p; exact p.elim
          | some key =>
            rw [q1, q2] at p
            simp only [Option.bind_some, q3] at p
            obtain ⟨aa, ws, rfl, _, _, h1, h2⟩ := dctV_ok R2 (r1.later S2) q1
            have ek := keyD_ok (vw_ok R2 r2 q2) q3
            subst ek
            rcases h2.val (k := key) with ⟨e1, e2⟩ | ⟨d', v', e1, e2, r⟩
            · rw [e1] at p; exact p.elim
            · rw [e1] at p
              exact ⟨aa, v', rfl, by rw [← e2]; exact DGet.k h1, post_ok p R2 r⟩⟩⟩
/-- d.get(k, x) -/
def dget2V (x y z : Val) : M Val := fun st => match dctV x st, (vw y st).bind keyD with
  | some (_, kvs), some key => (match valD kvs key with
    | some d => .ok (.dat d) st
    | none => .ok z st)
  | _, _ => .err
def chkD (x : Val) : M Unit := fun st => match dctV x st with
  | some _ => .ok () st
  | none => .err
def eDget2 (f1 f2 f3 : Ev → M Val) : Ev → M Val := fun ρ => bnd (f1 ρ) fun x => bnd (chkD x) fun _ => bnd (f2 ρ) fun y => bnd (f3 ρ) fun z => dget2V x y z
theorem chkD_ok {α β : Type} {c : Cf} {T : Hp → List Addr → α → β → Prop} {F H : Hp} {m : List Addr} {st : Sto} {x : Val} {v : V} {k : Unit → M α} {Q : β → Hp → Prop} (R : Rel c.K F H m st) (r : RVal c.K F m x v) (p : PostG c E T F H m (bnd (chkD x) k st) Q) :
    (∃ aa ws, v = .ref aa ∧ H aa = some (.dK ws)) ∧ PostG c E T F H m (k () st) Q := by
  unfold bnd chkD at p
  cases q : dctV x st with
  | none => rw [q] at p; exact p.elim
  | some kk =>
    rw [q] at p
    obtain ⟨j, kvs⟩ := kk
    obtain ⟨aa, ws, e, _, _, h1, _⟩ := dctV_ok R r q
    exact ⟨⟨aa, ws, e, h1⟩, p⟩
theorem d_dget2 {apos cpos : Pos} (hu : X.A.units + 1 < cLine) (ha : PE X a (TD ⟨X.K, cn⟩ E f)) (hb : PE X b (TD ⟨X.K, cn⟩ E f')) (hc : PE X c3 (TD ⟨X.K, cn⟩ E f3)) (m : M2 X a "get" apos b c3 cpos := by exact ⟨rfl, rfl, rfl, rfl⟩) :
    PE X (.Call (.Attribute a "get" apos) [b, c3] [] cpos) (TD ⟨X.K, cn⟩ E (eDget2 f f' f3)) :=
  PE.imp (pe_dget2 hu ha hb hc m) fun σ H Q ⟨F, m, ρ, st, R, ev, p⟩ => ⟨F, m, ρ, st, R, ev, PostG.mono (PostG.bnd (T := RVal X.K) p) fun v H1 ⟨F1, m1, st1, x, S1, R1, r1, p⟩ => by
    obtain ⟨⟨aa, ws, e, h1⟩, p⟩ := chkD_ok R1 r1 p
    refine ⟨aa, e, .inl ⟨ws, .inl h1⟩, F1, m1, ρ, st1, R1, ev.later S1, PostG.mono (PostG.bnd (T := RVal X.K) p) fun w H2 ⟨F2, m2, st2, y, S2, R2, r2, p⟩ => ?_⟩
    refine ⟨F2, m2, ρ, st2, R2, (ev.later S1).later S2, PostG.mono (PostG.bnd (T := RVal X.K) p) fun w' H3 ⟨F3, m3, st3, z, S3, R3, r3, p⟩ => ?_⟩
    unfold dget2V at p
    cases q1 : dctV x st3 with
    | none => rw [q1] at p; exact p.elim
    | some kk =>
      obtain ⟨k, kvs⟩ := kk
      cases q2 : vw y st3 with
      | none => rw [q1, q2] at p; exact p.elim
      | some d =>
        cases q3 : keyD d with
        | none => rw [q1, q2] at p; simp only [Option.bind_some, q3] at p; exact p.elim
        | some key =>
          rw [q1, q2] at p
          simp only [Option.bind_some, q3] at p
          obtain ⟨aa', ws', e', _, _, h1', h2⟩ := dctV_ok R3 ((r1.later S2).later S3) q1
          rw [e] at e'
          cases e'
          have ek := keyD_ok (vw_ok R3 (r2.later S3) q2) q3
          subst ek
          rcases h2.val (k := key) with ⟨e1, e2⟩ | ⟨d', v', e1, e2, r⟩
          · rw [e1] at p
            exact ⟨none, by rw [← e2]; exact DGet.k h1', post_ok p R3 r3⟩
          · rw [e1] at p
            exact ⟨some v', by rw [← e2]; exact DGet.k h1', post_ok p R3 r⟩⟩
/-- k in d, k not in d -/
def dinV (neg : Bool) (y x : Val) : M Val := fun st => match dctV x st, (vw y st).bind keyD with
  | some (_, kvs), some key => bB (xor neg (valD kvs key).isSome) st
  | _, _ => .err
theorem din_key {F H : Hp} {m : List Addr} {st : Sto} {neg : Bool} {x y : Val} {v w : V} {Q : VK} (R : Rel X.K F H m st) (r1 : RVal X.K F m y w) (r2 : RVal X.K F m x v) (p : Post ⟨X.K, cn⟩ E F H m (dinV neg y x st) Q) : ∃ aa o, v = .ref aa ∧ DGet H aa w o ∧ Q (.bl (xor neg o.isSome)) H := by
  unfold dinV at p
  cases q1 : dctV x st with
  | none => rw [q1] at p; exact p.elim
  | some kk =>
    obtain ⟨k, kvs⟩ := kk
    cases q2 : vw y st with
    | none => rw [q1, q2] at p; exact p.elim
    | some d =>
      cases q3 : keyD d with
      | none => rw [q1, q2] at p; simp only [Option.bind_some, q3] at p; exact p.elim
      | some key =>
        rw [q1, q2] at p
        simp only [Option.bind_some, q3] at p
        obtain ⟨aa, ws, rfl, _, _, h1, h2⟩ := dctV_ok R r2 q1
        have ek := keyD_ok (vw_ok R r1 q2) q3
        subst ek
        rcases h2.val (k := key) with ⟨e1, e2⟩ | ⟨d', v', e1, e2, r⟩
        · rw [e1] at p
          exact ⟨aa, _, rfl, DGet.k h1, by rw [e2]; exact post_ok p R (Rp.bl _)⟩
        · rw [e1] at p
          exact ⟨aa, _, rfl, DGet.k h1, by rw [e2]; exact post_ok p R (Rp.bl _)⟩
theorem d_din (hu : X.A.units + 1 < cLine) (ha : PE X a (TD ⟨X.K, cn⟩ E f)) (hb : PE X b (TD ⟨X.K, cn⟩ E f')) (h1 : behindInMarks .In b = false := by rfl) : PE X (.Compare a [.In] [b] pos) (TD ⟨X.K, cn⟩ E (e2 (dinV false) f f')) :=
  PE.imp (pe_cmp (pc_din hu ha hb) h1) fun σ H Q ⟨F, m, ρ, st, R, ev, p⟩ => ⟨F, m, ρ, st, R, ev, PostG.mono (PostG.bnd (T := RVal X.K) p) fun v H1 ⟨F1, m1, st1, x, S1, R1, r1, p⟩ =>
    ⟨F1, m1, ρ, st1, R1, ev.later S1, PostG.mono (PostG.bnd (T := RVal X.K) p) fun w H2 ⟨F2, m2, st2, y, S2, R2, r2, p⟩ => by
      obtain ⟨aa, o, e1, e2, q⟩ := din_key R2 (r1.later S2) r2 p
      exact ⟨aa, o, e1, e2, by simpa using q⟩⟩⟩
/-- a dict display -/
def ePairs : List ((Ev → M Val) × (Ev → M Val)) → Ev → M (List (Key × PyData))
  | [], _ => ret []
  | (k, v) :: r, ρ => bnd (k ρ) fun x => bnd (v ρ) fun y => bnd (frzV x) fun d => bnd (opt (keyD d)) fun key => bnd (frzV y) fun e => bnd (ePairs r ρ) fun l => ret ((key, e) :: l)
def mergeD (kvs : List (Key × PyData)) : List (Key × PyData) := kvs.foldl (fun acc kv => putD acc kv.1 kv.2) []
def newS (so : SO) : M Val := fun st => .ok (.ref st.length) (st ++ [so])
def eDisp (prs : List ((Ev → M Val) × (Ev → M Val))) : Ev → M Val := fun ρ => bnd (ePairs prs ρ) fun kvs => chk (decide (kvs.length ≤ 15)) (newS (.dct (mergeD kvs)))
def RPrs (K : PySem.W.Frag) : Hp → List Addr → List (Key × PyData) → List (V × V) → Prop := fun F _ kvs ps => ∃ ws : List (Key × V), ps = ws.map (fun kv => (kV kv.1, kv.2)) ∧ RKV K F ws kvs
theorem td_pairs {c : Cf} {σ : St} : ∀ {prs : List ((Ev → M Val) × (Ev → M Val))} {H F : Hp} {m : List Addr} {ρ : Ev} {st : Sto} {Q : List (V × V) → Hp → Prop}, Rel c.K F H m st → EnvR c.K F m ρ σ → PostG c E (RPrs c.K) F H m (ePairs prs ρ st) Q →
    tPairs (prs.map fun q => (TD c E q.1, TD c E q.2)) σ H Q
  | [], H, F, m, ρ, st, Q, R, ev, p => p F H m _ (Stp.refl _ _ _) R ⟨[], rfl, .nil⟩
  | (k, v) :: r, H, F, m, ρ, st, Q, R, ev, p => by
    unfold ePairs at p
    refine ⟨F, m, ρ, st, R, ev, PostG.mono (PostG.bnd (T := RVal c.K) p) fun w H1 ⟨F1, m1, st1, x, S1, R1, r1, p⟩ => ?_⟩
    refine ⟨F1, m1, ρ, st1, R1, ev.later S1, PostG.mono (PostG.bnd (T := RVal c.K) p) fun w' H2 ⟨F2, m2, st2, y, S2, R2, r2, p⟩ => ?_⟩
    obtain ⟨F3, st3, d, S3, R3, r3, p, _⟩ := frz_ok R2 (r1.later S2) p
    cases q : keyD d with
    | none => rw [q] at p; exact p.elim
    | some key =>
      rw [q] at p
      have p : PostG c E (RPrs c.K) F3 H2 m2 (bnd (frzV y) (fun e => bnd (ePairs r ρ) fun l => ret ((key, e) :: l)) st3) Q := p
      obtain ⟨F4, st4, e, S4, R4, r4, p, _⟩ := frz_ok R3 (r2.later S3) p
      have ek := keyD_ok (Rp.vb R3.le r3) q
      subst ek
      refine td_pairs R4 (((ev.later S1).later S2).later (S3.trans S4)) (PostG.mono (PostG.bnd (T := RPrs c.K) p) fun ps H5 ⟨F5, m5, st5, l, S5, R5, ⟨ws, e5, r5⟩, p⟩ => ?_)
      subst e5
      exact p F5 H5 m5 _ (Stp.refl _ _ _) R5 ⟨(key, w') :: ws, rfl, .cons ⟨rfl, r4.mono S5.fF⟩ r5⟩
theorem RKV.merge {K : PySem.W.Frag} {F : Hp} : ∀ {ws : List (Key × V)} {kvs : List (Key × PyData)} {w0 : List (Key × V)} {k0 : List (Key × PyData)}, RKV K F ws kvs → RKV K F w0 k0 → RKV K F (mergeK w0 ws) (kvs.foldl (fun acc kv => putD acc kv.1 kv.2) k0)
  | _, _, _, _, .nil, h => h
  | _, _, w0, k0, @Paired.cons _ _ _ p q ws kvs h r, h0 => by
    have e : p.1 = q.1 := h.1
    show RKV K F (mergeK (putK w0 p.1 p.2) ws) (kvs.foldl _ (putD k0 q.1 q.2))
    rw [e]
    exact RKV.merge r (h0.put h.2)
theorem d_disp {keys : List (Option Expr)} {values : List Expr} {prs : List ((Ev → M Val) × (Ev → M Val))} (h : PPs X pos keys values (prs.map fun q => (TD ⟨X.K, cn⟩ E q.1, TD ⟨X.K, cn⟩ E q.2))) (hall : keys.all (·.isSome) = true := by rfl) (hl : keys.length = values.length := by rfl) (h0 : keys ≠ [] := by exact fun z => by cases z) (h15 : keys.length ≤ 15 := by decide) :
    PE X (.Dict keys values pos) (TD ⟨X.K, cn⟩ E (eDisp prs)) :=
  PE.imp (pe_disp h hall hl h0 h15) fun σ H Q ⟨F, m, ρ, st, R, ev, p⟩ q hq => by
    have hF : F q = none := by
      cases z : F q with
      | none => rfl
      | some u => rw [R.le _ _ z] at hq; cases hq
    have hm : q ∉ m := fun z => by
      obtain ⟨o, e⟩ := R.there z
      rw [hq] at e; cases e
    have R0 : Rel X.K F (upd H q (.dK [])) m st := R.extra hF hm _
    have S0 : Stp F H m F (upd H q (.dK [])) m := (Stp.refl F H m).extra hq _
    cases qq : ePairs prs ρ st with
    | err => unfold eDisp bnd at p; rw [qq] at p; exact p.elim
    | exc n fs st1 =>
      unfold eDisp bnd at p; rw [qq] at p
      refine td_pairs R0 (ev.later S0) ?_
      rw [qq]
      exact fun F' H' m' cls d s => p F' H' m' cls d (S0.trans s)
    | ok kvs st2 =>
      unfold eDisp bnd at p; rw [qq] at p
      obtain ⟨z, p⟩ := post_chk p
      refine td_pairs R0 (ev.later S0) ?_
      rw [qq]
      intro F2 H2 m2 ps S2 R2 ⟨ws, e, r⟩
      have h2 : H2 q = some (.dK []) := S2.frm q _ upd_same hm
      have f2 : F2 q = none := S2.nF q _ upd_same hm hF
      have n2 : q ∉ m2 := fun z => by
        have := S2.nm q z hm
        rw [upd_same] at this; cases this
      refine ⟨h2, ws, e, by rw [RKV.length r]; exact of_decide_eq_true z, ?_⟩
      have rm : RKV X.K F2 (mergeK [] ws) (mergeD kvs) := RKV.merge r .nil
      obtain ⟨S3, R3⟩ := Rel.take (S0.trans S2) R2 hq f2 n2 (o := .dK (mergeK [] ws)) (so := .dct (mergeD kvs)) ⟨f2, _, upd_same, rm⟩
      exact p _ _ _ _ S3 R3 ⟨q, by rw [← R2.len, List.getElem?_append_right (Nat.le_refl _)]; simp, rfl⟩
end
end PL

set_option Elab.async false
set_option linter.all false
set_option maxRecDepth 100000
namespace PL
open PySem PySem.Spec L2
open PyProof.Rows hiding St
section
variable {X : Cx} {cn : Str → Option Addr} {E : XK} {pos p : Pos} {a b c3 : Expr} {es : List Expr} {f f' f3 : Ev → M Val} {fs : Ev → M (List Val)}
/-! ### lists that change -/
def dLstN (xs : List Val) : M Val := bnd (frzAll xs) fun ds => chk (decide (ds.length ≤ sizeLine)) (newS (.lst ds))
theorem d_lstN {es : List Expr} (h : PA X es (TDA ⟨X.K, cn⟩ E fs)) : PE X (.List es pos) (TD ⟨X.K, cn⟩ E (eA dLstN fs)) :=
  PE.imp (pe_lst h) fun σ H Q ⟨F, m, ρ, st, R, ev, p⟩ => ⟨F, m, ρ, st, R, ev, PostG.mono (PostG.bnd (T := RVals X.K) p) fun vs H1 ⟨F1, m1, st1, xs, S1, R1, r1, p⟩ => by
    obtain ⟨F2, st2, ds, S2, R2, r2, p⟩ := frzAll_ok R1 r1 p
    obtain ⟨z, p⟩ := post_chk p
    refine ⟨by rw [r2.length]; exact of_decide_eq_true z, fun q hq => ?_⟩
    have hF : F2 q = none := by
      cases z : F2 q with
      | none => rfl
      | some u => rw [R2.le _ _ z] at hq; cases hq
    obtain ⟨S3, R3⟩ := R2.push hq (o := .lst vs) (so := .lst ds) ⟨hF, vs, upd_same, r2⟩
    exact p _ _ _ _ S3 R3 ⟨q, by rw [← R2.len, List.getElem?_append_right (Nat.le_refl _)]; simp, rfl⟩⟩
theorem d_dnew : PE X (.Dict [] [] pos) (TD ⟨X.K, cn⟩ E (fun _ => newS (.dct []))) :=
  PE.imp pe_dnewK fun σ H Q ⟨F, m, ρ, st, R, ev, p⟩ q hq => by
    have hF : F q = none := by
      cases z : F q with
      | none => rfl
      | some u => rw [R.le _ _ z] at hq; cases hq
    obtain ⟨S3, R3⟩ := R.push hq (o := .dK []) (so := .dct []) ⟨hF, [], upd_same, .nil⟩
    exact p _ _ _ _ S3 R3 ⟨q, by rw [← R.len, List.getElem?_append_right (Nat.le_refl _)]; simp, rfl⟩
def lstV (x : Val) (st : Sto) : Option (Nat × List PyData) := match x with
  | .ref k => (match st[k]? with
    | some (.lst ds) => some (k, ds)
    | _ => none)
  | _ => none
theorem lstV_ok {K : PySem.W.Frag} {F H : Hp} {m : List Addr} {st : Sto} {x : Val} {v : V} {k : Nat} {ds : List PyData} (R : Rel K F H m st) (h : RVal K F m x v) (e : lstV x st = some (k, ds)) : ∃ a ws, v = .ref a ∧ m[k]? = some a ∧ F a = none ∧ H a = some (.lst ws) ∧ RpAll K F ws ds := by
  cases x with
  | dat d => cases e
  | scr ns => cases e
  | ref j =>
    obtain ⟨a, ha, rfl⟩ := h
    simp only [lstV] at e
    cases q : st[j]? with
    | none => rw [q] at e; cases e
    | some o =>
      rw [q] at e
      have ob := R.ob j a o ha q
      cases o with
      | lst ds' => cases e; obtain ⟨h0, ws, h1, h2⟩ := ob; exact ⟨a, ws, rfl, ha, h0, h1, h2⟩
      | _ => cases e
def chkL (x : Val) : M Unit := fun st => match lstV x st with
  | some _ => .ok () st
  | none => .err
theorem chkL_ok {α β : Type} {c : Cf} {T : Hp → List Addr → α → β → Prop} {F H : Hp} {m : List Addr} {st : Sto} {x : Val} {v : V} {k : Unit → M α} {Q : β → Hp → Prop} (R : Rel c.K F H m st) (r : RVal c.K F m x v) (p : PostG c E T F H m (bnd (chkL x) k st) Q) :
    (∃ aa ws, v = .ref aa ∧ H aa = some (.lst ws)) ∧ PostG c E T F H m (k () st) Q := by
  unfold bnd chkL at p
  cases q : lstV x st with
  | none => rw [q] at p; exact p.elim
  | some kk =>
    rw [q] at p
    obtain ⟨j, ds⟩ := kk
    obtain ⟨aa, ws, e, _, _, h1, _⟩ := lstV_ok R r q
    exact ⟨⟨aa, ws, e, h1⟩, p⟩
def appV (x : Val) (d : PyData) : M Val := fun st => match lstV x st with
  | some (k, ds) => if ds.length < sizeLine then .ok (.dat .none) (st.set k (.lst (ds ++ [d]))) else .err
  | none => .err
def eApp (f g : Ev → M Val) : Ev → M Val := fun ρ => bnd (f ρ) fun x => bnd (chkL x) fun _ => bnd (g ρ) fun y => bnd (frzV y) fun d => appV x d
theorem d_append {apos cpos : Pos} (ha : PE X a (TD ⟨X.K, cn⟩ E f)) (hb : PE X b (TD ⟨X.K, cn⟩ E f')) (hbase : attributeBase a "append" X.env (eval a X.env) = eval a X.env := by rfl)
    (hfew : ((backTo cpos (starEach [b] X.env)).all (fun x => !x.1) && (backToKw cpos (keywordEach [] X.env)).all (fun x => x.1.isSome) && decide (([b] : List Expr).length + ([] : List Keyword).length + (if ([] : List Keyword).isEmpty then 0 else 1) < 30)) = true := by rfl)
    (hline : (apos.endLine == cpos.line) = true := by rfl) (hs : starEach [b] X.env = (false, eval b X.env) :: starEach [] X.env := by rfl) (hplain : (backTo cpos (starEach [] X.env)).any (·.1) = false := by rfl) :
    PE X (.Call (.Attribute a "append" apos) [b] [] cpos) (TD ⟨X.K, cn⟩ E (eApp f f')) :=
  PE.imp (pe_bm PySem.F.plainAttrs_list PySem.F.slot_list_append PySem.F.type_list_append mt_append ha (pa_cons hb pa_nil hs) hbase hfew hline hs hplain) fun σ H Q ⟨F, m, ρ, st, R, ev, p⟩ => ⟨F, m, ρ, st, R, ev, PostG.mono (PostG.bnd (T := RVal X.K) p) fun v H1 ⟨F1, m1, st1, x, S1, R1, r1, p⟩ => by
    obtain ⟨⟨aa, ws, e, h1⟩, p⟩ := chkL_ok R1 r1 p
    subst e
    refine ⟨.inl ⟨rfl, ws, SqL.of h1⟩, F1, m1, ρ, st1, R1, ev.later S1, PostG.mono (PostG.bnd (T := RVal X.K) p) fun w H2 ⟨F2, m2, st2, y, S2, R2, r2, p⟩ => ?_⟩
    obtain ⟨F3, st3, d, S3, R3, r3, p, _⟩ := frz_ok R2 r2 p
    unfold appV at p
    cases q : lstV x st3 with
    | none => rw [q] at p; exact p.elim
    | some kk =>
      obtain ⟨k, ds⟩ := kk
      rw [q] at p
      dsimp only at p
      obtain ⟨aa', ws', e', hk, hF, h1', h2⟩ := lstV_ok R3 (r1.later (S2.trans S3)) q
      cases e'
      by_cases hl : ds.length < sizeLine
      · rw [if_pos hl] at p
        obtain ⟨S4, R4⟩ := R3.setAt hk hF (o := .lst (ws' ++ [w])) (so := .lst (ds ++ [d])) ⟨hF, _, upd_same, h2.append (.cons r3 .nil)⟩
        exact ⟨aa, ws', w, rfl, rfl, h1', by rw [h2.length]; exact hl, p _ _ _ _ S4 R4 Rp.non⟩
      · rw [if_neg hl] at p; exact p.elim⟩
def extV (x : Val) (d : PyData) : M Val := fun st => match lstV x st, d with
  | some (k, ds), .list es => if ds.length + es.length ≤ sizeLine then .ok (.dat .none) (st.set k (.lst (ds ++ es))) else .err
  | _, _ => .err
def eExt (f g : Ev → M Val) : Ev → M Val := fun ρ => bnd (f ρ) fun x => bnd (chkL x) fun _ => bnd (g ρ) fun y => bnd (frzV y) fun d => extV x d
theorem d_extend {apos cpos : Pos} (ha : PE X a (TD ⟨X.K, cn⟩ E f)) (hb : PE X b (TD ⟨X.K, cn⟩ E f')) (hbase : attributeBase a "extend" X.env (eval a X.env) = eval a X.env := by rfl)
    (hfew : ((backTo cpos (starEach [b] X.env)).all (fun x => !x.1) && (backToKw cpos (keywordEach [] X.env)).all (fun x => x.1.isSome) && decide (([b] : List Expr).length + ([] : List Keyword).length + (if ([] : List Keyword).isEmpty then 0 else 1) < 30)) = true := by rfl)
    (hline : (apos.endLine == cpos.line) = true := by rfl) (hs : starEach [b] X.env = (false, eval b X.env) :: starEach [] X.env := by rfl) (hplain : (backTo cpos (starEach [] X.env)).any (·.1) = false := by rfl) :
    PE X (.Call (.Attribute a "extend" apos) [b] [] cpos) (TD ⟨X.K, cn⟩ E (eExt f f')) :=
  PE.imp (pe_bm PySem.F.plainAttrs_list PySem.F.slot_list_extend PySem.F.type_list_extend mt_extend ha (pa_cons hb pa_nil hs) hbase hfew hline hs hplain) fun σ H Q ⟨F, m, ρ, st, R, ev, p⟩ => ⟨F, m, ρ, st, R, ev, PostG.mono (PostG.bnd (T := RVal X.K) p) fun v H1 ⟨F1, m1, st1, x, S1, R1, r1, p⟩ => by
    obtain ⟨⟨aa, ws, e, h1⟩, p⟩ := chkL_ok R1 r1 p
    subst e
    refine ⟨.inl ⟨rfl, ws, SqL.of h1⟩, F1, m1, ρ, st1, R1, ev.later S1, PostG.mono (PostG.bnd (T := RVal X.K) p) fun w H2 ⟨F2, m2, st2, y, S2, R2, r2, p⟩ => ?_⟩
    obtain ⟨F3, st3, d, S3, R3, r3, p, _⟩ := frz_ok R2 r2 p
    unfold extV at p
    cases q : lstV x st3 with
    | none => rw [q] at p; exact p.elim
    | some kk =>
      obtain ⟨k, ds⟩ := kk
      rw [q] at p
      obtain ⟨aa', ws', e', hk, hF, h1', h2⟩ := lstV_ok R3 (r1.later (S2.trans S3)) q
      cases e'
      cases r3 with
      | @lst b' zs es' g1 g2 =>
        dsimp only at p
        by_cases hl : ds.length + es'.length ≤ sizeLine
        · rw [if_pos hl] at p
          obtain ⟨S4, R4⟩ := R3.setAt hk hF (o := .lst (ws' ++ zs)) (so := .lst (ds ++ es')) ⟨hF, _, upd_same, h2.append g2⟩
          exact ⟨aa, b', ws', zs, rfl, rfl, h1', R3.le _ _ g1, by rw [h2.length, g2.length]; exact hl, p _ _ _ _ S4 R4 Rp.non⟩
        · rw [if_neg hl] at p; exact p.elim
      | _ => exact p.elim⟩
end
/-! ### statements -/
inductive SRes where
  | nx (ρ : Ev) (st : Sto) | rt (v : Val) (st : Sto) | bk (ρ : Ev) (st : Sto) | ct (ρ : Ev) (st : Sto) | exc (c : Str) (fs : List (Str × PyData)) (st : Sto) | err
abbrev SM := Ev → Sto → SRes
def PostS (c : Cf) (E : XK) (F H : Hp) (m : List Addr) (r : SRes) (D : Ends) : Prop := match r with
  | .nx ρ st' => ∀ F' H' m' σ', Stp F H m F' H' m' → Rel c.K F' H' m' st' → EnvR c.K F' m' ρ σ' → D.nx σ' H'
  | .rt x st' => ∀ F' H' m' v, Stp F H m F' H' m' → Rel c.K F' H' m' st' → RVal c.K F' m' x v → D.rt v H'
  | .bk ρ st' => ∀ F' H' m' σ', Stp F H m F' H' m' → Rel c.K F' H' m' st' → EnvR c.K F' m' ρ σ' → D.bk σ' H'
  | .ct ρ st' => ∀ F' H' m' σ', Stp F H m F' H' m' → Rel c.K F' H' m' st' → EnvR c.K F' m' ρ σ' → D.ct σ' H'
  | .exc n fs st' => ∀ F' H' m' cls d, Stp F H m F' H' m' → Rel c.K F' H' m' st' → ExcIs c.K c.cn F' H' n fs cls d → E cls d H'
  | .err => False
theorem PostS.later {c : Cf} {E : XK} {F H F1 H1 : Hp} {m m1 : List Addr} {r : SRes} {D : Ends} (a : Stp F H m F1 H1 m1) (h : PostS c E F H m r D) : PostS c E F1 H1 m1 r D := by
  cases r with
  | nx x st => exact fun F' H' m' v s => h F' H' m' v (a.trans s)
  | rt x st => exact fun F' H' m' v s => h F' H' m' v (a.trans s)
  | bk x st => exact fun F' H' m' v s => h F' H' m' v (a.trans s)
  | ct x st => exact fun F' H' m' v s => h F' H' m' v (a.trans s)
  | exc n fs st => exact fun F' H' m' cls d s => h F' H' m' cls d (a.trans s)
  | err => exact h
def TSD (c : Cf) (E : XK) (f : SM) : TS := fun D σ H => ∃ F m ρ st, Rel c.K F H m st ∧ EnvR c.K F m ρ σ ∧ PostS c E F H m (f ρ st) D
theorem PS.imp {X : Cx} {st : Stmt} {t t' : TS} (h : PS X st t) (i : ∀ D σ H, t' D σ H → t D σ H) : PS X st t' := ⟨fun pins s σ H D I q => h.run pins s σ H D I (i _ _ _ q)⟩
theorem PSs.imp {X : Cx} {st : List Stmt} {t t' : TS} (h : PSs X st t) (i : ∀ D σ H, t' D σ H → t D σ H) : PSs X st t' := ⟨fun pins s σ H D I q => h.run pins s σ H D I (i _ _ _ q)⟩
/-- an expression, then a statement's end by its value -/
def sB {α : Type} (x : M α) (k : α → Sto → SRes) (st : Sto) : SRes := match x st with
  | .ok a st' => k a st'
  | .exc c fs st' => .exc c fs st'
  | .err => .err
theorem PostS.sB {α β : Type} {c : Cf} {E : XK} {T : Hp → List Addr → α → β → Prop} {F H : Hp} {m : List Addr} {st : Sto} {x : M α} {k : α → Sto → SRes} {D : Ends} (p : PostS c E F H m (PL.sB x k st) D) :
    PostG c E T F H m (x st) fun v H1 => ∃ F1 m1 st1 y, Stp F H m F1 H1 m1 ∧ Rel c.K F1 H1 m1 st1 ∧ T F1 m1 y v ∧ PostS c E F1 H1 m1 (k y st1) D := by
  unfold PL.sB at p
  cases q : x st with
  | ok y st1 =>
    rw [q] at p
    exact fun F' H' m' v s r' rv => ⟨F', m', st1, y, s, r', rv, PostS.later s p⟩
  | exc n fs st1 => rw [q] at p; exact p
  | err => rw [q] at p; exact p
def sNil : SM := fun ρ st => .nx ρ st
def sSeq2 (s t : SM) : SM := fun ρ st => match s ρ st with
  | .nx ρ' st' => t ρ' st'
  | r => r
def sRet (f : Ev → M Val) : SM := fun ρ => sB (f ρ) fun x st => .rt x st
def sRetN : SM := fun _ st => .rt (.dat .none) st
def sExpr (f : Ev → M Val) : SM := fun ρ => sB (f ρ) fun _ st => .nx ρ st
def sSet (i : Nat) (f : Ev → M Val) : SM := fun ρ => sB (f ρ) fun x st => .nx (ρ.set i (some x)) st
def sIf (t : Ev → M Bool) (a b : SM) : SM := fun ρ => sB (t ρ) fun k st => if k then a ρ st else b ρ st
section
variable {X : Cx} {cn : Str → Option Addr} {E : XK} {pos p : Pos} {a b c3 : Expr} {es : List Expr} {f f' f3 : Ev → M Val} {fs : Ev → M (List Val)} {s s' : SM} {stm : Stmt} {rest : List Stmt}
theorem ss_nil : PSs X [] (TSD ⟨X.K, cn⟩ E sNil) := PSs.imp pss_nil fun D σ H ⟨F, m, ρ, st, R, ev, p⟩ => p F H m σ (Stp.refl _ _ _) R ev
theorem ss_cons (h1 : PS X stm (TSD ⟨X.K, cn⟩ E s)) (h2 : PSs X rest (TSD ⟨X.K, cn⟩ E s')) : PSs X (stm :: rest) (TSD ⟨X.K, cn⟩ E (sSeq2 s s')) :=
  PSs.imp (pss_cons h1 h2) fun D σ H ⟨F, m, ρ, st, R, ev, p⟩ => ⟨F, m, ρ, st, R, ev, by
    unfold sSeq2 at p
    cases q : s ρ st with
    | nx ρ' st' =>
      rw [q] at p
      exact fun F' H' m' σ' S' R' ev' => ⟨F', m', ρ', st', R', ev', PostS.later S' p⟩
    | rt x st' => rw [q] at p; exact p
    | bk x st' => rw [q] at p; exact p
    | ct x st' => rw [q] at p; exact p
    | exc n fs st' => rw [q] at p; exact p
    | err => rw [q] at p; exact p⟩
theorem ss_one (h1 : PS X stm (TSD ⟨X.K, cn⟩ E s)) : PSs X [stm] (TSD ⟨X.K, cn⟩ E s) := pss_one h1
theorem s_ret (h : PE X a (TD ⟨X.K, cn⟩ E f)) : PS X (.Return (some a) pos) (TSD ⟨X.K, cn⟩ E (sRet f)) :=
  PS.imp (ps_ret h) fun D σ H ⟨F, m, ρ, st, R, ev, p⟩ => ⟨F, m, ρ, st, R, ev, PostG.mono (PostS.sB (T := RVal X.K) p) fun v H1 ⟨F1, m1, st1, x, S1, R1, r1, p⟩ => p F1 H1 m1 v (Stp.refl _ _ _) R1 r1⟩
theorem s_retN : PS X (.Return none pos) (TSD ⟨X.K, cn⟩ E sRetN) := PS.imp ps_retN fun D σ H ⟨F, m, ρ, st, R, ev, p⟩ => p F H m .non (Stp.refl _ _ _) R Rp.non
theorem s_pass : PS X (.Pass pos) (TSD ⟨X.K, cn⟩ E sNil) := PS.imp ps_pass fun D σ H ⟨F, m, ρ, st, R, ev, p⟩ => p F H m σ (Stp.refl _ _ _) R ev
theorem s_expr (h : PE X a (TD ⟨X.K, cn⟩ E f)) (hs : swapsWith a none pos.line X.env = pure false := by rfl) : PS X (.Expr a pos) (TSD ⟨X.K, cn⟩ E (sExpr f)) :=
  PS.imp (ps_expr h hs) fun D σ H ⟨F, m, ρ, st, R, ev, p⟩ => ⟨F, m, ρ, st, R, ev, PostG.mono (PostS.sB (T := RVal X.K) p) fun v H1 ⟨F1, m1, st1, x, S1, R1, r1, p⟩ => p F1 H1 m1 σ (Stp.refl _ _ _) R1 (ev.later S1)⟩
theorem s_set (i : Nat) {x : Str} {pos' : Pos} (hN : X.N.Nodup) (h : PE X a (TD ⟨X.K, cn⟩ E f)) (hi : X.N[i]? = some x := by rfl) (hx : Loc X.env.scope x := by first | exact Or.inl rfl | exact Or.inr rfl) (hs : swapsWith a (some (.Name x pos')) pos.line X.env = pure false := by rfl)
    (hf : X.fn x = true ∨ X.env.scope.names.lookup x = some .local := by first | exact .inl rfl | exact .inr rfl) : PS X (.Assign [.Name x pos'] a pos) (TSD ⟨X.K, cn⟩ E (sSet i f)) :=
  PS.imp (ps_set hN hi hx h hs hf) fun D σ H ⟨F, m, ρ, st, R, ev, p⟩ => ⟨F, m, ρ, st, R, ev, PostG.mono (PostS.sB (T := RVal X.K) p) fun v H1 ⟨F1, m1, st1, x, S1, R1, r1, p⟩ => p F1 H1 m1 _ (Stp.refl _ _ _) R1 ((ev.later S1).set r1)⟩
theorem s_if {t : Ev → M Bool} {ss ss' : List Stmt} (hc : PT X a (TDB ⟨X.K, cn⟩ E t)) (h1 : PSs X ss (TSD ⟨X.K, cn⟩ E s)) (h2 : PSs X ss' (TSD ⟨X.K, cn⟩ E s')) : PS X (.If a ss ss' pos) (TSD ⟨X.K, cn⟩ E (sIf t s s')) :=
  PS.imp (ps_if hc h1 h2) fun D σ H ⟨F, m, ρ, st, R, ev, p⟩ => ⟨F, m, ρ, st, R, ev, PostG.mono (PostS.sB (T := RB) p) fun v H1 ⟨F1, m1, st1, x, S1, R1, r1, p⟩ => by
    have r1 : x = v := r1
    subst r1
    cases x with
    | true => exact iteT ⟨F1, m1, ρ, st1, R1, ev.later S1, p⟩
    | false => exact iteF ⟨F1, m1, ρ, st1, R1, ev.later S1, p⟩⟩
/-! ### stores into dicts, several targets -/
def dputV (x y : Val) (d : PyData) (ρ : Ev) : Sto → SRes := fun st => match dctV x st, (vw y st).bind keyD with
  | some (k, kvs), some key => if kvs.length < sizeLine then .nx ρ (st.set k (.dct (putD kvs key d))) else .err
  | _, _ => .err
def sDput (fo fi fv : Ev → M Val) : SM := fun ρ => sB (fv ρ) fun z => sB (frzV z) fun d => sB (fo ρ) fun x => sB (fi ρ) fun y => dputV x y d ρ
theorem frzS_ok {c : Cf} {F H : Hp} {m : List Addr} {st : Sto} {x : Val} {v : V} {k : PyData → Sto → SRes} {D : Ends} (R : Rel c.K F H m st) (r : RVal c.K F m x v) (p : PostS c E F H m (PL.sB (frzV x) k st) D) :
    ∃ F1 st1 d, Stp F H m F1 H m ∧ Rel c.K F1 H m st1 ∧ Rp c.K F1 v d ∧ PostS c E F1 H m (k d st1) D := by
  cases q : frzV x st with
  | err => unfold PL.sB at p; rw [q] at p; exact p.elim
  | exc n fs st2 =>
    exfalso
    unfold frzV at q
    split at q <;> first | cases q | (split at q <;> cases q)
  | ok d st1 =>
    obtain ⟨F4, st7, d4, S4, R4, r4, _, hf'⟩ := frz_ok (E := E0) (T := fun _ _ (_ : Unit) (_ : Unit) => True) (k := fun _ => ret ()) (Q := fun _ _ => True) R r (by unfold PL.bnd; rw [q]; exact fun _ _ _ _ _ _ _ => trivial)
    rw [q] at hf'
    cases hf'
    unfold PL.sB at p
    rw [q] at p
    exact ⟨F4, st1, d, S4, R4, r4, PostS.later S4 p⟩
theorem s_dput {pos' : Pos} (hu : X.A.units + 1 < cLine) (ho : PE X a (TD ⟨X.K, cn⟩ E f)) (hi : PE X b (TD ⟨X.K, cn⟩ E f')) (hv : PE X c3 (TD ⟨X.K, cn⟩ E f3)) (hs : swapsWith c3 (some (.Subscript a b pos')) pos.line X.env = pure false := by rfl) :
    PS X (.Assign [.Subscript a b pos'] c3 pos) (TSD ⟨X.K, cn⟩ E (sDput f f' f3)) :=
  PS.imp (ps_dput hu ho hi hv hs) fun D σ H ⟨F, m, ρ, st, R, ev, p⟩ => ⟨F, m, ρ, st, R, ev, PostG.mono (PostS.sB (T := RVal X.K) p) fun v H1 ⟨F1, m1, st1, z, S1, R1, r1, p⟩ => by
    obtain ⟨F1', st1', d, S1', R1', r1', p⟩ := frzS_ok R1 r1 p
    refine ⟨F1', m1, ρ, st1', R1', (ev.later S1).later S1', PostG.mono (PostS.sB (T := RVal X.K) p) fun w H2 ⟨F2, m2, st2, x, S2, R2, r2, p⟩ => ?_⟩
    refine ⟨F2, m2, ρ, st2, R2, ((ev.later S1).later S1').later S2, PostG.mono (PostS.sB (T := RVal X.K) p) fun y' H3 ⟨F3, m3, st3, y, S3, R3, r3, p⟩ => ?_⟩
    unfold dputV at p
    cases q1 : dctV x st3 with
    | none => rw [q1] at p; exact p.elim
    | some kk =>
      obtain ⟨k, kvs⟩ := kk
      cases q2 : vw y st3 with
      | none => rw [q1, q2] at p; exact p.elim
      | some dk =>
        cases q3 : keyD dk with
        | none => rw [q1, q2] at p; simp only [Option.bind_some, q3] at p; exact p.elim
        | some key =>
          rw [q1, q2] at p
          simp only [Option.bind_some, q3] at p
          obtain ⟨aa, ws, rfl, hk, hF, h1, h2⟩ := dctV_ok R3 (r2.later S3) q1
          have ek := keyD_ok (vw_ok R3 r3 q2) q3
          subst ek
          by_cases hl : kvs.length < sizeLine
          · rw [if_pos hl] at p
            have rd := (r1'.mono S2.fF).mono S3.fF
            obtain ⟨S4, R4⟩ := R3.setAt hk hF (o := .dK (putK ws key v)) (so := .dct (putD kvs key d)) ⟨hF, _, upd_same, h2.put rd⟩
            exact ⟨aa, _, rfl, DPut.k h1 (by rw [h2.length]; exact hl), p _ _ _ _ S4 R4 ((((ev.later S1).later S1').later S2).later (S3.trans S4))⟩
          · rw [if_neg hl] at p; exact p.elim⟩
/-- t1, t2, .. = e, e a tuple that is data -/
def sUnp (t : Tg) (f : Ev → M Val) : SM := fun ρ => sB (f ρ) fun x => sB (frzV x) fun d st => match t d ρ with
  | some ρ' => .nx ρ' st
  | none => .err
theorem s_unp {ps : List Nat} {t : Tg} {tg : Expr} (h : PE X a (TD ⟨X.K, cn⟩ E f)) (hg : PG X tg (TGD X.K ps t)) (hs : swapsWithSole [tg] a pos.line X.env = pure false := by rfl) (hw : swappedStores [tg] a X.env = pure none := by rfl)
    (h1 : (assignEach [tg] X.env).map (·.2) = [assign tg X.env] := by rfl) : PS X (.Assign [tg] a pos) (TSD ⟨X.K, cn⟩ E (sUnp t f)) :=
  PS.imp (ps_asg h hg hs hw h1) fun D σ H ⟨F, m, ρ, st, R, ev, p⟩ => ⟨F, m, ρ, st, R, ev, PostG.mono (PostS.sB (T := RVal X.K) p) fun v H1 ⟨F1, m1, st1, x, S1, R1, r1, p⟩ => by
    obtain ⟨F2, st2, d, S2, R2, r2, p⟩ := frzS_ok R1 r1 p
    cases q : t d ρ with
    | none => rw [q] at p; exact p.elim
    | some ρ' =>
      rw [q] at p
      exact ⟨F2, m1, ρ, st2, d, ρ', R2, (ev.later S1).later S2, r2, q, fun σ' ev' _ => p F2 H1 m1 σ' (Stp.refl _ _ _) R2 ev'⟩⟩
/-- a, b = x, y with local names -/
def sPar2 (i j : Nat) (fs : Ev → M (List Val)) : SM := fun ρ => sB (fs ρ) fun xs st => match xs with
  | [x, y] => .nx ((ρ.set i (some x)).set j (some y)) st
  | _ => .err
def sPar3 (i j l : Nat) (fs : Ev → M (List Val)) : SM := fun ρ => sB (fs ρ) fun xs st => match xs with
  | [x, y, z] => .nx (((ρ.set i (some x)).set j (some y)).set l (some z)) st
  | _ => .err
theorem s_par2 (i j : Nat) {x y : Str} {px py pt : Pos} {kt k2 pt2} (hc : X.calm = true) (hN : X.N.Nodup) (h : PA X [a, b] (TDA ⟨X.K, cn⟩ E fs)) (hw : swappedStores [.Tuple [.Name x px, .Name y py] kt pt] (.Tuple [a, b] k2 pt2) X.env = pure (some [x, y]) := by rfl) (hi : X.N[i]? = some x := by rfl) (hj : X.N[j]? = some y := by rfl) (hij : i ≠ j := by decide)
    (hx : X.env.scope.names.lookup x = some .local := by rfl) (hy : X.env.scope.names.lookup y = some .local := by rfl)
    (hs : swapsWithSole [.Tuple [.Name x px, .Name y py] kt pt] (.Tuple [a, b] k2 pt2) pos.line X.env = pure false := by rfl) : PS X (.Assign [.Tuple [.Name x px, .Name y py] kt pt] (.Tuple [a, b] k2 pt2) pos) (TSD ⟨X.K, cn⟩ E (sPar2 i j fs)) :=
  PS.imp (ps_par hc hN hi hj hij hx hy h hw hs) fun D σ H ⟨F, m, ρ, st, R, ev, p⟩ => ⟨F, m, ρ, st, R, ev, PostG.mono (PostS.sB (T := RVals X.K) p) fun vs H1 ⟨F1, m1, st1, xs, S1, R1, r1, p⟩ => by
    cases r1 with
    | nil => exact p.elim
    | cons r1 r2 =>
      cases r2 with
      | nil => exact p.elim
      | cons r2 r3 =>
        cases r3 with
        | cons _ _ => exact p.elim
        | nil => exact ⟨_, _, rfl, p F1 H1 m1 _ (Stp.refl _ _ _) R1 (((ev.later S1).set r1).set r2)⟩⟩
theorem s_par3 (i j l : Nat) {x y z : Str} {px py pz pt : Pos} {kt k2 pt2} (hc : X.calm = true) (hN : X.N.Nodup) (h : PA X [a, b, c3] (TDA ⟨X.K, cn⟩ E fs)) (hw : swappedStores [.Tuple [.Name x px, .Name y py, .Name z pz] kt pt] (.Tuple [a, b, c3] k2 pt2) X.env = pure (some [x, y, z]) := by rfl) (hi : X.N[i]? = some x := by rfl) (hj : X.N[j]? = some y := by rfl) (hl : X.N[l]? = some z := by rfl) (hij : i ≠ j := by decide) (hil : i ≠ l := by decide) (hjl : j ≠ l := by decide)
    (hx : X.env.scope.names.lookup x = some .local := by rfl) (hy : X.env.scope.names.lookup y = some .local := by rfl) (hz : X.env.scope.names.lookup z = some .local := by rfl)
    (hs : swapsWithSole [.Tuple [.Name x px, .Name y py, .Name z pz] kt pt] (.Tuple [a, b, c3] k2 pt2) pos.line X.env = pure false := by rfl) : PS X (.Assign [.Tuple [.Name x px, .Name y py, .Name z pz] kt pt] (.Tuple [a, b, c3] k2 pt2) pos) (TSD ⟨X.K, cn⟩ E (sPar3 i j l fs)) :=
  PS.imp (ps_par3 hc hN hi hj hl hij hil hjl hx hy hz h hw hs) fun D σ H ⟨F, m, ρ, st, R, ev, p⟩ => ⟨F, m, ρ, st, R, ev, PostG.mono (PostS.sB (T := RVals X.K) p) fun vs H1 ⟨F1, m1, st1, xs, S1, R1, r1, p⟩ => by
    cases r1 with
    | nil => exact p.elim
    | cons r1 r2 =>
      cases r2 with
      | nil => exact p.elim
      | cons r2 r3 =>
        cases r3 with
        | nil => exact p.elim
        | cons r3 r4 =>
          cases r4 with
          | cons _ _ => exact p.elim
          | nil => exact ⟨_, _, _, rfl, p F1 H1 m1 _ (Stp.refl _ _ _) R1 ((((ev.later S1).set r1).set r2).set r3)⟩⟩
/-! ### for -/
def forGo (t : Tg) (body : SM) : List PyData → SM
  | [], ρ, st => .nx ρ st
  | d :: r, ρ, st => match t d ρ with
    | none => .err
    | some ρ1 => (match body ρ1 st with
      | .nx ρ2 st2 => forGo t body r ρ2 st2
      | .ct ρ2 st2 => forGo t body r ρ2 st2
      | .bk ρ2 st2 => .nx ρ2 st2
      | .rt v st2 => .rt v st2
      | .exc c fs st2 => .exc c fs st2
      | .err => .err)
def sFor (src : Ev → M (List PyData)) (t : Tg) (body : SM) : SM := fun ρ => sB (src ρ) fun its st => forGo t body its ρ st
theorem s_for {src : Ev → M (List PyData)} {ps : List Nat} {t : Tg} {tg iter : Expr} {body : List Stmt} {s : SM} (hp : PassesOwn (model X.prog X.w) X.A X.env X.xe) (hc : X.calm = true) (hi : PI X tg iter (TID ⟨X.K, cn⟩ E src)) (hg : PG X tg (TGD X.K ps t)) (hb : PSs X body (TSD ⟨X.K, cn⟩ E s))
    (hs : ∀ x, foldedSetIterable iter X.env x = pure x := by intro _; rfl) : PS X (.For tg iter body [] pos) (TSD ⟨X.K, cn⟩ E (sFor src t s)) :=
  PS.imp (ps_for hp hc hi hg hb hs) fun D σ H ⟨F, m, ρ, st, R, ev, p⟩ => ⟨F, m, ρ, st, R, ev, PostG.mono (PostS.sB (T := RIt X.K) p) fun J H1 ⟨F1, m1, st1, its, S1, R1, ok, p⟩ => by
    have ok : ItOk X.K J F1 its := ok
    refine ⟨fun i k σ H => k = its.length - i ∧ i ≤ its.length ∧ ∃ F m ρ st, Stp F1 H1 m1 F H m ∧ Rel X.K F H m st ∧ EnvR X.K F m ρ σ ∧ PostS ⟨X.K, cn⟩ E F H m (forGo t s (its.drop i) ρ st) D, ⟨its.length, by simp, Nat.zero_le _, F1, m1, ρ, st1, Stp.refl _ _ _, R1, ev.later S1, p⟩, ?_⟩
    rintro i k σ H ⟨rfl, hi, F, m, ρ, st, S, R, ev, p⟩
    by_cases hlt : i < its.length
    · refine .inr ⟨ok.go i F H m st S.fF R hlt, fun σ H => ∃ F m ρ st, Stp F1 H1 m1 F H m ∧ Rel X.K F H m st ∧ EnvR X.K F m ρ σ ∧ PostS ⟨X.K, cn⟩ E F H m (forGo t s (its.drop (i + 1)) ρ st) D, fun σ' H' w => ⟨its.length - (i + 1), by omega, rfl, hlt, w⟩, fun x H' y => ?_⟩
      obtain ⟨F', d, S', R', ed, rd⟩ := ok.yld i F H m st x H' S.fF R hlt y
      have hdrop : its.drop i = d :: its.drop (i + 1) := by
        rw [List.drop_eq_getElem_cons hlt]
        obtain ⟨h1, h2⟩ := List.getElem?_eq_some_iff.mp ed
        rw [h2]
      rw [hdrop] at p
      unfold forGo at p
      cases qt : t d ρ with
      | none => rw [qt] at p; exact p.elim
      | some ρ1 =>
        rw [qt] at p
        dsimp only at p
        refine ⟨F', m, ρ, st, d, ρ1, R', ev.later S', rd, qt, fun σ2 ev2 _ => ⟨F', m, ρ1, st, R', ev2, ?_⟩⟩
        have p := PostS.later S' p
        cases qb : s ρ1 st with
        | nx ρ2 st2 => rw [qb] at p; exact fun F2 H2 m2 σ3 S2 R2 ev3 => ⟨F2, m2, ρ2, st2, (S.trans S').trans S2, R2, ev3, PostS.later S2 p⟩
        | ct ρ2 st2 => rw [qb] at p; exact fun F2 H2 m2 σ3 S2 R2 ev3 => ⟨F2, m2, ρ2, st2, (S.trans S').trans S2, R2, ev3, PostS.later S2 p⟩
        | bk ρ2 st2 => rw [qb] at p; exact p
        | rt v st2 => rw [qb] at p; exact p
        | exc n fs st2 => rw [qb] at p; exact p
        | err => rw [qb] at p; exact p
    · have e : i = its.length := by omega
      subst e
      rw [List.drop_length] at p
      exact .inl ⟨ok.stop F H m st S.fF R, p F H m σ (Stp.refl _ _ _) R ev⟩⟩
end
end PL

set_option Elab.async false
set_option linter.all false
set_option maxRecDepth 100000
namespace PL
open PySem PySem.Spec L2
open PyProof.Rows hiding St
/-! ### defs, called where no repr is under way -/
structure FnG (P : Program) (w : World) (K : PySem.W.Frag) (mg : Str → Option Value) (base : Heap) (CX : CXT) (k : Nat) (f : Addr) (fd : FuncData) (ps : List Str) (sp : Sp) : Prop where
  len : ∀ vs H Q E, sp vs H Q E → vs.length = ps.length
  run : ∀ (A : Around) (outer : List Env) (s : Shared) (H : Hp) (args : Args) (us : List Value) (vs : List V) (Q : VK) (E : XK), Room k A → A.guards = some [] → Env0 P w K mg base A outer s H → BindsTo s fd args (ps.zip us) → Vals vs us → sp vs H Q E →
    codeAny (model P w) A (.call (.ref f) args) (CR CX outer P w H s Q E) s
theorem FnG.mono {P : Program} {w : World} {K : PySem.W.Frag} {mg : Str → Option Value} {base : Heap} {CX : CXT} {j k : Nat} {f : Addr} {fd : FuncData} {ps : List Str} {sp : Sp} (F : FnG P w K mg base CX j f fd ps sp) (h : j ≤ k) : FnG P w K mg base CX k f fd ps sp :=
  ⟨F.len, fun A outer s H args us vs Q E hr => F.run A outer s H args us vs Q E (hr.mono h)⟩
/-- a def by its body -/
theorem FnG.ofBody {CX : CXT} {P : Program} {w : World} {K : PySem.W.Frag} {mg : Str → Option Value} {base : Heap} {k : Nat} {f : Addr} {x qual : Str} {params : Arguments} {body : List Stmt} {scope : Scope} {dvs : List V} {kws : List (Str × V)} {fd : FuncData} {N ps : List Str} {sp : Sp}
    (D : FunD K x qual params body scope dvs kws f fd) (S : FnScope N ps scope) (len : ∀ vs H Q E, sp vs H Q E → vs.length = ps.length)
    (hbody : ∀ (cdv : Value) (A : Around) (outer : List Env) (s : Shared) (H : Hp) (vs : List V) (Q : VK) (E : XK), Room k (A.deeper (envOfC qual scope s.heap.objs.size f cdv)) → A.guards = some [] → sp vs H Q E →
      ∃ t, PSs (cxOf CX P w K mg base N qual scope f cdv A outer s H E) body t ∧ t { nx := fun _ H' => Q .non H', rt := Q } (start N vs) H) : FnG P w K mg base CX (k + 1) f fd ps sp := by
  obtain ⟨oc, od, dV, kV, doc, pm, an, cdv, ct, osl, e, lk, hcd, _, _⟩ := D.ex
  subst e
  constructor
  · exact len
  intro A outer s0 H args us vs Q E room gd env0 hb rel want
  have hlen := len vs H Q E want
  have kin : K.In s0.heap := env0.mod.kin.keeps (fun b o q => (env0.bs b o q).1)
  have nol : s0.heap.NoLimit := env0.mod.nolimit.keeps (fun b o q => (env0.bs b o q).1)
  have kinds : ∀ y ∈ ps.zip us, scope.names.lookup y.1 = some .local ∨ (scope.names.lookup y.1 = some .cell ∧ ((cellsFrom (s0.heap.objs.size + 1) scope.names []).lookup y.1).isSome = true) := by
    intro y hy
    rcases S.par y.1 (List.of_mem_zip (a := y.1) (b := y.2) hy).1 with z | z
    · exact Or.inl z
    · exact Or.inr ⟨z, PySem.W.cellsFrom_some _ _ _ (Or.inl z)⟩
  refine codeAny_call_function room.depth (kin _ _ lk) rfl S.co S.gen rfl (PySem.W.codeRec_of kin hcd) (hb _ _ _ _ ?_)
  refine wpAny_newFunctionEnv_cells S.kind kinds (fun env hv s1 x => ?_)
  subst hv
  refine ⟨nol.keeps x.toInCall.keep, codeAny_func ?_⟩
  obtain ⟨t, ht, hq⟩ := hbody cdv A outer s0 H vs Q E (room.deeper _) gd want
  have I0 : Inv (cxOf CX P w K mg base N qual scope f cdv A outer s0 H E) [] (start N vs) H s1 := inv_start S room.hd env0 hlen rel x
  refine wpAny_mono (ht.run [] s1 (start N vs) H _ I0 hq) (fun fl s2 h2 => ?_) (fun e s2 h2 => h2)
  cases fl with
  | ret u => obtain ⟨v, σ', H', J, rv, q⟩ := h2; exact ⟨v, H', J.os, J.bare, J.base, J.hok, rv, q⟩
  | next => obtain ⟨σ', H', J, q⟩ := h2; exact ⟨V.non, H', J.os, J.bare, J.base, J.hok, rfl, q⟩
  | brk => obtain ⟨_, _, _, q⟩ := h2; exact q.elim
  | cont => obtain ⟨_, _, _, q⟩ := h2; exact q.elim
section
variable {X : Cx} {CX : CXT} {k : Nat} {g : Addr} {fd : FuncData} {ps : List Str} {sp : Sp} {E : XK}
theorem FnG.go {pins : List (Addr × Obj)} {σ : St} {H : Hp} {s : Shared} {Q : VK} {us : List Value} {vs : List V} {args : Args} (F : FnG X.prog X.w X.K X.mg X.base CX k g fd ps sp) (hr : Room k X.A) (hg : X.A.guards = some []) (hx : Passes CX X E)
    (I : Inv X pins σ H s) (hb : BindsTo s fd args (ps.zip us)) (r : Vals vs us) (h : sp vs H Q E) : codeAny (model X.prog X.w) X.A (.call (.ref g) args) (fun r s' => match r with | .ok (.ret u) => EP X pins σ Q u s' | .ok _ => False | .error e => X.xe e s') s :=
  codeAny_mono (F.run X.A X.stack s H args us vs Q E hr hg I.env0 hb r h) fun r s' hq => by
    cases r with
    | error e => exact hx pins σ H s e s' I hq
    | ok fl =>
      cases fl with
      | ret u => exact I.after hq
      | next => exact hq.elim
      | brk => exact hq.elim
      | cont => exact hq.elim
end
/-- the promise of a def that is the function g on plain values -/
def spD (c : Cf) (n : Nat) (g : List Val → M Val) : Sp := fun vs H Q E => vs.length = n ∧ ∃ F m st xs, Rel c.K F H m st ∧ RVals c.K F m xs vs ∧ Post c E F H m (g xs st) Q
/-- a def of the text keeps the promise of g -/
def OkD (P : Program) (w : World) (K : PySem.W.Frag) (cn : Str → Option Addr) (mg : Str → Option Value) (base : Heap) (CX : CXT) (k : Nat) (x : Str) (ps : List Str) (g : List Val → M Val) : Prop :=
  ∃ f fd, mg x = some (.ref f) ∧ PySem.W.keepIn K (.ref f) = true ∧ FnG P w K mg base CX k f fd ps (spD ⟨K, cn⟩ ps.length g) ∧ Binds K fd ps [] ∧ ∃ oc od osl, K.lookup f = some ⟨oc, od, .func fd, osl⟩
section
variable {X : Cx} {cn : Str → Option Addr} {CX : CXT} {k : Nat} {E : XK} {x : Str} {ps : List Str} {g : List Val → M Val} {p pos : Pos} {a : Expr} {es : List Expr} {fs : Ev → M (List Val)}
theorem RVals.length {K : PySem.W.Frag} {F : Hp} {m : List Addr} : ∀ {xs : List Val} {vs : List V}, RVals K F m xs vs → xs.length = vs.length
  | _, _, .nil => rfl
  | _, _, .cons _ r => by simp [RVals.length r]
/-- the call's den: as many arguments as there are parameters -/
def eCall (n : Nat) (g : List Val → M Val) (fs : Ev → M (List Val)) : Ev → M Val := fun ρ => bnd (fs ρ) fun xs => chk (decide (xs.length = n)) (g xs)
theorem d_call (F : OkD X.prog X.w X.K cn X.mg X.base CX k x ps g) (hr : Room k X.A) (hgd : X.A.guards = some []) (hx : Passes CX X E) (ha : PA X (a :: es) (TDA ⟨X.K, cn⟩ E fs)) (hg : Gl X x := by rfl) (hdb : (x == ("__debug__" : Str)) = false := by decide)
    (he : starEach (a :: es) X.env = (false, eval a X.env) :: starEach es X.env := by rfl) (hpl : (backTo pos (starEach es X.env)).any (·.1) = false := by rfl) :
    PE X (.Call (.Name x p) (a :: es) [] pos) (TD ⟨X.K, cn⟩ E (eCall ps.length g fs)) := by
  obtain ⟨f, fd, hm, hk, F, hb, _⟩ := F
  refine ⟨fun pins s σ H Q I ⟨F0, m0, ρ, st, R, ev, p⟩ => ?_⟩
  refine wpAny_Call_Name_kw (ld_glob I hg hm ?_ hdb)
  refine PySem.W.callWith_K (h₀ := X.base) I.ok.mod.kin hk (thn (ha.run pos pins s σ H _ I ⟨F0, m0, ρ, st, R, ev, PostG.bnd (T := RVals X.K) p⟩) fun us s1 ⟨vs, H1, I1, r, F1, m1, st1, xs, S1, R1, r1, p⟩ => ⟨I1.kIn, ?_⟩) he hpl
  obtain ⟨z, p⟩ := post_chk p
  have hl : vs.length = ps.length := by rw [← RVals.length r1]; exact of_decide_eq_true z
  have hu : (us ++ []).length = ps.length := by rw [List.append_nil, ← r.length]; exact hl
  have bt := hb s1 us I1.kIn hu
  rw [List.append_nil] at bt
  exact wpAny_call (codeAny_mono (F.go hr hgd hx I1 bt r (Q := Q) (E := E) ⟨hl, F1, m1, st1, xs, R1, r1, p⟩) fun r s' h => by
    cases r with
    | error e => exact h
    | ok fl => cases fl with
      | ret u => exact h
      | next => exact h.elim
      | brk => exact h.elim
      | cont => exact h.elim)
theorem d_call0 (F : OkD X.prog X.w X.K cn X.mg X.base CX k x [] g) (hr : Room k X.A) (hgd : X.A.guards = some []) (hx : Passes CX X E) (hg : Gl X x := by rfl) (hdb : (x == ("__debug__" : Str)) = false := by decide) :
    PE X (.Call (.Name x p) [] [] pos) (TD ⟨X.K, cn⟩ E (eCall 0 g aNil)) := by
  obtain ⟨f, fd, hm, hk, F, hb, _⟩ := F
  refine ⟨fun pins s σ H Q I ⟨F0, m0, ρ, st, R, ev, p⟩ => ?_⟩
  refine wpAny_Call_Name_kw (ld_glob I hg hm ?_ hdb)
  have bt := hb s [] I.kIn rfl
  refine PySem.W.callWith_K0 I.kIn hk (wpAny_call (codeAny_mono (F.go hr hgd hx I bt .nil (Q := Q) (E := E) ⟨rfl, F0, m0, st, [], R, .nil, p⟩) fun r s' h => ?_))
  cases r with
  | error e => exact h
  | ok fl => cases fl with
    | ret u => exact h
    | next => exact h.elim
    | brk => exact h.elim
    | cont => exact h.elim
/-! ### a def's den from its body's -/
def gcV (n : Nat) (v : Val) (st : Sto) : Res Val := match v with
  | .dat d => .ok (.dat d) (st.take n)
  | .scr ns => .ok (.scr ns) (st.take n)
  | .ref k => if k < n then .ok (.ref k) (st.take n) else (match st[k]? with
    | some (.lst ds) => .ok (.dat (.list ds)) (st.take n)
    | some (.frz d) => .ok (.dat d) (st.take n)
    | some (.dct kvs) => .ok (.ref n) (st.take n ++ [.dct kvs])
    | none => .err)
def runF (N : Nat) (body : SM) (xs : List Val) : M Val := fun st => match body (xs.map some ++ List.replicate (N - xs.length) none) st with
  | .nx _ st' => gcV st.length (.dat .none) st'
  | .rt v st' => gcV st.length v st'
  | .exc c fs st' => .exc c fs (st'.take st.length)
  | _ => .err
theorem Rel.cut {K : PySem.W.Frag} {F H : Hp} {m : List Addr} {st : Sto} (R : Rel K F H m st) (n : Nat) : Rel K F H (m.take n) (st.take n) :=
  ⟨R.le, by simp [R.len], R.nd.sublist (List.take_sublist _ _), fun k a o e1 e2 => by
    rw [List.getElem?_take] at e1 e2
    split at e1
    · rename_i h
      rw [if_pos h] at e2
      exact R.ob k a o e1 e2
    · cases e1⟩
theorem Stp.cut {F H F' H' : Hp} {m m' : List Addr} (S : Stp F H m F' H' m') : Stp F H m F' H' m ∧ m'.take m.length = m := by
  obtain ⟨r, e⟩ := S.mm
  refine ⟨⟨S.fF, ⟨[], by simp⟩, S.frm, S.nF, fun a h n => absurd h n⟩, ?_⟩
  rw [e]
  simp
theorem gc_ok {c : Cf} {E : XK} {F H F' H' : Hp} {m m' : List Addr} {st st' : Sto} {x : Val} {v : V} {Q : VK} (R0 : Rel c.K F H m st) (p : Post c E F H m (gcV st.length x st') Q) (S : Stp F H m F' H' m') (R : Rel c.K F' H' m' st') (r : RVal c.K F' m' x v) : Q v H' := by
  obtain ⟨S1, em⟩ := S.cut
  have R1 : Rel c.K F' H' m (st'.take st.length) := by
    have := R.cut st.length
    rw [← R0.len, em] at this
    rw [← R0.len]
    exact this
  cases x with
  | dat d => exact p F' H' m v S1 R1 r
  | scr ns => exact p F' H' m v S1 R1 r
  | ref k =>
    obtain ⟨a, ha, rfl⟩ := r
    simp only [gcV] at p
    by_cases hk : k < st.length
    · rw [if_pos hk] at p
      refine p F' H' m _ S1 R1 ⟨a, ?_, rfl⟩
      rw [← em, List.getElem?_take, if_pos (by rw [R0.len]; exact hk)]
      exact ha
    · rw [if_neg hk] at p
      cases q : st'[k]? with
      | none => rw [q] at p; exact p.elim
      | some o =>
        rw [q] at p
        have ob := R.ob k a o ha q
        have hn : a ∉ m := fun z => by
          obtain ⟨j, hj⟩ := List.getElem?_of_mem z
          have hj' := S.at hj
          have e := nodup_get R.nd hj' ha
          have hlt := (List.getElem?_eq_some_iff.mp hj).1
          rw [R0.len] at hlt
          omega
        have hH : H a = none := S.nm a (List.mem_of_getElem? ha) hn
        cases o with
        | frz d => exact p F' H' m _ S1 R1 ob.2
        | lst ds =>
          obtain ⟨h0, vs, h1, h2⟩ := ob
          exact p _ _ _ _ (S1.adopt hH h0 _) (R1.adopt h0 hn h1) (.lst upd_same (h2.mono (Le.new h0)))
        | dct kvs =>
          obtain ⟨h0, ws, h1, h2⟩ := ob
          have eH : upd H' a (.dK ws) = H' := by
            funext b
            unfold upd
            split
            · rename_i e; rw [e, h1]
            · rfl
          obtain ⟨S2, R2⟩ := Rel.take S1 R1 hH h0 hn (o := .dK ws) (so := .dct kvs) ⟨h0, ws, upd_same, h2⟩
          rw [eH] at S2 R2
          refine p _ _ _ _ S2 R2 ⟨a, ?_, rfl⟩
          rw [← R0.len, List.getElem?_append_right (Nat.le_refl _)]
          simp
theorem start_env {K : PySem.W.Frag} {F : Hp} {m : List Addr} {xs : List Val} {vs : List V} {N : List Str} (r : RVals K F m xs vs) : EnvR K F m (xs.map some ++ List.replicate (N.length - xs.length) none) (start N vs) := by
  have hl := RVals.length r
  refine ⟨by simp [L2.start, hl], fun i x e => ?_⟩
  have hi : i < xs.length := by
    by_cases hi : i < xs.length
    · exact hi
    · rw [List.getElem?_append_right (by simpa using hi), List.getElem?_replicate] at e
      split at e <;> cases e
  rw [List.getElem?_append_left (by simpa using hi), List.getElem?_map] at e
  have h1 : xs[i]? = some x := by
    cases q : xs[i]? with
    | none => rw [q] at e; cases e
    | some y => rw [q] at e; cases e; rfl
  have key : ∀ {xs : List Val} {vs : List V} {i : Nat}, RVals K F m xs vs → xs[i]? = some x → ∃ v, vs[i]? = some v ∧ RVal K F m x v := by
    intro xs vs i r
    induction r generalizing i with
    | nil => intro e; simp at e
    | cons h t ih =>
      intro e
      cases i with
      | zero => simp at e; subst e; exact ⟨_, rfl, h⟩
      | succ i => obtain ⟨v, h1, h2⟩ := ih (i := i) (by simpa using e); exact ⟨v, by simpa using h1, h2⟩
  obtain ⟨v, h2, h3⟩ := key r h1
  refine ⟨v, ?_, h3⟩
  unfold L2.start
  rw [List.getElem?_append_left (by rw [List.length_map, ← hl]; exact hi), List.getElem?_map, h2]
  rfl
end
section
variable {P : Program} {w : World} {K : PySem.W.Frag} {cn : Str → Option Addr} {mg : Str → Option Value} {base : Heap}
/-- THE RULE: a def whose body is read as s -/
theorem okD {CX : CXT} {k : Nat} {f : Addr} {x qual : Str} {params : Arguments} {body : List Stmt} {scope : Scope} {kws : List (Str × V)} {fd : FuncData} {N ps : List Str} {s : SM} (hm : mg x = some (.ref f))
    (D : FunD K x qual params body scope [] kws f fd) (S : FnScope N ps scope) (hb : Binds K fd ps [])
    (hbody : ∀ (cdv : Value) (A : Around) (outer : List Env) (sh : Shared) (H : Hp) (E : XK), Room k (A.deeper (envOfC qual scope sh.heap.objs.size f cdv)) → A.guards = some [] → PSs (cxOf CX P w K mg base N qual scope f cdv A outer sh H E) body (TSD ⟨K, cn⟩ E s)) :
    OkD P w K cn mg base CX (k + 1) x ps (runF N.length s) := by
  refine ⟨f, fd, hm, D.kp, FnG.ofBody D S (fun vs H Q E h => h.1) (fun cdv A outer sh H vs Q E hr hg h => ?_), hb, ?_⟩
  rotate_left
  · obtain ⟨oc, od, _, _, _, _, _, _, _, osl, _, lk, _⟩ := D.ex
    exact ⟨oc, od, osl, lk⟩
  refine ⟨_, hbody cdv A outer sh H E hr hg, ?_⟩
  obtain ⟨_, F, m, st, xs, R, r, p⟩ := h
  refine ⟨F, m, xs.map some ++ List.replicate (N.length - xs.length) none, st, R, start_env r, ?_⟩
  unfold runF at p
  cases q : s (xs.map some ++ List.replicate (N.length - xs.length) none) st with
  | nx ρ st' =>
    rw [q] at p
    exact fun F' H' m' σ' S' R' _ => gc_ok (v := V.non) R p S' R' Rp.non
  | rt v st' =>
    rw [q] at p
    exact fun F' H' m' v' S' R' r' => gc_ok R p S' R' r'
  | exc n fs st' =>
    rw [q] at p
    intro F' H' m' cls d S' R' e
    obtain ⟨S1, em⟩ := S'.cut
    have R1 : Rel K F' H' m (st'.take st.length) := by
      have := R'.cut st.length
      rw [← R.len, em] at this
      rw [← R.len]
      exact this
    exact p F' H' m cls d S1 R1 e
  | bk ρ st' => rw [q] at p; exact p.elim
  | ct ρ st' => rw [q] at p; exact p.elim
  | err => rw [q] at p; exact p.elim
end
end PL

set_option Elab.async false
set_option linter.all false
set_option maxRecDepth 100000
namespace PL
open PySem PySem.Spec L2
open PyProof.Rows hiding St
/-! ### the law's call -/
theorem lawG {P : Program} {w : World} {K : PySem.W.Frag} {mg mb : Str → Option Value} {CX : CXT} {k : Nat} {fa a : Addr} {fd : FuncData} {x : Str} {sp : Sp} {s0 : Shared} {vs : List Value} {ns : List Int}
    (kin : K.In s0.heap) (glob : s0.heap.Ns mainGlobals mg) (blt : s0.heap.Ns builtinsNs mb) (same : ∀ x : Str, x ≠ "__name__" → mb x = bootBuiltins x) (lim : s0.heap.NoLimit) (gens : s0.gens = #[])
    (obj : s0.heap.get? a = some { cls := .type "list", data := .seq vs.toArray }) (nums : IntsAre vs ns) (short : ns.length ≤ sizeLine) (room : Room k callerA)
    (F : ∀ base : Heap, K.In base → base.Ns mainGlobals mg → FnG P w K mg base CX k fa fd [x] sp) (bind : ∀ (s : Shared) (u : Value), BindsTo s fd ⟨[u], []⟩ [(x, u)])
    (keeps : ∀ H : Hp, L2.Only H → SqL K H a (ns.map V.int) → sp [.ref a] H (fun v _ => v = .bl true) fun _ _ _ => False)
    (none_out : ∀ H e s', CX [] H s0 (fun _ _ _ => False) e s' → False) :
    codeAny (model P w) callerA (.call (.ref fa) ⟨[.ref a], []⟩) (fun r s' => r = .ok (.ret (.bool true)) ∧ OldK s0.heap s'.heap ∧ s'.os = s0.os ∧ AllBare s'.gens) s0 := by
  have rel := vals_ints nums
  have many := nums.length
  have main : ∀ H : Hp, L2.Only H → SqL K H a (ns.map V.int) → HOk P w H s0.heap → (∀ b o, H b = some o → b = a) → (∀ o, H a = some o → K.lookup a = none) →
      codeAny (model P w) callerA (.call (.ref fa) ⟨[.ref a], []⟩) (fun r s' => r = .ok (.ret (.bool true)) ∧ OldK s0.heap s'.heap ∧ s'.os = s0.os ∧ AllBare s'.gens) s0 := by
    intro H only sq hok one noK
    have free : ∀ b o es ep, s0.heap.get? b = some o → o.data = .dict es ep → H b = none := by
      intro b o es ep e d
      cases q : H b with
      | none => rfl
      | some u =>
        rw [one b u q, obj] at e
        cases e
        cases (show Data.seq vs.toArray _ = Data.dict es ep from d)
    have nsH : ∀ b m, s0.heap.Ns b m → (hidT s0.heap H).Ns b m := by
      rintro b m ⟨o, es, ep, e, d, r⟩
      exact ⟨o, es, ep, hidT_get e (free b o es ep e d), d, r⟩
    have kinH : K.In (hidT s0.heap H) := by
      intro b o e
      refine hidT_get (kin b o e) ?_
      cases q : H b with
      | none => rfl
      | some u =>
        have eb := one b u q
        subst eb
        rw [noK u q] at e
        cases e
    have limH : (hidT s0.heap H).NoLimit := by
      obtain ⟨mc, h1, h2⟩ := lim
      exact ⟨mc, nsH _ _ h1, h2⟩
    have modH : Mod K mg (hidT s0.heap H) := ⟨kinH, nsH _ _ glob, ⟨mb, nsH _ _ blt, same⟩, limH⟩
    have e0 : Env0 P w K mg (hidT s0.heap H) callerA [] s0 H :=
      ⟨rfl, modH, fun b o e => of_hidT e, Nat.le_of_eq (hidT_size _ _), trivial, fun b hb => (List.not_mem_nil hb).elim, hok, .of_eq gens⟩
    refine codeAny_mono ((F _ kinH (nsH _ _ glob)).run callerA [] s0 H ⟨[.ref a], []⟩ [.ref a] [.ref a] _ _ room rfl e0 (bind s0 (.ref a)) (.cons rfl .nil) (keeps H only sq)) ?_
    intro r s' h
    match r, h with
    | .error e, h => exact (none_out H e s' h).elim
    | .ok .next, h => exact h.elim
    | .ok .brk, h => exact h.elim
    | .ok .cont, h => exact h.elim
    | .ok (.ret u), ⟨v, H', os, bare, un, hok', rv, q⟩ =>
      have q : v = .bl true := q
      subst q
      cases rv
      refine ⟨rfl, OldK.of_keep (fun b o e => ?_), os, bare⟩
      cases q : H b with
      | none => exact un.keep b o e q (fun z => (List.not_mem_nil z).elim) List.not_mem_nil
      | some u =>
        rcases only b with z | ⟨ob, xs, z⟩
        · rw [q] at z; cases z
        · have g1 := (hok b _ z).1
          have g2 := (hok' b _ (un.frzs b ob _ z)).1
          rw [e] at g1
          cases g1
          exact g2
  cases hk : K.lookup a with
  | some o =>
    have e := kin a o hk
    rw [obj] at e
    cases e
    refine main (fun _ => none) (fun _ => Or.inl rfl) (Or.inr ⟨_, vs.toArray, _, hk, rfl, rfl, rfl, ?_, ?_⟩) (fun b u z => nomatch z) (fun b o z => nomatch z) (fun o z => nomatch z)
    · rw [List.size_toArray, many]; exact short
    · simpa using rel
  | none =>
    have new : ∀ b, (upd (fun _ => none) a (.frz { cls := .type "list", data := .seq vs.toArray } (.lst (ns.map V.int)))) b = none ∨ b = a := fun b => by
      by_cases hb : b = a
      · exact Or.inr hb
      · exact Or.inl (by rw [upd_ne hb])
    refine main (upd (fun _ => none) a (.frz { cls := .type "list", data := .seq vs.toArray } (.lst (ns.map V.int)))) (fun b => ?_) (Or.inl (Or.inr ⟨_, upd_same⟩)) (fun b u z => ?_) (fun b o z => ?_) (fun _ _ => hk)
    · rcases new b with h | h
      · exact Or.inl h
      · subst h; exact Or.inr ⟨_, _, upd_same⟩
    · rcases new b with h | h
      · rw [h] at z; cases z
      · subst h
        rw [upd_same] at z
        cases z
        exact ⟨obj, by rw [List.length_map]; exact short, vs, _, rel, obj⟩
    · rcases new b with h | h
      · rw [h] at z; cases z
      · exact h
theorem walkG {l : PySem.W.OpenLaw} {n k : Nat} {q : Program} {loose : List Str} {XP : (Str → Option Value) → Heap → Prop} {YP : World → Heap → Prop} {d : DefRec} {CX : World → CXT} {x : Str}
    (hn : l.most = some n) (hn2 : n ≤ sizeLine) (hdf : d.params.defaults = []) (hr : Room k callerA)
    (F : ∀ (w : World) (mg : Str → Option Value) (fa : Addr) (h : Heap), YP w h → h.Ns mainGlobals mg → mg d.name = some (.ref fa) →
      ∃ (K : PySem.W.Frag) (fd : FuncData) (sp : Sp), K.In h ∧ (∀ (s : Shared) (u : Value), BindsTo s fd ⟨[u], []⟩ [(x, u)]) ∧
        (∀ (H : Hp) (a : Addr) (ns : List Int), ns.length ≤ n → L2.Only H → SqL K H a (ns.map V.int) → sp [.ref a] H (fun v _ => v = .bl true) fun _ _ _ => False) ∧
        ∀ base : Heap, K.In base → base.Ns mainGlobals mg → FnG l.prog w K mg base (CX w) k fa fd [x] sp)
    (hCX : ∀ (w : World) (H : Hp) (s : Shared) (e : Value) (s' : Shared), CX w [] H s (fun _ _ _ => False) e s' → False) :
    PySem.W.WalkO q loose XP YP l.row.toRowW d [] (fun f vs => PySem.call f vs) :=
  Att.attach_call hn hdf (fun w s₀ s1 mg mb fa o pm cd doc a vs ns G Y ho hd hcd hmg hobj hints hlen hg => by
    obtain ⟨K, fd, sp, kin, hb, hsp, hF⟩ := F w mg fa _ Y G.T.g hmg
    exact lawG kin G.T.g G.T.b G.T.builtins G.T.nolimit hg hobj hints (Nat.le_trans hlen hn2) hr hF hb (fun H hO hS => hsp H a ns hlen hO hS) (fun H e s' => hCX w H s1 e s'))
/-- the promise of a law whose den gives True -/
theorem law_keeps {K : PySem.W.Frag} {cn : Str → Option Addr} {g : List Val → M Val} {H : Hp} {a : Addr} {ns : List Int} {st : Sto} (h : g [.scr ns] [] = .ok (.dat (.bool true)) st) (sq : SqL K H a (ns.map V.int)) :
    spD ⟨K, cn⟩ 1 g [.ref a] H (fun v _ => v = .bl true) (fun _ _ _ => False) :=
  ⟨rfl, H, [], [], [.scr ns], ⟨Le.refl _, rfl, List.nodup_nil, fun k a o e => by simp at e⟩, .cons ⟨a, rfl, sq⟩ .nil, by
    rw [h]
    intro F' H' m' v _ _ r
    cases (show Rp K F' v (.bool true) from r)
    rfl⟩
/-! ### written data -/
mutual
def dataB (K : PySem.W.Frag) : PyData → Value → Bool
  | .none, v => (match v with
    | .none => true
    | _ => false)
  | .bool b, v => (match v with
    | .bool c => b == c
    | _ => false)
  | .int i, v => (match v with
    | .int j _ => decide (i = j)
    | _ => false)
  | .str x, v => (match v with
    | .str y _ => decide (x = y)
    | _ => false)
  | .tuple ds, v => (match v with
    | .ref a => (match K.lookup a with
      | some o => (match o.cls, o.data with
        | .type T, .seq its _ => decide (T = "tuple") && (decide (its.size ≤ sizeLine) && datasB K ds its.toList)
        | _, _ => false)
      | none => false)
    | _ => false)
  | .list _, _ => false
  | .dict _, _ => false
def datasB (K : PySem.W.Frag) : List PyData → List Value → Bool
  | [], vs => vs.isEmpty
  | d :: ds, vs => (match vs with
    | v :: r => dataB K d v && datasB K ds r
    | [] => false)
end
mutual
theorem dataB_ok {K : PySem.W.Frag} : ∀ (d : PyData) (v : Value), dataB K d v = true → ∃ x, RelV x v ∧ ∀ F, Rp K F x d
  | .none, v, h => by
    unfold dataB at h
    split at h
    · exact ⟨.non, rfl, fun _ => .non⟩
    · cases h
  | .bool b, v, h => by
    unfold dataB at h
    split at h
    · rename_i c
      have e : b = c := by simpa using h
      subst e
      exact ⟨.bl b, rfl, fun _ => .bl b⟩
    · cases h
  | .int i, v, h => by
    unfold dataB at h
    split at h
    · have e := of_decide_eq_true h
      subst e
      exact ⟨.int i, ⟨_, rfl⟩, fun _ => .int i⟩
    · cases h
  | .str y, v, h => by
    unfold dataB at h
    split at h
    · have e := of_decide_eq_true h
      subst e
      exact ⟨.str y, ⟨_, rfl⟩, fun _ => .str y⟩
    · cases h
  | .tuple ds, v, h => by
    unfold dataB at h
    split at h
    · rename_i a
      split at h
      · rename_i o ho
        split at h
        · rename_i T its n e1 e2
          simp only [Bool.and_eq_true, decide_eq_true_eq] at h
          obtain ⟨rfl, h2, h3⟩ := h
          obtain ⟨xs, r, k⟩ := datasB_ok ds its.toList h3
          exact ⟨.ref a, rfl, fun F => .tup (.inr ⟨o, its, n, ho, e1, e2, h2, r⟩) (k F)⟩
        · cases h
      · cases h
    · cases h
  | .list _, _, h => by unfold dataB at h; cases h
  | .dict _, _, h => by unfold dataB at h; cases h
theorem datasB_ok {K : PySem.W.Frag} : ∀ (ds : List PyData) (vs : List Value), datasB K ds vs = true → ∃ xs, Vals xs vs ∧ ∀ F, RpAll K F xs ds
  | [], vs, h => by
    unfold datasB at h
    cases vs with
    | nil => exact ⟨[], .nil, fun _ => .nil⟩
    | cons _ _ => cases h
  | d :: ds, vs, h => by
    unfold datasB at h
    cases vs with
    | nil => cases h
    | cons v r =>
      obtain ⟨h1, h2⟩ := Bool.and_eq_true_iff.mp h
      obtain ⟨x, r1, k1⟩ := dataB_ok d v h1
      obtain ⟨xs, r2, k2⟩ := datasB_ok ds r h2
      exact ⟨x :: xs, .cons r1 r2, fun F => .cons (k1 F) (k2 F)⟩
end
/-- the module's name x holds the data d -/
def gloB (K : PySem.W.Frag) (x : Str) (d : PyData) : Bool := match PySem.W.nsIn K mainGlobals x with
  | some (some v) => dataB K d v
  | _ => false
theorem gloB_ok {K : PySem.W.Frag} {h : Heap} {mg : Str → Option Value} {x : Str} {d : PyData} (X : K.In h) (G : h.Ns mainGlobals mg) (b : gloB K x d = true) : ∃ u y, mg x = some u ∧ RelV y u ∧ ∀ F, Rp K F y d := by
  unfold gloB at b
  split at b
  · rename_i v e
    obtain ⟨y, r, k⟩ := dataB_ok d v b
    exact ⟨v, y, PySem.W.mg_of X G e, r, k⟩
  · cases b
theorem d_glob {X : Cx} {cn : Str → Option Addr} {E : XK} {pos : Pos} {x : Str} {d : PyData} (h : ∃ u y, X.mg x = some u ∧ RelV y u ∧ ∀ F, Rp X.K F y d) (hg : Gl X x := by rfl) (hd : (x == ("__debug__" : Str)) = false := by decide) : PE X (.Name x pos) (TD ⟨X.K, cn⟩ E (eC d)) := by
  obtain ⟨u, y, h1, h2, h3⟩ := h
  exact td_const (t := tC .non) (pe_glob hg h1 h2 hd) h3
/-! ### written dicts with text keys -/
def entB (K : PySem.W.Frag) : List (Str × PyData) → List DictEntry → Bool
  | [], es => es.isEmpty
  | (x, d) :: r, es => (match es with
    | e :: t => (match e.key with
      | .str y _ => decide (x = y) && (dataB K d e.val && entB K r t)
      | _ => false)
    | [] => false)
def dctB (K : PySem.W.Frag) (x : Str) (kvs : List (Str × PyData)) : Bool := match K.lookup (He.ga K x) with
  | some o => (match o.data with
    | .dict es _ => entB K kvs es.toList
    | _ => false)
  | none => false
def lookS (kvs : List (Str × PyData)) (z : Str) : Option PyData := (kvs.find? fun kv => decide (kv.1 = z)).map (·.2)
theorem entB_ok {K : PySem.W.Frag} (z : Str) : ∀ (kvs : List (Str × PyData)) (es : List DictEntry), entB K kvs es = true →
    es.any (·.refKey) = false ∧ ((lookS kvs z = none ∧ es.find? (·.key.isStr z) = none) ∨ ∃ d e, lookS kvs z = some d ∧ es.find? (·.key.isStr z) = some e ∧ dataB K d e.val = true)
  | [], es, h => by
    unfold entB at h
    cases es with
    | nil => exact ⟨rfl, .inl ⟨rfl, rfl⟩⟩
    | cons _ _ => cases h
  | (x, d) :: r, es, h => by
    unfold entB at h
    cases es with
    | nil => cases h
    | cons e t =>
      dsimp only at h
      split at h
      · rename_i y tk hk
        simp only [Bool.and_eq_true, decide_eq_true_eq] at h
        obtain ⟨rfl, h2, h3⟩ := h
        obtain ⟨i1, i2⟩ := entB_ok z r t h3
        have rk : e.refKey = false := by unfold DictEntry.refKey; rw [hk]
        refine ⟨by rw [List.any_cons, rk, i1]; rfl, ?_⟩
        by_cases ez : x = z
        · refine .inr ⟨d, e, ?_, ?_, h2⟩
          · simp [lookS, List.find?_cons, ez]
          · have : e.key.isStr z = true := by rw [hk, ez]; simp [Value.isStr]
            rw [List.find?_cons, this]
        · have n1 : e.key.isStr z = false := by rw [hk]; simp [Value.isStr, ez]
          have n2 : lookS ((x, d) :: r) z = lookS r z := by simp [lookS, List.find?_cons, ez]
          rw [n2, List.find?_cons, n1]
          exact i2
      · cases h
end PL

set_option Elab.async false
set_option linter.all false
set_option maxRecDepth 100000
namespace PL
open PySem PySem.Spec L2
open PyProof.Rows hiding St
/-- the module's name x holds a written dict -/
def GDict (K : PySem.W.Frag) (w : World) (mg : Str → Option Value) (x : Str) (kvs : List (Str × PyData)) : Prop := ∃ a es n, mg x = some (.ref a) ∧ KDict K w a es n ∧ entB K kvs es.toList = true
theorem gdict_of {K : PySem.W.Frag} {w : World} {mg : Str → Option Value} {x : Str} {kvs : List (Str × PyData)} (hm : mg x = some (.ref (He.ga K x))) (hd : ∃ es n, KDict K w (He.ga K x) es n) (hb : dctB K x kvs = true) : GDict K w mg x kvs := by
  obtain ⟨es, n, D⟩ := hd
  refine ⟨_, es, n, hm, D, ?_⟩
  unfold dctB at hb
  rw [D.at_] at hb
  exact hb
theorem nsIn_of {K : PySem.W.Frag} {w : World} {a : Addr} {es : Array DictEntry} {n : Nat} {kvs : List (Str × PyData)} (D : KDict K w a es n) (hb : entB K kvs es.toList = true) (z : Str) :
    (lookS kvs z = none ∧ PySem.W.nsIn K a z = some none) ∨ ∃ d u, lookS kvs z = some d ∧ PySem.W.nsIn K a z = some (some u) ∧ dataB K d u = true := by
  obtain ⟨h1, h2⟩ := entB_ok z kvs es.toList hb
  unfold PySem.W.nsIn
  rw [D.at_]
  dsimp only
  rcases h2 with ⟨e1, e2⟩ | ⟨d, e, e1, e2, e3⟩
  · left
    refine ⟨e1, ?_⟩
    rw [e2, h1]
    rfl
  · right
    refine ⟨d, e.val, e1, ?_, e3⟩
    rw [e2]
section
variable {X : Cx} {cn : Str → Option Addr} {E : XK} {pos p q : Pos} {x : Str} {kvs : List (Str × PyData)} {a b : Expr} {f f' : Ev → M Val} {fs : Ev → M (List Val)}
def kinD (kvs : List (Str × PyData)) : PyData → M Val
  | .str z => bB (lookS kvs z).isSome
  | _ => fail
theorem d_kin (G : GDict X.K X.w X.mg x kvs) (ha : PE X a (TD ⟨X.K, cn⟩ E f)) (hg : Gl X x := by rfl) (hd : (x == ("__debug__" : Str)) = false := by decide) (hm : behindInMarks .In (.Name x q) = false := by rfl) : PE X (.Compare a [.In] [.Name x q] pos) (TD ⟨X.K, cn⟩ E (e1 (on1 (kinD kvs)) f)) := by
  obtain ⟨d, es, n, hmg, D, hb⟩ := G
  refine PE.imp (pe_cmpR (op_in_kd D) ha (pe_glob (v := .ref d) hg hmg rfl hd) hm) fun σ H Q ⟨F, m, ρ, st, R, ev, p⟩ => ⟨F, m, ρ, st, R, ev, PostG.mono (PostG.bnd (T := RVal X.K) p) fun v H1 ⟨F1, m1, st1, x', S1, R1, r1, p⟩ => ?_⟩
  unfold on1 at p
  cases ex : vw x' st1 with
  | none => rw [ex] at p; exact p.elim
  | some dd =>
    rw [ex] at p
    have vb := vw_ok R1 r1 ex
    obtain ⟨z, rfl⟩ : ∃ z, dd = .str z := by
      cases dd with
      | str z => exact ⟨z, rfl⟩
      | _ => exact p.elim
    cases vb
    rcases nsIn_of D hb z with ⟨e1, e2⟩ | ⟨d', u, e1, e2, _⟩
    · refine ⟨z, none, rfl, rfl, e2, ?_⟩
      have p : Post ⟨X.K, cn⟩ E F1 H1 m1 (bB (lookS kvs z).isSome st1) Q := p
      rw [e1] at p
      exact post_ok p R1 (Rp.bl _)
    · refine ⟨z, some u, rfl, rfl, e2, ?_⟩
      have p : Post ⟨X.K, cn⟩ E F1 H1 m1 (bB (lookS kvs z).isSome st1) Q := p
      rw [e1] at p
      exact post_ok p R1 (Rp.bl _)
def kgetD (kvs : List (Str × PyData)) : PyData → M Val
  | .str z => fun st => (match lookS kvs z with
    | some d => .ok (.dat d) st
    | none => .err)
  | _ => fail
theorem d_kget (G : GDict X.K X.w X.mg x kvs) (hb : PE X b (TD ⟨X.K, cn⟩ E f)) (hg : Gl X x := by rfl) (hd : (x == ("__debug__" : Str)) = false := by decide) (hs : PlainIx b := by exact fun _ _ => rfl) : PE X (.Subscript (.Name x q) b pos) (TD ⟨X.K, cn⟩ E (e1 (on1 (kgetD kvs)) f)) := by
  obtain ⟨d, es, n, hmg, D, hbb⟩ := G
  refine PE.imp (pe_ix ix_kdict (pe_glob (v := .ref d) hg hmg rfl hd) hb hs) fun σ H Q ⟨F, m, ρ, st, R, ev, p⟩ => ⟨F, m, ρ, st, R, ev, PostG.mono (PostG.bnd (T := RVal X.K) p) fun v H1 ⟨F1, m1, st1, x', S1, R1, r1, p⟩ => ?_⟩
  unfold on1 at p
  cases ex : vw x' st1 with
  | none => rw [ex] at p; exact p.elim
  | some dd =>
    rw [ex] at p
    have vb := vw_ok R1 r1 ex
    obtain ⟨z, rfl⟩ : ∃ z, dd = .str z := by
      cases dd with
      | str z => exact ⟨z, rfl⟩
      | _ => exact p.elim
    cases vb
    unfold kgetD at p
    dsimp only at p
    rcases nsIn_of D hbb z with ⟨e1, e2⟩ | ⟨d', u, e1, e2, e3⟩
    · rw [e1] at p; exact p.elim
    · rw [e1] at p
      obtain ⟨y, r, k⟩ := dataB_ok d' u e3
      exact ⟨d, z, y, rfl, rfl, ⟨es, n, u, D.at_, D.lit, e2, r⟩, post_ok p R1 (k F1)⟩
end
/-! ### calls with keywords alone -/
/-- the def binds these keywords (in the order of the call) as the values in the parameters' order -/
def KwOk (K : PySem.W.Frag) (fd : FuncData) (ps ks : List Str) (o : List Nat) : Prop :=
  ∀ (s : Shared) (ws : List Value), K.In s.heap → ws.length = ks.length → BindsTo s fd ⟨[], ks.zip ws⟩ (ps.zip (o.filterMap fun i => ws[i]?))
def OkK (P : Program) (w : World) (K : PySem.W.Frag) (cn : Str → Option Addr) (mg : Str → Option Value) (base : Heap) (CX : CXT) (k : Nat) (x : Str) (ps ks : List Str) (o : List Nat) (g : List Val → M Val) : Prop :=
  ∃ f fd, mg x = some (.ref f) ∧ PySem.W.keepIn K (.ref f) = true ∧ FnG P w K mg base CX k f fd ps (spD ⟨K, cn⟩ ps.length g) ∧ KwOk K fd ps ks o
section
variable {X : Cx} {cn : Str → Option Addr} {CX : CXT} {k : Nat} {E : XK} {x : Str} {ps ks : List Str} {o : List Nat} {g : List Val → M Val} {p pos : Pos} {kws : List Keyword} {fs : Ev → M (List Val)} {a : Expr} {f : Ev → M Val}
theorem PK.imp {X : Cx} {e : List Keyword} {t t' : TA} (h : PK X e t) (i : ∀ σ H Q, t' σ H Q → t σ H Q) : PK X e t' := ⟨fun pos pins s σ H Q I q => h.run pos pins s σ H Q I (i _ _ _ q)⟩
theorem k_nil : PK X [] (TDA ⟨X.K, cn⟩ E aNil) := PK.imp pk_nil fun σ H Q ⟨F, m, ρ, st, R, ev, p⟩ => p F H m [] (Stp.refl _ _ _) R .nil
theorem k_cons {nm : Option Str} {kpos : Pos} (ha : PE X a (TD ⟨X.K, cn⟩ E f)) (hr : PK X kws (TDA ⟨X.K, cn⟩ E fs)) : PK X (⟨nm, a, kpos⟩ :: kws) (TDA ⟨X.K, cn⟩ E (aCons f fs)) :=
  PK.imp (pk_cons ha hr) fun σ H Q ⟨F, m, ρ, st, R, ev, p⟩ => ⟨F, m, ρ, st, R, ev, PostG.mono (PostG.bnd (T := RVal X.K) p) fun v H1 ⟨F1, m1, st1, x, S1, R1, r1, p⟩ =>
    ⟨F1, m1, ρ, st1, R1, ev.later S1, PostG.mono (PostG.bnd (T := RVals X.K) p) fun vs H2 ⟨F2, m2, st2, xs, S2, R2, r2, p⟩ => p F2 H2 m2 _ (Stp.refl _ _ _) R2 (.cons (r1.later S2) r2)⟩⟩
theorem paired_perm {α β : Type} {T : α → β → Prop} {xs : List α} {ys : List β} (h : Paired T xs ys) : ∀ o : List Nat, Paired T (o.filterMap fun i => xs[i]?) (o.filterMap fun i => ys[i]?)
  | [] => .nil
  | i :: r => by
    have key : (xs[i]? = none ∧ ys[i]? = none) ∨ ∃ a b, xs[i]? = some a ∧ ys[i]? = some b ∧ T a b := by
      clear r
      induction h generalizing i with
      | nil => exact .inl ⟨rfl, rfl⟩
      | cons h t ih =>
        cases i with
        | zero => exact .inr ⟨_, _, rfl, rfl, h⟩
        | succ i => simpa using ih i
    rcases key with ⟨e1, e2⟩ | ⟨a, b, e1, e2, t⟩
    · rw [List.filterMap_cons, List.filterMap_cons, e1, e2]; exact paired_perm h r
    · rw [List.filterMap_cons, List.filterMap_cons, e1, e2]; exact .cons t (paired_perm h r)
def eCallK (n nk : Nat) (o : List Nat) (g : List Val → M Val) (fs : Ev → M (List Val)) : Ev → M Val := fun ρ => bnd (fs ρ) fun xs => chk (decide (xs.length = nk) && decide ((o.filterMap fun i => xs[i]?).length = n)) (g (o.filterMap fun i => xs[i]?))
/-- f(k1 = e1, ..) -/
theorem d_callK (F : OkK X.prog X.w X.K cn X.mg X.base CX k x ps ks o g) (hr : Room k X.A) (hgd : X.A.guards = some []) (hx : Passes CX X E) (ha : PK X kws (TDA ⟨X.K, cn⟩ E fs)) (hg : Gl X x := by rfl) (hdb : (x == ("__debug__" : Str)) = false := by decide)
    (hall : (backToKw pos (keywordEach kws X.env)).all (·.1.isSome) = true := by rfl) (hks : (backToKw pos (keywordEach kws X.env)).filterMap (·.1) = ks := by rfl)
    (hpl : ((backTo pos (starEach [] X.env)).any (·.1) || (backToKw pos (keywordEach kws X.env)).any (·.1.isNone)) = false := by rfl) :
    PE X (.Call (.Name x p) [] kws pos) (TD ⟨X.K, cn⟩ E (eCallK ps.length ks.length o g fs)) := by
  obtain ⟨f, fd, hm, hk, F, hb⟩ := F
  refine ⟨fun pins s σ H Q I ⟨F0, m0, ρ, st, R, ev, p⟩ => ?_⟩
  refine wpAny_Call_Name_kw (ld_glob I hg hm ?_ hdb)
  refine PySem.W.callWith_KW0 (h₀ := X.base) I.ok.mod.kin hk hall (thn (ha.run pos pins s σ H _ I ⟨F0, m0, ρ, st, R, ev, PostG.bnd (T := RVals X.K) p⟩) fun ws s1 ⟨vs, H1, I1, r, F1, m1, st1, xs, S1, R1, r1, p⟩ => ⟨I1.kIn, ?_⟩) hpl
  rw [hks]
  obtain ⟨z, p⟩ := post_chk p
  obtain ⟨z1, z2⟩ := Bool.and_eq_true_iff.mp z
  have e1 : ws.length = ks.length := by rw [← r.length, ← RVals.length r1]; exact of_decide_eq_true z1
  have q1 := paired_perm r1 o
  have q2 := paired_perm r o
  have hl : (o.filterMap fun i => vs[i]?).length = ps.length := by rw [← RVals.length q1]; exact of_decide_eq_true z2
  exact wpAny_call (codeAny_mono (F.go hr hgd hx I1 (hb s1 ws I1.kIn e1) q2 (Q := Q) (E := E) ⟨hl, F1, m1, st1, _, R1, q1, p⟩) fun r s' h => by
    cases r with
    | error e => exact h
    | ok fl => cases fl with
      | ret u => exact h
      | next => exact h.elim
      | brk => exact h.elim
      | cont => exact h.elim)
end
end PL

set_option Elab.async false
set_option linter.all false
set_option maxRecDepth 100000
namespace PL
open PySem PySem.Spec L2
open PyProof.Rows hiding St
theorem u65 {k : Nat} {A : Around} (r : Room k A) : A.units + 65 < cLine := by have := r.un; omega
theorem pas0 {X : Cx} {E : XK} : Passes CX0 X E := fun _ _ _ _ _ _ _ h => h.elim
theorem okK_of {P : Program} {w : World} {K : PySem.W.Frag} {cn : Str → Option Addr} {mg : Str → Option Value} {base : Heap} {CX : CXT} {k : Nat} {x qual : Str} {params : Arguments} {body : List Stmt} {scope : Scope} {kws : List (Str × V)} {ps ks : List Str} {o : List Nat} {g : List Val → M Val} {f : Addr} {fd : FuncData}
    (h : OkD P w K cn mg base CX k x ps g) (hm : mg x = some (.ref f)) (D : FunD K x qual params body scope [] kws f fd)
    (hb : ∀ (kV doc pm : Value) (an : Option Addr) (cdv ct : Value) (ws : List Value), ws.length = ks.length → bindArgs (PySem.W.fnOf x qual params body scope .none kV doc pm an cdv ct) ⟨[], ks.zip ws⟩ = pure (ps.zip (o.filterMap fun i => ws[i]?))) :
    OkK P w K cn mg base CX k x ps ks o g := by
  obtain ⟨f', fd', h1, h2, h3, _, oc', od', osl', lk'⟩ := h
  rw [hm] at h1
  cases h1
  obtain ⟨oc, od, dV, kV, doc, pm, an, cdv, ct, osl, e, lk, hcd, hD, hK⟩ := D.ex
  rw [lk] at lk'
  cases lk'
  refine ⟨_, _, hm, h2, h3, fun s ws hin hl => ?_⟩
  rcases hD with ⟨_, ed⟩ | ⟨z, _⟩
  · subst e
    subst ed
    exact .of_eq (hb kV doc pm an cdv ct ws hl)
  · exact absurd rfl z
theorem fnG_of {P : Program} {w : World} {K : PySem.W.Frag} {cn : Str → Option Addr} {mg : Str → Option Value} {base : Heap} {CX : CXT} {k : Nat} {x qual : Str} {params : Arguments} {body : List Stmt} {scope : Scope} {dvs : List V} {kws : List (Str × V)} {ps : List Str} {g : List Val → M Val} {f : Addr} {fd : FuncData}
    (h : OkD P w K cn mg base CX k x ps g) (hm : mg x = some (.ref f)) (D : FunD K x qual params body scope dvs kws f fd) : FnG P w K mg base CX k f fd ps (spD ⟨K, cn⟩ ps.length g) := by
  obtain ⟨f', fd', h1, h2, h3, _, oc', od', osl', lk'⟩ := h
  rw [hm] at h1
  cases h1
  obtain ⟨oc, od, dV, kV, doc, pm, an, cdv, ct, osl, e, lk, hcd, hD, hK⟩ := D.ex
  rw [lk] at lk'
  cases lk'
  exact h3
/-- name = [.. for ..] on one line -/
theorem s_setLc {X : Cx} {cn : Str → Option Addr} {E : XK} {pos spos py : Pos} {tg iter elt : Expr} (i : Nat) {y : Str} {ifs : List Expr} {scope : Scope} {own : List (Str × Nat)} {ps : List Nat} {src : Ev → M (List PyData)} {t : Tg} {cond : Ev → M Bool} {el : Ev → M Val} (hc : X.calm = true) (hN : X.N.Nodup) (hi : PI X tg iter (TID ⟨X.K, cn⟩ E src)) (ok : BlkOk X.N X.env.scope scope own) (hp : ∀ i ∈ ps, i ∈ own.map (·.2))
    (hg : ∀ (s : Shared) (H : Hp) (C : Addr) (cl : List (Str × Addr)) (fp : List Addr), PG (X.blk s H scope (compEnvC scope cl C X.env) fp) tg (TGD X.K ps t))
    (ht : ∀ (s : Shared) (H : Hp) (C : Addr) (cl : List (Str × Addr)) (fp : List Addr), PTs (X.blk s H scope (compEnvC scope cl C X.env) fp) ifs (TDB ⟨X.K, cn⟩ E0 cond))
    (he : ∀ (s : Shared) (H : Hp) (C : Addr) (cl : List (Str × Addr)) (fp : List Addr), PE (X.blk s H scope (compEnvC scope cl C X.env) fp) elt (TD ⟨X.K, cn⟩ E0 el)) (hy : X.N[i]? = some y := by rfl) (hyl : X.env.scope.names.lookup y = some .local := by rfl) (hsw : swapsWith (.ListComp elt [⟨tg, iter, ifs, 0⟩] scope pos) (some (.Name y py)) spos.line X.env = pure true := by exact sw_true rfl rfl rfl (by decide +kernel))
    (hs : ∀ x, foldedSetIterable iter X.env x = pure x := by intro _; rfl) :
    PS X (.Assign [.Name y py] (.ListComp elt [⟨tg, iter, ifs, 0⟩] scope pos) spos) (TSD ⟨X.K, cn⟩ E (sSet i (eLc src (own.map (·.2)) t cond el))) :=
  PS.imp (ps_setLc hc hN hy hyl hsw hi ok hg ht he hs) fun D σ H ⟨F, m, ρ, st, R, ev, p⟩ =>
    td_lc (c := ⟨X.K, cn⟩) hp ⟨F, m, ρ, st, R, ev, PostG.mono (PostS.sB (T := RVal X.K) p) fun v H1 ⟨F1, m1, st1, x, S1, R1, r1, p⟩ => p F1 H1 m1 _ (Stp.refl _ _ _) R1 ((ev.later S1).set r1)⟩
end PL

set_option Elab.async false
set_option linter.all false
set_option maxRecDepth 100000
/-! ### reading dens forward -/
namespace PL
open PySem PySem.Spec L2
open PyProof.Rows hiding St
def W {α : Type} (x : M α) (st : Sto) (Q : α → Sto → Prop) : Prop := ∃ a st', x st = .ok a st' ∧ Q a st'
def WS (r : SRes) (Qn : Ev → Sto → Prop) (Qr : Val → Sto → Prop) : Prop := match r with
  | .nx ρ st => Qn ρ st
  | .rt v st => Qr v st
  | _ => False
variable {α β : Type} {st : Sto} {ρ : Ev}
theorem W.mono {x : M α} {Q Q' : α → Sto → Prop} (h : W x st Q) (k : ∀ a s, Q a s → Q' a s) : W x st Q' := let ⟨a, s, e, q⟩ := h; ⟨a, s, e, k a s q⟩
theorem WS.mono {r : SRes} {Qn Qn' : Ev → Sto → Prop} {Qr Qr' : Val → Sto → Prop} (h : WS r Qn Qr) (k : ∀ a s, Qn a s → Qn' a s) (k' : ∀ a s, Qr a s → Qr' a s) : WS r Qn' Qr' := by
  cases r with
  | nx ρ st => exact k _ _ h
  | rt v st => exact k' _ _ h
  | _ => exact h.elim
@[simp] theorem W_ret {a : α} {Q : α → Sto → Prop} : W (ret a) st Q ↔ Q a st := ⟨fun ⟨_, _, e, q⟩ => by cases e; exact q, fun q => ⟨_, _, rfl, q⟩⟩
theorem W_ok {a : α} {st' : Sto} {Q : α → Sto → Prop} {x : M α} (e : x st = .ok a st') : W x st Q ↔ Q a st' := ⟨fun ⟨_, _, e', q⟩ => by rw [e] at e'; cases e'; exact q, fun q => ⟨_, _, e, q⟩⟩
theorem W_opt {o : Option β} {k : β → α} {Q : α → Sto → Prop} {x : M α} (h1 : ∀ b, o = some b → x st = .ok (k b) st) (h2 : o = none → x st = .err) : W x st Q ↔ ∃ b, o = some b ∧ Q (k b) st := by
  constructor
  · rintro ⟨a, s, e, q⟩
    cases h : o with
    | none => rw [h2 h] at e; cases e
    | some b => rw [h1 b h] at e; cases e; exact ⟨b, rfl, q⟩
  · rintro ⟨b, e, q⟩
    exact ⟨_, _, h1 b e, q⟩
@[simp] theorem W_bnd {x : M α} {f : α → M β} {Q : β → Sto → Prop} : W (bnd x f) st Q ↔ W x st fun a st' => W (f a) st' Q := by
  constructor
  · rintro ⟨b, st', e, q⟩
    obtain ⟨a, s1, e1, e2⟩ := bnd_okE e
    exact ⟨a, s1, e1, b, st', e2, q⟩
  · rintro ⟨a, s1, e1, b, st', e2, q⟩
    exact ⟨b, st', by unfold bnd; rw [e1]; exact e2, q⟩
@[simp] theorem W_chk {b : Bool} {k : M Val} {Q : Val → Sto → Prop} : W (chk b k) st Q ↔ b = true ∧ W k st Q := by
  unfold W chk
  cases b <;> simp
@[simp] theorem W_bB {b : Bool} {Q : Val → Sto → Prop} : W (bB b) st Q ↔ Q (.dat (.bool b)) st := W_ret
@[simp] theorem W_bI {b : Int} {Q : Val → Sto → Prop} : W (bI b) st Q ↔ Q (.dat (.int b)) st := W_ret
@[simp] theorem W_bS {b : Str} {Q : Val → Sto → Prop} : W (bS b) st Q ↔ Q (.dat (.str b)) st := W_ret
@[simp] theorem W_eC {d : PyData} {Q : Val → Sto → Prop} : W (eC d ρ) st Q ↔ Q (.dat d) st := W_ret
@[simp] theorem W_eV {i : Nat} {Q : Val → Sto → Prop} : W (eV i ρ) st Q ↔ ∃ x, ρ[i]? = some (some x) ∧ Q x st := by
  unfold eV
  cases e : ρ[i]? with
  | none => simp [W, fail]
  | some o =>
    cases o with
    | none => simp [W, fail]
    | some x => simp [W_ret]
@[simp] theorem W_e1 {g : Val → M Val} {f : Ev → M Val} {Q : Val → Sto → Prop} : W (e1 g f ρ) st Q ↔ W (f ρ) st fun x st' => W (g x) st' Q := W_bnd
@[simp] theorem W_e2 {g : Val → Val → M Val} {f f' : Ev → M Val} {Q : Val → Sto → Prop} : W (e2 g f f' ρ) st Q ↔ W (f ρ) st fun x st' => W (f' ρ) st' fun y st'' => W (g x y) st'' Q := by
  unfold e2; rw [W_bnd]; simp only [W_bnd]
@[simp] theorem W_on1 {g : PyData → M Val} {d : PyData} {Q : Val → Sto → Prop} : W (on1 g (.dat d)) st Q ↔ W (g d) st Q := Iff.rfl
@[simp] theorem W_on2 {g : PyData → PyData → M Val} {d e : PyData} {Q : Val → Sto → Prop} : W (on2 g (.dat d) (.dat e)) st Q ↔ W (g d e) st Q := Iff.rfl
@[simp] theorem W_on1L {g : PyData → M Val} {x : Val} {Q : Val → Sto → Prop} : W (on1L g [x]) st Q ↔ W (on1 g x) st Q := Iff.rfl
@[simp] theorem W_eA {g : List Val → M Val} {fs : Ev → M (List Val)} {Q : Val → Sto → Prop} : W (eA g fs ρ) st Q ↔ W (fs ρ) st fun xs st' => W (g xs) st' Q := W_bnd
@[simp] theorem W_aNil {Q : List Val → Sto → Prop} : W (aNil ρ) st Q ↔ Q [] st := W_ret
@[simp] theorem W_aCons {f : Ev → M Val} {fs : Ev → M (List Val)} {Q : List Val → Sto → Prop} : W (aCons f fs ρ) st Q ↔ W (f ρ) st fun x st' => W (fs ρ) st' fun xs st'' => Q (x :: xs) st'' := by
  unfold aCons; simp only [W_bnd, W_ret]
@[simp] theorem W_eCall {n : Nat} {g : List Val → M Val} {fs : Ev → M (List Val)} {Q : Val → Sto → Prop} : W (eCall n g fs ρ) st Q ↔ W (fs ρ) st fun xs st' => xs.length = n ∧ W (g xs) st' Q := by
  unfold eCall; rw [W_bnd]; simp only [W_chk, decide_eq_true_eq]
@[simp] theorem W_eAnd {f f' : Ev → M Val} {Q : Val → Sto → Prop} : W (eAnd f f' ρ) st Q ↔ W (f ρ) st fun x st' => W (asB x) st' fun b st'' => W (if b then f' ρ else bB false) st'' Q := by
  unfold eAnd; rw [W_bnd]; simp only [W_bnd]
@[simp] theorem W_eOr {f f' : Ev → M Val} {Q : Val → Sto → Prop} : W (eOr f f' ρ) st Q ↔ W (f ρ) st fun x st' => W (asB x) st' fun b st'' => W (if b then bB true else f' ρ) st'' Q := by
  unfold eOr; rw [W_bnd]; simp only [W_bnd]
@[simp] theorem W_eNot {f : Ev → M Val} {Q : Val → Sto → Prop} : W (eNot f ρ) st Q ↔ W (f ρ) st fun x st' => W (asB x) st' fun b st'' => Q (.dat (.bool !b)) st'' := by
  unfold eNot; rw [W_bnd]; simp only [W_bnd, W_bB]
@[simp] theorem W_asB {b : Bool} {Q : Bool → Sto → Prop} : W (asB (.dat (.bool b))) st Q ↔ Q b st := W_ret
@[simp] theorem W_asI {b : Int} {Q : Int → Sto → Prop} : W (asI (.dat (.int b))) st Q ↔ Q b st := W_ret
@[simp] theorem W_eIf {t : Ev → M Bool} {f f' : Ev → M Val} {Q : Val → Sto → Prop} : W (eIf t f f' ρ) st Q ↔ W (t ρ) st fun b st' => W (if b then f ρ else f' ρ) st' Q := W_bnd
@[simp] theorem W_eB {f : Ev → M Val} {Q : Bool → Sto → Prop} : W (eB f ρ) st Q ↔ W (f ρ) st fun x st' => W (asB x) st' Q := W_bnd
@[simp] theorem W_eT {f : Ev → M Val} {Q : Bool → Sto → Prop} : W (eT f ρ) st Q ↔ W (f ρ) st fun x st' => W (truV x) st' Q := W_bnd
@[simp] theorem W_truV {d : PyData} {Q : Bool → Sto → Prop} : W (truV (.dat d)) st Q ↔ ∃ b, tru d = some b ∧ Q b st := by
  refine W_opt (k := id) (fun b h => ?_) (fun h => ?_) <;> simp [truV, vw, opt, h]
@[simp] theorem W_tN {t : Ev → M Bool} {Q : Bool → Sto → Prop} : W (tN t ρ) st Q ↔ W (t ρ) st fun b st' => Q (!b) st' := by unfold tN; rw [W_bnd]; simp only [W_ret]
@[simp] theorem W_tA {t u : Ev → M Bool} {Q : Bool → Sto → Prop} : W (tA t u ρ) st Q ↔ W (t ρ) st fun b st' => W (if b then u ρ else ret false) st' Q := W_bnd
@[simp] theorem W_tO {t u : Ev → M Bool} {Q : Bool → Sto → Prop} : W (tO t u ρ) st Q ↔ W (t ρ) st fun b st' => W (if b then ret true else u ρ) st' Q := W_bnd
@[simp] theorem W_tTrue {Q : Bool → Sto → Prop} : W (tTrue ρ) st Q ↔ Q true st := W_ret
@[simp] theorem W_frz {d : PyData} {Q : PyData → Sto → Prop} : W (frzV (.dat d)) st Q ↔ Q d st := W_ret
@[simp] theorem W_frzNil {Q : List PyData → Sto → Prop} : W (frzAll []) st Q ↔ Q [] st := W_ret
@[simp] theorem W_frzCons {x : Val} {xs : List Val} {Q : List PyData → Sto → Prop} : W (frzAll (x :: xs)) st Q ↔ W (frzV x) st fun d st' => W (frzAll xs) st' fun ds st'' => Q (d :: ds) st'' := by
  show W (bnd (frzV x) fun d => bnd (frzAll xs) fun ds => ret (d :: ds)) st Q ↔ _
  simp only [W_bnd, W_ret]
@[simp] theorem W_dTup {xs : List Val} {Q : Val → Sto → Prop} : W (dTup xs) st Q ↔ W (frzAll xs) st fun ds st' => ds.length ≤ sizeLine ∧ Q (.dat (.tuple ds)) st' := by
  unfold dTup; simp only [W_bnd, W_chk, W_ret, decide_eq_true_eq]
@[simp] theorem W_dLst {xs : List Val} {Q : Val → Sto → Prop} : W (dLst xs) st Q ↔ W (frzAll xs) st fun ds st' => ds.length ≤ sizeLine ∧ Q (.dat (.list ds)) st' := by
  unfold dLst; simp only [W_bnd, W_chk, W_ret, decide_eq_true_eq]
@[simp] theorem W_new {so : SO} {Q : Val → Sto → Prop} : W (newS so) st Q ↔ Q (.ref st.length) (st ++ [so]) := W_ok rfl
@[simp] theorem W_dLstN {xs : List Val} {Q : Val → Sto → Prop} : W (dLstN xs) st Q ↔ W (frzAll xs) st fun ds st' => ds.length ≤ sizeLine ∧ Q (.ref st'.length) (st' ++ [.lst ds]) := by
  unfold dLstN; simp only [W_bnd, W_chk, W_new, decide_eq_true_eq]
@[simp] theorem W_eSl {f : Ev → M Val} {lo hi : Ev → M (Option Int)} {Q : Val → Sto → Prop} : W (eSl f lo hi ρ) st Q ↔ W (f ρ) st fun x st' => W (lo ρ) st' fun l s2 => W (hi ρ) s2 fun h s3 => W (slD x l h) s3 Q := by
  unfold eSl; simp only [W_bnd]
@[simp] theorem W_oN {Q : Option Int → Sto → Prop} : W (oN ρ) st Q ↔ Q none st := W_ret
@[simp] theorem W_oS {f : Ev → M Val} {Q : Option Int → Sto → Prop} : W (oS f ρ) st Q ↔ W (f ρ) st fun x st' => W (asI x) st' fun i s2 => Q (some i) s2 := by
  unfold oS; simp only [W_bnd, W_ret]
@[simp] theorem W_slT {ds : List PyData} {l h : Option Int} {Q : Val → Sto → Prop} : W (slD (.dat (.tuple ds)) l h) st Q ↔ Q (.dat (.tuple (cutD ds l h))) st := W_ok rfl
@[simp] theorem W_slL {ds : List PyData} {l h : Option Int} {Q : Val → Sto → Prop} : W (slD (.dat (.list ds)) l h) st Q ↔ Q (.dat (.list (cutD ds l h))) st := W_ok rfl
@[simp] theorem W_slS {ns : List Int} {l h : Option Int} {Q : Val → Sto → Prop} : W (slD (.scr ns) l h) st Q ↔ Q (.dat (.list ((cutD ns l h).map .int))) st := W_ok rfl
@[simp] theorem W_ixT {ds : List PyData} {i : Int} {Q : Val → Sto → Prop} : W (ixD (.tuple ds) (.int i)) st Q ↔ ∃ d, L2.atI ds i = some d ∧ Q (.dat d) st := by
  exact W_opt (k := Val.dat) (fun b h => by simp [ixD, kgetD, h]) (fun h => by simp [ixD, kgetD, h])
@[simp] theorem W_ixL {ds : List PyData} {i : Int} {Q : Val → Sto → Prop} : W (ixD (.list ds) (.int i)) st Q ↔ ∃ d, L2.atI ds i = some d ∧ Q (.dat d) st := by
  exact W_opt (k := Val.dat) (fun b h => by simp [ixD, kgetD, h]) (fun h => by simp [ixD, kgetD, h])
@[simp] theorem W_eqD {d e : PyData} {Q : Val → Sto → Prop} : W (eqD d e) st Q ↔ (SeqAt.shaped d = true ∧ SeqAt.shaped e = true) ∧ Q (.dat (.bool (PyData.eqv d e))) st := by
  unfold eqD; simp only [W_chk, W_bB, Bool.and_eq_true]
@[simp] theorem W_neD {d e : PyData} {Q : Val → Sto → Prop} : W (neD d e) st Q ↔ (SeqAt.shaped d = true ∧ SeqAt.shaped e = true) ∧ Q (.dat (.bool (!PyData.eqv d e))) st := by
  unfold neD; simp only [W_chk, W_bB, Bool.and_eq_true]
@[simp] theorem W_inT {d : PyData} {ds : List PyData} {Q : Val → Sto → Prop} : W (inD d (.tuple ds)) st Q ↔ (SeqAt.shaped d = true ∧ SeqAt.shaped (.tuple ds) = true) ∧ Q (.dat (.bool (ds.any fun z => PyData.eqv z d))) st := by
  unfold inD inB
  by_cases h : (SeqAt.shaped d && SeqAt.shaped (.tuple ds)) = true
  · simp only [h, if_true]
    rw [Bool.and_eq_true] at h
    simp only [h, and_self, true_and]
    exact W_bB
  · have h' : ¬ (SeqAt.shaped d = true ∧ SeqAt.shaped (.tuple ds) = true) := by rwa [Bool.and_eq_true] at h
    simp [W, h, h']
@[simp] theorem W_inL {d : PyData} {ds : List PyData} {Q : Val → Sto → Prop} : W (inD d (.list ds)) st Q ↔ (SeqAt.shaped d = true ∧ SeqAt.shaped (.list ds) = true) ∧ Q (.dat (.bool (ds.any fun z => PyData.eqv z d))) st := by
  unfold inD inB
  by_cases h : (SeqAt.shaped d && SeqAt.shaped (.list ds)) = true
  · simp only [h, if_true]
    rw [Bool.and_eq_true] at h
    simp only [h, and_self, true_and]
    exact W_bB
  · have h' : ¬ (SeqAt.shaped d = true ∧ SeqAt.shaped (.list ds) = true) := by rwa [Bool.and_eq_true] at h
    simp [W, h, h']
@[simp] theorem W_isD {T : String} {d : PyData} {Q : Val → Sto → Prop} : W (isD T d) st Q ↔ ∃ b, kitB (tyN d) T = some b ∧ Q (.dat (.bool b)) st := by
  exact W_opt (k := fun b => Val.dat (.bool b)) (fun b h => by simp [isD, h, bB, ret]) (fun h => by simp [isD, h])
@[simp] theorem W_lenT {ds : List PyData} {Q : Val → Sto → Prop} : W (lenD (.tuple ds)) st Q ↔ Q (.dat (.int ds.length)) st := W_ret
@[simp] theorem W_lenL {ds : List PyData} {Q : Val → Sto → Prop} : W (lenD (.list ds)) st Q ↔ Q (.dat (.int ds.length)) st := W_ret
@[simp] theorem W_addI {i j : Int} {Q : Val → Sto → Prop} : W (addD (.int i) (.int j)) st Q ↔ Q (.dat (.int (i + j))) st := W_ret
@[simp] theorem W_subI {i j : Int} {Q : Val → Sto → Prop} : W (subD (.int i) (.int j)) st Q ↔ Q (.dat (.int (i - j))) st := W_ret
@[simp] theorem W_addT {xs ys : List PyData} {Q : Val → Sto → Prop} : W (addD (.tuple xs) (.tuple ys)) st Q ↔ xs.length + ys.length ≤ sizeLine ∧ Q (.dat (.tuple (xs ++ ys))) st := by
  unfold addD; simp only [W_chk, W_ret, decide_eq_true_eq]
@[simp] theorem W_addL {xs ys : List PyData} {Q : Val → Sto → Prop} : W (addD (.list xs) (.list ys)) st Q ↔ xs.length + ys.length ≤ sizeLine ∧ Q (.dat (.list (xs ++ ys))) st := by
  unfold addD; simp only [W_chk, W_ret, decide_eq_true_eq]
@[simp] theorem W_mulI {i j : Int} {Q : Val → Sto → Prop} : W (mulD (.int i) (.int j)) st Q ↔ (i64 i || i64 j) = true ∧ Q (.dat (.int (i * j))) st := by
  unfold mulD; simp only [W_chk, W_bI]
@[simp] theorem W_fdivI {i j : Int} {Q : Val → Sto → Prop} : W (fdivD (.int i) (.int j)) st Q ↔ (j ≠ 0 ∧ j.natAbs < 1073741824) ∧ Q (.dat (.int (i.fdiv j))) st := by
  unfold fdivD; simp only [W_chk, W_bI, decide_eq_true_eq]
@[simp] theorem W_modI {i j : Int} {Q : Val → Sto → Prop} : W (modD (.int i) (.int j)) st Q ↔ j ≠ 0 ∧ Q (.dat (.int (i.fmod j))) st := by
  unfold modD; simp only [W_chk, W_bI, decide_eq_true_eq]
@[simp] theorem W_powI {i j : Int} {Q : Val → Sto → Prop} : W (powD (.int i) (.int j)) st Q ↔ (0 ≤ j ∧ j ≤ 1000000 ∧ i.natAbs < 2 ^ 64) ∧ Q (.dat (.int (i ^ j.toNat))) st := by
  unfold powD; simp only [W_chk, W_bI, decide_eq_true_eq]
@[simp] theorem W_intI {i : Int} {Q : Val → Sto → Prop} : W (intD (.int i)) st Q ↔ Q (.dat (.int i)) st := W_ret
@[simp] theorem W_ltI {i j : Int} {Q : Val → Sto → Prop} : W (ltD (.int i) (.int j)) st Q ↔ Q (.dat (.bool (decide (i < j)))) st := W_ret
@[simp] theorem W_leI {i j : Int} {Q : Val → Sto → Prop} : W (leD (.int i) (.int j)) st Q ↔ Q (.dat (.bool (decide (i ≤ j)))) st := W_ret
@[simp] theorem W_gtI {i j : Int} {Q : Val → Sto → Prop} : W (gtD (.int i) (.int j)) st Q ↔ Q (.dat (.bool (decide (j < i)))) st := W_ret
@[simp] theorem W_geI {i j : Int} {Q : Val → Sto → Prop} : W (geD (.int i) (.int j)) st Q ↔ Q (.dat (.bool (decide (j ≤ i)))) st := W_ret
@[simp] theorem W_repr {d : PyData} {Q : Val → Sto → Prop} : W (reprD d) st Q ↔ (d.showable && !d.hasDict && decide (d.depth ≤ 60) && decide (d.shown.length ≤ sizeLine)) = true ∧ Q (.dat (.str d.shown)) st := by
  unfold reprD; simp only [W_chk, W_bS]
@[simp] theorem W_listT {ds : List PyData} {Q : Val → Sto → Prop} : W (listD (.tuple ds)) st Q ↔ Q (.dat (.list ds)) st := W_ret
@[simp] theorem W_listL {ds : List PyData} {Q : Val → Sto → Prop} : W (listD (.list ds)) st Q ↔ Q (.dat (.list ds)) st := W_ret
@[simp] theorem W_tupL {ds : List PyData} {Q : Val → Sto → Prop} : W (tupleD (.list ds)) st Q ↔ Q (.dat (.tuple ds)) st := W_ret
@[simp] theorem W_tupT {ds : List PyData} {Q : Val → Sto → Prop} : W (tupleD (.tuple ds)) st Q ↔ Q (.dat (.tuple ds)) st := W_ret
@[simp] theorem W_all {ds : List PyData} {Q : Val → Sto → Prop} : W (allD (.list ds)) st Q ↔ ∃ bs, bools ds = some bs ∧ Q (.dat (.bool (bs.all id))) st := by
  exact W_opt (k := fun bs : List Bool => Val.dat (.bool (bs.all id))) (fun b h => by simp [allD, h, bB, ret]) (fun h => by simp [allD, h])
@[simp] theorem W_kin {kvs : List (Str × PyData)} {z : Str} {Q : Val → Sto → Prop} : W (kinD kvs (.str z)) st Q ↔ Q (.dat (.bool (lookS kvs z).isSome)) st := W_ret
@[simp] theorem W_kget {kvs : List (Str × PyData)} {z : Str} {Q : Val → Sto → Prop} : W (kgetD kvs (.str z)) st Q ↔ ∃ d, lookS kvs z = some d ∧ Q (.dat d) st := by
  exact W_opt (k := Val.dat) (fun b h => by simp [ixD, kgetD, h]) (fun h => by simp [ixD, kgetD, h])
@[simp] theorem W_ite {p : Prop} [Decidable p] {x y : M α} {Q : α → Sto → Prop} : W (if p then x else y) st Q ↔ if p then W x st Q else W y st Q := by split <;> rfl
theorem atI_nat {xs : List α} (i : Nat) : atI xs (i : Int) = xs[i]? := by
  unfold atI ixN
  rw [if_pos (by omega)]
  by_cases h : i < xs.length
  · rw [if_pos (by omega)]; simp
  · rw [if_neg (by omega)]; simp; omega
@[simp] theorem atI_0 {xs : List α} : atI xs 0 = xs[0]? := atI_nat 0
@[simp] theorem atI_1 {xs : List α} : atI xs 1 = xs[1]? := atI_nat 1
@[simp] theorem atI_2 {xs : List α} : atI xs 2 = xs[2]? := atI_nat 2
@[simp] theorem atI_3 {xs : List α} : atI xs 3 = xs[3]? := atI_nat 3
@[simp] theorem atI_4 {xs : List α} : atI xs 4 = xs[4]? := atI_nat 4
@[simp] theorem atI_5 {xs : List α} : atI xs 5 = xs[5]? := atI_nat 5
@[simp] theorem atI_6 {xs : List α} : atI xs 6 = xs[6]? := atI_nat 6
@[simp] theorem atI_7 {xs : List α} : atI xs 7 = xs[7]? := atI_nat 7
@[simp] theorem atI_8 {xs : List α} : atI xs 8 = xs[8]? := atI_nat 8
@[simp] theorem atI_9 {xs : List α} : atI xs 9 = xs[9]? := atI_nat 9
@[simp] theorem atI_10 {xs : List α} : atI xs 10 = xs[10]? := atI_nat 10
@[simp] theorem atI_11 {xs : List α} : atI xs 11 = xs[11]? := atI_nat 11
@[simp] theorem atI_12 {xs : List α} : atI xs 12 = xs[12]? := atI_nat 12
@[simp] theorem atI_13 {xs : List α} : atI xs 13 = xs[13]? := atI_nat 13
@[simp] theorem atI_14 {xs : List α} : atI xs 14 = xs[14]? := atI_nat 14
@[simp] theorem atI_15 {xs : List α} : atI xs 15 = xs[15]? := atI_nat 15
@[simp] theorem atI_16 {xs : List α} : atI xs 16 = xs[16]? := atI_nat 16
@[simp] theorem atI_17 {xs : List α} : atI xs 17 = xs[17]? := atI_nat 17
@[simp] theorem atI_18 {xs : List α} : atI xs 18 = xs[18]? := atI_nat 18
@[simp] theorem atI_19 {xs : List α} : atI xs 19 = xs[19]? := atI_nat 19
@[simp] theorem atI_20 {xs : List α} : atI xs 20 = xs[20]? := atI_nat 20
@[simp] theorem ofS_inj {a b : String} : (Str.ofString a = Str.ofString b) ↔ a = b := by
  constructor
  · intro h
    rw [Str.ofString_eq_toList, Str.ofString_eq_toList] at h
    injection h with h
    have h2 : a.toList.map Char.toNat = b.toList.map Char.toNat := by simpa using congrArg Array.toList h
    have h3 : a.toList = b.toList := (List.map_inj_right fun x y e => Char.ext (UInt32.toNat_inj.mp e)).mp h2
    exact String.toList_inj.mp h3
  · intro h; rw [h]
theorem i64_fmod {x m : Int} (h : 0 < m ∧ m < 2 ^ 64) : i64 (x.fmod m) = true := by
  have h1 := Int.fmod_nonneg_of_pos x h.1
  have h2 := Int.fmod_lt_of_pos x h.1
  simp only [i64, decide_eq_true_eq]
  omega
theorem fm_lo {x m : Int} (h : 0 < m) : -18446744073709551616 < x.fmod m := by
  have h1 := Int.fmod_nonneg_of_pos x h
  omega
theorem fm_hi {x m : Int} (h : 0 < m) (h' : m ≤ 18446744073709551616) : x.fmod m < 18446744073709551616 := by
  have h2 := Int.fmod_lt_of_pos x h
  omega
/-! statements -/
@[simp] theorem WS_ite {p : Prop} [Decidable p] {x y : SRes} {Qn : Ev → Sto → Prop} {Qr : Val → Sto → Prop} : WS (if p then x else y) Qn Qr ↔ if p then WS x Qn Qr else WS y Qn Qr := by split <;> rfl
@[simp] theorem WS_nil {Qn : Ev → Sto → Prop} {Qr : Val → Sto → Prop} : WS (sNil ρ st) Qn Qr ↔ Qn ρ st := Iff.rfl
@[simp] theorem WS_seq {s t : SM} {Qn : Ev → Sto → Prop} {Qr : Val → Sto → Prop} : WS (sSeq2 s t ρ st) Qn Qr ↔ WS (s ρ st) (fun ρ' st' => WS (t ρ' st') Qn Qr) Qr := by
  unfold sSeq2
  cases s ρ st <;> exact Iff.rfl
@[simp] theorem WS_sB {x : M α} {k : α → Sto → SRes} {Qn : Ev → Sto → Prop} {Qr : Val → Sto → Prop} : WS (sB x k st) Qn Qr ↔ W x st fun a st' => WS (k a st') Qn Qr := by
  unfold sB W
  cases h : x st with
  | ok a s => exact ⟨fun q => ⟨a, s, rfl, q⟩, fun ⟨_, _, e, q⟩ => by cases e; exact q⟩
  | exc n fs s => exact ⟨fun q => q.elim, fun ⟨_, _, e, _⟩ => by cases e⟩
  | err => exact ⟨fun q => q.elim, fun ⟨_, _, e, _⟩ => by cases e⟩
@[simp] theorem WS_ret {f : Ev → M Val} {Qn : Ev → Sto → Prop} {Qr : Val → Sto → Prop} : WS (sRet f ρ st) Qn Qr ↔ W (f ρ) st Qr := WS_sB
@[simp] theorem WS_expr {f : Ev → M Val} {Qn : Ev → Sto → Prop} {Qr : Val → Sto → Prop} : WS (sExpr f ρ st) Qn Qr ↔ W (f ρ) st fun _ st' => Qn ρ st' := WS_sB
@[simp] theorem WS_set {i : Nat} {f : Ev → M Val} {Qn : Ev → Sto → Prop} {Qr : Val → Sto → Prop} : WS (sSet i f ρ st) Qn Qr ↔ W (f ρ) st fun x st' => Qn (ρ.set i (some x)) st' := WS_sB
@[simp] theorem WS_if {t : Ev → M Bool} {a b : SM} {Qn : Ev → Sto → Prop} {Qr : Val → Sto → Prop} : WS (sIf t a b ρ st) Qn Qr ↔ W (t ρ) st fun k st' => WS (if k then a ρ st' else b ρ st') Qn Qr := by
  unfold sIf; rw [WS_sB]
@[simp] theorem WS_par2 {i j : Nat} {fs : Ev → M (List Val)} {Qn : Ev → Sto → Prop} {Qr : Val → Sto → Prop} : WS (sPar2 i j fs ρ st) Qn Qr ↔ W (fs ρ) st fun xs st' => match xs with | [x, y] => Qn ((ρ.set i (some x)).set j (some y)) st' | _ => False := by
  unfold sPar2; rw [WS_sB]
  refine iff_of_eq (congrArg _ (funext fun xs => funext fun s => ?_))
  rcases xs with _ | ⟨x, _ | ⟨y, _ | _⟩⟩ <;> rfl
@[simp] theorem WS_par3 {i j l : Nat} {fs : Ev → M (List Val)} {Qn : Ev → Sto → Prop} {Qr : Val → Sto → Prop} : WS (sPar3 i j l fs ρ st) Qn Qr ↔ W (fs ρ) st fun xs st' => match xs with | [x, y, z] => Qn (((ρ.set i (some x)).set j (some y)).set l (some z)) st' | _ => False := by
  unfold sPar3; rw [WS_sB]
  refine iff_of_eq (congrArg _ (funext fun xs => funext fun s => ?_))
  rcases xs with _ | ⟨x, _ | ⟨y, _ | ⟨z, _ | _⟩⟩⟩ <;> rfl
@[simp] theorem WS_unp {t : Tg} {f : Ev → M Val} {Qn : Ev → Sto → Prop} {Qr : Val → Sto → Prop} : WS (sUnp t f ρ st) Qn Qr ↔ W (f ρ) st fun x st' => W (frzV x) st' fun d s2 => ∃ ρ', t d ρ = some ρ' ∧ Qn ρ' s2 := by
  unfold sUnp; rw [WS_sB]
  refine ⟨fun h => h.mono fun x s q => ?_, fun h => h.mono fun x s q => ?_⟩
  · rw [WS_sB] at q
    refine q.mono fun d s2 q => ?_
    cases e : t d ρ with
    | none => rw [e] at q; exact q.elim
    | some ρ' => rw [e] at q; exact ⟨ρ', rfl, q⟩
  · rw [WS_sB]
    refine q.mono fun d s2 ⟨ρ', e, q⟩ => ?_
    rw [e]
    exact q
@[simp] theorem WS_for {src : Ev → M (List PyData)} {t : Tg} {body : SM} {Qn : Ev → Sto → Prop} {Qr : Val → Sto → Prop} : WS (sFor src t body ρ st) Qn Qr ↔ W (src ρ) st fun its st' => WS (forGo t body its ρ st') Qn Qr := by
  unfold sFor; rw [WS_sB]
@[simp] theorem WS_for_nil {t : Tg} {body : SM} {Qn : Ev → Sto → Prop} {Qr : Val → Sto → Prop} : WS (forGo t body [] ρ st) Qn Qr ↔ Qn ρ st := Iff.rfl
/-- a turn that ends as its body ends, without break or continue -/
theorem WS_for_cons {t : Tg} {body : SM} {d : PyData} {r : List PyData} {Qn : Ev → Sto → Prop} {Qr : Val → Sto → Prop} {ρ1 : Ev} (e : t d ρ = some ρ1) (h : WS (body ρ1 st) (fun ρ2 st2 => WS (forGo t body r ρ2 st2) Qn Qr) Qr) : WS (forGo t body (d :: r) ρ st) Qn Qr := by
  unfold forGo
  rw [e]
  dsimp only
  cases q : body ρ1 st with
  | nx ρ2 st2 => rw [q] at h; exact h
  | rt v st2 => rw [q] at h; exact h
  | _ => rw [q] at h; exact h.elim
/-- a loop by an invariant over what is taken -/
theorem for_inv {t : Tg} {body : SM} {Qn : Ev → Sto → Prop} {Qr : Val → Sto → Prop} (I : Nat → Ev → Sto → Prop) : ∀ (its : List PyData) (k : Nat) (ρ : Ev) (st : Sto), I k ρ st →
    (∀ i d ρ st, its[i]? = some d → I (k + i) ρ st → ∃ ρ1, t d ρ = some ρ1 ∧ WS (body ρ1 st) (fun ρ2 st2 => I (k + i + 1) ρ2 st2) Qr) → (∀ ρ st, I (k + its.length) ρ st → Qn ρ st) → WS (forGo t body its ρ st) Qn Qr
  | [], k, ρ, st, h0, _, hd => hd ρ st (by simpa using h0)
  | d :: r, k, ρ, st, h0, hs, hd => by
    obtain ⟨ρ1, e, h⟩ := hs 0 d ρ st rfl (by simpa using h0)
    refine WS_for_cons e (h.mono (fun ρ2 st2 q => ?_) fun _ _ q => q)
    refine for_inv I r (k + 1) ρ2 st2 (by simpa using q) (fun i d' ρ' st' e' q' => ?_) (fun ρ' st' q' => hd ρ' st' (by rw [List.length_cons]; rw [show k + (r.length + 1) = k + 1 + r.length by omega]; exact q'))
    have := hs (i + 1) d' ρ' st' (by simpa using e') (by rw [show k + (i + 1) = k + 1 + i by omega]; exact q')
    rw [show k + 1 + i + 1 = k + (i + 1) + 1 by omega]
    exact this
@[simp] theorem W_rng1 {fs : Ev → M (List Val)} {Q : List PyData → Sto → Prop} : W (sRng1 fs ρ) st Q ↔ W (fs ρ) st fun xs st' => ∃ j : Int, xs = [.dat (.int j)] ∧ (-(2 ^ 62) ≤ j ∧ j < 2 ^ 62) ∧ Q ((List.range j.toNat).map fun (i : Nat) => .int (0 + (i : Int))) st' := by
  unfold sRng1; rw [W_bnd]
  refine ⟨fun h => h.mono fun xs s ⟨a, s', e, q⟩ => ?_, fun h => h.mono fun xs s ⟨j, e, hb, q⟩ => ?_⟩
  · dsimp only at e
    split at e
    · split at e
      · cases e; exact ⟨_, rfl, ‹_›, q⟩
      · cases e
    · cases e
  · subst e
    exact ⟨_, _, by dsimp only; rw [if_pos hb], q⟩
@[simp] theorem W_sSeq {f : Ev → M Val} {Q : List PyData → Sto → Prop} : W (sSeq f ρ) st Q ↔ W (f ρ) st fun x st' => W (frzV x) st' fun d s2 => W (items d) s2 Q := by
  unfold sSeq; simp only [W_bnd]
@[simp] theorem W_itL {ds : List PyData} {Q : List PyData → Sto → Prop} : W (items (.list ds)) st Q ↔ Q ds st := W_ret
@[simp] theorem W_itT {ds : List PyData} {Q : List PyData → Sto → Prop} : W (items (.tuple ds)) st Q ↔ Q ds st := W_ret
@[simp] theorem W_itS {x : Str} {Q : List PyData → Sto → Prop} : W (items (.str x)) st Q ↔ Q (signs x) st := W_ret
@[simp] theorem W_eLc {src : Ev → M (List PyData)} {vs : List Nat} {t : Tg} {cond : Ev → M Bool} {elt : Ev → M Val} {Q : Val → Sto → Prop} : W (eLc src vs t cond elt ρ) st Q ↔ W (src ρ) st fun its st' => its.length ≤ sizeLine ∧ W (compGo ρ vs t cond elt its) st' fun l s2 => Q (.dat (.list l)) s2 := by
  unfold eLc; rw [W_bnd]
  simp only [W_chk, W_bnd, W_ret, decide_eq_true_eq]
  have key : ∀ its s (R : List PyData → Sto → Prop), W (noX (compGo ρ vs t cond elt its)) s R ↔ W (compGo ρ vs t cond elt its) s R := fun its s R => by
    unfold W noX
    cases compGo ρ vs t cond elt its s <;> simp
  simp only [key]
@[simp] theorem W_cgNil {vs : List Nat} {t : Tg} {cond : Ev → M Bool} {elt : Ev → M Val} {Q : List PyData → Sto → Prop} : W (compGo ρ vs t cond elt []) st Q ↔ Q [] st := W_ret
@[simp] theorem W_cgCons {vs : List Nat} {t : Tg} {cond : Ev → M Bool} {elt : Ev → M Val} {d : PyData} {r : List PyData} {Q : List PyData → Sto → Prop} : W (compGo ρ vs t cond elt (d :: r)) st Q ↔ ∃ ρ1, t d (wipeE ρ vs) = some ρ1 ∧ W (cond ρ1) st fun b s1 =>
    if b = true then W (elt ρ1) s1 fun x s2 => W (frzV x) s2 fun e s3 => W (compGo ρ vs t cond elt r) s3 fun l s4 => Q (e :: l) s4 else W (compGo ρ vs t cond elt r) s1 Q := by
  show W (bnd _ _) st Q ↔ _
  rw [W_bnd]
  cases e : t d (wipeE ρ vs) with
  | none =>
    constructor
    · rintro ⟨a, s, h, _⟩
      unfold turnD at h
      rw [e] at h
      cases h
    · rintro ⟨_, h, _⟩
      cases h
  | some ρ1 =>
    have h : turnD ρ vs t cond elt d = bnd (cond ρ1) fun b => if b then bnd (elt ρ1) fun x => bnd (frzV x) fun e => ret (some e) else ret none := by
      funext s
      unfold turnD
      rw [e]
    rw [h]
    simp only [W_bnd, W_ret, Option.some.injEq, exists_eq_left']
    constructor
    · refine fun h => h.mono fun b s q => ?_
      cases b with
      | true => rw [if_pos rfl] at q ⊢; simpa only [W_bnd, W_ret] using q
      | false => rw [if_neg (by simp)] at q ⊢; simpa only [W_ret] using q
    · refine fun h => h.mono fun b s q => ?_
      cases b with
      | true => rw [if_pos rfl] at q ⊢; simpa only [W_bnd, W_ret] using q
      | false => rw [if_neg (by simp)] at q ⊢; simpa only [W_ret] using q
/-! a dict at the store's head -/
@[simp] theorem W_dget0 {kvs : List (Key × PyData)} {r : Sto} {x : Str} {Q : Val → Sto → Prop} : W (dgetV (.ref 0) (.dat (.str x))) (.dct kvs :: r) Q ↔ ∃ d, valD kvs (.inr x) = some d ∧ Q (.dat d) (.dct kvs :: r) := by
  refine W_opt (k := Val.dat) (fun b h => ?_) (fun h => ?_) <;> simp [dgetV, dctV, vw, keyD, h]
@[simp] theorem WS_dput {fo fi fv : Ev → M Val} {Qn : Ev → Sto → Prop} {Qr : Val → Sto → Prop} : WS (sDput fo fi fv ρ st) Qn Qr ↔ W (fv ρ) st fun z s1 => W (frzV z) s1 fun d s2 => W (fo ρ) s2 fun x s3 => W (fi ρ) s3 fun y s4 => WS (dputV x y d ρ s4) Qn Qr := by
  unfold sDput
  simp only [WS_sB]
@[simp] theorem WS_dput0 {x : Str} {d : PyData} {r : Sto} {kvs : List (Key × PyData)} {Qn : Ev → Sto → Prop} {Qr : Val → Sto → Prop} : WS (dputV (.ref 0) (.dat (.str x)) d ρ (.dct kvs :: r)) Qn Qr ↔ kvs.length < sizeLine ∧ Qn ρ (.dct (putD kvs (.inr x) d) :: r) := by
  by_cases h : kvs.length < sizeLine <;> simp [dputV, dctV, vw, keyD, WS, h]
/-! the feed of a law -/
def feedD (cells : List Int) (turn rest drawn : Int) : List (Key × PyData) := [(.inr "cells", .list (cells.map .int)), (.inr "turn", .int turn), (.inr "rest", .int rest), (.inr "drawn", .int drawn)]
variable {cells : List Int} {turn rest drawn : Int}
@[simp] theorem feed_cells : valD (feedD cells turn rest drawn) (.inr "cells") = some (.list (cells.map .int)) := rfl
@[simp] theorem feed_turn : valD (feedD cells turn rest drawn) (.inr "turn") = some (.int turn) := rfl
@[simp] theorem feed_rest : valD (feedD cells turn rest drawn) (.inr "rest") = some (.int rest) := rfl
@[simp] theorem feed_drawn : valD (feedD cells turn rest drawn) (.inr "drawn") = some (.int drawn) := rfl
@[simp] theorem feed_len : (feedD cells turn rest drawn).length = 4 := rfl
@[simp] theorem feed_pturn {i : Int} : putD (feedD cells turn rest drawn) (.inr "turn") (.int i) = feedD cells i rest drawn := rfl
@[simp] theorem feed_prest {i : Int} : putD (feedD cells turn rest drawn) (.inr "rest") (.int i) = feedD cells turn i drawn := rfl
@[simp] theorem feed_pdrawn {i : Int} : putD (feedD cells turn rest drawn) (.inr "drawn") (.int i) = feedD cells turn rest i := rfl
def FeedO (o : SO) : Prop := ∃ (cells : List Int) (turn rest drawn : Int), o = .dct (feedD cells turn rest drawn) ∧ 0 ≤ turn
theorem feedO_mk (h : 0 ≤ turn) : FeedO (.dct (feedD cells turn rest drawn)) := ⟨_, _, _, _, rfl, h⟩
theorem feed_cell {c0 : Int} (h : 0 ≤ turn) : ∃ c : Int, atI ((c0 :: cells).map PyData.int) (turn.fmod (((c0 :: cells).length : Nat) : Int)) = some (.int c) := by
  have h1 := Int.fmod_nonneg_of_pos turn (b := (((c0 :: cells).length : Nat) : Int)) (by simp)
  have h2 := Int.fmod_lt_of_pos turn (b := (((c0 :: cells).length : Nat) : Int)) (by simp)
  obtain ⟨k, hk⟩ := Int.eq_ofNat_of_zero_le h1
  rw [hk] at h2 ⊢
  rw [atI_nat, List.getElem?_map]
  have h3 : k < (c0 :: cells).length := by omega
  exact ⟨(c0 :: cells)[k], by rw [List.getElem?_eq_getElem h3]; rfl⟩
/-! a def -/
@[simp] theorem W_runF {N : Nat} {body : SM} {xs : List Val} {Q : Val → Sto → Prop} : W (runF N body xs) st Q ↔ WS (body (xs.map some ++ List.replicate (N - xs.length) none) st) (fun _ st' => W (fun s => gcV st.length (.dat .none) s) st' Q) (fun v st' => W (fun s => gcV st.length v s) st' Q) := by
  cases h : body (xs.map some ++ List.replicate (N - xs.length) none) st <;> simp only [W, runF, h, WS]
  all_goals exact ⟨fun ⟨_, _, e, _⟩ => (nomatch e), fun h => h.elim⟩
@[simp] theorem W_gcD {n : Nat} {d : PyData} {Q : Val → Sto → Prop} : W (fun s => gcV n (.dat d) s) st Q ↔ Q (.dat d) (st.take n) := W_ok rfl
theorem cg_pure {vs : List Nat} {t : Tg} {cond : Ev → M Bool} {elt : Ev → M Val} {c : PyData → Bool} {g : PyData → PyData} : ∀ (ds : List PyData) {st : Sto} {Q : List PyData → Sto → Prop}, (∀ d ∈ ds, ∃ ρ1, t d (wipeE ρ vs) = some ρ1 ∧ (∀ st Q, W (cond ρ1) st Q ↔ Q (c d) st) ∧ (c d = true → ∀ st Q, W (elt ρ1) st Q ↔ Q (.dat (g d)) st)) → (W (compGo ρ vs t cond elt ds) st Q ↔ Q ((ds.filter c).map g) st)
  | [], st, Q, _ => W_cgNil
  | d :: r, st, Q, h => by
    obtain ⟨ρ1, e, h1, h2⟩ := h d (by simp)
    have ih := fun {st : Sto} {Q : List PyData → Sto → Prop} => cg_pure r (st := st) (Q := Q) fun d' q => h d' (by simp [q])
    rw [W_cgCons]
    simp only [e, Option.some.injEq, exists_eq_left', h1]
    cases hc : c d with
    | true => simp [h2 hc, ih, hc]
    | false => simp [ih, hc]
theorem cg_inv {vs : List Nat} {t : Tg} {elt : Ev → M Val} (I : Sto → Prop) (P : PyData → Prop) : ∀ (ds : List PyData) {st : Sto}, (∀ d ∈ ds, ∀ st, I st → ∃ ρ1, t d (wipeE ρ vs) = some ρ1 ∧ W (elt ρ1) st fun x s2 => W (frzV x) s2 fun e s3 => P e ∧ I s3) → I st → W (compGo ρ vs t tTrue elt ds) st fun l s => l.length = ds.length ∧ (∀ e ∈ l, P e) ∧ I s
  | [], st, _, i => by simp [i]
  | d :: r, st, h, i => by
    obtain ⟨ρ1, e, h1⟩ := h d (by simp) st i
    rw [W_cgCons]
    refine ⟨ρ1, e, ?_⟩
    simp only [W_tTrue, if_true]
    refine h1.mono fun x s2 h2 => h2.mono fun e s3 ⟨p, i3⟩ => (cg_inv I P r (fun d' q => h d' (by simp [q])) i3).mono fun l s ⟨q1, q2, q3⟩ => ⟨by simp [q1], fun e' he => ?_, q3⟩
    rcases List.mem_cons.mp he with rfl | he
    · exact p
    · exact q2 e' he
/-! small data -/
def Sm (d : PyData) : Prop := d.canLay0 = true ∧ d.depth ≤ 10
def SmA (ds : List PyData) : Prop := ∀ d ∈ ds, Sm d
theorem SmA.nil : SmA [] := fun _ h => by cases h
theorem SmA.cons {d : PyData} {ds : List PyData} (h : Sm d) (r : SmA ds) : SmA (d :: ds) := fun e he => by
  cases he with
  | head => exact h
  | tail _ q => exact r e q
theorem SmA.app {ds es : List PyData} (h : SmA ds) (r : SmA es) : SmA (ds ++ es) := fun e he => by
  rcases List.mem_append.mp he with q | q
  · exact h e q
  · exact r e q
theorem SmA.lay {ds : List PyData} (h : SmA ds) : PyData.canLayAll0 ds = true := by
  induction ds with
  | nil => rfl
  | cons d r ih => simp [PyData.canLayAll0, (h d (by simp)).1, ih fun e he => h e (by simp [he])]
theorem SmA.dep {ds : List PyData} (h : SmA ds) : PyData.depthAll ds ≤ 10 := by
  induction ds with
  | nil => simp [PyData.depthAll]
  | cons d r ih => have := ih fun e he => h e (by simp [he]); have := (h d (by simp)).2; simp [PyData.depthAll]; omega
theorem Sm.shp {d : PyData} (h : Sm d) : SeqAt.shaped d = true := by
  obtain ⟨h1, h2⟩ := h
  simp [SeqAt.shaped, h1]
  omega
theorem SmA.shT {ds : List PyData} (h : SmA ds) : SeqAt.shaped (.tuple ds) = true := by
  have := h.dep
  simp [SeqAt.shaped, PyData.canLay0, PyData.depth, h.lay]
  omega
theorem SmA.shL {ds : List PyData} (h : SmA ds) : SeqAt.shaped (.list ds) = true := by
  have := h.dep
  simp [SeqAt.shaped, PyData.canLay0, PyData.depth, h.lay]
  omega
end PL

set_option Elab.async false
set_option linter.all false
set_option maxRecDepth 100000
/-! ### more rules for reading dens forward -/
namespace PL
open PySem PySem.Spec L2
open PyProof.Rows hiding St
variable {α β : Type} {st : Sto} {ρ : Ev}
theorem lstV_ref {k : Nat} : lstV (.ref k) st = (match st[k]? with | some (.lst ds) => some (k, ds) | _ => none) := rfl
@[simp] theorem W_chkL {k : Nat} {Q : Unit → Sto → Prop} : W (chkL (.ref k)) st Q ↔ ∃ ds, st[k]? = some (.lst ds) ∧ Q () st := by
  unfold W chkL
  rw [lstV_ref]
  cases h : st[k]? with
  | none => simp
  | some o => cases o <;> simp [and_assoc]
              exact ⟨fun ⟨(), q⟩ => q, fun q => ⟨(), q⟩⟩
@[simp] theorem W_extV {k : Nat} {es : List PyData} {Q : Val → Sto → Prop} : W (extV (.ref k) (.list es)) st Q ↔ ∃ ds, st[k]? = some (.lst ds) ∧ ds.length + es.length ≤ sizeLine ∧ Q (.dat .none) (st.set k (.lst (ds ++ es))) := by
  unfold W extV
  rw [lstV_ref]
  cases h : st[k]? with
  | none => simp
  | some o =>
    cases o with
    | lst ds => by_cases q : ds.length + es.length ≤ sizeLine <;> simp [q, and_assoc]
    | _ => simp
@[simp] theorem W_appV {k : Nat} {d : PyData} {Q : Val → Sto → Prop} : W (appV (.ref k) d) st Q ↔ ∃ ds, st[k]? = some (.lst ds) ∧ ds.length < sizeLine ∧ Q (.dat .none) (st.set k (.lst (ds ++ [d]))) := by
  unfold W appV
  rw [lstV_ref]
  cases h : st[k]? with
  | none => simp
  | some o =>
    cases o with
    | lst ds => by_cases q : ds.length < sizeLine <;> simp [q, and_assoc]
    | _ => simp
@[simp] theorem W_eExt {f g : Ev → M Val} {Q : Val → Sto → Prop} : W (eExt f g ρ) st Q ↔ W (f ρ) st fun x s1 => W (chkL x) s1 fun _ s2 => W (g ρ) s2 fun y s3 => W (frzV y) s3 fun d s4 => W (extV x d) s4 Q := by
  unfold eExt; simp only [W_bnd]
@[simp] theorem W_eApp {f g : Ev → M Val} {Q : Val → Sto → Prop} : W (eApp f g ρ) st Q ↔ W (f ρ) st fun x s1 => W (chkL x) s1 fun _ s2 => W (g ρ) s2 fun y s3 => W (frzV y) s3 fun d s4 => W (appV x d) s4 Q := by
  unfold eApp; simp only [W_bnd]
@[simp] theorem W_optK {o : Option α} {Q : α → Sto → Prop} : W (opt o) st Q ↔ ∃ a, o = some a ∧ Q a st := by
  cases o <;> simp [W, opt, and_assoc]
@[simp] theorem W_prNil {Q : List (Key × PyData) → Sto → Prop} : W (ePairs [] ρ) st Q ↔ Q [] st := W_ret
@[simp] theorem W_prCons {k v : Ev → M Val} {r : List ((Ev → M Val) × (Ev → M Val))} {Q : List (Key × PyData) → Sto → Prop} : W (ePairs ((k, v) :: r) ρ) st Q ↔ W (k ρ) st fun x s1 => W (v ρ) s1 fun y s2 => W (frzV x) s2 fun d s3 => W (opt (keyD d)) s3 fun key s4 => W (frzV y) s4 fun e s5 => W (ePairs r ρ) s5 fun l s6 => Q ((key, e) :: l) s6 := by
  show W (bnd _ _) st Q ↔ _
  simp only [W_bnd, W_ret]
@[simp] theorem W_eDisp {prs : List ((Ev → M Val) × (Ev → M Val))} {Q : Val → Sto → Prop} : W (eDisp prs ρ) st Q ↔ W (ePairs prs ρ) st fun kvs s => kvs.length ≤ 15 ∧ Q (.ref s.length) (s ++ [.dct (mergeD kvs)]) := by
  unfold eDisp; simp only [W_bnd, W_chk, W_new, decide_eq_true_eq]
@[simp] theorem W_eCallK {n nk : Nat} {o : List Nat} {g : List Val → M Val} {fs : Ev → M (List Val)} {Q : Val → Sto → Prop} : W (eCallK n nk o g fs ρ) st Q ↔ W (fs ρ) st fun xs st' => (xs.length = nk ∧ (o.filterMap fun i => xs[i]?).length = n) ∧ W (g (o.filterMap fun i => xs[i]?)) st' Q := by
  unfold eCallK; rw [W_bnd]; simp only [W_chk, Bool.and_eq_true, decide_eq_true_eq]
@[simp] theorem W_isB {b b' : Bool} {Q : Val → Sto → Prop} : W (isBD (.bool b) (.bool b')) st Q ↔ Q (.dat (.bool (decide (b = b')))) st := W_ret
@[simp] theorem W_gcDct {n : Nat} {kvs : List (Key × PyData)} {Q : Val → Sto → Prop} (h : st.length = n) : W (fun s => gcV n (.ref n) s) (st ++ [.dct kvs]) Q ↔ Q (.ref n) (st ++ [.dct kvs]) := by
  subst h
  exact W_ok (by simp [gcV])
@[simp] theorem W_frzR {k : Nat} {Q : PyData → Sto → Prop} : W (frzV (.ref k)) st Q ↔ (∃ ds, st[k]? = some (.lst ds) ∧ Q (.list ds) (st.set k (.frz (.list ds)))) ∨ ∃ d, st[k]? = some (.frz d) ∧ Q d st := by
  unfold W frzV
  cases h : st[k]? with
  | none => simp [h]
  | some o => cases o <;> simp [h, and_assoc]
theorem cut_len {xs : List α} {lo hi : Option Int} : (cutD xs lo hi).length ≤ xs.length := by unfold cutD; simp; omega
theorem cut_mem {xs : List α} {lo hi : Option Int} {x : α} (h : x ∈ cutD xs lo hi) : x ∈ xs := List.mem_of_mem_drop (List.mem_of_mem_take h)
theorem SmA.cut {ds : List PyData} {lo hi : Option Int} (h : SmA ds) : SmA (cutD ds lo hi) := fun d hd => h d (cut_mem hd)
theorem smA_all {ds : List PyData} (h : (ds.all fun d => d.canLay0 && decide (d.depth ≤ 10)) = true) : SmA ds := fun d hd => by
  have := List.all_eq_true.mp h d hd
  simpa [Sm] using this
end PL

set_option Elab.async false
set_option linter.all false
set_option maxRecDepth 100000
namespace PLaw
open PySem PySem.Spec L2 PL
open PyProof.Rows hiding St
def top (i : Nat) : Stmt := PySem.Challenge.pw_pagelives_k31_stands_by_form.main.body.getD i (.Pass ⟨0, 0, 0, 0⟩)
def c_FIRST_STAND : PyData := (.tuple [(.str "runs"), (.str "free"), (.str "free"), (.bool true), (.bool false), (.bool false), (.bool false), (.str "none"), (.bool false), (.str "under"), (.str "under")])
def c_HELD_WORDS : PyData := (.tuple [(.str "none"), (.str "sure"), (.str "loose")])
def c_PUT_WORDS : PyData := (.tuple [(.str "none"), (.str "left"), (.str "done")])
def c_LIES_TO : List (Str × PyData) := [("free", (.tuple [(.str "under")])), ("kept", (.tuple [(.str "under"), (.str "due"), (.str "over")])), ("plain", (.tuple [(.str "under"), (.str "own"), (.str "over")]))]
/-- what the top has left -/
structure Tx (K : PySem.W.Frag) (mg : Str → Option Value) (w : World) : Prop where
  f_all : mg "all" = none
  f_bool : mg "bool" = none
  f_int : mg "int" = none
  f_isinstance : mg "isinstance" = none
  f_len : mg "len" = none
  f_list : mg "list" = none
  f_range : mg "range" = none
  f_repr : mg "repr" = none
  f_str : mg "str" = none
  f_tuple : mg "tuple" = none
  g_FIRST_STAND : ∃ u y, mg "FIRST_STAND" = some u ∧ RelV y u ∧ ∀ F, Rp K F y c_FIRST_STAND
  g_HELD_WORDS : ∃ u y, mg "HELD_WORDS" = some u ∧ RelV y u ∧ ∀ F, Rp K F y c_HELD_WORDS
  g_PUT_WORDS : ∃ u y, mg "PUT_WORDS" = some u ∧ RelV y u ∧ ∀ F, Rp K F y c_PUT_WORDS
  g_LIES_TO : GDict K w mg "LIES_TO" c_LIES_TO
  mp_is_word_of : mg "is_word_of" = some (.ref (He.ga K "is_word_of"))
  dp_is_word_of : ∃ fd, FunD K "is_word_of" "is_word_of" (defArgs (top 5)) (defBody (top 5)) (defScope (top 5)) [] [] (He.ga K "is_word_of") fd
  mp_lies_fits : mg "lies_fits" = some (.ref (He.ga K "lies_fits"))
  dp_lies_fits : ∃ fd, FunD K "lies_fits" "lies_fits" (defArgs (top 6)) (defBody (top 6)) (defScope (top 6)) [] [] (He.ga K "lies_fits") fd
  mp_is_running_stand : mg "is_running_stand" = some (.ref (He.ga K "is_running_stand"))
  dp_is_running_stand : ∃ fd, FunD K "is_running_stand" "is_running_stand" (defArgs (top 7)) (defBody (top 7)) (defScope (top 7)) [] [] (He.ga K "is_running_stand") fd
  mp_is_going_stand : mg "is_going_stand" = some (.ref (He.ga K "is_going_stand"))
  dp_is_going_stand : ∃ fd, FunD K "is_going_stand" "is_going_stand" (defArgs (top 8)) (defBody (top 8)) (defScope (top 8)) [] [] (He.ga K "is_going_stand") fd
  mp_is_stand : mg "is_stand" = some (.ref (He.ga K "is_stand"))
  dp_is_stand : ∃ fd, FunD K "is_stand" "is_stand" (defArgs (top 9)) (defBody (top 9)) (defScope (top 9)) [] [] (He.ga K "is_stand") fd
  mf_law_feed : mg "_law_feed" = some (.ref (He.ga K "_law_feed"))
  df_law_feed : ∃ fd, FunD K "_law_feed" "_law_feed" (defArgs (top 11)) (defBody (top 11)) (defScope (top 11)) [] [] (He.ga K "_law_feed") fd
  mf_law_draw : mg "_law_draw" = some (.ref (He.ga K "_law_draw"))
  df_law_draw : ∃ fd, FunD K "_law_draw" "_law_draw" (defArgs (top 12)) (defBody (top 12)) (defScope (top 12)) [] [] (He.ga K "_law_draw") fd
  mf_law_pick : mg "_law_pick" = some (.ref (He.ga K "_law_pick"))
  df_law_pick : ∃ fd, FunD K "_law_pick" "_law_pick" (defArgs (top 13)) (defBody (top 13)) (defScope (top 13)) [] [] (He.ga K "_law_pick") fd
  mf_law_lies : mg "_law_lies" = some (.ref (He.ga K "_law_lies"))
  df_law_lies : ∃ fd, FunD K "_law_lies" "_law_lies" (defArgs (top 14)) (defBody (top 14)) (defScope (top 14)) [] [] (He.ga K "_law_lies") fd
  mf_law_any_stand : mg "_law_any_stand" = some (.ref (He.ga K "_law_any_stand"))
  df_law_any_stand : ∃ fd, FunD K "_law_any_stand" "_law_any_stand" (defArgs (top 15)) (defBody (top 15)) (defScope (top 15)) [] [] (He.ga K "_law_any_stand") fd
  mf_law_is_word : mg "_law_is_word" = some (.ref (He.ga K "_law_is_word"))
  df_law_is_word : ∃ fd, FunD K "_law_is_word" "_law_is_word" (defArgs (top 16)) (defBody (top 16)) (defScope (top 16)) [] [] (He.ga K "_law_is_word") fd
  mf_law_fits : mg "_law_fits" = some (.ref (He.ga K "_law_fits"))
  df_law_fits : ∃ fd, FunD K "_law_fits" "_law_fits" (defArgs (top 17)) (defBody (top 17)) (defScope (top 17)) [] [] (He.ga K "_law_fits") fd
  mf_law_is_stand : mg "_law_is_stand" = some (.ref (He.ga K "_law_is_stand"))
  df_law_is_stand : ∃ fd, FunD K "_law_is_stand" "_law_is_stand" (defArgs (top 18)) (defBody (top 18)) (defScope (top 18)) [] [] (He.ga K "_law_is_stand") fd
  mf_law_bent : mg "_law_bent" = some (.ref (He.ga K "_law_bent"))
  df_law_bent : ∃ fd, FunD K "_law_bent" "_law_bent" (defArgs (top 19)) (defBody (top 19)) (defScope (top 19)) [] [] (He.ga K "_law_bent") fd
  mp_law : mg "law" = some (.ref (He.ga K "law"))
  dp_law : ∃ fd, FunD K "law" "law" (defArgs (top 20)) (defBody (top 20)) (defScope (top 20)) [] [] (He.ga K "law") fd
variable {P : Program} {w : World} {K : PySem.W.Frag} {cn : Str → Option Addr} {mg : Str → Option Value} {base : Heap}
/-! ### is_word_of -/
abbrev tp_is_word_of : Stmt := top 5
def bp_is_word_of : SM := (sRet (eAnd (e1 (on1 (isD "str")) (eV 0)) (e2 (on2 inD) (eV 0) (eV 1))))
def sp_is_word_of : List Val → M Val := runF 2 bp_is_word_of
theorem scp_is_word_of : FnScope ["thing", "words"] ["thing", "words"] (defScope tp_is_word_of) := ⟨rfl, rfl, rfl, by decide +kernel, rfl, by decide +kernel, by decide +kernel⟩
set_option maxHeartbeats 4000000 in
theorem okp_is_word_of (T : Tx K mg w) : OkD P w K cn mg base CX0 1 "is_word_of" ["thing", "words"] sp_is_word_of := by
  obtain ⟨fd, F⟩ := T.dp_is_word_of
  exact okD T.mp_is_word_of F scp_is_word_of (F.bindsN (ps := ["thing", "words"]) fun _ _ _ _ _ _ us hl => match us, hl with | [_, _], _ => rfl) (fun cdv A outer sh H E hr hg => PSs.nox (ss_one (s_ret (d_and (d_isi "str" T.f_isinstance T.f_str PyProof.Rows.boot_str (d_var 0)) (d_one (d_cmp (o_in (u65 hr)) (d_var 0) (d_var 1)))))))
/-! ### lies_fits -/
abbrev tp_lies_fits : Stmt := top 6
def bp_lies_fits : SM := (sRet (eAnd (e1 (on1 (isD "str")) (eV 0)) (eAnd (e1 (on1 (kinD c_LIES_TO)) (eV 0)) (eCall 2 sp_is_word_of (aCons (eV 1) (aCons (e1 (on1 (kgetD c_LIES_TO)) (eV 0)) aNil))))))
def sp_lies_fits : List Val → M Val := runF 2 bp_lies_fits
theorem scp_lies_fits : FnScope ["life", "lies"] ["life", "lies"] (defScope tp_lies_fits) := ⟨rfl, rfl, rfl, by decide +kernel, rfl, by decide +kernel, by decide +kernel⟩
set_option maxHeartbeats 4000000 in
theorem okp_lies_fits (T : Tx K mg w) : OkD P w K cn mg base CX0 2 "lies_fits" ["life", "lies"] sp_lies_fits := by
  obtain ⟨fd, F⟩ := T.dp_lies_fits
  exact okD T.mp_lies_fits F scp_lies_fits (F.bindsN (ps := ["life", "lies"]) fun _ _ _ _ _ _ us hl => match us, hl with | [_, _], _ => rfl) (fun cdv A outer sh H E hr hg => PSs.nox (ss_one (s_ret (d_and (d_isi "str" T.f_isinstance T.f_str PyProof.Rows.boot_str (d_var 0)) (d_and (d_kin T.g_LIES_TO (d_var 0)) (d_one (d_call (okp_is_word_of T) (hr.mono (by decide)) hg pas0 (a_cons (d_var 1) (a_cons (d_kget T.g_LIES_TO (d_var 0)) (a_nil))))))))))
/-! ### is_running_stand -/
abbrev tp_is_running_stand : Stmt := top 7
def bp_is_running_stand : SM := (sSeq2 (sIf (eB (e2 (on2 neD) (eA (on1L lenD) (aCons (eV 0) aNil)) (eA (on1L lenD) (aCons (eC c_FIRST_STAND) aNil)))) (sRet (eC (.bool false))) sNil) (sSeq2 (sUnp (gT 11 (gsCons (gN 1) (gsCons (gN 2) (gsCons (gN 3) (gsCons (gN 4) (gsCons (gN 5) (gsCons (gN 6) (gsCons (gN 7) (gsCons (gN 8) (gsCons (gN 9) (gsCons (gN 10) (gsCons (gN 11) gsNil)))))))))))) (eV 0)) (sSeq2 (sIf (tO (tN (eT (eCall 2 sp_lies_fits (aCons (eV 2) (aCons (eV 10) aNil))))) (tN (eT (eCall 2 sp_lies_fits (aCons (eV 3) (aCons (eV 11) aNil)))))) (sRet (eC (.bool false))) sNil) (sSeq2 (sIf (tN (eT (eA (on1L allD) (aCons (eLc (sSeq (eA dTup (aCons (eV 4) (aCons (eV 5) (aCons (eV 6) (aCons (eV 7) (aCons (eV 9) aNil))))))) [12] (gN 12) tTrue (e1 (on1 (isD "bool")) (eV 12))) aNil)))) (sRet (eC (.bool false))) sNil) (sRet (eAnd (eCall 2 sp_is_word_of (aCons (eV 8) (aCons (eC c_HELD_WORDS) aNil))) (eOr (e2 (on2 neD) (eV 3) (eC (.str "free"))) (e2 (on2 eqD) (eV 8) (eC (.str "none"))))))))))
def sp_is_running_stand : List Val → M Val := runF 13 bp_is_running_stand
theorem scp_is_running_stand : FnScope ["thing", "word", "firm", "now", "same", "put", "later", "late", "held", "is_open", "lies", "lies_now", "one"] ["thing"] (defScope tp_is_running_stand) := ⟨rfl, rfl, rfl, by decide +kernel, rfl, by decide +kernel, by decide +kernel⟩
set_option maxHeartbeats 4000000 in
theorem okp_is_running_stand (T : Tx K mg w) : OkD P w K cn mg base CX0 3 "is_running_stand" ["thing"] sp_is_running_stand := by
  obtain ⟨fd, F⟩ := T.dp_is_running_stand
  exact okD T.mp_is_running_stand F scp_is_running_stand (F.bindsN (ps := ["thing"]) fun _ _ _ _ _ _ us hl => match us, hl with | [_], _ => rfl) (fun cdv A outer sh H E hr hg => PSs.nox (ss_cons (s_if (t_cmp (o_ne hr.units) (d_callB c_len T.f_len PySem.boot_len (a_cons (d_var 0) (a_nil))) (d_callB c_len T.f_len PySem.boot_len (a_cons (d_glob T.g_FIRST_STAND) (a_nil)))) (ss_one (s_ret (d_bl))) (ss_nil)) (ss_cons (s_unp (ps := [1, 2, 3, 4, 5, 6, 7, 8, 9, 10, 11]) (d_var 0) (g_tup rfl (gs_cons (g_name 1 scp_is_running_stand.nd (by simp)) (gs_cons (g_name 2 scp_is_running_stand.nd (by simp)) (gs_cons (g_name 3 scp_is_running_stand.nd (by simp)) (gs_cons (g_name 4 scp_is_running_stand.nd (by simp)) (gs_cons (g_name 5 scp_is_running_stand.nd (by simp)) (gs_cons (g_name 6 scp_is_running_stand.nd (by simp)) (gs_cons (g_name 7 scp_is_running_stand.nd (by simp)) (gs_cons (g_name 8 scp_is_running_stand.nd (by simp)) (gs_cons (g_name 9 scp_is_running_stand.nd (by simp)) (gs_cons (g_name 10 scp_is_running_stand.nd (by simp)) (gs_cons (g_name 11 scp_is_running_stand.nd (by simp)) (gs_nil)))))))))))))) (ss_cons (s_if (PW.pt (w_or (t_not (t_val (d_call (okp_lies_fits T) (hr.mono (by decide)) hg pas0 (a_cons (d_var 2) (a_cons (d_var 10) (a_nil)))))) (w_or1 (t_not (t_val (d_call (okp_lies_fits T) (hr.mono (by decide)) hg pas0 (a_cons (d_var 3) (a_cons (d_var 11) (a_nil))))))))) (ss_one (s_ret (d_bl))) (ss_nil)) (ss_cons (s_if (t_not (t_val (d_callB (c_all rfl) T.f_all PyProof.Rows.boot_all (a_cons (d_lc (own := [("one", 12)]) (ps := [12]) rfl scp_is_running_stand.nd (i_seq (d_tup (a_cons (d_var 4) (a_cons (d_var 5) (a_cons (d_var 6) (a_cons (d_var 7) (a_cons (d_var 9) (a_nil)))))))) (blkOk_by (N := ["thing", "word", "firm", "now", "same", "put", "later", "late", "held", "is_open", "lies", "lies_now", "one"]) (sc := defScope tp_is_running_stand) (by decide +kernel)) (by simp) (fun _ _ _ _ _ => g_name 12 scp_is_running_stand.nd (by simp)) (fun _ _ _ _ _ => c_nil) (fun _ _ _ _ _ => d_isi "bool" T.f_isinstance T.f_bool PyProof.Rows.boot_bool (d_var 12))) (a_nil))))) (ss_one (s_ret (d_bl))) (ss_nil)) (ss_one (s_ret (d_and (d_call (okp_is_word_of T) (hr.mono (by decide)) hg pas0 (a_cons (d_var 8) (a_cons (d_glob T.g_HELD_WORDS) (a_nil)))) (d_one (d_or (d_cmp (o_ne hr.units) (d_var 3) (d_str)) (d_one (d_cmp (o_eq hr.units) (d_var 8) (d_str)))))))))))))
/-! ### is_going_stand -/
abbrev tp_is_going_stand : Stmt := top 8
def bp_is_going_stand : SM := (sRet (eAnd (e2 (on2 eqD) (eA (on1L lenD) (aCons (eV 0) aNil)) (eC (.int 4))) (eAnd (eCall 2 sp_is_word_of (aCons (e2 (on2 ixD) (eV 0) (eC (.int 2))) (aCons (eC c_PUT_WORDS) aNil))) (eCall 2 sp_lies_fits (aCons (e2 (on2 ixD) (eV 0) (eC (.int 1))) (aCons (e2 (on2 ixD) (eV 0) (eC (.int 3))) aNil))))))
def sp_is_going_stand : List Val → M Val := runF 1 bp_is_going_stand
theorem scp_is_going_stand : FnScope ["thing"] ["thing"] (defScope tp_is_going_stand) := ⟨rfl, rfl, rfl, by decide +kernel, rfl, by decide +kernel, by decide +kernel⟩
set_option maxHeartbeats 4000000 in
theorem okp_is_going_stand (T : Tx K mg w) : OkD P w K cn mg base CX0 3 "is_going_stand" ["thing"] sp_is_going_stand := by
  obtain ⟨fd, F⟩ := T.dp_is_going_stand
  exact okD T.mp_is_going_stand F scp_is_going_stand (F.bindsN (ps := ["thing"]) fun _ _ _ _ _ _ us hl => match us, hl with | [_], _ => rfl) (fun cdv A outer sh H E hr hg => PSs.nox (ss_one (s_ret (d_and (d_cmp (o_eq hr.units) (d_callB c_len T.f_len PySem.boot_len (a_cons (d_var 0) (a_nil))) (d_int)) (d_and (d_call (okp_is_word_of T) (hr.mono (by decide)) hg pas0 (a_cons (d_ix (d_var 0) (d_int)) (a_cons (d_glob T.g_PUT_WORDS) (a_nil)))) (d_one (d_call (okp_lies_fits T) (hr.mono (by decide)) hg pas0 (a_cons (d_ix (d_var 0) (d_int)) (a_cons (d_ix (d_var 0) (d_int)) (a_nil))))))))))
/-! ### is_stand -/
abbrev tp_is_stand : Stmt := top 9
def bp_is_stand : SM := (sSeq2 (sIf (tO (tN (eT (e1 (on1 (isD "tuple")) (eV 0)))) (tO (eB (e2 (on2 eqD) (eA (on1L lenD) (aCons (eV 0) aNil)) (eC (.int 0)))) (tN (eT (e1 (on1 (isD "str")) (e2 (on2 ixD) (eV 0) (eC (.int 0)))))))) (sRet (eC (.bool false))) sNil) (sSeq2 (sIf (eB (e2 (on2 eqD) (e2 (on2 ixD) (eV 0) (eC (.int 0))) (eC (.str "runs")))) (sRet (eCall 1 sp_is_running_stand (aCons (eV 0) aNil))) sNil) (sRet (eAnd (e2 (on2 eqD) (e2 (on2 ixD) (eV 0) (eC (.int 0))) (eC (.str "goes"))) (eCall 1 sp_is_going_stand (aCons (eV 0) aNil))))))
def sp_is_stand : List Val → M Val := runF 1 bp_is_stand
theorem scp_is_stand : FnScope ["thing"] ["thing"] (defScope tp_is_stand) := ⟨rfl, rfl, rfl, by decide +kernel, rfl, by decide +kernel, by decide +kernel⟩
set_option maxHeartbeats 4000000 in
theorem okp_is_stand (T : Tx K mg w) : OkD P w K cn mg base CX0 4 "is_stand" ["thing"] sp_is_stand := by
  obtain ⟨fd, F⟩ := T.dp_is_stand
  exact okD T.mp_is_stand F scp_is_stand (F.bindsN (ps := ["thing"]) fun _ _ _ _ _ _ us hl => match us, hl with | [_], _ => rfl) (fun cdv A outer sh H E hr hg => PSs.nox (ss_cons (s_if (PW.pt (w_or (t_not (t_val (d_isi "tuple" T.f_isinstance T.f_tuple PyProof.Rows.boot_tuple (d_var 0)))) (w_or (t_cmp (o_eq hr.units) (d_callB c_len T.f_len PySem.boot_len (a_cons (d_var 0) (a_nil))) (d_int)) (w_or1 (t_not (t_val (d_isi "str" T.f_isinstance T.f_str PyProof.Rows.boot_str (d_ix (d_var 0) (d_int))))))))) (ss_one (s_ret (d_bl))) (ss_nil)) (ss_cons (s_if (t_cmp (o_eq hr.units) (d_ix (d_var 0) (d_int)) (d_str)) (ss_one (s_ret (d_call (okp_is_running_stand T) (hr.mono (by decide)) hg pas0 (a_cons (d_var 0) (a_nil))))) (ss_nil)) (ss_one (s_ret (d_and (d_cmp (o_eq hr.units) (d_ix (d_var 0) (d_int)) (d_str)) (d_one (d_call (okp_is_going_stand T) (hr.mono (by decide)) hg pas0 (a_cons (d_var 0) (a_nil))))))))))
theorem okKp_is_stand_0 (T : Tx K mg w) : OkK P w K cn mg base CX0 4 "is_stand" ["thing"] ["thing"] [0] sp_is_stand := by
  obtain ⟨fd, F⟩ := T.dp_is_stand
  exact okK_of (okp_is_stand T) T.mp_is_stand F (fun _ _ _ _ _ _ ws hl => match ws, hl with | [_], _ => rfl)
/-! ### _law_feed -/
abbrev tf_law_feed : Stmt := top 11
def bf_law_feed : SM := (sRet (eDisp [((eC (.str "cells")), (eA (on1L listD) (aCons (eSl (eV 0) oN (oS (eC (.int 63)))) aNil))), ((eC (.str "turn")), (eC (.int 0))), ((eC (.str "rest")), (eC (.int 0))), ((eC (.str "drawn")), (eC (.int 0)))]))
def sf_law_feed : List Val → M Val := runF 1 bf_law_feed
theorem scf_law_feed : FnScope ["_law_script"] ["_law_script"] (defScope tf_law_feed) := ⟨rfl, rfl, rfl, by decide +kernel, rfl, by decide +kernel, by decide +kernel⟩
set_option maxHeartbeats 4000000 in
theorem okf_law_feed (T : Tx K mg w) : OkD P w K cn mg base CX0 1 "_law_feed" ["_law_script"] sf_law_feed := by
  obtain ⟨fd, F⟩ := T.df_law_feed
  exact okD T.mf_law_feed F scf_law_feed (F.bindsN (ps := ["_law_script"]) fun _ _ _ _ _ _ us hl => match us, hl with | [_], _ => rfl) (fun cdv A outer sh H E hr hg => PSs.nox (ss_one (s_ret (d_disp (prs := [((eC (.str "cells")), (eA (on1L listD) (aCons (eSl (eV 0) oN (oS (eC (.int 63)))) aNil))), ((eC (.str "turn")), (eC (.int 0))), ((eC (.str "rest")), (eC (.int 0))), ((eC (.str "drawn")), (eC (.int 0)))]) (pps_cons (d_str) (d_callT c_list T.f_list PyProof.Rows.boot_list (a_cons (d_sl (d_var 0) (s_none) (s_some (d_int))) (a_nil))) (pps_cons (d_str) (d_int) (pps_cons (d_str) (d_int) (pps_cons (d_str) (d_int) (pps_nil)))))))))
/-! ### _law_draw -/
abbrev tf_law_draw : Stmt := top 12
def bf_law_draw : SM := (sSeq2 (sDput (eV 0) (eC (.str "drawn")) (e2 (on2 addD) (e2 dgetV (eV 0) (eC (.str "drawn"))) (eC (.int 1)))) (sSeq2 (sIf (eB (e2 (on2 gtD) (e2 dgetV (eV 0) (eC (.str "rest"))) (eC (.int 0)))) (sSeq2 (sSet 2 (e2 (on2 modD) (eA (on1L intD) (aCons (e2 dgetV (eV 0) (eC (.str "rest"))) aNil)) (eV 1))) (sSeq2 (sDput (eV 0) (eC (.str "rest")) (e2 (on2 fdivD) (e2 dgetV (eV 0) (eC (.str "rest"))) (eV 1))) (sRet (eV 2)))) sNil) (sSeq2 (sPar2 3 4 (aCons (e2 dgetV (eV 0) (eC (.str "turn"))) (aCons (e2 dgetV (eV 0) (eC (.str "cells"))) aNil))) (sSeq2 (sDput (eV 0) (eC (.str "turn")) (e2 (on2 addD) (eV 3) (eC (.int 1)))) (sSeq2 (sSet 5 (eIf (eB (e2 (on2 neD) (eV 4) (eA dLst aNil))) (e2 (on2 ixD) (eV 4) (e2 (on2 modD) (eA (on1L intD) (aCons (eV 3) aNil)) (eA (on1L lenD) (aCons (eV 4) aNil)))) (eC (.int 9541)))) (sSeq2 (sIf (tA (eB (e2 (on2 ltD) (eV 3) (eA (on1L lenD) (aCons (eV 4) aNil)))) (eB (e2 (on2 geD) (eV 5) (e2 (on2 powD) (eC (.int 10)) (eC (.int 18)))))) (sSeq2 (sDput (eV 0) (eC (.str "rest")) (e2 (on2 fdivD) (eV 5) (eV 1))) (sRet (e2 (on2 modD) (eA (on1L intD) (aCons (eV 5) aNil)) (eV 1)))) sNil) (sSeq2 (sSet 6 (e2 (on2 modD) (eA (on1L intD) (aCons (e2 (on2 addD) (e2 (on2 addD) (e2 (on2 modD) (eA (on1L intD) (aCons (eV 5) aNil)) (eC (.int 2147483629))) (e2 (on2 mulD) (eC (.int 7362567)) (e2 dgetV (eV 0) (eC (.str "drawn"))))) (eC (.int 1407))) aNil)) (eC (.int 2147483629)))) (sSeq2 (sSet 6 (e2 (on2 modD) (eA (on1L intD) (aCons (e2 (on2 addD) (e2 (on2 addD) (e2 (on2 mulD) (eV 6) (eV 6)) (e2 (on2 mulD) (eC (.int 20882301)) (e2 dgetV (eV 0) (eC (.str "drawn"))))) (eC (.int 1261))) aNil)) (eC (.int 2147483587)))) (sRet (e2 (on2 modD) (eA (on1L intD) (aCons (e2 (on2 fdivD) (e2 (on2 modD) (eA (on1L intD) (aCons (e2 (on2 addD) (e2 (on2 mulD) (eV 6) (eV 6)) (e2 (on2 mulD) (eC (.int 997)) (eV 6))) aNil)) (eC (.int 2147483579))) (eC (.int 16))) aNil)) (eV 1)))))))))))
def sf_law_draw : List Val → M Val := runF 7 bf_law_draw
theorem scf_law_draw : FnScope ["_law_feed_here", "_law_many", "_law_digit", "_law_turn", "_law_cells", "_law_cell", "_law_mixed"] ["_law_feed_here", "_law_many"] (defScope tf_law_draw) := ⟨rfl, rfl, rfl, by decide +kernel, rfl, by decide +kernel, by decide +kernel⟩
set_option maxHeartbeats 4000000 in
theorem okf_law_draw (T : Tx K mg w) : OkD P w K cn mg base CX0 1 "_law_draw" ["_law_feed_here", "_law_many"] sf_law_draw := by
  obtain ⟨fd, F⟩ := T.df_law_draw
  exact okD T.mf_law_draw F scf_law_draw (F.bindsN (ps := ["_law_feed_here", "_law_many"]) fun _ _ _ _ _ _ us hl => match us, hl with | [_, _], _ => rfl) (fun cdv A outer sh H E hr hg => PSs.nox (ss_cons (s_dput (hu_of hr) (d_var 0) (d_str) (d_op o_add (d_dget (hu_of hr) (d_var 0) (d_str)) (d_int))) (ss_cons (s_if (t_cmp o_gt (d_dget (hu_of hr) (d_var 0) (d_str)) (d_int)) (ss_cons (s_set 2 scf_law_draw.nd (d_op o_mod (d_callT c_int T.f_int PyProof.Rows.boot_int (a_cons (d_dget (hu_of hr) (d_var 0) (d_str)) (a_nil))) (d_var 1))) (ss_cons (s_dput (hu_of hr) (d_var 0) (d_str) (d_op o_fdiv (d_dget (hu_of hr) (d_var 0) (d_str)) (d_var 1))) (ss_one (s_ret (d_var 2))))) (ss_nil)) (ss_cons (s_par2 3 4 rfl scf_law_draw.nd (a_cons (d_dget (hu_of hr) (d_var 0) (d_str)) (a_cons (d_dget (hu_of hr) (d_var 0) (d_str)) (a_nil)))) (ss_cons (s_dput (hu_of hr) (d_var 0) (d_str) (d_op o_add (d_var 3) (d_int))) (ss_cons (s_set 5 scf_law_draw.nd (d_if (t_cmp (o_ne hr.units) (d_var 4) (d_lst (a_nil))) (d_ix (d_var 4) (d_op o_mod (d_callT c_int T.f_int PyProof.Rows.boot_int (a_cons (d_var 3) (a_nil))) (d_callB c_len T.f_len PySem.boot_len (a_cons (d_var 4) (a_nil))))) (d_int))) (ss_cons (s_if (PW.pt (w_and (t_cmp o_lt (d_var 3) (d_callB c_len T.f_len PySem.boot_len (a_cons (d_var 4) (a_nil)))) (w_and1 (t_cmp o_ge (d_var 5) (d_op o_pow (d_int) (d_int)))))) (ss_cons (s_dput (hu_of hr) (d_var 0) (d_str) (d_op o_fdiv (d_var 5) (d_var 1))) (ss_one (s_ret (d_op o_mod (d_callT c_int T.f_int PyProof.Rows.boot_int (a_cons (d_var 5) (a_nil))) (d_var 1))))) (ss_nil)) (ss_cons (s_set 6 scf_law_draw.nd (d_op o_mod (d_callT c_int T.f_int PyProof.Rows.boot_int (a_cons (d_op o_add (d_op o_add (d_op o_mod (d_callT c_int T.f_int PyProof.Rows.boot_int (a_cons (d_var 5) (a_nil))) (d_int)) (d_op o_mul (d_int) (d_dget (hu_of hr) (d_var 0) (d_str)))) (d_int)) (a_nil))) (d_int))) (ss_cons (s_set 6 scf_law_draw.nd (d_op o_mod (d_callT c_int T.f_int PyProof.Rows.boot_int (a_cons (d_op o_add (d_op o_add (d_op o_mul (d_var 6) (d_var 6)) (d_op o_mul (d_int) (d_dget (hu_of hr) (d_var 0) (d_str)))) (d_int)) (a_nil))) (d_int))) (ss_one (s_ret (d_op o_mod (d_callT c_int T.f_int PyProof.Rows.boot_int (a_cons (d_op o_fdiv (d_op o_mod (d_callT c_int T.f_int PyProof.Rows.boot_int (a_cons (d_op o_add (d_op o_mul (d_var 6) (d_var 6)) (d_op o_mul (d_int) (d_var 6))) (a_nil))) (d_int)) (d_int)) (a_nil))) (d_var 1)))))))))))))
/-! ### _law_pick -/
abbrev tf_law_pick : Stmt := top 13
def bf_law_pick : SM := (sRet (e2 (on2 ixD) (eV 1) (eCall 2 sf_law_draw (aCons (eV 0) (aCons (eA (on1L lenD) (aCons (eV 1) aNil)) aNil)))))
def sf_law_pick : List Val → M Val := runF 2 bf_law_pick
theorem scf_law_pick : FnScope ["_law_feed_here", "_law_lot"] ["_law_feed_here", "_law_lot"] (defScope tf_law_pick) := ⟨rfl, rfl, rfl, by decide +kernel, rfl, by decide +kernel, by decide +kernel⟩
set_option maxHeartbeats 4000000 in
theorem okf_law_pick (T : Tx K mg w) : OkD P w K cn mg base CX0 2 "_law_pick" ["_law_feed_here", "_law_lot"] sf_law_pick := by
  obtain ⟨fd, F⟩ := T.df_law_pick
  exact okD T.mf_law_pick F scf_law_pick (F.bindsN (ps := ["_law_feed_here", "_law_lot"]) fun _ _ _ _ _ _ us hl => match us, hl with | [_, _], _ => rfl) (fun cdv A outer sh H E hr hg => PSs.nox (ss_one (s_ret (d_ix (d_var 1) (d_call (okf_law_draw T) (hr.mono (by decide)) hg pas0 (a_cons (d_var 0) (a_cons (d_callB c_len T.f_len PySem.boot_len (a_cons (d_var 1) (a_nil))) (a_nil))))))))
/-! ### _law_lies -/
abbrev tf_law_lies : Stmt := top 14
def bf_law_lies : SM := (sSeq2 (sIf (eB (e2 (on2 eqD) (eV 1) (eC (.str "free")))) (sRet (eC (.str "under"))) sNil) (sRet (eCall 2 sf_law_pick (aCons (eV 0) (aCons (eA dLst (aCons (eC (.str "under")) (aCons (eC (.str "over")) (aCons (eIf (eB (e2 (on2 eqD) (eV 1) (eC (.str "kept")))) (eC (.str "due")) (eC (.str "own"))) aNil)))) aNil)))))
def sf_law_lies : List Val → M Val := runF 2 bf_law_lies
theorem scf_law_lies : FnScope ["_law_feed_here", "_law_sort"] ["_law_feed_here", "_law_sort"] (defScope tf_law_lies) := ⟨rfl, rfl, rfl, by decide +kernel, rfl, by decide +kernel, by decide +kernel⟩
set_option maxHeartbeats 4000000 in
theorem okf_law_lies (T : Tx K mg w) : OkD P w K cn mg base CX0 3 "_law_lies" ["_law_feed_here", "_law_sort"] sf_law_lies := by
  obtain ⟨fd, F⟩ := T.df_law_lies
  exact okD T.mf_law_lies F scf_law_lies (F.bindsN (ps := ["_law_feed_here", "_law_sort"]) fun _ _ _ _ _ _ us hl => match us, hl with | [_, _], _ => rfl) (fun cdv A outer sh H E hr hg => PSs.nox (ss_cons (s_if (t_cmp (o_eq hr.units) (d_var 1) (d_str)) (ss_one (s_ret (d_str))) (ss_nil)) (ss_one (s_ret (d_call (okf_law_pick T) (hr.mono (by decide)) hg pas0 (a_cons (d_var 0) (a_cons (d_lst (a_cons (d_str) (a_cons (d_str) (a_cons (d_if (t_cmp (o_eq hr.units) (d_var 1) (d_str)) (d_str) (d_str)) (a_nil))))) (a_nil))))))))
/-! ### _law_any_stand -/
abbrev tf_law_any_stand : Stmt := top 15
def bf_law_any_stand : SM := (sSeq2 (sPar2 1 2 (aCons (eCall 2 sf_law_pick (aCons (eV 0) (aCons (eA dLst (aCons (eC (.str "free")) (aCons (eC (.str "kept")) (aCons (eC (.str "plain")) aNil)))) aNil))) (aCons (eCall 2 sf_law_pick (aCons (eV 0) (aCons (eA dLst (aCons (eC (.str "free")) (aCons (eC (.str "kept")) (aCons (eC (.str "plain")) aNil)))) aNil))) aNil))) (sSeq2 (sIf (eB (e2 (on2 eqD) (eCall 2 sf_law_draw (aCons (eV 0) (aCons (eC (.int 4)) aNil))) (eC (.int 0)))) (sRet (eA dTup (aCons (eC (.str "goes")) (aCons (eV 1) (aCons (eCall 2 sf_law_pick (aCons (eV 0) (aCons (eA dLst (aCons (eC (.str "none")) (aCons (eC (.str "left")) (aCons (eC (.str "done")) aNil)))) aNil))) (aCons (eCall 2 sf_law_lies (aCons (eV 0) (aCons (eV 1) aNil))) aNil)))))) sNil) (sSeq2 (sSet 3 (eLc (sRng1 (aCons (eC (.int 5)) aNil)) [6] (gN 6) tTrue (e2 (on2 eqD) (eCall 2 sf_law_draw (aCons (eV 0) (aCons (eC (.int 2)) aNil))) (eC (.int 0))))) (sSeq2 (sSet 4 (eIf (eB (e2 (on2 eqD) (eV 2) (eC (.str "free")))) (eC (.str "none")) (eCall 2 sf_law_pick (aCons (eV 0) (aCons (eA dLst (aCons (eC (.str "none")) (aCons (eC (.str "sure")) (aCons (eC (.str "loose")) aNil)))) aNil))))) (sSeq2 (sSet 5 (eCall 2 sf_law_lies (aCons (eV 0) (aCons (eV 1) aNil)))) (sRet (e2 (on2 addD) (e2 (on2 addD) (eA dTup (aCons (eC (.str "runs")) (aCons (eV 1) (aCons (eV 2) aNil)))) (eA (on1L tupleD) (aCons (eSl (eV 3) oN (oS (eC (.int 4)))) aNil))) (eA dTup (aCons (eV 4) (aCons (e2 (on2 ixD) (eV 3) (eC (.int 4))) (aCons (eV 5) (aCons (eCall 2 sf_law_lies (aCons (eV 0) (aCons (eV 2) aNil))) aNil))))))))))))
def sf_law_any_stand : List Val → M Val := runF 7 bf_law_any_stand
theorem scf_law_any_stand : FnScope ["_law_feed_here", "_law_firm", "_law_now", "_law_bits", "_law_held", "_law_lies_here", "_law_turn"] ["_law_feed_here"] (defScope tf_law_any_stand) := ⟨rfl, rfl, rfl, by decide +kernel, rfl, by decide +kernel, by decide +kernel⟩
set_option maxHeartbeats 4000000 in
theorem okf_law_any_stand (T : Tx K mg w) : OkD P w K cn mg base CX0 4 "_law_any_stand" ["_law_feed_here"] sf_law_any_stand := by
  obtain ⟨fd, F⟩ := T.df_law_any_stand
  exact okD T.mf_law_any_stand F scf_law_any_stand (F.bindsN (ps := ["_law_feed_here"]) fun _ _ _ _ _ _ us hl => match us, hl with | [_], _ => rfl) (fun cdv A outer sh H E hr hg => PSs.nox (ss_cons (s_par2 1 2 rfl scf_law_any_stand.nd (a_cons (d_call (okf_law_pick T) (hr.mono (by decide)) hg pas0 (a_cons (d_var 0) (a_cons (d_lst (a_cons (d_str) (a_cons (d_str) (a_cons (d_str) (a_nil))))) (a_nil)))) (a_cons (d_call (okf_law_pick T) (hr.mono (by decide)) hg pas0 (a_cons (d_var 0) (a_cons (d_lst (a_cons (d_str) (a_cons (d_str) (a_cons (d_str) (a_nil))))) (a_nil)))) (a_nil)))) (ss_cons (s_if (t_cmp (o_eq hr.units) (d_call (okf_law_draw T) (hr.mono (by decide)) hg pas0 (a_cons (d_var 0) (a_cons (d_int) (a_nil)))) (d_int)) (ss_one (s_ret (d_tup (a_cons (d_str) (a_cons (d_var 1) (a_cons (d_call (okf_law_pick T) (hr.mono (by decide)) hg pas0 (a_cons (d_var 0) (a_cons (d_lst (a_cons (d_str) (a_cons (d_str) (a_cons (d_str) (a_nil))))) (a_nil)))) (a_cons (d_call (okf_law_lies T) (hr.mono (by decide)) hg pas0 (a_cons (d_var 0) (a_cons (d_var 1) (a_nil)))) (a_nil)))))))) (ss_nil)) (ss_cons (s_setLc 3 (own := [("_law_turn", 6)]) (ps := [6]) rfl scf_law_any_stand.nd (i_rng1 T.f_range (a_cons (d_int) (a_nil))) (blkOk_by (N := ["_law_feed_here", "_law_firm", "_law_now", "_law_bits", "_law_held", "_law_lies_here", "_law_turn"]) (sc := defScope tf_law_any_stand) (by decide +kernel)) (by simp) (fun _ _ _ _ _ => g_name 6 scf_law_any_stand.nd (by simp)) (fun _ _ _ _ _ => c_nil) (fun _ _ _ _ _ => d_cmp (o_eq hr.units) (d_call (okf_law_draw T) (hr.mono (by decide)) hg pas0 (a_cons (d_var 0) (a_cons (d_int) (a_nil)))) (d_int))) (ss_cons (s_set 4 scf_law_any_stand.nd (d_if (t_cmp (o_eq hr.units) (d_var 2) (d_str)) (d_str) (d_call (okf_law_pick T) (hr.mono (by decide)) hg pas0 (a_cons (d_var 0) (a_cons (d_lst (a_cons (d_str) (a_cons (d_str) (a_cons (d_str) (a_nil))))) (a_nil)))))) (ss_cons (s_set 5 scf_law_any_stand.nd (d_call (okf_law_lies T) (hr.mono (by decide)) hg pas0 (a_cons (d_var 0) (a_cons (d_var 1) (a_nil))))) (ss_one (s_ret (d_op o_add (d_op o_add (d_tup (a_cons (d_str) (a_cons (d_var 1) (a_cons (d_var 2) (a_nil))))) (d_callT c_tuple T.f_tuple PyProof.Rows.boot_tuple (a_cons (d_sl (d_var 3) (s_none) (s_some (d_int))) (a_nil)))) (d_tup (a_cons (d_var 4) (a_cons (d_ix (d_var 3) (d_int)) (a_cons (d_var 5) (a_cons (d_call (okf_law_lies T) (hr.mono (by decide)) hg pas0 (a_cons (d_var 0) (a_cons (d_var 2) (a_nil)))) (a_nil)))))))))))))))
/-! ### _law_is_word -/
abbrev tf_law_is_word : Stmt := top 16
def bf_law_is_word : SM := (sRet (eAnd (e1 (on1 (isD "str")) (eV 0)) (e2 (on2 inD) (eV 0) (eV 1))))
def sf_law_is_word : List Val → M Val := runF 2 bf_law_is_word
theorem scf_law_is_word : FnScope ["_law_thing_in", "_law_words"] ["_law_thing_in", "_law_words"] (defScope tf_law_is_word) := ⟨rfl, rfl, rfl, by decide +kernel, rfl, by decide +kernel, by decide +kernel⟩
set_option maxHeartbeats 4000000 in
theorem okf_law_is_word (T : Tx K mg w) : OkD P w K cn mg base CX0 1 "_law_is_word" ["_law_thing_in", "_law_words"] sf_law_is_word := by
  obtain ⟨fd, F⟩ := T.df_law_is_word
  exact okD T.mf_law_is_word F scf_law_is_word (F.bindsN (ps := ["_law_thing_in", "_law_words"]) fun _ _ _ _ _ _ us hl => match us, hl with | [_, _], _ => rfl) (fun cdv A outer sh H E hr hg => PSs.nox (ss_one (s_ret (d_and (d_isi "str" T.f_isinstance T.f_str PyProof.Rows.boot_str (d_var 0)) (d_one (d_cmp (o_in (u65 hr)) (d_var 0) (d_var 1)))))))
/-! ### _law_fits -/
abbrev tf_law_fits : Stmt := top 17
def bf_law_fits : SM := (sSeq2 (sIf (eB (e2 (on2 eqD) (eV 1) (eC (.str "free")))) (sRet (eCall 2 sf_law_is_word (aCons (eV 0) (aCons (eA dLst (aCons (eC (.str "under")) aNil)) aNil)))) sNil) (sRet (eCall 2 sf_law_is_word (aCons (eV 0) (aCons (eA dLst (aCons (eC (.str "under")) (aCons (eC (.str "over")) (aCons (eIf (eB (e2 (on2 eqD) (eV 1) (eC (.str "kept")))) (eC (.str "due")) (eC (.str "own"))) aNil)))) aNil)))))
def sf_law_fits : List Val → M Val := runF 2 bf_law_fits
theorem scf_law_fits : FnScope ["_law_lies_here", "_law_sort"] ["_law_lies_here", "_law_sort"] (defScope tf_law_fits) := ⟨rfl, rfl, rfl, by decide +kernel, rfl, by decide +kernel, by decide +kernel⟩
set_option maxHeartbeats 4000000 in
theorem okf_law_fits (T : Tx K mg w) : OkD P w K cn mg base CX0 2 "_law_fits" ["_law_lies_here", "_law_sort"] sf_law_fits := by
  obtain ⟨fd, F⟩ := T.df_law_fits
  exact okD T.mf_law_fits F scf_law_fits (F.bindsN (ps := ["_law_lies_here", "_law_sort"]) fun _ _ _ _ _ _ us hl => match us, hl with | [_, _], _ => rfl) (fun cdv A outer sh H E hr hg => PSs.nox (ss_cons (s_if (t_cmp (o_eq hr.units) (d_var 1) (d_str)) (ss_one (s_ret (d_call (okf_law_is_word T) (hr.mono (by decide)) hg pas0 (a_cons (d_var 0) (a_cons (d_lst (a_cons (d_str) (a_nil))) (a_nil)))))) (ss_nil)) (ss_one (s_ret (d_call (okf_law_is_word T) (hr.mono (by decide)) hg pas0 (a_cons (d_var 0) (a_cons (d_lst (a_cons (d_str) (a_cons (d_str) (a_cons (d_if (t_cmp (o_eq hr.units) (d_var 1) (d_str)) (d_str) (d_str)) (a_nil))))) (a_nil))))))))
/-! ### _law_is_stand -/
abbrev tf_law_is_stand : Stmt := top 18
def bf_law_is_stand : SM := (sSeq2 (sSet 1 (eA dLst (aCons (eC (.str "free")) (aCons (eC (.str "kept")) (aCons (eC (.str "plain")) aNil))))) (sSeq2 (sIf (tO (tN (eT (e1 (on1 (isD "tuple")) (eV 0)))) (tO (eB (e2 (on2 ltD) (eA (on1L lenD) (aCons (eV 0) aNil)) (eC (.int 2)))) (tN (eT (eCall 2 sf_law_is_word (aCons (e2 (on2 ixD) (eV 0) (eC (.int 1))) (aCons (eV 1) aNil))))))) (sRet (eC (.bool false))) sNil) (sSeq2 (sIf (eT (eCall 2 sf_law_is_word (aCons (e2 (on2 ixD) (eV 0) (eC (.int 0))) (aCons (eA dLst (aCons (eC (.str "goes")) aNil)) aNil)))) (sRet (eAnd (e2 (on2 eqD) (eA (on1L lenD) (aCons (eV 0) aNil)) (eC (.int 4))) (eAnd (eCall 2 sf_law_is_word (aCons (e2 (on2 ixD) (eV 0) (eC (.int 2))) (aCons (eA dLst (aCons (eC (.str "none")) (aCons (eC (.str "left")) (aCons (eC (.str "done")) aNil)))) aNil))) (eCall 2 sf_law_fits (aCons (e2 (on2 ixD) (eV 0) (eC (.int 3))) (aCons (e2 (on2 ixD) (eV 0) (eC (.int 1))) aNil)))))) sNil) (sSeq2 (sIf (tO (tN (eT (eCall 2 sf_law_is_word (aCons (e2 (on2 ixD) (eV 0) (eC (.int 0))) (aCons (eA dLst (aCons (eC (.str "runs")) aNil)) aNil))))) (tO (eB (e2 (on2 neD) (eA (on1L lenD) (aCons (eV 0) aNil)) (eC (.int 11)))) (tN (eT (eCall 2 sf_law_is_word (aCons (e2 (on2 ixD) (eV 0) (eC (.int 2))) (aCons (eV 1) aNil))))))) (sRet (eC (.bool false))) sNil) (sSeq2 (sIf (eB (e2 (on2 neD) (eLc (sSeq (e2 (on2 addD) (eSl (eV 0) (oS (eC (.int 3))) (oS (eC (.int 7)))) (eSl (eV 0) (oS (eC (.int 8))) (oS (eC (.int 9)))))) [2] (gN 2) (tN (eT (e1 (on1 (isD "bool")) (eV 2)))) (eV 2)) (eA dLst aNil))) (sRet (eC (.bool false))) sNil) (sSeq2 (sIf (tN (eT (eCall 2 sf_law_is_word (aCons (e2 (on2 ixD) (eV 0) (eC (.int 7))) (aCons (eIf (eB (e2 (on2 neD) (e2 (on2 ixD) (eV 0) (eC (.int 2))) (eC (.str "free")))) (eA dLst (aCons (eC (.str "none")) (aCons (eC (.str "sure")) (aCons (eC (.str "loose")) aNil)))) (eA dLst (aCons (eC (.str "none")) aNil))) aNil))))) (sRet (eC (.bool false))) sNil) (sRet (eAnd (eCall 2 sf_law_fits (aCons (e2 (on2 ixD) (eV 0) (eC (.int 9))) (aCons (e2 (on2 ixD) (eV 0) (eC (.int 1))) aNil))) (eCall 2 sf_law_fits (aCons (e2 (on2 ixD) (eV 0) (eC (.int 10))) (aCons (e2 (on2 ixD) (eV 0) (eC (.int 2))) aNil)))))))))))
def sf_law_is_stand : List Val → M Val := runF 3 bf_law_is_stand
theorem scf_law_is_stand : FnScope ["_law_item", "_law_lives", "_law_one"] ["_law_item"] (defScope tf_law_is_stand) := ⟨rfl, rfl, rfl, by decide +kernel, rfl, by decide +kernel, by decide +kernel⟩
set_option maxHeartbeats 4000000 in
theorem okf_law_is_stand (T : Tx K mg w) : OkD P w K cn mg base CX0 3 "_law_is_stand" ["_law_item"] sf_law_is_stand := by
  obtain ⟨fd, F⟩ := T.df_law_is_stand
  exact okD T.mf_law_is_stand F scf_law_is_stand (F.bindsN (ps := ["_law_item"]) fun _ _ _ _ _ _ us hl => match us, hl with | [_], _ => rfl) (fun cdv A outer sh H E hr hg => PSs.nox (ss_cons (s_set 1 scf_law_is_stand.nd (d_lst (a_cons (d_str) (a_cons (d_str) (a_cons (d_str) (a_nil)))))) (ss_cons (s_if (PW.pt (w_or (t_not (t_val (d_isi "tuple" T.f_isinstance T.f_tuple PyProof.Rows.boot_tuple (d_var 0)))) (w_or (t_cmp o_lt (d_callB c_len T.f_len PySem.boot_len (a_cons (d_var 0) (a_nil))) (d_int)) (w_or1 (t_not (t_val (d_call (okf_law_is_word T) (hr.mono (by decide)) hg pas0 (a_cons (d_ix (d_var 0) (d_int)) (a_cons (d_var 1) (a_nil)))))))))) (ss_one (s_ret (d_bl))) (ss_nil)) (ss_cons (s_if (t_val (d_call (okf_law_is_word T) (hr.mono (by decide)) hg pas0 (a_cons (d_ix (d_var 0) (d_int)) (a_cons (d_lst (a_cons (d_str) (a_nil))) (a_nil))))) (ss_one (s_ret (d_and (d_cmp (o_eq hr.units) (d_callB c_len T.f_len PySem.boot_len (a_cons (d_var 0) (a_nil))) (d_int)) (d_and (d_call (okf_law_is_word T) (hr.mono (by decide)) hg pas0 (a_cons (d_ix (d_var 0) (d_int)) (a_cons (d_lst (a_cons (d_str) (a_cons (d_str) (a_cons (d_str) (a_nil))))) (a_nil)))) (d_one (d_call (okf_law_fits T) (hr.mono (by decide)) hg pas0 (a_cons (d_ix (d_var 0) (d_int)) (a_cons (d_ix (d_var 0) (d_int)) (a_nil))))))))) (ss_nil)) (ss_cons (s_if (PW.pt (w_or (t_not (t_val (d_call (okf_law_is_word T) (hr.mono (by decide)) hg pas0 (a_cons (d_ix (d_var 0) (d_int)) (a_cons (d_lst (a_cons (d_str) (a_nil))) (a_nil)))))) (w_or (t_cmp (o_ne hr.units) (d_callB c_len T.f_len PySem.boot_len (a_cons (d_var 0) (a_nil))) (d_int)) (w_or1 (t_not (t_val (d_call (okf_law_is_word T) (hr.mono (by decide)) hg pas0 (a_cons (d_ix (d_var 0) (d_int)) (a_cons (d_var 1) (a_nil)))))))))) (ss_one (s_ret (d_bl))) (ss_nil)) (ss_cons (s_if (t_cmp (o_ne hr.units) (d_lc (own := [("_law_one", 2)]) (ps := [2]) rfl scf_law_is_stand.nd (i_seq (d_op o_add (d_sl (d_var 0) (s_some (d_int)) (s_some (d_int))) (d_sl (d_var 0) (s_some (d_int)) (s_some (d_int))))) (blkOk_by (N := ["_law_item", "_law_lives", "_law_one"]) (sc := defScope tf_law_is_stand) (by decide +kernel)) (by simp) (fun _ _ _ _ _ => g_name 2 scf_law_is_stand.nd (by simp)) (fun _ _ _ _ _ => c_one (t_not (t_val (d_isi "bool" T.f_isinstance T.f_bool PyProof.Rows.boot_bool (d_var 2))))) (fun _ _ _ _ _ => d_var 2)) (d_lst (a_nil))) (ss_one (s_ret (d_bl))) (ss_nil)) (ss_cons (s_if (t_not (t_val (d_call (okf_law_is_word T) (hr.mono (by decide)) hg pas0 (a_cons (d_ix (d_var 0) (d_int)) (a_cons (d_if (t_cmp (o_ne hr.units) (d_ix (d_var 0) (d_int)) (d_str)) (d_lst (a_cons (d_str) (a_cons (d_str) (a_cons (d_str) (a_nil))))) (d_lst (a_cons (d_str) (a_nil)))) (a_nil)))))) (ss_one (s_ret (d_bl))) (ss_nil)) (ss_one (s_ret (d_and (d_call (okf_law_fits T) (hr.mono (by decide)) hg pas0 (a_cons (d_ix (d_var 0) (d_int)) (a_cons (d_ix (d_var 0) (d_int)) (a_nil)))) (d_one (d_call (okf_law_fits T) (hr.mono (by decide)) hg pas0 (a_cons (d_ix (d_var 0) (d_int)) (a_cons (d_ix (d_var 0) (d_int)) (a_nil)))))))))))))))
/-! ### _law_bent -/
abbrev tf_law_bent : Stmt := top 19
def bf_law_bent : SM := (sSeq2 (sPar3 2 3 4 (aCons (eCall 2 sf_law_draw (aCons (eV 0) (aCons (eC (.int 9)) aNil))) (aCons (eCall 2 sf_law_draw (aCons (eV 0) (aCons (eA (on1L lenD) (aCons (eV 1) aNil)) aNil))) (aCons (eCall 2 sf_law_draw (aCons (eV 0) (aCons (eA (on1L lenD) (aCons (eV 1) aNil)) aNil))) aNil)))) (sSeq2 (sIf (eB (e2 (on2 eqD) (eV 2) (eC (.int 0)))) (sRet (e2 (on2 addD) (eSl (eV 1) oN (oS (eV 3))) (eSl (eV 1) (oS (e2 (on2 addD) (eV 3) (eC (.int 1)))) oN))) sNil) (sSeq2 (sIf (eB (e2 (on2 eqD) (eV 2) (eC (.int 1)))) (sRet (e2 (on2 addD) (e2 (on2 addD) (eSl (eV 1) oN (oS (eV 3))) (eA dTup (aCons (e2 (on2 ixD) (eV 1) (eV 4)) aNil))) (eSl (eV 1) (oS (eV 3)) oN))) sNil) (sSeq2 (sIf (eB (e2 (on2 eqD) (eV 2) (eC (.int 2)))) (sRet (e2 (on2 addD) (e2 (on2 addD) (eSl (eV 1) oN (oS (eV 3))) (eA dTup (aCons (e2 (on2 ixD) (eV 1) (eV 4)) aNil))) (eSl (eV 1) (oS (e2 (on2 addD) (eV 3) (eC (.int 1)))) oN))) sNil) (sSeq2 (sIf (eB (e2 (on2 eqD) (eV 2) (eC (.int 3)))) (sRet (eA (on1L listD) (aCons (eV 1) aNil))) sNil) (sSeq2 (sSet 5 (eA dLst (aCons (eC (.str "free")) (aCons (eC (.str "kept")) (aCons (eC (.str "plain")) (aCons (eC (.str "under")) (aCons (eC (.str "due")) (aCons (eC (.str "over")) (aCons (eC (.str "own")) (aCons (eC (.str "none")) (aCons (eC (.str "sure")) (aCons (eC (.str "loose")) (aCons (eC (.str "left")) (aCons (eC (.str "done")) aNil)))))))))))))) (sSeq2 (sSet 5 (e2 (on2 addD) (eV 5) (eA dLst (aCons (eC (.str "runs")) (aCons (eC (.str "goes")) aNil))))) (sSeq2 (sSet 5 (e2 (on2 addD) (eV 5) (eA dLst (aCons (eC (.bool true)) (aCons (eC (.bool false)) (aCons (eC (.int 1)) (aCons (eC (.int 0)) (aCons (eC .none) (aCons (eC (.str "")) (aCons (eC (.str "Free")) (aCons (eA dTup aNil) (aCons (eA dLst (aCons (eC (.str "free")) aNil)) (aCons (eA dTup (aCons (eC (.str "free")) aNil)) (aCons (eC (.str "going")) (aCons (eC (.str "true")) (aCons (e2 (on2 powD) (eC (.int 10)) (eC (.int 59))) aNil)))))))))))))))) (sRet (e2 (on2 addD) (e2 (on2 addD) (eSl (eV 1) oN (oS (eV 3))) (eA dTup (aCons (eCall 2 sf_law_pick (aCons (eV 0) (aCons (eV 5) aNil))) aNil))) (eSl (eV 1) (oS (e2 (on2 addD) (eV 3) (eC (.int 1)))) oN)))))))))))
def sf_law_bent : List Val → M Val := runF 6 bf_law_bent
theorem scf_law_bent : FnScope ["_law_feed_here", "_law_one", "_law_way", "_law_at", "_law_to", "_law_odd"] ["_law_feed_here", "_law_one"] (defScope tf_law_bent) := ⟨rfl, rfl, rfl, by decide +kernel, rfl, by decide +kernel, by decide +kernel⟩
set_option maxHeartbeats 4000000 in
theorem okf_law_bent (T : Tx K mg w) : OkD P w K cn mg base CX0 3 "_law_bent" ["_law_feed_here", "_law_one"] sf_law_bent := by
  obtain ⟨fd, F⟩ := T.df_law_bent
  exact okD T.mf_law_bent F scf_law_bent (F.bindsN (ps := ["_law_feed_here", "_law_one"]) fun _ _ _ _ _ _ us hl => match us, hl with | [_, _], _ => rfl) (fun cdv A outer sh H E hr hg => PSs.nox (ss_cons (s_par3 2 3 4 rfl scf_law_bent.nd (a_cons (d_call (okf_law_draw T) (hr.mono (by decide)) hg pas0 (a_cons (d_var 0) (a_cons (d_int) (a_nil)))) (a_cons (d_call (okf_law_draw T) (hr.mono (by decide)) hg pas0 (a_cons (d_var 0) (a_cons (d_callB c_len T.f_len PySem.boot_len (a_cons (d_var 1) (a_nil))) (a_nil)))) (a_cons (d_call (okf_law_draw T) (hr.mono (by decide)) hg pas0 (a_cons (d_var 0) (a_cons (d_callB c_len T.f_len PySem.boot_len (a_cons (d_var 1) (a_nil))) (a_nil)))) (a_nil))))) (ss_cons (s_if (t_cmp (o_eq hr.units) (d_var 2) (d_int)) (ss_one (s_ret (d_op o_add (d_sl (d_var 1) (s_none) (s_some (d_var 3))) (d_sl (d_var 1) (s_some (d_op o_add (d_var 3) (d_int))) (s_none))))) (ss_nil)) (ss_cons (s_if (t_cmp (o_eq hr.units) (d_var 2) (d_int)) (ss_one (s_ret (d_op o_add (d_op o_add (d_sl (d_var 1) (s_none) (s_some (d_var 3))) (d_tup (a_cons (d_ix (d_var 1) (d_var 4)) (a_nil)))) (d_sl (d_var 1) (s_some (d_var 3)) (s_none))))) (ss_nil)) (ss_cons (s_if (t_cmp (o_eq hr.units) (d_var 2) (d_int)) (ss_one (s_ret (d_op o_add (d_op o_add (d_sl (d_var 1) (s_none) (s_some (d_var 3))) (d_tup (a_cons (d_ix (d_var 1) (d_var 4)) (a_nil)))) (d_sl (d_var 1) (s_some (d_op o_add (d_var 3) (d_int))) (s_none))))) (ss_nil)) (ss_cons (s_if (t_cmp (o_eq hr.units) (d_var 2) (d_int)) (ss_one (s_ret (d_callT c_list T.f_list PyProof.Rows.boot_list (a_cons (d_var 1) (a_nil))))) (ss_nil)) (ss_cons (s_set 5 scf_law_bent.nd (d_lst (a_cons (d_str) (a_cons (d_str) (a_cons (d_str) (a_cons (d_str) (a_cons (d_str) (a_cons (d_str) (a_cons (d_str) (a_cons (d_str) (a_cons (d_str) (a_cons (d_str) (a_cons (d_str) (a_cons (d_str) (a_nil))))))))))))))) (ss_cons (s_set 5 scf_law_bent.nd (d_op o_add (d_var 5) (d_lst (a_cons (d_str) (a_cons (d_str) (a_nil)))))) (ss_cons (s_set 5 scf_law_bent.nd (d_op o_add (d_var 5) (d_lst (a_cons (d_bl) (a_cons (d_bl) (a_cons (d_int) (a_cons (d_int) (a_cons (d_non) (a_cons (d_str) (a_cons (d_str) (a_cons (d_tup (a_nil)) (a_cons (d_lst (a_cons (d_str) (a_nil))) (a_cons (d_tup (a_cons (d_str) (a_nil))) (a_cons (d_str) (a_cons (d_str) (a_cons (d_op o_pow (d_int) (d_int)) (a_nil))))))))))))))))) (ss_one (s_ret (d_op o_add (d_op o_add (d_sl (d_var 1) (s_none) (s_some (d_var 3))) (d_tup (a_cons (d_call (okf_law_pick T) (hr.mono (by decide)) hg pas0 (a_cons (d_var 0) (a_cons (d_var 5) (a_nil)))) (a_nil)))) (d_sl (d_var 1) (s_some (d_op o_add (d_var 3) (d_int))) (s_none))))))))))))))
/-! ### law -/
abbrev tp_law : Stmt := top 20
def bp_law : SM := (sSeq2 (sSet 1 (eCall 1 sf_law_feed (aCons (eV 0) aNil))) (sSeq2 (sSet 2 (eA dLstN (aCons (eC .none) (aCons (eA dTup aNil) (aCons (eC (.str "runs")) (aCons (eA dLst aNil) (aCons (eA dTup (aCons (eC (.str "runs")) aNil)) (aCons (eA dTup (aCons (eC (.str "goes")) aNil)) (aCons (eA dTup (aCons (eC (.str "goes")) (aCons (eC (.str "free")) aNil))) (aCons (eC (.int 0)) (aCons (eC (.bool true)) (aCons (eC c_FIRST_STAND) (aCons (eA (on1L listD) (aCons (eC c_FIRST_STAND) aNil)) aNil))))))))))))) (sSeq2 (sExpr (eExt (eV 2) (eA dLst (aCons (eSl (eC c_FIRST_STAND) oN (oS (eC (.int 10)))) (aCons (e2 (on2 addD) (eC c_FIRST_STAND) (eA dTup (aCons (eC (.str "under")) aNil))) (aCons (eA dTup (aCons (eC (.str "goes")) (aCons (eC (.str "free")) (aCons (eC (.str "none")) (aCons (eC (.str "under")) aNil))))) (aCons (eA dTup (aCons (eC c_FIRST_STAND) aNil)) aNil))))))) (sSeq2 (sExpr (eExt (eV 2) (eA dLst (aCons (eA dTup (aCons (eC (.str "goes")) (aCons (eC (.str "free")) (aCons (eC (.str "left")) (aCons (eC (.str "due")) aNil))))) (aCons (eA dTup (aCons (eC (.str "goes")) (aCons (eC (.str "kept")) (aCons (eC (.str "done")) (aCons (eC (.str "due")) aNil))))) (aCons (eA dTup (aCons (eC (.str "goes")) (aCons (eC (.str "plain")) (aCons (eC (.str "none")) (aCons (eC (.str "due")) aNil))))) aNil)))))) (sSeq2 (sExpr (eExt (eV 2) (eA dLst (aCons (e2 (on2 addD) (e2 (on2 addD) (eSl (eC c_FIRST_STAND) oN (oS (eC (.int 7)))) (eA dTup (aCons (eC (.str "loose")) aNil))) (eSl (eC c_FIRST_STAND) (oS (eC (.int 8))) oN)) (aCons (e2 (on2 addD) (e2 (on2 addD) (eSl (eC c_FIRST_STAND) oN (oS (eC (.int 3)))) (eA dTup (aCons (eC (.int 1)) aNil))) (eSl (eC c_FIRST_STAND) (oS (eC (.int 4))) oN)) aNil))))) (sSeq2 (sExpr (eExt (eV 2) (eA dLst (aCons (eA dTup (aCons (eC (.str "goes")) (aCons (eC (.str "plain")) (aCons (eC (.str "left")) (aCons (eC (.str "own")) aNil))))) (aCons (eA dTup (aCons (eC (.str "goes")) (aCons (eC (.str "kept")) (aCons (eC (.str "left")) (aCons (eC (.str "own")) aNil))))) (aCons (eA dTup (aCons (eC (.int 0)) (aCons (eC (.str "free")) (aCons (eC (.str "none")) (aCons (eC (.str "under")) aNil))))) aNil)))))) (sSeq2 (sFor (sRng1 (aCons (eC (.int 24)) aNil)) (gN 3) (sSeq2 (sSet 4 (eCall 1 sf_law_any_stand (aCons (eV 1) aNil))) (sExpr (eExt (eV 2) (eA dLst (aCons (eV 4) (aCons (eCall 2 sf_law_bent (aCons (eV 1) (aCons (eV 4) aNil))) (aCons (eCall 2 sf_law_bent (aCons (eV 1) (aCons (eV 4) aNil))) aNil)))))))) (sSeq2 (sFor (sSeq (eV 2)) (gN 4) (sFor (sRng1 (aCons (eC (.int 2)) aNil)) (gN 5) (sIf (eB (e2 (on2 neD) (eA (on1L reprD) (aCons (eCall 1 sp_is_stand (aCons (eV 4) aNil)) aNil)) (eA (on1L reprD) (aCons (eCall 1 sf_law_is_stand (aCons (eV 4) aNil)) aNil)))) (sRet (eC (.bool false))) sNil))) (sSeq2 (sSet 6 (eA dTup (aCons (eC (.str "runs")) (aCons (eC (.str "free")) (aCons (eC (.str "free")) (aCons (eC (.bool true)) (aCons (eC (.bool false)) (aCons (eC (.bool false)) (aCons (eC (.bool false)) (aCons (eC (.str "none")) (aCons (eC (.bool false)) (aCons (eC (.str "under")) (aCons (eC (.str "under")) aNil))))))))))))) (sRet (eAnd (e2 (on2 eqD) (eA (on1L reprD) (aCons (eC c_FIRST_STAND) aNil)) (eA (on1L reprD) (aCons (eV 6) aNil))) (e2 (on2 isBD) (eCallK 1 1 [0] sp_is_stand (aCons (eV 6) aNil)) (eC (.bool true))))))))))))))
def sp_law : List Val → M Val := runF 7 bp_law
theorem scp_law : FnScope ["_law_script", "_law_feed_here", "_law_lot", "_law_turn", "_law_one", "_law_again", "_law_due"] ["_law_script"] (defScope tp_law) := ⟨rfl, rfl, rfl, by decide +kernel, rfl, by decide +kernel, by decide +kernel⟩
set_option maxHeartbeats 4000000 in
theorem okp_law (T : Tx K mg w) : OkD P w K cn mg base CX0 5 "law" ["_law_script"] sp_law := by
  obtain ⟨fd, F⟩ := T.dp_law
  exact okD T.mp_law F scp_law (F.bindsN (ps := ["_law_script"]) fun _ _ _ _ _ _ us hl => match us, hl with | [_], _ => rfl) (fun cdv A outer sh H E hr hg => PSs.nox (ss_cons (s_set 1 scp_law.nd (d_call (okf_law_feed T) (hr.mono (by decide)) hg pas0 (a_cons (d_var 0) (a_nil)))) (ss_cons (s_set 2 scp_law.nd (d_lstN (a_cons (d_non) (a_cons (d_tup (a_nil)) (a_cons (d_str) (a_cons (d_lst (a_nil)) (a_cons (d_tup (a_cons (d_str) (a_nil))) (a_cons (d_tup (a_cons (d_str) (a_nil))) (a_cons (d_tup (a_cons (d_str) (a_cons (d_str) (a_nil)))) (a_cons (d_int) (a_cons (d_bl) (a_cons (d_glob T.g_FIRST_STAND) (a_cons (d_callT c_list T.f_list PyProof.Rows.boot_list (a_cons (d_glob T.g_FIRST_STAND) (a_nil))) (a_nil)))))))))))))) (ss_cons (s_expr (d_extend (d_var 2) (d_lst (a_cons (d_sl (d_glob T.g_FIRST_STAND) (s_none) (s_some (d_int))) (a_cons (d_op o_add (d_glob T.g_FIRST_STAND) (d_tup (a_cons (d_str) (a_nil)))) (a_cons (d_tup (a_cons (d_str) (a_cons (d_str) (a_cons (d_str) (a_cons (d_str) (a_nil)))))) (a_cons (d_tup (a_cons (d_glob T.g_FIRST_STAND) (a_nil))) (a_nil)))))))) (ss_cons (s_expr (d_extend (d_var 2) (d_lst (a_cons (d_tup (a_cons (d_str) (a_cons (d_str) (a_cons (d_str) (a_cons (d_str) (a_nil)))))) (a_cons (d_tup (a_cons (d_str) (a_cons (d_str) (a_cons (d_str) (a_cons (d_str) (a_nil)))))) (a_cons (d_tup (a_cons (d_str) (a_cons (d_str) (a_cons (d_str) (a_cons (d_str) (a_nil)))))) (a_nil))))))) (ss_cons (s_expr (d_extend (d_var 2) (d_lst (a_cons (d_op o_add (d_op o_add (d_sl (d_glob T.g_FIRST_STAND) (s_none) (s_some (d_int))) (d_tup (a_cons (d_str) (a_nil)))) (d_sl (d_glob T.g_FIRST_STAND) (s_some (d_int)) (s_none))) (a_cons (d_op o_add (d_op o_add (d_sl (d_glob T.g_FIRST_STAND) (s_none) (s_some (d_int))) (d_tup (a_cons (d_int) (a_nil)))) (d_sl (d_glob T.g_FIRST_STAND) (s_some (d_int)) (s_none))) (a_nil)))))) (ss_cons (s_expr (d_extend (d_var 2) (d_lst (a_cons (d_tup (a_cons (d_str) (a_cons (d_str) (a_cons (d_str) (a_cons (d_str) (a_nil)))))) (a_cons (d_tup (a_cons (d_str) (a_cons (d_str) (a_cons (d_str) (a_cons (d_str) (a_nil)))))) (a_cons (d_tup (a_cons (d_int) (a_cons (d_str) (a_cons (d_str) (a_cons (d_str) (a_nil)))))) (a_nil))))))) (ss_cons (s_for (ps := [3]) PassesOwn.never rfl (i_rng1 T.f_range (a_cons (d_int) (a_nil))) (g_name 3 scp_law.nd (by simp)) (ss_cons (s_set 4 scp_law.nd (d_call (okf_law_any_stand T) (hr.mono (by decide)) hg pas0 (a_cons (d_var 1) (a_nil)))) (ss_one (s_expr (d_extend (d_var 2) (d_lst (a_cons (d_var 4) (a_cons (d_call (okf_law_bent T) (hr.mono (by decide)) hg pas0 (a_cons (d_var 1) (a_cons (d_var 4) (a_nil)))) (a_cons (d_call (okf_law_bent T) (hr.mono (by decide)) hg pas0 (a_cons (d_var 1) (a_cons (d_var 4) (a_nil)))) (a_nil)))))))))) (ss_cons (s_for (ps := [4]) PassesOwn.never rfl (i_seq (d_var 2)) (g_name 4 scp_law.nd (by simp)) (ss_one (s_for (ps := [5]) PassesOwn.never rfl (i_rng1 T.f_range (a_cons (d_int) (a_nil))) (g_name 5 scp_law.nd (by simp)) (ss_one (s_if (t_cmp (o_ne hr.units) (d_callB (c_repr hg hr.units) T.f_repr PyProof.Rows.boot_repr (a_cons (d_call (okp_is_stand T) (hr.mono (by decide)) hg pas0 (a_cons (d_var 4) (a_nil))) (a_nil))) (d_callB (c_repr hg hr.units) T.f_repr PyProof.Rows.boot_repr (a_cons (d_call (okf_law_is_stand T) (hr.mono (by decide)) hg pas0 (a_cons (d_var 4) (a_nil))) (a_nil)))) (ss_one (s_ret (d_bl))) (ss_nil)))))) (ss_cons (s_set 6 scp_law.nd (d_tup (a_cons (d_str) (a_cons (d_str) (a_cons (d_str) (a_cons (d_bl) (a_cons (d_bl) (a_cons (d_bl) (a_cons (d_bl) (a_cons (d_str) (a_cons (d_bl) (a_cons (d_str) (a_cons (d_str) (a_nil)))))))))))))) (ss_one (s_ret (d_and (d_cmp (o_eq hr.units) (d_callB (c_repr hg hr.units) T.f_repr PyProof.Rows.boot_repr (a_cons (d_glob T.g_FIRST_STAND) (a_nil))) (d_callB (c_repr hg hr.units) T.f_repr PyProof.Rows.boot_repr (a_cons (d_var 6) (a_nil)))) (d_one (d_cmp o_isB (d_callK (okKp_is_stand_0 T) (hr.mono (by decide)) hg pas0 (k_cons (d_var 6) (k_nil))) (d_bl))))))))))))))))
end PLaw

set_option Elab.async false
set_option linter.all false
set_option maxRecDepth 100000
namespace PLaw
open PySem PySem.Spec L2 PL
open PyProof.Rows hiding St
/-! ### the words of a stand, plainly -/
theorem pureOf {x : M Val} {st : Sto} {b : Val} (h : W x st fun v s => v = b ∧ s = st) : x st = .ok b st := by
  obtain ⟨a, s, e, rfl, rfl⟩ := h
  exact e
def wordIn (d : PyData) (ws : List PyData) : Bool := match d with
  | .str x => ws.any fun z => PyData.eqv z (.str x)
  | _ => false
theorem kit_str (d : PyData) : kitB (tyN d) "str" = some (match d with | .str _ => true | _ => false) := by cases d <;> rfl
theorem kit_tuple (d : PyData) : kitB (tyN d) "tuple" = some (match d with | .tuple _ => true | _ => false) := by cases d <;> rfl
def isBl (d : PyData) : Bool := match d with | .bool _ => true | _ => false
theorem kit_bool (d : PyData) : kitB (tyN d) "bool" = some (isBl d) := by cases d <;> rfl
theorem word_p {d : PyData} {ws : List PyData} (hd : SeqAt.shaped d = true) (hw : SeqAt.shaped (.tuple ws) = true) (st : Sto) : sp_is_word_of [.dat d, .dat (.tuple ws)] st = .ok (.dat (.bool (wordIn d ws))) st := by
  apply pureOf
  unfold sp_is_word_of bp_is_word_of
  cases d <;> simp [kit_str, wordIn, hd, hw]
theorem word_l {d : PyData} {ws : List PyData} (hd : SeqAt.shaped d = true) (hw : SeqAt.shaped (.list ws) = true) (st : Sto) : sf_law_is_word [.dat d, .dat (.list ws)] st = .ok (.dat (.bool (wordIn d ws))) st := by
  apply pureOf
  unfold sf_law_is_word bf_law_is_word
  cases d <;> simp [kit_str, wordIn, hd, hw]
theorem W_word_p {d : PyData} {ws : List PyData} {st : Sto} {Q : Val → Sto → Prop} (hd : SeqAt.shaped d = true) (hw : SeqAt.shaped (.tuple ws) = true) : W (sp_is_word_of [.dat d, .dat (.tuple ws)]) st Q ↔ Q (.dat (.bool (wordIn d ws))) st := W_ok (word_p hd hw st)
theorem W_word_l {d : PyData} {ws : List PyData} {st : Sto} {Q : Val → Sto → Prop} (hd : SeqAt.shaped d = true) (hw : SeqAt.shaped (.list ws) = true) : W (sf_law_is_word [.dat d, .dat (.list ws)]) st Q ↔ Q (.dat (.bool (wordIn d ws))) st := W_ok (word_l hd hw st)
def fitsP (life lies : PyData) : Bool := match life with
  | .str x => (match lookS c_LIES_TO x with
    | some (.tuple ws) => wordIn lies ws
    | _ => false)
  | _ => false
abbrev livesL : List PyData := [.str "free", .str "kept", .str "plain"]
abbrev liesL (sort : PyData) : List PyData := if PyData.eqv sort (.str "free") then [.str "under"] else [.str "under", .str "over", if PyData.eqv sort (.str "kept") then .str "due" else .str "own"]
theorem shW1 : SeqAt.shaped (.tuple [.str "under"]) = true := by decide +kernel
theorem shW2 : SeqAt.shaped (.tuple [.str "under", .str "due", .str "over"]) = true := by decide +kernel
theorem shW3 : SeqAt.shaped (.tuple [.str "under", .str "own", .str "over"]) = true := by decide +kernel
theorem lookLies (x : Str) : (x = "free" ∧ lookS c_LIES_TO x = some (.tuple [.str "under"])) ∨ (x = "kept" ∧ lookS c_LIES_TO x = some (.tuple [.str "under", .str "due", .str "over"])) ∨ (x = "plain" ∧ lookS c_LIES_TO x = some (.tuple [.str "under", .str "own", .str "over"])) ∨ (x ≠ "free" ∧ x ≠ "kept" ∧ x ≠ "plain" ∧ lookS c_LIES_TO x = none) := by
  by_cases h1 : x = "free"
  · subst h1; exact .inl ⟨rfl, by rfl⟩
  by_cases h2 : x = "kept"
  · subst h2; exact .inr (.inl ⟨rfl, by rfl⟩)
  by_cases h3 : x = "plain"
  · subst h3; exact .inr (.inr (.inl ⟨rfl, by rfl⟩))
  refine .inr (.inr (.inr ⟨h1, h2, h3, ?_⟩))
  simp [lookS, c_LIES_TO, Ne.symm h1, Ne.symm h2, Ne.symm h3]
theorem fits_p {life lies : PyData} (h1 : SeqAt.shaped life = true) (h2 : SeqAt.shaped lies = true) (st : Sto) : sp_lies_fits [.dat life, .dat lies] st = .ok (.dat (.bool (fitsP life lies))) st := by
  apply pureOf
  unfold sp_lies_fits bp_lies_fits
  cases life with
  | str x =>
    rcases lookLies x with ⟨_, e⟩ | ⟨_, e⟩ | ⟨_, e⟩ | ⟨_, _, _, e⟩ <;> simp [kit_str, fitsP, e, W_word_p, h1, h2, shW1, shW2, shW3]
  | _ => simp [kit_str, fitsP]
theorem W_fits_p {life lies : PyData} {st : Sto} {Q : Val → Sto → Prop} (h1 : SeqAt.shaped life = true) (h2 : SeqAt.shaped lies = true) : W (sp_lies_fits [.dat life, .dat lies]) st Q ↔ Q (.dat (.bool (fitsP life lies))) st := W_ok (fits_p h1 h2 st)
theorem shL1 : SeqAt.shaped (.list [.str "under"]) = true := by decide +kernel
theorem shL2 : SeqAt.shaped (.list [.str "under", .str "over", .str "due"]) = true := by decide +kernel
theorem shL3 : SeqAt.shaped (.list [.str "under", .str "over", .str "own"]) = true := by decide +kernel
theorem shFree : SeqAt.shaped (.str "free") = true := by decide +kernel
theorem shKept : SeqAt.shaped (.str "kept") = true := by decide +kernel
theorem len1 : 1 ≤ sizeLine := by decide +kernel
theorem fits_l {lies sort : PyData} (h1 : SeqAt.shaped lies = true) (h2 : SeqAt.shaped sort = true) (st : Sto) : sf_law_fits [.dat lies, .dat sort] st = .ok (.dat (.bool (wordIn lies (liesL sort)))) st := by
  apply pureOf
  unfold sf_law_fits bf_law_fits
  by_cases e1 : PyData.eqv sort (.str "free") = true
  · simp [h1, h2, shFree, e1, liesL, W_word_l, shL1, sizeLine]
  · rw [Bool.not_eq_true] at e1
    by_cases e2 : PyData.eqv sort (.str "kept") = true
    · simp [h1, h2, shFree, shKept, e1, e2, liesL, W_word_l, shL2, sizeLine]
    · rw [Bool.not_eq_true] at e2
      simp [h1, h2, shFree, shKept, e1, e2, liesL, W_word_l, shL3, sizeLine]
theorem W_fits_l {lies sort : PyData} {st : Sto} {Q : Val → Sto → Prop} (h1 : SeqAt.shaped lies = true) (h2 : SeqAt.shaped sort = true) : W (sf_law_fits [.dat lies, .dat sort]) st Q ↔ Q (.dat (.bool (wordIn lies (liesL sort)))) st := W_ok (fits_l h1 h2 st)
theorem liesF : liesL (.str "free") = [.str "under"] := rfl
theorem liesK : liesL (.str "kept") = [.str "under", .str "over", .str "due"] := rfl
theorem liesP : liesL (.str "plain") = [.str "under", .str "over", .str "own"] := rfl
theorem fits_eq (life lies : PyData) : fitsP life lies = (wordIn life livesL && wordIn lies (liesL life)) := by
  cases life with
  | str x =>
    rcases lookLies x with ⟨rfl, e⟩ | ⟨rfl, e⟩ | ⟨rfl, e⟩ | ⟨a, b, c, e⟩
    · simp [fitsP, e, wordIn, PyData.eqv, liesF]
    · simp [fitsP, e, PyData.eqv, wordIn, liesK, liesP]
      cases lies <;> simp [PyData.eqv, Bool.or_comm, Bool.or_assoc, Bool.or_left_comm]
    · simp [fitsP, e, PyData.eqv, wordIn, liesK, liesP]
      cases lies <;> simp [PyData.eqv, Bool.or_comm, Bool.or_assoc, Bool.or_left_comm]
    · simp [fitsP, e, wordIn, PyData.eqv, Ne.symm a, Ne.symm b, Ne.symm c]
  | _ => simp [fitsP, wordIn]
end PLaw

set_option Elab.async false
set_option linter.all false
set_option maxRecDepth 100000
namespace PLaw
open PySem PySem.Spec L2 PL
open PyProof.Rows hiding St
abbrev heldL : List PyData := [.str "none", .str "sure", .str "loose"]
def runB (a1 a2 a3 a4 a5 a6 a7 a8 a9 a10 : PyData) : Bool := fitsP a1 a9 && (fitsP a2 a10 && ((isBl a3 && (isBl a4 && (isBl a5 && (isBl a6 && isBl a8)))) && (wordIn a7 heldL && (!PyData.eqv a2 (.str "free") || PyData.eqv a7 (.str "none")))))
theorem shNone : SeqAt.shaped (.str "none") = true := by decide +kernel
theorem shInt (i : Int) : SeqAt.shaped (.int i) = true := by simp [SeqAt.shaped, PyData.canLay0, PyData.depth]
theorem shHeld : SeqAt.shaped (.tuple [.str "none", .str "sure", .str "loose"]) = true := by decide +kernel
set_option maxHeartbeats 4000000 in
theorem run_p {a0 a1 a2 a3 a4 a5 a6 a7 a8 a9 a10 : PyData} (h : SmA [a0, a1, a2, a3, a4, a5, a6, a7, a8, a9, a10]) (st : Sto) : sp_is_running_stand [.dat (.tuple [a0, a1, a2, a3, a4, a5, a6, a7, a8, a9, a10])] st = .ok (.dat (.bool (runB a1 a2 a3 a4 a5 a6 a7 a8 a9 a10))) st := by
  have s1 := (h a1 (by simp)).shp
  have s2 := (h a2 (by simp)).shp
  have s7 := (h a7 (by simp)).shp
  have s9 := (h a9 (by simp)).shp
  have s10 := (h a10 (by simp)).shp
  apply pureOf
  unfold sp_is_running_stand bp_is_running_stand
  cases h1 : fitsP a1 a9
  · simp [c_FIRST_STAND, shInt, PyData.eqv, gT, gsCons, gsNil, gN, W_fits_p, s1, s2, s9, s10, h1, runB, tru]
  cases h2 : fitsP a2 a10
  · simp [c_FIRST_STAND, shInt, PyData.eqv, gT, gsCons, gsNil, gN, W_fits_p, s1, s2, s9, s10, h1, h2, runB, tru]
  cases h3 : (isBl a3 && (isBl a4 && (isBl a5 && (isBl a6 && isBl a8))))
  · have h3' : isBl a3 = false ∨ isBl a4 = false ∨ isBl a5 = false ∨ isBl a6 = false ∨ isBl a8 = false := by revert h3; cases isBl a3 <;> cases isBl a4 <;> cases isBl a5 <;> cases isBl a6 <;> cases isBl a8 <;> simp
    simp [c_FIRST_STAND, shInt, PyData.eqv, gT, gsCons, gsNil, gN, W_fits_p, s1, s2, s9, s10, h1, h2, h3', runB, tru, sizeLine, wipeE, kit_bool, bools]
    intro b3 b4 b5 b6 b8
    simp [b3, b4, b5, b6, b8] at h3
  obtain ⟨b3, b4, b5, b6, b8⟩ : isBl a3 = true ∧ isBl a4 = true ∧ isBl a5 = true ∧ isBl a6 = true ∧ isBl a8 = true := by simpa using h3
  cases h4 : wordIn a7 heldL
  · simp [c_FIRST_STAND, shInt, PyData.eqv, gT, gsCons, gsNil, gN, W_fits_p, W_word_p, s1, s2, s7, s9, s10, h1, h2, b3, b4, b5, b6, b8, h4, runB, tru, sizeLine, wipeE, kit_bool, bools, c_HELD_WORDS, shHeld]
  · simp [c_FIRST_STAND, shInt, PyData.eqv, gT, gsCons, gsNil, gN, W_fits_p, W_word_p, s1, s2, s7, s9, s10, h1, h2, b3, b4, b5, b6, b8, h4, runB, tru, sizeLine, wipeE, kit_bool, bools, c_HELD_WORDS, shHeld, shFree, shNone]
    split <;> simp_all
abbrev putL : List PyData := [.str "none", .str "left", .str "done"]
theorem shPut : SeqAt.shaped (.tuple [.str "none", .str "left", .str "done"]) = true := by decide +kernel
theorem shPutL : SeqAt.shaped (.list [.str "none", .str "left", .str "done"]) = true := by decide +kernel
theorem go_p {a0 a1 a2 a3 : PyData} (h : SmA [a0, a1, a2, a3]) (st : Sto) : sp_is_going_stand [.dat (.tuple [a0, a1, a2, a3])] st = .ok (.dat (.bool (wordIn a2 putL && fitsP a1 a3))) st := by
  have s1 := (h a1 (by simp)).shp
  have s2 := (h a2 (by simp)).shp
  have s3 := (h a3 (by simp)).shp
  apply pureOf
  unfold sp_is_going_stand bp_is_going_stand
  cases h1 : wordIn a2 putL <;> simp [shInt, PyData.eqv, c_PUT_WORDS, W_word_p, shPut, h1, W_fits_p, s1, s2, s3]
/-- what the program says of a thing -/
def standP (d : PyData) : Bool := match d with
  | .tuple [a0, a1, a2, a3] => PyData.eqv a0 (.str "goes") && (wordIn a2 putL && fitsP a1 a3)
  | .tuple [a0, a1, a2, a3, a4, a5, a6, a7, a8, a9, a10] => PyData.eqv a0 (.str "runs") && runB a1 a2 a3 a4 a5 a6 a7 a8 a9 a10
  | _ => false
theorem shRuns : SeqAt.shaped (.str "runs") = true := by decide +kernel
theorem rg : ¬ (Str.ofString "runs" = Str.ofString "goes") := by decide +kernel
theorem gr : ¬ (Str.ofString "goes" = Str.ofString "runs") := by decide +kernel
theorem shGoes : SeqAt.shaped (.str "goes") = true := by decide +kernel
theorem stand_p4 {a0 a1 a2 a3 : PyData} (h : SmA [a0, a1, a2, a3]) (st : Sto) : sp_is_stand [.dat (.tuple [a0, a1, a2, a3])] st = .ok (.dat (.bool (standP (.tuple [a0, a1, a2, a3])))) st := by
  apply pureOf
  have s0 := (h a0 (by simp)).shp
  unfold sp_is_stand bp_is_stand
  have e : ∀ {st Q}, W (sp_is_going_stand [.dat (.tuple [a0, a1, a2, a3])]) st Q ↔ Q (.dat (.bool (wordIn a2 putL && fitsP a1 a3))) st := W_ok (go_p h _)
  cases a0 with
  | str x =>
    by_cases h1 : x = "runs"
    · subst h1
      simp [shInt, PyData.eqv, kit_tuple, kit_str, s0, shRuns, tru, standP, rg, gr, sp_is_running_stand, bp_is_running_stand, c_FIRST_STAND]
    · by_cases h2 : x = "goes"
      · subst h2
        simp [shInt, PyData.eqv, kit_tuple, kit_str, s0, shRuns, shGoes, tru, standP, e, rg, gr]
      · simp [shInt, PyData.eqv, kit_tuple, kit_str, s0, shRuns, shGoes, tru, standP, h1, h2]
  | _ => simp [shInt, PyData.eqv, kit_tuple, kit_str, s0, tru, standP]
theorem stand_p11 {a0 a1 a2 a3 a4 a5 a6 a7 a8 a9 a10 : PyData} (h : SmA [a0, a1, a2, a3, a4, a5, a6, a7, a8, a9, a10]) (st : Sto) : sp_is_stand [.dat (.tuple [a0, a1, a2, a3, a4, a5, a6, a7, a8, a9, a10])] st = .ok (.dat (.bool (standP (.tuple [a0, a1, a2, a3, a4, a5, a6, a7, a8, a9, a10])))) st := by
  apply pureOf
  have s0 := (h a0 (by simp)).shp
  unfold sp_is_stand bp_is_stand
  have e : ∀ {st Q}, W (sp_is_running_stand [.dat (.tuple [a0, a1, a2, a3, a4, a5, a6, a7, a8, a9, a10])]) st Q ↔ Q (.dat (.bool (runB a1 a2 a3 a4 a5 a6 a7 a8 a9 a10))) st := W_ok (run_p h _)
  cases a0 with
  | str x =>
    by_cases h1 : x = "runs"
    · subst h1
      simp [shInt, PyData.eqv, kit_tuple, kit_str, s0, shRuns, tru, standP, e, rg, gr]
    · by_cases h2 : x = "goes"
      · subst h2
        simp [shInt, PyData.eqv, kit_tuple, kit_str, s0, shRuns, shGoes, tru, standP, rg, gr, sp_is_going_stand, bp_is_going_stand]
      · simp [shInt, PyData.eqv, kit_tuple, kit_str, s0, shRuns, shGoes, tru, standP, h1, h2]
  | _ => simp [shInt, PyData.eqv, kit_tuple, kit_str, s0, tru, standP]
theorem stand_pO {ds : List PyData} (h : SmA ds) (n4 : ds.length ≠ 4) (n11 : ds.length ≠ 11) (st : Sto) : sp_is_stand [.dat (.tuple ds)] st = .ok (.dat (.bool false)) st := by
  apply pureOf
  unfold sp_is_stand bp_is_stand
  cases ds with
  | nil => simp [shInt, PyData.eqv, kit_tuple, kit_str, tru]
  | cons a r =>
    have s0 := (h a (by simp)).shp
    have q1 : ¬ ((r.length : Int) + 1 = 4) := by simp at n4; omega
    have q2 : ¬ ((r.length : Int) + 1 = 11) := by simp at n11; omega
    have q3 : ¬ ((r.length : Int) + 1 = 0) := by omega
    cases a with
    | str x =>
      by_cases h1 : x = "runs"
      · subst h1
        simp [shInt, PyData.eqv, kit_tuple, kit_str, s0, shRuns, tru, rg, gr, sp_is_running_stand, bp_is_running_stand, c_FIRST_STAND, q1, q2, q3]
      · by_cases h2 : x = "goes"
        · subst h2
          simp [shInt, PyData.eqv, kit_tuple, kit_str, s0, shRuns, shGoes, tru, rg, gr, sp_is_going_stand, bp_is_going_stand, q1, q2, q3]
        · simp [shInt, PyData.eqv, kit_tuple, kit_str, s0, shRuns, shGoes, tru, h1, h2, q3]
    | _ => simp [shInt, PyData.eqv, kit_tuple, kit_str, s0, tru, q3]
theorem stand_pN {d : PyData} (h : ∀ ds, d ≠ .tuple ds) (st : Sto) : sp_is_stand [.dat d] st = .ok (.dat (.bool false)) st := by
  apply pureOf
  unfold sp_is_stand bp_is_stand
  cases d with
  | tuple ds => exact (h ds rfl).elim
  | _ => simp [kit_tuple, tru]
end PLaw

set_option Elab.async false
set_option linter.all false
set_option maxRecDepth 100000
namespace PLaw
open PySem PySem.Spec L2 PL
open PyProof.Rows hiding St
theorem shLives : SeqAt.shaped (.list [.str "free", .str "kept", .str "plain"]) = true := by decide +kernel
theorem shLG : SeqAt.shaped (.list [.str "goes"]) = true := by decide +kernel
theorem shLR : SeqAt.shaped (.list [.str "runs"]) = true := by decide +kernel
theorem shLH : SeqAt.shaped (.list [.str "none", .str "sure", .str "loose"]) = true := by decide +kernel
theorem shLN : SeqAt.shaped (.list [.str "none"]) = true := by decide +kernel
theorem shNil : SeqAt.shaped (.list []) = true := by decide +kernel
theorem word1 (d : PyData) (x : Str) : wordIn d [.str x] = PyData.eqv d (.str x) := by
  cases d <;> simp [wordIn, PyData.eqv]
  exact Bool.eq_iff_iff.mpr ⟨fun h => by simpa using (by simpa using h : x = _).symm, fun h => by simpa using (by simpa using h : _ = x).symm⟩
set_option maxHeartbeats 4000000 in
theorem stand_l4 {a0 a1 a2 a3 : PyData} (h : SmA [a0, a1, a2, a3]) (st : Sto) : sf_law_is_stand [.dat (.tuple [a0, a1, a2, a3])] st = .ok (.dat (.bool (standP (.tuple [a0, a1, a2, a3])))) st := by
  apply pureOf
  have s0 := (h a0 (by simp)).shp
  have s1 := (h a1 (by simp)).shp
  have s2 := (h a2 (by simp)).shp
  have s3 := (h a3 (by simp)).shp
  unfold sf_law_is_stand bf_law_is_stand
  cases h1 : wordIn a1 livesL
  · simp [sizeLine, kit_tuple, tru, W_word_l, s0, s1, s2, s3, shLives, shInt, PyData.eqv, h1, standP, fits_eq]
  cases h2 : PyData.eqv a0 (.str "goes")
  · simp [sizeLine, kit_tuple, tru, W_word_l, s0, s1, s2, s3, shLives, shInt, PyData.eqv, h1, standP, fits_eq, shLG, shLR, word1, h2]
  cases h3 : wordIn a2 putL
  · simp [sizeLine, kit_tuple, tru, W_word_l, s0, s1, s2, s3, shLives, shInt, PyData.eqv, h1, standP, fits_eq, shLG, shLR, word1, h2, h3, shPutL]
  · simp [sizeLine, kit_tuple, tru, W_word_l, s0, s1, s2, s3, shLives, shInt, PyData.eqv, h1, standP, fits_eq, shLG, shLR, word1, h2, h3, shPutL, W_fits_l]
theorem stand_lN {d : PyData} (h : ∀ ds, d ≠ .tuple ds) (st : Sto) : sf_law_is_stand [.dat d] st = .ok (.dat (.bool false)) st := by
  apply pureOf
  unfold sf_law_is_stand bf_law_is_stand
  cases d with
  | tuple ds => exact (h ds rfl).elim
  | _ => simp [kit_tuple, tru, sizeLine]
set_option maxHeartbeats 4000000 in
theorem stand_lO {ds : List PyData} (h : SmA ds) (n4 : ds.length ≠ 4) (n11 : ds.length ≠ 11) (st : Sto) : sf_law_is_stand [.dat (.tuple ds)] st = .ok (.dat (.bool false)) st := by
  apply pureOf
  unfold sf_law_is_stand bf_law_is_stand
  match ds, h, n4, n11 with
  | [], _, _, _ => simp [shInt, PyData.eqv, kit_tuple, kit_str, tru, sizeLine]
  | [a], _, _, _ => simp [shInt, PyData.eqv, kit_tuple, kit_str, tru, sizeLine]
  | a0 :: a1 :: r, h, n4, n11 =>
    have s0 := (h a0 (by simp)).shp
    have s1 := (h a1 (by simp)).shp
    have q1 : ¬ ((r.length : Int) + 1 + 1 = 4) := by simp at n4; omega
    have q2 : ¬ ((r.length : Int) + 1 + 1 = 11) := by simp at n11; omega
    have q3 : ¬ ((r.length : Int) + 1 + 1 < 2) := by omega
    cases h1 : wordIn a1 livesL
    · simp [sizeLine, kit_tuple, tru, W_word_l, s0, s1, shLives, shInt, PyData.eqv, h1, q3]
    cases h2 : PyData.eqv a0 (.str "goes")
    · cases h3 : PyData.eqv a0 (.str "runs") <;> simp [sizeLine, kit_tuple, tru, W_word_l, s0, s1, shLives, shInt, PyData.eqv, h1, shLG, shLR, word1, h2, h3, q1, q2, q3]
    · simp [sizeLine, kit_tuple, tru, W_word_l, s0, s1, shLives, shInt, PyData.eqv, h1, shLG, shLR, word1, h2, q1, q2, q3]
end PLaw

set_option Elab.async false
set_option linter.all false
set_option maxRecDepth 100000
namespace PLaw
open PySem PySem.Spec L2 PL
open PyProof.Rows hiding St
theorem eqvNil (l : List PyData) : PyData.eqvAll l [] = l.isEmpty := by cases l <;> simp [PyData.eqvAll]
theorem filt {ρ0 ρ1 : Option Val} {ds : List PyData} {st : Sto} {Q : List PyData → Sto → Prop} : W (compGo [ρ0, ρ1, none] [2] (gN 2) (tN (eT (e1 (on1 (isD "bool")) (eV 2)))) (eV 2) ds) st Q ↔ Q ((ds.filter fun d => !isBl d).map id) st :=
  cg_pure ds fun d _ => ⟨_, rfl, fun st Q => by simp [wipeE, kit_bool, tru], fun _ st Q => by simp [wipeE]⟩
set_option maxHeartbeats 8000000 in
theorem stand_l11 {a0 a1 a2 a3 a4 a5 a6 a7 a8 a9 a10 : PyData} (h : SmA [a0, a1, a2, a3, a4, a5, a6, a7, a8, a9, a10]) (st : Sto) : sf_law_is_stand [.dat (.tuple [a0, a1, a2, a3, a4, a5, a6, a7, a8, a9, a10])] st = .ok (.dat (.bool (standP (.tuple [a0, a1, a2, a3, a4, a5, a6, a7, a8, a9, a10])))) st := by
  apply pureOf
  have s0 := (h a0 (by simp)).shp
  have s1 := (h a1 (by simp)).shp
  have s2 := (h a2 (by simp)).shp
  have s7 := (h a7 (by simp)).shp
  have s9 := (h a9 (by simp)).shp
  have s10 := (h a10 (by simp)).shp
  have hc1 : cutD [a0, a1, a2, a3, a4, a5, a6, a7, a8, a9, a10] (some 3) (some 7) = [a3, a4, a5, a6] := rfl
  have hc2 : cutD [a0, a1, a2, a3, a4, a5, a6, a7, a8, a9, a10] (some 8) (some 9) = [a8] := rfl
  have hfs : SeqAt.shaped (.list ([a3, a4, a5, a6, a8].filter fun d => !isBl d)) = true := SmA.shL fun d hd => h d (by have := (List.mem_filter.mp hd).1; simp at this ⊢; rcases this with e | e | e | e | e <;> simp [e])
  have hfe : PyData.eqvAll ([a3, a4, a5, a6, a8].filter fun d => !isBl d) [] = (isBl a3 && (isBl a4 && (isBl a5 && (isBl a6 && isBl a8)))) := by
    rw [eqvNil, Bool.eq_iff_iff]; simp
  unfold sf_law_is_stand bf_law_is_stand
  cases h1 : wordIn a1 livesL
  · simp [sizeLine, kit_tuple, tru, W_word_l, s0, s1, s2, shLives, shInt, PyData.eqv, h1, standP, runB, fits_eq]
  cases h2 : PyData.eqv a0 (.str "runs")
  · cases h3 : PyData.eqv a0 (.str "goes") <;> simp [sizeLine, kit_tuple, tru, W_word_l, s0, s1, s2, shLives, shInt, PyData.eqv, h1, standP, fits_eq, shLG, shLR, word1, h2, h3]
  have h3 : PyData.eqv a0 (.str "goes") = false := by
    cases a0 <;> simp [PyData.eqv] at h2 ⊢
    subst h2; decide +kernel
  cases h4 : wordIn a2 livesL
  · simp [sizeLine, kit_tuple, tru, W_word_l, s0, s1, s2, shLives, shInt, PyData.eqv, h1, standP, runB, fits_eq, shLG, shLR, word1, h2, h3, h4]
  cases h5 : (isBl a3 && (isBl a4 && (isBl a5 && (isBl a6 && isBl a8))))
  · rw [h5] at hfe
    simp only [standP, runB, h5]
    simp [sizeLine, kit_tuple, tru, W_word_l, s0, s1, s2, shLives, shInt, h1, fits_eq, shLG, shLR, word1, h2, h3, h4, hc1, hc2, filt, hfs, shNil, hfe, PyData.eqv]
  rw [h5] at hfe
  simp only [standP, runB, h5]
  cases h6 : PyData.eqv a2 (.str "free")
  · cases h7 : wordIn a7 heldL <;> simp [sizeLine, kit_tuple, tru, W_word_l, s0, s1, s2, s7, shLives, shInt, h1, fits_eq, shLG, shLR, word1, h2, h3, h4, h6, h7, hc1, hc2, filt, hfs, shNil, hfe, PyData.eqv, shFree, shLH, W_fits_l, s9, s10]
    cases wordIn a9 (liesL a1) <;> simp
  · cases h7 : PyData.eqv a7 (.str "none") <;> simp [sizeLine, kit_tuple, tru, W_word_l, s0, s1, s2, s7, shLives, shInt, h1, fits_eq, shLG, shLR, word1, h2, h3, h4, h6, h7, hc1, hc2, filt, hfs, shNil, hfe, PyData.eqv, shFree, shLN, W_fits_l, s9, s10]
    have h8 : wordIn a7 heldL = true := by
      cases a7 <;> simp [PyData.eqv] at h7
      subst h7; decide +kernel
    cases wordIn a9 (liesL a1) <;> simp [h8]
/-- both answers are one -/
theorem stand_both {d : PyData} (h : ∀ ds, d = .tuple ds → SmA ds) : ∃ b, ∀ st, sp_is_stand [.dat d] st = .ok (.dat (.bool b)) st ∧ sf_law_is_stand [.dat d] st = .ok (.dat (.bool b)) st := by
  by_cases ht : ∃ ds, d = .tuple ds
  · obtain ⟨ds, rfl⟩ := ht
    have hs := h ds rfl
    by_cases n4 : ds.length = 4
    · match ds, n4, hs with
      | [a0, a1, a2, a3], _, hs => exact ⟨_, fun st => ⟨stand_p4 hs st, stand_l4 hs st⟩⟩
    · by_cases n11 : ds.length = 11
      · match ds, n11, hs with
        | [a0, a1, a2, a3, a4, a5, a6, a7, a8, a9, a10], _, hs => exact ⟨_, fun st => ⟨stand_p11 hs st, stand_l11 hs st⟩⟩
      · exact ⟨_, fun st => ⟨stand_pO hs n4 n11 st, stand_lO hs n4 n11 st⟩⟩
  · have hn : ∀ ds, d ≠ .tuple ds := fun ds e => ht ⟨ds, e⟩
    exact ⟨_, fun st => ⟨stand_pN hn st, stand_lN hn st⟩⟩
end PLaw

set_option Elab.async false
set_option linter.all false
set_option maxRecDepth 100000
namespace PLaw
open PySem PySem.Spec L2 PL
open PyProof.Rows hiding St
set_option maxHeartbeats 4000000 in
theorem draw_ok {o : SO} {r : Sto} {n : Int} (ho : FeedO o) (h0 : 0 < n) (h1 : n < 1000000) : W (sf_law_draw [.ref 0, .dat (.int n)]) (o :: r) fun v st => ∃ d o', v = .dat (.int d) ∧ 0 ≤ d ∧ d < n ∧ FeedO o' ∧ st = o' :: r := by
  obtain ⟨cells, turn, rest, drawn, rfl, ht⟩ := ho
  unfold sf_law_draw bf_law_draw
  have n0 : n ≠ 0 := by omega
  have n1 : n.natAbs < 1073741824 := by omega
  have m0 : ∀ x : Int, 0 ≤ x.fmod n := fun x => Int.fmod_nonneg_of_pos x h0
  have m1 : ∀ x : Int, x.fmod n < n := fun x => Int.fmod_lt_of_pos x h0
  have ht' : 0 ≤ turn + 1 := by omega
  by_cases hr : 0 < rest
  · simp [hr, n0, n1, sizeLine, m0, m1, feedO_mk, ht]
  · by_cases hne : cells = []
    · subst hne
      have q : ¬ turn < 0 := by omega
      simp [hr, n0, n1, sizeLine, m0, m1, feedO_mk, ht', SeqAt.shaped, PyData.canLay0, PyData.canLayAll0, PyData.depth, PyData.depthAll, PyData.eqv, PyData.eqvAll, fm_lo, fm_hi, i64, q]
    · obtain ⟨c, hc⟩ : ∃ c : Int, atI (cells.map PyData.int) (turn.fmod ((cells.length : Nat) : Int)) = some (.int c) := by
        cases cells with
        | nil => exact (hne rfl).elim
        | cons c0 cells => exact feed_cell ht
      have hs : SeqAt.shaped (.list (cells.map PyData.int)) = true := SmA.shL fun d hd => by
        obtain ⟨i, _, rfl⟩ := List.mem_map.mp hd
        exact ⟨rfl, by simp [PyData.depth]⟩
      have hn : SeqAt.shaped (.list []) = true := by decide +kernel
      have he : PyData.eqv (.list (cells.map PyData.int)) (.list []) = false := by
        cases cells with
        | nil => exact (hne rfl).elim
        | cons c0 cells => simp [PyData.eqv, PyData.eqvAll]
      by_cases q1 : turn < ((cells.length : Nat) : Int)
      · by_cases q2 : (1000000000000000000 : Int) ≤ c
        · simp [hr, n0, n1, sizeLine, m0, m1, feedO_mk, ht', fm_lo, fm_hi, i64, hs, hn, he, hc, hne, q1, q2]
        · simp [hr, n0, n1, sizeLine, m0, m1, feedO_mk, ht', fm_lo, fm_hi, i64, hs, hn, he, hc, hne, q1, q2]
      · simp [hr, n0, n1, sizeLine, m0, m1, feedO_mk, ht', fm_lo, fm_hi, i64, hs, hn, he, hc, hne, q1]
theorem pick_ok {o : SO} {r : Sto} {ds : List PyData} (ho : FeedO o) (h0 : ds ≠ []) (h1 : ds.length < 1000000) : W (sf_law_pick [.ref 0, .dat (.list ds)]) (o :: r) fun v st => ∃ d o', v = .dat d ∧ d ∈ ds ∧ FeedO o' ∧ st = o' :: r := by
  unfold sf_law_pick bf_law_pick
  have hl : 0 < ds.length := List.length_pos_iff.mpr h0
  simp
  refine (draw_ok (n := ds.length) ho (by omega) (by omega)).mono ?_
  rintro v st ⟨d, o', rfl, q0, q1, ho', rfl⟩
  obtain ⟨k, rfl⟩ := Int.eq_ofNat_of_zero_le q0
  have hk : k < ds.length := by omega
  simp [PL.atI_nat, List.getElem?_eq_getElem hk, ho']
theorem lies_ok {o : SO} {r : Sto} {x : Str} (ho : FeedO o) (hx : SeqAt.shaped (.str x) = true) : W (sf_law_lies [.ref 0, .dat (.str x)]) (o :: r) fun v st => ∃ y o', v = .dat (.str y) ∧ Sm (.str y) ∧ FeedO o' ∧ st = o' :: r := by
  unfold sf_law_lies bf_law_lies
  have k : ∀ z : Str, Sm (.str z) → W (sf_law_pick [.ref 0, .dat (.list [.str "under", .str "over", .str z])]) (o :: r) fun v st => ∃ y o', v = .dat (.str y) ∧ Sm (.str y) ∧ FeedO o' ∧ st = o' :: r := fun z hz => by
    refine (pick_ok ho (by simp) (by simp)).mono ?_
    rintro v st ⟨d, o', rfl, hd, ho', rfl⟩
    simp at hd
    rcases hd with rfl | rfl | rfl
    · exact ⟨_, _, rfl, ⟨by decide +kernel, by decide +kernel⟩, ho', rfl⟩
    · exact ⟨_, _, rfl, ⟨by decide +kernel, by decide +kernel⟩, ho', rfl⟩
    · exact ⟨_, _, rfl, hz, ho', rfl⟩
  by_cases h1 : x = "free"
  · subst h1
    simp [hx, shFree, PyData.eqv]
    exact ⟨⟨by decide +kernel, by decide +kernel⟩, ho⟩
  · by_cases h2 : x = "kept"
    · subst h2
      simp [hx, shFree, shKept, PyData.eqv, sizeLine]
      refine (k "due" ⟨by decide +kernel, by decide +kernel⟩).mono ?_
      rintro v st ⟨y, o', rfl, hy, ho', rfl⟩
      simp [hy, ho']
    · simp [hx, shFree, shKept, PyData.eqv, sizeLine, h1, h2]
      refine (k "own" ⟨by decide +kernel, by decide +kernel⟩).mono ?_
      rintro v st ⟨y, o', rfl, hy, ho', rfl⟩
      simp [hy, ho']
end PLaw

set_option Elab.async false
set_option linter.all false
set_option maxRecDepth 100000
namespace PLaw
open PySem PySem.Spec L2 PL
open PyProof.Rows hiding St
theorem pickS_ok {o : SO} {r : Sto} {ds : List PyData} (ho : FeedO o) (h0 : ds ≠ []) (h1 : ds.length < 1000000) (hs : ∀ d ∈ ds, ∃ y, d = .str y ∧ Sm (.str y)) : W (sf_law_pick [.ref 0, .dat (.list ds)]) (o :: r) fun v st => ∃ y o', v = .dat (.str y) ∧ Sm (.str y) ∧ FeedO o' ∧ st = o' :: r := by
  refine (pick_ok ho h0 h1).mono ?_
  rintro v st ⟨d, o', rfl, hd, ho', rfl⟩
  obtain ⟨y, rfl, hy⟩ := hs d hd
  exact ⟨y, o', rfl, hy, ho', rfl⟩
theorem smLives : ∀ d ∈ livesL, ∃ y, d = .str y ∧ Sm (.str y) := by
  intro d hd
  simp at hd
  rcases hd with rfl | rfl | rfl <;> exact ⟨_, rfl, by decide +kernel, by decide +kernel⟩
theorem smHeld : ∀ d ∈ heldL, ∃ y, d = .str y ∧ Sm (.str y) := by
  intro d hd
  simp at hd
  rcases hd with rfl | rfl | rfl <;> exact ⟨_, rfl, by decide +kernel, by decide +kernel⟩
theorem smPut : ∀ d ∈ putL, ∃ y, d = .str y ∧ Sm (.str y) := by
  intro d hd
  simp at hd
  rcases hd with rfl | rfl | rfl <;> exact ⟨_, rfl, by decide +kernel, by decide +kernel⟩
theorem smGoes : Sm (.str "goes") := ⟨by decide +kernel, by decide +kernel⟩
theorem smRuns : Sm (.str "runs") := ⟨by decide +kernel, by decide +kernel⟩
theorem smNone : Sm (.str "none") := ⟨by decide +kernel, by decide +kernel⟩
theorem smB (b : Bool) : Sm (.bool b) := ⟨rfl, by simp [PyData.depth]⟩
theorem sm1 {d : PyData} : SmA [d] ↔ Sm d := ⟨fun h => h d (by simp), fun h => .cons h .nil⟩
theorem smC {d : PyData} {ds : List PyData} : SmA (d :: ds) ↔ Sm d ∧ SmA ds := ⟨fun h => ⟨h d (by simp), fun e he => h e (by simp [he])⟩, fun h => .cons h.1 h.2⟩
theorem smN : SmA [] ↔ True := ⟨fun _ => trivial, fun _ => .nil⟩
set_option maxHeartbeats 4000000 in
theorem any_ok {o : SO} {r : Sto} (ho : FeedO o) : W (sf_law_any_stand [.ref 0]) (o :: r) fun v st => ∃ ds o', v = .dat (.tuple ds) ∧ SmA ds ∧ 0 < ds.length ∧ ds.length ≤ 11 ∧ FeedO o' ∧ st = o' :: r := by
  unfold sf_law_any_stand bf_law_any_stand
  simp [sizeLine]
  refine (pickS_ok ho (by simp) (by simp) smLives).mono ?_
  rintro _ _ ⟨firm, o1, rfl, hf, ho1, rfl⟩
  refine (pickS_ok ho1 (by simp) (by simp) smLives).mono ?_
  rintro _ _ ⟨now, o2, rfl, hw, ho2, rfl⟩
  simp
  refine (draw_ok ho2 (by decide) (by decide)).mono ?_
  rintro _ _ ⟨d, o3, rfl, d0, d1, ho3, rfl⟩
  by_cases hd : d = 0
  · subst hd
    simp [shInt, PyData.eqv]
    refine (pickS_ok ho3 (by simp) (by simp) smPut).mono ?_
    rintro _ _ ⟨pt, o4, rfl, hp, ho4, rfl⟩
    refine (lies_ok ho4 hf.shp).mono ?_
    rintro _ _ ⟨ls, o5, rfl, hl, ho5, rfl⟩
    simp [sizeLine, smC, smN, smGoes, hf, hp, hl, ho5]
  · simp [shInt, PyData.eqv, hd, sizeLine]
    refine W.mono (cg_inv (fun s => ∃ o', FeedO o' ∧ s = o' :: r) (fun d => ∃ b, d = .bool b) _ ?_ ⟨o3, ho3, rfl⟩) ?_
    · rintro d _ _ ⟨o', h', rfl⟩
      refine ⟨_, rfl, ?_⟩
      simp [wipeE]
      refine (draw_ok h' (by decide) (by decide)).mono ?_
      rintro _ _ ⟨d, o3, rfl, d0, d1, ho3, rfl⟩
      simp [shInt, ho3]
    rintro l _ ⟨hl, hb, o4, ho4, rfl⟩
    match l, hl with
    | [b0, b1, b2, b3, b4], _ =>
      obtain ⟨b0, rfl⟩ := hb b0 (by simp)
      obtain ⟨b1, rfl⟩ := hb b1 (by simp)
      obtain ⟨b2, rfl⟩ := hb b2 (by simp)
      obtain ⟨b3, rfl⟩ := hb b3 (by simp)
      obtain ⟨b4, rfl⟩ := hb b4 (by simp)
      have hc : cutD [PyData.bool b0, .bool b1, .bool b2, .bool b3, .bool b4] none (some 4) = [.bool b0, .bool b1, .bool b2, .bool b3] := rfl
      by_cases hn : now = "free"
      · subst hn
        simp [hw.shp, shFree, PyData.eqv]
        refine (lies_ok ho4 hf.shp).mono ?_
        rintro _ _ ⟨ls, o5, rfl, hl, ho5, rfl⟩
        simp [hc, sizeLine]
        refine (lies_ok ho5 hw.shp).mono ?_
        rintro _ _ ⟨ls2, o6, rfl, hl2, ho6, rfl⟩
        simp [sizeLine, smC, smN, smRuns, smNone, smB, hf, hw, hl, hl2, ho6]
      · simp [hw.shp, shFree, PyData.eqv, hn]
        refine (pickS_ok ho4 (by simp) (by simp) smHeld).mono ?_
        rintro _ _ ⟨hd, o4, rfl, hh, ho4, rfl⟩
        simp
        refine (lies_ok ho4 hf.shp).mono ?_
        rintro _ _ ⟨ls, o5, rfl, hl, ho5, rfl⟩
        simp [hc, sizeLine]
        refine (lies_ok ho5 hw.shp).mono ?_
        rintro _ _ ⟨ls2, o6, rfl, hl2, ho6, rfl⟩
        simp [sizeLine, smC, smN, smRuns, smNone, smB, hf, hw, hh, hl, hl2, ho6]
end PLaw

set_option Elab.async false
set_option linter.all false
set_option maxRecDepth 100000
namespace PLaw
open PySem PySem.Spec L2 PL
open PyProof.Rows hiding St
def Good (d : PyData) : Prop := ∀ es, d = .tuple es → SmA es
theorem good_t {ds : List PyData} (h : SmA ds) : Good (.tuple ds) := fun es e => by cases e; exact h
theorem good_l {ds : List PyData} : Good (.list ds) := fun es e => by cases e
theorem at_ok {ds : List PyData} {i : Int} (h0 : 0 ≤ i) (h1 : i < ds.length) (h : SmA ds) : ∃ d, atI ds i = some d ∧ Sm d := by
  obtain ⟨k, rfl⟩ := Int.eq_ofNat_of_zero_le h0
  have hk : k < ds.length := by omega
  exact ⟨ds[k], by rw [PL.atI_nat, List.getElem?_eq_getElem hk], h _ (by simp)⟩
theorem cutN {ds : List PyData} (hl : ds.length ≤ 11) {lo hi : Option Int} : (cutD ds lo hi).length ≤ 11 := Nat.le_trans cut_len hl
theorem sz (n : Nat) (h : n ≤ 100) : n ≤ sizeLine := Nat.le_trans h (by decide +kernel)
set_option maxHeartbeats 4000000 in
theorem bent_ok {o : SO} {r : Sto} {ds : List PyData} (ho : FeedO o) (hs : SmA ds) (h0 : 0 < ds.length) (h1 : ds.length ≤ 11) : W (sf_law_bent [.ref 0, .dat (.tuple ds)]) (o :: r) fun v st => ∃ d o', v = .dat d ∧ Good d ∧ FeedO o' ∧ st = o' :: r := by
  unfold sf_law_bent bf_law_bent
  simp
  refine (draw_ok ho (by decide) (by decide)).mono ?_
  rintro _ _ ⟨way, o1, rfl, w0, w1, ho1, rfl⟩
  refine (draw_ok ho1 (by omega) (by omega)).mono ?_
  rintro _ _ ⟨p, o2, rfl, p0, p1, ho2, rfl⟩
  refine (draw_ok ho2 (by omega) (by omega)).mono ?_
  rintro _ _ ⟨q, o3, rfl, q0, q1, ho3, rfl⟩
  obtain ⟨x, hx, sx⟩ := at_ok q0 q1 hs
  have b1 := cutN h1 (lo := none) (hi := some p)
  have b2 := cutN h1 (lo := some p) (hi := none)
  have b3 := cutN h1 (lo := some (p + 1)) (hi := none)
  have a1 : SmA (cutD ds none (some p)) := hs.cut
  have a2 : SmA (cutD ds (some p) none) := hs.cut
  have a3 : SmA (cutD ds (some (p + 1)) none) := hs.cut
  by_cases e0 : way = 0
  · subst e0
    simp [shInt, PyData.eqv, ho3]
    exact ⟨sz _ (by omega), good_t (a1.app a3)⟩
  by_cases e1 : way = 1
  · subst e1
    simp [shInt, PyData.eqv, ho3, hx]
    exact ⟨sz _ (by omega), sz _ (by omega), sz _ (by omega), good_t (a1.app (.cons sx a2))⟩
  by_cases e2 : way = 2
  · subst e2
    simp [shInt, PyData.eqv, ho3, hx]
    exact ⟨sz _ (by omega), sz _ (by omega), sz _ (by omega), good_t (a1.app (.cons sx a3))⟩
  by_cases e3 : way = 3
  · subst e3
    simp [shInt, PyData.eqv, ho3, good_l]
  simp [shInt, PyData.eqv, e0, e1, e2, e3, sizeLine]
  refine (pick_ok ho3 (by simp) (by simp)).mono ?_
  rintro _ _ ⟨d, o4, rfl, hd, ho4, rfl⟩
  have sd : Sm d := smA_all (by decide +kernel) d hd
  simp [ho4, sizeLine]
  exact ⟨by omega, by omega, good_t (a1.app (.cons sd a3))⟩
end PLaw

set_option Elab.async false
set_option linter.all false
set_option maxRecDepth 100000
namespace PLaw
open PySem PySem.Spec L2 PL
open PyProof.Rows hiding St
theorem feed_ok (ns : List Int) : W (sf_law_feed [.scr ns]) [] fun v st => ∃ o, v = .ref 0 ∧ FeedO o ∧ st = [o] := by
  unfold sf_law_feed bf_law_feed
  simp [keyD]
  have e : ∀ x, mergeD [(.inr "cells", x), (.inr "turn", .int 0), (.inr "rest", .int 0), (.inr "drawn", .int 0)] = [(.inr "cells", x), (.inr "turn", .int 0), (.inr "rest", .int 0), (.inr "drawn", .int 0)] := fun _ => rfl
  rw [e]
  refine (W_gcDct (st := []) rfl).mpr ?_
  exact ⟨rfl, _, ⟨_, 0, 0, 0, rfl, by decide⟩, rfl⟩
def GoodA (ds : List PyData) : Prop := ∀ d ∈ ds, Good d
def goodB (d : PyData) : Bool := match d with
  | .tuple es => es.all fun d => d.canLay0 && decide (d.depth ≤ 10)
  | _ => true
theorem good_all {ds : List PyData} (h : ds.all goodB = true) : GoodA ds := fun d hd es e => by
  have := List.all_eq_true.mp h d hd
  subst e
  exact smA_all this
theorem GoodA.app {ds es : List PyData} (h : GoodA ds) (k : GoodA es) : GoodA (ds ++ es) := fun d hd => (List.mem_append.mp hd).elim (h d) (k d)
def fsL : List PyData := [.str "runs", .str "free", .str "free", .bool true, .bool false, .bool false, .bool false, .str "none", .bool false, .str "under", .str "under"]
theorem fs_eq : c_FIRST_STAND = .tuple fsL := rfl
theorem fsC1 : (cutD fsL none (some 10)).length = 10 := by decide +kernel
theorem fs0 : fsL.length = 11 := by decide +kernel
theorem fsC2 : (cutD fsL none (some 7)).length = 7 := by decide +kernel
theorem fsC3 : (cutD fsL (some 8) none).length = 3 := by decide +kernel
theorem fsC4 : (cutD fsL none (some 3)).length = 3 := by decide +kernel
theorem fsC5 : (cutD fsL (some 4) none).length = 7 := by decide +kernel
theorem fs_fold : PyData.tuple [.str "runs", .str "free", .str "free", .bool true, .bool false, .bool false, .bool false, .str "none", .bool false, .str "under", .str "under"] = .tuple fsL := rfl
theorem fs_stand (st : Sto) : sp_is_stand [.dat (.tuple fsL)] st = .ok (.dat (.bool true)) st := by
  have h : standP (.tuple fsL) = true := by decide +kernel
  rw [← h]
  exact stand_p11 (smA_all (by decide +kernel)) st
theorem W_fs {st : Sto} {Q : Val → Sto → Prop} : W (sp_is_stand [.dat (.tuple fsL)]) st Q ↔ Q (.dat (.bool true)) st := W_ok (fs_stand st)
theorem W_fsR {st : Sto} {Q : Val → Sto → Prop} : W (reprD (.tuple fsL)) st Q ↔ Q (.dat (.str (PyData.tuple fsL).shown)) st := by
  rw [W_repr]
  exact ⟨fun h => h.2, fun h => ⟨by decide +kernel, h⟩⟩
theorem sh_fs : SeqAt.shaped (.str (PyData.tuple fsL).shown) = true := by decide +kernel
theorem W_bR {b : Bool} {st : Sto} {Q : Val → Sto → Prop} : W (reprD (.bool b)) st Q ↔ Q (.dat (.str (PyData.bool b).shown)) st := by
  rw [W_repr]
  exact ⟨fun h => h.2, fun h => ⟨by cases b <;> decide +kernel, h⟩⟩
theorem sh_b (b : Bool) : SeqAt.shaped (.str (PyData.bool b).shown) = true := by cases b <;> decide +kernel
set_option maxHeartbeats 4000000 in
theorem law_true (ns : List Int) (h : ns.length ≤ 63) : ∃ st, sp_law [.scr ns] [] = .ok (.dat (.bool true)) st := by
  have key : W (sp_law [.scr ns]) [] fun v _ => v = .dat (.bool true) := by
    unfold sp_law bp_law
    simp [-W_repr]
    refine (feed_ok ns).mono ?_
    rintro _ _ ⟨o, rfl, ho, rfl⟩
    simp [sizeLine, fs_eq, fs0, fsC1, fsC2, fsC3, fsC4, fsC5, -W_repr]
    refine for_inv (fun k ρ st => ∃ x3 x4 o ds, ρ = [some (.scr ns), some (.ref 0), some (.ref 1), x3, x4, none, none] ∧ st = [o, .lst ds] ∧ FeedO o ∧ GoodA ds ∧ ds.length ≤ 23 + 3 * k) _ 0 _ _ ⟨_, _, _, _, rfl, rfl, ho, good_all (by decide +kernel), by decide⟩ ?_ ?_
    · rintro i d ρ st hi ⟨x3, x4, o, ds, rfl, rfl, ho, hg, hl⟩
      have hi' : i < 24 := by
        have := (List.getElem?_eq_some_iff.mp hi).1
        simpa using this
      refine ⟨_, rfl, ?_⟩
      simp
      refine (any_ok ho).mono ?_
      rintro _ _ ⟨es, o1, rfl, h1, h2, h3, ho1, rfl⟩
      simp
      refine (bent_ok ho1 h1 h2 h3).mono ?_
      rintro _ _ ⟨d1, o2, rfl, g1, ho2, rfl⟩
      refine (bent_ok ho2 h1 h2 h3).mono ?_
      rintro _ _ ⟨d2, o3, rfl, g2, ho3, rfl⟩
      simp [sizeLine]
      refine ⟨by omega, _, _, ⟨rfl, rfl⟩, ho3, hg.app ?_, ?_⟩
      · intro e he
        simp at he
        rcases he with rfl | rfl | rfl
        · exact good_t h1
        · exact g1
        · exact g2
      · simp; omega
    · rintro ρ st ⟨x3, x4, o, ds, rfl, rfl, ho, hg, hl⟩
      simp [-W_repr]
      refine for_inv (fun k ρ st => ∃ x4 x5, ρ = [some (.scr ns), some (.ref 0), some (.ref 1), x3, x4, x5, none]) _ 0 _ _ ⟨_, _, rfl⟩ ?_ ?_
      · rintro i d ρ st hi ⟨x4, x5, rfl⟩
        obtain ⟨b, hb⟩ := stand_both (hg d (List.mem_of_getElem? hi))
        have e1 : ∀ {st : Sto} {Q : Val → Sto → Prop}, W (sp_is_stand [.dat d]) st Q ↔ Q (.dat (.bool b)) st := W_ok (hb _).1
        have e2 : ∀ {st : Sto} {Q : Val → Sto → Prop}, W (sf_law_is_stand [.dat d]) st Q ↔ Q (.dat (.bool b)) st := W_ok (hb _).2
        refine ⟨_, rfl, ?_⟩
        simp [-W_repr]
        refine for_inv (fun k ρ st => ∃ x5, ρ = [some (.scr ns), some (.ref 0), some (.ref 1), x3, some (.dat d), x5, none]) _ 0 _ _ ⟨_, rfl⟩ ?_ ?_
        · rintro i d ρ st hi ⟨x5, rfl⟩
          refine ⟨_, rfl, ?_⟩
          simp [-W_repr, e1, e2, W_bR, sh_b, PyData.eqv]
        · rintro ρ st ⟨x5, rfl⟩
          exact ⟨_, _, rfl⟩
      · rintro ρ st ⟨x4, x5, rfl⟩
        simp [-W_repr, fs_fold, W_fsR, W_fs, sh_fs, PyData.eqv]
  obtain ⟨v, st, e, rfl⟩ := key
  exact ⟨st, e⟩
end PLaw

set_option Elab.async false
set_option linter.all false
set_option maxRecDepth 100000
namespace PLaw
open PySem PySem.Spec L2 PL
open PyProof.Rows hiding St
/-! ### the head -/
def fn : List He.DefD := [⟨("is_word_of", none), "is_word_of", "is_word_of", defArgs (top 5), defBody (top 5), defScope (top 5), [], []⟩,
  ⟨("lies_fits", none), "lies_fits", "lies_fits", defArgs (top 6), defBody (top 6), defScope (top 6), [], []⟩,
  ⟨("is_running_stand", none), "is_running_stand", "is_running_stand", defArgs (top 7), defBody (top 7), defScope (top 7), [], []⟩,
  ⟨("is_going_stand", none), "is_going_stand", "is_going_stand", defArgs (top 8), defBody (top 8), defScope (top 8), [], []⟩,
  ⟨("is_stand", none), "is_stand", "is_stand", defArgs (top 9), defBody (top 9), defScope (top 9), [], []⟩,
  ⟨("_law_feed", none), "_law_feed", "_law_feed", defArgs (top 11), defBody (top 11), defScope (top 11), [], []⟩,
  ⟨("_law_draw", none), "_law_draw", "_law_draw", defArgs (top 12), defBody (top 12), defScope (top 12), [], []⟩,
  ⟨("_law_pick", none), "_law_pick", "_law_pick", defArgs (top 13), defBody (top 13), defScope (top 13), [], []⟩,
  ⟨("_law_lies", none), "_law_lies", "_law_lies", defArgs (top 14), defBody (top 14), defScope (top 14), [], []⟩,
  ⟨("_law_any_stand", none), "_law_any_stand", "_law_any_stand", defArgs (top 15), defBody (top 15), defScope (top 15), [], []⟩,
  ⟨("_law_is_word", none), "_law_is_word", "_law_is_word", defArgs (top 16), defBody (top 16), defScope (top 16), [], []⟩,
  ⟨("_law_fits", none), "_law_fits", "_law_fits", defArgs (top 17), defBody (top 17), defScope (top 17), [], []⟩,
  ⟨("_law_is_stand", none), "_law_is_stand", "_law_is_stand", defArgs (top 18), defBody (top 18), defScope (top 18), [], []⟩,
  ⟨("_law_bent", none), "_law_bent", "_law_bent", defArgs (top 19), defBody (top 19), defScope (top 19), [], []⟩,
  ⟨("law", none), "law", "law", defArgs (top 20), defBody (top 20), defScope (top 20), [], []⟩]
def fa : List He.Fa := [.glo "is_word_of", .glo "lies_fits", .glo "is_running_stand", .glo "is_going_stand", .glo "is_stand", .glo "_law_feed", .glo "_law_draw", .glo "_law_pick", .glo "_law_lies", .glo "_law_any_stand", .glo "_law_is_word", .glo "_law_fits", .glo "_law_is_stand", .glo "_law_bent", .glo "law", .free "all", .free "bool", .free "int", .free "isinstance", .free "len", .free "list", .free "range", .free "repr", .free "str", .free "tuple", .glo "LIES_TO"]
def tabs : List He.Tab := [(fun K => He.ga K "LIES_TO", ["free", "kept", "plain"])]
def ex (K : PySem.W.Frag) : Bool := (gloB K "FIRST_STAND" c_FIRST_STAND && (gloB K "HELD_WORDS" c_HELD_WORDS && (gloB K "PUT_WORDS" c_PUT_WORDS && (dctB K "LIES_TO" c_LIES_TO && true))))
abbrev R : PySem.W.OpenRow := PySem.W.OpenLaw.row PySem.Challenge.rw_pagelives_k31_stands_by_form
abbrev hk : PySem.W.Hook := He.hookX 5 fa fn tabs [] ex
def ob (s : PySem.W.SharedT) : He.AlX := He.obsX 5 fa fn tabs [] ex (HandSHeadRun.getT s)
theorem ob_eq (s : PySem.W.SharedT) : ob s = hk.obs s.abs := He.obsX_eq (HandSHeadRun.getT_eq s)
def loose0 : List Str := ["FIRST_STAND", "LIES_TO", "HELD_WORDS", "PUT_WORDS", "is_word_of", "lies_fits", "is_running_stand", "is_going_stand", "is_stand", "_law_feed", "_law_draw", "_law_pick", "_law_lies", "_law_any_stand", "_law_is_word", "_law_fits", "_law_is_stand", "_law_bent"]
abbrev loose : List Str := loose0
set_option maxHeartbeats 0 in
theorem run_false (w : World) : HandSHeadRun.RunEq R (PySem.W.view R.prog [20]) hk ob 4000 loose (w.withFollow "special-get-raises" false) := by
  intro os
  kernel_rfl
set_option maxHeartbeats 0 in
theorem run_true (w : World) : HandSHeadRun.RunEq R (PySem.W.view R.prog [20]) hk ob 4000 loose (w.withFollow "special-get-raises" true) := by
  intro os
  kernel_rfl
theorem run (w : World) : HandSHeadRun.RunEq R (PySem.W.view R.prog [20]) hk ob 4000 loose w :=
  PySem.W.byRow2 "special-get-raises" (P := fun w => HandSHeadRun.RunEq R (PySem.W.view R.prog [20]) hk ob 4000 loose w) run_false run_true w
theorem facts {w : World} {K : PySem.W.Frag} {h : Heap} {mg : Str → Option Value} (X : K.In h) (G : h.Ns mainGlobals mg) (c : He.SaysX fa fn tabs [] ex w h K) : Tx K mg w where
  f_all := He.free_ok X G (c.t.d.fact 15 (f := .free "all") rfl)
  f_bool := He.free_ok X G (c.t.d.fact 16 (f := .free "bool") rfl)
  f_int := He.free_ok X G (c.t.d.fact 17 (f := .free "int") rfl)
  f_isinstance := He.free_ok X G (c.t.d.fact 18 (f := .free "isinstance") rfl)
  f_len := He.free_ok X G (c.t.d.fact 19 (f := .free "len") rfl)
  f_list := He.free_ok X G (c.t.d.fact 20 (f := .free "list") rfl)
  f_range := He.free_ok X G (c.t.d.fact 21 (f := .free "range") rfl)
  f_repr := He.free_ok X G (c.t.d.fact 22 (f := .free "repr") rfl)
  f_str := He.free_ok X G (c.t.d.fact 23 (f := .free "str") rfl)
  f_tuple := He.free_ok X G (c.t.d.fact 24 (f := .free "tuple") rfl)
  g_FIRST_STAND := gloB_ok X G (He.ba c.more).1
  g_HELD_WORDS := gloB_ok X G (He.ba (He.ba c.more).2).1
  g_PUT_WORDS := gloB_ok X G (He.ba (He.ba (He.ba c.more).2).2).1
  g_LIES_TO := gdict_of (He.glo_ok X G (c.t.d.fact 25 (f := .glo "LIES_TO") rfl)) (c.t.tab 0 rfl) (He.ba (He.ba (He.ba (He.ba c.more).2).2).2).1
  mp_is_word_of := He.glo_ok X G (c.t.d.fact 0 (f := .glo "is_word_of") rfl)
  dp_is_word_of := c.t.d.def_ 0 rfl
  mp_lies_fits := He.glo_ok X G (c.t.d.fact 1 (f := .glo "lies_fits") rfl)
  dp_lies_fits := c.t.d.def_ 1 rfl
  mp_is_running_stand := He.glo_ok X G (c.t.d.fact 2 (f := .glo "is_running_stand") rfl)
  dp_is_running_stand := c.t.d.def_ 2 rfl
  mp_is_going_stand := He.glo_ok X G (c.t.d.fact 3 (f := .glo "is_going_stand") rfl)
  dp_is_going_stand := c.t.d.def_ 3 rfl
  mp_is_stand := He.glo_ok X G (c.t.d.fact 4 (f := .glo "is_stand") rfl)
  dp_is_stand := c.t.d.def_ 4 rfl
  mf_law_feed := He.glo_ok X G (c.t.d.fact 5 (f := .glo "_law_feed") rfl)
  df_law_feed := c.t.d.def_ 5 rfl
  mf_law_draw := He.glo_ok X G (c.t.d.fact 6 (f := .glo "_law_draw") rfl)
  df_law_draw := c.t.d.def_ 6 rfl
  mf_law_pick := He.glo_ok X G (c.t.d.fact 7 (f := .glo "_law_pick") rfl)
  df_law_pick := c.t.d.def_ 7 rfl
  mf_law_lies := He.glo_ok X G (c.t.d.fact 8 (f := .glo "_law_lies") rfl)
  df_law_lies := c.t.d.def_ 8 rfl
  mf_law_any_stand := He.glo_ok X G (c.t.d.fact 9 (f := .glo "_law_any_stand") rfl)
  df_law_any_stand := c.t.d.def_ 9 rfl
  mf_law_is_word := He.glo_ok X G (c.t.d.fact 10 (f := .glo "_law_is_word") rfl)
  df_law_is_word := c.t.d.def_ 10 rfl
  mf_law_fits := He.glo_ok X G (c.t.d.fact 11 (f := .glo "_law_fits") rfl)
  df_law_fits := c.t.d.def_ 11 rfl
  mf_law_is_stand := He.glo_ok X G (c.t.d.fact 12 (f := .glo "_law_is_stand") rfl)
  df_law_is_stand := c.t.d.def_ 12 rfl
  mf_law_bent := He.glo_ok X G (c.t.d.fact 13 (f := .glo "_law_bent") rfl)
  df_law_bent := c.t.d.def_ 13 rfl
  mp_law := He.glo_ok X G (c.t.d.fact 14 (f := .glo "law") rfl)
  dp_law := c.t.d.def_ 14 rfl
end PLaw

set_option Elab.async false
set_option linter.all false
set_option maxRecDepth 100000
open PySem PySem.W PySem.Calls
set_option maxRecDepth 100000 in
set_option maxHeartbeats 0 in
theorem PySem.Challenge.cw_pagelives_k31_stands_by_form_holds : PySem.Challenge.rw_pagelives_k31_stands_by_form.Holds := by
  w_on; o_law
  refine HandSHeadRun.head_any (r := PLaw.R) (q := view PLaw.R.prog [20]) (H := PLaw.hk) (ob := PLaw.ob) (M := 4000) (loose := PLaw.loose) (d := HandSHeadRun.topDef PLaw.R.prog 20) (kwd := []) PLaw.ob_eq
    (by kernel_rfl) (fun s => by kernel_rfl) PLaw.run (by kernel_rfl) (by kernel_rfl) (by kernel_rfl) (by rfl) (by first | assumption | decide +kernel) (by decide +kernel) ⟨rfl, rfl, rfl, rfl, rfl, by decide +kernel⟩ ?hw ?hc
  case hw => w_witness2
  case hc =>
    refine PL.walkG (l := PySem.Challenge.rw_pagelives_k31_stands_by_form) (n := 63) (k := 5) (x := "_law_script") (CX := fun _ => L2.CX0) rfl (by decide) (by kernel_rfl) ⟨rfl, by decide, by decide⟩ ?F (fun _ _ _ _ _ z => z)
    intro w mg fa h Y G hmg0
    obtain ⟨K, KX, c⟩ := Y
    have hmg : mg ("law" : PySem.Str) = some (.ref fa) := by
      have e : (HandSHeadRun.topDef PLaw.R.prog 20).name = ("law" : PySem.Str) := by kernel_rfl
      rw [← e]
      exact hmg0
    have T := PLaw.facts KX G c
    obtain ⟨fd, F⟩ := T.dp_law
    have efa := hmg.symm.trans T.mp_law
    cases efa
    have bi := L2.FunD.bindsA (ps := ["_law_script"]) F fun _ _ _ _ _ _ us hl => match us, hl with | [_], _ => rfl
    refine ⟨K, fd, PL.spD ⟨K, fun _ => none⟩ 1 PLaw.sp_law, KX, fun s v => bi s [v] rfl, fun H a ns hl _ hS => PL.law_keeps (PLaw.law_true ns hl).choose_spec hS, fun base _ _ => ?_⟩
    exact PL.fnG_of (PLaw.okp_law T) T.mp_law F
