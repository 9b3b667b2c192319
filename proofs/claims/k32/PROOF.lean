import PyProof.Rows.All
import Wide.All
import OpenK.AllK
import Wide.FinOn
import PySem.Challenge.RW_lastdigits_k32_whole_decimals_there_and
import HandS.ForMost
import HandS.Exc
import HandS.WordsExc
import HandS.IsInst
import HandS.Deep
import HandS.TupAny
import HandS.Gcd
import HandS.WideBits
import HandS.Flow
import HandS.Lambda
import PyProof.StrBlock2
import HandS.Star
import HandS.Style
import HandS.Text
import HandS.Replace
import PyProof.ReprRoads
import HandS.ExcInit
import HandS.ExcSuper
import KE.KExcSuper
import HandS.ExcIs
import HandS.ExcField
import KE.DataFind
import HandS.Defaults
import HandS.HeadHook2
import HandS.HeadWalk
import HandS.Head0
import HandS.Head1
import HandS.Head2
import HandS.EndTab
import KE.KStateDown
import HandS.Head3
section
set_option Elab.async false
set_option linter.all false
set_option maxRecDepth 100000
set_option maxHeartbeats 4000000
/-! M1: values, the store, relations to the layer. -/
namespace Mp
open PySem L2

/-! ### what is reckoned with -/
/-- a value: a datum, or a thing that changes (its cell's number) -/
inductive D where
  | p (d : PyData)
  | obj (n : Nat)
/-- a thing that changes -/
inductive Cell where
  | lst (ds : List D)
  | ins (c : Nat) (fs : List (Str × D))
abbrev Store := List Cell
abbrev Env := List (Option D)
/-- what comes: a value, an exception (its class, what it keeps), nothing that is known -/
inductive R (α : Type) where
  | ok (a : α) (s : Store)
  | exc (c : Nat) (d : PyData) (s : Store)
  | no
def R.bind {α β : Type} (r : R α) (f : α → Store → R β) : R β := match r with
  | .ok a s => f a s
  | .exc c d s => .exc c d s
  | .no => .no
@[simp] theorem R.bind_ok {α β : Type} (a : α) (s : Store) (f : α → Store → R β) : (R.ok a s).bind f = f a s := rfl
@[simp] theorem R.bind_exc {α β : Type} (c : Nat) (d : PyData) (s : Store) (f : α → Store → R β) : (R.exc c d s : R α).bind f = .exc c d s := rfl
@[simp] theorem R.bind_no {α β : Type} (f : α → Store → R β) : (R.no : R α).bind f = .no := rfl

/-! ### data in the layer's heap -/
mutual
inductive Dq (K : PySem.W.Frag) (H : Hp) (B : List Addr) : V → PyData → Prop
  | non : Dq K H B .non .none
  | bl (b : Bool) : Dq K H B (.bl b) (.bool b)
  | int (i : Int) : Dq K H B (.int i) (.int i)
  | str (x : Str) : x.length ≤ sizeLine → Dq K H B (.str x) (.str x)
  | lst {a : Addr} {xs : List V} {ds : List PyData} : a ∉ B → Rd H a (.lst xs) → DqAll K H B xs ds → Dq K H B (.ref a) (.list ds)
  | tup {a : Addr} {xs : List V} {ds : List PyData} : SqT K H a xs → DqAll K H B xs ds → Dq K H B (.ref a) (.tuple ds)
inductive DqAll (K : PySem.W.Frag) (H : Hp) (B : List Addr) : List V → List PyData → Prop
  | nil : DqAll K H B [] []
  | cons {v : V} {vs : List V} {d : PyData} {ds : List PyData} : Dq K H B v d → DqAll K H B vs ds → DqAll K H B (v :: vs) (d :: ds)
end

section
variable {K : PySem.W.Frag} {H H' : Hp} {B B' : List Addr}
mutual
theorem Dq.dp : ∀ {v : V} {d : PyData}, Dq K H B v d → Dp K H v d
  | _, _, .non => .non
  | _, _, .bl b => .bl b
  | _, _, .int i => .int i
  | _, _, .str x _ => .str x
  | _, _, .lst _ h k => .lst (.inl h) (DqAll.dp k)
  | _, _, .tup h k => .tup h (DqAll.dp k)
theorem DqAll.dp : ∀ {vs : List V} {ds : List PyData}, DqAll K H B vs ds → DpAll K H vs ds
  | _, _, .nil => .nil
  | _, _, .cons h k => .cons (Dq.dp h) (DqAll.dp k)
end
mutual
theorem Dq.mono (h1 : ∀ a xs, a ∉ B → Rd H a (.lst xs) → a ∉ B' ∧ Rd H' a (.lst xs)) (h2 : ∀ a xs, SqT K H a xs → SqT K H' a xs) : ∀ {v : V} {d : PyData}, Dq K H B v d → Dq K H' B' v d
  | _, _, .non => .non
  | _, _, .bl b => .bl b
  | _, _, .int i => .int i
  | _, _, .str x z => .str x z
  | _, _, .lst n h k => .lst (h1 _ _ n h).1 (h1 _ _ n h).2 (DqAll.mono h1 h2 k)
  | _, _, .tup h k => .tup (h2 _ _ h) (DqAll.mono h1 h2 k)
theorem DqAll.mono (h1 : ∀ a xs, a ∉ B → Rd H a (.lst xs) → a ∉ B' ∧ Rd H' a (.lst xs)) (h2 : ∀ a xs, SqT K H a xs → SqT K H' a xs) : ∀ {vs : List V} {ds : List PyData}, DqAll K H B vs ds → DqAll K H' B' vs ds
  | _, _, .nil => .nil
  | _, _, .cons h k => .cons (Dq.mono h1 h2 h) (DqAll.mono h1 h2 k)
end
theorem DqAll.length : ∀ {vs : List V} {ds : List PyData}, DqAll K H B vs ds → vs.length = ds.length
  | _, _, .nil => rfl
  | _, _, .cons _ k => by rw [List.length_cons, List.length_cons, DqAll.length k]
theorem DqAll.get : ∀ {vs : List V} {ds : List PyData} {i : Nat} {d : PyData}, DqAll K H B vs ds → ds[i]? = some d → ∃ v, vs[i]? = some v ∧ Dq K H B v d
  | _, _, _, _, .nil, e => by simp at e
  | _, _, 0, _, .cons h _, e => by simp at e; subst e; exact ⟨_, rfl, h⟩
  | _, _, i + 1, d, .cons _ k, e => by
    obtain ⟨v, h1, h2⟩ := DqAll.get (i := i) (d := d) k (by simpa using e)
    exact ⟨v, by simpa using h1, h2⟩
theorem DqAll.app : ∀ {vs ws : List V} {ds es : List PyData}, DqAll K H B vs ds → DqAll K H B ws es → DqAll K H B (vs ++ ws) (ds ++ es)
  | _, _, _, _, .nil, k => k
  | _, _, _, _, .cons h k, k' => .cons h (DqAll.app k k')
end

/-- what is told of the program's own things: the written part, where classes stand, what an exception keeps -/
structure Gm where
  K : PySem.W.Frag
  cad : Nat → Addr
  xat : Nat → Option Str
  T : List (Addr × Str) := []

/-- a value in the heap: ρ where the cells stand, B what no datum may be -/
def RD (g : Gm) (H : Hp) (ρ B : List Addr) : D → V → Prop
  | .p d, v => Dq g.K H B v d
  | .obj n, v => ∃ a, ρ[n]? = some a ∧ v = .ref a
inductive RDs (g : Gm) (H : Hp) (ρ B : List Addr) : List D → List V → Prop
  | nil : RDs g H ρ B [] []
  | cons {d : D} {ds : List D} {v : V} {vs : List V} : RD g H ρ B d v → RDs g H ρ B ds vs → RDs g H ρ B (d :: ds) (v :: vs)
inductive RFs (g : Gm) (H : Hp) (ρ B : List Addr) : List (Str × D) → List (Str × V) → Prop
  | nil : RFs g H ρ B [] []
  | cons {f : Str} {d : D} {ds : List (Str × D)} {v : V} {vs : List (Str × V)} : RD g H ρ B d v → RFs g H ρ B ds vs → RFs g H ρ B ((f, d) :: ds) ((f, v) :: vs)
def CellR (g : Gm) (H : Hp) (ρ B : List Addr) : Cell → Addr → Prop
  | .lst ds, a => ∃ xs, H a = some (.lst xs) ∧ RDs g H ρ B ds xs
  | .ins c fs, a => ∃ dx fv, H a = some (.ins (g.cad c) dx fv) ∧ RFs g H ρ B fs fv

structure HRep (g : Gm) (H : Hp) (st : Store) (ρ B : List Addr) : Prop where
  len : ρ.length = st.length
  nd : ρ.Nodup
  sub : ∀ a ∈ ρ, a ∈ B
  mu : ∀ a ∈ B, Mut (H a)
  cell : ∀ (n : Nat) (c : Cell), st[n]? = some c → ∃ a, ρ[n]? = some a ∧ CellR g H ρ B c a
  tabs : LamX.Tabs g.T H
structure Later (H : Hp) (ρ B : List Addr) (H' : Hp) (ρ' B' : List Addr) : Prop where
  ex : ∃ e, ρ' = ρ ++ e ∧ B' = B ++ e ∧ ∀ a ∈ e, ∀ o, H a = some o → ∃ ps, o = .tbl ps
  keep : ∀ a o, H a = some o → a ∉ ρ → (∀ ps, o ≠ .tbl ps) → H' a = some o

theorem mut_some {H : Hp} {a : Addr} (h : Mut (H a)) : ∃ o, H a = some o := by
  cases e : H a with
  | none => rw [e] at h; exact h.elim
  | some o => exact ⟨o, rfl⟩
section
variable {g : Gm} {H H' H1 H2 : Hp} {st st1 : Store} {ρ B ρ1 B1 ρ2 B2 ρ' B' : List Addr}
theorem Later.refl : Later H ρ B H ρ B := ⟨⟨[], by simp, by simp, by simp⟩, fun _ _ h _ _ => h⟩
theorem Later.trans (a : Later H ρ B H1 ρ1 B1) (hm : ∀ a ∈ ρ, Mut (H1 a)) (b : Later H1 ρ1 B1 H2 ρ2 B2) : Later H ρ B H2 ρ2 B2 := by
  obtain ⟨⟨e, e1, e2, e3⟩, ka⟩ := a
  obtain ⟨⟨f, f1, f2, f3⟩, kb⟩ := b
  refine ⟨⟨e ++ f, by rw [f1, e1, List.append_assoc], by rw [f2, e2, List.append_assoc], fun a ha o q => ?_⟩, fun a o h n nt => ?_⟩
  · rcases List.mem_append.mp ha with ha | ha
    · exact e3 a ha o q
    · by_cases ht : ∃ ps, o = .tbl ps
      · exact ht
      · have nt : ∀ ps, o ≠ .tbl ps := fun ps z => ht ⟨ps, z⟩
        by_cases m : a ∈ ρ
        · obtain ⟨u, hu⟩ := mut_some (hm a m)
          have mu := hm a m
          obtain ⟨ps, z⟩ := f3 a ha u hu
          rw [hu, z] at mu
          exact mu.elim
        · exact f3 a ha o (ka a o q m nt)
  · refine kb a o (ka a o h n nt) (fun m => ?_) nt
    rw [e1] at m
    rcases List.mem_append.mp m with m | m
    · exact n m
    · obtain ⟨ps, z⟩ := e3 a m o h
      exact nt ps z
/-- a thing that stands and is no cell: it is so later on -/
theorem Later.rd (l : Later H ρ B H' ρ' B') {a : Addr} {u : HO} (n : a ∉ ρ) (h : Rd H a u) (hu : ∀ ps, u ≠ .tbl ps := by intro _ z; cases z) : Rd H' a u := by
  rcases h with h | ⟨o, h⟩
  · exact .inl (l.keep a _ h n hu)
  · exact .inr ⟨o, l.keep a _ h n (fun _ z => by cases z)⟩
theorem rd_some {a : Addr} {u : HO} (h : Rd H a u) : ∃ o, H a = some o := by
  rcases h with h | ⟨o, h⟩
  · exact ⟨_, h⟩
  · exact ⟨_, h⟩
theorem Later.sqT (l : Later H ρ B H' ρ' B') (hm : ∀ a ∈ ρ, Mut (H a)) {a : Addr} {xs : List V} (h : SqT g.K H a xs) : SqT g.K H' a xs := by
  rcases h with h | h
  · refine .inl (l.rd (fun m => ?_) h)
    have q := hm a m
    rcases h with h | ⟨o, h⟩
    · rw [h] at q; exact q
    · rw [h] at q; exact q
  · exact .inr h
end

section
variable {g : Gm} {H H' H1 H2 : Hp} {st st1 st' : Store} {ρ B ρ1 B1 ρ2 B2 ρ' B' : List Addr}
theorem Later.dq (l : Later H ρ B H' ρ' B') (R : HRep g H st ρ B) {v : V} {d : PyData} (h : Dq g.K H B v d) : Dq g.K H' B' v d := by
  obtain ⟨e, _, e2, e3⟩ := l.ex
  refine Dq.mono (fun a xs n h => ?_) (fun a xs h => l.sqT (g := g) (fun b hb => R.mu b (R.sub b hb)) h) h
  refine ⟨?_, l.rd (fun m => n (R.sub a m)) h⟩
  rw [e2]
  intro m
  rcases List.mem_append.mp m with m | m
  · exact n m
  · rcases h with h | ⟨o, h⟩
    · obtain ⟨ps, z⟩ := e3 a m _ h
      cases z
    · obtain ⟨ps, z⟩ := e3 a m _ h
      cases z
theorem Later.rr (l : Later H ρ B H' ρ' B') (R : HRep g H st ρ B) {d : D} {v : V} (h : RD g H ρ B d v) : RD g H' ρ' B' d v := by
  cases d with
  | p d => exact l.dq R (show Dq g.K H B v d from h)
  | obj n =>
    obtain ⟨a, h1, h2⟩ := h
    obtain ⟨e, e1, _⟩ := l.ex
    refine ⟨a, ?_, h2⟩
    rw [e1, List.getElem?_append_left ((List.getElem?_eq_some_iff.mp h1).1)]
    exact h1
theorem Later.rrs (l : Later H ρ B H' ρ' B') (R : HRep g H st ρ B) {ds : List D} {vs : List V} (h : RDs g H ρ B ds vs) : RDs g H' ρ' B' ds vs := by
  induction h with
  | nil => exact .nil
  | cons h _ ih => exact .cons (l.rr R h) ih
theorem Later.rfs (l : Later H ρ B H' ρ' B') (R : HRep g H st ρ B) {ds : List (Str × D)} {vs : List (Str × V)} (h : RFs g H ρ B ds vs) : RFs g H' ρ' B' ds vs := by
  induction h with
  | nil => exact .nil
  | cons h _ ih => exact .cons (l.rr R h) ih
theorem RDs.length {ds : List D} {vs : List V} (h : RDs g H ρ B ds vs) : vs.length = ds.length := by
  induction h with
  | nil => rfl
  | cons _ _ ih => simp [ih]
theorem RDs.get {ds : List D} {vs : List V} {i : Nat} {d : D} (h : RDs g H ρ B ds vs) (e : ds[i]? = some d) : ∃ v, vs[i]? = some v ∧ RD g H ρ B d v := by
  induction h generalizing i with
  | nil => simp at e
  | cons h _ ih =>
    cases i with
    | zero => simp at e; subst e; exact ⟨_, rfl, h⟩
    | succ i =>
      obtain ⟨v, h1, h2⟩ := ih (i := i) (by simpa using e)
      exact ⟨v, by simpa using h1, h2⟩
theorem RDs.app {ds es : List D} {vs ws : List V} (h : RDs g H ρ B ds vs) (k : RDs g H ρ B es ws) : RDs g H ρ B (ds ++ es) (vs ++ ws) := by
  induction h with
  | nil => exact k
  | cons h _ ih => exact .cons h ih
/-- data alone -/
def pds : List D → Option (List PyData)
  | [] => some []
  | .p d :: r => (pds r).map (d :: ·)
  | .obj _ :: _ => none
theorem RDs.pure {ds : List D} {vs : List V} {es : List PyData} (h : RDs g H ρ B ds vs) (e : pds ds = some es) : DqAll g.K H B vs es := by
  induction h generalizing es with
  | nil => simp [pds] at e; subst e; exact .nil
  | @cons d ds v vs h _ ih =>
    cases d with
    | obj n => simp [pds] at e
    | p d =>
      simp only [pds, Option.map_eq_some_iff] at e
      obtain ⟨es', e1, e2⟩ := e
      subst e2
      exact .cons h (ih e1)
theorem DqAll.rds {vs : List V} {ds : List PyData} (h : DqAll g.K H B vs ds) : RDs g H ρ B (ds.map .p) vs := by
  induction ds generalizing vs with
  | nil => cases h; exact .nil
  | cons d ds ih =>
    cases h with
    | cons h k => exact .cons h (ih k)

/-- the frame -/
structure EnvR (g : Gm) (H : Hp) (ρ B : List Addr) (env : Env) (σ : L2.St) : Prop where
  len : env.length = σ.length
  get : ∀ (i : Nat) (d : D), env[i]? = some (some d) → ∃ v, σ[i]? = some (some v) ∧ RD g H ρ B d v
theorem Later.env (l : Later H ρ B H' ρ' B') (R : HRep g H st ρ B) {env : Env} {σ : L2.St} (h : EnvR g H ρ B env σ) : EnvR g H' ρ' B' env σ :=
  ⟨h.len, fun i d e => by
    obtain ⟨v, h1, h2⟩ := h.get i d e
    exact ⟨v, h1, l.rr R h2⟩⟩
theorem EnvR.set {env : Env} {σ : L2.St} (h : EnvR g H ρ B env σ) {i : Nat} {d : D} {v : V} (r : RD g H ρ B d v) : EnvR g H ρ B (env.set i (some d)) (σ.set i (some v)) := by
  refine ⟨by simp [h.len], fun j e q => ?_⟩
  by_cases hj : i = j
  · subst hj
    by_cases hl : i < env.length
    · rw [List.getElem?_set_self hl] at q
      cases q
      exact ⟨v, by rw [List.getElem?_set_self (by rw [← h.len]; exact hl)], r⟩
    · rw [List.getElem?_eq_none (by simpa using hl)] at q; cases q
  · rw [List.getElem?_set_ne hj] at q
    obtain ⟨w, h1, h2⟩ := h.get j e q
    exact ⟨w, by rw [List.getElem?_set_ne hj]; exact h1, h2⟩

/-- an exception: its class, its own dict -/
def ExcR (g : Gm) (H : Hp) (B : List Addr) (c : Nat) (d : PyData) (cls : Value) (dc : Option Addr) : Prop :=
  cls = .ref (g.cad c) ∧ (match g.xat c with
    | some f => ∃ dx v, dc = some dx ∧ H dx = some (.xd [(f, v)]) ∧ Dq g.K H B v d
    | none => dc = none)

/-- what holds behind: of every heap that has what comes -/
def Post {α β : Type} (g : Gm) (EW : XK) (rel : Hp → List Addr → List Addr → α → β → Prop) (H : Hp) (ρ B : List Addr) (r : R α) (Q : β → Hp → Prop) : Prop :=
  match r with
  | .ok d st' => ∀ v H' ρ' B', Later H ρ B H' ρ' B' → HRep g H' st' ρ' B' → rel H' ρ' B' d v → Q v H'
  | .exc c d st' => ∀ cls dc H' ρ' B', Later H ρ B H' ρ' B' → HRep g H' st' ρ' B' → ExcR g H' B' c d cls dc → EW cls dc H'
  | .no => False
theorem Post.later {α β : Type} {EW : XK} {rel : Hp → List Addr → List Addr → α → β → Prop} {r : R α} {Q : β → Hp → Prop} (h : Post g EW rel H ρ B r Q) (l : Later H ρ B H1 ρ1 B1) (R1 : HRep g H1 st1 ρ1 B1) : Post g EW rel H1 ρ1 B1 r Q := by
  have hm : ∀ a ∈ ρ, Mut (H1 a) := fun a ha => by
    obtain ⟨e, e1, _⟩ := l.ex
    exact R1.mu a (R1.sub a (by rw [e1]; exact List.mem_append_left _ ha))
  cases r with
  | ok d st' => exact fun v H' ρ' B' l' R' k => h v H' ρ' B' (l.trans hm l') R' k
  | exc c d st' => exact fun cls dc H' ρ' B' l' R' k => h cls dc H' ρ' B' (l.trans hm l') R' k
  | no => exact h
/-- a reading of an expression -/
def tS (g : Gm) (EW : XK) (f : Env → Store → R D) : TE := fun σ H Q => ∃ env st ρ B, EnvR g H ρ B env σ ∧ HRep g H st ρ B ∧ Post g EW (RD g) H ρ B (f env st) Q
/-- .. of a list of expressions -/
def tSA (g : Gm) (EW : XK) (f : Env → Store → R (List D)) : TA := fun σ H Q => ∃ env st ρ B, EnvR g H ρ B env σ ∧ HRep g H st ρ B ∧ Post g EW (RDs g) H ρ B (f env st) Q
/-- .. of a test -/
def tST (g : Gm) (EW : XK) (f : Env → Store → R Bool) : TT := fun σ H Q => ∃ env st ρ B, EnvR g H ρ B env σ ∧ HRep g H st ρ B ∧ Post g EW (fun _ _ _ a b => a = b) H ρ B (f env st) Q

/-- one thing behind another -/
theorem seqP {α β γ δ : Type} {EW : XK} {rel : Hp → List Addr → List Addr → α → β → Prop} {rel' : Hp → List Addr → List Addr → γ → δ → Prop} {r : R α} {k : α → Store → R γ} {Q : δ → Hp → Prop} {N : β → Hp → Prop}
    (h : Post g EW rel' H ρ B (r.bind k) Q)
    (n : ∀ d st1 v H1 ρ1 B1, r = .ok d st1 → Later H ρ B H1 ρ1 B1 → HRep g H1 st1 ρ1 B1 → rel H1 ρ1 B1 d v → Post g EW rel' H1 ρ1 B1 (k d st1) Q → N v H1) : Post g EW rel H ρ B r N := by
  cases r with
  | ok d st1 => exact fun v H1 ρ1 B1 l R1 rv => n d st1 v H1 ρ1 B1 rfl l R1 rv (Post.later (st1 := st1) h l R1)
  | exc c d st' => exact h
  | no => exact h
end
end Mp
end

section
set_option Elab.async false
set_option linter.all false
set_option maxRecDepth 100000
set_option maxHeartbeats 4000000
/-! M2: names, constants, operators. -/
namespace Mp
open PySem PySem.Spec PyProof.Rows L2

theorem peImp {X : Cx} {e : Expr} {t t' : TE} (h : PE X e t) (k : ∀ σ H Q, t' σ H Q → t σ H Q) : PE X e t' :=
  ⟨fun pins s σ H Q I q => h.run pins s σ H Q I (k σ H Q q)⟩
theorem ptImp {X : Cx} {e : Expr} {t t' : TT} (h : PT X e t) (k : ∀ σ H Q, t' σ H Q → t σ H Q) : PT X e t' :=
  ⟨fun pins s σ H Q I q => h.run pins s σ H Q I (k σ H Q q)⟩
theorem paImp {X : Cx} {e : List Expr} {t t' : TA} (h : PA X e t) (k : ∀ σ H Q, t' σ H Q → t σ H Q) : PA X e t' :=
  ⟨fun pos pins s σ H Q I q => h.run pos pins s σ H Q I (k σ H Q q)⟩
theorem psImp {X : Cx} {e : Stmt} {t t' : TS} (h : PS X e t) (k : ∀ D σ H, t' D σ H → t D σ H) : PS X e t' :=
  ⟨fun pins s σ H D I q => h.run pins s σ H D I (k D σ H q)⟩

section
variable {g : Gm} {EW : XK} {X : Cx} {H H' : Hp} {st st1 : Store} {ρ B : List Addr}

/-- nothing that stood has changed, nothing of the store -/
theorem sameLater (k : ∀ a o, H a = some o → H' a = some o) : Later H ρ B H' ρ B := ⟨⟨[], by simp, by simp, by simp⟩, fun a o h _ _ => k a o h⟩
theorem mut_nt {o : HO} (m : Mut (some o)) : ∀ ps, o ≠ .tbl ps := fun ps e => by subst e; exact m
/-- all but the tables is kept -/
theorem HRep.sameN (R : HRep g H st ρ B) (k : LamX.ExtN H H') (t : LamX.Tabs g.T H') : Later H ρ B H' ρ B ∧ HRep g H' st ρ B := by
  have l : Later H ρ B H' ρ B := ⟨⟨[], by simp, by simp, by simp⟩, fun a o h _ n => k a o h n⟩
  refine ⟨l, R.len, R.nd, R.sub, fun a ha => ?_, fun n c e => ?_, t⟩
  · have m := R.mu a ha
    obtain ⟨o, q⟩ := mut_some m
    rw [q] at m
    rw [k a o q (mut_nt m)]
    exact m
  · obtain ⟨a, h1, h2⟩ := R.cell n c e
    refine ⟨a, h1, ?_⟩
    cases c with
    | lst ds =>
      obtain ⟨xs, q, r⟩ := h2
      exact ⟨xs, k a _ q (fun _ z => by cases z), l.rrs R r⟩
    | ins c fs =>
      obtain ⟨dx, fv, q, r⟩ := h2
      exact ⟨dx, fv, k a _ q (fun _ z => by cases z), l.rfs R r⟩
theorem HRep.same (R : HRep g H st ρ B) (k : ∀ a o, H a = some o → H' a = some o) : HRep g H' st ρ B := by
  have l : Later H ρ B H' ρ B := sameLater k
  refine ⟨R.len, R.nd, R.sub, fun a ha => ?_, fun n c e => ?_, R.tabs.ext k⟩
  · have m := R.mu a ha
    obtain ⟨o, q⟩ := mut_some m
    rw [q] at m
    rw [k a o q]
    exact m
  · obtain ⟨a, h1, h2⟩ := R.cell n c e
    refine ⟨a, h1, ?_⟩
    cases c with
    | lst ds =>
      obtain ⟨xs, q, r⟩ := h2
      exact ⟨xs, k a _ q, l.rrs R r⟩
    | ins c fs =>
      obtain ⟨dx, fv, q, r⟩ := h2
      exact ⟨dx, fv, k a _ q, l.rfs R r⟩
theorem keepNew {p : Addr} {o : HO} (hp : H p = none) : ∀ a u, H a = some u → upd H p o a = some u := fun a u e => by
  rw [upd_ne (ne_of_none e hp)]
  exact e

theorem Dq.toNil {K : PySem.W.Frag} {v : V} {d : PyData} (h : Dq K H B v d) : Dq K H [] v d := h.mono (fun a xs _ q => ⟨by simp, q⟩) (fun _ _ q => q)
theorem DqAll.toNil {K : PySem.W.Frag} {v : List V} {d : List PyData} (h : DqAll K H B v d) : DqAll K H [] v d := h.mono (fun a xs _ q => ⟨by simp, q⟩) (fun _ _ q => q)

/-- a value as a datum that is looked at now -/
def asP (st : Store) : D → Option PyData
  | .p d => some d
  | .obj n => match st[n]? with
    | some (.lst ds) => (pds ds).map .list
    | _ => none
theorem asP_obj {n : Nat} {c : PyData} (R : HRep g H st ρ B) {v : V} (rd : RD g H ρ B (.obj n) v) (e : asP st (.obj n) = some c) : ∃ a vs xs, v = .ref a ∧ H a = some (.lst vs) ∧ DqAll g.K H B vs xs ∧ c = .list xs := by
  unfold asP at e
  cases q : st[n]? with
  | none => simp [q] at e
  | some cl =>
    cases cl with
    | ins c fs => simp [q] at e
    | lst ds =>
      simp only [q, Option.map_eq_some_iff] at e
      obtain ⟨xs, e1, e2⟩ := e
      obtain ⟨a, h1, vs, h2, h3⟩ := R.cell n _ q
      obtain ⟨a', h4, h5⟩ := rd
      rw [h1] at h4; cases h4
      exact ⟨a, vs, xs, h5, h2, h3.pure e1, e2.symm⟩
theorem asP_nil {d : D} {c : PyData} (R : HRep g H st ρ B) {v : V} (rd : RD g H ρ B d v) (e : asP st d = some c) : Dq g.K H [] v c := by
  cases d with
  | p d => cases e; exact Dq.toNil (B := B) rd
  | obj n =>
    obtain ⟨a, vs, xs, rfl, h1, h2, rfl⟩ := asP_obj R rd e
    exact .lst (by simp) (.inl h1) h2.toNil
theorem asP_list {d : D} {xs : List PyData} (R : HRep g H st ρ B) {v : V} (rd : RD g H ρ B d v) (e : asP st d = some (.list xs)) : ∃ a vs, v = .ref a ∧ Rd H a (.lst vs) ∧ DqAll g.K H B vs xs := by
  cases d with
  | p d =>
    cases e
    have rd' : Dq g.K H B v (.list xs) := rd
    cases rd' with
    | lst n h k => exact ⟨_, _, rfl, h, k⟩
  | obj n =>
    obtain ⟨a, vs, ys, rfl, h1, h2, e⟩ := asP_obj R rd e
    cases e
    exact ⟨a, vs, rfl, .inl h1, h2⟩
theorem asP_flat {d : D} {c : PyData} (R : HRep g H st ρ B) {v : V} (rd : RD g H ρ B d v) (e : asP st d = some c) (nl : ∀ xs, c ≠ .list xs) : Dq g.K H B v c := by
  cases d with
  | p d => cases e; exact rd
  | obj n =>
    obtain ⟨a, vs, ys, rfl, h1, h2, e⟩ := asP_obj R rd e
    exact absurd e (nl _)
theorem asP_int {d : D} {i : Int} (R : HRep g H st ρ B) {v : V} (rd : RD g H ρ B d v) (e : asP st d = some (.int i)) : v = .int i := by
  cases asP_flat R rd e (fun _ => nofun); rfl
theorem asP_str {d : D} {i : Str} (R : HRep g H st ρ B) {v : V} (rd : RD g H ρ B d v) (e : asP st d = some (.str i)) : v = .str i ∧ i.length ≤ sizeLine := by
  cases asP_flat R rd e (fun _ => nofun) with
  | str _ z => exact ⟨rfl, z⟩
theorem asP_tup {d : D} {xs : List PyData} (R : HRep g H st ρ B) {v : V} (rd : RD g H ρ B d v) (e : asP st d = some (.tuple xs)) : ∃ a vs, v = .ref a ∧ SqT g.K H a vs ∧ DqAll g.K H B vs xs := by
  cases asP_flat R rd e (fun _ => nofun) with
  | tup h k => exact ⟨_, _, rfl, h, k⟩

/-! ### what comes behind -/
def ofO (o : Option PyData) (st : Store) : R D := match o with
  | some d => .ok (.p d) st
  | none => .no
theorem post_same {Q : VK} {d : PyData} (R : HRep g H st ρ B) (h : Post g EW (RD g) H ρ B (ofO (some d) st) Q) {v : V} (k : ∀ a o, H a = some o → H' a = some o) (r : Dq g.K H' B v d) : Q v H' :=
  h v H' ρ B (sameLater k) (R.same k) r
theorem post_val {Q : VK} {d : PyData} (R : HRep g H st ρ B) (h : Post g EW (RD g) H ρ B (ofO (some d) st) Q) {v : V} (r : Dq g.K H B v d) : Q v H := post_same R h (fun _ _ e => e) r
theorem HRep.nb (R : HRep g H st ρ B) {p : Addr} (hp : H p = none) : p ∉ B := fun m => by
  obtain ⟨o, q⟩ := mut_some (R.mu p m)
  rw [hp] at q; cases q
theorem post_lst {Q : VK} {ds : List PyData} {vs : List V} {p : Addr} (R : HRep g H st ρ B) (h : Post g EW (RD g) H ρ B (ofO (some (.list ds)) st) Q) (r : DqAll g.K H B vs ds) (hp : H p = none) : Q (.ref p) (upd H p (.lst vs)) :=
  post_same R h (keepNew hp) (.lst (R.nb hp) (.inl upd_same) (r.mono (fun a xs n q => ⟨n, (sameLater (ρ := []) (B := []) (keepNew hp)).rd (by simp) q⟩) fun a xs q => (sameLater (ρ := []) (B := []) (keepNew hp)).sqT (g := g) (by simp) q))
theorem post_tup {Q : VK} {ds : List PyData} {vs : List V} {p : Addr} (R : HRep g H st ρ B) (h : Post g EW (RD g) H ρ B (ofO (some (.tuple ds)) st) Q) (r : DqAll g.K H B vs ds) (hp : H p = none) : Q (.ref p) (upd H p (.tup vs)) :=
  post_same R h (keepNew hp) (.tup (.inl (.inl upd_same)) (r.mono (fun a xs n q => ⟨n, (sameLater (ρ := []) (B := []) (keepNew hp)).rd (by simp) q⟩) fun a xs q => (sameLater (ρ := []) (B := []) (keepNew hp)).sqT (g := g) (by simp) q))

/-! ### names, constants -/
def fVar (i : Nat) : Env → Store → R D := fun env st => match env[i]? with
  | some (some d) => .ok d st
  | _ => .no
theorem em_var {i : Nat} {x : Str} {pos : Pos} (hN : X.N[i]? = some x) (hv : Vis X.env.scope x) (hd : (x == ("__debug__" : Str)) = false) (hcd : (x == ("__classdict__" : Str)) = false) : PE X (.Name x pos) (tS g EW (fVar i)) := by
  refine peImp (pe_var hN hv hd hcd) fun σ H Q ⟨env, st, ρ, B, er, R, h⟩ => ?_
  unfold fVar at h
  cases e : env[i]? with
  | none => simp only [e] at h; exact h.elim
  | some o =>
    cases o with
    | none => simp only [e] at h; exact h.elim
    | some d =>
      simp only [e] at h
      obtain ⟨v, h1, h2⟩ := er.get i d e
      exact ⟨v, h1, h v H ρ B Later.refl R h2⟩
def fC (d : PyData) : Env → Store → R D := fun _ st => .ok (.p d) st
theorem em_con {v : V} {d : PyData} {e : Expr} (h : PE X e (tC v)) (k : ∀ H B, Dq g.K H B v d) : PE X e (tS g EW (fC d)) :=
  peImp h fun σ H Q ⟨env, st, ρ, B, er, R, q⟩ => q v H ρ B Later.refl R (k H B)
theorem em_int {i j pos} : PE X (.Constant (.int i) j pos) (tS g EW (fC (.int i))) := em_con pe_int fun _ _ => .int i
theorem em_bl {i j pos} : PE X (.Constant (.bool i) j pos) (tS g EW (fC (.bool i))) := em_con pe_bl fun _ _ => .bl i
theorem em_non {j pos} : PE X (.Constant .none j pos) (tS g EW (fC .none)) := em_con pe_non fun _ _ => .non
theorem em_str {i j pos} (h : i.length ≤ sizeLine) : PE X (.Constant (.str i) j pos) (tS g EW (fC (.str i))) := em_con pe_str fun _ _ => .str i h

/-! ### operators -/
inductive BOp where
  | add | sub | mul | fdiv | mod | pow | shr
def mulOk (i j : Int) : Bool := decide (i.natAbs < 2 ^ 64) || decide (j.natAbs < 2 ^ 64)
def repOk (x : Str) (n : Int) : Bool := decide (x.length ≤ 1) && decide (n < 1000000) && decide (-1000000 < n)
def addV : PyData → PyData → Option PyData
  | .int i, .int j => some (.int (i + j))
  | .str x, .str y => if x.length + y.length ≤ sizeLine then some (.str (x ++ y)) else none
  | .list xs, .list ys => if xs.length + ys.length ≤ sizeLine then some (.list (xs ++ ys)) else none
  | .tuple xs, .tuple ys => if xs.length + ys.length ≤ sizeLine then some (.tuple (xs ++ ys)) else none
  | _, _ => none
def subV : PyData → PyData → Option PyData
  | .int i, .int j => some (.int (i - j))
  | _, _ => none
def repS (x : Str) (n : Nat) : Str := ⟨(List.replicate n x.cps.toList).flatten.toArray⟩
def mulV : PyData → PyData → Option PyData
  | .int i, .int j => if mulOk i j then some (.int (i * j)) else none
  | .str x, .int n => if repOk x n then some (.str (repS x n.toNat)) else none
  | _, _ => none
def fdivV : PyData → PyData → Option PyData
  | .int i, .int j => if j ≠ 0 ∧ j.natAbs < 1073741824 then some (.int (i.fdiv j)) else if 0 < j ∧ j.natAbs < 2 ^ 8000 then some (.int (i.fdiv j)) else none
  | _, _ => none
def modV : PyData → PyData → Option PyData
  | .int i, .int j => if j ≠ 0 then some (.int (i.fmod j)) else none
  | _, _ => none
def powV : PyData → PyData → Option PyData
  | .int i, .int j => if 0 ≤ j ∧ j ≤ 10000 ∧ i.natAbs < 2 ^ 64 then some (.int (i ^ j.toNat)) else none
  | _, _ => none
def shrV : PyData → PyData → Option PyData
  | .int i, .int j => if 0 ≤ j then some (.int (i / 2 ^ j.toNat)) else none
  | _, _ => none
def binV : BOp → PyData → PyData → Option PyData
  | .add => addV
  | .sub => subV
  | .mul => mulV
  | .fdiv => fdivV
  | .mod => modV
  | .pow => powV
  | .shr => shrV
def binS (op : BOp) (d e : D) (st : Store) : R D := match asP st d, asP st e with
  | some a, some b => ofO (binV op a b) st
  | _, _ => .no
def rB (g : Gm) (EW : XK) (op : BOp) : R2 := fun x y H Q => ∃ d e st ρ B, HRep g H st ρ B ∧ RD g H ρ B d x ∧ RD g H ρ B e y ∧ Post g EW (RD g) H ρ B (binS op d e st) Q
theorem rB_of {op : BOp} {x y : V} {Q : VK} (h : rB g EW op x y H Q) : ∃ d e st ρ B a b c, HRep g H st ρ B ∧ RD g H ρ B d x ∧ RD g H ρ B e y ∧ asP st d = some a ∧ asP st e = some b ∧ binV op a b = some c ∧ Post g EW (RD g) H ρ B (ofO (some c) st) Q := by
  obtain ⟨d, e, st, ρ, B, R, rd, re, h⟩ := h
  unfold binS at h
  cases ea : asP st d with
  | none => simp only [ea] at h; exact h.elim
  | some a =>
    cases eb : asP st e with
    | none => simp only [ea, eb] at h; exact h.elim
    | some b =>
      simp only [ea, eb] at h
      cases ec : binV op a b with
      | none => rw [ec] at h; exact h.elim
      | some c => rw [ec] at h; exact ⟨d, e, st, ρ, B, a, b, c, R, rd, re, ea, eb, ec, h⟩
/-- list + list, whatever they are -/
theorem op_cats : OpR X (binaryOp .Add) (fun x y H Q => ∃ l b xs zs, x = .ref l ∧ y = .ref b ∧ Rd H l (.lst xs) ∧ Rd H b (.lst zs) ∧ xs.length + zs.length ≤ sizeLine ∧ ∀ p, H p = none → Q (.ref p) (upd H p (.lst (xs ++ zs)))) := by
  intro pins s σ H x y v u Q I rx ry h
  obtain ⟨l, b, xs, zs, rfl, rfl, hH, hB, hz, q⟩ := h
  cases rx
  cases ry
  obtain ⟨z, its, n, r, e⟩ := hH.ok I.hok
  obtain ⟨z2, its2, n2, r2, e2⟩ := hB.ok I.hok
  have hl := r.length
  have hl2 := r2.length
  refine PySem.P.add_list e e2 ?_ (by rw [List.size_toArray, List.size_toArray]; omega)
  have ea : its.toArray ++ its2.toArray = (its ++ its2).toArray := by simp
  rw [ea]
  exact ⟨.ref _, _, I.lnew (t' := s.toks) (r.append r2) (by rw [List.length_append]; omega), rfl, q _ I.fresh⟩
theorem or_add (hK : X.K = g.K) : OpR X (binaryOp .Add) (rB g EW .add) := by
  intro pins s σ H x y v u Q I rx ry h0
  obtain ⟨d, e, st, ρ, B, a, b, c, R, rd, re, ea, eb, ec, h⟩ := rB_of h0
  clear h0
  simp only [binV] at ec
  unfold addV at ec
  split at ec
  · cases ec
    obtain rfl := asP_int R rd ea
    obtain rfl := asP_int R re eb
    exact op_add pins s σ H _ _ v u Q I rx ry ⟨_, _, rfl, rfl, post_val R h (.int _)⟩
  · split at ec
    · cases ec
      obtain ⟨rfl, z1⟩ := asP_str R rd ea
      obtain ⟨rfl, z2⟩ := asP_str R re eb
      rename_i hz
      exact op_add_str pins s σ H _ _ v u Q I rx ry ⟨_, _, rfl, rfl, hz, post_val R h (.str _ (by
        show (_ ++ _ : Array Nat).size ≤ sizeLine
        rw [Array.size_append]
        exact hz))⟩
    · cases ec
  · split at ec
    · cases ec
      obtain ⟨l1, v1, rfl, h1, k1⟩ := asP_list R rd ea
      obtain ⟨l2, v2, rfl, h2, k2⟩ := asP_list R re eb
      rename_i hz
      exact op_cats pins s σ H _ _ v u Q I rx ry ⟨l1, l2, v1, v2, rfl, rfl, h1, h2, by rw [k1.length, k2.length]; exact hz, fun p hp => post_lst R h (k1.app k2) hp⟩
    · cases ec
  · split at ec
    · cases ec
      obtain ⟨l1, v1, rfl, h1, k1⟩ := asP_tup R rd ea
      obtain ⟨l2, v2, rfl, h2, k2⟩ := asP_tup R re eb
      rename_i hz
      refine op_catA pins s σ H _ _ v u Q I rx ry ⟨l1, l2, v1, v2, rfl, rfl, by rw [hK]; exact h1, by rw [hK]; exact h2, by rw [k1.length, k2.length]; exact hz, fun z => ?_, fun z1 z => ?_, fun _ _ p hp => post_tup R h (k1.app k2) hp⟩
      · subst z
        cases k1
        exact post_val R h (.tup h2 k2)
      · subst z
        cases k2
        rw [List.append_nil] at h
        exact post_val R h (.tup h1 k1)
    · cases ec
  · cases ec
theorem or_sub : OpR X (binaryOp .Sub) (rB g EW .sub) := by
  intro pins s σ H x y v u Q I rx ry h0
  obtain ⟨d, e, st, ρ, B, a, b, c, R, rd, re, ea, eb, ec, h⟩ := rB_of h0
  clear h0
  simp only [binV] at ec
  unfold subV at ec
  split at ec
  · cases ec
    obtain rfl := asP_int R rd ea
    obtain rfl := asP_int R re eb
    exact op_sub pins s σ H _ _ v u Q I rx ry ⟨_, _, rfl, rfl, post_val R h (.int _)⟩
  · cases ec
theorem foldl_app (l : List (Array Nat)) : ∀ a : Array Nat, l.foldl (· ++ ·) a = ⟨a.toList ++ (l.map (·.toList)).flatten⟩ := by
  induction l with
  | nil => intro a; simp
  | cons x r ih =>
    intro a
    rw [List.foldl_cons, ih]
    simp
theorem rep_eq {x : Str} {n : Int} (h : repOk x n = true) : Txt.mul x n = repS x n.toNat := by
  unfold Txt.mul repS
  by_cases h1 : n < 1
  · rw [if_pos h1]
    have : n.toNat = 0 := by omega
    rw [this]
    rfl
  · rw [if_neg h1]
    by_cases h2 : (n == 1 || x.length == 0) = true
    · rw [if_pos h2]
      rcases Bool.or_eq_true_iff.mp h2 with h3 | h3
      · have : n = 1 := by simpa using h3
        subst this
        simp
      · have h4 : x.cps = #[] := by
          have : x.cps.size = 0 := by simpa [Str.length] using h3
          exact Array.eq_empty_of_size_eq_zero this
        obtain ⟨c⟩ := x
        simp only at h4
        subst h4
        simp
    · rw [if_neg h2, foldl_app]
      simp
theorem or_mul : OpR X (binaryOp .Mult) (rB g EW .mul) := by
  intro pins s σ H x y v u Q I rx ry h0
  obtain ⟨d, e, st, ρ, B, a, b, c, R, rd, re, ea, eb, ec, h⟩ := rB_of h0
  clear h0
  simp only [binV] at ec
  unfold mulV at ec
  split at ec
  · split at ec
    · rename_i i j hm
      cases ec
      obtain rfl := asP_int R rd ea
      obtain rfl := asP_int R re eb
      refine op_mul pins s σ H _ _ v u Q I rx ry ⟨_, _, rfl, rfl, ?_, post_val R h (.int _)⟩
      unfold mulOk at hm
      simp only [Bool.or_eq_true, decide_eq_true_eq] at hm
      unfold CMul
      omega
    · cases ec
  · split at ec
    · rename_i z n hm
      cases ec
      obtain ⟨rfl, z1⟩ := asP_str R rd ea
      obtain rfl := asP_int R re eb
      obtain ⟨t, rfl⟩ := rx
      obtain ⟨t', rfl⟩ := ry
      have hm' := hm
      unfold repOk at hm'
      simp only [Bool.and_eq_true, decide_eq_true_eq] at hm'
      have hs := sizeLine_eq
      have hlen : z.length * n.toNat ≤ 1 * 1000000 := Nat.mul_le_mul hm'.1.1 (by omega)
      refine SB.mul ⟨?_, fun h1 _ => ?_, fun _ _ => ?_⟩ fun t2 k => ⟨.str (repS z n.toNat), H, I.tok _, ⟨_, by rw [rep_eq hm]⟩, post_val R h (.str _ ?_)⟩
      · simp only [Bool.or_eq_false_iff, decide_eq_false_iff_not]
        omega
      · have : (2 ^ 63 - 1) / n ≥ 1 := by
          refine Int.le_ediv_of_mul_le (by omega) ?_
          omega
        have := hm'.1.1
        omega
      · unfold Builtin.Str.tooLong
        simp only [decide_eq_false_iff_not]
        omega
      · show (repS z n.toNat).cps.size ≤ sizeLine
        unfold repS
        simp only [List.size_toArray, List.length_flatten, List.map_replicate, List.sum_replicate_nat, Array.length_toList]
        have : n.toNat * z.cps.size = z.length * n.toNat := Nat.mul_comm _ _
        omega
    · cases ec
  · cases ec
theorem or_fdiv : OpR X (binaryOp .FloorDiv) (rB g EW .fdiv) := by
  intro pins s σ H x y v u Q I rx ry h0
  obtain ⟨d, e, st, ρ, B, a, b, c, R, rd, re, ea, eb, ec, h⟩ := rB_of h0
  clear h0
  simp only [binV] at ec
  unfold fdivV at ec
  split at ec
  · rename_i i j
    obtain rfl := asP_int R rd ea
    obtain rfl := asP_int R re eb
    split at ec
    · rename_i hz
      cases ec
      exact op_fdivN pins s σ H _ _ v u Q I rx ry ⟨_, _, rfl, rfl, hz, post_val R h (.int _)⟩
    · split at ec
      · rename_i hz
        cases ec
        refine op_fdivW pins s σ H _ _ v u Q I rx ry ⟨_, _, rfl, rfl, wide_div (b := 8000) hz.1 hz.2 (by decide) (by decide), ?_⟩
        show Q (.int (i / j)) H
        rw [← Int.fdiv_eq_ediv_of_nonneg i (Int.le_of_lt hz.1)]
        exact post_val R h (.int _)
      · cases ec
  · cases ec
theorem or_mod : OpR X (binaryOp .Mod) (rB g EW .mod) := by
  intro pins s σ H x y v u Q I rx ry h0
  obtain ⟨d, e, st, ρ, B, a, b, c, R, rd, re, ea, eb, ec, h⟩ := rB_of h0
  clear h0
  simp only [binV] at ec
  unfold modV at ec
  split at ec
  · split at ec
    · rename_i hz
      cases ec
      obtain rfl := asP_int R rd ea
      obtain rfl := asP_int R re eb
      exact op_modN pins s σ H _ _ v u Q I rx ry ⟨_, _, rfl, rfl, hz, post_val R h (.int _)⟩
    · cases ec
  · cases ec
theorem or_pow : OpR X (binaryOp .Pow) (rB g EW .pow) := by
  intro pins s σ H x y v u Q I rx ry h0
  obtain ⟨d, e, st, ρ, B, a, b, c, R, rd, re, ea, eb, ec, h⟩ := rB_of h0
  clear h0
  simp only [binV] at ec
  unfold powV at ec
  split at ec
  · split at ec
    · rename_i hz
      cases ec
      obtain rfl := asP_int R rd ea
      obtain rfl := asP_int R re eb
      exact op_pow pins s σ H _ _ v u Q I rx ry ⟨_, _, rfl, rfl, ⟨hz.1, by omega, hz.2.2⟩, post_val R h (.int _)⟩
    · cases ec
  · cases ec
theorem or_shr : OpR X (binaryOp .RShift) (rB g EW .shr) := by
  intro pins s σ H x y v u Q I rx ry h0
  obtain ⟨d, e, st, ρ, B, a, b, c, R, rd, re, ea, eb, ec, h⟩ := rB_of h0
  clear h0
  simp only [binV] at ec
  unfold shrV at ec
  split at ec
  · split at ec
    · rename_i hz
      cases ec
      obtain rfl := asP_int R rd ea
      obtain rfl := asP_int R re eb
      exact op_shr pins s σ H _ _ v u Q I rx ry ⟨_, _, rfl, rfl, hz, post_val R h (.int _)⟩
    · cases ec
  · cases ec
def fBin (op : BOp) (fa fb : Env → Store → R D) : Env → Store → R D := fun env st => (fa env st).bind fun d st1 => (fb env st1).bind fun e st2 => binS op d e st2
/-- two expressions, then what is made of both -/
theorem em_two {e : Expr} {r : R2} {ta tb : TE} {fa fb : Env → Store → R D} {k : D → D → Store → R D} (ho : PE X e (tOp r (tS g EW fa) (tS g EW fb)))
    (hr : ∀ x y H Q, (∃ d e st ρ B, HRep g H st ρ B ∧ RD g H ρ B d x ∧ RD g H ρ B e y ∧ Post g EW (RD g) H ρ B (k d e st) Q) → r x y H Q) :
    PE X e (tS g EW fun env st => (fa env st).bind fun d st1 => (fb env st1).bind fun e st2 => k d e st2) := by
  refine peImp ho fun σ H Q ⟨env, st, ρ, B, er, R, h⟩ => ?_
  refine ⟨env, st, ρ, B, er, R, seqP h fun d st1 x H1 ρ1 B1 _ l1 R1 r1 h1 => ?_⟩
  refine ⟨env, st1, ρ1, B1, l1.env R er, R1, seqP h1 fun e st2 y H2 ρ2 B2 _ l2 R2 r2 h2 => ?_⟩
  exact hr x y H2 Q ⟨d, e, st2, ρ2, B2, R2, l2.rr R1 r1, r2, h2⟩
theorem em_bin {op : Operator} {bop : BOp} {a b : Expr} {pos : Pos} {fa fb : Env → Store → R D} (ho : OpR X (binaryOp op) (rB g EW bop)) (ha : PE X a (tS g EW fa)) (hb : PE X b (tS g EW fb)) : PE X (.BinOp a op b pos) (tS g EW (fBin bop fa fb)) :=
  em_two (ta := tS g EW fa) (tb := tS g EW fb) (pe_op ho ha hb) fun _ _ _ _ h => h
end
end Mp
end

section
set_option Elab.async false
set_option linter.all false
set_option maxRecDepth 100000
set_option maxHeartbeats 4000000
/-! M3: comparisons, displays, items, slices. -/
namespace Mp
open PySem PySem.Spec PyProof.Rows L2
section
variable {g : Gm} {EW : XK} {X : Cx} {H H' : Hp} {st st1 : Store} {ρ B : List Addr}

/-! ### comparisons -/
inductive COp where
  | eq | ne | lt | le | gt | ge | isin | notin | is | isnot
def eqV (a b : PyData) : Option Bool := if SeqAt.shaped a && SeqAt.shaped b then some (PyData.eqv a b) else none
def ltV : PyData → PyData → Option Bool
  | .int i, .int j => some (decide (i < j))
  | .str x, .str y => some (decide (x.cps.toList < y.cps.toList))
  | _, _ => none
def leV : PyData → PyData → Option Bool
  | .int i, .int j => some (decide (i ≤ j))
  | .str x, .str y => some (!decide (y.cps.toList < x.cps.toList))
  | _, _ => none
def inV : PyData → PyData → Option Bool
  | .str x, .str y => match x.cps.toList with
    | [c] => some (decide (c ∈ y.cps.toList))
    | _ => none
  | a, .list xs => if SeqAt.shaped a && SeqAt.shaped (.list xs) then some (xs.any fun z => PyData.eqv z a) else none
  | a, .tuple xs => if SeqAt.shaped a && SeqAt.shaped (.tuple xs) then some (xs.any fun z => PyData.eqv z a) else none
  | _, _ => none
def isV : PyData → PyData → Option Bool
  | .bool a, .bool b => some (decide (a = b))
  | _, _ => none
def isNone : D → Bool
  | .p .none => true
  | _ => false
def cmpV : COp → PyData → PyData → Option Bool
  | .eq, a, b => eqV a b
  | .ne, a, b => (eqV a b).map (!·)
  | .lt, a, b => ltV a b
  | .le, a, b => leV a b
  | .gt, a, b => ltV b a
  | .ge, a, b => leV b a
  | .isin, a, b => inV a b
  | .notin, a, b => (inV a b).map (!·)
  | .is, a, b => isV a b
  | .isnot, a, b => (isV a b).map (!·)
/-- is None is asked of anything; all else of data -/
def cmpO (op : COp) (d e : D) (st : Store) : Option Bool := match op, e with
  | .is, .p .none => some (isNone d)
  | .isnot, .p .none => some (!isNone d)
  | _, _ => match asP st d, asP st e with
    | some a, some b => cmpV op a b
    | _, _ => none
def cmpS (op : COp) (d e : D) (st : Store) : R D := ofO ((cmpO op d e st).map .bool) st
def rC (g : Gm) (EW : XK) (op : COp) : R2 := fun x y H Q => ∃ d e st ρ B b, HRep g H st ρ B ∧ RD g H ρ B d x ∧ RD g H ρ B e y ∧ cmpO op d e st = some b ∧ Q (.bl b) H
theorem rC_of {op : COp} {x y : V} {Q : VK} (h : ∃ d e st ρ B, HRep g H st ρ B ∧ RD g H ρ B d x ∧ RD g H ρ B e y ∧ Post g EW (RD g) H ρ B (cmpS op d e st) Q) : rC g EW op x y H Q := by
  obtain ⟨d, e, st, ρ, B, R, rd, re, h⟩ := h
  unfold cmpS at h
  cases eb : cmpO op d e st with
  | none => rw [eb] at h; exact h.elim
  | some b =>
    rw [eb] at h
    exact ⟨d, e, st, ρ, B, b, R, rd, re, eb, post_val R h (.bl b)⟩
/-- but for is: data -/
theorem rC_data {op : COp} (h1 : op ≠ .is) (h2 : op ≠ .isnot) {x y : V} {Q : VK} (h : rC g EW op x y H Q) : ∃ d e st ρ B a b c, HRep g H st ρ B ∧ RD g H ρ B d x ∧ RD g H ρ B e y ∧ asP st d = some a ∧ asP st e = some b ∧ cmpV op a b = some c ∧ Q (.bl c) H := by
  obtain ⟨d, e, st, ρ, B, c, R, rd, re, ec, q⟩ := h
  have k : (match asP st d, asP st e with
    | some a, some b => cmpV op a b
    | _, _ => none) = some c := by
    rw [← ec]
    unfold cmpO
    cases op <;> first | rfl | exact absurd rfl h1 | exact absurd rfl h2
  cases ea : asP st d with
  | none => simp only [ea] at k; cases k
  | some a =>
    cases eb : asP st e with
    | none => simp only [ea, eb] at k; cases k
    | some b =>
      simp only [ea, eb] at k
      exact ⟨d, e, st, ρ, B, a, b, c, R, rd, re, ea, eb, k, q⟩
theorem Dq.dp' {K : PySem.W.Frag} {v : V} {d : PyData} (h : Dq K H B v d) : Dp K H v d := h.dp
theorem or_eq (hK : X.K = g.K) (hu : X.A.units + 64 < cLine) : OpR X (compareOp .Eq) (rC g EW .eq) := by
  intro pins s σ H x y v u Q I rx ry h0
  obtain ⟨d, e, st, ρ, B, a, b, c, R, rd, re, ea, eb, ec, q⟩ := rC_data (by simp) (by simp) h0
  clear h0
  simp only [cmpV, eqV] at ec
  split at ec
  · rename_i hs
    cases ec
    have hs := Bool.and_eq_true_iff.mp hs
    refine op_eqD hu pins s σ H _ _ v u Q I rx ry ⟨a, b, ?_, ?_, hs.1, hs.2, q⟩
    · rw [hK]; exact (asP_nil R rd ea).dp
    · rw [hK]; exact (asP_nil R re eb).dp
  · cases ec
theorem or_ne (hK : X.K = g.K) (hu : X.A.units + 64 < cLine) : OpR X (compareOp .NotEq) (rC g EW .ne) := by
  intro pins s σ H x y v u Q I rx ry h0
  obtain ⟨d, e, st, ρ, B, a, b, c, R, rd, re, ea, eb, ec, q⟩ := rC_data (by simp) (by simp) h0
  clear h0
  simp only [cmpV, eqV] at ec
  split at ec
  · rename_i hs
    cases ec
    have hs := Bool.and_eq_true_iff.mp hs
    refine op_neD hu pins s σ H _ _ v u Q I rx ry ⟨a, b, ?_, ?_, hs.1, hs.2, q⟩
    · rw [hK]; exact (asP_nil R rd ea).dp
    · rw [hK]; exact (asP_nil R re eb).dp
  · cases ec
theorem or_lt : OpR X (compareOp .Lt) (rC g EW .lt) := by
  intro pins s σ H x y v u Q I rx ry h0
  obtain ⟨d, e, st, ρ, B, a, b, c, R, rd, re, ea, eb, ec, q⟩ := rC_data (by simp) (by simp) h0
  clear h0
  simp only [cmpV] at ec
  unfold ltV at ec
  split at ec
  · cases ec
    obtain rfl := asP_int R rd ea
    obtain rfl := asP_int R re eb
    exact op_lt pins s σ H _ _ v u Q I rx ry ⟨_, _, rfl, rfl, q⟩
  · cases ec
    obtain ⟨rfl, _⟩ := asP_str R rd ea
    obtain ⟨rfl, _⟩ := asP_str R re eb
    exact op_lt_str pins s σ H _ _ v u Q I rx ry ⟨_, _, rfl, rfl, q⟩
  · cases ec
theorem or_le : OpR X (compareOp .LtE) (rC g EW .le) := by
  intro pins s σ H x y v u Q I rx ry h0
  obtain ⟨d, e, st, ρ, B, a, b, c, R, rd, re, ea, eb, ec, q⟩ := rC_data (by simp) (by simp) h0
  clear h0
  simp only [cmpV] at ec
  unfold leV at ec
  split at ec
  · cases ec
    obtain rfl := asP_int R rd ea
    obtain rfl := asP_int R re eb
    exact op_le pins s σ H _ _ v u Q I rx ry ⟨_, _, rfl, rfl, q⟩
  · cases ec
    obtain ⟨rfl, _⟩ := asP_str R rd ea
    obtain ⟨rfl, _⟩ := asP_str R re eb
    exact op_le_str pins s σ H _ _ v u Q I rx ry ⟨_, _, rfl, rfl, q⟩
  · cases ec
theorem or_gt : OpR X (compareOp .Gt) (rC g EW .gt) := by
  intro pins s σ H x y v u Q I rx ry h0
  obtain ⟨d, e, st, ρ, B, a, b, c, R, rd, re, ea, eb, ec, q⟩ := rC_data (by simp) (by simp) h0
  clear h0
  simp only [cmpV] at ec
  unfold ltV at ec
  split at ec
  · cases ec
    obtain rfl := asP_int R rd ea
    obtain rfl := asP_int R re eb
    exact op_gt pins s σ H _ _ v u Q I rx ry ⟨_, _, rfl, rfl, q⟩
  · cases ec
    obtain ⟨rfl, _⟩ := asP_str R rd ea
    obtain ⟨rfl, _⟩ := asP_str R re eb
    exact op_gt_str pins s σ H _ _ v u Q I rx ry ⟨_, _, rfl, rfl, q⟩
  · cases ec
theorem or_ge : OpR X (compareOp .GtE) (rC g EW .ge) := by
  intro pins s σ H x y v u Q I rx ry h0
  obtain ⟨d, e, st, ρ, B, a, b, c, R, rd, re, ea, eb, ec, q⟩ := rC_data (by simp) (by simp) h0
  clear h0
  simp only [cmpV] at ec
  unfold leV at ec
  split at ec
  · cases ec
    obtain rfl := asP_int R rd ea
    obtain rfl := asP_int R re eb
    exact op_ge pins s σ H _ _ v u Q I rx ry ⟨_, _, rfl, rfl, q⟩
  · cases ec
    obtain ⟨rfl, _⟩ := asP_str R rd ea
    obtain ⟨rfl, _⟩ := asP_str R re eb
    exact op_ge_str pins s σ H _ _ v u Q I rx ry ⟨_, _, rfl, rfl, q⟩
  · cases ec
theorem one_sign {x : Str} {c : Nat} (h : x.cps.toList = [c]) : x = ⟨#[c]⟩ := by
  obtain ⟨⟨l⟩⟩ := x
  simp only at h
  rw [h]
/-- x in a tuple of data -/
theorem op_inT (hu : X.A.units + 65 < cLine) : OpR X (compareOp .In) (fun x y H Q => ∃ d ds, Dp X.K H x d ∧ Dp X.K H y (.tuple ds) ∧ SeqAt.shaped d = true ∧ SeqAt.shaped (.tuple ds) = true ∧ Q (.bl (ds.any fun z => PyData.eqv z d)) H) := by
  intro pins s σ H x y v u Q I rx ry h
  obtain ⟨d, ds, hd, he, sd, se, q⟩ := h
  obtain ⟨as, r1⟩ := Dp.reads I d x v hd rx
  obtain ⟨bs, r2⟩ := Dp.reads I (.tuple ds) y u he ry
  exact SeqAt.in_tuple_reads r2 r1 (SeqAt.canLay_of_shaped se) (SeqAt.canLay_of_shaped sd) (room_in_shaped sd hu) ⟨.bl _, H, I, rfl, q⟩
theorem op_notInT (hu : X.A.units + 65 < cLine) : OpR X (compareOp .NotIn) (fun x y H Q => ∃ d ds, Dp X.K H x d ∧ Dp X.K H y (.tuple ds) ∧ SeqAt.shaped d = true ∧ SeqAt.shaped (.tuple ds) = true ∧ Q (.bl (!ds.any fun z => PyData.eqv z d)) H) := by
  intro pins s σ H x y v u Q I rx ry h
  obtain ⟨d, ds, hd, he, sd, se, q⟩ := h
  obtain ⟨as, r1⟩ := Dp.reads I d x v hd rx
  obtain ⟨bs, r2⟩ := Dp.reads I (.tuple ds) y u he ry
  exact SeqAt.notIn_tuple_reads r2 r1 (SeqAt.canLay_of_shaped se) (SeqAt.canLay_of_shaped sd) (room_in_shaped sd hu) ⟨.bl _, H, I, rfl, q⟩
theorem or_in (hK : X.K = g.K) (hu : X.A.units + 65 < cLine) : OpR X (compareOp .In) (rC g EW .isin) := by
  intro pins s σ H x y v u Q I rx ry h0
  obtain ⟨d, e, st, ρ, B, a, b, c, R, rd, re, ea, eb, ec, q⟩ := rC_data (by simp) (by simp) h0
  clear h0
  simp only [cmpV] at ec
  unfold inV at ec
  split at ec
  · split at ec
    · rename_i c hc
      cases ec
      obtain ⟨rfl, _⟩ := asP_str R rd ea
      obtain ⟨rfl, _⟩ := asP_str R re eb
      exact op_in_sign pins s σ H _ _ v u Q I rx ry ⟨c, _, by rw [one_sign hc], rfl, q⟩
    · cases ec
  · split at ec
    · rename_i hs
      cases ec
      have hs := Bool.and_eq_true_iff.mp hs
      refine op_inD hu pins s σ H _ _ v u Q I rx ry ⟨_, _, ?_, ?_, hs.1, hs.2, q⟩
      · rw [hK]; exact (asP_nil R rd ea).dp
      · rw [hK]; exact (asP_nil R re eb).dp
    · cases ec
  · split at ec
    · rename_i hs
      cases ec
      have hs := Bool.and_eq_true_iff.mp hs
      refine op_inT hu pins s σ H _ _ v u Q I rx ry ⟨_, _, ?_, ?_, hs.1, hs.2, q⟩
      · rw [hK]; exact (asP_nil R rd ea).dp
      · rw [hK]; exact (asP_nil R re eb).dp
    · cases ec
  · cases ec
theorem or_notin (hK : X.K = g.K) (hu : X.A.units + 65 < cLine) : OpR X (compareOp .NotIn) (rC g EW .notin) := by
  intro pins s σ H x y v u Q I rx ry h0
  obtain ⟨d, e, st, ρ, B, a, b, c, R, rd, re, ea, eb, ec, q⟩ := rC_data (by simp) (by simp) h0
  clear h0
  simp only [cmpV, Option.map_eq_some_iff] at ec
  obtain ⟨c0, ec, rfl⟩ := ec
  unfold inV at ec
  split at ec
  · split at ec
    · rename_i c hc
      cases ec
      obtain ⟨rfl, _⟩ := asP_str R rd ea
      obtain ⟨rfl, _⟩ := asP_str R re eb
      exact op_notIn_sign pins s σ H _ _ v u Q I rx ry ⟨c, _, by rw [one_sign hc], rfl, q⟩
    · cases ec
  · split at ec
    · rename_i hs
      cases ec
      have hs := Bool.and_eq_true_iff.mp hs
      refine op_notInD hu pins s σ H _ _ v u Q I rx ry ⟨_, _, ?_, ?_, hs.1, hs.2, q⟩
      · rw [hK]; exact (asP_nil R rd ea).dp
      · rw [hK]; exact (asP_nil R re eb).dp
    · cases ec
  · split at ec
    · rename_i hs
      cases ec
      have hs := Bool.and_eq_true_iff.mp hs
      refine op_notInT hu pins s σ H _ _ v u Q I rx ry ⟨_, _, ?_, ?_, hs.1, hs.2, q⟩
      · rw [hK]; exact (asP_nil R rd ea).dp
      · rw [hK]; exact (asP_nil R re eb).dp
    · cases ec
  · cases ec
theorem isNone_eq {d : D} {x : V} (rd : RD g H ρ B d x) : decide (x = .non) = isNone d := by
  cases d with
  | obj n => obtain ⟨a, _, rfl⟩ := rd; rfl
  | p d =>
    have rd' : Dq g.K H B x d := rd
    cases rd' <;> rfl
theorem cmpO_is {d e : D} {c : Bool} (ec : cmpO .is d e st = some c) : (e = .p .none ∧ c = isNone d) ∨ ∃ a b, asP st d = some a ∧ asP st e = some b ∧ isV a b = some c := by
  by_cases hn : e = .p .none
  · subst hn
    exact .inl ⟨rfl, (Option.some.inj ec).symm⟩
  · refine .inr ?_
    have k : (match asP st d, asP st e with
      | some a, some b => cmpV .is a b
      | _, _ => none) = some c := by
      rw [← ec]
      cases e with
      | obj n => rfl
      | p pe => cases pe <;> first | rfl | exact absurd rfl hn
    cases ea : asP st d with
    | none => simp only [ea] at k; cases k
    | some a =>
      cases eb : asP st e with
      | none => simp only [ea, eb] at k; cases k
      | some b => simp only [ea, eb] at k; exact ⟨a, b, rfl, rfl, k⟩
theorem cmpO_isnot {d e : D} {c : Bool} (ec : cmpO .isnot d e st = some c) : (e = .p .none ∧ c = !isNone d) ∨ ∃ a b, asP st d = some a ∧ asP st e = some b ∧ (isV a b).map (!·) = some c := by
  by_cases hn : e = .p .none
  · subst hn
    exact .inl ⟨rfl, (Option.some.inj ec).symm⟩
  · refine .inr ?_
    have k : (match asP st d, asP st e with
      | some a, some b => cmpV .isnot a b
      | _, _ => none) = some c := by
      rw [← ec]
      cases e with
      | obj n => rfl
      | p pe => cases pe <;> first | rfl | exact absurd rfl hn
    cases ea : asP st d with
    | none => simp only [ea] at k; cases k
    | some a =>
      cases eb : asP st e with
      | none => simp only [ea, eb] at k; cases k
      | some b => simp only [ea, eb] at k; exact ⟨a, b, rfl, rfl, k⟩
theorem or_is : OpR X (compareOp .Is) (rC g EW .is) := by
  intro pins s σ H x y v u Q I rx ry h0
  obtain ⟨d, e, st, ρ, B, c, R, rd, re, ec, q⟩ := h0
  rcases cmpO_is ec with ⟨rfl, rfl⟩ | ⟨a, b, ea, eb, ec⟩
  · have re' : Dq g.K H B y .none := re
    cases re'
    rw [← isNone_eq rd] at q
    exact op_isN pins s σ H _ _ v u Q I rx ry ⟨rfl, q⟩
  · unfold isV at ec
    split at ec
    · cases ec
      cases asP_flat R rd ea (fun _ => nofun)
      cases asP_flat R re eb (fun _ => nofun)
      exact op_isBl pins s σ H _ _ v u Q I rx ry ⟨_, _, rfl, rfl, q⟩
    · cases ec
theorem or_isnot : OpR X (compareOp .IsNot) (rC g EW .isnot) := by
  intro pins s σ H x y v u Q I rx ry h0
  obtain ⟨d, e, st, ρ, B, c, R, rd, re, ec, q⟩ := h0
  rcases cmpO_isnot ec with ⟨rfl, rfl⟩ | ⟨a, b, ea, eb, em⟩
  · have re' : Dq g.K H B y .none := re
    cases re'
    rw [← isNone_eq rd] at q
    exact op_notN pins s σ H _ _ v u Q I rx ry ⟨rfl, q⟩
  · simp only [Option.map_eq_some_iff] at em
    obtain ⟨c0, em, rfl⟩ := em
    unfold isV at em
    split at em
    · cases em
      cases asP_flat R rd ea (fun _ => nofun)
      cases asP_flat R re eb (fun _ => nofun)
      exact op_notBl pins s σ H _ _ v u Q I rx ry ⟨_, _, rfl, rfl, q⟩
    · cases em
end
end Mp
end

section
set_option Elab.async false
set_option linter.all false
set_option maxRecDepth 100000
set_option maxHeartbeats 4000000
/-! M4: chains, displays, items, slices, attributes, tests. -/
namespace Mp
open PySem PySem.Spec PyProof.Rows L2
section
variable {g : Gm} {EW : XK} {X : Cx} {H H' : Hp} {st st1 : Store} {ρ B : List Addr}

theorem em_cmp {op : CmpOp} {cop : COp} {a b : Expr} {pos : Pos} {fa fb : Env → Store → R D} (ho : OpR X (compareOp op) (rC g EW cop)) (ha : PE X a (tS g EW fa)) (hb : PE X b (tS g EW fb)) (hm : behindInMarks op b = false) :
    PE X (.Compare a [op] [b] pos) (tS g EW fun env st => (fa env st).bind fun d st1 => (fb env st1).bind fun e st2 => cmpS cop d e st2) :=
  em_two (ta := tS g EW fa) (tb := tS g EW fb) (pe_cmpR ho ha hb hm) fun _ _ _ _ h => rC_of h
/-- a op b op' c -/
def fChain (op op' : COp) (fa fb fc : Env → Store → R D) : Env → Store → R D := fun env st => (fa env st).bind fun d st1 => (fb env st1).bind fun e st2 => match cmpO op d e st2 with
  | some true => (fc env st2).bind fun f st3 => cmpS op' e f st3
  | some false => .ok (.p (.bool false)) st2
  | none => .no
theorem em_chain {op op' : CmpOp} {cop cop' : COp} {a b c : Expr} {pos : Pos} {fa fb fc : Env → Store → R D} (ho : OpR X (compareOp op) (rC g EW cop)) (ho' : OpR X (compareOp op') (rC g EW cop')) (ha : PE X a (tS g EW fa)) (hb : PE X b (tS g EW fb)) (hc : PE X c (tS g EW fc))
    (hm : lastMarks [op, op'] [b, c] = false) : PE X (.Compare a [op, op'] [b, c] pos) (tS g EW (fChain cop cop' fa fb fc)) := by
  refine peImp (pe_chain ho ho' ha hb hc hm) fun σ H Q ⟨env, st, ρ, B, er, R, h⟩ => ?_
  refine ⟨env, st, ρ, B, er, R, seqP h fun d st1 x H1 ρ1 B1 _ l1 R1 r1 h1 => ?_⟩
  refine ⟨env, st1, ρ1, B1, l1.env R er, R1, seqP h1 fun e st2 y H2 ρ2 B2 _ l2 R2 r2 h2 => ?_⟩
  have er2 := l2.env R1 (l1.env R er)
  cases eb : cmpO cop d e st2 with
  | none => simp only [eb] at h2; exact h2.elim
  | some k =>
    refine ⟨d, e, st2, ρ2, B2, k, R2, l2.rr R1 r1, r2, eb, k, rfl, ?_⟩
    cases k with
    | false =>
      simp only [eb] at h2
      exact iteF (h2 _ _ _ _ Later.refl R2 (.bl false))
    | true =>
      simp only [eb] at h2
      refine iteT ⟨env, st2, ρ2, B2, er2, R2, seqP h2 fun f st3 z H3 ρ3 B3 _ l3 R3 r3 h3 => ?_⟩
      exact rC_of ⟨e, f, st3, ρ3, B3, R3, l3.rr R2 r2, r3, h3⟩

/-! ### lists of expressions -/
def fNil : Env → Store → R (List D) := fun _ st => .ok [] st
def fCons (fa : Env → Store → R D) (fr : Env → Store → R (List D)) : Env → Store → R (List D) := fun env st => (fa env st).bind fun d st1 => (fr env st1).bind fun ds st2 => .ok (d :: ds) st2
/-- a starred one: the items of a datum, or of a list that changes -/
def itemsO (st : Store) : D → Option (List D)
  | .p (.list xs) => some (xs.map .p)
  | .p (.tuple xs) => some (xs.map .p)
  | .obj n => match st[n]? with
    | some (.lst ds) => some ds
    | _ => none
  | _ => none
def fStar (fa : Env → Store → R D) (fr : Env → Store → R (List D)) : Env → Store → R (List D) := fun env st => (fa env st).bind fun d st1 => match itemsO st1 d with
  | some xs => (fr env st1).bind fun ds st2 => .ok (xs ++ ds) st2
  | none => .no
theorem itemsO_of {d : D} {xs : List D} {v : V} (R : HRep g H st ρ B) (rd : RD g H ρ B d v) (e : itemsO st d = some xs) : ∃ p vs, v = .ref p ∧ (SqT g.K H p vs ∨ SqL g.K H p vs) ∧ RDs g H ρ B xs vs := by
  unfold itemsO at e
  split at e
  · cases e
    have rd' : Dq g.K H B v _ := rd
    cases rd' with
    | lst n h k => exact ⟨_, _, rfl, .inr (.inl h), k.rds⟩
  · cases e
    have rd' : Dq g.K H B v _ := rd
    cases rd' with
    | tup h k => exact ⟨_, _, rfl, .inl h, k.rds⟩
  · split at e
    · rename_i ds q
      cases e
      obtain ⟨a, h1, vs, h2, h3⟩ := R.cell _ _ q
      obtain ⟨a', h4, rfl⟩ := rd
      rw [h1] at h4; cases h4
      exact ⟨a, vs, rfl, .inr (SqL.of h2), h3⟩
    · cases e
  · cases e
theorem ea_nil : PA X [] (tSA g EW fNil) := paImp pa_nil fun σ H Q ⟨env, st, ρ, B, er, R, h⟩ => h [] H ρ B Later.refl R .nil
theorem starEach_plain {e : Expr} {es : List Expr} {env : PySem.Env} (h : ∀ x p, e ≠ .Starred x p) : starEach (e :: es) env = (false, eval e env) :: starEach es env := by
  cases e <;> first | rfl | exact absurd rfl (h _ _)
theorem ea_cons {e : Expr} {es : List Expr} {fa : Env → Store → R D} {fr : Env → Store → R (List D)} (ha : PE X e (tS g EW fa)) (hr : PA X es (tSA g EW fr)) (hp : ∀ x p, e ≠ .Starred x p) : PA X (e :: es) (tSA g EW (fCons fa fr)) := by
  refine paImp (pa_cons ha hr (starEach_plain hp)) fun σ H Q ⟨env, st, ρ, B, er, R, h⟩ => ?_
  refine ⟨env, st, ρ, B, er, R, seqP h fun d st1 x H1 ρ1 B1 _ l1 R1 r1 h1 => ?_⟩
  refine ⟨env, st1, ρ1, B1, l1.env R er, R1, seqP h1 fun ds st2 xs H2 ρ2 B2 _ l2 R2 r2 h2 => ?_⟩
  exact h2 (x :: xs) H2 ρ2 B2 Later.refl R2 (.cons (l2.rr R1 r1) r2)
theorem ea_star (hK : X.K = g.K) {e : Expr} {es : List Expr} {p : Pos} {fa : Env → Store → R D} {fr : Env → Store → R (List D)} (ha : PE X e (tS g EW fa)) (hr : PA X es (tSA g EW fr)) : PA X (.Starred e p :: es) (tSA g EW (fStar fa fr)) := by
  refine paImp (StX.pa_star ha hr rfl) fun σ H Q ⟨env, st, ρ, B, er, R, h⟩ => ?_
  refine ⟨env, st, ρ, B, er, R, seqP h fun d st1 x H1 ρ1 B1 _ l1 R1 r1 h1 => ?_⟩
  cases eb : itemsO st1 d with
  | none => simp only [eb] at h1; exact h1.elim
  | some ds =>
    simp only [eb] at h1
    obtain ⟨q, vs, rfl, hs, rs⟩ := itemsO_of R1 r1 eb
    refine ⟨q, vs, rfl, by rw [hK]; exact hs, env, st1, ρ1, B1, l1.env R er, R1, seqP h1 fun es st2 ys H2 ρ2 B2 _ l2 R2 r2 h2 => ?_⟩
    exact h2 (vs ++ ys) H2 ρ2 B2 Later.refl R2 ((l2.rrs R1 rs).app r2)

/-! ### displays -/
def fTup (fs : Env → Store → R (List D)) : Env → Store → R D := fun env st => (fs env st).bind fun ds st1 => match pds ds with
  | some xs => if xs.length ≤ sizeLine then .ok (.p (.tuple xs)) st1 else .no
  | none => .no
def fLst (fs : Env → Store → R (List D)) : Env → Store → R D := fun env st => (fs env st).bind fun ds st1 => match pds ds with
  | some xs => if xs.length ≤ sizeLine then .ok (.p (.list xs)) st1 else .no
  | none => .no
/-- a list that is to change -/
def newLst (ds : List D) (st : Store) : R D := if ds.length ≤ sizeLine then .ok (.obj st.length) (st ++ [.lst ds]) else .no
def fNew (fs : Env → Store → R (List D)) : Env → Store → R D := fun env st => (fs env st).bind fun ds st1 => newLst ds st1
theorem em_tup {es : List Expr} {x1} {pos : Pos} {fs : Env → Store → R (List D)} (h : PA X es (tSA g EW fs)) : PE X (.Tuple es x1 pos) (tS g EW (fTup fs)) := by
  refine peImp (pe_tup h) fun σ H Q ⟨env, st, ρ, B, er, R, h⟩ => ?_
  refine ⟨env, st, ρ, B, er, R, seqP h fun ds st1 vs H1 ρ1 B1 _ l1 R1 r1 h1 => ?_⟩
  cases ep : pds ds with
  | none => simp only [ep] at h1; exact h1.elim
  | some xs =>
    simp only [ep] at h1
    split at h1
    · rename_i hz
      have k := r1.pure ep
      exact ⟨by rw [k.length]; exact hz, fun p hp => post_tup (EW := EW) R1 h1 k hp⟩
    · exact h1.elim
theorem em_lst {es : List Expr} {pos : Pos} {fs : Env → Store → R (List D)} (h : PA X es (tSA g EW fs)) : PE X (.List es pos) (tS g EW (fLst fs)) := by
  refine peImp (pe_lst h) fun σ H Q ⟨env, st, ρ, B, er, R, h⟩ => ?_
  refine ⟨env, st, ρ, B, er, R, seqP h fun ds st1 vs H1 ρ1 B1 _ l1 R1 r1 h1 => ?_⟩
  cases ep : pds ds with
  | none => simp only [ep] at h1; exact h1.elim
  | some xs =>
    simp only [ep] at h1
    split at h1
    · rename_i hz
      have k := r1.pure ep
      exact ⟨by rw [k.length]; exact hz, fun p hp => post_lst (EW := EW) R1 h1 k hp⟩
    · exact h1.elim
theorem freshL {H : Hp} {p : Addr} (hp : H p = none) : ∀ a ∈ [p], ∀ o, H a = some o → ∃ ps, o = .tbl ps := fun a ha o e => by
  have : a = p := by simpa using ha
  subst this
  rw [hp] at e; cases e
/-- a new cell -/
theorem HRep.push (R : HRep g H st ρ B) {p : Addr} (hp : H p = none) {c : Cell} {H' : Hp} (k : ∀ a o, H a = some o → H' a = some o) (hm : Mut (H' p)) (hc : CellR g H' (ρ ++ [p]) (B ++ [p]) c p) : Later H ρ B H' (ρ ++ [p]) (B ++ [p]) ∧ HRep g H' (st ++ [c]) (ρ ++ [p]) (B ++ [p]) := by
  have l : Later H ρ B H' (ρ ++ [p]) (B ++ [p]) := ⟨⟨[p], rfl, rfl, freshL hp⟩, fun a o h _ _ => k a o h⟩
  refine ⟨l, ?_, ?_, ?_, ?_, ?_, R.tabs.ext k⟩
  · simp [R.len]
  · refine List.nodup_append.mpr ⟨R.nd, by simp, fun a ha b hb => ?_⟩
    have : b = p := by simpa using hb
    subst this
    intro e
    subst e
    exact R.nb hp (R.sub _ ha)
  · intro a ha
    rcases List.mem_append.mp ha with h | h
    · exact List.mem_append_left _ (R.sub a h)
    · exact List.mem_append_right _ h
  · intro a ha
    rcases List.mem_append.mp ha with h | h
    · have m := R.mu a h
      obtain ⟨o, q⟩ := mut_some m
      rw [q] at m
      rw [k a o q]
      exact m
    · have : a = p := by simpa using h
      subst this
      exact hm
  · intro n c' e
    by_cases hn : n < st.length
    · rw [List.getElem?_append_left hn] at e
      obtain ⟨a, h1, h2⟩ := R.cell n c' e
      refine ⟨a, by rw [List.getElem?_append_left (by rw [R.len]; exact hn)]; exact h1, ?_⟩
      cases c' with
      | lst ds =>
        obtain ⟨xs, q, r⟩ := h2
        exact ⟨xs, k a _ q, l.rrs R r⟩
      | ins c fs =>
        obtain ⟨dx, fv, q, r⟩ := h2
        exact ⟨dx, fv, k a _ q, l.rfs R r⟩
    · have hn' : n = st.length := by
        have := (List.getElem?_eq_some_iff.mp e).1
        simp at this
        omega
      subst hn'
      rw [List.getElem?_append_right (Nat.le_refl _)] at e
      simp at e
      subst e
      refine ⟨p, ?_, hc⟩
      rw [← R.len, List.getElem?_append_right (Nat.le_refl _)]
      simp
theorem post_new {Q : VK} {ds : List D} {vs : List V} {p : Addr} (R : HRep g H st ρ B) (h : Post g EW (RD g) H ρ B (newLst ds st) Q) (r : RDs g H ρ B ds vs) (hp : H p = none) : vs.length ≤ sizeLine ∧ Q (.ref p) (upd H p (.lst vs)) := by
  unfold newLst at h
  split at h
  · rename_i hz
    have l0 : Later H ρ B (upd H p (.lst vs)) (ρ ++ [p]) (B ++ [p]) := ⟨⟨[p], rfl, rfl, freshL hp⟩, fun a o h _ _ => keepNew hp a o h⟩
    obtain ⟨l, R'⟩ := R.push (c := .lst ds) hp (keepNew (o := .lst vs) hp) (by rw [upd_same]; trivial) ⟨vs, upd_same, l0.rrs R r⟩
    refine ⟨by rw [r.length]; exact hz, h (.ref p) _ _ _ l R' ⟨p, ?_, rfl⟩⟩
    rw [← R.len, List.getElem?_append_right (Nat.le_refl _)]
    simp
  · exact h.elim
theorem em_new {es : List Expr} {pos : Pos} {fs : Env → Store → R (List D)} (h : PA X es (tSA g EW fs)) : PE X (.List es pos) (tS g EW (fNew fs)) := by
  refine peImp (pe_lst h) fun σ H Q ⟨env, st, ρ, B, er, R, h⟩ => ?_
  refine ⟨env, st, ρ, B, er, R, seqP h fun ds st1 vs H1 ρ1 B1 _ l1 R1 r1 h1 => ?_⟩
  have hz : vs.length ≤ sizeLine := by
    unfold newLst at h1
    split at h1
    · rename_i hz; rw [r1.length]; exact hz
    · exact h1.elim
  exact ⟨hz, fun p hp => (post_new R1 h1 r1 hp).2⟩

/-! ### and, or, not, if .. else -/
def truB : D → Option Bool
  | .p (.bool b) => some b
  | _ => none
theorem truB_of {d : D} {b : Bool} {v : V} (rd : RD g H ρ B d v) (e : truB d = some b) : v = .bl b ∧ d = .p (.bool b) := by
  unfold truB at e
  split at e
  · cases e
    have rd' : Dq g.K H B v _ := rd
    cases rd'
    exact ⟨rfl, rfl⟩
  · cases e
def fAnd (fa fb : Env → Store → R D) : Env → Store → R D := fun env st => (fa env st).bind fun d st1 => match truB d with
  | some true => fb env st1
  | some false => .ok (.p (.bool false)) st1
  | none => .no
def fOr (fa fb : Env → Store → R D) : Env → Store → R D := fun env st => (fa env st).bind fun d st1 => match truB d with
  | some true => .ok (.p (.bool true)) st1
  | some false => fb env st1
  | none => .no
def fNot (fa : Env → Store → R D) : Env → Store → R D := fun env st => (fa env st).bind fun d st1 => match truB d with
  | some b => .ok (.p (.bool (!b))) st1
  | none => .no
def fIte (fc fa fb : Env → Store → R D) : Env → Store → R D := fun env st => (fc env st).bind fun d st1 => match truB d with
  | some true => fa env st1
  | some false => fb env st1
  | none => .no
theorem em_one {op} {a : Expr} {pos : Pos} {fa : Env → Store → R D} (ha : PE X a (tS g EW fa)) : PE X (.BoolOp op [a] pos) (tS g EW fa) := pe_one ha
theorem em_and {a b : Expr} {rest : List Expr} {pos : Pos} {fa fb : Env → Store → R D} (ha : PE X a (tS g EW fa)) (hb : PE X (.BoolOp .And (b :: rest) pos) (tS g EW fb)) : PE X (.BoolOp .And (a :: b :: rest) pos) (tS g EW (fAnd fa fb)) := by
  refine peImp (pe_and ha hb) fun σ H Q ⟨env, st, ρ, B, er, R, h⟩ => ?_
  refine ⟨env, st, ρ, B, er, R, seqP h fun d st1 x H1 ρ1 B1 _ l1 R1 r1 h1 => ?_⟩
  cases et : truB d with
  | none => simp only [et] at h1; exact h1.elim
  | some k =>
    obtain ⟨rfl, _⟩ := truB_of r1 et
    refine ⟨k, rfl, ?_⟩
    cases k with
    | true => simp only [et] at h1; exact iteT ⟨env, st1, ρ1, B1, l1.env R er, R1, h1⟩
    | false => simp only [et] at h1; exact iteF (h1 _ _ _ _ Later.refl R1 (.bl false))
theorem em_or {a b : Expr} {rest : List Expr} {pos : Pos} {fa fb : Env → Store → R D} (ha : PE X a (tS g EW fa)) (hb : PE X (.BoolOp .Or (b :: rest) pos) (tS g EW fb)) : PE X (.BoolOp .Or (a :: b :: rest) pos) (tS g EW (fOr fa fb)) := by
  refine peImp (pe_or ha hb) fun σ H Q ⟨env, st, ρ, B, er, R, h⟩ => ?_
  refine ⟨env, st, ρ, B, er, R, seqP h fun d st1 x H1 ρ1 B1 _ l1 R1 r1 h1 => ?_⟩
  cases et : truB d with
  | none => simp only [et] at h1; exact h1.elim
  | some k =>
    obtain ⟨rfl, _⟩ := truB_of r1 et
    refine ⟨k, rfl, ?_⟩
    cases k with
    | true => simp only [et] at h1; exact iteT (h1 _ _ _ _ Later.refl R1 (.bl true))
    | false => simp only [et] at h1; exact iteF ⟨env, st1, ρ1, B1, l1.env R er, R1, h1⟩
theorem em_not {a : Expr} {pos : Pos} {fa : Env → Store → R D} (ha : PE X a (tS g EW fa)) : PE X (.UnaryOp .Not a pos) (tS g EW (fNot fa)) := by
  refine peImp (pe_not ha) fun σ H Q ⟨env, st, ρ, B, er, R, h⟩ => ?_
  refine ⟨env, st, ρ, B, er, R, seqP h fun d st1 x H1 ρ1 B1 _ l1 R1 r1 h1 => ?_⟩
  cases et : truB d with
  | none => simp only [et] at h1; exact h1.elim
  | some k =>
    obtain ⟨rfl, _⟩ := truB_of r1 et
    simp only [et] at h1
    exact ⟨k, rfl, h1 _ _ _ _ Later.refl R1 (.bl _)⟩

/-! ### tests -/
/-- the test of an expression whose value is a truth -/
def fT (fa : Env → Store → R D) : Env → Store → R Bool := fun env st => (fa env st).bind fun d st1 => match truB d with
  | some b => .ok b st1
  | none => .no
theorem et_B {e : Expr} {fa : Env → Store → R D} {t : TT} (h : PT X e t) (k : ∀ σ H Q, (tS g EW fa) σ H (fun x H' => ∃ c, x = .bl c ∧ Q c H') → t σ H Q) : PT X e (tST g EW (fT fa)) := by
  refine ptImp h fun σ H Q ⟨env, st, ρ, B, er, R, h⟩ => k σ H Q ?_
  refine ⟨env, st, ρ, B, er, R, seqP h fun d st1 x H1 ρ1 B1 _ l1 R1 r1 h1 => ?_⟩
  cases et : truB d with
  | none => simp only [et] at h1; exact h1.elim
  | some c =>
    obtain ⟨rfl, _⟩ := truB_of r1 et
    simp only [et] at h1
    exact ⟨c, rfl, h1 c H1 ρ1 B1 Later.refl R1 rfl⟩
/-- a plain expression -/
theorem et_val {e : Expr} {fa : Env → Store → R D} (h : PE X e (tS g EW fa)) (he : ∀ whole, isTrue e X.env whole = (do let v ← whole; standAt e.pos; holding [v] (truthy v))) : PT X e (tST g EW (fT fa)) :=
  et_B (pt_val h he) fun _ _ _ q => q
theorem et_imp {e : Expr} {fa : Env → Store → R D} {f' : Env → Store → R Bool} (h : PT X e (tST g EW f')) (k : ∀ env st, f' env st = fT fa env st) : PT X e (tST g EW (fT fa)) := by
  have : f' = fT fa := by funext env st; exact k env st
  rw [← this]; exact h
theorem R.bind_assoc {α β γ : Type} (r : R α) (f : α → Store → R β) (k : β → Store → R γ) : (r.bind f).bind k = r.bind fun a s => (f a s).bind k := by
  cases r <;> rfl
theorem fT_cmpS {op : COp} {d e : D} {st : Store} : ((cmpS op d e st).bind fun d st1 => match truB d with | some b => R.ok b st1 | none => .no) = (match cmpO op d e st with | some b => R.ok b st | none => .no) := by
  unfold cmpS
  cases cmpO op d e st <;> rfl
theorem et_cmp {op : CmpOp} {cop : COp} {a b : Expr} {pos : Pos} {fa fb : Env → Store → R D} (ho : OpR X (compareOp op) (rC g EW cop)) (ha : PE X a (tS g EW fa)) (hb : PE X b (tS g EW fb)) (hm : behindInMarks op b = false) :
    PT X (.Compare a [op] [b] pos) (tST g EW (fT fun env st => (fa env st).bind fun d st1 => (fb env st1).bind fun e st2 => cmpS cop d e st2)) := by
  refine ptImp (pt_cmpR ho ha hb hm) fun σ H Q ⟨env, st, ρ, B, er, R, h⟩ => ?_
  unfold fT at h
  rw [Mp.R.bind_assoc] at h
  refine ⟨env, st, ρ, B, er, R, seqP h fun d st1 x H1 ρ1 B1 _ l1 R1 r1 h1 => ?_⟩
  rw [Mp.R.bind_assoc] at h1
  refine ⟨env, st1, ρ1, B1, l1.env R er, R1, seqP h1 fun e st2 y H2 ρ2 B2 _ l2 R2 r2 h2 => ?_⟩
  rw [fT_cmpS] at h2
  cases eb : cmpO cop d e st2 with
  | none => simp only [eb] at h2; exact h2.elim
  | some c =>
    simp only [eb] at h2
    exact ⟨d, e, st2, ρ2, B2, c, R2, l2.rr R1 r1, r2, eb, c, rfl, h2 c H2 ρ2 B2 Later.refl R2 rfl⟩
theorem et_chain {op op' : CmpOp} {cop cop' : COp} {a b c : Expr} {pos : Pos} {fa fb fc : Env → Store → R D} (ho : OpR X (compareOp op) (rC g EW cop)) (ho' : OpR X (compareOp op') (rC g EW cop')) (ha : PE X a (tS g EW fa)) (hb : PE X b (tS g EW fb)) (hc : PE X c (tS g EW fc))
    (hm : lastMarks [op, op'] [b, c] = false) : PT X (.Compare a [op, op'] [b, c] pos) (tST g EW (fT (fChain cop cop' fa fb fc))) := by
  refine ptImp (pt_chain ho ho' ha hb hc hm) fun σ H Q ⟨env, st, ρ, B, er, R, h⟩ => ?_
  unfold fT fChain at h
  rw [Mp.R.bind_assoc] at h
  refine ⟨env, st, ρ, B, er, R, seqP h fun d st1 x H1 ρ1 B1 _ l1 R1 r1 h1 => ?_⟩
  rw [Mp.R.bind_assoc] at h1
  refine ⟨env, st1, ρ1, B1, l1.env R er, R1, seqP h1 fun e st2 y H2 ρ2 B2 _ l2 R2 r2 h2 => ?_⟩
  have er2 := l2.env R1 (l1.env R er)
  cases eb : cmpO cop d e st2 with
  | none => simp only [eb] at h2; exact h2.elim
  | some k =>
    refine ⟨d, e, st2, ρ2, B2, k, R2, l2.rr R1 r1, r2, eb, k, rfl, ?_⟩
    cases k with
    | false =>
      simp only [eb] at h2
      exact iteF ⟨false, rfl, h2 false H2 ρ2 B2 Later.refl R2 rfl⟩
    | true =>
      simp only [eb] at h2
      rw [Mp.R.bind_assoc] at h2
      refine iteT ⟨env, st2, ρ2, B2, er2, R2, seqP h2 fun f st3 z H3 ρ3 B3 _ l3 R3 r3 h3 => ?_⟩
      rw [fT_cmpS] at h3
      cases ec : cmpO cop' e f st3 with
      | none => simp only [ec] at h3; exact h3.elim
      | some c =>
        simp only [ec] at h3
        exact ⟨e, f, st3, ρ3, B3, c, R3, l3.rr R2 r2, r3, ec, c, rfl, h3 c H3 ρ3 B3 Later.refl R3 rfl⟩
theorem et_not {a : Expr} {pos : Pos} {fa : Env → Store → R D} (ha : PT X a (tST g EW (fT fa))) : PT X (.UnaryOp .Not a pos) (tST g EW (fT (fNot fa))) := by
  refine ptImp (pt_not ha) fun σ H Q ⟨env, st, ρ, B, er, R, h⟩ => ?_
  refine ⟨env, st, ρ, B, er, R, ?_⟩
  unfold fT fNot at h
  unfold fT
  rw [Mp.R.bind_assoc] at h
  cases ef : fa env st with
  | no => rw [ef] at h; exact h
  | exc c d st' => rw [ef] at h; exact h
  | ok d st1 =>
    rw [ef] at h
    simp only [Mp.R.bind_ok] at h ⊢
    cases et : truB d with
    | none => simp only [et] at h; exact h.elim
    | some c =>
      simp only [et] at h ⊢
      exact fun b H' ρ' B' l R' e => by subst e; exact h _ H' ρ' B' l R' rfl
theorem ew_one {op} {a : Expr} {pos : Pos} {fa : Env → Store → R D} (h : op = .And ∨ op = .Or) (ha : PT X a (tST g EW (fT fa))) : PW X (.BoolOp op [a] pos) (tST g EW (fT fa)) := by
  rcases h with rfl | rfl
  · exact pw_and1 ha
  · exact pw_or1 ha
theorem pwImp {e : Expr} {t t' : TT} (h : PW X e t) (k : ∀ σ H Q, t' σ H Q → t σ H Q) : PW X e t' :=
  ⟨fun wh pins s σ H Q I q => h.run wh pins s σ H Q I (k σ H Q q)⟩
theorem ew_and {a b : Expr} {rest : List Expr} {pos : Pos} {fa fb : Env → Store → R D} (ha : PT X a (tST g EW (fT fa))) (hb : PW X (.BoolOp .And (b :: rest) pos) (tST g EW (fT fb))) : PW X (.BoolOp .And (a :: b :: rest) pos) (tST g EW (fT (fAnd fa fb))) := by
  refine pwImp (pw_and ha hb) fun σ H Q ⟨env, st, ρ, B, er, R, h⟩ => ?_
  unfold fT fAnd at h
  rw [Mp.R.bind_assoc] at h
  refine ⟨env, st, ρ, B, er, R, ?_⟩
  unfold fT
  cases ef : fa env st with
  | no => rw [ef] at h; exact h
  | exc c d st' => rw [ef] at h; exact h
  | ok d st1 =>
    rw [ef] at h
    simp only [Mp.R.bind_ok] at h ⊢
    cases et : truB d with
    | none => simp only [et] at h; exact h.elim
    | some c =>
      simp only [et] at h ⊢
      intro b H' ρ' B' l R' e
      subst e
      cases c with
      | true =>
        simp only at h
        exact iteT ⟨env, st1, ρ', B', l.env R er, R', Post.later (st1 := st1) h l R'⟩
      | false => exact iteF (h false H' ρ' B' l R' rfl)
theorem ew_or {a b : Expr} {rest : List Expr} {pos : Pos} {fa fb : Env → Store → R D} (ha : PT X a (tST g EW (fT fa))) (hb : PW X (.BoolOp .Or (b :: rest) pos) (tST g EW (fT fb))) : PW X (.BoolOp .Or (a :: b :: rest) pos) (tST g EW (fT (fOr fa fb))) := by
  refine pwImp (pw_or ha hb) fun σ H Q ⟨env, st, ρ, B, er, R, h⟩ => ?_
  unfold fT fOr at h
  rw [Mp.R.bind_assoc] at h
  refine ⟨env, st, ρ, B, er, R, ?_⟩
  unfold fT
  cases ef : fa env st with
  | no => rw [ef] at h; exact h
  | exc c d st' => rw [ef] at h; exact h
  | ok d st1 =>
    rw [ef] at h
    simp only [Mp.R.bind_ok] at h ⊢
    cases et : truB d with
    | none => simp only [et] at h; exact h.elim
    | some c =>
      simp only [et] at h ⊢
      intro b H' ρ' B' l R' e
      subst e
      cases c with
      | true => exact iteT (h true H' ρ' B' l R' rfl)
      | false =>
        simp only at h
        exact iteF ⟨env, st1, ρ', B', l.env R er, R', Post.later (st1 := st1) h l R'⟩
theorem em_ite {c a b : Expr} {pos : Pos} {fc fa fb : Env → Store → R D} (hc : PT X c (tST g EW (fT fc))) (ha : PE X a (tS g EW fa)) (hb : PE X b (tS g EW fb)) : PE X (.IfExp c a b pos) (tS g EW (fIte fc fa fb)) := by
  refine peImp (pe_ifExp hc ha hb) fun σ H Q ⟨env, st, ρ, B, er, R, h⟩ => ?_
  unfold fIte at h
  refine ⟨env, st, ρ, B, er, R, ?_⟩
  unfold fT
  cases ef : fc env st with
  | no => rw [ef] at h; exact h
  | exc c d st' => rw [ef] at h; exact h
  | ok d st1 =>
    rw [ef] at h
    simp only [Mp.R.bind_ok] at h ⊢
    cases et : truB d with
    | none => simp only [et] at h; exact h.elim
    | some c =>
      simp only [et] at h ⊢
      intro b H' ρ' B' l R' e
      subst e
      cases c with
      | true => exact iteT ⟨env, st1, ρ', B', l.env R er, R', Post.later (st1 := st1) h l R'⟩
      | false => exact iteF ⟨env, st1, ρ', B', l.env R er, R', Post.later (st1 := st1) h l R'⟩
end
end Mp
end

section
set_option Elab.async false
set_option linter.all false
set_option maxRecDepth 100000
set_option maxHeartbeats 4000000
/-! M5: items, slices, attributes, calls. -/
namespace Mp
open PySem PySem.Spec PyProof.Rows L2
section
variable {g : Gm} {EW : XK} {X : Cx} {H H' : Hp} {st st1 : Store} {ρ B : List Addr}

/-- what the proof never comes to -/
def fNo : Env → Store → R D := fun _ _ => .no
theorem em_no {e : Expr} : PE X e (tS g EW fNo) := ⟨fun _ _ _ _ _ _ ⟨_, _, _, _, _, _, h⟩ => h.elim⟩
theorem et_no {e : Expr} : PT X e (tST g EW (fT fNo)) := ⟨fun _ _ _ _ _ _ ⟨_, _, _, _, _, _, h⟩ => h.elim⟩

/-! ### items -/
theorem atI_len {α β : Type} {xs : List α} {ys : List β} {i : Int} {x : α} (hl : ys.length = xs.length) (e : atI xs i = some x) : ∃ j : Nat, xs[j]? = some x ∧ ∀ y : β, ys[j]? = some y → atI ys i = some y := by
  unfold atI at e ⊢
  rw [hl]
  cases q : ixN xs.length i with
  | none => rw [q] at e; cases e
  | some j =>
    rw [q] at e
    exact ⟨j, e, fun y hy => hy⟩
theorem atI_map {α β : Type} (f : α → β) (xs : List α) (i : Int) : atI (xs.map f) i = (atI xs i).map f := by
  unfold atI
  rw [List.length_map]
  cases ixN xs.length i with
  | none => rfl
  | some j => simp
def idxO (st : Store) : D → D → Option D
  | .p (.list xs), .p (.int i) => (atI xs i).map .p
  | .p (.tuple xs), .p (.int i) => (atI xs i).map .p
  | .p (.str z), .p (.int i) => (atI z.cps.toList i).map fun c => .p (.str ⟨#[c]⟩)
  | .obj n, .p (.int i) => match st[n]? with
    | some (.lst ds) => atI ds i
    | _ => none
  | _, _ => none
def ofD (o : Option D) (st : Store) : R D := match o with
  | some d => .ok d st
  | none => .no
def fIdx (fa fb : Env → Store → R D) : Env → Store → R D := fun env st => (fa env st).bind fun d st1 => (fb env st1).bind fun e st2 => ofD (idxO st2 d e) st2
theorem plainIx_of {b : Expr} (h : ∀ lo hi p, b ≠ .Slice lo hi none p) : PlainIx b := by
  intro o i
  unfold subscripted
  split
  · exact absurd rfl (h _ _ _)
  · rename_i h1; cases h1
  · rfl
theorem em_idx (hK : X.K = g.K) {a b : Expr} {pos : Pos} {fa fb : Env → Store → R D} (ha : PE X a (tS g EW fa)) (hb : PE X b (tS g EW fb)) (hs : ∀ lo hi p, b ≠ .Slice lo hi none p) : PE X (.Subscript a b pos) (tS g EW (fIdx fa fb)) := by
  refine em_two (ta := tS g EW fa) (tb := tS g EW fb) (pe_ix (ix_seq) ha hb (plainIx_of hs)) fun x y H Q h => ?_
  obtain ⟨d, e, st, ρ, B, R, rd, re, h⟩ := h
  cases eo : idxO st d e with
  | none => rw [eo] at h; exact h.elim
  | some r =>
    rw [eo] at h
    have h' : ∀ v, RD g H ρ B r v → Q v H := fun v rv => h v H ρ B Later.refl R rv
    unfold idxO at eo
    split at eo
    · rename_i xs i
      have re' : Dq g.K H B y _ := re
      cases re'
      have rd' : Dq g.K H B x _ := rd
      cases rd' with
      | @lst a vs _ n hr k =>
        simp only [Option.map_eq_some_iff] at eo
        obtain ⟨z, e1, rfl⟩ := eo
        obtain ⟨j, e2, e3⟩ := atI_len (ys := vs) k.length e1
        obtain ⟨w, e4, e5⟩ := k.get e2
        exact .inl ⟨a, vs, i, w, rfl, rfl, .inl hr, e3 w e4, h' w e5⟩
    · rename_i xs i
      have re' : Dq g.K H B y _ := re
      cases re'
      have rd' : Dq g.K H B x _ := rd
      cases rd' with
      | @tup a vs _ hr k =>
        simp only [Option.map_eq_some_iff] at eo
        obtain ⟨z, e1, rfl⟩ := eo
        obtain ⟨j, e2, e3⟩ := atI_len (ys := vs) k.length e1
        obtain ⟨w, e4, e5⟩ := k.get e2
        exact .inr (.inl ⟨a, vs, i, w, rfl, rfl, by rw [hK]; exact hr, e3 w e4, h' w e5⟩)
    · rename_i z i
      have re' : Dq g.K H B y _ := re
      cases re'
      have rd' : Dq g.K H B x _ := rd
      cases rd' with
      | str _ hz =>
        simp only [Option.map_eq_some_iff] at eo
        obtain ⟨c, e1, rfl⟩ := eo
        exact .inr (.inr ⟨z, i, c, rfl, rfl, hz, e1, h' _ (.str _ (by show 1 ≤ sizeLine; decide))⟩)
    · rename_i n i
      have re' : Dq g.K H B y _ := re
      cases re'
      split at eo
      · rename_i ds q
        obtain ⟨a, h1, vs, h2, h3⟩ := R.cell _ _ q
        obtain ⟨a', h4, rfl⟩ := rd
        rw [h1] at h4; cases h4
        obtain ⟨j, e2, e3⟩ := atI_len (ys := vs) h3.length eo
        obtain ⟨w, e4, e5⟩ := h3.get e2
        exact .inl ⟨a, vs, i, w, rfl, rfl, SqL.of h2, e3 w e4, h' w e5⟩
      · cases eo
    · cases eo

/-! ### slices -/
def cutD {α : Type} (xs : List α) (lo hi : Option Int) : List α := (xs.drop (HT.sIx xs.length 0 lo)).take (HT.sIx xs.length xs.length hi - HT.sIx xs.length 0 lo)
theorem DqAll.drop {K : PySem.W.Frag} : ∀ {vs : List V} {ds : List PyData} (n : Nat), DqAll K H B vs ds → DqAll K H B (vs.drop n) (ds.drop n)
  | _, _, 0, h => h
  | _, _, _ + 1, .nil => .nil
  | _, _, n + 1, .cons _ k => DqAll.drop n k
theorem DqAll.take {K : PySem.W.Frag} : ∀ {vs : List V} {ds : List PyData} (n : Nat), DqAll K H B vs ds → DqAll K H B (vs.take n) (ds.take n)
  | _, _, 0, _ => .nil
  | _, _, _ + 1, .nil => .nil
  | _, _, n + 1, .cons h k => .cons h (DqAll.take n k)
theorem DqAll.cut {K : PySem.W.Frag} {vs : List V} {ds : List PyData} (h : DqAll K H B vs ds) (lo hi : Option Int) : DqAll K H B (cutV vs lo hi) (cutD ds lo hi) := by
  unfold cutV cutD
  rw [h.length]
  exact (h.drop _).take _
def sliV (lo hi : Option Int) : PyData → Option PyData
  | .list xs => some (.list (cutD xs lo hi))
  | .tuple xs => some (.tuple (cutD xs lo hi))
  | .str z => some (.str (cutS z lo hi))
  | _ => none
/-- a part of a slice: left out, or an int -/
def fPart (f : Option (Env → Store → R D)) : Env → Store → R (Option Int) := fun env st => match f with
  | none => .ok none st
  | some fa => (fa env st).bind fun d st1 => match d with
    | .p (.int i) => .ok (some i) st1
    | _ => .no
def fSli (fa : Env → Store → R D) (fl fh : Option (Env → Store → R D)) : Env → Store → R D := fun env st => (fa env st).bind fun d st1 => (fPart fl env st1).bind fun lo st2 => (fPart fh env st2).bind fun hi st3 =>
  match asP st3 d with
  | some c => ofO (sliV lo hi c) st3
  | none => .no
/-- a part's reading -/
def tSO (g : Gm) (EW : XK) (f : Env → Store → R (Option Int)) : TO := fun σ H Q => ∃ env st ρ B, EnvR g H ρ B env σ ∧ HRep g H st ρ B ∧ Post g EW (fun _ _ _ a b => a = b) H ρ B (f env st) Q
theorem poImp {e : Option Expr} {t t' : TO} (h : PO X e t) (k : ∀ σ H Q, t' σ H Q → t σ H Q) : PO X e t' :=
  ⟨fun pins s σ H Q I q => h.run pins s σ H Q I (k σ H Q q)⟩
theorem eo_none : PO X none (tSO g EW (fPart none)) := poImp po_none fun σ H Q ⟨env, st, ρ, B, er, R, h⟩ => h none H ρ B Later.refl R rfl
theorem eo_some {e : Expr} {fa : Env → Store → R D} (ha : PE X e (tS g EW fa)) : PO X (some e) (tSO g EW (fPart (some fa))) := by
  refine poImp (po_some ha) fun σ H Q ⟨env, st, ρ, B, er, R, h⟩ => ?_
  unfold fPart at h
  refine ⟨env, st, ρ, B, er, R, seqP h fun d st1 x H1 ρ1 B1 _ l1 R1 r1 h1 => ?_⟩
  cases d with
  | obj n => exact h1.elim
  | p d =>
    cases d with
    | int i =>
      have r1' : Dq g.K H1 B1 x _ := r1
      cases r1'
      exact ⟨i, rfl, h1 (some i) H1 ρ1 B1 Later.refl R1 rfl⟩
    | _ => exact h1.elim
theorem sl_any (hK : X.K = g.K) : SlR X (fun x lo hi H Q => ∃ d st ρ B c r, HRep g H st ρ B ∧ RD g H ρ B d x ∧ asP st d = some c ∧ sliV lo hi c = some r ∧ Post g EW (RD g) H ρ B (ofO (some r) st) Q) := by
  intro pins s σ H x v vl vu lo hi sl Q I rx hs pl pu h
  obtain ⟨d, st, ρ, B, c, r, R, rd, ec, er, h⟩ := h
  unfold sliV at er
  split at er
  · cases er
    obtain ⟨a, vs, rfl, h1, k⟩ := asP_list R rd ec
    exact sl_list pins s σ H _ v vl vu lo hi sl Q I rx hs pl pu ⟨a, vs, rfl, .inl h1, fun p hp => post_lst R h (k.cut lo hi) hp⟩
  · cases er
    obtain ⟨a, vs, rfl, h1, k⟩ := asP_tup R rd ec
    refine sl_tupA pins s σ H _ v vl vu lo hi sl Q I rx hs pl pu ⟨a, vs, rfl, by rw [hK]; exact h1, fun hw => ?_, fun _ p hp => post_tup R h (k.cut lo hi) hp⟩
    rename_i xs
    have e : cutD xs lo hi = xs := by
      unfold cutD
      rw [← k.length, hw.1, hw.2]
      simp [k.length]
    rw [e] at h
    exact post_val R h (.tup h1 k)
  · cases er
    obtain ⟨rfl, hz⟩ := asP_str R rd ec
    exact sl_str pins s σ H _ v vl vu lo hi sl Q I rx hs pl pu ⟨_, rfl, hz, post_val R h (.str _ (Nat.le_trans (cutS_length _ _ _) hz))⟩
  · cases er
theorem em_sli (hK : X.K = g.K) {a : Expr} {lo hi : Option Expr} {p2 pos : Pos} {fa : Env → Store → R D} {fl fh : Option (Env → Store → R D)} (ha : PE X a (tS g EW fa)) (hl : PO X lo (tSO g EW (fPart fl))) (hh : PO X hi (tSO g EW (fPart fh))) :
    PE X (.Subscript a (.Slice lo hi none p2) pos) (tS g EW (fSli fa fl fh)) := by
  refine peImp (pe_slice (sl_any (EW := EW) hK) ha hl hh) fun σ H Q ⟨env, st, ρ, B, er, R, h⟩ => ?_
  refine ⟨env, st, ρ, B, er, R, seqP h fun d st1 x H1 ρ1 B1 _ l1 R1 r1 h1 => ?_⟩
  have er1 := l1.env R er
  refine ⟨env, st1, ρ1, B1, er1, R1, seqP h1 fun lo st2 y H2 ρ2 B2 _ l2 R2 r2 h2 => ?_⟩
  subst r2
  have er2 := l2.env R1 er1
  have rd2 := l2.rr R1 r1
  refine ⟨env, st2, ρ2, B2, er2, R2, seqP h2 fun hi st3 z H3 ρ3 B3 _ l3 R3 r3 h3 => ?_⟩
  subst r3
  have rd3 := l3.rr R2 rd2
  cases ec : asP st3 d with
  | none => simp only [ec] at h3; exact h3.elim
  | some c =>
    simp only [ec] at h3
    cases es : sliV lo hi c with
    | none => rw [es] at h3; exact h3.elim
    | some r =>
      rw [es] at h3
      exact ⟨d, st3, ρ3, B3, c, r, R3, rd3, ec, es, h3⟩

/-! ### an attribute of an instance -/
def lookF (fs : List (Str × D)) (f : Str) : Option D := fs.lookup f
theorem RFs.look {fs : List (Str × D)} {fv : List (Str × V)} {f : Str} {d : D} (h : RFs g H ρ B fs fv) (e : fs.lookup f = some d) : ∃ v, fv.lookup f = some v ∧ RD g H ρ B d v := by
  induction h with
  | nil => cases e
  | @cons f' d' ds v vs r _ ih =>
    rw [List.lookup_cons] at e ⊢
    split at e
    · cases e; exact ⟨v, rfl, r⟩
    · exact ih e
theorem RFs.look_none {fs : List (Str × D)} {fv : List (Str × V)} {f : Str} (h : RFs g H ρ B fs fv) (e : fs.lookup f = none) : fv.lookup f = none := by
  induction h with
  | nil => rfl
  | @cons f' d' ds v vs r _ ih =>
    rw [List.lookup_cons] at e ⊢
    split at e
    · cases e
    · exact ih e
/-- (class, attribute): what may be read and stored -/
def fldO (fk : Nat → Str → Bool) (st : Store) (f : Str) : D → Option D
  | .obj n => match st[n]? with
    | some (.ins c fs) => if fk c f then fs.lookup f else none
    | _ => none
  | _ => none
def fFld (fk : Nat → Str → Bool) (fa : Env → Store → R D) (f : Str) : Env → Store → R D := fun env st => (fa env st).bind fun d st1 => ofD (fldO fk st1 f d) st1
theorem base_name {x f : Str} {p : Pos} {env : PySem.Env} {w : Sem Value} : attributeBase (.Name x p) f env w = w := rfl
theorem base_plain {e : Expr} {f : Str} {env : PySem.Env} {w : Sem Value} (h : ∀ a b c p, e ≠ .Call a b c p) : attributeBase e f env w = w := by
  cases e <;> first | rfl | exact absurd rfl (h _ _ _ _)
theorem em_fld (hK : X.K = g.K) {fk : Nat → Str → Bool} (hf : ∀ c f, fk c f = true → Cls g.K (g.cad c) ∧ NoAttr g.K (g.cad c) f) {a : Expr} {f : Str} {pos : Pos} {fa : Env → Store → R D} (ha : PE X a (tS g EW fa)) (hp : ∀ x b c p, a ≠ .Call x b c p) :
    PE X (.Attribute a f pos) (tS g EW (fFld fk fa f)) := by
  refine peImp (pe_fld ha (base_plain hp)) fun σ H Q ⟨env, st, ρ, B, er, R, h⟩ => ?_
  refine ⟨env, st, ρ, B, er, R, seqP h fun d st1 x H1 ρ1 B1 _ l1 R1 r1 h1 => ?_⟩
  cases eo : fldO fk st1 f d with
  | none => rw [eo] at h1; exact h1.elim
  | some r =>
    rw [eo] at h1
    unfold fldO at eo
    split at eo
    · split at eo
      · rename_i c fs q
        split at eo
        · rename_i hk
          obtain ⟨h5, h6⟩ := hf c f hk
          obtain ⟨a', e1, dx, fv, e2, e3⟩ := R1.cell _ _ q
          obtain ⟨a'', e4, rfl⟩ := r1
          rw [e1] at e4; cases e4
          obtain ⟨v, e5, e6⟩ := e3.look eo
          exact ⟨a', g.cad c, dx, fv, v, rfl, e2, by rw [hK]; exact h5, by rw [hK]; exact h6, e5, h1 v H1 ρ1 B1 Later.refl R1 e6⟩
        · cases eo
      · cases eo
    · cases eo

/-! ### what a def promises -/
def spOf (g : Gm) (run : List D → Store → R D) : Sp := fun vs H Q E => ∃ ds st ρ B, HRep g H st ρ B ∧ RDs g H ρ B ds vs ∧ Post g E (RD g) H ρ B (run ds st) Q
def fCall (run : List D → Store → R D) (fs : Env → Store → R (List D)) : Env → Store → R D := fun env st => (fs env st).bind fun ds st1 => run ds st1
mutual
def flatP : PyData → Bool
  | .list _ => false
  | .dict _ => false
  | .tuple xs => flatPs xs
  | _ => true
def flatPs : List PyData → Bool
  | [] => true
  | x :: xs => flatP x && flatPs xs
end
mutual
theorem Dq.flat {K : PySem.W.Frag} {B B' : List Addr} : ∀ {v : V} {d : PyData}, Dq K H B v d → flatP d = true → Dq K H B' v d
  | _, _, .non, _ => .non
  | _, _, .bl b, _ => .bl b
  | _, _, .int i, _ => .int i
  | _, _, .str x z, _ => .str x z
  | _, _, .lst _ _ _, e => by simp [flatP] at e
  | _, _, .tup h k, e => .tup h (DqAll.flat k (by simpa [flatP] using e))
theorem DqAll.flat {K : PySem.W.Frag} {B B' : List Addr} : ∀ {vs : List V} {ds : List PyData}, DqAll K H B vs ds → flatPs ds = true → DqAll K H B' vs ds
  | _, _, .nil, _ => .nil
  | _, _, .cons h k, e => by
    simp only [flatPs, Bool.and_eq_true] at e
    exact .cons (Dq.flat h e.1) (DqAll.flat k e.2)
end
/-- the arguments as data, and whether one of them is a list that changes -/
def pdsB (st : Store) : List D → Option (List PyData × Bool)
  | [] => some ([], false)
  | .p d :: r => (pdsB st r).map fun q => (d :: q.1, q.2)
  | .obj n :: r => match asP st (.obj n) with
    | some d => (pdsB st r).map fun q => (d :: q.1, true)
    | none => none
/-- a def that changes nothing that stood: it runs over a store of its own -/
def pureRun (run : List D → Store → R D) (ds : List D) (st : Store) : R D := match pdsB st ds with
  | some (es, b) => match run (es.map .p) [] with
    | .ok r st' => match asP st' r with
      | some d => if b && !flatP d then .no else .ok (.p d) st
      | none => .no
    | .exc c d _ => if b && !flatP d then .no else .exc c d st
    | .no => .no
  | none => .no
theorem pdsB_of {ds : List D} {es : List PyData} {b : Bool} {vs : List V} (R : HRep g H st ρ B) (r : RDs g H ρ B ds vs) (e : pdsB st ds = some (es, b)) : DqAll g.K H [] vs es ∧ (b = false → DqAll g.K H B vs es) := by
  induction r generalizing es b with
  | nil => simp [pdsB] at e; obtain ⟨rfl, rfl⟩ := e; exact ⟨.nil, fun _ => .nil⟩
  | @cons d ds v vs rv _ ih =>
    cases d with
    | p d =>
      simp only [pdsB, Option.map_eq_some_iff] at e
      obtain ⟨⟨es', b'⟩, e1, e2⟩ := e
      cases e2
      obtain ⟨k1, k2⟩ := ih e1
      exact ⟨.cons (Dq.toNil (B := B) rv) k1, fun z => .cons rv (k2 z)⟩
    | obj n =>
      simp only [pdsB] at e
      split at e
      · rename_i c ec
        simp only [Option.map_eq_some_iff] at e
        obtain ⟨⟨es', b'⟩, e1, e2⟩ := e
        cases e2
        obtain ⟨k1, k2⟩ := ih e1
        exact ⟨.cons (asP_nil R rv ec) k1, fun z => by cases z⟩
      · cases e
theorem HRep.empty (R : HRep g H st ρ B) (b : Bool) : HRep g H [] [] (if b then [] else B) := by
  refine ⟨rfl, .nil, by simp, fun a ha => ?_, fun n c e => by simp at e, R.tabs⟩
  cases b with
  | true => simp at ha
  | false => exact R.mu a (by simpa using ha)
theorem Later.all {H' : Hp} {ρ' B' B0 : List Addr} (l : Later H [] B0 H' ρ' B') : LamX.ExtN H H' := fun a o h n => l.keep a o h (by simp) n
theorem pure_post {E : XK} {Q : VK} {run : List D → Store → R D} {ds : List D} {vs : List V} (R : HRep g H st ρ B) (r : RDs g H ρ B ds vs) (h : Post g E (RD g) H ρ B (pureRun run ds st) Q) : spOf g run vs H Q E := by
  unfold pureRun at h
  cases ep : pdsB st ds with
  | none => simp only [ep] at h; exact h.elim
  | some q =>
    obtain ⟨es, b⟩ := q
    simp only [ep] at h
    obtain ⟨k1, k2⟩ := pdsB_of R r ep
    have R0 := R.empty b
    refine ⟨es.map .p, [], [], _, R0, ?_, ?_⟩
    · refine DqAll.rds ?_
      cases b with
      | true => exact k1
      | false => exact k2 rfl
    · -- a datum of the callee is one of the caller's
      have up : ∀ {H' : Hp} {ρ' B' : List Addr} {v : V} {d : PyData}, Later H [] (if b then [] else B) H' ρ' B' → Dq g.K H' B' v d → ¬ ((b && !flatP d) = true) → Dq g.K H' B v d := fun {H' ρ' B' v d} l q hb => by
        cases b with
        | true =>
          have : flatP d = true := by simpa using hb
          exact q.flat this
        | false =>
          obtain ⟨e, _, e2, _⟩ := l.ex
          refine q.mono (fun a xs n hr => ⟨fun m => n ?_, hr⟩) fun _ _ z => z
          rw [e2]
          exact List.mem_append_left _ (by simpa using m)
      cases er : run (es.map .p) [] with
      | no => simp only [er] at h; exact h
      | exc c d st' =>
        simp only [er] at h
        split at h
        · exact h.elim
        · rename_i hb
          intro cls dc H' ρ' B' l R' x
          refine h cls dc H' ρ B (R.sameN l.all R'.tabs).1 (R.sameN l.all R'.tabs).2 ?_
          obtain ⟨x1, x2⟩ := x
          refine ⟨x1, ?_⟩
          cases ex : g.xat c with
          | none => simp only [ex] at x2 ⊢; exact x2
          | some f =>
            simp only [ex] at x2 ⊢
            obtain ⟨dx, v, y1, y2, y3⟩ := x2
            exact ⟨dx, v, y1, y2, up l y3 hb⟩
      | ok r' st' =>
        simp only [er] at h
        intro v H' ρ' B' l R' rv
        cases ea : asP st' r' with
        | none => simp only [ea] at h; exact h.elim
        | some d =>
          simp only [ea] at h
          split at h
          · exact h.elim
          · rename_i hb
            refine h v H' ρ B (R.sameN l.all R'.tabs).1 (R.sameN l.all R'.tabs).2 ?_
            cases r' with
            | p d' =>
              cases ea
              exact up l rv hb
            | obj n =>
              obtain ⟨a, ws, xs, rfl, h1, h2, rfl⟩ := asP_obj R' rv ea
              cases b with
              | true => simp [flatP] at hb
              | false =>
                obtain ⟨e, e1, e2, e3⟩ := l.ex
                obtain ⟨a', e4, e5⟩ := rv
                cases e5
                have hfr : a ∉ B := fun m => by
                  rw [e1, List.nil_append] at e4
                  obtain ⟨o, q⟩ := mut_some (R.mu a m)
                  have mu := R.mu a m
                  obtain ⟨ps, z⟩ := e3 a (List.mem_of_getElem? e4) o q
                  rw [q, z] at mu
                  exact mu
                refine .lst hfr (.inl h1) (h2.mono (fun a xs n hr => ⟨fun m => n ?_, hr⟩) fun _ _ z => z)
                rw [e2]
                exact List.mem_append_left _ (by simpa using m)
theorem star_none {env : PySem.Env} {pos : Pos} : ∀ {l : List Expr}, (∀ e ∈ l, ∀ y q, e ≠ .Starred y q) → (backTo pos (starEach l env)).any (·.1) = false
  | [], _ => rfl
  | e :: r, h => by
    rw [starEach_plain (h e (by simp))]
    show (false || (backTo pos (starEach r env)).any (·.1)) = false
    rw [star_none fun e he => h e (by simp [he])]
    rfl
/-- as FnOk, where no repr is under way -/
structure FnG (P : Program) (w : World) (K : PySem.W.Frag) (mg : Str → Option Value) (base : Heap) (CX : CXT) (k : Nat) (f : Addr) (fd : FuncData) (ps : List Str) (sp : Sp) : Prop where
  len : ∀ vs H Q E, sp vs H Q E → vs.length = ps.length
  run : ∀ (A : Around) (outer : List PySem.Env) (s : Shared) (H : Hp) (args : Args) (us : List Value) (vs : List V) (Q : VK) (E : XK), A.guards = some [] → Room k A → Env0 P w K mg base A outer s H → BindsTo s fd args (ps.zip us) → Vals vs us → sp vs H Q E →
    codeAny (model P w) A (.call (.ref f) args) (CR CX outer P w H s Q E) s
theorem FnG.of {P : Program} {w : World} {K : PySem.W.Frag} {mg : Str → Option Value} {base : Heap} {CX : CXT} {k : Nat} {f : Addr} {fd : FuncData} {ps : List Str} {sp : Sp} (F : FnOk P w K mg base CX k f fd ps sp) : FnG P w K mg base CX k f fd ps sp :=
  ⟨F.len, fun A outer s H args us vs Q E _ => F.run A outer s H args us vs Q E⟩
theorem pe_callG {CX : CXT} {k : Nat} {f : Addr} {fd : FuncData} {ps : List Str} {sp : Sp} {dvs : List V} {ds : List Value} {E : XK} {x : Str} {p pos : Pos} {e : Expr} {es : List Expr} {t : TA} (F : FnG X.prog X.w X.K X.mg X.base CX k f fd ps sp) (hG : X.A.guards = some []) (hr : Room k X.A) (hg : Gl X x) (hm : X.mg x = some (.ref f)) (hk : PySem.W.keepIn X.K (.ref f) = true) (hb : Binds X.K fd ps ds) (hd : Vals dvs ds) (hx : Passes CX X E)
    (ha : PA X (e :: es) t) (hdb : (x == ("__debug__" : Str)) = false) (he : starEach (e :: es) X.env = (false, eval e X.env) :: starEach es X.env) (hpl : (backTo pos (starEach es X.env)).any (·.1) = false) :
    PE X (.Call (.Name x p) (e :: es) [] pos) (tCall sp dvs E t) := by
  refine ⟨fun pins s σ H Q I h => ?_⟩
  refine wpAny_Call_Name_kw (ld_glob I hg hm ?_ hdb)
  refine PySem.W.callWith_K (h₀ := X.base) I.ok.mod.kin hk (thn (ha.run pos pins s σ H _ I h) fun us s1 ⟨vs, H1, I1, r, q⟩ => ⟨I1.kIn, ?_⟩) he hpl
  have r2 : Vals (vs ++ dvs) (us ++ ds) := r.append hd
  have hl : (us ++ ds).length = ps.length := by rw [← r2.length]; exact F.len _ _ _ _ q
  refine wpAny_call (codeAny_mono (F.run X.A X.stack s1 H1 ⟨us, []⟩ (us ++ ds) (vs ++ dvs) Q E hG hr I1.env0 (hb s1 us I1.kIn hl) r2 q) fun r s' hq => ?_)
  cases r with
  | error e => exact hx pins σ H1 s1 e s' I1 hq
  | ok fl =>
    cases fl with
    | ret u => exact I1.after hq
    | next => exact False.elim hq
    | brk => exact False.elim hq
    | cont => exact False.elim hq
theorem em_callC {x : Str} {e : Expr} {es : List Expr} {p pos : Pos} {run run' : List D → Store → R D} {fs : Env → Store → R (List D)} {ds0 : List PyData} {dvs : List V} (hdq : ∀ H B, DqAll g.K H B dvs ds0)
    (hrun : run' = (fun ds st => run (ds ++ ds0.map .p) st) ∨ run' = (fun ds st => pureRun run (ds ++ ds0.map .p) st)) (hc : PE X (.Call (.Name x p) (e :: es) [] pos) (tCall (spOf g run) dvs EW (tSA g EW fs))) :
    PE X (.Call (.Name x p) (e :: es) [] pos) (tS g EW (fCall run' fs)) := by
  refine peImp hc fun σ H Q ⟨env, st, ρ, B, er, R, h⟩ => ?_
  refine ⟨env, st, ρ, B, er, R, seqP h fun ds st1 vs H1 ρ1 B1 _ l1 R1 r1 h1 => ?_⟩
  have r2 : RDs g H1 ρ1 B1 (ds ++ ds0.map .p) (vs ++ dvs) := r1.app (hdq H1 B1).rds
  rcases hrun with rfl | rfl
  · exact ⟨_, st1, ρ1, B1, R1, r2, h1⟩
  · exact pure_post R1 r2 h1
/-- f(e, ..), f a def of the module; ds0: the defaults that fill up -/
theorem em_call {f : Addr} {fd : FuncData} {ps : List Str} {n : Nat} {x : Str} {e : Expr} {es : List Expr} {p pos : Pos} {run run' : List D → Store → R D} {fs : Env → Store → R (List D)} {ds0 : List PyData} {dvs : List V} {dus : List Value} (tk : Takes X (fun c d _ H => EW c d H))
    (F : FnOk X.prog X.w X.K X.mg X.base (L2.CX X.prog X.w) n f fd ps (spOf g run)) (hr : Room n X.A) (hg : Gl X x) (hm : X.mg x = some (.ref f)) (hk : PySem.W.keepIn X.K (.ref f) = true) (hb : Binds X.K fd ps dus) (hd : Vals dvs dus) (hdq : ∀ H B, DqAll g.K H B dvs ds0)
    (ha : PA X (e :: es) (tSA g EW fs)) (hdb : (x == ("__debug__" : Str)) = false) (hst : ∀ e' ∈ e :: es, ∀ y q, e' ≠ .Starred y q)
    (hrun : run' = (fun ds st => run (ds ++ ds0.map .p) st) ∨ run' = (fun ds st => pureRun run (ds ++ ds0.map .p) st)) :
    PE X (.Call (.Name x p) (e :: es) [] pos) (tS g EW (fCall run' fs)) :=
  em_callC hdq hrun (pe_call F hr hg hm hk hb hd (passes_call tk fun _ _ _ _ h => h) ha hdb (starEach_plain (hst e (by simp))) (star_none fun e he => hst e (by simp [he])))
theorem em_callG {f : Addr} {fd : FuncData} {ps : List Str} {n : Nat} {x : Str} {e : Expr} {es : List Expr} {p pos : Pos} {run run' : List D → Store → R D} {fs : Env → Store → R (List D)} {ds0 : List PyData} {dvs : List V} {dus : List Value} (tk : Takes X (fun c d _ H => EW c d H))
    (F : FnG X.prog X.w X.K X.mg X.base (L2.CX X.prog X.w) n f fd ps (spOf g run)) (hG : X.A.guards = some []) (hr : Room n X.A) (hg : Gl X x) (hm : X.mg x = some (.ref f)) (hk : PySem.W.keepIn X.K (.ref f) = true) (hb : Binds X.K fd ps dus) (hd : Vals dvs dus) (hdq : ∀ H B, DqAll g.K H B dvs ds0)
    (ha : PA X (e :: es) (tSA g EW fs)) (hdb : (x == ("__debug__" : Str)) = false) (hst : ∀ e' ∈ e :: es, ∀ y q, e' ≠ .Starred y q)
    (hrun : run' = (fun ds st => run (ds ++ ds0.map .p) st) ∨ run' = (fun ds st => pureRun run (ds ++ ds0.map .p) st)) :
    PE X (.Call (.Name x p) (e :: es) [] pos) (tS g EW (fCall run' fs)) :=
  em_callC hdq hrun (pe_callG F hG hr hg hm hk hb hd (passes_call tk fun _ _ _ _ h => h) ha hdb (starEach_plain (hst e (by simp))) (star_none fun e he => hst e (by simp [he])))
theorem form_plain {env : PySem.Env} {pos : Pos} {es : List Expr} (h : ∀ e ∈ es, ∀ y q, e ≠ .Starred y q) (hl : es.length < 30) : methodCallForm (es.length + ([] : List Keyword).length) (backTo pos (starEach es env)) (backToKw pos (keywordEach [] env)) = true := by
  have h1 : ∀ {l : List Expr}, (∀ e ∈ l, ∀ y q, e ≠ .Starred y q) → (backTo pos (starEach l env)).all (!·.1) = true := by
    intro l
    induction l with
    | nil => intro _; rfl
    | cons e r ih =>
      intro h
      rw [starEach_plain (h e (by simp))]
      show (true && (backTo pos (starEach r env)).all (!·.1)) = true
      rw [ih fun e he => h e (by simp [he])]
      rfl
  unfold methodCallForm
  rw [h1 h]
  simp [backToKw, keywordEach, hl]
theorem meth_eval {o : Expr} {m : Str} {apos pos : Pos} {es : List Expr} {env : PySem.Env} (hp : ∀ x b c p, o ≠ .Call x b c p) (h : ∀ e ∈ es, ∀ y q, e ≠ .Starred y q) (hl : es.length < 30) (hpos : (apos.endLine == pos.line) = true) :
    eval (.Call (.Attribute o m apos) es [] pos) env = (do
      let ov ← eval o env
      standAt apos.atName
      let (f, first) ← holding [ov] (getMethod ov m (do return (← importBound o env).getD true))
      callWith pos f first (backTo pos (starEach es env)) (backToKw pos (keywordEach [] env))) := by
  show (do
    let ov ← attributeBase o m env (eval o env)
    standAt apos.atName
    methodCall o m apos pos env ov (es.length + ([] : List Keyword).length) (backTo pos (starEach es env)) (backToKw pos (keywordEach [] env))) = _
  rw [base_plain hp]
  have e : ∀ ov, methodCall o m apos pos env ov (es.length + ([] : List Keyword).length) (backTo pos (starEach es env)) (backToKw pos (keywordEach [] env)) = (do
      let (f, first) ← holding [ov] (getMethod ov m (do return (← importBound o env).getD true))
      callWith pos f first (backTo pos (starEach es env)) (backToKw pos (keywordEach [] env))) := fun ov => by
    unfold methodCall
    rw [form_plain h hl]
    unfold methodCallPos calleeOf
    rw [if_pos rfl]
    have : (!true || apos.endLine == pos.line) = true := by rw [hpos]; rfl
    rw [if_pos this]
    rfl
  simp only [e]
/-- o.m(e, ..) -/
def fMeth (c : Nat) (m : Str) (run : List D → Store → R D) (fo : Env → Store → R D) (fs : Env → Store → R (List D)) : Env → Store → R D := fun env st => (fo env st).bind fun d st1 => match d with
  | .obj n => (match st1[n]? with
    | some (.ins c' ff) => if c' = c ∧ ff.lookup m = none then (fs env st1).bind fun ds st2 => run (d :: ds) st2 else .no
    | _ => .no)
  | _ => .no
theorem em_meth {f : Addr} {fd : FuncData} {ps : List Str} {n c : Nat} {m : Str} {o : Expr} {es : List Expr} {apos pos : Pos} {run : List D → Store → R D} {fo : Env → Store → R D} {fs : Env → Store → R (List D)} (tk : Takes X (fun c d _ H => EW c d H)) (ho : PE X o (tS g EW fo))
    (hc : Cls X.K (g.cad c)) (hm : Meth X.K (g.cad c) m f) (F : FnOk X.prog X.w X.K X.mg X.base (L2.CX X.prog X.w) n f fd ps (spOf g run)) (hr : Room n X.A) (hb : Binds X.K fd ps []) (ha : PA X es (tSA g EW fs)) (hst : ∀ e' ∈ es, ∀ y q, e' ≠ .Starred y q)
    (hp : ∀ x b c p, o ≠ .Call x b c p) (hl : es.length < 30) (hpos : (apos.endLine == pos.line) = true) (hnil : es = [] → fs = fNil) :
    PE X (.Call (.Attribute o m apos) es [] pos) (tS g EW (fMeth c m run fo fs)) := by
  have hx : Passes (L2.CX X.prog X.w) X EW := passes_call tk fun _ _ _ _ h => h
  have fin : ∀ {t : TA} {σ : L2.St} {H : Hp} {Q : VK}, (∀ σ H N, tSA g EW fs σ H N → t σ H N) → tS g EW (fMeth c m run fo fs) σ H Q → tMeth (g.cad c) m (spOf g run) [] EW (tS g EW fo) t σ H Q := fun {t σ H Q} ht ⟨env, st, ρ, B, er, R, h⟩ => by
    refine ⟨env, st, ρ, B, er, R, seqP h fun d st1 x H1 ρ1 B1 _ l1 R1 r1 h1 => ?_⟩
    cases d with
    | p d => exact h1.elim
    | obj k =>
      simp only at h1
      split at h1
      · rename_i c' ff q
        split at h1
        · rename_i hcm
          obtain ⟨rfl, hl⟩ := hcm
          obtain ⟨a, e1, dx, fv, e2, e3⟩ := R1.cell _ _ q
          obtain ⟨a', e4, rfl⟩ := r1
          rw [e1] at e4; cases e4
          refine ⟨a, dx, fv, rfl, e2, e3.look_none hl, ht _ _ _ ⟨env, st1, ρ1, B1, l1.env R er, R1, seqP h1 fun ds st2 vs H2 ρ2 B2 _ l2 R2 r2 h2 => ?_⟩⟩
          refine ⟨_, st2, ρ2, B2, R2, .cons (l2.rr R1 (show RD g H1 ρ1 B1 (.obj k) (.ref a) from ⟨a, e1, rfl⟩)) ?_, h2⟩
          rw [List.append_nil]
          exact r2
        · exact h1.elim
      · exact h1.elim
  cases es with
  | nil =>
    obtain rfl := hnil rfl
    exact peImp (pe_meth0 (pl := do return (← importBound o X.env).getD true) ho hc hm F hr hb .nil hx (meth_eval hp hst hl hpos)) fun σ H Q q => fin (fun σ H N ⟨env, st, ρ, B, er, R, h⟩ => h [] H ρ B Later.refl R .nil) q
  | cons e es =>
    exact peImp (pe_meth (pl := do return (← importBound o X.env).getD true) ho hc hm F hr hb .nil hx ha (starEach_plain (hst e (by simp))) (star_none fun e he => hst e (by simp [he])) (meth_eval hp hst hl hpos)) fun σ H Q q => fin (fun _ _ _ z => z) q
/-- C(..) -/
def fMake (c : Nat) (run : List D → Store → R D) (fs : Env → Store → R (List D)) : Env → Store → R D := fun env st => (fs env st).bind fun ds st1 => (run (.obj st1.length :: ds) (st1 ++ [.ins c []])).bind fun r st2 => match r with
  | .p .none => .ok (.obj st1.length) st2
  | _ => .no
theorem em_make {f : Addr} {fd : FuncData} {ps : List Str} {n c : Nat} {x : Str} {es : List Expr} {p pos : Pos} {run : List D → Store → R D} {fs : Env → Store → R (List D)} (tk : Takes X (fun c d _ H => EW c d H)) (M : Mk X.K (g.cad c) f)
    (F : FnOk X.prog X.w X.K X.mg X.base (L2.CX X.prog X.w) n f fd ps (spOf g run)) (hr : Room (n + 1) X.A) (hg : Gl X x) (hm : X.mg x = some (.ref (g.cad c))) (hb : Binds X.K fd ps []) (ha : PA X es (tSA g EW fs)) (hdb : (x == ("__debug__" : Str)) = false)
    (hst : ∀ e' ∈ es, ∀ y q, e' ≠ .Starred y q) (hnil : es = [] → fs = fNil) : PE X (.Call (.Name x p) es [] pos) (tS g EW (fMake c run fs)) := by
  have hx : Passes (L2.CX X.prog X.w) X EW := passes_call tk fun _ _ _ _ h => h
  have fin : ∀ {t : TA} {σ : L2.St} {H : Hp} {Q : VK}, (∀ σ H N, tSA g EW fs σ H N → t σ H N) → tS g EW (fMake c run fs) σ H Q → tMake (g.cad c) (spOf g run) [] EW t σ H Q := fun {t σ H Q} ht ⟨env, st, ρ, B, er, R, h⟩ => by
    refine ht _ _ _ ⟨env, st, ρ, B, er, R, seqP h fun ds st1 vs H1 ρ1 B1 _ l1 R1 r1 h1 => fun x dx hx hdx hne => ?_⟩
    have k : ∀ a o, H1 a = some o → upd (upd H1 dx (.own x)) x (.ins (g.cad c) dx []) a = some o := fun a o e => by
      rw [upd_ne (ne_of_none e hx)]
      exact keepNew hdx a o e
    obtain ⟨l, R'⟩ := R1.push (c := .ins c []) hx k (by rw [upd_same]; trivial) ⟨dx, [], upd_same, .nil⟩
    have hi : (ρ1 ++ [x])[st1.length]? = some x := by
      rw [← R1.len, List.getElem?_append_right (Nat.le_refl _)]
      simp
    refine ⟨.obj st1.length :: ds, _, _, _, R', .cons (show RD g _ (ρ1 ++ [x]) (B1 ++ [x]) (.obj st1.length) (.ref x) from ⟨x, hi, rfl⟩) ?_, ?_⟩
    · rw [List.append_nil]
      exact l.rrs R1 r1
    · have h2 := Post.later (st1 := st1 ++ [.ins c []]) h1 l R'
      refine seqP h2 fun r st2 v H2 ρ2 B2 _ l2 R2 r2 h3 => ?_
      cases r with
      | obj k => exact h3.elim
      | p d =>
        cases d with
        | none =>
          have r2' : Dq g.K H2 B2 v .none := r2
          cases r2'
          refine ⟨rfl, h3 _ H2 ρ2 B2 Later.refl R2 ?_⟩
          obtain ⟨e, e1, _⟩ := l2.ex
          refine ⟨x, ?_, rfl⟩
          rw [e1, List.getElem?_append_left (by rw [List.length_append, R1.len]; simp)]
          exact hi
        | _ => exact h3.elim
  cases es with
  | nil =>
    obtain rfl := hnil rfl
    exact peImp (pe_make0 M F hr hg hm hb .nil hx hdb) fun σ H Q q => fin (fun σ H N ⟨env, st, ρ, B, er, R, h⟩ => h [] H ρ B Later.refl R .nil) q
  | cons e es =>
    exact peImp (pe_make M F hr hg hm hb .nil hx ha hdb (starEach_plain (hst e (by simp))) (star_none fun e he => hst e (by simp [he]))) fun σ H Q q => fin (fun _ _ _ z => z) q
end
end Mp
end

section
set_option Elab.async false
set_option linter.all false
set_option maxRecDepth 100000
set_option maxHeartbeats 4000000
/-! M6: built-in functions, built-in methods, keywords. -/
namespace Mp
open PySem PySem.Spec PyProof.Rows L2
section
variable {g : Gm} {EW : XK} {X : Cx} {H H' : Hp} {st st1 : Store} {ρ B : List Addr}

/-! ### built-in functions -/
/-- the arguments as data -/
def asPs (st : Store) : List D → Option (List PyData)
  | [] => some []
  | d :: r => match asP st d, asPs st r with
    | some c, some cs => some (c :: cs)
    | _, _ => none
def fnV (bv : List PyData → Option PyData) (ds : List D) (st : Store) : R D := match asPs st ds with
  | some es => ofO (bv es) st
  | none => .no
/-- a rule told by what comes of the data -/
def rV (g : Gm) (EW : XK) (bv : List PyData → Option PyData) : List V → Hp → VK → Prop := fun vs H Q => ∃ ds st ρ B es c, HRep g H st ρ B ∧ RDs g H ρ B ds vs ∧ asPs st ds = some es ∧ bv es = some c ∧ Post g EW (RD g) H ρ B (ofO (some c) st) Q
theorem rV_of {bv : List PyData → Option PyData} {ds : List D} {vs : List V} {Q : VK} (R : HRep g H st ρ B) (r : RDs g H ρ B ds vs) (h : Post g EW (RD g) H ρ B (fnV bv ds st) Q) : rV g EW bv vs H Q := by
  unfold fnV at h
  cases ea : asPs st ds with
  | none => simp only [ea] at h; exact h.elim
  | some es =>
    simp only [ea] at h
    cases eb : bv es with
    | none => rw [eb] at h; exact h.elim
    | some c => rw [eb] at h; exact ⟨ds, st, ρ, B, es, c, R, r, ea, eb, h⟩
theorem asPs1 {ds : List D} {vs : List V} {a : PyData} (r : RDs g H ρ B ds vs) (e : asPs st ds = some [a]) : ∃ d v, ds = [d] ∧ vs = [v] ∧ RD g H ρ B d v ∧ asP st d = some a := by
  cases r with
  | nil => simp [asPs] at e
  | @cons d ds v vs r1 r2 =>
    simp only [asPs] at e
    cases e1 : asP st d with
    | none => simp only [e1] at e; cases e
    | some c =>
      cases e2 : asPs st ds with
      | none => simp only [e1, e2] at e; cases e
      | some cs =>
        simp only [e1, e2] at e
        cases e
        cases r2 with
        | nil => exact ⟨d, v, rfl, rfl, r1, e1⟩
        | @cons d' ds' v' vs' r3 r4 =>
          simp only [asPs] at e2
          split at e2 <;> cases e2
theorem asPs2 {ds : List D} {vs : List V} {a b : PyData} (r : RDs g H ρ B ds vs) (e : asPs st ds = some [a, b]) : ∃ d d' v v', ds = [d, d'] ∧ vs = [v, v'] ∧ RD g H ρ B d v ∧ RD g H ρ B d' v' ∧ asP st d = some a ∧ asP st d' = some b := by
  cases r with
  | nil => simp [asPs] at e
  | @cons d ds v vs r1 r2 =>
    simp only [asPs] at e
    cases e1 : asP st d with
    | none => simp only [e1] at e; cases e
    | some c =>
      cases e2 : asPs st ds with
      | none => simp only [e1, e2] at e; cases e
      | some cs =>
        simp only [e1, e2] at e
        cases e
        obtain ⟨d', v', rfl, rfl, r3, e3⟩ := asPs1 r2 e2
        exact ⟨d, d', v, v', rfl, rfl, r1, r3, e1, e3⟩
theorem em_bf {x : Str} {e : Expr} {es : List Expr} {p pos : Pos} {fs : Env → Store → R (List D)} {bv : List PyData → Option PyData} (h : PE X (.Call (.Name x p) (e :: es) [] pos) (tCB (rV g EW bv) (tSA g EW fs))) :
    PE X (.Call (.Name x p) (e :: es) [] pos) (tS g EW (fCall (fnV bv) fs)) :=
  peImp h fun σ H Q ⟨env, st, ρ, B, er, R, h⟩ => ⟨env, st, ρ, B, er, R, seqP h fun ds st1 vs H1 ρ1 B1 _ l1 R1 r1 h1 => rV_of R1 r1 h1⟩

def lenV : List PyData → Option PyData
  | [.str x] => some (.int x.length)
  | [.list xs] => some (.int xs.length)
  | [.tuple xs] => some (.int xs.length)
  | _ => none
theorem cl_len (hK : X.K = g.K) : CallR X (.builtin "len") (rV g EW lenV) := by
  intro pins s σ H vs us Q I r h
  obtain ⟨ds, st, ρ, B, es, c, R, rr, ea, eb, h⟩ := h
  unfold lenV at eb
  split at eb
  · cases eb
    obtain ⟨d, v, rfl, rfl, r1, e1⟩ := asPs1 rr ea
    obtain ⟨rfl, z⟩ := asP_str R r1 e1
    exact call_len pins s σ H _ us Q I r ⟨_, _, rfl, ⟨z, rfl⟩, post_val R h (.int _)⟩
  · cases eb
    obtain ⟨d, v, rfl, rfl, r1, e1⟩ := asPs1 rr ea
    obtain ⟨a, ws, rfl, h1, k⟩ := asP_list R r1 e1
    exact call_len pins s σ H _ us Q I r ⟨_, ws.length, rfl, .inl ⟨ws, .inl h1, rfl⟩, by rw [k.length]; exact post_val R h (.int _)⟩
  · cases eb
    obtain ⟨d, v, rfl, rfl, r1, e1⟩ := asPs1 rr ea
    obtain ⟨a, ws, rfl, h1, k⟩ := asP_tup R r1 e1
    exact call_len pins s σ H _ us Q I r ⟨_, ws.length, rfl, .inr ⟨ws, by rw [hK]; exact h1, rfl⟩, by rw [k.length]; exact post_val R h (.int _)⟩
  · cases eb
def absV : List PyData → Option PyData
  | [.int i] => some (.int (if i < 0 then -i else i))
  | _ => none
theorem cl_abs : CallR X (.builtin "abs") (rV g EW absV) := by
  intro pins s σ H vs us Q I r h
  obtain ⟨ds, st, ρ, B, es, c, R, rr, ea, eb, h⟩ := h
  unfold absV at eb
  split at eb
  · cases eb
    obtain ⟨d, v, rfl, rfl, r1, e1⟩ := asPs1 rr ea
    obtain rfl := asP_int R r1 e1
    exact call_abs pins s σ H _ us Q I r ⟨_, rfl, post_val R h (.int _)⟩
  · cases eb
def maxV : List PyData → Option PyData
  | [.int i, .int j] => some (.int (if j > i then j else i))
  | _ => none
theorem cl_max (hc : X.calm = true) : CallR X (.builtin "max") (rV g EW maxV) := by
  intro pins s σ H vs us Q I r h
  obtain ⟨ds, st, ρ, B, es, c, R, rr, ea, eb, h⟩ := h
  unfold maxV at eb
  split at eb
  · cases eb
    obtain ⟨d, d', v, v', rfl, rfl, r1, r2, e1, e2⟩ := asPs2 rr ea
    obtain rfl := asP_int R r1 e1
    obtain rfl := asP_int R r2 e2
    exact call_max2 hc pins s σ H _ us Q I r ⟨_, _, rfl, post_val R h (.int _)⟩
  · cases eb
def minV : List PyData → Option PyData
  | [.int i, .int j] => some (.int (if j < i then j else i))
  | _ => none
theorem cl_min (hc : X.calm = true) : CallR X (.builtin "min") (rV g EW minV) := by
  intro pins s σ H vs us Q I r h
  obtain ⟨ds, st, ρ, B, es, c, R, rr, ea, eb, h⟩ := h
  unfold minV at eb
  split at eb
  · cases eb
    obtain ⟨d, d', v, v', rfl, rfl, r1, r2, e1, e2⟩ := asPs2 rr ea
    obtain rfl := asP_int R r1 e1
    obtain rfl := asP_int R r2 e2
    exact call_min2 hc pins s σ H _ us Q I r ⟨_, _, rfl, post_val R h (.int _)⟩
  · cases eb
def gcdV : List PyData → Option PyData
  | [.int i, .int j] => some (.int ((Nat.gcd i.natAbs j.natAbs : Nat) : Int))
  | _ => none
theorem cl_gcd : CallR X (.builtin "math.gcd") (rV g EW gcdV) := by
  intro pins s σ H vs us Q I r h
  obtain ⟨ds, st, ρ, B, es, c, R, rr, ea, eb, h⟩ := h
  unfold gcdV at eb
  split at eb
  · cases eb
    obtain ⟨d, d', v, v', rfl, rfl, r1, r2, e1, e2⟩ := asPs2 rr ea
    obtain rfl := asP_int R r1 e1
    obtain rfl := asP_int R r2 e2
    exact cr_gcd pins s σ H _ us Q I r ⟨_, _, rfl, post_val R h (.int _)⟩
  · cases eb
def divmodV : List PyData → Option PyData
  | [.int i, .int j] => if 0 < j ∧ j < 1073741824 then some (.tuple [.int (i / j), .int (i % j)]) else none
  | _ => none
theorem cl_divmod : CallR X (.builtin "divmod") (rV g EW divmodV) := by
  intro pins s σ H vs us Q I r h
  obtain ⟨ds, st, ρ, B, es, c, R, rr, ea, eb, h⟩ := h
  unfold divmodV at eb
  split at eb
  · split at eb
    · rename_i hz
      cases eb
      obtain ⟨d, d', v, v', rfl, rfl, r1, r2, e1, e2⟩ := asPs2 rr ea
      obtain rfl := asP_int R r1 e1
      obtain rfl := asP_int R r2 e2
      exact call_divmod pins s σ H _ us Q I r ⟨_, _, rfl, ⟨hz.1, hz.2⟩, fun p hp => post_tup R h (.cons (.int _) (.cons (.int _) .nil)) hp⟩
    · cases eb
  · cases eb
def boolsP : List PyData → Option (List Bool)
  | [] => some []
  | .bool b :: r => (boolsP r).map (b :: ·)
  | _ :: _ => none
theorem DqAll.bools {K : PySem.W.Frag} : ∀ {xs : List PyData} {vs : List V} {bs : List Bool}, DqAll K H B vs xs → boolsP xs = some bs → vs = bs.map V.bl
  | [], _, _, h, e => by cases h; cases e; rfl
  | x :: xs, _, bs, .cons h k, e => by
    cases h with
    | bl b =>
      simp only [boolsP, Option.map_eq_some_iff] at e
      obtain ⟨bs', e1, rfl⟩ := e
      rw [DqAll.bools k e1]
      rfl
    | _ => cases e
def allV : List PyData → Option PyData
  | [.list xs] => (boolsP xs).map fun bs => .bool (bs.all id)
  | _ => none
theorem cl_all (hc : X.calm = true) : CallR X (.builtin "all") (rV g EW allV) := by
  intro pins s σ H vs us Q I r h
  obtain ⟨ds, st, ρ, B, es, c, R, rr, ea, eb, h⟩ := h
  unfold allV at eb
  split at eb
  · simp only [Option.map_eq_some_iff] at eb
    obtain ⟨bs, eb, rfl⟩ := eb
    obtain ⟨d, v, rfl, rfl, r1, e1⟩ := asPs1 rr ea
    obtain ⟨a, ws, rfl, h1, k⟩ := asP_list R r1 e1
    have := k.bools eb
    subst this
    exact cr_all hc pins s σ H _ us Q I r ⟨a, bs, rfl, .inl h1, post_val R h (.bl _)⟩
  · cases eb
def anyV : List PyData → Option PyData
  | [.list xs] => (boolsP xs).map fun bs => .bool (bs.any id)
  | _ => none
theorem cl_any (hc : X.calm = true) : CallR X (.builtin "any") (rV g EW anyV) := by
  intro pins s σ H vs us Q I r h
  obtain ⟨ds, st, ρ, B, es, c, R, rr, ea, eb, h⟩ := h
  unfold anyV at eb
  split at eb
  · simp only [Option.map_eq_some_iff] at eb
    obtain ⟨bs, eb, rfl⟩ := eb
    obtain ⟨d, v, rfl, rfl, r1, e1⟩ := asPs1 rr ea
    obtain ⟨a, ws, rfl, h1, k⟩ := asP_list R r1 e1
    have := k.bools eb
    subst this
    exact cr_any hc pins s σ H _ us Q I r ⟨a, bs, rfl, .inl h1, post_val R h (.bl _)⟩
  · cases eb
def intsP : List PyData → Option (List Int)
  | [] => some []
  | .int b :: r => (intsP r).map (b :: ·)
  | _ :: _ => none
theorem DqAll.ints {K : PySem.W.Frag} : ∀ {xs : List PyData} {vs : List V} {bs : List Int}, DqAll K H B vs xs → intsP xs = some bs → vs = bs.map V.int
  | [], _, _, h, e => by cases h; cases e; rfl
  | x :: xs, _, bs, .cons h k, e => by
    cases h with
    | int b =>
      simp only [intsP, Option.map_eq_some_iff] at e
      obtain ⟨bs', e1, rfl⟩ := e
      rw [DqAll.ints k e1]
      rfl
    | _ => cases e
def strsP : List PyData → Option (List Str)
  | [] => some []
  | .str b :: r => (strsP r).map (b :: ·)
  | _ :: _ => none
theorem DqAll.strs {K : PySem.W.Frag} : ∀ {xs : List PyData} {vs : List V} {bs : List Str}, DqAll K H B vs xs → strsP xs = some bs → vs = bs.map V.str
  | [], _, _, h, e => by cases h; cases e; rfl
  | x :: xs, _, bs, .cons h k, e => by
    cases h with
    | str b =>
      simp only [strsP, Option.map_eq_some_iff] at e
      obtain ⟨bs', e1, rfl⟩ := e
      rw [DqAll.strs k e1]
      rfl
    | _ => cases e
def strI (i : Int) : Str := Str.ofString (toString i)
/-- str(an int | a text) -/
def strV : List PyData → Option PyData
  | [.int i] => if i.natAbs.log2 < 1920 then some (.str (strI i)) else none
  | _ => none
theorem cl_str : CallR X (.type "str") (rV g EW strV) := by
  intro pins s σ H vs us Q I r h
  obtain ⟨ds, st, ρ, B, es, c, R, rr, ea, eb, h⟩ := h
  unfold strV at eb
  split at eb
  · split at eb
    · rename_i hz
      cases eb
      obtain ⟨d, v, rfl, rfl, r1, e1⟩ := asPs1 rr ea
      obtain rfl := asP_int R r1 e1
      exact call_str_int pins s σ H _ us Q I r ⟨_, rfl, hz, post_val R h (.str _ (int_text_fits hz))⟩
    · cases eb
  · cases eb
/-- int(an int | a truth | a text) -/
def intV : List PyData → Option PyData
  | [.int i] => some (.int i)
  | [.bool b] => some (.int (if b then 1 else 0))
  | [.str a] => if a.length ≤ 640 then (PySem.intText? a).map .int else none
  | _ => none
theorem cl_int : CallR X (.type "int") (rV g EW intV) := by
  intro pins s σ H vs us Q I r h
  obtain ⟨ds, st, ρ, B, es, c, R, rr, ea, eb, h⟩ := h
  unfold intV at eb
  split at eb
  · cases eb
    obtain ⟨d, v, rfl, rfl, r1, e1⟩ := asPs1 rr ea
    obtain rfl := asP_int R r1 e1
    exact call_int1 pins s σ H _ us Q I r (.inl ⟨_, rfl, post_val R h (.int _)⟩)
  · cases eb
    obtain ⟨d, v, rfl, rfl, r1, e1⟩ := asPs1 rr ea
    cases asP_flat R r1 e1 (fun _ => nofun)
    exact call_int1 pins s σ H _ us Q I r (.inr ⟨_, rfl, post_val R h (.int _)⟩)
  · split at eb
    · rename_i hz
      simp only [Option.map_eq_some_iff] at eb
      obtain ⟨n, eb, rfl⟩ := eb
      obtain ⟨d, v, rfl, rfl, r1, e1⟩ := asPs1 rr ea
      obtain ⟨rfl, z⟩ := asP_str R r1 e1
      exact call_int_str pins s σ H _ us Q I r ⟨_, n, rfl, eb, hz, post_val R h (.int _)⟩
    · cases eb
  · cases eb
def listV : List PyData → Option PyData
  | [.list xs] => some (.list xs)
  | [.tuple xs] => some (.list xs)
  | _ => none
theorem cl_list (hK : X.K = g.K) : CallR X (.type "list") (rV g EW listV) := by
  intro pins s σ H vs us Q I r h
  obtain ⟨ds, st, ρ, B, es, c, R, rr, ea, eb, h⟩ := h
  unfold listV at eb
  split at eb
  · cases eb
    obtain ⟨d, v, rfl, rfl, r1, e1⟩ := asPs1 rr ea
    obtain ⟨a, ws, rfl, h1, k⟩ := asP_list R r1 e1
    exact call_list_of pins s σ H _ us Q I r ⟨a, ws, rfl, .inl (.inl h1), fun l hl => post_lst R h k hl⟩
  · cases eb
    obtain ⟨d, v, rfl, rfl, r1, e1⟩ := asPs1 rr ea
    obtain ⟨a, ws, rfl, h1, k⟩ := asP_tup R r1 e1
    exact call_list_of pins s σ H _ us Q I r ⟨a, ws, rfl, .inr (by rw [hK]; exact h1), fun l hl => post_lst R h k hl⟩
  · cases eb
def tupleV : List PyData → Option PyData
  | [.list xs] => some (.tuple xs)
  | [.tuple xs] => some (.tuple xs)
  | _ => none
theorem cl_tuple (hK : X.K = g.K) : CallR X (.type "tuple") (rV g EW tupleV) := by
  intro pins s σ H vs us Q I r h
  obtain ⟨ds, st, ρ, B, es, c, R, rr, ea, eb, h⟩ := h
  unfold tupleV at eb
  split at eb
  · cases eb
    obtain ⟨d, v, rfl, rfl, r1, e1⟩ := asPs1 rr ea
    obtain ⟨a, ws, rfl, h1, k⟩ := asP_list R r1 e1
    exact call_tuple_of pins s σ H _ us Q I r ⟨a, ws, rfl, .inl ⟨.inl h1, fun l hl => post_tup R h k hl⟩⟩
  · cases eb
    obtain ⟨d, v, rfl, rfl, r1, e1⟩ := asPs1 rr ea
    obtain ⟨a, ws, rfl, h1, k⟩ := asP_tup R r1 e1
    exact call_tuple_of pins s σ H _ us Q I r ⟨a, ws, rfl, .inr ⟨by rw [hK]; exact h1, post_val R h (.tup h1 k)⟩⟩
  · cases eb
/-- repr: of a text, none, a truth, an int; of lists and tuples of these -/
def reprV (d : PyData) : Option PyData := if d.showable && !d.hasDict && decide (d.depth ≤ 60) && decide (d.shown.length ≤ sizeLine) then (match d with
  | .list _ => some (.str d.shown)
  | .tuple _ => some (.str d.shown)
  | _ => none) else none
def reprVs : List PyData → Option PyData
  | [d] => reprV d
  | _ => none
theorem cl_repr (hK : X.K = g.K) (hG : X.A.guards = some []) (hu : X.A.units + 65 < cLine) : CallR X (.builtin "repr") (rV g EW reprVs) := by
  intro pins s σ H vs us Q I r h
  obtain ⟨ds, st, ρ, B, es, c, R, rr, ea, eb, h⟩ := h
  unfold reprVs at eb
  split at eb
  · rename_i d0
    obtain ⟨d, v, rfl, rfl, r1, e1⟩ := asPs1 rr ea
    unfold reprV at eb
    split at eb
    · rename_i hz
      simp only [Bool.and_eq_true, Bool.not_eq_true', decide_eq_true_eq] at hz
      obtain ⟨⟨⟨z1, z2⟩, z3⟩, z4⟩ := hz
      have dq := asP_nil R r1 e1
      obtain ⟨u, rfl, ru⟩ := vals1 r
      have dp : Dp X.K H v d0 := by rw [hK]; exact dq.dp
      obtain ⟨as, rd⟩ := Dp.reads I d0 v u dp ru
      have go : ∀ a, u = .ref a → c = .str d0.shown → wpAny (model X.prog X.w) X.A (call (.builtin "repr") [u]) (EP X pins σ Q) X.xe s := fun a ea' ec => by
        subst ea'
        subst ec
        refine repr_of_reads' rd z1 (by rw [z2]; exact nofun) hG (by omega) (fun _ _ e => e) (fun h' t tk hk => ⟨.str d0.shown, H, I.kept hk, ⟨t, rfl⟩, post_val R h (.str _ z4)⟩) z4
      split at eb
      · cases eb
        cases dq with
        | lst n h1 k => cases ru; exact go _ rfl rfl
      · cases eb
        cases dq with
        | tup h1 k => cases ru; exact go _ rfl rfl
      · cases eb
    · cases eb
  · cases eb

/-! ### isinstance(e, T) -/
def tyName : PyData → Option String
  | .none => some "NoneType"
  | .bool _ => some "bool"
  | .int _ => some "int"
  | .str _ => some "str"
  | .list _ => some "list"
  | .tuple _ => some "tuple"
  | .dict _ => none
def isiO (T : String) (d : D) (st : Store) : Option Bool := (match d with
  | .p d => tyName d
  | .obj n => match st[n]? with
    | some (.lst _) => some "list"
    | _ => none).bind fun t => kitB t T
def fIsi (T : String) (fa : Env → Store → R D) : Env → Store → R D := fun env st => (fa env st).bind fun d st1 => ofO ((isiO T d st1).map .bool) st1
theorem em_isi {T : String} {x : Str} {a : Expr} {p p2 pos : Pos} {fa : Env → Store → R D} (hK : X.K = g.K) (ha : PE X a (tS g EW fa)) (hT : PE X (.Name x p2) (tC (.ty T))) (hg : Gl X "isinstance") (hm : X.mg "isinstance" = none) (hst : ∀ y q, a ≠ .Starred y q) :
    PE X (.Call (.Name "isinstance" p) [a, .Name x p2] [] pos) (tS g EW (fIsi T fa)) := by
  have hs1 : starEach [a, .Name x p2] X.env = (false, eval a X.env) :: starEach [.Name x p2] X.env := starEach_plain hst
  refine peImp (pe_callB call_isi hg hm PyProof.Rows.boot_isinstance (pa_cons ha (pa_cons hT pa_nil) hs1) (by decide) (by decide) hs1 (by rfl)) fun σ H Q ⟨env, st, ρ, B, er, R, h⟩ => ?_
  refine ⟨env, st, ρ, B, er, R, seqP h fun d st1 x H1 ρ1 B1 _ l1 R1 r1 h1 => ?_⟩
  cases ei : isiO T d st1 with
  | none => rw [ei] at h1; exact h1.elim
  | some b =>
    rw [ei] at h1
    have q := post_val R1 h1 (.bl b)
    unfold isiO at ei
    rw [Option.bind_eq_some_iff] at ei
    obtain ⟨t, e1, e2⟩ := ei
    have fin : TyX X.K H1 x (.type t) → rIsi X.K [x, .ty T] H1 Q := fun ty => ⟨x, .ty T, .type t, .type T, b, rfl, .ty T, ty, kit_ty e2, q⟩
    refine fin ?_
    cases d with
    | obj n =>
      simp only at e1
      split at e1
      · rename_i ds e3
        cases e1
        obtain ⟨a', h1, vs, h2, h3⟩ := R1.cell _ _ e3
        obtain ⟨a'', h4, rfl⟩ := r1
        rw [h1] at h4; cases h4
        exact .base (.lst h2)
      · cases e1
    | p d =>
      have r1' : Dq g.K H1 B1 x d := r1
      cases r1' with
      | non => cases e1; exact .base .non
      | bl b => cases e1; exact .base (.bl b)
      | int i => cases e1; exact .base (.int i)
      | str z _ => cases e1; exact .base (.str z)
      | lst n h k =>
        cases e1
        rcases h with h | ⟨o, h⟩
        · exact .base (.lst h)
        · exact .base (.frz h)
      | tup h k =>
        cases e1
        rcases h with (h | ⟨o, h⟩) | ⟨o, its, n, h, hc, _⟩
        · exact .base (.tup h)
        · exact .fTuple h
        · exact .kTuple (by rw [hK]; exact h) hc

/-! ### methods of built-in types -/
def mtyp (st : Store) : D → String
  | .p (.str _) => "str"
  | .p (.list _) => "list"
  | .obj n => match st[n]? with
    | some (.lst _) => "list"
    | _ => "none"
  | _ => "none"
/-- what a method does -/
def rM (g : Gm) (EW : XK) (k : D → List D → Store → R D) : V → List V → Hp → VK → Prop := fun x vs H Q => ∃ d ds st ρ B, HRep g H st ρ B ∧ RD g H ρ B d x ∧ RDs g H ρ B ds vs ∧ Post g EW (RD g) H ρ B (k d ds st) Q
structure MthOk (g : Gm) (EW : XK) (X : Cx) (T : String) (m : Str) (k : D → List D → Store → R D) : Prop where
  ex : ∃ id, PlainAttrs T ∧ Slot T m id ∧ typeOf (.builtin id) = pure (.type "method_descriptor") ∧ ∀ (pins : List (Addr × Obj)) (s : Shared) (σ : L2.St) (H : Hp) (x : V) (xs : List V) (v : Value) (us : List Value) (Q : VK), Inv X pins σ H s → RelV x v → Vals xs us → rM g EW k x xs H Q →
    wpAny (model X.prog X.w) X.A (call (.builtin id) (v :: us)) (EP X pins σ Q) X.xe s
def fBm (T : String) (k : D → List D → Store → R D) (fo : Env → Store → R D) (fs : Env → Store → R (List D)) : Env → Store → R D := fun env st => (fo env st).bind fun d st1 =>
  if mtyp st1 d = T then (fs env st1).bind fun ds st2 => k d ds st2 else .no
theorem mtyp_ty {T : String} {K : PySem.W.Frag} {d : D} {x : V} (R : HRep g H st ρ B) (rd : RD g H ρ B d x) (h : mtyp st d = T) (hT : T = "str" ∨ T = "list") : tyV K T x H := by
  cases d with
  | obj n =>
    simp only [mtyp] at h
    split at h
    · rename_i ds e3
      obtain ⟨a', h1, vs, h2, h3⟩ := R.cell _ _ e3
      obtain ⟨a'', h4, rfl⟩ := rd
      rw [h1] at h4; cases h4
      exact .inl ⟨h.symm, vs, SqL.of h2⟩
    · subst h; rcases hT with h | h <;> exact absurd h (by decide)
  | p d =>
    have rd' : Dq g.K H B x d := rd
    cases rd' with
    | str z _ => exact h.symm
    | lst n hh k => exact .inl ⟨h.symm, _, .inl hh⟩
    | _ => simp only [mtyp] at h; subst h; rcases hT with h | h <;> exact absurd h (by decide)
theorem em_bm {T : String} {m : Str} {k : D → List D → Store → R D} {o : Expr} {es : List Expr} {apos cpos : Pos} {fo : Env → Store → R D} {fs : Env → Store → R (List D)} (hT : T = "str" ∨ T = "list") (M : MthOk g EW X T m k) (ho : PE X o (tS g EW fo)) (ha : PA X es (tSA g EW fs))
    (hp : ∀ x b c p, o ≠ .Call x b c p) (hst : ∀ e' ∈ es, ∀ y q, e' ≠ .Starred y q) (hl : es.length < 30) (hpos : (apos.endLine == cpos.line) = true) (hnil : es = [] → fs = fNil) :
    PE X (.Call (.Attribute o m apos) es [] cpos) (tS g EW (fBm T k fo fs)) := by
  obtain ⟨id, pa, slot, hty, hm⟩ := M.ex
  refine ⟨fun pins s σ H Q I ⟨env, st, ρ, B, er, R, h⟩ => ?_⟩
  have fin : ∀ {v : Value} {s1 : Shared} {P : Value → Prop}, EP X pins σ (fun x H1 => tyV X.K T x H1 ∧ (tSA g EW fs) σ H1 fun xs H2 => rM g EW k x xs H2 Q) v s1 → True := fun _ => trivial
  have start : (tS g EW fo) σ H (fun x H1 => tyV X.K T x H1 ∧ (tSA g EW fs) σ H1 fun xs H2 => rM g EW k x xs H2 Q) := by
    refine ⟨env, st, ρ, B, er, R, seqP h fun d st1 x H1 ρ1 B1 _ l1 R1 r1 h1 => ?_⟩
    split at h1
    · rename_i ht
      refine ⟨mtyp_ty R1 r1 ht hT, env, st1, ρ1, B1, l1.env R er, R1, seqP h1 fun ds st2 vs H2 ρ2 B2 _ l2 R2 r2 h2 => ?_⟩
      exact ⟨d, ds, st2, ρ2, B2, R2, l2.rr R1 r1, r2, h2⟩
    · exact h1.elim
  cases es with
  | nil =>
    obtain rfl := hnil rfl
    refine wpAny_Call_method0_late (base_plain hp) hpos (thn (ho.run pins s σ H _ I start) fun v s1 ⟨x, H1, I1, r1, ty, q1⟩ => ?_)
    obtain ⟨h1, h2⟩ := tyV_is I1 r1 ty
    obtain ⟨env', st', ρ', B', er', R', h'⟩ := q1
    have q2 := h' [] H1 ρ' B' Later.refl R' .nil
    exact ⟨T, id, pa, slot, hty, h1, h2, Calls.callWith_builtin rfl (PySem.evalArgs_none (hm pins s1 σ H1 x [] v [] Q I1 r1 .nil q2))⟩
  | cons e es =>
    have hs : starEach (e :: es) X.env = (false, eval e X.env) :: starEach es X.env := starEach_plain (hst e (by simp))
    have hplain : (backTo cpos (starEach es X.env)).any (·.1) = false := star_none fun e he => hst e (by simp [he])
    have hfew := form_plain (env := X.env) (pos := cpos) hst hl
    refine wpAny_Call_method_late (base_plain hp) (by unfold methodCallForm at hfew; simpa [backToKw, keywordEach] using hfew) hpos rfl (thn (ho.run pins s σ H _ I start) fun v s1 ⟨x, H1, I1, r1, ty, q1⟩ => ?_)
    obtain ⟨h1, h2⟩ := tyV_is I1 r1 ty
    refine ⟨T, id, pa, slot, hty, h1, h2, ?_⟩
    have hA := ha.run cpos pins s1 σ H1 _ I1 q1
    rw [hs] at hA ⊢
    refine Calls.callWith_builtin (by show (false || (backTo cpos (starEach es X.env)).any (·.1)) = false; rw [hplain] <;> rfl) (Calls.evalArgs_plain ?_)
    exact thn hA fun us s2 ⟨vs, H2, I2, r2, q2⟩ => hm pins s2 σ H2 x vs v us Q I2 r1 r2 q2
end
end Mp
end

section
set_option Elab.async false
set_option linter.all false
set_option maxRecDepth 100000
set_option maxHeartbeats 4000000
/-! M7: what changes; methods one by one; keywords. -/
namespace Mp
open PySem PySem.Spec PyProof.Rows L2
section
variable {g : Gm} {EW : XK} {X : Cx} {H H' : Hp} {st st1 : Store} {ρ B : List Addr}

theorem nodupIx : ∀ {N : List Addr}, N.Nodup → ∀ {i j : Nat} {x : Addr}, N[i]? = some x → N[j]? = some x → i = j
  | [], _, i, j, x, a, _ => by simp at a
  | y :: N, hN, i, j, x, a, b => by
    obtain ⟨h1, h2⟩ := List.nodup_cons.mp hN
    cases i with
    | zero =>
      cases j with
      | zero => rfl
      | succ j =>
        simp at a b
        subst a
        exact absurd (List.mem_of_getElem? b) h1
    | succ i =>
      cases j with
      | zero =>
        simp at a b
        subst b
        exact absurd (List.mem_of_getElem? a) h1
      | succ j => exact congrArg (· + 1) (nodupIx h2 (by simpa using a) (by simpa using b))
theorem tabs_upd {T : List (Addr × Str)} {a : Addr} {u : HO} (t : LamX.Tabs T H) (hm : (∃ xs, H a = some (.lst xs)) ∨ ∃ c dx fs, H a = some (.ins c dx fs)) : LamX.Tabs T (upd H a u) := fun p hp => by
  obtain ⟨ps, h1, h2, h3⟩ := t p hp
  have ne : ∀ b o, H b = some o → (∀ q, o ≠ .lst q) → (∀ c dx fs, o ≠ .ins c dx fs) → b ≠ a := fun b o e n1 n2 z => by
    subst z
    rcases hm with ⟨xs, h⟩ | ⟨c, dx, fs, h⟩
    · rw [e] at h; exact n1 _ (Option.some.inj h)
    · rw [e] at h; exact n2 _ _ _ (Option.some.inj h)
  refine ⟨ps, by rw [upd_ne (ne _ _ h1 (fun _ z => by cases z) (fun _ _ _ z => by cases z))]; exact h1, h2, fun pos cv hc => ?_⟩
  obtain ⟨c, e1, e2⟩ := h3 pos cv hc
  refine ⟨c, e1, ?_⟩
  rw [upd_ne (ne _ _ e2 (fun _ z => by unfold LamX.CodeO at z; cases z) (fun _ _ _ z => by unfold LamX.CodeO at z; cases z))]
  exact e2
theorem HRep.laterW (R : HRep g H st ρ B) {n : Nat} {a : Addr} {u : HO} (ha : ρ[n]? = some a) : Later H ρ B (upd H a u) ρ B := by
  have hm : a ∈ ρ := List.mem_of_getElem? ha
  refine ⟨⟨[], by simp, by simp, by simp⟩, fun b o e nb _ => ?_⟩
  rw [upd_ne (fun z => nb (by rw [z]; exact hm))]; exact e
theorem HRep.wr (R : HRep g H st ρ B) {n : Nat} {a : Addr} {u : HO} {c' : Cell} (hn : n < st.length) (ha : ρ[n]? = some a) (hu : Mut (some u)) (hc : CellR g (upd H a u) ρ B c' a) : HRep g (upd H a u) (st.set n c') ρ B := by
  have hm : a ∈ ρ := List.mem_of_getElem? ha
  have l := R.laterW (u := u) ha
  have is : (∃ xs, H a = some (.lst xs)) ∨ ∃ c dx fs, H a = some (.ins c dx fs) := by
    obtain ⟨a', h1, h2⟩ := R.cell n _ (List.getElem?_eq_getElem hn)
    rw [ha] at h1; cases h1
    cases hc' : st[n] with
    | lst ds => rw [hc'] at h2; obtain ⟨xs, q, _⟩ := h2; exact .inl ⟨xs, q⟩
    | ins c fs => rw [hc'] at h2; obtain ⟨dx, fv, q, _⟩ := h2; exact .inr ⟨_, dx, fv, q⟩
  refine ⟨by simp [R.len], R.nd, R.sub, fun b hb => ?_, fun k c e => ?_, tabs_upd R.tabs is⟩
  · by_cases z : b = a
    · subst z; rw [upd_same]; exact hu
    · rw [upd_ne z]; exact R.mu b hb
  · by_cases hk : n = k
    · subst hk
      rw [List.getElem?_set_self hn] at e
      cases e
      exact ⟨a, ha, hc⟩
    · rw [List.getElem?_set_ne hk] at e
      obtain ⟨b, h1, h2⟩ := R.cell k c e
      have z : b ≠ a := fun z => by
        rw [z] at h1
        exact hk (nodupIx R.nd ha h1)
      refine ⟨b, h1, ?_⟩
      cases c with
      | lst ds =>
        obtain ⟨xs, q, r⟩ := h2
        exact ⟨xs, by rw [upd_ne z]; exact q, l.rrs R r⟩
      | ins c fs =>
        obtain ⟨dx, fv, q, r⟩ := h2
        exact ⟨dx, fv, by rw [upd_ne z]; exact q, l.rfs R r⟩
/-- a list is written anew -/
theorem post_wr {Q : VK} {n : Nat} {a : Addr} {ds : List D} {vs : List V} {d : D} {v : V} (R : HRep g H st ρ B) (hn : n < st.length) (ha : ρ[n]? = some a) (r : RDs g H ρ B ds vs) (rd : RD g H ρ B d v) (h : Post g EW (RD g) H ρ B (.ok d (st.set n (.lst ds))) Q) : Q v (upd H a (.lst vs)) := by
  have l := R.laterW (u := .lst vs) ha
  exact h v _ ρ B l (R.wr hn ha trivial ⟨vs, upd_same, l.rrs R r⟩) (l.rr R rd)

/-! ### lists -/
def mAppend : D → List D → Store → R D := fun d ds st => match d, ds with
  | .obj n, [e] => match st[n]? with
    | some (.lst xs) => if xs.length < sizeLine then .ok (.p .none) (st.set n (.lst (xs ++ [e]))) else .no
    | _ => .no
  | _, _ => .no
theorem cell_lst {n : Nat} {ds : List D} {v : V} (R : HRep g H st ρ B) (rd : RD g H ρ B (.obj n) v) (e : st[n]? = some (.lst ds)) : ∃ a vs, v = .ref a ∧ ρ[n]? = some a ∧ H a = some (.lst vs) ∧ RDs g H ρ B ds vs ∧ n < st.length := by
  obtain ⟨a, h1, vs, h2, h3⟩ := R.cell _ _ e
  obtain ⟨a', h4, rfl⟩ := rd
  rw [h1] at h4; cases h4
  exact ⟨a, vs, rfl, h1, h2, h3, (List.getElem?_eq_some_iff.mp e).1⟩
theorem mo_append : MthOk g EW X "list" "append" mAppend := by
  refine ⟨"list.append", F.plainAttrs_list, F.slot_list_append, F.type_list_append, fun pins s σ H x xs v us Q I rx rv h => ?_⟩
  obtain ⟨d, ds, st, ρ, B, R, rd, rds, h⟩ := h
  unfold mAppend at h
  split at h
  · rename_i n e
    split at h
    · rename_i xs' q
      split at h
      · rename_i hz
        obtain ⟨a, vs, rfl, h1, h2, h3, h4⟩ := cell_lst R rd q
        cases rds with
        | cons r1 r2 =>
          cases r2
          exact mt_append pins s σ H _ _ v us Q I rx rv ⟨a, vs, _, rfl, rfl, h2, by rw [h3.length]; exact hz, post_wr R h4 h1 (h3.app (.cons r1 .nil)) (show RD g H ρ B (.p .none) .non from .non) h⟩
      · exact h.elim
    · exact h.elim
  · exact h.elim
def mPop : D → List D → Store → R D := fun d ds st => match d, ds with
  | .obj n, [] => match st[n]? with
    | some (.lst xs) => match xs[xs.length - 1]? with
      | some e => .ok e (st.set n (.lst xs.dropLast))
      | none => .no
    | _ => .no
  | _, _ => .no
theorem RDs.dropLast {ds : List D} {vs : List V} (h : RDs g H ρ B ds vs) : RDs g H ρ B ds.dropLast vs.dropLast := by
  induction h with
  | nil => exact .nil
  | cons r t ih =>
    cases t with
    | nil => exact .nil
    | cons r' t' => exact .cons r ih
theorem mo_pop : MthOk g EW X "list" "pop" mPop := by
  refine ⟨"list.pop", F.plainAttrs_list, F.slot_list_pop, F.type_list_pop, fun pins s σ H x xs v us Q I rx rv h => ?_⟩
  obtain ⟨d, ds, st, ρ, B, R, rd, rds, h⟩ := h
  unfold mPop at h
  split at h
  · rename_i n
    split at h
    · rename_i xs' q
      split at h
      · rename_i e he
        obtain ⟨a, vs, rfl, h1, h2, h3, h4⟩ := cell_lst R rd q
        cases rds
        rw [← h3.length] at he
        obtain ⟨w, hw, rw'⟩ := h3.get he
        exact mt_pop pins s σ H _ _ v us Q I rx rv ⟨a, vs, w, rfl, rfl, h2, hw, post_wr R h4 h1 h3.dropLast rw' h⟩
      · exact h.elim
    · exact h.elim
  · exact h.elim
/-- a list's items as data or things -/
def itemsD (st : Store) : D → Option (List D)
  | .p (.list xs) => some (xs.map .p)
  | .obj n => match st[n]? with
    | some (.lst ds) => some ds
    | _ => none
  | _ => none
theorem itemsD_of {d : D} {v : V} {es : List D} (R : HRep g H st ρ B) (rd : RD g H ρ B d v) (e : itemsD st d = some es) : ∃ a vs, v = .ref a ∧ Rd H a (.lst vs) ∧ RDs g H ρ B es vs := by
  unfold itemsD at e
  split at e
  · cases e
    have rd' : Dq g.K H B v _ := rd
    cases rd' with
    | lst n h k => exact ⟨_, _, rfl, h, k.rds⟩
  · split at e
    · rename_i q
      cases e
      obtain ⟨a, vs, rfl, h1, h2, h3, h4⟩ := cell_lst R rd q
      exact ⟨a, vs, rfl, .inl h2, h3⟩
    · cases e
  · cases e
def mExtend : D → List D → Store → R D := fun d ds st => match d, ds with
  | .obj n, [e] => match st[n]?, itemsD st e with
    | some (.lst xs), some ys => if xs.length + ys.length ≤ sizeLine then .ok (.p .none) (st.set n (.lst (xs ++ ys))) else .no
    | _, _ => .no
  | _, _ => .no
/-- l.extend(a list, whatever it is) -/
theorem mt_extendR {pins : List (Addr × Obj)} {s : Shared} {σ : L2.St} {x : V} {vs0 : List V} {v : Value} {us : List Value} {Q : VK} (I : Inv X pins σ H s) (rx : RelV x v) (rv : Vals vs0 us)
    (h : ∃ l b xs zs, x = .ref l ∧ vs0 = [.ref b] ∧ H l = some (.lst xs) ∧ Rd H b (.lst zs) ∧ xs.length + zs.length ≤ sizeLine ∧ Q .non (upd H l (.lst (xs ++ zs)))) : wpAny (model X.prog X.w) X.A (call (.builtin "list.extend") (v :: us)) (EP X pins σ Q) X.xe s := by
  obtain ⟨l, b, xs, zs, rfl, rfl, hH, hB, hz, q⟩ := h
  cases rx
  obtain ⟨u, rfl, ru⟩ := rv.one
  cases ru
  obtain ⟨z, its, n, r, hl, e⟩ := I.lstM hH
  obtain ⟨z2, its2, n2, r2, e2⟩ := hB.ok I.hok
  have hl2 := r2.length
  have hsz : its.toArray.size + its2.toArray.size ≤ sizeLine := by rw [List.size_toArray, List.size_toArray]; omega
  have hlong : ¬ (!its.toArray.isEmpty && Builtin.List.listTooLong (its.toArray.size + its2.toArray.size)) = true := by
    rw [notLongL hsz, Bool.and_false]
    exact Bool.false_ne_true
  refine call_meets F.slot_list_extend ⟨_, e, rfl⟩ F.entry_list_extend (F.args_list_extend_2 _ _)
    (AutoSeq1.list_extend_list_list_0 l its.toArray n b its2.toArray n2 hlong (by rw [List.size_toArray]; omega) (by omega)) ⟨e, e2, ?_⟩
  refine ⟨.non, _, I.lset (its' := its ++ its2) hH e (by simp) (r.append r2) ?_, rfl, q⟩
  rw [List.length_append]
  omega
theorem mo_extend : MthOk g EW X "list" "extend" mExtend := by
  refine ⟨"list.extend", F.plainAttrs_list, F.slot_list_extend, F.type_list_extend, fun pins s σ H x xs v us Q I rx rv h => ?_⟩
  obtain ⟨d, ds, st, ρ, B, R, rd, rds, h⟩ := h
  unfold mExtend at h
  split at h
  · rename_i n e
    split at h
    · rename_i xs' ys' q1 q2
      split at h
      · rename_i hz
        obtain ⟨a, vs, rfl, h1, h2, h3, h4⟩ := cell_lst R rd q1
        cases rds with
        | cons r1 r2 =>
          cases r2
          obtain ⟨b, ws, rfl, h5, h6⟩ := itemsD_of R r1 q2
          exact mt_extendR I rx rv ⟨a, b, vs, ws, rfl, rfl, h2, h5, by rw [h3.length, h6.length]; exact hz, post_wr R h4 h1 (h3.app h6) (show RD g H ρ B (.p .none) .non from .non) h⟩
      · exact h.elim
    · exact h.elim
  · exact h.elim
/-- the first place of an equal one -/
def firstEq (d : PyData) : List PyData → Option Nat
  | [] => none
  | x :: r => if PyData.eqv x d then some 0 else (firstEq d r).map (· + 1)
theorem firstEq_of {d : PyData} : ∀ {xs : List PyData} {j : Nat}, firstEq d xs = some j → ∃ z, xs[j]? = some z ∧ PyData.eqv z d = true ∧ ∀ (m : Nat) (z' : PyData), m < j → xs[m]? = some z' → PyData.eqv z' d = false
  | [], _, h => by cases h
  | x :: r, j, h => by
    unfold firstEq at h
    split at h
    · rename_i e
      cases h
      exact ⟨x, rfl, e, fun m _ hm => absurd hm (Nat.not_lt_zero _)⟩
    · rename_i e
      simp only [Option.map_eq_some_iff] at h
      obtain ⟨k, h1, rfl⟩ := h
      obtain ⟨z, a, b, c⟩ := firstEq_of h1
      refine ⟨z, by simpa using a, b, fun m z' hm q => ?_⟩
      cases m with
      | zero => cases q; simpa using e
      | succ m => exact c m z' (by omega) (by simpa using q)
def mIndexL : D → List D → Store → R D := fun d ds st => match asP st d, asPs st ds with
  | some (.list xs), some [e] => if SeqAt.shaped (.list xs) && SeqAt.shaped e then ofO ((firstEq e xs).map fun (j : Nat) => .int (j : Int)) st else .no
  | _, _ => .no
theorem mo_indexL (hK : X.K = g.K) (hu : X.A.units + 65 < cLine) : MthOk g EW X "list" "index" mIndexL := by
  refine ⟨"list.index", F.plainAttrs_list, F.slot_list_index, F.type_list_index, fun pins s σ H x xs v us Q I rx rv h => ?_⟩
  obtain ⟨d, ds, st, ρ, B, R, rd, rds, h⟩ := h
  unfold mIndexL at h
  split at h
  · rename_i xs' e q1 q2
    split at h
    · rename_i hs
      have hs := Bool.and_eq_true_iff.mp hs
      obtain ⟨d', v', rfl, rfl, r1, e1⟩ := asPs1 rds q2
      obtain ⟨a, ws, rfl, h1, k⟩ := asP_list R rd q1
      cases ef : firstEq e xs' with
      | none => rw [ef] at h; exact h.elim
      | some j =>
        rw [ef] at h
        obtain ⟨z, z1, z2, z3⟩ := firstEq_of ef
        exact mt_indexD hu pins s σ H _ _ v us Q I rx rv ⟨a, v', e, xs', j, z, rfl, rfl, by rw [hK]; exact (asP_nil R rd q1).dp, by rw [hK]; exact (asP_nil R r1 e1).dp, hs.1, hs.2, z1, z2, z3, post_val R h (.int _)⟩
    · exact h.elim
  · exact h.elim

/-! ### texts -/
def mIndexS : D → List D → Store → R D := fun d ds st => match asP st d, asPs st ds with
  | some (.str x), some [.str y] => match Builtin.Str.occurrences x y 0 x.length 1 with
    | i :: _ => .ok (.p (.int (i : Nat))) st
    | [] => .no
  | _, _ => .no
theorem mo_indexS : MthOk g EW X "str" "index" mIndexS := by
  refine ⟨"str.index", F.plainAttrs_str, F.slot_str_index, F.type_str_index, fun pins s σ H x xs v us Q I rx rv h => ?_⟩
  obtain ⟨d, ds, st, ρ, B, R, rd, rds, h⟩ := h
  unfold mIndexS at h
  split at h
  · rename_i x' y' q1 q2
    obtain ⟨d', v', rfl, rfl, r1, e1⟩ := asPs1 rds q2
    obtain ⟨rfl, z⟩ := asP_str R rd q1
    obtain ⟨rfl, _⟩ := asP_str R r1 e1
    split at h
    · rename_i i rest ho
      exact mt_sindex pins s σ H _ _ v us Q I rx rv ⟨x', y', i, rest, rfl, rfl, ho, post_val (d := .int (i : Nat)) R h (.int _)⟩
    · exact h.elim
  · exact h.elim
def mPartition : D → List D → Store → R D := fun d ds st => match asP st d, asPs st ds with
  | some (.str x), some [.str y] => if y.length ≠ 0 ∧ x.length ≤ sizeLine ∧ y.length ≤ sizeLine then ofO (some (.tuple [.str (Txt.partition x y).1, .str (Txt.partition x y).2.1, .str (Txt.partition x y).2.2])) st else .no
  | _, _ => .no
theorem cps_slice (x : Str) (i j : Nat) : (Builtin.Str.strSub x i j).length ≤ x.length := by
  unfold Builtin.Str.strSub Str.length
  simp only [Array.size_extract]
  omega
theorem part_len (x y : Str) : (Txt.partition x y).1.length ≤ x.length ∧ ((Txt.partition x y).2.1.length ≤ y.length) ∧ (Txt.partition x y).2.2.length ≤ x.length := by
  unfold Txt.partition
  split
  · exact ⟨cps_slice .., Nat.le_refl _, cps_slice ..⟩
  · exact ⟨Nat.le_refl _, Nat.zero_le _, Nat.zero_le _⟩
theorem mo_partition : MthOk g EW X "str" "partition" mPartition := by
  refine ⟨"str.partition", F.plainAttrs_str, F.slot_str_partition, F.type_str_partition, fun pins s σ H x xs v us Q I rx rv h => ?_⟩
  obtain ⟨d, ds, st, ρ, B, R, rd, rds, h⟩ := h
  unfold mPartition at h
  split at h
  · rename_i x' y' q1 q2
    obtain ⟨d', v', rfl, rfl, r1, e1⟩ := asPs1 rds q2
    obtain ⟨rfl, z⟩ := asP_str R rd q1
    obtain ⟨rfl, z'⟩ := asP_str R r1 e1
    split at h
    · rename_i hz
      have pl := part_len x' y'
      exact mt_partition pins s σ H _ _ v us Q I rx rv ⟨x', y', rfl, rfl, by simpa using hz.1, hz.2.1, fun p hp => post_tup R h (.cons (.str _ (Nat.le_trans pl.1 z)) (.cons (.str _ (Nat.le_trans pl.2.1 z')) (.cons (.str _ (Nat.le_trans pl.2.2 z)) .nil))) hp⟩
    · exact h.elim
  · exact h.elim
def mJoin : D → List D → Store → R D := fun d ds st => match asP st d, asPs st ds with
  | some (.str x), some [.list ys] => match strsP ys with
    | some zs => if (zs.map (·.length)).sum + zs.length * x.length ≤ 16777216 ∧ (Txt.join x zs).length ≤ sizeLine then ofO (some (.str (Txt.join x zs))) st else .no
    | none => .no
  | _, _ => .no
theorem mo_join (hK : X.K = g.K) : MthOk g EW X "str" "join" mJoin := by
  refine ⟨"str.join", F.plainAttrs_str, F.slot_str_join, F.type_str_join, fun pins s σ H x xs v us Q I rx rv h => ?_⟩
  obtain ⟨d, ds, st, ρ, B, R, rd, rds, h⟩ := h
  unfold mJoin at h
  split at h
  · rename_i x' y' q1 q2
    obtain ⟨d', v', rfl, rfl, r1, e1⟩ := asPs1 rds q2
    obtain ⟨rfl, z⟩ := asP_str R rd q1
    obtain ⟨a, ws, rfl, h1, k⟩ := asP_list R r1 e1
    split at h
    · rename_i zs e
      split at h
      · rename_i hz
        have := k.strs e
        subst this
        exact mt_join pins s σ H _ _ v us Q I rx rv ⟨x', a, zs, rfl, rfl, .inl (.inl h1), hz.1, post_val R h (.str _ hz.2)⟩
      · exact h.elim
    · exact h.elim
  · exact h.elim

/-! ### keywords -/
def fKw := @fCons
theorem ek_nil : PK X [] (tSA g EW fNil) := ⟨fun pos pins s σ H Q I ⟨env, st, ρ, B, er, R, h⟩ => pk_nil.run pos pins s σ H Q I (h [] H ρ B Later.refl R .nil)⟩
theorem ek_cons {nm : Option Str} {e : Expr} {kpos : Pos} {kws : List Keyword} {fa : Env → Store → R D} {fs : Env → Store → R (List D)} (ha : PE X e (tS g EW fa)) (hr : PK X kws (tSA g EW fs)) : PK X (⟨nm, e, kpos⟩ :: kws) (tSA g EW (fCons fa fs)) := by
  refine ⟨fun pos pins s σ H Q I ⟨env, st, ρ, B, er, R, h⟩ => (pk_cons ha hr).run pos pins s σ H Q I ?_⟩
  unfold fCons at h
  refine ⟨env, st, ρ, B, er, R, seqP h fun d st1 x H1 ρ1 B1 _ l1 R1 r1 h1 => ?_⟩
  refine ⟨env, st1, ρ1, B1, l1.env R er, R1, seqP h1 fun ds st2 xs H2 ρ2 B2 _ l2 R2 r2 h2 => ?_⟩
  exact h2 _ H2 ρ2 B2 Later.refl R2 (.cons (l2.rr R1 r1) r2)
def kg (a b : Nat) {α : Type} (us ws : List α) : List α := if us.length = a ∧ ws.length = b then us ++ ws else []
theorem kb_of {K : PySem.W.Frag} {fd : FuncData} {ps ks : List Str} {a b : Nat} (hps : ps.length ≠ 0) (h : ∀ us ws : List Value, us.length = a → ws.length = b → bindArgs fd ⟨us, ks.zip ws⟩ = pure (ps.zip (us ++ ws))) : KBinds K fd ps ks (kg a b) (kg a b) where
  to := fun s us ws _ hl => by
    unfold kg at hl ⊢
    split at hl
    · rename_i e
      rw [if_pos e]
      exact .of_eq (h us ws e.1 e.2)
    · exact absurd hl.symm hps
  rel := fun {vs us zs ws} r1 r2 => by
    unfold kg
    rw [r1.length, r2.length]
    split
    · exact r1.append r2
    · exact .nil
def fCallK (a b : Nat) (run : List D → Store → R D) (fs fk : Env → Store → R (List D)) : Env → Store → R D := fun env st => (fs env st).bind fun ds st1 => (fk env st1).bind fun es st2 => if ds.length = a ∧ es.length = b then pureRun run (ds ++ es) st2 else .no
theorem em_callK {f : Addr} {fd : FuncData} {ps ks : List Str} {n a b : Nat} {x : Str} {e : Expr} {es : List Expr} {kws : List Keyword} {p pos : Pos} {run : List D → Store → R D} {fs fk : Env → Store → R (List D)} (tk : Takes X (fun c d _ H => EW c d H))
    (F : FnOk X.prog X.w X.K X.mg X.base (L2.CX X.prog X.w) n f fd ps (spOf g run)) (hr : Room n X.A) (hg : Gl X x) (hm : X.mg x = some (.ref f)) (hk : PySem.W.keepIn X.K (.ref f) = true) (hb : KBinds X.K fd ps ks (kg a b) (kg a b))
    (ha : PA X (e :: es) (tSA g EW fs)) (hkw : PK X kws (tSA g EW fk)) (hdb : (x == ("__debug__" : Str)) = false) (hst : ∀ e' ∈ e :: es, ∀ y q, e' ≠ .Starred y q) (hall : (backToKw pos (keywordEach kws X.env)).all (·.1.isSome) = true) (hks : (backToKw pos (keywordEach kws X.env)).filterMap (·.1) = ks)
    (hpl : ((backTo pos (starEach (e :: es) X.env)).any (·.1) || (backToKw pos (keywordEach kws X.env)).any (·.1.isNone)) = false) :
    PE X (.Call (.Name x p) (e :: es) kws pos) (tS g EW (fCallK a b run fs fk)) := by
  refine peImp (pe_callK F hr hg hm hk hb (passes_call tk fun _ _ _ _ h => h) ha hkw hall hks hdb (starEach_plain (hst e (by simp))) hpl) fun σ H Q ⟨env, st, ρ, B, er, R, h⟩ => ?_
  refine ⟨env, st, ρ, B, er, R, seqP h fun ds st1 vs H1 ρ1 B1 _ l1 R1 r1 h1 => ?_⟩
  refine ⟨env, st1, ρ1, B1, l1.env R er, R1, seqP h1 fun es st2 ws H2 ρ2 B2 _ l2 R2 r2 h2 => ?_⟩
  split at h2
  · rename_i hl
    have e : kg a b vs ws = vs ++ ws := by
      unfold kg
      rw [r1.length, r2.length, if_pos hl]
    rw [e]
    exact pure_post R2 ((l2.rrs R1 r1).app r2) h2
  · exact h2.elim
def fCallK0 (b : Nat) (run : List D → Store → R D) (fk : Env → Store → R (List D)) : Env → Store → R D := fun env st => (fk env st).bind fun es st2 => if es.length = b then pureRun run es st2 else .no
theorem em_callK0 {f : Addr} {fd : FuncData} {ps ks : List Str} {n b : Nat} {x : Str} {kws : List Keyword} {p pos : Pos} {run : List D → Store → R D} {fk : Env → Store → R (List D)} (tk : Takes X (fun c d _ H => EW c d H))
    (F : FnOk X.prog X.w X.K X.mg X.base (L2.CX X.prog X.w) n f fd ps (spOf g run)) (hr : Room n X.A) (hg : Gl X x) (hm : X.mg x = some (.ref f)) (hk : PySem.W.keepIn X.K (.ref f) = true) (hb : KBinds X.K fd ps ks (kg 0 b) (kg 0 b))
    (hkw : PK X kws (tSA g EW fk)) (hdb : (x == ("__debug__" : Str)) = false) (hall : (backToKw pos (keywordEach kws X.env)).all (·.1.isSome) = true) (hks : (backToKw pos (keywordEach kws X.env)).filterMap (·.1) = ks)
    (hpl : ((backTo pos (starEach [] X.env)).any (·.1) || (backToKw pos (keywordEach kws X.env)).any (·.1.isNone)) = false) :
    PE X (.Call (.Name x p) [] kws pos) (tS g EW (fCallK0 b run fk)) := by
  refine ⟨fun pins s σ H Q I ⟨env, st, ρ, B, er, R, h⟩ => ?_⟩
  refine wpAny_Call_Name_kw (ld_glob I hg hm ?_ hdb)
  have q : (tSA g EW fk) σ H fun vs H1 => vs.length = b ∧ spOf g run vs H1 Q EW := ⟨env, st, ρ, B, er, R, seqP h fun es st2 ws H2 ρ2 B2 _ l2 R2 r2 h2 => by
    split at h2
    · rename_i hl
      exact ⟨by rw [r2.length]; exact hl, pure_post R2 r2 h2⟩
    · exact h2.elim⟩
  refine PySem.W.callWith_KW0 (h₀ := X.base) I.ok.mod.kin hk hall (thn (hkw.run pos pins s σ H _ I q) fun ws s2 ⟨zs, H2, I2, rz, hl, q2⟩ => ⟨I2.kIn, ?_⟩) hpl
  rw [hks]
  have e : kg 0 b ([] : List V) zs = zs := by
    unfold kg
    rw [if_pos ⟨rfl, hl⟩]
    rfl
  have := run_fnk (us := []) (vs := []) F hr hb (passes_call tk fun _ _ _ _ h => h) I2 .nil rz (by rw [e]; exact q2)
  exact this
end
end Mp
end

section
set_option Elab.async false
set_option linter.all false
set_option maxRecDepth 100000
set_option maxHeartbeats 4000000
/-! M8: statements, loops. -/
namespace Mp
open PySem PySem.Spec PyProof.Rows L2
/-- how a statement ends -/
inductive Fl where
  | nx (e : Env)
  | ret (d : D)
  | brk (e : Env)
  | cont (e : Env)
abbrev SM := Env → Store → R Fl
/-- what is wanted of an end -/
def FlW (g : Gm) (W : Ends) (H : Hp) (ρ B : List Addr) : Fl → Prop
  | .nx e => ∀ σ, EnvR g H ρ B e σ → W.nx σ H
  | .ret d => ∀ v, RD g H ρ B d v → W.rt v H
  | .brk e => ∀ σ, EnvR g H ρ B e σ → W.bk σ H
  | .cont e => ∀ σ, EnvR g H ρ B e σ → W.ct σ H
def PostF (g : Gm) (EW : XK) (W : Ends) (H : Hp) (ρ B : List Addr) (r : R Fl) : Prop :=
  match r with
  | .ok fl st' => ∀ H' ρ' B', Later H ρ B H' ρ' B' → HRep g H' st' ρ' B' → FlW g W H' ρ' B' fl
  | .exc c d st' => ∀ cls dc H' ρ' B', Later H ρ B H' ρ' B' → HRep g H' st' ρ' B' → ExcR g H' B' c d cls dc → EW cls dc H'
  | .no => False
def tSS (g : Gm) (EW : XK) (f : SM) : TS := fun W σ H => ∃ env st ρ B, EnvR g H ρ B env σ ∧ HRep g H st ρ B ∧ PostF g EW W H ρ B (f env st)
section
variable {g : Gm} {EW : XK} {X : Cx} {H H' H1 : Hp} {st st1 : Store} {ρ B ρ1 B1 : List Addr} {W W' : Ends}
theorem lmut (l : Later H ρ B H1 ρ1 B1) (R1 : HRep g H1 st1 ρ1 B1) : ∀ a ∈ ρ, Mut (H1 a) := fun a ha => by
  obtain ⟨e, e1, _⟩ := l.ex
  exact R1.mu a (R1.sub a (by rw [e1]; exact List.mem_append_left _ ha))
theorem PostF.later {r : R Fl} (h : PostF g EW W H ρ B r) (l : Later H ρ B H1 ρ1 B1) (R1 : HRep g H1 st1 ρ1 B1) : PostF g EW W H1 ρ1 B1 r := by
  have hm := lmut l R1
  cases r with
  | ok d st' => exact fun H' ρ' B' l' R' => h H' ρ' B' (l.trans hm l') R'
  | exc c d st' => exact fun cls dc H' ρ' B' l' R' k => h cls dc H' ρ' B' (l.trans hm l') R' k
  | no => exact h
/-- an expression, then a statement -/
theorem seqF {α β : Type} {rel : Hp → List Addr → List Addr → α → β → Prop} {r : R α} {k : α → Store → R Fl} {N : β → Hp → Prop}
    (h : PostF g EW W H ρ B (r.bind k))
    (n : ∀ d st1 v H1 ρ1 B1, r = .ok d st1 → Later H ρ B H1 ρ1 B1 → HRep g H1 st1 ρ1 B1 → rel H1 ρ1 B1 d v → PostF g EW W H1 ρ1 B1 (k d st1) → N v H1) : Post g EW rel H ρ B r N := by
  cases r with
  | ok d st1 => exact fun v H1 ρ1 B1 l R1 rv => n d st1 v H1 ρ1 B1 rfl l R1 rv (PostF.later (st1 := st1) h l R1)
  | exc c d st' => exact h
  | no => exact h
/-- a statement, then a statement -/
theorem seqFF {r : R Fl} {k : Fl → Store → R Fl} (h : PostF g EW W H ρ B (r.bind k))
    (n : ∀ fl st1 H1 ρ1 B1, r = .ok fl st1 → Later H ρ B H1 ρ1 B1 → HRep g H1 st1 ρ1 B1 → PostF g EW W H1 ρ1 B1 (k fl st1) → FlW g W' H1 ρ1 B1 fl) : PostF g EW W' H ρ B r := by
  cases r with
  | ok fl st1 => exact fun H1 ρ1 B1 l R1 => n fl st1 H1 ρ1 B1 rfl l R1 (PostF.later (st1 := st1) h l R1)
  | exc c d st' => exact h
  | no => exact h
theorem postF_nx {env : Env} {σ : L2.St} (er : EnvR g H ρ B env σ) (R : HRep g H st ρ B) (h : PostF g EW W H ρ B (.ok (.nx env) st)) : W.nx σ H := h H ρ B Later.refl R σ er

/-! ### small ones -/
def sNx : SM := fun env st => .ok (.nx env) st
def sNo : SM := fun _ _ => .no
def sSeq (f k : SM) : SM := fun env st => (f env st).bind fun fl st1 => match fl with
  | .nx env' => k env' st1
  | fl => .ok fl st1
def sIf (fc : Env → Store → R D) (a b : SM) : SM := fun env st => (fT fc env st).bind fun c st1 => if c then a env st1 else b env st1
def sDrop (f : Env → Store → R D) : SM := fun env st => (f env st).bind fun _ st1 => .ok (.nx env) st1
def sRet (f : Env → Store → R D) : SM := fun env st => (f env st).bind fun d st1 => .ok (.ret d) st1
def sSet (i : Nat) (f : Env → Store → R D) : SM := fun env st => (f env st).bind fun d st1 => .ok (.nx (env.set i (some d))) st1
def sBrk : SM := fun env st => .ok (.brk env) st
def sCont : SM := fun env st => .ok (.cont env) st
theorem pssImp {e : List Stmt} {t t' : TS} (h : PSs X e t) (k : ∀ D σ H, t' D σ H → t D σ H) : PSs X e t' :=
  ⟨fun pins s σ H D I q => h.run pins s σ H D I (k D σ H q)⟩
theorem es_no {s : Stmt} : PS X s (tSS g EW sNo) := ⟨fun _ _ _ _ _ _ ⟨_, _, _, _, _, _, h⟩ => h.elim⟩
theorem ess_no {s : List Stmt} : PSs X s (tSS g EW sNo) := ⟨fun _ _ _ _ _ _ ⟨_, _, _, _, _, _, h⟩ => h.elim⟩
theorem ess_nil : PSs X [] (tSS g EW sNx) := pssImp pss_nil fun W σ H ⟨env, st, ρ, B, er, R, h⟩ => postF_nx er R h
theorem es_pass {pos : Pos} : PS X (.Pass pos) (tSS g EW sNx) := psImp ps_pass fun W σ H ⟨env, st, ρ, B, er, R, h⟩ => postF_nx er R h
theorem es_brk {pos : Pos} : PS X (.Break pos) (tSS g EW sBrk) := psImp ps_break fun W σ H ⟨env, st, ρ, B, er, R, h⟩ => h H ρ B Later.refl R σ er
theorem es_cont {pos : Pos} : PS X (.Continue pos) (tSS g EW sCont) := psImp ps_continue fun W σ H ⟨env, st, ρ, B, er, R, h⟩ => h H ρ B Later.refl R σ er
theorem ess_one {s : Stmt} {f : SM} (h : PS X s (tSS g EW f)) : PSs X [s] (tSS g EW f) := pss_one h
theorem ess_cons {s : Stmt} {r : List Stmt} {f k : SM} (h : PS X s (tSS g EW f)) (h2 : PSs X r (tSS g EW k)) : PSs X (s :: r) (tSS g EW (sSeq f k)) := by
  refine pssImp (pss_cons h h2) fun W σ H ⟨env, st, ρ, B, er, R, h⟩ => ?_
  unfold sSeq at h
  refine ⟨env, st, ρ, B, er, R, seqFF h fun fl st1 H1 ρ1 B1 _ l1 R1 h1 => ?_⟩
  cases fl with
  | nx e => exact fun σ' er' => ⟨e, st1, ρ1, B1, er', R1, h1⟩
  | ret d => exact h1 H1 ρ1 B1 Later.refl R1
  | brk e => exact h1 H1 ρ1 B1 Later.refl R1
  | cont e => exact h1 H1 ρ1 B1 Later.refl R1
theorem es_if {c : Expr} {a b : List Stmt} {pos : Pos} {fc : Env → Store → R D} {f k : SM} (hc : PT X c (tST g EW (fT fc))) (ha : PSs X a (tSS g EW f)) (hb : PSs X b (tSS g EW k)) : PS X (.If c a b pos) (tSS g EW (sIf fc f k)) := by
  refine psImp (ps_if hc ha hb) fun W σ H ⟨env, st, ρ, B, er, R, h⟩ => ?_
  unfold sIf at h
  refine ⟨env, st, ρ, B, er, R, seqF h fun c st1 x H1 ρ1 B1 _ l1 R1 r1 h1 => ?_⟩
  subst r1
  cases c with
  | true => exact iteT ⟨env, st1, ρ1, B1, l1.env R er, R1, h1⟩
  | false => exact iteF ⟨env, st1, ρ1, B1, l1.env R er, R1, h1⟩
theorem es_drop {e : Expr} {pos : Pos} {f : Env → Store → R D} (he : PE X e (tS g EW f)) (hs : swapsWith e none pos.line X.env = pure false) : PS X (.Expr e pos) (tSS g EW (sDrop f)) := by
  refine psImp (ps_expr he hs) fun W σ H ⟨env, st, ρ, B, er, R, h⟩ => ?_
  exact ⟨env, st, ρ, B, er, R, seqF h fun d st1 x H1 ρ1 B1 _ l1 R1 r1 h1 => postF_nx (l1.env R er) R1 h1⟩
theorem es_ret {e : Expr} {pos : Pos} {f : Env → Store → R D} (he : PE X e (tS g EW f)) : PS X (.Return (some e) pos) (tSS g EW (sRet f)) := by
  refine psImp (ps_ret he) fun W σ H ⟨env, st, ρ, B, er, R, h⟩ => ?_
  exact ⟨env, st, ρ, B, er, R, seqF h fun d st1 x H1 ρ1 B1 _ l1 R1 r1 h1 => h1 H1 ρ1 B1 Later.refl R1 x r1⟩
theorem es_retN {pos : Pos} : PS X (.Return none pos) (tSS g EW (sRet (fC .none))) :=
  psImp ps_retN fun W σ H ⟨env, st, ρ, B, er, R, h⟩ => h H ρ B Later.refl R .non (show RD g H ρ B (.p .none) .non from .non)
theorem es_set {i : Nat} {x : Str} {e : Expr} {pos' pos : Pos} {f : Env → Store → R D} (hN : X.N.Nodup) (hi : X.N[i]? = some x) (hx : Loc X.env.scope x) (he : PE X e (tS g EW f)) (hs : swapsWith e (some (.Name x pos')) pos.line X.env = pure false) (hf : X.fn x = true ∨ X.env.scope.names.lookup x = some .local) :
    PS X (.Assign [.Name x pos'] e pos) (tSS g EW (sSet i f)) := by
  refine psImp (ps_set hN hi hx he hs hf) fun W σ H ⟨env, st, ρ, B, er, R, h⟩ => ?_
  exact ⟨env, st, ρ, B, er, R, seqF h fun d st1 x H1 ρ1 B1 _ l1 R1 r1 h1 => postF_nx ((l1.env R er).set r1) R1 h1⟩
/-- a, b = x, y -/
def sPar (i j : Nat) (fs : Env → Store → R (List D)) : SM := fun env st => (fs env st).bind fun ds st1 => match ds with
  | [d, e] => .ok (.nx ((env.set i (some d)).set j (some e))) st1
  | _ => .no
theorem es_par {i j : Nat} {x y : Str} {a b : Expr} {fs : Env → Store → R (List D)} {px py pt pos : Pos} {kt k2 pt2} (hc : X.calm = true) (hN : X.N.Nodup) (hi : X.N[i]? = some x) (hj : X.N[j]? = some y) (hij : i ≠ j)
    (hx : X.env.scope.names.lookup x = some .local) (hy : X.env.scope.names.lookup y = some .local) (ha : PA X [a, b] (tSA g EW fs))
    (hw : swappedStores [.Tuple [.Name x px, .Name y py] kt pt] (.Tuple [a, b] k2 pt2) X.env = pure (some [x, y]))
    (hs : swapsWithSole [.Tuple [.Name x px, .Name y py] kt pt] (.Tuple [a, b] k2 pt2) pos.line X.env = pure false) :
    PS X (.Assign [.Tuple [.Name x px, .Name y py] kt pt] (.Tuple [a, b] k2 pt2) pos) (tSS g EW (sPar i j fs)) := by
  refine psImp (ps_par hc hN hi hj hij hx hy ha hw hs) fun W σ H ⟨env, st, ρ, B, er, R, h⟩ => ?_
  refine ⟨env, st, ρ, B, er, R, seqF h fun ds st1 xs H1 ρ1 B1 _ l1 R1 r1 h1 => ?_⟩
  split at h1
  · cases r1 with
    | cons ra r2 =>
      cases r2 with
      | cons rb r3 =>
        cases r3
        exact ⟨_, _, rfl, postF_nx (((l1.env R er).set ra).set rb) R1 h1⟩
  · exact h1.elim

/-! ### targets -/
/-- what a store makes of the names and the store -/
def tSG (g : Gm) (G : D → Env → Store → R Env) : TG := fun v σ H Q => ∃ d env st ρ B, RD g H ρ B d v ∧ EnvR g H ρ B env σ ∧ HRep g H st ρ B ∧
  match G d env st with
  | .ok env' st' => ∀ σ' H' ρ' B', Later H ρ B H' ρ' B' → HRep g H' st' ρ' B' → EnvR g H' ρ' B' env' σ' → Q σ' H'
  | _ => False
def tSGs (g : Gm) (G : List D → Env → Store → R Env) : TGs := fun vs σ H Q => ∃ ds env st ρ B, RDs g H ρ B ds vs ∧ EnvR g H ρ B env σ ∧ HRep g H st ρ B ∧
  match G ds env st with
  | .ok env' st' => ∀ σ' H' ρ' B', Later H ρ B H' ρ' B' → HRep g H' st' ρ' B' → EnvR g H' ρ' B' env' σ' → Q σ' H'
  | _ => False
theorem pgImp {e : Expr} {t t' : TG} (h : PG X e t) (k : ∀ v σ H Q, t' v σ H Q → t v σ H Q) : PG X e t' :=
  ⟨fun pins s σ H v u Q I r q => h.run pins s σ H v u Q I r (k v σ H Q q)⟩
theorem pgsImp {e : List Expr} {t t' : TGs} (h : PGs X e t) (k : ∀ v σ H Q, t' v σ H Q → t v σ H Q) : PGs X e t' :=
  ⟨fun pins s σ H v u Q I r q => h.run pins s σ H v u Q I r (k v σ H Q q)⟩
def gSet (i : Nat) : D → Env → Store → R Env := fun d env st => .ok (env.set i (some d)) st
theorem eg_name {i : Nat} {x : Str} {pos : Pos} (hN : X.N.Nodup) (hi : X.N[i]? = some x) (hx : Loc X.env.scope x) (hf : X.fn x = true ∨ X.env.scope.names.lookup x = some .local) : PG X (.Name x pos) (tSG g (gSet i)) :=
  pgImp (pg_name hN hi hx hf) fun v σ H Q ⟨d, env, st, ρ, B, rd, er, R, h⟩ => h _ H ρ B Later.refl R (er.set rd)
def gNil' : List D → Env → Store → R Env := fun ds env st => match ds with
  | [] => .ok env st
  | _ => .no
def gCons' (G : D → Env → Store → R Env) (Gs : List D → Env → Store → R Env) : List D → Env → Store → R Env := fun ds env st => match ds with
  | d :: r => match G d env st with
    | .ok env' st' => Gs r env' st'
    | _ => .no
  | [] => .no
theorem egs_nil : PGs X [] (tSGs g gNil') := pgsImp pgs_nil fun vs σ H Q ⟨ds, env, st, ρ, B, rd, er, R, h⟩ => by
  cases rd with
  | nil => exact ⟨rfl, h σ H ρ B Later.refl R er⟩
  | cons _ _ => exact h.elim
theorem egs_cons {e : Expr} {es : List Expr} {G : D → Env → Store → R Env} {Gs : List D → Env → Store → R Env} (h1 : PG X e (tSG g G)) (h2 : PGs X es (tSGs g Gs)) (hs : (assignEach (e :: es) X.env).map (·.2) = assign e X.env :: (assignEach es X.env).map (·.2)) :
    PGs X (e :: es) (tSGs g (gCons' G Gs)) := pgsImp (pgs_cons h1 h2 hs) fun vs σ H Q ⟨ds, env, st, ρ, B, rd, er, R, h⟩ => by
  cases rd with
  | nil => exact h.elim
  | @cons d ds v vs r1 r2 =>
    refine ⟨_, _, rfl, d, env, st, ρ, B, r1, er, R, ?_⟩
    simp only [gCons'] at h
    split at h
    · rename_i env' st' e
      split at e
      · rename_i env1 st1 e1
        try rw [e1]
        intro σ1 H1 ρ1 B1 l1 R1 er1
        refine ⟨ds, env1, st1, ρ1, B1, l1.rrs R r2, er1, R1, ?_⟩
        try rw [e]
        intro σ' H' ρ' B' l' R' er'
        exact h σ' H' ρ' B' (l1.trans (lmut l1 R1) l') R' er'
      · cases e
    · exact h.elim
def gTupD (n : Nat) (G : List D → Env → Store → R Env) : D → Env → Store → R Env := fun d env st => match asP st d with
  | some (.tuple xs) => if xs.length = n then G (xs.map .p) env st else .no
  | _ => .no
theorem eg_tup {es : List Expr} {k n : Nat} {pos : Pos} {G : List D → Env → Store → R Env} (hK : X.K = g.K) (hc : X.calm = true) (h : PGs X es (tSGs g G)) (hn : (assignEach es X.env).length = n) (hst : (assignEach es X.env).findIdx? (·.1) = none) : PG X (.Tuple es k pos) (tSG g (gTupD n G)) :=
  pgImp (pg_tup hc h hn hst) fun v σ H Q ⟨d, env, st, ρ, B, rd, er, R, h⟩ => by
    unfold gTupD at h
    cases ea : asP st d with
    | none => simp only [ea] at h
    | some c =>
      simp only [ea] at h
      cases c with
      | tuple xs =>
        simp only at h
        obtain ⟨a, vs, rfl, h1, k⟩ := asP_tup R rd ea
        by_cases hl : xs.length = n
        · rw [if_pos hl] at h
          exact ⟨a, vs, rfl, by rw [hK]; exact h1, by rw [k.length]; exact hl, xs.map .p, env, st, ρ, B, k.rds, er, R, h⟩
        · rw [if_neg hl] at h; exact h.elim
      | _ => exact h.elim
/-- o[i] = .. -/
def gSubD (fo fi : Env → Store → R D) : D → Env → Store → R Env := fun d env st => (fo env st).bind fun o st1 => (fi env st1).bind fun i st2 => match o, i with
  | .obj n, .p (.int k) => match st2[n]? with
    | some (.lst ds) => match ixN ds.length k with
      | some j => .ok env (st2.set n (.lst (ds.set j d)))
      | none => .no
    | _ => .no
  | _, _ => .no
theorem RDs.set {ds : List D} {vs : List V} {d : D} {v : V} (h : RDs g H ρ B ds vs) (r : RD g H ρ B d v) : ∀ j, RDs g H ρ B (ds.set j d) (vs.set j v) := by
  induction h with
  | nil => intro j; exact .nil
  | cons h t ih =>
    intro j
    cases j with
    | zero => exact .cons r t
    | succ j => exact .cons h (ih j)
theorem eg_sub {o i : Expr} {pos : Pos} {fo fi : Env → Store → R D} (ho : PE X o (tS g (fun _ _ _ => False) fo)) (hi : PE X i (tS g (fun _ _ _ => False) fi)) (ha : ∀ v, assign (.Subscript o i pos) X.env v = (do
      let ov ← holding [v] (eval o X.env)
      let iv ← holding [v, ov] (eval i X.env)
      standAt pos
      holding [v, ov, iv] (setItem ov iv v)
      release [v, ov, iv] []) := by intro _; rfl) : PG X (.Subscript o i pos) (tSG g (gSubD fo fi)) :=
  pgImp (pg_sub ho hi set_list ha) fun v σ H Q ⟨d, env, st, ρ, B, rd, er, R, h⟩ => by
    unfold gSubD at h
    refine ⟨env, st, ρ, B, er, R, ?_⟩
    cases e1 : fo env st with
    | no => rw [e1] at h; exact h.elim
    | exc c d' s' => rw [e1] at h; exact h.elim
    | ok o' st1 =>
      rw [e1] at h
      simp only [Mp.R.bind_ok] at h
      intro ov H1 ρ1 B1 l1 R1 ro
      refine ⟨env, st1, ρ1, B1, l1.env R er, R1, ?_⟩
      cases e2 : fi env st1 with
      | no => rw [e2] at h; exact h.elim
      | exc c d' s' => rw [e2] at h; exact h.elim
      | ok i' st2 =>
        rw [e2] at h
        simp only [Mp.R.bind_ok] at h
        intro iv H2 ρ2 B2 l2 R2 ri
        have ro2 := l2.rr R1 ro
        have rd2 := l2.rr R1 (l1.rr R rd)
        have er2 := l2.env R1 (l1.env R er)
        split at h
        · rename_i env' st' e
          split at e
          · rename_i n k
            split at e
            · rename_i ds q
              split at e
              · rename_i j hj
                cases e
                obtain ⟨a, vs, rfl, h1, h2, h3, h4⟩ := cell_lst R2 ro2 q
                have ri' : Dq g.K H2 B2 iv _ := ri
                cases ri'
                have l3 := R2.laterW (u := .lst (vs.set j v)) h1
                refine ⟨a, vs, k, j, rfl, rfl, h2, by rw [h3.length]; exact hj, ?_⟩
                refine h σ _ ρ2 B2 ((l1.trans (lmut l1 R1) l2).trans (lmut (l1.trans (lmut l1 R1) l2) R2) l3) (R2.wr h4 h1 trivial ⟨_, upd_same, l3.rrs R2 (h3.set rd2 j)⟩) (l3.env R2 er2)
              · cases e
            · cases e
          · cases e
        · exact h.elim
def sAsg (f : Env → Store → R D) (G : D → Env → Store → R Env) : SM := fun env st => (f env st).bind fun d st1 => match G d env st1 with
  | .ok env' st' => .ok (.nx env') st'
  | _ => .no
theorem es_asg {tg e : Expr} {pos : Pos} {f : Env → Store → R D} {G : D → Env → Store → R Env} (he : PE X e (tS g EW f)) (hg : PG X tg (tSG g G)) (hs : swapsWithSole [tg] e pos.line X.env = pure false) (hw : swappedStores [tg] e X.env = pure none)
    (h1 : (assignEach [tg] X.env).map (·.2) = [assign tg X.env]) : PS X (.Assign [tg] e pos) (tSS g EW (sAsg f G)) := by
  refine psImp (ps_asg he hg hs hw h1) fun W σ H ⟨env, st, ρ, B, er, R, h⟩ => ?_
  refine ⟨env, st, ρ, B, er, R, seqF h fun d st1 v H1 ρ1 B1 _ l1 R1 r1 h1 => ?_⟩
  refine ⟨d, env, st1, ρ1, B1, r1, l1.env R er, R1, ?_⟩
  split at h1
  · rename_i env' st' e
    try rw [e]
    exact fun σ' H' ρ' B' l' R' er' => h1 H' ρ' B' l' R' σ' er'
  · exact h1.elim
/-- e.f = v -/
def putD (f : Str) (d : D) : List (Str × D) → List (Str × D)
  | [] => [(f, d)]
  | (k, e) :: r => if k = f then (k, d) :: r else (k, e) :: putD f d r
def sFldS (fk : Nat → Str → Bool) (fo fv : Env → Store → R D) (f : Str) : SM := fun env st => (fv env st).bind fun d st1 => (fo env st1).bind fun o st2 => match o with
  | .obj n => (match st2[n]? with
    | some (.ins c fs) => if fk c f ∧ fs.length < 1000 then .ok (.nx env) (st2.set n (.ins c (putD f d fs))) else .no
    | _ => .no)
  | _ => .no
theorem RFs.length {ds : List (Str × D)} {vs : List (Str × V)} (h : RFs g H ρ B ds vs) : vs.length = ds.length := by
  induction h with
  | nil => rfl
  | cons _ _ ih => simp [ih]
theorem RFs.put {ds : List (Str × D)} {vs : List (Str × V)} {f : Str} {d : D} {v : V} (h : RFs g H ρ B ds vs) (r : RD g H ρ B d v) : RFs g H ρ B (putD f d ds) (putF f v vs) := by
  induction h with
  | nil => exact .cons r .nil
  | @cons k e ds w vs h t ih =>
    unfold putD putF
    by_cases hk : k = f
    · rw [if_pos hk]
      subst hk
      simp only [BEq.rfl, if_true]
      exact .cons r t
    · rw [if_neg hk]
      have : (k == f) = false := by simpa using hk
      first
        | (rw [this]; exact .cons h ih)
        | (simp only [this]; exact .cons h ih)
        | (simp only [hk, if_false]; exact .cons h ih)
theorem es_fld (hK : X.K = g.K) {fk : Nat → Str → Bool} (hf : ∀ c f, fk c f = true → Cls g.K (g.cad c) ∧ NoAttr g.K (g.cad c) f) {o value : Expr} {f : Str} {pos' pos : Pos} {fo fv : Env → Store → R D} (ho : PE X o (tS g EW fo)) (hv : PE X value (tS g EW fv)) (hs : swapsWith value (some (.Attribute o f pos')) pos.line X.env = pure false) :
    PS X (.Assign [.Attribute o f pos'] value pos) (tSS g EW (sFldS fk fo fv f)) := by
  refine psImp (ps_fld ho hv hs) fun W σ H ⟨env, st, ρ, B, er, R, h⟩ => ?_
  refine ⟨env, st, ρ, B, er, R, seqF h fun d st1 y H1 ρ1 B1 _ l1 R1 r1 h1 => ?_⟩
  refine ⟨env, st1, ρ1, B1, l1.env R er, R1, seqF h1 fun o st2 x H2 ρ2 B2 _ l2 R2 r2 h2 => ?_⟩
  have rd2 := l2.rr R1 r1
  have er2 := l2.env R1 (l1.env R er)
  split at h2
  · rename_i n
    split at h2
    · rename_i c fs q
      split at h2
      · rename_i hk
        obtain ⟨h5, h6⟩ := hf c f hk.1
        obtain ⟨a, e1, dx, fv', e2, e3⟩ := R2.cell _ _ q
        obtain ⟨a', e4, rfl⟩ := r2
        rw [e1] at e4; cases e4
        have l3 := R2.laterW (u := .ins (g.cad c) dx (putF f y fv')) e1
        refine ⟨a, g.cad c, dx, fv', rfl, e2, by rw [hK]; exact h5, by rw [hK]; exact h6, by rw [e3.length]; exact hk.2, ?_⟩
        exact h2 _ ρ2 B2 l3 (R2.wr (List.getElem?_eq_some_iff.mp q).1 e1 trivial ⟨dx, _, upd_same, l3.rfs R2 (e3.put rd2)⟩) σ (l3.env R2 er2)
      · exact h2.elim
    · exact h2.elim
  · exact h2.elim
end
end Mp
end

section
set_option Elab.async false
set_option linter.all false
set_option maxRecDepth 100000
set_option maxHeartbeats 4000000
/-! M9: what is walked; for, while; comprehensions. -/
namespace Mp
open PySem PySem.Spec PyProof.Rows L2

/-- an iterator yields these -/
def ItOk (g : Gm) (H : Hp) (ρ B : List Addr) (xs : List D) (J : It) : Prop := ∀ H' st' ρ' B', Later H ρ B H' ρ' B' → HRep g H' st' ρ' B' → ∀ i,
  (i < xs.length → J.go i H' ∧ ∀ x H'', J.yld i H' x H'' → Later H' ρ' B' H'' ρ' B' ∧ HRep g H'' st' ρ' B' ∧ ∃ d, xs[i]? = some d ∧ RD g H'' ρ' B' d x) ∧ (xs.length ≤ i → J.stop i H')
def tSI (g : Gm) (EW : XK) (f : Env → Store → R (List D)) : TI := fun σ H Q => ∃ env st ρ B, EnvR g H ρ B env σ ∧ HRep g H st ρ B ∧ Post g EW (ItOk g) H ρ B (f env st) Q
section
variable {g : Gm} {EW : XK} {X : Cx} {H H' H1 : Hp} {st st1 : Store} {ρ B ρ1 B1 : List Addr} {W W' : Ends}
theorem piImp {tg e : Expr} {t t' : TI} (h : PI X tg e t) (k : ∀ σ H Q, t' σ H Q → t σ H Q) : PI X tg e t' :=
  ⟨fun pins s σ H Q I q => h.run pins s σ H Q I (k σ H Q q)⟩
def iterD : D → Option (List D)
  | .p (.list xs) => some (xs.map .p)
  | .p (.tuple xs) => some (xs.map .p)
  | .p (.str x) => some (x.cps.toList.map fun c => .p (.str ⟨#[c]⟩))
  | _ => none
def fIter (fa : Env → Store → R D) : Env → Store → R (List D) := fun env st => (fa env st).bind fun d st1 => match iterD d with
  | some xs => .ok xs st1
  | none => .no
def iAny (K : PySem.W.Frag) (te : TE) : TI := fun σ H R => te σ H fun v H1 => (∃ a, v = .ref a ∧ (∃ xs, SqL K H1 a xs) ∧ R (Itl K a) H1) ∨ (∃ a, v = .ref a ∧ (∃ xs, SqT K H1 a xs) ∧ R (Itt K a) H1) ∨ (∃ x, v = .str x ∧ R (Its x) H1)
theorem pi_any {tg l : Expr} {tl : TE} (hl : PE X l tl) : PI X tg l (iAny X.K tl) := by
  refine ⟨fun pins s σ H R I h => ?_⟩
  refine thn (hl.run pins s σ H _ I h) fun v s1 ⟨x, H1, I1, r1, q1⟩ => ?_
  rcases q1 with ⟨a, e, ⟨xs, hq⟩, q⟩ | ⟨a, e, ⟨xs, hq⟩, q⟩ | ⟨x', e, q⟩
  · subst e
    cases r1
    obtain ⟨its, rv, p, hz⟩ := I1.list hq
    refine wpAny_pyIter_list p.isList ?_
    refine ⟨s1.heap.objs.size, [s1.heap.objs.size], _, _, H1, rfl, I1.kept (t' := s1.toks) fun b o e => Heap.get?_push_of_some _ e, turn_list a _, ⟨_, Heap.get?_push_size _ rfl, rfl, rfl⟩, fun b hb => ?_, q⟩
    have e : b = s1.heap.objs.size := by simpa using hb
    subst e
    exact I1.fpOk (Nat.le_refl _) (I1.hok.fresh (Nat.le_refl _))
  · subst e
    cases r1
    obtain ⟨its, rv, p, hz⟩ := I1.tuple hq
    refine wpAny_pyIter_tuple (show s1.heap.IsTuple a its.toArray from p) ?_
    refine ⟨s1.heap.objs.size, [s1.heap.objs.size], _, _, H1, rfl, I1.kept (t' := s1.toks) fun b o e => Heap.get?_push_of_some _ e, turn_tuple a _, ⟨_, Heap.get?_push_size _ rfl, rfl, rfl⟩, fun b hb => ?_, q⟩
    have e : b = s1.heap.objs.size := by simpa using hb
    subst e
    exact I1.fpOk (Nat.le_refl _) (I1.hok.fresh (Nat.le_refl _))
  · subst e
    obtain ⟨t, rfl⟩ := r1
    cases ha : x'.cps.all (· < 128)
    · exact wpAny_pyIter_wide ha (pi_one (tk := s1.toks) I1 _ (turn_str _ x' t "str_iterator" (.inr rfl)) ⟨_, Heap.get?_push_size _ rfl, rfl, rfl⟩ q)
    · exact wpAny_pyIter_ascii ha (pi_one (tk := s1.toks) I1 _ (turn_str _ x' t "str_ascii_iterator" (.inl rfl)) ⟨_, Heap.get?_push_size _ rfl, rfl, rfl⟩ q)
theorem itOk_list {a : Addr} {vs : List V} {xs : List PyData} (R : HRep g H st ρ B) (n : a ∉ B) (h : Rd H a (.lst vs)) (k : DqAll g.K H B vs xs) : ItOk g H ρ B (xs.map .p) (Itl g.K a) := by
  intro H' st' ρ' B' l R' i
  have q := l.dq R (show Dq g.K H B (.ref a) (.list xs) from .lst n h k)
  cases q with
  | @lst _ ws _ n' h' k' =>
    refine ⟨fun hi => ?_, fun hi => ⟨ws, .inl h', by rw [k'.length]; simpa using hi⟩⟩
    have hi' : i < xs.length := by simpa using hi
    obtain ⟨w, hw, rw'⟩ := k'.get (List.getElem?_eq_getElem hi')
    refine ⟨⟨ws, w, .inl h', hw⟩, fun x H'' y => ?_⟩
    obtain ⟨e, y⟩ := y
    subst e
    have := y ws (.inl h')
    rw [hw] at this
    cases this
    exact ⟨Later.refl, R', .p xs[i], by simp [hi'], rw'⟩
theorem itOk_tup {a : Addr} {vs : List V} {xs : List PyData} (R : HRep g H st ρ B) (h : SqT g.K H a vs) (k : DqAll g.K H B vs xs) : ItOk g H ρ B (xs.map .p) (Itt g.K a) := by
  intro H' st' ρ' B' l R' i
  have q := l.dq R (show Dq g.K H B (.ref a) (.tuple xs) from .tup h k)
  cases q with
  | @tup _ ws _ h' k' =>
    refine ⟨fun hi => ?_, fun hi => ⟨ws, h', by rw [k'.length]; simpa using hi⟩⟩
    have hi' : i < xs.length := by simpa using hi
    obtain ⟨w, hw, rw'⟩ := k'.get (List.getElem?_eq_getElem hi')
    refine ⟨⟨ws, w, h', hw⟩, fun x H'' y => ?_⟩
    obtain ⟨e, y⟩ := y
    subst e
    have := y ws h'
    rw [hw] at this
    cases this
    exact ⟨Later.refl, R', .p xs[i], by simp [hi'], rw'⟩
theorem itOk_str {x : Str} : ItOk g H ρ B (x.cps.toList.map fun c => .p (.str ⟨#[c]⟩)) (Its x) := by
  intro H' st' ρ' B' l R' i
  refine ⟨fun hi => ?_, fun hi => by simpa [Its] using hi⟩
  have hi' : i < x.cps.size := by simpa using hi
  refine ⟨hi', fun v H'' y => ?_⟩
  obtain ⟨e, c, hc, rfl⟩ := y
  subst e
  refine ⟨Later.refl, R', .p (.str ⟨#[c]⟩), ?_, show Dq g.K H'' B' _ _ from .str _ (by show 1 ≤ sizeLine; decide)⟩
  rw [List.getElem?_map, Array.getElem?_toList, hc]
  rfl
theorem ei_any {tg e : Expr} {fa : Env → Store → R D} (hK : X.K = g.K) (he : PE X e (tS g EW fa)) : PI X tg e (tSI g EW (fIter fa)) := by
  refine piImp (pi_any he) fun σ H Q ⟨env, st, ρ, B, er, R, h⟩ => ?_
  unfold fIter at h
  refine ⟨env, st, ρ, B, er, R, seqP h fun d st1 v H1 ρ1 B1 _ l1 R1 r1 h1 => ?_⟩
  cases d with
  | obj n => exact h1.elim
  | p d =>
    have r1' : Dq g.K H1 B1 v d := r1
    rw [hK]
    cases r1' with
    | str x z => exact .inr (.inr ⟨x, rfl, h1 _ H1 ρ1 B1 Later.refl R1 itOk_str⟩)
    | lst n hh k => exact .inl ⟨_, rfl, ⟨_, .inl hh⟩, h1 _ H1 ρ1 B1 Later.refl R1 (itOk_list R1 n hh k)⟩
    | tup hh k => exact .inr (.inl ⟨_, rfl, ⟨_, hh⟩, h1 _ H1 ρ1 B1 Later.refl R1 (itOk_tup R1 hh k)⟩)
    | _ => exact h1.elim
/-- range -/
def rngD (lo : Int) (n : Nat) : List D := (List.range n).map fun (i : Nat) => .p (.int (lo + (i : Int)))
theorem itOk_rng {lo : Int} {n : Nat} : ItOk g H ρ B (rngD lo n) (Itr lo n) := by
  intro H' st' ρ' B' l R' i
  unfold rngD
  refine ⟨fun hi => ?_, fun hi => by simpa [Itr] using hi⟩
  have hi' : i < n := by simpa using hi
  refine ⟨hi', fun v H'' y => ?_⟩
  obtain ⟨e, rfl⟩ := y
  subst e
  exact ⟨Later.refl, R', .p (.int (lo + i)), by simp [hi'], show Dq g.K H'' B' _ _ from .int _⟩
def rngOk (i : Int) : Bool := decide (-(2 ^ 62) ≤ i) && decide (i < 2 ^ 62)
def fRng1 (fa : Env → Store → R D) : Env → Store → R (List D) := fun env st => (fa env st).bind fun d st1 => match d with
  | .p (.int j) => if rngOk j then .ok (rngD 0 j.toNat) st1 else .no
  | _ => .no
theorem ei_rng1 {tg a : Expr} {p pos : Pos} {fa : Env → Store → R D} (hg : Gl X "range") (hm : X.mg "range" = none) (ha : PE X a (tS g EW fa)) (hst : ∀ y q, a ≠ .Starred y q) : PI X tg (.Call (.Name "range" p) [a] [] pos) (tSI g EW (fRng1 fa)) := by
  have hs : starEach [a] X.env = [(false, eval a X.env)] := starEach_plain hst
  refine piImp (pi_range1 hg hm (pa_cons ha pa_nil hs) hs) fun σ H Q ⟨env, st, ρ, B, er, R, h⟩ => ?_
  unfold fRng1 at h
  refine ⟨env, st, ρ, B, er, R, seqP h fun d st1 v H1 ρ1 B1 _ l1 R1 r1 h1 => ?_⟩
  split at h1
  · rename_i j _
    split at h1
    · rename_i hz
      have r1' : Dq g.K H1 B1 v _ := r1
      cases r1'
      unfold rngOk at hz
      simp only [Bool.and_eq_true, decide_eq_true_eq] at hz
      exact ⟨j, rfl, hz.1, hz.2, h1 _ H1 ρ1 B1 Later.refl R1 itOk_rng⟩
    · exact h1.elim
  · exact h1.elim

/-! ### for -/
def loopF (G : D → Env → Store → R Env) (fb : SM) : List D → SM
  | [], env, st => .ok (.nx env) st
  | d :: r, env, st => match G d env st with
    | .ok env1 st1 => (fb env1 st1).bind fun fl st2 => match fl with
      | .nx e => loopF G fb r e st2
      | .cont e => loopF G fb r e st2
      | .brk e => .ok (.nx e) st2
      | .ret d => .ok (.ret d) st2
    | _ => .no
def sFor (G : D → Env → Store → R Env) (fi : Env → Store → R (List D)) (fb : SM) : SM := fun env st => (fi env st).bind fun xs st1 => loopF G fb xs env st1
theorem es_for {tg iter : Expr} {body : List Stmt} {pos : Pos} {G : D → Env → Store → R Env} {fi : Env → Store → R (List D)} {fb : SM} (hp : PassesOwn (model X.prog X.w) X.A X.env X.xe) (hc : X.calm = true) (hi : PI X tg iter (tSI g EW fi)) (hg : PG X tg (tSG g G)) (hb : PSs X body (tSS g EW fb))
    (hs : ∀ x, foldedSetIterable iter X.env x = pure x) : PS X (.For tg iter body [] pos) (tSS g EW (sFor G fi fb)) := by
  refine psImp (ps_for hp hc hi hg hb hs) fun W0 σ H ⟨env, st, ρ, B, er, R, h⟩ => ?_
  unfold sFor at h
  refine ⟨env, st, ρ, B, er, R, seqF h fun xs st1 J H1 ρ1 B1 _ l1 R1 r1 h1 => ?_⟩
  refine ⟨fun i m σ H' => m = xs.length - i ∧ i ≤ xs.length ∧ ∃ env st' ρ' B', Later H1 ρ1 B1 H' ρ' B' ∧ EnvR g H' ρ' B' env σ ∧ HRep g H' st' ρ' B' ∧ PostF g EW W0 H' ρ' B' (loopF G fb (xs.drop i) env st'), ⟨_, rfl, Nat.zero_le _, env, st1, ρ1, B1, Later.refl, l1.env R er, R1, h1⟩, ?_⟩
  rintro i m σ H2 ⟨rfl, hil, env2, st2, ρ2, B2, l2, er2, R2, h2⟩
  obtain ⟨g1, g2⟩ := r1 H2 st2 ρ2 B2 l2 R2 i
  by_cases hlt : i < xs.length
  · obtain ⟨go, yl⟩ := g1 hlt
    refine .inr ⟨go, fun σ H' => ∃ env st' ρ' B', Later H1 ρ1 B1 H' ρ' B' ∧ EnvR g H' ρ' B' env σ ∧ HRep g H' st' ρ' B' ∧ PostF g EW W0 H' ρ' B' (loopF G fb (xs.drop (i + 1)) env st'), fun σ' H' q => ⟨xs.length - (i + 1), by omega, rfl, hlt, q⟩, fun x H3 y => ?_⟩
    obtain ⟨l3, R3, d, hd, rd⟩ := yl x H3 y
    have hdrop : xs.drop i = d :: xs.drop (i + 1) := by
      rw [List.drop_eq_getElem_cons hlt]
      congr 1
      exact (List.getElem?_eq_some_iff.mp hd).2
    rw [hdrop] at h2
    have h3 := PostF.later (st1 := st2) h2 l3 R3
    have er3 := l3.env R2 er2
    have l13 := l2.trans (lmut l2 R2) l3
    refine ⟨d, env2, st2, ρ2, B2, rd, er3, R3, ?_⟩
    simp only [loopF] at h3
    cases eG : G d env2 st2 with
    | no => simp only [eG] at h3; exact h3.elim
    | exc c d s => simp only [eG] at h3; exact h3.elim
    | ok env4 st4 =>
      simp only [eG] at h3
      intro σ4 H4 ρ4 B4 l4 R4 er4
      have h4 := PostF.later (st1 := st4) h3 l4 R4
      have l14 := l13.trans (lmut l13 R3) l4
      refine ⟨env4, st4, ρ4, B4, er4, R4, seqFF h4 fun fl st5 H5 ρ5 B5 _ l5 R5 h5 => ?_⟩
      have l15 := l14.trans (lmut l14 R4) l5
      cases fl with
      | nx e => exact fun σ5 er5 => ⟨e, st5, ρ5, B5, l15, er5, R5, h5⟩
      | cont e => exact fun σ5 er5 => ⟨e, st5, ρ5, B5, l15, er5, R5, h5⟩
      | brk e => exact fun σ5 er5 => h5 H5 ρ5 B5 Later.refl R5 σ5 er5
      | ret d => exact h5 H5 ρ5 B5 Later.refl R5
  · have e : xs.drop i = [] := List.drop_eq_nil_of_le (by omega)
    rw [e] at h2
    exact .inl ⟨g2 (by omega), postF_nx er2 R2 h2⟩

/-! ### while -/
def loopW (fc : Env → Store → R Bool) (fb : SM) : Nat → SM
  | 0, _, _ => .no
  | n + 1, env, st => (fc env st).bind fun c st1 => if c then (fb env st1).bind fun fl st2 => match fl with
      | .nx e => loopW fc fb n e st2
      | .cont e => loopW fc fb n e st2
      | .brk e => .ok (.nx e) st2
      | .ret d => .ok (.ret d) st2
    else .ok (.nx env) st1
def sWhile (n : Nat) (fc : Env → Store → R D) (fb : SM) : SM := loopW (fT fc) fb n
theorem es_while {c : Expr} {body : List Stmt} {pos : Pos} {n : Nat} {fc : Env → Store → R D} {fb : SM} (hp : PassesOwn (model X.prog X.w) X.A X.env X.xe) (hc : PT X c (tST g EW (fT fc))) (hb : PSs X body (tSS g EW fb)) : PS X (.While c body [] pos) (tSS g EW (sWhile n fc fb)) := by
  refine psImp (ps_while hp hc hb) fun W0 σ H ⟨env, st, ρ, B, er, R, h⟩ => ?_
  unfold sWhile at h
  refine ⟨fun m σ H' => ∃ env st ρ B, EnvR g H' ρ B env σ ∧ HRep g H' st ρ B ∧ PostF g EW W0 H' ρ B (loopW (fT fc) fb m env st), ⟨n, env, st, ρ, B, er, R, h⟩, ?_⟩
  rintro m σ H ⟨env, st, ρ, B, er, R, h⟩
  cases m with
  | zero => exact h.elim
  | succ m =>
    simp only [loopW] at h
    refine ⟨env, st, ρ, B, er, R, seqF h fun c st1 b H1 ρ1 B1 _ l1 R1 r1 h1 => ?_⟩
    subst r1
    have er1 := l1.env R er
    cases c with
    | false =>
      simp only [Bool.false_eq_true, if_false] at h1 ⊢
      exact postF_nx er1 R1 h1
    | true =>
      simp only [if_true] at h1 ⊢
      refine ⟨fun σ H' => ∃ env st ρ B, EnvR g H' ρ B env σ ∧ HRep g H' st ρ B ∧ PostF g EW W0 H' ρ B (loopW (fT fc) fb m env st), fun σ' H' q => ⟨m, Nat.lt_succ_self _, q⟩, env, st1, ρ1, B1, er1, R1, seqFF h1 fun fl st2 H2 ρ2 B2 _ l2 R2 h2 => ?_⟩
      cases fl with
      | nx e => exact fun σ2 er2 => ⟨e, st2, ρ2, B2, er2, R2, h2⟩
      | cont e => exact fun σ2 er2 => ⟨e, st2, ρ2, B2, er2, R2, h2⟩
      | brk e => exact fun σ2 er2 => h2 H2 ρ2 B2 Later.refl R2 σ2 er2
      | ret d => exact h2 H2 ρ2 B2 Later.refl R2

/-! ### comprehensions -/
def wipeE (env : Env) : List Nat → Env
  | [] => env
  | v :: vs => (wipeE env vs).set v none
theorem EnvR.wipe {env : Env} {σ : L2.St} (h : EnvR g H ρ B env σ) : ∀ vs : List Nat, EnvR g H ρ B (wipeE env vs) (L2.wipe σ vs)
  | [] => h
  | v :: vs => by
    have ih := EnvR.wipe h vs
    refine ⟨by unfold wipeE L2.wipe; rw [List.length_set, List.length_set]; exact ih.len, fun i d e => ?_⟩
    unfold wipeE at e
    unfold L2.wipe
    by_cases hi : v = i
    · subst hi
      by_cases hl : v < (wipeE env vs).length
      · rw [List.getElem?_set_self hl] at e; cases e
      · rw [List.getElem?_eq_none (by simpa using hl)] at e; cases e
    · rw [List.getElem?_set_ne hi] at e ⊢
      exact ih.get i d e
/-- a target whose names are the block's own -/
def tSGw (g : Gm) (vs : List Nat) (G : D → Env → Store → R Env) : TG := fun v σ H Q => ∃ d env st ρ B, RD g H ρ B d v ∧ EnvR g H ρ B env σ ∧ HRep g H st ρ B ∧
  match G d env st with
  | .ok env' st' => ∀ σ' H' ρ' B', Later H ρ B H' ρ' B' → HRep g H' st' ρ' B' → EnvR g H' ρ' B' env' σ' → L2.wipe σ' vs = L2.wipe σ vs → Q σ' H'
  | _ => False
theorem wipe_set {σ : L2.St} {i : Nat} {x : Option V} : ∀ {vs : List Nat}, i ∈ vs → L2.wipe (σ.set i x) vs = L2.wipe σ vs
  | v :: vs, h => by
    unfold L2.wipe
    by_cases hv : i ∈ vs
    · rw [wipe_set hv]
    · have : i = v := by
        rcases List.mem_cons.mp h with h | h
        · exact h
        · exact absurd h hv
      subst this
      have : ∀ ws : List Nat, i ∉ ws → L2.wipe (σ.set i x) ws = (L2.wipe σ ws).set i x := by
        intro ws
        induction ws with
        | nil => intro _; rfl
        | cons w ws ih =>
          intro hw
          unfold L2.wipe
          rw [ih (fun z => hw (List.mem_cons_of_mem _ z))]
          exact List.set_comm _ _ (fun e => hw (by rw [e]; exact List.mem_cons_self))
      rw [this vs hv, List.set_set]
theorem wipe_wipe {σ : L2.St} (vs : List Nat) : L2.wipe (L2.wipe σ vs) vs = L2.wipe σ vs := by
  have : ∀ ws : List Nat, (∀ i ∈ ws, i ∈ vs) → L2.wipe (L2.wipe σ ws) vs = L2.wipe σ vs := by
    intro ws
    induction ws with
    | nil => intro _; rfl
    | cons w ws ih =>
      intro h
      show L2.wipe ((L2.wipe σ ws).set w none) vs = _
      rw [wipe_set (h w List.mem_cons_self)]
      exact ih fun i hi => h i (List.mem_cons_of_mem _ hi)
  exact this vs fun _ h => h
theorem egw_name {i : Nat} {x : Str} {pos : Pos} {vs : List Nat} (hv : i ∈ vs) (hN : X.N.Nodup) (hi : X.N[i]? = some x) (hx : Loc X.env.scope x) (hf : X.fn x = true ∨ X.env.scope.names.lookup x = some .local) : PG X (.Name x pos) (tSGw g vs (gSet i)) :=
  pgImp (pg_name hN hi hx hf) fun v σ H Q ⟨d, env, st, ρ, B, rd, er, R, h⟩ => h _ H ρ B Later.refl R (er.set rd) (wipe_set hv)
def noX {α : Type} : R α → R α
  | .exc _ _ _ => .no
  | r => r
theorem post_noX {α β : Type} {EW' : XK} {rel : Hp → List Addr → List Addr → α → β → Prop} {r : R α} {Q : β → Hp → Prop} (h : Post g EW rel H ρ B (noX r) Q) : Post g EW' rel H ρ B r Q := by
  cases r with
  | ok d s => exact h
  | exc c d s => exact h.elim
  | no => exact h
/-- the turns; the new list is the cell n -/
def lcGo (n : Nat) (G : D → Env → Store → R Env) (ft : Env → Store → R Bool) (fe : Env → Store → R D) : List D → Env → Store → R Unit
  | [], _, st => .ok () st
  | d :: r, env, st => match G d env st with
    | .ok env1 st1 => (noX (ft env1 st1)).bind fun b st2 => if b then (noX (fe env1 st2)).bind fun y st3 => match st3[n]? with
        | some (.lst acc) => if acc.length < sizeLine then lcGo n G ft fe r env (st3.set n (.lst (acc ++ [y]))) else .no
        | _ => .no
      else lcGo n G ft fe r env st2
    | _ => .no
def fLc (vs : List Nat) (fi : Env → Store → R (List D)) (G : D → Env → Store → R Env) (ft : Env → Store → R Bool) (fe : Env → Store → R D) : Env → Store → R D := fun env st => (fi env st).bind fun xs st1 =>
  (lcGo st1.length G ft fe xs (wipeE env vs) (st1 ++ [.lst []])).bind fun _ st2 => .ok (.obj st1.length) st2
/-- a thing, then what is done with it: the reading under no wish for exceptions -/
theorem seqN {α β : Type} {γ δ : Type} {rel : Hp → List Addr → List Addr → α → β → Prop} {rel' : Hp → List Addr → List Addr → γ → δ → Prop} {r : R α} {k : α → Store → R γ} {Q : δ → Hp → Prop} {N : β → Hp → Prop} {EW' : XK}
    (h : Post g EW rel' H ρ B ((noX r).bind k) Q)
    (n : ∀ d st1 v H1 ρ1 B1, r = .ok d st1 → Later H ρ B H1 ρ1 B1 → HRep g H1 st1 ρ1 B1 → rel H1 ρ1 B1 d v → Post g EW rel' H1 ρ1 B1 (k d st1) Q → N v H1) : Post g EW' rel H ρ B r N := by
  cases r with
  | ok d st1 => exact fun v H1 ρ1 B1 l R1 rv => n d st1 v H1 ρ1 B1 rfl l R1 rv (Post.later (st1 := st1) h l R1)
  | exc c d st' => exact h.elim
  | no => exact h.elim
def tT1 : Env → Store → R Bool := fun _ st => .ok true st
def tSTs := @tST
theorem ets_nil {E : XK} : PTs X [] (tST g E tT1) := ⟨fun pins s σ H Q I ⟨env, st, ρ, B, er, R, h⟩ => pts_nil.run pins s σ H Q I (h true H ρ B Later.refl R rfl)⟩
theorem ets_one {E : XK} {c : Expr} {fa : Env → Store → R D} (h : PT X c (tST g E (fT fa))) : PTs X [c] (tST g E (fT fa)) := pts_one h
theorem later_idx {n : Nat} {D : Addr} (l : Later H ρ B H1 ρ1 B1) (h : ρ[n]? = some D) : ρ1[n]? = some D := by
  obtain ⟨e, e1, _⟩ := l.ex
  rw [e1, List.getElem?_append_left (List.getElem?_eq_some_iff.mp h).1]
  exact h
theorem em_lc {elt tg iter : Expr} {ifs : List Expr} {scope : Scope} {own : List (Str × Nat)} {pos : Pos} {fi : Env → Store → R (List D)} {G : D → Env → Store → R Env} {ft : Env → Store → R Bool} {fe : Env → Store → R D} (hc : X.calm = true) (hN : X.N.Nodup) (hi : PI X tg iter (tSI g EW fi)) (ok : BlkOk X.N X.env.scope scope own)
    (hg : ∀ (s : Shared) (H : Hp) (C : Addr) (cl : List (Str × Addr)) (fp : List Addr), PG (X.blk s H scope (compEnvC scope cl C X.env) fp) tg (tSGw g (own.map (·.2)) G)) (ht : ∀ (s : Shared) (H : Hp) (C : Addr) (cl : List (Str × Addr)) (fp : List Addr), PTs (X.blk s H scope (compEnvC scope cl C X.env) fp) ifs (tST g (fun _ _ _ => False) ft))
    (he : ∀ (s : Shared) (H : Hp) (C : Addr) (cl : List (Str × Addr)) (fp : List Addr), PE (X.blk s H scope (compEnvC scope cl C X.env) fp) elt (tS g (fun _ _ _ => False) fe)) (hs : ∀ x, foldedSetIterable iter X.env x = pure x) :
    PE X (.ListComp elt [⟨tg, iter, ifs, 0⟩] scope pos) (tS g EW (fLc (own.map (·.2)) fi G ft fe)) := by
  refine peImp (pe_lc hc hN hi ok hg ht he hs) fun σ H Q ⟨env, st, ρ, B, er, R, h⟩ => ?_
  unfold fLc at h
  generalize own.map (·.2) = vs at h ⊢
  refine ⟨env, st, ρ, B, er, R, seqP h fun xs st1 J H1 ρ1 B1 _ l1 R1 r1 h1 => fun L hL => ?_⟩
  have l0 : Later H1 ρ1 B1 (upd H1 L (.lst [])) (ρ1 ++ [L]) (B1 ++ [L]) := ⟨⟨[L], rfl, rfl, freshL hL⟩, fun a o h _ _ => keepNew hL a o h⟩
  obtain ⟨l2, R2⟩ := R1.push (c := .lst []) hL (keepNew (o := .lst []) hL) (by rw [upd_same]; trivial) ⟨[], upd_same, .nil⟩
  have hi2 : (ρ1 ++ [L])[st1.length]? = some L := by
    rw [← R1.len, List.getElem?_append_right (Nat.le_refl _)]
    simp
  generalize hn : st1.length = n at h1 hi2
  have h2 := Post.later (st1 := st1 ++ [.lst []]) h1 l2 R2
  have er2 := (l2.env R1 (l1.env R er)).wipe vs
  have Wok : ∀ i H', (∃ st' ρ' B', Later H1 ρ1 B1 H' ρ' B' ∧ EnvR g H' ρ' B' (wipeE env vs) (L2.wipe σ vs) ∧ HRep g H' st' ρ' B' ∧ ρ'[n]? = some L ∧ Post g EW (RD g) H' ρ' B' ((lcGo n G ft fe (xs.drop i) (wipeE env vs) st').bind fun _ st2 => .ok (.obj n) st2) Q) →
      True := fun _ _ _ => trivial
  refine ⟨fun i m H' => m = xs.length - i ∧ i ≤ xs.length ∧ ∃ st' ρ' B', Later H1 ρ1 B1 H' ρ' B' ∧ EnvR g H' ρ' B' (wipeE env vs) (L2.wipe σ vs) ∧ HRep g H' st' ρ' B' ∧ ρ'[n]? = some L ∧ Post g EW (RD g) H' ρ' B' ((lcGo n G ft fe (xs.drop i) (wipeE env vs) st').bind fun _ st2 => .ok (.obj n) st2) Q,
    ⟨_, rfl, Nat.zero_le _, _, _, _, l2, er2, R2, hi2, h2⟩, ?_⟩
  rintro i m H3 ⟨rfl, hil, st3, ρ3, B3, l3, er3, R3, hi3, h3⟩
  obtain ⟨g1, g2⟩ := r1 H3 st3 ρ3 B3 l3 R3 i
  by_cases hlt : i < xs.length
  · obtain ⟨go, yl⟩ := g1 hlt
    refine .inr ⟨go, fun H' => ∃ st' ρ' B', Later H1 ρ1 B1 H' ρ' B' ∧ EnvR g H' ρ' B' (wipeE env vs) (L2.wipe σ vs) ∧ HRep g H' st' ρ' B' ∧ ρ'[n]? = some L ∧ Post g EW (RD g) H' ρ' B' ((lcGo n G ft fe (xs.drop (i + 1)) (wipeE env vs) st').bind fun _ st2 => .ok (.obj n) st2) Q,
      fun H' q => ⟨xs.length - (i + 1), by omega, rfl, hlt, q⟩, fun x H4 y => ?_⟩
    obtain ⟨l4, R4, d, hd, rd⟩ := yl x H4 y
    have hdrop : xs.drop i = d :: xs.drop (i + 1) := by
      rw [List.drop_eq_getElem_cons hlt]
      congr 1
      exact (List.getElem?_eq_some_iff.mp hd).2
    rw [hdrop] at h3
    have h4 := Post.later (st1 := st3) h3 l4 R4
    have er4 := l4.env R3 er3
    have l14 := l3.trans (lmut l3 R3) l4
    refine ⟨d, wipeE env vs, st3, ρ3, B3, rd, er4, R4, ?_⟩
    simp only [lcGo] at h4
    cases eG : G d (wipeE env vs) st3 with
    | no => simp only [eG] at h4; exact h4.elim
    | exc c d s => simp only [eG] at h4; exact h4.elim
    | ok env5 st5 =>
      simp only [eG] at h4
      intro σ5 H5 ρ5 B5 l5 R5 er5 hw
      have h5 := Post.later (st1 := st5) h4 l5 R5
      have l15 := l14.trans (lmut l14 R4) l5
      have erw5 := l5.env R4 er4
      rw [Mp.R.bind_assoc] at h5
      refine ⟨by first | exact hw | exact hw.trans (wipe_wipe vs), env5, st5, ρ5, B5, er5, R5, seqN h5 fun b st6 b' H6 ρ6 B6 _ l6 R6 r6 h6 => ?_⟩
      subst r6
      have l16 := l15.trans (lmut l15 R5) l6
      have erw6 := l6.env R5 erw5
      have hi6 := later_idx l6 (later_idx l5 hi3)
      cases b with
      | false =>
        simp only [Bool.false_eq_true, if_false] at h6 ⊢
        exact ⟨st6, ρ6, B6, l16, erw6, R6, hi6, h6⟩
      | true =>
        simp only [if_true] at h6 ⊢
        rw [Mp.R.bind_assoc] at h6
        refine ⟨env5, st6, ρ6, B6, l6.env R5 er5, R6, seqN h6 fun y st7 v H7 ρ7 B7 _ l7 R7 r7 h7 => ?_⟩
        have l17 := l16.trans (lmut l16 R6) l7
        have erw7 := l7.env R6 erw6
        have hi7 := later_idx l7 hi6
        cases eq : st7[n]? with
        | none => simp only [eq] at h7; exact h7.elim
        | some c =>
          cases c with
          | ins c fs => simp only [eq] at h7; exact h7.elim
          | lst acc =>
            simp only [eq] at h7
            by_cases hz : acc.length < sizeLine
            · rw [if_pos hz] at h7
              obtain ⟨a, e1, ws, e2, e3⟩ := R7.cell _ _ eq
              rw [hi7] at e1
              cases e1
              have l8 := R7.laterW (u := .lst (ws ++ [v])) hi7
              have R8 := R7.wr (u := .lst (ws ++ [v])) (c' := .lst (acc ++ [y])) (List.getElem?_eq_some_iff.mp eq).1 hi7 trivial ⟨_, upd_same, l8.rrs R7 (e3.app (.cons r7 .nil))⟩
              exact ⟨ws, e2, by rw [e3.length]; exact hz, _, ρ7, B7, l17.trans (lmut l17 R7) l8, l8.env R7 erw7, R8, hi7, Post.later (st1 := st7.set n (.lst (acc ++ [y]))) h7 l8 R8⟩
            · rw [if_neg hz] at h7; exact h7.elim
  · have e : xs.drop i = [] := List.drop_eq_nil_of_le (by omega)
    rw [e] at h3
    exact .inl ⟨g2 (by omega), h3 (.ref L) H3 ρ3 B3 Later.refl R3 ⟨L, hi3, rfl⟩⟩
end
end Mp
end

section
set_option Elab.async false
set_option linter.all false
set_option maxRecDepth 100000
set_option maxHeartbeats 4000000
/-! M10: comprehensions of two clauses. -/
namespace Mp
open PySem PySem.Spec PyProof.Rows L2
section
variable {g : Gm} {EW : XK} {X : Cx} {H H' H1 : Hp} {st st1 : Store} {ρ B ρ1 B1 : List Addr} {W W' : Ends}
def lcGo2 (n : Nat) (vs1 : List Nat) (G : D → Env → Store → R Env) (ft : Env → Store → R Bool) (fi1 : Env → Store → R (List D)) (G1 : D → Env → Store → R Env) (ft1 : Env → Store → R Bool) (fe : Env → Store → R D) : List D → Env → Store → R Unit
  | [], _, st => .ok () st
  | d :: r, env, st => match G d env st with
    | .ok env1 st1 => (noX (ft env1 st1)).bind fun b st2 => if b then (noX (fi1 env1 st2)).bind fun xs1 st3 => (lcGo n G1 ft1 fe xs1 (wipeE env1 vs1) st3).bind fun _ st4 => lcGo2 n vs1 G ft fi1 G1 ft1 fe r env st4
      else lcGo2 n vs1 G ft fi1 G1 ft1 fe r env st2
    | _ => .no
def fLc2 (vs vs1 : List Nat) (fi : Env → Store → R (List D)) (G : D → Env → Store → R Env) (ft : Env → Store → R Bool) (fi1 : Env → Store → R (List D)) (G1 : D → Env → Store → R Env) (ft1 : Env → Store → R Bool) (fe : Env → Store → R D) : Env → Store → R D := fun env st => (fi env st).bind fun xs st1 =>
  (lcGo2 st1.length vs1 G ft fi1 G1 ft1 fe xs (wipeE env vs) (st1 ++ [.lst []])).bind fun _ st2 => .ok (.obj st1.length) st2
theorem em_lc2 {elt tg iter tg1 iter1 : Expr} {ifs ifs1 : List Expr} {scope : Scope} {own : List (Str × Nat)} {vs1 : List Nat} {pos : Pos} {fi fi1 : Env → Store → R (List D)} {G G1 : D → Env → Store → R Env} {ft ft1 : Env → Store → R Bool} {fe : Env → Store → R D} (hc : X.calm = true) (hN : X.N.Nodup) (hi : PI X tg iter (tSI g EW fi)) (ok : BlkOk X.N X.env.scope scope own) (hv : ∀ i ∈ vs1, i ∈ own.map (·.2))
    (hg : ∀ (s : Shared) (H : Hp) (C : Addr) (cl : List (Str × Addr)) (fp : List Addr), PG (X.blk s H scope (compEnvC scope cl C X.env) fp) tg (tSGw g (own.map (·.2)) G)) (ht : ∀ (s : Shared) (H : Hp) (C : Addr) (cl : List (Str × Addr)) (fp : List Addr), PTs (X.blk s H scope (compEnvC scope cl C X.env) fp) ifs (tST g (fun _ _ _ => False) ft))
    (hi1 : ∀ (s : Shared) (H : Hp) (C : Addr) (cl : List (Str × Addr)) (fp : List Addr), PI (X.blk s H scope (compEnvC scope cl C X.env) fp) tg1 iter1 (tSI g (fun _ _ _ => False) fi1))
    (hg1 : ∀ (s : Shared) (H : Hp) (C : Addr) (cl : List (Str × Addr)) (fp : List Addr), PG (X.blk s H scope (compEnvC scope cl C X.env) fp) tg1 (tSGw g vs1 G1)) (ht1 : ∀ (s : Shared) (H : Hp) (C : Addr) (cl : List (Str × Addr)) (fp : List Addr), PTs (X.blk s H scope (compEnvC scope cl C X.env) fp) ifs1 (tST g (fun _ _ _ => False) ft1))
    (he : ∀ (s : Shared) (H : Hp) (C : Addr) (cl : List (Str × Addr)) (fp : List Addr), PE (X.blk s H scope (compEnvC scope cl C X.env) fp) elt (tS g (fun _ _ _ => False) fe)) (hs : ∀ x, foldedSetIterable iter X.env x = pure x) (hs1 : ∀ env x, foldedSetIterable iter1 env x = pure x) :
    PE X (.ListComp elt [⟨tg, iter, ifs, 0⟩, ⟨tg1, iter1, ifs1, 0⟩] scope pos) (tS g EW (fLc2 (own.map (·.2)) vs1 fi G ft fi1 G1 ft1 fe)) := by
  refine peImp (pe_lc2 hc hN hi ok hv hg ht hi1 hg1 ht1 he hs hs1) fun σ H Q ⟨env, st, ρ, B, er, R, h⟩ => ?_
  unfold fLc2 at h
  generalize own.map (·.2) = vs at h ⊢
  refine ⟨env, st, ρ, B, er, R, seqP h fun xs st1 J H1 ρ1 B1 _ l1 R1 r1 h1 => fun L hL => ?_⟩
  obtain ⟨l2, R2⟩ := R1.push (c := .lst []) hL (keepNew (o := .lst []) hL) (by rw [upd_same]; trivial) ⟨[], upd_same, .nil⟩
  have hi2 : (ρ1 ++ [L])[st1.length]? = some L := by
    rw [← R1.len, List.getElem?_append_right (Nat.le_refl _)]
    simp
  generalize hn : st1.length = n at h1 hi2
  have h2 := Post.later (st1 := st1 ++ [.lst []]) h1 l2 R2
  have er2 := (l2.env R1 (l1.env R er)).wipe vs
  refine ⟨fun i m H' => m = xs.length - i ∧ i ≤ xs.length ∧ ∃ st' ρ' B', Later H1 ρ1 B1 H' ρ' B' ∧ EnvR g H' ρ' B' (wipeE env vs) (L2.wipe σ vs) ∧ HRep g H' st' ρ' B' ∧ ρ'[n]? = some L ∧ Post g EW (RD g) H' ρ' B' ((lcGo2 n vs1 G ft fi1 G1 ft1 fe (xs.drop i) (wipeE env vs) st').bind fun _ st2 => .ok (.obj n) st2) Q,
    ⟨_, rfl, Nat.zero_le _, _, _, _, l2, er2, R2, hi2, h2⟩, ?_⟩
  rintro i m H3 ⟨rfl, hil, st3, ρ3, B3, l3, er3, R3, hi3, h3⟩
  obtain ⟨g1, g2⟩ := r1 H3 st3 ρ3 B3 l3 R3 i
  by_cases hlt : i < xs.length
  · obtain ⟨go, yl⟩ := g1 hlt
    refine .inr ⟨go, fun H' => ∃ st' ρ' B', Later H1 ρ1 B1 H' ρ' B' ∧ EnvR g H' ρ' B' (wipeE env vs) (L2.wipe σ vs) ∧ HRep g H' st' ρ' B' ∧ ρ'[n]? = some L ∧ Post g EW (RD g) H' ρ' B' ((lcGo2 n vs1 G ft fi1 G1 ft1 fe (xs.drop (i + 1)) (wipeE env vs) st').bind fun _ st2 => .ok (.obj n) st2) Q,
      fun H' q => ⟨xs.length - (i + 1), by omega, rfl, hlt, q⟩, fun x H4 y => ?_⟩
    obtain ⟨l4, R4, d, hd, rd⟩ := yl x H4 y
    have hdrop : xs.drop i = d :: xs.drop (i + 1) := by
      rw [List.drop_eq_getElem_cons hlt]
      congr 1
      exact (List.getElem?_eq_some_iff.mp hd).2
    rw [hdrop] at h3
    have h4 := Post.later (st1 := st3) h3 l4 R4
    have er4 := l4.env R3 er3
    have l14 := l3.trans (lmut l3 R3) l4
    refine ⟨d, wipeE env vs, st3, ρ3, B3, rd, er4, R4, ?_⟩
    simp only [lcGo2] at h4
    cases eG : G d (wipeE env vs) st3 with
    | no => simp only [eG] at h4; exact h4.elim
    | exc c d s => simp only [eG] at h4; exact h4.elim
    | ok env5 st5 =>
      simp only [eG] at h4
      intro σ5 H5 ρ5 B5 l5 R5 er5 hw
      have h5 := Post.later (st1 := st5) h4 l5 R5
      have l15 := l14.trans (lmut l14 R4) l5
      have erw5 := l5.env R4 er4
      rw [Mp.R.bind_assoc] at h5
      refine ⟨by first | exact hw | exact hw.trans (wipe_wipe vs), env5, st5, ρ5, B5, er5, R5, seqN h5 fun b st6 b' H6 ρ6 B6 _ l6 R6 r6 h6 => ?_⟩
      subst r6
      have l16 := l15.trans (lmut l15 R5) l6
      have erw6 := l6.env R5 erw5
      have er6 := l6.env R5 er5
      have hi6 := later_idx l6 (later_idx l5 hi3)
      cases b with
      | false =>
        simp only [Bool.false_eq_true, if_false] at h6 ⊢
        exact ⟨st6, ρ6, B6, l16, erw6, R6, hi6, h6⟩
      | true =>
        simp only [if_true] at h6 ⊢
        rw [Mp.R.bind_assoc] at h6
        refine ⟨env5, st6, ρ6, B6, er6, R6, seqN h6 fun xs1 st7 J1 H7 ρ7 B7 _ l7 R7 r7 h7 => ?_⟩
        rw [Mp.R.bind_assoc] at h7
        have l17 := l16.trans (lmut l16 R6) l7
        have erw7 := l7.env R6 erw6
        have er7 := (l7.env R6 er6).wipe vs1
        have hi7 := later_idx l7 hi6
        refine ⟨fun j m H' => m = xs1.length - j ∧ j ≤ xs1.length ∧ ∃ st' ρ' B', Later H7 ρ7 B7 H' ρ' B' ∧ EnvR g H' ρ' B' (wipeE env5 vs1) (L2.wipe σ5 vs1) ∧ EnvR g H' ρ' B' (wipeE env vs) (L2.wipe σ vs) ∧ HRep g H' st' ρ' B' ∧ ρ'[n]? = some L ∧ Post g EW (RD g) H' ρ' B' ((lcGo n G1 ft1 fe (xs1.drop j) (wipeE env5 vs1) st').bind fun _ st4 => (lcGo2 n vs1 G ft fi1 G1 ft1 fe (xs.drop (i + 1)) (wipeE env vs) st4).bind fun _ st2 => .ok (.obj n) st2) Q,
          ⟨_, rfl, Nat.zero_le _, _, _, _, Later.refl, er7, erw7, R7, hi7, h7⟩, ?_⟩
        rintro j m1 H8 ⟨rfl, hjl, st8, ρ8, B8, l8, er8, erw8, R8, hi8, h8⟩
        have l18 := l17.trans (lmut l17 R7) l8
        obtain ⟨k1, k2⟩ := r7 H8 st8 ρ8 B8 l8 R8 j
        by_cases hjt : j < xs1.length
        · obtain ⟨go1, yl1⟩ := k1 hjt
          refine .inr ⟨go1, fun H' => ∃ st' ρ' B', Later H7 ρ7 B7 H' ρ' B' ∧ EnvR g H' ρ' B' (wipeE env5 vs1) (L2.wipe σ5 vs1) ∧ EnvR g H' ρ' B' (wipeE env vs) (L2.wipe σ vs) ∧ HRep g H' st' ρ' B' ∧ ρ'[n]? = some L ∧ Post g EW (RD g) H' ρ' B' ((lcGo n G1 ft1 fe (xs1.drop (j + 1)) (wipeE env5 vs1) st').bind fun _ st4 => (lcGo2 n vs1 G ft fi1 G1 ft1 fe (xs.drop (i + 1)) (wipeE env vs) st4).bind fun _ st2 => .ok (.obj n) st2) Q,
            fun H' q => ⟨xs1.length - (j + 1), by omega, rfl, hjt, q⟩, fun x H9 y => ?_⟩
          obtain ⟨l9, R9, d1, hd1, rd1⟩ := yl1 x H9 y
          have hdrop1 : xs1.drop j = d1 :: xs1.drop (j + 1) := by
            rw [List.drop_eq_getElem_cons hjt]
            congr 1
            exact (List.getElem?_eq_some_iff.mp hd1).2
          rw [hdrop1] at h8
          have h9 := Post.later (st1 := st8) h8 l9 R9
          have er9 := l9.env R8 er8
          have erw9 := l9.env R8 erw8
          have l79 := l8.trans (lmut l8 R8) l9
          refine ⟨d1, wipeE env5 vs1, st8, ρ8, B8, rd1, er9, R9, ?_⟩
          simp only [lcGo] at h9
          cases eG1 : G1 d1 (wipeE env5 vs1) st8 with
          | no => simp only [eG1] at h9; exact h9.elim
          | exc c d s => simp only [eG1] at h9; exact h9.elim
          | ok envA stA =>
            simp only [eG1] at h9
            intro σA HA ρA BA lA RA erA hwA
            have hA := Post.later (st1 := stA) h9 lA RA
            have l7A := l79.trans (lmut l79 R9) lA
            have erwA := lA.env R9 erw9
            have er5A := lA.env R9 er9
            rw [Mp.R.bind_assoc] at hA
            refine ⟨by first | exact hwA | exact hwA.trans (wipe_wipe vs1), envA, stA, ρA, BA, erA, RA, seqN hA fun b stB b' HB ρB BB _ lB RB rB hB => ?_⟩
            subst rB
            have l7B := l7A.trans (lmut l7A RA) lB
            have erwB := lB.env RA erwA
            have er5B := lB.env RA er5A
            have hiB := later_idx lB (later_idx lA hi8)
            cases b with
            | false =>
              simp only [Bool.false_eq_true, if_false] at hB ⊢
              exact ⟨stB, ρB, BB, l7B, er5B, erwB, RB, hiB, hB⟩
            | true =>
              simp only [if_true] at hB ⊢
              rw [Mp.R.bind_assoc] at hB
              refine ⟨envA, stB, ρB, BB, lB.env RA erA, RB, seqN hB fun y stC v HC ρC BC _ lC RC rC hC => ?_⟩
              have l7C := l7B.trans (lmut l7B RB) lC
              have erwC := lC.env RB erwB
              have er5C := lC.env RB er5B
              have hiC := later_idx lC hiB
              cases eq : stC[n]? with
              | none => simp only [eq] at hC; exact hC.elim
              | some c =>
                cases c with
                | ins c fs => simp only [eq] at hC; exact hC.elim
                | lst acc =>
                  simp only [eq] at hC
                  by_cases hz : acc.length < sizeLine
                  · rw [if_pos hz] at hC
                    obtain ⟨a, e1, ws, e2, e3⟩ := RC.cell _ _ eq
                    rw [hiC] at e1
                    cases e1
                    have lD := RC.laterW (u := .lst (ws ++ [v])) hiC
                    have RD' := RC.wr (u := .lst (ws ++ [v])) (c' := .lst (acc ++ [y])) (List.getElem?_eq_some_iff.mp eq).1 hiC trivial ⟨_, upd_same, lD.rrs RC (e3.app (.cons rC .nil))⟩
                    exact ⟨ws, e2, by rw [e3.length]; exact hz, _, ρC, BC, l7C.trans (lmut l7C RC) lD, lD.env RC er5C, lD.env RC erwC, RD', hiC, Post.later (st1 := stC.set n (.lst (acc ++ [y]))) hC lD RD'⟩
                  · rw [if_neg hz] at hC; exact hC.elim
        · have e : xs1.drop j = [] := List.drop_eq_nil_of_le (by omega)
          rw [e] at h8
          exact .inl ⟨k2 (by omega), st8, ρ8, B8, l18, erw8, R8, hi8, h8⟩
  · have e : xs.drop i = [] := List.drop_eq_nil_of_le (by omega)
    rw [e] at h3
    exact .inl ⟨g2 (by omega), h3 (.ref L) H3 ρ3 B3 Later.refl R3 ⟨L, hi3, rfl⟩⟩
end
end Mp
end

section
set_option Elab.async false
set_option linter.all false
set_option maxRecDepth 100000
set_option maxHeartbeats 4000000
/-! M11: an own exception class over ValueError whose __init__ says super().__init__(x); self.f = x. -/
namespace Mp
open PySem PySem.Spec PyProof.Rows L2

/-- ValueError.__init__ bound to the object, called -/
theorem call_mw {prog : Program} {w : World} {A : Around} {E : Value → Shared → Prop} {h : Heap} {g : Array GenState} {d : Drawn} {t : Nat} {os : OsState} {nm q : Str} {C N : Addr} {bs bm : List Value} {hdct : Bool} {sn : List Str} {sub : List Value} {ab : Bool} {col : Option Bool} {dd : Option Addr} {k0 k1 k2 k3 k5 : Option Value}
    {u e t0 : Addr} {rest : List Value} {Q : Value → Shared → Prop}
    (hC : h.get? C = some (excClassObj nm q C N bs bm hdct sn sub ab col dd k0 k1 k2 k3 k5 "ValueError.__new__")) (he : h.get? e = some (HandSPX.excO C t0)) (hu : h.get? u = some (W.kxs_mw "ValueError.__init__" e)) (hrest : rest.length ≤ sizeLine)
    (hq : ∀ h' t1, (∀ b o, b ≠ e → h.get? b = some o → h'.get? b = some o) → h'.get? e = some (HandSPX.excO C t1) → Q .none ⟨h', g, d, t, os⟩) :
    wpAny (model prog w) A (call (.ref u) rest) Q E ⟨h, g, d, t, os⟩ := by
  refine wpAny_call (codeAny_of_tree ?_)
  show wpAny _ A.in1 (callAny (.ref u) ⟨rest, []⟩) _ _ _
  simp only [callAny]
  refine wpAny_bind (wpAny_load hu ?_)
  simp only [W.kxs_mw, show (Value.type "method-wrapper" == Value.type "method" || Value.type "method-wrapper" == Value.type "builtin_function_or_method" || Value.type "method-wrapper" == Value.type "method-wrapper") = true by decide, if_true]
  refine W.KFB.if_so (by decide) ?_
  refine wpAny_bind (W.check_bound_init F.excBase_ValueError.toExcCallFacts hC he rfl ?_)
  refine wpAny_bind (wpAny_pure (wpAny_pure ?_))
  refine ⟨plainId_quiet F.excBase_ValueError.init.plain _, codeAny_builtin F.excBase_ValueError.initEntry ?_⟩
  rw [Around.under_plainId F.excBase_ValueError.init.plain _]
  exact W.exc_init_tree (cls := .ref C) (t0 := t0) (dv := none) (c2 := .none) (c3 := .none) (b4 := .bool false) he hrest fun h' k e' _ => hq h' _ k e'

/-- what the written part says of such a class -/
structure EKF (P : Program) (K : PySem.W.Frag) (C fI : Addr) (qual : Str) (params : Arguments) (body : List Stmt) (scope : Scope) (x f : Str) (fd : FuncData) : Prop where
  fn : ∃ dV kV doc pm an cda ct cc oc od osl, fd = PySem.W.ksFn "__init__" qual params body scope dV kV doc pm an (.ref cda) ct cc ∧ K.lookup fI = some ⟨oc, od, .func fd, osl⟩ ∧ PySem.W.codeIn K (.ref cda) qual = true ∧
    (∃ ccl cdd vs ccs file tf, K.lookup cda = some ⟨ccl, cdd, .fields vs, ccs⟩ ∧ vs[2]? = some (.str file tf) ∧ ((P.main.file : Str) == file) = true) ∧ (∃ cl cld csl, K.lookup cc = some ⟨cl, cld, .cell (some (.ref C)), csl⟩)
  oex : OexC K C
  init : PySem.W.findIn K (.ref C) "__init__" = some (some (.ref fI))
  tI : PySem.W.typeIn K (.ref fI) = some (.type "function")
  cd : ∃ cdD, PySem.W.clsIn K C = some cdD ∧ (W.alongIn K "__init__" ((cdD.mro.dropWhile (· != .ref C)).drop 1) = some (some (.builtin "ValueError.__init__")))
  mro : PySem.W.mroIn K C (.ref C) = some true
  sub : PySem.W.subIn K (.ref C) (.type "ValueError") = some true
  nst : PySem.W.nsIn K PySem.cStatics "thirdparty.any" = some none
  nof : PySem.W.findIn K (.ref C) f = some none
/-- what its text says -/
structure EKS (P : Program) (params : Arguments) (body : List Stmt) (scope : Scope) (x f : Str) : Prop where
  bd : ∃ p0 p1 p2 p3 p4 p5 p6 p7 p8 p9, body = [.Expr (.Call (.Attribute (.Call (.Name "super" p0) [] [] p1) "__init__" p2) [.Name x p3] [] p4) p5, .Assign [.Attribute (.Name "self" p6) f p7] (.Name x p8) p9] ∧ (p2.endLine == p4.line) = true
  hd : (params.posonlyargs ++ params.args).head?.map (·.arg) = some "self"
  kind : scope.kind = .function
  co : scope.isCoroutine = false
  gen : scope.isGenerator = false
  ks : scope.names.lookup ("super" : Str) = some .globalImplicit
  kc : scope.names.lookup ("__class__" : Str) = some .free
  kself : scope.names.lookup ("self" : Str) = some .local
  kx : scope.names.lookup x = some .local
  cells : ∀ y ∈ scope.names, y.2 ≠ .cell ∧ (y.2 = .free → y.1 = "__class__")
  ne : ("self" : Str) ≠ x
  dbg : (x == ("__debug__" : Str)) = false ∧ (x == ("__classdict__" : Str)) = false
  top : (P.main.scope.names.lookup ("super" : Str)).isSome = false

/-- the context of its body -/
def cxK (CX : CXT) (P : Program) (w : World) (K : PySem.W.Frag) (mg : Str → Option Value) (base : Heap) (N : List Str) (qual : Str) (scope : Scope) (f : Addr) (cd : Value) (cc : Addr) (A : Around) (outer : List PySem.Env) (s : Shared) (H : Hp) (E : XK) : Cx where
  prog := P
  w := w
  K := K
  mg := mg
  base := base
  A := A.deeper (PySem.W.ksEnv qual scope s.heap.objs.size f cd cc)
  N := N
  s_0 := s
  H_0 := H
  env := PySem.W.ksEnv qual scope s.heap.objs.size f cd cc
  outer := outer
  stack := PySem.W.ksEnv qual scope s.heap.objs.size f cd cc :: outer
  ex := []
  calm := true
  fn := fun _ => false
  pn := []
  xe := fun e s' => wpAny (model P w) (A.deeper (PySem.W.ksEnv qual scope s.heap.objs.size f cd cc)) (leaving (PySem.W.ksEnv qual scope s.heap.objs.size f cd cc) e) (fun _ s'' => CX outer H s E e s'') (fun e' s'' => CX outer H s E e' s'') s'
theorem lookC {y : Str} {c cc : Addr} (h : ([("__class__", cc)] : List (Str × Addr)).lookup y = some c) : y = "__class__" ∧ c = cc := by
  rw [List.lookup_cons] at h
  split at h
  · rename_i e
    cases h
    exact ⟨by simpa using e, rfl⟩
  · cases h
theorem inv_startK {CX : CXT} {P : Program} {w : World} {K : PySem.W.Frag} {mg : Str → Option Value} {base : Heap} {x f : Str} {qual : Str} {scope : Scope} {fI cc : Addr} {cd D : Value} {A : Around} {outer : List PySem.Env} {s : Shared} {h₀ : Heap} {H : Hp} {E : XK} {u1 u2 : Value} {v1 v2 : V} {params : Arguments} {body : List Stmt}
    (S : EKS P params body scope x f) (hd : A.handled = none) (e0 : Env0 P w K mg base A outer s H) (r1 : RelV v1 u1) (r2 : RelV v2 u2) (hcc : ∃ cl cld csl, K.lookup cc = some ⟨cl, cld, .cell (some D), csl⟩)
    (hns : h₀.Ns s.heap.objs.size (fun y => ([("self", u1), (x, u2)] : List (Str × Value)).reverse.lookup y)) (hk : ∀ b o, s.heap.get? b = some o → h₀.get? b = some o) (tk : Nat) :
    Inv (cxK CX P w K mg base ["self", x] qual scope fI cd cc A outer s H E) [] [some v1, some v2] H { s with heap := h₀, toks := tk } := by
  obtain ⟨cl, cld, csl, hcc⟩ := hcc
  have hb : base.get? cc = some ⟨cl, cld, .cell (some D), csl⟩ := e0.mod.kin _ _ hcc
  obtain ⟨hs, hH⟩ := e0.bs _ _ hb
  have noA : ∀ b : Addr, b ∉ (cxK CX P w K mg base ["self", x] qual scope fI cd cc A outer s H E).ex := fun b z => absurd (show b ∈ ([] : List Addr) from z) (by simp)
  refine ⟨⟨e0.mod, S.kind, rfl, rfl, Nat.le_refl _, fun y z c h1 h2 => ?_, fun y hy => ?_, fun y c q _ => ?_, fun _ => hd, Around.frames_deeper e0.frames, .inr ⟨rfl, rfl⟩, fun b z => absurd z (noA b), e0.bs, e0.bsz, fun b _ _ => noA b, fun b z => absurd z (noA b), e0.funs, e0.frf⟩,
    rfl, e0.bare, Un.kept hk, ⟨_, hns, fun i y v h1 h2 h3 => ?_⟩, fun y c h => ?_, e0.hok.fresh (Nat.le_refl _), fun y c h => ?_, fun p hp => absurd (show p ∈ ([] : List (Addr × Obj)) from hp) (by simp), e0.hok.kept hk, rfl⟩
  · rw [(lookC h1).1, (lookC h2).1]
  · have hy : scope.names.lookup y = some .cell ∨ scope.names.lookup y = some .free := hy
    rcases hy with hy | hy
    · exact absurd rfl (S.cells _ (PySem.mem_of_lookup hy)).1
    · have := (S.cells _ (PySem.mem_of_lookup hy)).2 rfl
      have e : y = "__class__" := this
      subst e
      exact ⟨cc, rfl⟩
  · have q : false = true := q
    cases q
  · match i with
    | 0 =>
      simp at h1 h2
      have e1 : y = "self" := by simpa [cxK] using h1.symm
      subst e1
      subst h2
      refine ⟨u1, r1, .inl ⟨S.kself, ?_⟩⟩
      show List.lookup _ [(x, u2), ("self", u1)] = _
      have : (("self" : Str) == x) = false := by simpa using S.ne
      rw [List.lookup_cons, this, List.lookup_cons]
      simp
    | 1 =>
      simp at h1 h2
      have e1 : y = x := by simpa [cxK] using h1.symm
      subst e1
      subst h2
      refine ⟨u2, r2, .inl ⟨S.kx, ?_⟩⟩
      show List.lookup _ [(y, u2), ("self", u1)] = _
      rw [List.lookup_cons]
      simp
    | i + 2 => simp at h2
  · obtain ⟨_, rfl⟩ := lookC h
    exact ⟨some D, _, hk _ _ hs, rfl⟩
  · obtain ⟨_, rfl⟩ := lookC h
    exact hH
/-- what it promises -/
def spEx (f : Str) : Sp := fun vs H Q _ => ∃ (a C : Addr) (y : V), vs = [.ref a, y] ∧ H a = some (exo a C none) ∧ ∀ dx, H dx = none → dx ≠ a → Q .non (upd (upd H dx (exd dx [(f, y)])) a (exo a C (some dx)))
theorem meth_evalB {o : Expr} {m : Str} {apos pos : Pos} {es : List Expr} {env : PySem.Env} (h : ∀ e ∈ es, ∀ y q, e ≠ .Starred y q) (hl : es.length < 30) (hpos : (apos.endLine == pos.line) = true) :
    eval (.Call (.Attribute o m apos) es [] pos) env = (do
      let ov ← attributeBase o m env (eval o env)
      standAt apos.atName
      let (f, first) ← holding [ov] (getMethod ov m (do return (← importBound o env).getD true))
      callWith pos f first (backTo pos (starEach es env)) []) := by
  show (do
    let ov ← attributeBase o m env (eval o env)
    standAt apos.atName
    methodCall o m apos pos env ov (es.length + ([] : List Keyword).length) (backTo pos (starEach es env)) (backToKw pos (keywordEach [] env))) = _
  have e : ∀ ov, methodCall o m apos pos env ov (es.length + ([] : List Keyword).length) (backTo pos (starEach es env)) (backToKw pos (keywordEach [] env)) = (do
      let (f, first) ← holding [ov] (getMethod ov m (do return (← importBound o env).getD true))
      callWith pos f first (backTo pos (starEach es env)) []) := fun ov => by
    unfold methodCall
    rw [form_plain h hl]
    unfold methodCallPos calleeOf
    rw [if_pos rfl]
    have : (!true || apos.endLine == pos.line) = true := by rw [hpos]; rfl
    rw [if_pos this]
    rfl
  simp only [e]
theorem ok_exinit {P : Program} {w : World} {K : PySem.W.Frag} {mg : Str → Option Value} {base : Heap} {C fI : Addr} {qual : Str} {params : Arguments} {body : List Stmt} {scope : Scope} {x f : Str} {fd : FuncData}
    (F : EKF P K C fI qual params body scope x f fd) (S : EKS P params body scope x f) (hms : mg "super" = none) :
    FnOk P w K mg base (L2.CX P w) 1 fI fd ["self", x] (fun vs H Q E => (∃ (a : Addr) (y : V), vs = [.ref a, y] ∧ H a = some (exo a C none) ∧ ∀ dx, H dx = none → dx ≠ a → Q .non (upd (upd H dx (exd dx [(f, y)])) a (exo a C (some dx))))) := by
  refine ⟨fun vs H Q E ⟨a, y, e, _⟩ => by rw [e]; rfl, fun A outer s H args us vs Q E hr e0 hb r hsp => ?_⟩
  obtain ⟨a, y, rfl, ea, hq⟩ := hsp
  cases r with
  | @cons _ u1 _ ur r1 r' =>
  cases r' with
  | @cons _ u2 _ ur2 r2 r3 =>
  cases r3
  obtain rfl : u1 = Value.ref a := r1
  obtain ⟨dV, kV, doc, pm, an, cda, ct, cc, oc, od, osl, rfl, lk, hcd, ⟨ccl, cdd, vs, ccs, file, tf, lkc, hvs, hfile⟩, hcc⟩ := F.fn
  obtain ⟨p0, p1, p2, p3, p4, p5, p6, p7, p8, p9, rfl, hline⟩ := S.bd
  obtain ⟨cdD, hcls, halong⟩ := F.cd
  have KX : K.In s.heap := e0.mod.kin.keeps fun b o e => (e0.bs b o e).1
  have lim : s.heap.NoLimit := e0.mod.nolimit.keeps fun b o e => (e0.bs b o e).1
  refine ks_codeAny_call_defAt (fd := PySem.W.ksFn "__init__" qual params _ scope dV kV doc pm an (.ref cda) ct cc) (binds := [("self", .ref a), (x, u2)]) hr.depth (KX _ _ lk) rfl lim (PySem.W.codeRec_of KX hcd) rfl hb (fun y hy => (S.cells y hy).1) (fun y hy => ?_) (fun h₀ hns hk => ?_) S.co S.gen S.kind
  · rcases List.mem_cons.mp hy with rfl | hy
    · exact S.kself
    · rcases List.mem_cons.mp hy with rfl | hy
      · exact S.kx
      · cases hy
  have I := inv_startK (CX := L2.CX P w) (E := E) (qual := qual) (fI := fI) (cd := .ref cda) S hr.hd e0 (v1 := .ref a) (u1 := .ref a) rfl r2 hcc hns hk (s.toks + 2)
  obtain ⟨cl, cld, csl, hcc⟩ := hcc
  have kX : K.In h₀ := KX.keeps hk
  have lk1 := kX _ _ lk
  have hcls' := hcls
  obtain ⟨oD, hD1, hD2⟩ : ∃ oD, h₀.get? C = some oD ∧ oD.data = .cls cdD := by
    unfold PySem.W.clsIn at hcls'
    split at hcls'
    · rename_i c d cd' sl ho
      cases hcls'
      exact ⟨_, kX _ _ ho, rfl⟩
    · cases hcls'
  obtain ⟨t1, hea⟩ := exo_at I.hok ea
  have hea : h₀.get? a = some ({ cls := .ref C, dict := none, data := .fields #[.ref t1, .none, .none, .none, .bool false, .none] } : Obj) := hea
  have haC : a ≠ C := fun z => by
    rw [z, hD1] at hea
    cases hea
    cases hD2
  obtain ⟨mb, hmb, hbt⟩ := e0.mod.blt
  have kb : ∀ b o, base.get? b = some o → h₀.get? b = some o := fun b o e => hk b o (e0.bs b o e).1
  have hst : ∀ e' ∈ [Expr.Name x p3], ∀ y q, e' ≠ .Starred y q := fun e' he y q z => by
    rw [List.mem_singleton] at he
    rw [he] at z
    cases z
  refine ks_wpAt_execs_cons (ks_wpAt_Expr_any (ks_wpAt_MethodCall ?_ (meth_evalB hst (by simp) hline)) I.quiet rfl)
  obtain ⟨ar, har, harg⟩ := Option.map_eq_some_iff.mp S.hd
  have hself : (([("self", .ref a), (x, u2)] : List (Str × Value)).reverse.lookup ("self" : Str)) = some (.ref a) := by
    show List.lookup _ [(x, u2), ("self", Value.ref a)] = _
    have : (("self" : Str) == x) = false := by simpa using S.ne
    rw [List.lookup_cons, this, List.lookup_cons]
    simp
  have hgiven : (([("self", .ref a), (x, u2)] : List (Str × Value)).reverse.lookup x) = some u2 := by
    show List.lookup _ [(x, u2), ("self", Value.ref a)] = _
    rw [List.lookup_cons]
    simp
  refine ks_wpAt_super_base (env := PySem.W.ksEnv qual scope s.heap.objs.size fI (.ref cda) cc) S.ks S.kc (by decide) rfl lk1 rfl har rfl (kX _ _ lkc) rfl hvs hfile S.top ?_
  refine PySem.W.ks_loadName_global S.kind S.ks (Calls.loadGlobal_builtin (env := PySem.W.ksEnv qual scope s.heap.objs.size fI (.ref cda) cc) (e0.mod.glob.keeps kb) hms (hmb.keeps kb) ((hbt _ (by decide)).trans PyProof.Rows.Boot.super) ⟨rfl, ?_⟩)
  refine wpAny_loadName_free S.kind S.kc rfl ⟨_, kX _ _ hcc, rfl⟩ ?_
  rw [harg]
  refine wpAny_loadName_local S.kind S.kself hns hself ?_
  refine ks_wpAny_isType_cls hD1 hD2 ⟨rfl, ?_⟩
  refine ks_wpAny_call_super hD1 hD2 hea rfl (fun c e => by cases e) (PySem.W.looks_mroIn kX F.mro) (fun h1 e1 k1 => ?_)
  have kX1 : K.In h1 := kX.keeps k1
  refine PySem.W.kxs_getMethod PySem.W.kxs_ValueError e1 (PySem.W.looks_opaque kX1 F.nst) (l₀ := cdD.mro) (fun A Q E s k q => wpAny_bind ((PySem.W.looks_clsIn kX1 hcls) A _ E s k (wpAny_pure q))) rfl kX1 halong ?_ haC (by decide) ?_
  · exact (PySem.W.Looks.ld (k1 _ _ hea)).andThen (PySem.W.looks_subIn kX1 F.sub)
  have hC0 := F.oex.cls
  obtain ⟨nm, qc, NC, bs, bm, sn, sub, ab, col, dd, k0, k1', k2, k3, k5, hC, hbm⟩ := hC0
  have k2' : ∀ b o, h1.get? b = some o → (h1.push (PySem.W.kxs_mw "ValueError.__init__" a)).get? b = some o := fun b o e => Heap.get?_push_of_some _ e
  have hns1 : h1.Ns s.heap.objs.size (fun y => ([("self", Value.ref a), (x, u2)] : List (Str × Value)).reverse.lookup y) := hns.keeps k1
  have hns2 := hns1.keeps k2'
  have hse : starEach [.Name x p3] (PySem.W.ksEnv qual scope s.heap.objs.size fI (.ref cda) cc) = [(false, eval (.Name x p3) (PySem.W.ksEnv qual scope s.heap.objs.size fI (.ref cda) cc))] := starEach_plain (hst _ (by simp))
  have hmw : (h1.push (PySem.W.kxs_mw "ValueError.__init__" a)).get? h1.objs.size = some (PySem.W.kxs_mw "ValueError.__init__" a) := Heap.get?_push_size _ rfl
  show wpAny _ _ (callWith p4 (.ref h1.objs.size) [] (backTo p4 (starEach [.Name x p3] (PySem.W.ksEnv qual scope s.heap.objs.size fI (.ref cda) cc))) []) _ _ _
  rw [hse]
  refine PySem.W.kxs_callWith (u := h1.objs.size) (i := "ValueError.__init__") (x := a) rfl (Calls.evalArgs_plain ?_)
  refine Calls.spliced_cons (PySem.ESX.ldL (m := fun y => ([("self", Value.ref a), (x, u2)] : List (Str × Value)).reverse.lookup y) hns2 hgiven ?_ S.kind S.kx S.dbg.1)
  refine Calls.spliced_nil ⟨hmw, ?_⟩
  show wpAny _ _ (call (.ref h1.objs.size) [u2]) _ _ _
  refine call_mw (C := C) (e := a) (t0 := t1) (k2' _ _ (k1 _ _ (kX _ _ hC))) (k2' _ _ (k1 _ _ hea)) hmw (by show 1 ≤ sizeLine; decide) fun h3 t3 k3' hx3 => ?_
  -- the second statement
  have I1 := I.kept (t' := s.toks + 2) (h' := h1) k1
  have I2 := I1.kept (t' := s.toks + 2) (h' := h1.push (PySem.W.kxs_mw "ValueError.__init__" a)) k2'
  have J := I2.write (t' := s.toks + 2 + 1) (h' := h3) (x := a) (e := a) (o := exo a C none) (by rw [ea]; exact True.intro) (.inl rfl) k3' ⟨_, hx3⟩ (exo_ok hx3)
  have eu : upd H a (exo a C none) = H := by
    funext b
    by_cases hb : b = a
    · rw [hb, upd_same, ea]
    · rw [upd_ne hb]
  rw [eu] at J
  refine wpAt_of_wpAny ?_
  have PSt := pss_one (ps_ost (X := cxK (L2.CX P w) P w K mg base ["self", x] qual scope fI (.ref cda) cc A outer s H E) (o := .Name "self" p6) (e := .Name x p8) (f := f) (p' := p7) (pos := p9) (to := tVar 0) (te := tVar 1) (pe_var (i := 0) rfl (.inl S.kself) (by decide) (by decide)) (pe_var (i := 1) rfl (.inl S.kx) S.dbg.1 S.dbg.2))
  refine wpAny_mono (PSt.run [] _ [some (.ref a), some y] H { nx := fun _ H' => Q .non H', rt := fun _ _ => False } J ⟨y, rfl, .ref a, rfl, a, C, rfl, F.oex, F.nof, .inl ⟨ea, fun dx h1 h2 => hq dx h1 h2⟩⟩) (fun fl s' hs => ?_) fun e s' hs => hs
  cases fl with
  | next =>
    obtain ⟨σ', H', J', q⟩ := hs
    exact ⟨.non, H', J'.os, J'.bare, J'.base, J'.hok, rfl, q⟩
  | ret u =>
    obtain ⟨_, _, _, _, _, q⟩ := hs
    exact q.elim
  | brk =>
    obtain ⟨_, _, _, q⟩ := hs
    exact q.elim
  | cont =>
    obtain ⟨_, _, _, q⟩ := hs
    exact q.elim
end Mp
end

section
set_option Elab.async false
set_option linter.all false
set_option maxRecDepth 100000
set_option maxHeartbeats 4000000
/-! M12: raise; isinstance of a caught error that has a dict; a call that is tried through a lambda. -/
namespace Mp
open PySem PySem.Spec PyProof.Rows L2

/-! ### raise C(e) -/
section
variable {g : Gm} {EW : XK} {X : Cx} {H H' : Hp} {st st1 : Store} {ρ B : List Addr}
def sRaise (c : Nat) (fe : Env → Store → R D) : SM := fun env st => (fe env st).bind fun d st1 => match d with
  | .p d => .exc c d st1
  | _ => .no
def spExC (C : Addr) (f : Str) : Sp := fun vs H Q E => (∃ (a : Addr) (y : V), vs = [.ref a, y] ∧ H a = some (exo a C none) ∧ ∀ dx, H dx = none → dx ≠ a → Q .non (upd (upd H dx (exd dx [(f, y)])) a (exo a C (some dx))))
theorem es_raise {c : Nat} {f x z : Str} {fI : Addr} {fd : FuncData} {e : Expr} {p pos pos' : Pos} {fe : Env → Store → R D} (hc : X.calm = true) (tk : Takes X (fun c d _ H => EW c d H)) (hx : g.xat c = some f) (T : OexC X.K (g.cad c)) (iC : PySem.W.findIn X.K (.ref (g.cad c)) "__init__" = some (some (.ref fI))) (tI : PySem.W.typeIn X.K (.ref fI) = some (.type "function"))
    (F1 : FnOk X.prog X.w X.K X.mg X.base (L2.CX X.prog X.w) 1 fI fd ["self", z] (spExC (g.cad c) f)) (hr : Room 2 X.A) (hb : Binds X.K fd ["self", z] []) (hg : Gl X x) (hm : X.mg x = some (.ref (g.cad c))) (he : PE X e (tS g EW fe)) (hdb : (x == ("__debug__" : Str)) = false) (hst : ∀ y q, e ≠ .Starred y q) :
    PS X (.Raise (some (.Call (.Name x p) [e] [] pos)) none pos') (tSS g EW (sRaise c fe)) := by
  have hs : starEach [e] X.env = (false, eval e X.env) :: starEach [] X.env := starEach_plain hst
  refine psImp (ps_raise (W := fun c d _ H => EW c d H) hc tk (pmk_oex (k := 1) T iC tI F1 hr hb .nil (passes_call tk fun _ _ _ _ h => False.elim h) hg hm (pa_cons he pa_nil hs) hdb hs (by rfl))) fun W σ H ⟨env, st, ρ, B, er, R, h⟩ => ?_
  unfold sRaise at h
  refine ⟨env, st, ρ, B, er, R, seqF h fun d st1 v H1 ρ1 B1 _ l1 R1 r1 h1 => ?_⟩
  cases d with
  | obj n => exact h1.elim
  | p d =>
    refine ⟨by simp, fun a ha => ⟨a, v, rfl, upd_same, fun dx hdx hne => ⟨rfl, dx, [(f, v)], upd_same, ?_, ?_, ?_⟩⟩⟩
    · rw [upd_ne hne, upd_same]
    · rw [upd_ne hne] at hdx; exact hdx
    · have hdx1 : H1 dx = none := by rw [upd_ne hne] at hdx; exact hdx
      have eH : upd (del (upd (upd (upd H1 a (exo a (g.cad c) none)) dx (exd dx [(f, v)])) a (exo a (g.cad c) (some dx))) a) dx (.xd [(f, v)]) = upd H1 dx (.xd [(f, v)]) := by
        funext b
        by_cases hb : b = dx
        · subst hb; rw [upd_same, upd_same]
        · rw [upd_ne hb, upd_ne hb]
          by_cases hba : b = a
          · subst hba; rw [del_same, ha]
          · rw [del_ne hba, upd_ne hba, upd_ne hb, upd_ne hba]
      rw [eH]
      have l2 : Later H1 ρ1 B1 (upd H1 dx (.xd [(f, v)])) ρ1 B1 := sameLater (keepNew hdx1)
      refine h1 (.ref (g.cad c)) (some dx) _ ρ1 B1 l2 (R1.same (keepNew hdx1)) ⟨rfl, ?_⟩
      rw [hx]
      exact ⟨dx, v, rfl, upd_same, l2.dq R1 r1⟩
end

/-! ### isinstance of a caught error that has a dict -/
theorem findObj_dataD {K : PySem.W.Frag} {C : Addr} {od : Option Obj} {name : Str} {a g : Value} (hc : (PySem.W.clsIn K C).isSome = true) (ha : PySem.W.findIn K (.ref C) name = some (some a)) (hg : PySem.W.specialIn K a "__get__" = some (some g)) (ht : PySem.W.takesIn K a = some true) : PySem.W.findObj K C od name = some (.bind g a) := by
  obtain ⟨cd, hc⟩ := Option.isSome_iff_exists.mp hc
  unfold PySem.W.findObj
  rw [hc, Option.bind_some, ha, Option.bind_some]
  simp [hg, ht]
section
open PySem.W
variable {prog : Program} {w : World} {A : Around} {E : Value → Shared → Prop} {s : Shared} {K : Frag} {x D : Addr} {ox : Obj} {od : Option Obj}
theorem kin_classD {Q : Option Value → Shared → Prop} (C : ExcC K D) (X : K.In s.heap) (I : InstAt s.heap x ox D od) (h : Q (some (.ref D)) { s with toks := s.toks + 1 }) : wpAny (model prog w) A (getAttr? (.ref x) "__class__") Q E s := by
  have hf : findObj K D od "__class__" = some (.bind (.builtin "getset_descriptor.__get__") (.builtin "object.__class__")) := findObj_dataD (by obtain ⟨cd, hc, _⟩ := any_some C.hd; rw [hc]; rfl) C.ha C.hn C.ht
  obtain ⟨hp, g, d, t, os⟩ := s
  have L0 := I.type (M := model prog w)
  have L1 := looks_findIn (M := model prog w) X C.hg
  have L2 := looks_findIn (M := model prog w) X C.hk
  have L3 := looks_find (M := model prog w) X I hf
  have sub : Looks (model prog w) hp (isInstance (.ref x) (.type "BaseException")) true := L0.andThen (looks_subIn X C.hs)
  have hx0 : (false && onTheHeap (Value.builtin "BaseException.__getattribute__")) = false := rfl
  have hx2 : (Value.builtin "BaseException.__getattribute__" == Value.builtin "object.__getattribute__") = false := by decide +kernel
  have hx1 : (onTheHeap (Value.ref D) && Value.builtin "BaseException.__getattribute__" == Value.builtin "object.__getattribute__") = false := by rw [hx2]; rfl
  unfold getAttr? getAttrBy? getAttrBy
  refine wpAny_bind (wpAny_mkText (wpAny_bind (wpAny_attempt (wpAny_holding (wpAny_bind (L0.at (wpAny_bind (L1.at ?_))))))))
  show wpAny _ _ (if (onTheHeap (Value.ref D) && Value.builtin "BaseException.__getattribute__" == Value.builtin "object.__getattribute__") = true then _ else _) _ _ _
  rw [hx1, if_neg Bool.false_ne_true]
  unfold getAttrByItsOwn hookBefore
  refine wpAny_bind ?_
  rw [if_pos (show onTheHeap (Value.ref D) = true from rfl)]
  refine L2.at ?_
  refine wpAny_bind (wpAny_attempt (wpAny_holding ?_))
  unfold callGetattribute
  rw [hx0, if_neg Bool.false_ne_true]
  unfold boundAndCalled
  rw [PySem.F.excAttr_ValueError.ga.bind (.ref x)]
  refine wpAny_bind (wpAny_pure ?_)
  show wpAny _ _ (call (.builtin "BaseException.__getattribute__") [.ref x, .str "__class__" t]) _ _ _
  refine wpAny_call (codeAny_call_builtin PySem.F.excAttr_ValueError.ga.plain PySem.F.entry_bexc_ga ?_)
  refine @check_slot (model prog w) _ _ ⟨hp, g, d, t + 1, os⟩ "BaseException.__getattribute__" "BaseException" "__getattribute__" (.ref x) [.str "__class__" t] [] _ (by decide +kernel) (by decide +kernel) sub (PySem.F.args_bexc_ga (.ref x) (.str "__class__" t)) ?_
  unfold Builtin.«object.__getattribute__»
  refine wpAny_bind (wpAny_of_eq (a := ((Value.ref x : Value), [Value.str "__class__" t])) (by first | rfl | (simp only [slotArgs]; rfl)) ?_)
  refine wpAny_bind (wpAny_pure (wpAny_bind (L0.at (wpAny_bind (L3.at ?_)))))
  show wpAny _ _ (holding [Value.builtin "object.__class__"] (call (.builtin "getset_descriptor.__get__") [.builtin "object.__class__", .ref x, .ref D]) >>= ret) _ _ _
  refine wpAny_bind (wpAny_holding (wpAny_call (class_get (s := ⟨hp, g, d, t + 1, os⟩) (ox := ox) (od := od) X I C.hm ?_)))
  refine wpAny_pure ?_
  show wpAny _ _ (handedOut (.ref D)) _ _ _
  rw [handedOut_of (v := .ref D) rfl]
  first
    | exact wpAny_pure (wpAny_pure h)
    | exact wpAny_pure h
    | exact wpAny_pure (wpAny_bind (wpAny_pure (wpAny_pure h)))
theorem kitx_excD (C : ExcC K D) : KitX K (.ref x) (.ref D) (fun h => InstAt h x ox D od) where
  ty := fun _ _ _ I => I.type
  it := fun _ _ X _ => by
    obtain ⟨cdD, hcD, _⟩ := any_some C.hd
    unfold clsIn at hcD
    split at hcD
    · rename_i c' d' cd' sl' ho
      intro A' Q' E' s' k q
      unfold isType loadHead
      exact wpAny_bind (wpAny_loadPart (k _ _ (X _ _ ho)) (wpAny_pure q))
    · cases hcD
  ne := fun h tp dd its n sl X htp => by
    obtain ⟨cdD, hcD, _⟩ := any_some C.hd
    refine Bool.eq_false_iff.mpr fun q => ?_
    have e : D = tp := Value.ref.inj (beq_iff_eq.mp q)
    subst e
    unfold clsIn at hcD
    split at hcD
    · rename_i c' d' cd' sl' ho
      have z := (X _ _ ho).symm.trans htp
      cases z
    · cases hcD
  ca := fun X I k => kin_classD C X I k
end
/-- isinstance(e, C'), e the exception of the suite -/
def rIsX (K : PySem.W.Frag) (a : Addr) (cls : Value) (d : Option Addr) : List V → Hp → VK → Prop := fun xs H Q => ∃ (D dd C' : Addr) (fs : List (Str × V)) (b : Bool), xs = [.ref a, .ref C'] ∧ cls = .ref D ∧ d = some dd ∧ ExcC K D ∧ H dd = some (.xd fs) ∧ PySem.W.kitOne K (.ref D) (.ref C') = some b ∧ Q (.bl b) H
theorem call_isX {X : Cx} {a : Addr} {cls : Value} {d : Option Addr} {oe : Obj} {pn : List (Addr × Obj)} (hz : Zc cls d oe) (hf : ∃ vs, oe.data = .fields vs) : CallR (X.suite a ((a, oe) :: pn)) (.builtin "isinstance") (rIsX X.K a cls d) := by
  intro pins s σ H xs us Q I r h
  obtain ⟨D, dd, C', fs, b, rfl, rfl, rfl, C, ea, e, q⟩ := h
  cases r with
  | cons rx rr =>
    cases rr with
    | cons rt rr =>
      cases rr
      cases rx
      rename_i uy
      obtain rfl : uy = Value.ref C' := rt
      obtain ⟨hget, _⟩ := I.pin (a, oe) (List.mem_append.mpr (.inl List.mem_cons_self))
      obtain ⟨vs, hv⟩ := hf
      have hx : ObjOk X.prog X.w H s.heap dd (.xd fs) := I.hok dd _ ea
      obtain ⟨mA, hns, hr⟩ := hx
      obtain ⟨od, ho, hl⟩ := lookIn_ns hns
      have J : PySem.W.InstAt s.heap a oe D (some od) := ⟨hget, hz.1, by unfold PySem.W.notCls; rw [hv] <;> rfl, by rw [hz.2]; exact ho⟩
      exact PySem.W.kia_one (kitx_excD C) I.kIn J e (fun z => nomatch z) fun tk => ⟨.bl b, H, I.kept (t' := tk) fun _ _ z => z, rfl, q⟩
/-- e.f -/
def tXg (K : PySem.W.Frag) (a : Addr) (cls : Value) (d : Option Addr) (f : Str) (te : TE) : TE := fun σ H Q => te σ H fun x H1 => x = .ref a ∧ ∃ (C dd : Addr) (fs : List (Str × V)) (v : V), cls = .ref C ∧ XfC K C ∧ PySem.W.findIn K (.ref C) f = some none ∧ d = some dd ∧ H1 dd = some (.xd fs) ∧ fs.lookup f = some v ∧ Q v H1
theorem pe_xg {X : Cx} {a : Addr} {oe : Obj} {cls : Value} {d : Option Addr} {pn : List (Addr × Obj)} {e : Expr} {te : TE} {pos : Pos} {n : Str} (hz : Zc cls d oe) (hf : ∃ vs, oe.data = .fields vs) (he : PE (X.suite a ((a, oe) :: pn)) e te) (hb : attributeBase e n X.env (eval e X.env) = eval e X.env) :
    PE (X.suite a ((a, oe) :: pn)) (.Attribute e n pos) (tXg X.K a cls d n te) := by
  refine ⟨fun pins s σ H Q I h => ?_⟩
  refine attr_of hb (thn (he.run pins s σ H _ I h) fun u s1 hh => ?_)
  obtain ⟨x, H1, I1, rx, ex, C, dd, fs, v, ec, T, hno, ed, ea, l, q⟩ := hh
  subst ex
  obtain rfl : u = Value.ref a := rx
  subst ec
  subst ed
  obtain ⟨ha, _⟩ := I1.pin (a, oe) (List.mem_append_left _ List.mem_cons_self)
  obtain ⟨vs, hd⟩ := hf
  have hx : ObjOk X.prog X.w H1 s1.heap dd (.xd fs) := I1.hok dd _ ea
  obtain ⟨mA, hns, hr⟩ := hx
  obtain ⟨od, ho, hl⟩ := lookIn_ns hns
  obtain ⟨u, hu, ru⟩ := RelO.some_of (v := v) (o := mA n) (by rw [← l]; exact hr n)
  have J : PySem.W.InstAt s1.heap a oe C (some od) := ⟨ha, hz.1, by unfold PySem.W.notCls; rw [hd] <;> rfl, by rw [hz.2]; exact ho⟩
  exact HandSPX.exc_get I1.kIn J T.ga T.gg T.exC (PySem.W.findObj_own T.hdC hno rfl (by rw [hl, hu])) (handed_of ru) ⟨v, H1, I1.tok _, ru, q⟩
/-- l.count(x) -/
def rCntD (K : PySem.W.Frag) : V → List V → Hp → VK → Prop := fun x xs H Q => ∃ (a : Addr) (y : V) (d : PyData) (ds : List PyData), x = V.ref a ∧ xs = [y] ∧ Dp K H (V.ref a) (.list ds) ∧ Dp K H y d ∧ PyData.plainAll ds = true ∧ d.plain = true ∧ PyData.depthAll ds ≤ 60 ∧ Q (.int ((ds.countP fun y => PyData.eqv y d : Nat) : Int)) H
theorem mt_cntD {X : Cx} (hu : X.A.units + 65 < cLine) : MtR X "list.count" (rCntD X.K) := by
  intro pins s σ H x xs v us Q I rx rxs h
  obtain ⟨a, y, d, ds, rfl, rfl, hl, hy, pl, pd, hdp, q⟩ := h
  cases rx
  cases rxs with
  | cons ry rt =>
    rename_i uy ut
    cases rt
    obtain ⟨bs, r1⟩ := Dp.reads I d y uy hy ry
    cases hl with
    | lst hs ha =>
      obtain ⟨its, rv, p, hlen⟩ := I.list hs
      obtain ⟨as, h4⟩ := Dp.readsAll I ds _ its ha rv
      refine PySem.SeqAt.count_list_data p.isList (by simpa using h4) r1 pl pd (by omega) ?_
      exact ⟨.int _, H, I.tok _, ⟨_, rfl⟩, q⟩
end Mp
end

section
set_option Elab.async false
set_option linter.all false
set_option maxRecDepth 100000
set_option maxHeartbeats 4000000
/-! M13: _law_ended(lambda: e): what e comes to, or the error it ends by. -/
namespace Mp
open PySem PySem.Spec PyProof.Rows L2 LamX

/-- the error classes by their names: which answers "text" and which other -/
structure EndC (K : PySem.W.Frag) (mg : Str → Option Value) (CB C0 C1 C2 C3 C4 : Addr) : Prop where
  g : mg "DigitError" = some (.ref CB) ∧ mg "InvalidText" = some (.ref C0) ∧ mg "InvalidDecimal" = some (.ref C1) ∧ mg "InvalidExpression" = some (.ref C2) ∧ mg "InvalidFraction" = some (.ref C3) ∧ mg "InvalidNumber" = some (.ref C4)
  e : ∀ C ∈ [C0, C1, C2, C3, C4], ExcC K C ∧ XfC K C ∧ PySem.W.exmOne K (.ref C) (.ref CB) = some true
  i : ∀ C ∈ [C0, C1, C2, C3, C4], ∀ D ∈ [C0, C1, C2, C3, C4], PySem.W.kitOne K (.ref C) (.ref D) = some (decide (C = D))
  nd : [C0, C1, C2, C3, C4].Nodup
  f0 : PySem.W.findIn K (.ref C0) "index" = some none
  f1 : ∀ C ∈ [C1, C2, C3, C4], PySem.W.findIn K (.ref C) "given" = some none
/-- what the answer is to be -/
def ansW (nm : Str) (v : V) (H : Hp) (Q : VK) : Prop := ∀ (H' : Hp) (p : Addr), (∀ b o, H b = some o → H' b = some o) → H p = none → H' p = some (.lst [.str nm, v]) → Q (.ref p) H'
def isX (K : PySem.W.Frag) (a : Addr) (cls : Value) (d : Option Addr) (C : Addr) : TE := tCB (rIsX K a cls d) (tCons (tVar 1) (tCons (tC (.ref C)) tNil))
theorem isX_ok {K : PySem.W.Frag} {a dd D C : Addr} {fs : List (Str × V)} {b : Bool} {σ : L2.St} {H : Hp} {Q : VK} (hσ : σ[1]? = some (some (.ref a))) (E : ExcC K D) (hd : H dd = some (.xd fs)) (hk : PySem.W.kitOne K (.ref D) (.ref C) = some b) (q : Q (.bl b) H) : isX K a (.ref D) (some dd) C σ H Q :=
  ⟨.ref a, hσ, D, dd, C, fs, b, rfl, rfl, rfl, E, hd, hk, q⟩
/-- the suite -/
def tSuite (K : PySem.W.Frag) (C0 C1 C2 C3 C4 : Addr) (a : Addr) (cls : Value) (d : Option Addr) : TS :=
  tSeq (tIfS (tB (isX K a cls d C0)) (tRet (tLst (tCons (tC (.str "text")) (tCons (tXg K a cls d "index" (tVar 1)) tNil)))) tNext)
    (tSeq (tAsg (tLst (tCons (isX K a cls d C1) (tCons (isX K a cls d C2) tNil))) (gName 2))
      (tSeq (tAsg (tOp rCat (tVar 2) (tLst (tCons (isX K a cls d C3) (tCons (isX K a cls d C4) tNil)))) (gName 2))
        (tSeq (tIfS (tB (tOp rNe (tBM K "list" (rCntD K) (tVar 2) (tCons (tC (.bl true)) tNil)) (tC (.int 1)))) tNever tNext)
          (tRet (tLst (tCons (tOp (rIx K) (tLst (tCons (tC (.str "decimal")) (tCons (tC (.str "expression")) (tCons (tC (.str "fraction")) (tCons (tC (.str "number")) tNil))))) (tBM K "list" (rIndexD K) (tVar 2) (tCons (tC (.bl true)) tNil))) (tCons (tXg K a cls d "given" (tVar 1)) tNil)))))))
section
variable {K : PySem.W.Frag} {C0 C1 C2 C3 C4 a dd D : Addr} {fs : List (Str × V)} {v : V} {σ : L2.St} {H : Hp} {W : Ends}
theorem suite_text (hσ : σ[1]? = some (some (.ref a))) (E : ExcC K D) (T : XfC K D) (hf : PySem.W.findIn K (.ref D) "index" = some none) (hd : H dd = some (.xd fs)) (hl : fs.lookup ("index" : Str) = some v) (k0 : PySem.W.kitOne K (.ref D) (.ref C0) = some true) (hQ : ansW "text" v H W.rt) :
    tSuite K C0 C1 C2 C3 C4 a (.ref D) (some dd) W σ H := by
  refine isX_ok hσ E hd k0 ⟨true, rfl, iteT ?_⟩
  refine ⟨.ref a, hσ, rfl, D, dd, fs, v, rfl, T, hf, rfl, hd, hl, by show 2 ≤ sizeLine; decide, fun p hp => ?_⟩
  exact hQ _ p (keepNew hp) hp upd_same
theorem suite_given {b1 b2 b3 b4 : Bool} {nm : Str} (hσ : σ[1]? = some (some (.ref a))) (hlen : σ.length = 3) (E : ExcC K D) (T : XfC K D) (hf : PySem.W.findIn K (.ref D) "given" = some none) (hd : H dd = some (.xd fs)) (hl : fs.lookup ("given" : Str) = some v)
    (k0 : PySem.W.kitOne K (.ref D) (.ref C0) = some false) (k1 : PySem.W.kitOne K (.ref D) (.ref C1) = some b1) (k2 : PySem.W.kitOne K (.ref D) (.ref C2) = some b2) (k3 : PySem.W.kitOne K (.ref D) (.ref C3) = some b3) (k4 : PySem.W.kitOne K (.ref D) (.ref C4) = some b4)
    (hb : (b1 = true ∧ b2 = false ∧ b3 = false ∧ b4 = false ∧ nm = "decimal") ∨ (b1 = false ∧ b2 = true ∧ b3 = false ∧ b4 = false ∧ nm = "expression") ∨ (b1 = false ∧ b2 = false ∧ b3 = true ∧ b4 = false ∧ nm = "fraction") ∨ (b1 = false ∧ b2 = false ∧ b3 = false ∧ b4 = true ∧ nm = "number")) (hQ : ansW nm v H W.rt) :
    tSuite K C0 C1 C2 C3 C4 a (.ref D) (some dd) W σ H := by
  refine isX_ok hσ E hd k0 ⟨false, rfl, iteF ?_⟩
  refine isX_ok hσ E hd k1 (isX_ok hσ E hd k2 ⟨by show 2 ≤ sizeLine; decide, fun p1 hp1 => ?_⟩)
  have s2 : (σ.set 2 (some (.ref p1)))[1]? = some (some (.ref a)) := by rw [List.getElem?_set_ne (by decide)]; exact hσ
  have s22 : (σ.set 2 (some (.ref p1)))[2]? = some (some (.ref p1)) := List.getElem?_set_self (by omega)
  have kp1 := keepNew (o := .lst [.bl b1, .bl b2]) hp1
  have hd2 := kp1 _ _ hd
  refine ⟨.ref p1, s22, isX_ok s2 E hd2 k3 (isX_ok s2 E hd2 k4 ⟨by show 2 ≤ sizeLine; decide, fun p2 hp2 => ?_⟩)⟩
  have kp2 := keepNew (o := .lst [.bl b3, .bl b4]) hp2
  refine ⟨p1, p2, [.bl b1, .bl b2], [.bl b3, .bl b4], rfl, rfl, kp2 _ _ upd_same, upd_same, by show 4 ≤ sizeLine; decide, fun p3 hp3 => ?_⟩
  have kp3 := keepNew (o := .lst ([.bl b1, .bl b2] ++ [.bl b3, .bl b4])) hp3
  have s3 : ((σ.set 2 (some (.ref p1))).set 2 (some (.ref p3)))[1]? = some (some (.ref a)) := by rw [List.getElem?_set_ne (by decide)]; exact s2
  have s33 : ((σ.set 2 (some (.ref p1))).set 2 (some (.ref p3)))[2]? = some (some (.ref p3)) := List.getElem?_set_self (by rw [List.length_set]; omega)
  have hd3 := kp3 _ _ (kp2 _ _ hd2)
  have dpl : ∀ {H' : Hp}, H' p3 = some (.lst [.bl b1, .bl b2, .bl b3, .bl b4]) → Dp K H' (.ref p3) (.list [.bool b1, .bool b2, .bool b3, .bool b4]) := fun {H'} e => .lst (SqL.of e) (.cons (.bl _) (.cons (.bl _) (.cons (.bl _) (.cons (.bl _) .nil))))
  have hcnt : ((([.bool b1, .bool b2, .bool b3, .bool b4] : List PyData).countP fun y => PyData.eqv y (.bool true) : Nat) : Int) = 1 := by
    rcases hb with ⟨rfl, rfl, rfl, rfl, _⟩ | ⟨rfl, rfl, rfl, rfl, _⟩ | ⟨rfl, rfl, rfl, rfl, _⟩ | ⟨rfl, rfl, rfl, rfl, _⟩ <;> rfl
  refine ⟨.ref p3, s33, .inl ⟨rfl, _, SqL.of upd_same⟩, p3, .bl true, .bool true, [.bool b1, .bool b2, .bool b3, .bool b4], rfl, rfl, dpl upd_same, .bl true, rfl, rfl, by simp [PyData.depthAll, PyData.depth], ?_⟩
  refine ⟨by rfl, false, ?_, iteF ?_⟩
  · rw [hcnt]; rfl
  refine ⟨by show 4 ≤ sizeLine; decide, fun p4 hp4 => ?_⟩
  have kp4 := keepNew (o := .lst [.str "decimal", .str "expression", .str "fraction", .str "number"]) hp4
  have hd4 := kp4 _ _ hd3
  have e3 : upd (upd (upd (upd H p1 (.lst [.bl b1, .bl b2])) p2 (.lst [.bl b3, .bl b4])) p3 (.lst ([.bl b1, .bl b2] ++ [.bl b3, .bl b4]))) p4 (.lst [.str "decimal", .str "expression", .str "fraction", .str "number"]) p3 = some (.lst [.bl b1, .bl b2, .bl b3, .bl b4]) := kp4 _ _ upd_same
  refine ⟨.ref p3, s33, .inl ⟨rfl, _, SqL.of e3⟩, ?_⟩
  have fin : ∀ (j : Nat) (i : Int), i = (j : Int) → ([V.str "decimal", .str "expression", .str "fraction", .str "number"] : List V)[j]? = some (.str nm) → j < 4 → rIx K (.ref p4) (.int i) (upd (upd (upd (upd H p1 (.lst [.bl b1, .bl b2])) p2 (.lst [.bl b3, .bl b4])) p3 (.lst ([.bl b1, .bl b2] ++ [.bl b3, .bl b4]))) p4 (.lst [.str "decimal", .str "expression", .str "fraction", .str "number"]))
      (fun x H1 => tXg K a (.ref D) (some dd) "given" (tVar 1) ((σ.set 2 (some (.ref p1))).set 2 (some (.ref p3))) H1 fun y H2 => [x, y].length ≤ sizeLine ∧ ∀ p, H2 p = none → W.rt (.ref p) (upd H2 p (.lst [x, y]))) := by
    intro j i hi hj hj4
    subst hi
    refine .inl ⟨p4, _, (j : Int), .str nm, rfl, rfl, SqL.of upd_same, ?_, ?_⟩
    · match j, hj4 with
      | 0, _ => exact hj
      | 1, _ => exact hj
      | 2, _ => exact hj
      | 3, _ => exact hj
    · refine ⟨.ref a, s3, rfl, D, dd, fs, v, rfl, T, hf, rfl, hd4, hl, by show 2 ≤ sizeLine; decide, fun p hp => ?_⟩
      refine hQ _ p (fun b o e => keepNew hp _ _ (kp4 _ _ (kp3 _ _ (kp2 _ _ (kp1 _ _ e))))) ?_ upd_same
      cases q : H p with
      | none => rfl
      | some o =>
        have := kp4 _ _ (kp3 _ _ (kp2 _ _ (kp1 _ _ q)))
        rw [hp] at this; cases this
  rcases hb with ⟨rfl, rfl, rfl, rfl, rfl⟩ | ⟨rfl, rfl, rfl, rfl, rfl⟩ | ⟨rfl, rfl, rfl, rfl, rfl⟩ | ⟨rfl, rfl, rfl, rfl, rfl⟩
  · exact ⟨p3, .bl true, .bool true, _, 0, _, rfl, rfl, dpl e3, .bl true, by rfl, by rfl, rfl, rfl, fun m z' hm _ => absurd hm (Nat.not_lt_zero _), fin 0 _ rfl rfl (by decide)⟩
  · refine ⟨p3, .bl true, .bool true, _, 1, _, rfl, rfl, dpl e3, .bl true, by rfl, by rfl, rfl, rfl, fun m z' hm e => ?_, fin 1 _ rfl rfl (by decide)⟩
    match m, hm with
    | 0, _ => cases e; rfl
  · refine ⟨p3, .bl true, .bool true, _, 2, _, rfl, rfl, dpl e3, .bl true, by rfl, by rfl, rfl, rfl, fun m z' hm e => ?_, fin 2 _ rfl rfl (by decide)⟩
    match m, hm with
    | 0, _ => cases e; rfl
    | 1, _ => cases e; rfl
  · refine ⟨p3, .bl true, .bool true, _, 3, _, rfl, rfl, dpl e3, .bl true, by rfl, by rfl, rfl, rfl, fun m z' hm e => ?_, fin 3 _ rfl rfl (by decide)⟩
    match m, hm with
    | 0, _ => cases e; rfl
    | 1, _ => cases e; rfl
    | 2, _ => cases e; rfl
end
/-- what is told by the error -/
def EndE (C0 C1 C2 C3 C4 D : Addr) (fs : List (Str × V)) (v : V) (nm : Str) : Prop :=
  (D = C0 ∧ fs.lookup ("index" : Str) = some v ∧ nm = "text") ∨ (fs.lookup ("given" : Str) = some v ∧ ((D = C1 ∧ nm = "decimal") ∨ (D = C2 ∧ nm = "expression") ∨ (D = C3 ∧ nm = "fraction") ∨ (D = C4 ∧ nm = "number")))
def TTend (C0 C1 C2 C3 C4 : Addr) : (XK → Hp → VK → Prop) → Hp → VK → Prop := fun tl H Q =>
  tl (fun cls dc H' => ∃ (D dd : Addr) (fs : List (Str × V)) (v : V) (nm : Str), cls = .ref D ∧ dc = some dd ∧ H' dd = some (.xd fs) ∧ EndE C0 C1 C2 C3 C4 D fs v nm ∧ ansW nm v H' Q) H (fun v H1 => ([V.str "told", v] : List V).length ≤ sizeLine ∧ ∀ p, H1 p = none → Q (.ref p) (upd H1 p (.lst [V.str "told", v])))
section
variable {X : Cx} {C0 C1 C2 C3 C4 CB : Addr}
theorem suite_any (hE : EndC X.K X.mg CB C0 C1 C2 C3 C4) {a dd D : Addr} {fs : List (Str × V)} {v : V} {nm : Str} {σ : L2.St} {H : Hp} {W : Ends} (hσ : σ[1]? = some (some (.ref a))) (hlen : σ.length = 3) (hd : H dd = some (.xd fs)) (he : EndE C0 C1 C2 C3 C4 D fs v nm) (hQ : ansW nm v H W.rt) :
    tSuite X.K C0 C1 C2 C3 C4 a (.ref D) (some dd) W σ H := by
  have nd := hE.nd
  simp only [List.nodup_cons, List.mem_cons, List.not_mem_nil, or_false, not_or] at nd
  obtain ⟨⟨n01, n02, n03, n04⟩, ⟨n12, n13, n14⟩, ⟨n23, n24⟩, n34, _⟩ := nd
  rcases he with ⟨rfl, hl, rfl⟩ | ⟨hl, he⟩
  · obtain ⟨h1, h2, h3⟩ := hE.e D (by simp)
    have k0 := hE.i D (by simp) D (by simp)
    exact suite_text hσ h1 h2 hE.f0 hd hl (by rw [k0]; simp) hQ
  · have go : ∀ (b1 b2 b3 b4 : Bool), D ∈ [C1, C2, C3, C4] → (D = C0) = False → (decide (D = C1)) = b1 → (decide (D = C2)) = b2 → (decide (D = C3)) = b3 → (decide (D = C4)) = b4 →
        ((b1 = true ∧ b2 = false ∧ b3 = false ∧ b4 = false ∧ nm = "decimal") ∨ (b1 = false ∧ b2 = true ∧ b3 = false ∧ b4 = false ∧ nm = "expression") ∨ (b1 = false ∧ b2 = false ∧ b3 = true ∧ b4 = false ∧ nm = "fraction") ∨ (b1 = false ∧ b2 = false ∧ b3 = false ∧ b4 = true ∧ nm = "number")) →
        tSuite X.K C0 C1 C2 C3 C4 a (.ref D) (some dd) W σ H := fun b1 b2 b3 b4 hm h0 e1 e2 e3 e4 hb => by
      have hm5 : D ∈ [C0, C1, C2, C3, C4] := List.mem_cons_of_mem _ hm
      obtain ⟨h1, h2, h3⟩ := hE.e D hm5
      refine suite_given hσ hlen h1 h2 (hE.f1 D hm) hd hl ?_ ?_ ?_ ?_ ?_ hb hQ
      · rw [hE.i D hm5 C0 (by simp)]; simp [h0]
      · rw [hE.i D hm5 C1 (by simp), e1]
      · rw [hE.i D hm5 C2 (by simp), e2]
      · rw [hE.i D hm5 C3 (by simp), e3]
      · rw [hE.i D hm5 C4 (by simp), e4]
    rcases he with ⟨rfl, rfl⟩ | ⟨rfl, rfl⟩ | ⟨rfl, rfl⟩ | ⟨rfl, rfl⟩
    · exact go true false false false (by simp) (by simp [Ne.symm n01]) (by simp) (by simp [n12]) (by simp [n13]) (by simp [n14]) (.inl ⟨rfl, rfl, rfl, rfl, rfl⟩)
    · exact go false true false false (by simp) (by simp [Ne.symm n02]) (by simp [Ne.symm n12]) (by simp) (by simp [n23]) (by simp [n24]) (.inr (.inl ⟨rfl, rfl, rfl, rfl, rfl⟩))
    · exact go false false true false (by simp) (by simp [Ne.symm n03]) (by simp [Ne.symm n13]) (by simp [Ne.symm n23]) (by simp) (by simp [n34]) (.inr (.inr (.inl ⟨rfl, rfl, rfl, rfl, rfl⟩)))
    · exact go false false false true (by simp) (by simp [Ne.symm n04]) (by simp [Ne.symm n14]) (by simp [Ne.symm n24]) (by simp [Ne.symm n34]) (by simp) (.inr (.inr (.inr ⟨rfl, rfl, rfl, rfl, rfl⟩)))
end
end Mp
end

section
set_option Elab.async false
set_option linter.all false
set_option maxRecDepth 100000
set_option maxHeartbeats 4000000
/-! M14: the text of _law_ended; the call of it. -/
namespace Mp
open PySem PySem.Spec PyProof.Rows L2 LamX
/-- the names of _law_ended -/
structure EndS (sg : Scope) : Prop where
  act : sg.names.lookup ("act" : Str) = some .local
  err : sg.names.lookup ("error" : Str) = some .local
  sorts : sg.names.lookup ("sorts" : Str) = some .local
  isi : sg.names.lookup ("isinstance" : Str) = some .globalImplicit
  gs : ∀ x ∈ (["DigitError", "InvalidText", "InvalidDecimal", "InvalidExpression", "InvalidFraction", "InvalidNumber"] : List Str), sg.names.lookup x = some .globalImplicit
theorem psLen {X : Cx} {sts : List Stmt} {t : TS} {n : Nat} (h : PSs X sts t) (hn : X.N.length = n) : PSs X sts (fun W σ H => σ.length = n → t W σ H) :=
  ⟨fun pins s σ H D I hh => h.run pins s σ H D I (hh (by rw [I.len]; exact hn))⟩
section
variable {X : Cx} {C0 C1 C2 C3 C4 CB : Addr}
theorem end_gives {x q : Str} {sg : Scope} {g : Addr} {cdg : Value} {p1 p2 p3 p4 p5 p6 p7 p8 p9 p10 p11 p12 p13 p14 p15 p16 p17 p18 p19 p20 p21 p22 p23 p24 p25 p26 p27 p28 p29 p30 p31 p32 p33 p34 p35 p36 p37 p38 p39 p40 p41 p42 p43 p44 p45 p46 p47 p48 p49 p50 p51 p52 p53 p54 p55 p56 p57 p58 p59 p60 p61 p62 p63 p64 p65 p66 : Pos} {j1 j2 j3 j4 j5 j6 j7 j8 j9 j10 : Nat}
    (S : EndS sg) (hE : EndC X.K X.mg CB C0 C1 C2 C3 C4) (hmi : X.mg "isinstance" = none) (hu : X.A.units + 200 < cLine)
    (hl1 : (p36.endLine == p38.line) = true) (hl2 : (p50.endLine == p52.line) = true) :
    GivesTo X ["act", "error", "sorts"] x sg g cdg
      [.Try [.Return (some (.List [.Constant (.str "told") j1 p1, .Call (.Name "act" p2) [] [] p3] p4)) p5]
        [.ExceptHandler (some (.Name "DigitError" p6)) (some "error")
          [.If (.Call (.Name "isinstance" p7) [.Name "error" p8, .Name "InvalidText" p9] [] p10) [.Return (some (.List [.Constant (.str "text") j2 p11, .Attribute (.Name "error" p12) "index" p13] p14)) p15] [] p16,
           .Assign [.Name "sorts" p17] (.List [.Call (.Name "isinstance" p18) [.Name "error" p19, .Name "InvalidDecimal" p20] [] p21, .Call (.Name "isinstance" p22) [.Name "error" p23, .Name "InvalidExpression" p24] [] p25] p26) p27,
           .Assign [.Name "sorts" p28] (.BinOp (.Name "sorts" p29) .Add (.List [.Call (.Name "isinstance" p53) [.Name "error" p54, .Name "InvalidFraction" p55] [] p56, .Call (.Name "isinstance" p57) [.Name "error" p58, .Name "InvalidNumber" p59] [] p60] p30) p31) p32,
           .If (.Compare (.Call (.Attribute (.Name "sorts" p33) "count" p36) [.Constant (.bool true) j3 p37] [] p38) [.NotEq] [.Constant (.int 1) j4 p39] p40) [.Return (some (.List [.Constant (.str "odd") j5 p41] p42)) p43] [] p44,
           .Return (some (.List [.Subscript (.List [.Constant (.str "decimal") j6 p45, .Constant (.str "expression") j7 p46, .Constant (.str "fraction") j8 p47, .Constant (.str "number") j9 p48] p49) (.Call (.Attribute (.Name "sorts" p61) "index" p50) [.Constant (.bool true) j10 p51] [] p52) p62, .Attribute (.Name "error" p34) "given" p35] p63)) p64] p65] [] [] p66] "act" q (TTend C0 C1 C2 C3 C4) := by
  intro f c' s H Q tl act hc h
  obtain ⟨hgB, hg0, hg1, hg2, hg3, hg4⟩ := hE.g
  have S' := S.gs
  simp only [List.mem_cons, List.not_mem_nil, or_false, forall_eq_or_imp, forall_eq] at S'
  obtain ⟨sB, s0, s1, s2, s3, s4⟩ := S'
  generalize hY : (cxOf C8.CX0 X.prog X.w X.K X.mg X.base ["act", "error", "sorts"] x sg g cdg X.A X.stack s H C8.E0).nox = Y
  have YK : Y.K = X.K := by rw [← hY]; rfl
  have Ymg : Y.mg = X.mg := by rw [← hY]; rfl
  have YN : Y.N = (["act", "error", "sorts"] : List Str) := by rw [← hY]; rfl
  have Ysc : Y.env.scope = sg := by rw [← hY]; rfl
  have Yu : Y.A.units + 100 < cLine := by
    rw [← hY]
    show X.A.units + 3 + 100 < cLine
    omega
  have hsu : ∀ (a : Addr) (oe : Obj) (cls : Value) (d : Option Addr) (pn : List (Addr × Obj)), Zc cls d oe → (∃ vs, oe.data = .fields vs) →
      PSs (Y.suite a ((a, oe) :: pn)) ([.If (.Call (.Name "isinstance" p7) [.Name "error" p8, .Name "InvalidText" p9] [] p10) [.Return (some (.List [.Constant (.str "text") j2 p11, .Attribute (.Name "error" p12) "index" p13] p14)) p15] [] p16,
           .Assign [.Name "sorts" p17] (.List [.Call (.Name "isinstance" p18) [.Name "error" p19, .Name "InvalidDecimal" p20] [] p21, .Call (.Name "isinstance" p22) [.Name "error" p23, .Name "InvalidExpression" p24] [] p25] p26) p27,
           .Assign [.Name "sorts" p28] (.BinOp (.Name "sorts" p29) .Add (.List [.Call (.Name "isinstance" p53) [.Name "error" p54, .Name "InvalidFraction" p55] [] p56, .Call (.Name "isinstance" p57) [.Name "error" p58, .Name "InvalidNumber" p59] [] p60] p30) p31) p32,
           .If (.Compare (.Call (.Attribute (.Name "sorts" p33) "count" p36) [.Constant (.bool true) j3 p37] [] p38) [.NotEq] [.Constant (.int 1) j4 p39] p40) [.Return (some (.List [.Constant (.str "odd") j5 p41] p42)) p43] [] p44,
           .Return (some (.List [.Subscript (.List [.Constant (.str "decimal") j6 p45, .Constant (.str "expression") j7 p46, .Constant (.str "fraction") j8 p47, .Constant (.str "number") j9 p48] p49) (.Call (.Attribute (.Name "sorts" p61) "index" p50) [.Constant (.bool true) j10 p51] [] p52) p62, .Attribute (.Name "error" p34) "given" p35] p63)) p64])
        (fun W σ H => σ.length = 3 → tSuite X.K C0 C1 C2 C3 C4 a cls d W σ H) := by
    intro a oe cls d pn hz hf
    have hN1 : (Y.suite a ((a, oe) :: pn)).N[1]? = some ("error" : Str) := by show Y.N[1]? = _; rw [YN]; rfl
    have hN2 : (Y.suite a ((a, oe) :: pn)).N[2]? = some ("sorts" : Str) := by show Y.N[2]? = _; rw [YN]; rfl
    have hNn : (Y.suite a ((a, oe) :: pn)).N.Nodup := by show Y.N.Nodup; rw [YN]; decide
    have v1 : ∀ {p : Pos}, PE (Y.suite a ((a, oe) :: pn)) (.Name "error" p) (tVar 1) := fun {p} => pe_var hN1 (.inl (by show Y.env.scope.names.lookup _ = _; rw [Ysc]; exact S.err)) (by decide) (by decide)
    have v2 : ∀ {p : Pos}, PE (Y.suite a ((a, oe) :: pn)) (.Name "sorts" p) (tVar 2) := fun {p} => pe_var hN2 (.inl (by show Y.env.scope.names.lookup _ = _; rw [Ysc]; exact S.sorts)) (by decide) (by decide)
    have gl : ∀ {z : Str}, sg.names.lookup z = some .globalImplicit → Gl (Y.suite a ((a, oe) :: pn)) z := fun {z} e => by show Y.env.scope.names.lookup z = _; rw [Ysc]; exact e
    have isx : ∀ {z : Str} {C : Addr} {q1 q2 q3 q4 : Pos}, sg.names.lookup z = some .globalImplicit → X.mg z = some (.ref C) → (z == ("__debug__" : Str)) = false → PE (Y.suite a ((a, oe) :: pn)) (.Call (.Name "isinstance" q1) [.Name "error" q2, .Name z q3] [] q4) (isX Y.K a cls d C) := fun {z C q1 q2 q3 q4} e1 e2 e3 => by
      exact pe_callB (X := Y.suite a ((a, oe) :: pn)) (p := q1) (pos := q4) (x := "isinstance") (call_isX (X := Y) hz hf) (gl S.isi) (by show Y.mg _ = _; rw [Ymg]; exact hmi) PyProof.Rows.boot_isinstance (pa_cons (v1 (p := q2)) (pa_cons (pe_glob (pos := q3) (v := .ref C) (u := .ref C) (gl e1) (by show Y.mg _ = _; rw [Ymg]; exact e2) rfl e3) pa_nil))
    have ss : (Y.suite a ((a, oe) :: pn)).env.scope.names.lookup ("sorts" : Str) = some .local := by show Y.env.scope.names.lookup _ = _; rw [Ysc]; exact S.sorts
    have suA : (Y.suite a ((a, oe) :: pn)).A.units + 65 < cLine := by show Y.A.units + 65 < cLine; omega
    rw [← YK]
    refine psLen ?_ (by show Y.N.length = 3; rw [YN]; rfl)
    exact
      pss_cons (ps_if (pt_val (isx s0 hg0 (by decide)) (by intro _; rfl)) (pss_one (ps_ret (pe_lst (pa_cons pe_str (pa_cons (pe_xg hz hf v1 rfl) pa_nil))))) pss_nil)
        (pss_cons (ps_set hNn hN2 (.inl ss) (pe_lst (pa_cons (isx s1 hg1 (by decide)) (pa_cons (isx s2 hg2 (by decide)) pa_nil))) rfl (.inr ss))
          (pss_cons (ps_set hNn hN2 (.inl ss) (pe_op op_cat v2 (pe_lst (pa_cons (isx s3 hg3 (by decide)) (pa_cons (isx s4 hg4 (by decide)) pa_nil)))) rfl (.inr ss))
            (pss_cons (ps_if (pt_cmpR op_ne (pe_bm F.plainAttrs_list F.slot_list_count F.type_list_count (mt_cntD suA) v2 (pa_cons pe_bl pa_nil) rfl rfl hl1) pe_int (nomark _)) pss_never pss_nil)
              (pss_one (ps_ret (pe_lst (pa_cons (pe_ix ix_seq (pe_lst (pa_cons pe_str (pa_cons pe_str (pa_cons pe_str (pa_cons pe_str pa_nil))))) (pe_bm F.plainAttrs_list F.slot_list_index F.type_list_index (mt_indexD suA) v2 (pa_cons pe_bl pa_nil) rfl rfl hl2) (plainIx_of (by intro _ _ _; nofun))) (pa_cons (pe_xg hz hf v1 rfl) pa_nil))))))))
  have hgl : Gl Y "DigitError" := by show Y.env.scope.names.lookup _ = _; rw [Ysc]; exact sB
  have hN1 : Y.N[1]? = some ("error" : Str) := by rw [YN]; rfl
  have hNn : Y.N.Nodup := by rw [YN]; decide
  refine ⟨_, pss_one (ps_try_as (X := Y) (x := "DigitError") (n := "error") (c := .ref CB) (i := 1)
      (tb := fun W D σ H => ∃ Ech : XK, (∀ cls d σ' H', Ech cls d H' → W cls d σ' H') ∧ σ[0]? = some (some (.ref f)) ∧ H c' = some (CodeO c' q) ∧ tl Ech H (fun v H1 => ([V.str "told", v] : List V).length ≤ sizeLine ∧ ∀ p, H1 p = none → D.rt (.ref p) (upd H1 p (.lst [V.str "told", v]))))
      (by rw [← hY]; rfl) (by rw [← hY]; rfl) hNn hN1 (by show Y.env.scope.names.lookup _ = _; rw [Ysc]; exact S.err) ⟨hgl, by decide, .inl (by rw [Ymg]; exact hgB)⟩ LamX.takes0 (fun W pn xe tk _ => ?_) (fun a oe cls d pn hz hf => hsu a oe cls d pn hz hf)), ?_⟩
  · refine ⟨fun pins s' σ H' D I h' => ?_⟩
    obtain ⟨Ech, hW, h1, h2, h3⟩ := h'
    subst hY
    have hp := act W pn xe Ech p2 p3 tk hW
    have hs := pe_str (X := (cxOf C8.CX0 X.prog X.w X.K X.mg X.base ["act", "error", "sorts"] x sg g cdg X.A X.stack s H C8.E0).tr pn xe) (x := "told") (j := j1) (pos := p1)
    have hq := pss_one (ps_ret (pos := p5) (pe_lst (pos := p4) (pa_cons hs (pa_cons hp pa_nil))))
    exact hq.run pins s' σ H' D I ⟨h1, h2, h3⟩
  · subst hY
    refine ⟨fun cls dc H' => ∃ (D dd : Addr) (fs : List (Str × V)) (v : V) (nm : Str), cls = .ref D ∧ dc = some dd ∧ H' dd = some (.xd fs) ∧ EndE C0 C1 C2 C3 C4 D fs v nm ∧ ansW nm v H' Q, fun cls d σ' H' hh => ?_, rfl, hc, ?_⟩
    · obtain ⟨D, dd, fs, v, nm, rfl, rfl, h1, h2, h3⟩ := hh
      have hm : D ∈ [C0, C1, C2, C3, C4] := by
        rcases h2 with ⟨rfl, _⟩ | ⟨_, ⟨rfl, _⟩ | ⟨rfl, _⟩ | ⟨rfl, _⟩ | ⟨rfl, _⟩⟩ <;> simp
      refine ⟨true, (hE.e D hm).2.2, fun _ a _ hlen => ?_, fun z => nomatch z⟩
      exact suite_any hE (List.getElem?_set_self (by rw [List.length_set] at hlen; omega)) hlen h1 h2 h3
    · exact h
end
end Mp
end

section
set_option Elab.async false
set_option linter.all false
set_option maxRecDepth 100000
set_option maxHeartbeats 4000000
/-! M15: the call of _law_ended; a def by its body; repr's guards. -/
namespace Mp
open PySem PySem.Spec PyProof.Rows L2 LamX
section
variable {g : Gm} {EW : XK} {X : Cx} {C0 C1 C2 C3 C4 : Addr}
def fEnd (et : Nat → Option Str) (fe : Env → Store → R D) : Env → Store → R D := fun env st => match fe env st with
  | .ok (.p d) st1 => .ok (.p (.list [.str "told", d])) st1
  | .exc c d st1 => match et c with
    | some nm => .ok (.p (.list [.str nm, d])) st1
    | none => .no
  | _ => .no
theorem em_end {e : Expr} {et : Nat → Option Str} {fe : Env → Store → R D} (het : ∀ c nm, et c = some nm → nm.length ≤ sizeLine ∧ ∃ f, g.xat c = some f ∧ ∀ v, EndE C0 C1 C2 C3 C4 (g.cad c) [(f, v)] v nm)
    (pe : PE X e (tLam g.T (TTend C0 C1 C2 C3 C4) (fun E => tS g E fe))) : PE X e (tS g EW (fEnd et fe)) := by
  refine peImp pe fun σ H Q ⟨env, st, ρ, B, er, R, h⟩ => ⟨R.tabs, fun H1 eN T1 => ?_⟩
  obtain ⟨l, R1⟩ := R.sameN eN T1
  have er1 := l.env R er
  have h1 := Post.later (st1 := st) h l R1
  refine ⟨env, st, ρ, B, er1, R1, ?_⟩
  unfold fEnd at h1
  cases ef : fe env st with
  | no => rw [ef] at h1; exact h1
  | ok d st1 =>
    rw [ef] at h1
    cases d with
    | obj n => exact h1.elim
    | p d =>
      intro v H' ρ' B' l' R' rv
      have h2 : Post g EW (RD g) H' ρ' B' (ofO (some (.list [.str "told", d])) st1) Q := Post.later (st1 := st1) h1 l' R'
      exact ⟨by show 2 ≤ sizeLine; decide, fun p hp => post_lst R' h2 (.cons (.str _ (by decide)) (.cons rv .nil)) hp⟩
  | exc c d st1 =>
    rw [ef] at h1
    simp only at h1
    cases ec : et c with
    | none => simp only [ec] at h1; exact h1.elim
    | some nm =>
      simp only [ec] at h1
      obtain ⟨hz, f, hf, he⟩ := het c nm ec
      intro cls dc H' ρ' B' l' R' x
      obtain ⟨x1, x2⟩ := x
      rw [hf] at x2
      obtain ⟨dx, v, e1, e2, e3⟩ := x2
      refine ⟨g.cad c, dx, [(f, v)], v, nm, x1, e1, e2, he v, fun H'' p k hp e => ?_⟩
      have l2 : Later H' ρ' B' H'' ρ' B' := sameLater k
      refine h1 (.ref p) H'' ρ' B' (l'.trans (lmut l' R') l2) (R'.same k) ?_
      exact .lst (R'.nb hp) (.inl e) (.cons (.str _ hz) (.cons (l2.dq R' e3) .nil))
end

/-! ### a def by its body -/
/-- how a body ends -/
def endB (r : R Fl) : R D := match r with
  | .ok (.nx _) st => .ok (.p .none) st
  | .ok (.ret d) st => .ok d st
  | .ok _ _ => .no
  | .exc c d st => .exc c d st
  | .no => .no
/-- the names at the entry -/
def startE (n : Nat) (ds : List D) : Env := ds.map some ++ List.replicate (n - ds.length) none
/-- a def: its parameters' number, its names' number, its body -/
def runB (np n : Nat) (f : SM) : List D → Store → R D := fun ds st => if ds.length = np then endB (f (startE n ds) st) else .no
section
variable {g : Gm} {EW : XK} {X : Cx} {H : Hp} {st : Store} {ρ B : List Addr}
theorem start_env {N : List Str} {ds : List D} {vs : List V} (h : RDs g H ρ B ds vs) : EnvR g H ρ B (startE N.length ds) (L2.start N vs) := by
  unfold startE L2.start
  have hl := h.length
  refine ⟨by simp [hl], fun i d e => ?_⟩
  by_cases hi : i < ds.length
  · rw [List.getElem?_append_left (by simpa using hi), List.getElem?_map] at e
    cases q : ds[i]? with
    | none => rw [q] at e; cases e
    | some d' =>
      rw [q] at e
      cases e
      obtain ⟨v, h1, h2⟩ := h.get q
      refine ⟨v, ?_, h2⟩
      rw [List.getElem?_append_left (by simpa [hl] using hi), List.getElem?_map, h1]
      rfl
  · rw [List.getElem?_append_right (by simpa using hi), List.getElem?_replicate] at e
    split at e <;> cases e
theorem body_ok {N : List Str} {f : SM} {vs : List V} {Q : VK} {E : XK} {np : Nat} (h : spOf g (runB np N.length f) vs H Q E) : tSS g E f { nx := fun _ H' => Q .non H', rt := Q } (L2.start N vs) H := by
  obtain ⟨ds, st, ρ, B, R, r, h⟩ := h
  unfold runB at h
  split at h
  · refine ⟨_, st, ρ, B, start_env r, R, ?_⟩
    cases ef : f (startE N.length ds) st with
    | no => rw [ef] at h; exact h
    | exc c d st' => rw [ef] at h; exact h
    | ok fl st' =>
      rw [ef] at h
      cases fl with
      | nx e => exact fun H' ρ' B' l R' σ _ => h .non H' ρ' B' l R' (show RD g H' ρ' B' (.p .none) .non from .non)
      | ret d => exact fun H' ρ' B' l R' v rv => h v H' ρ' B' l R' rv
      | brk e => exact h.elim
      | cont e => exact h.elim
  · exact h.elim
theorem body_len {np n : Nat} {f : SM} {vs : List V} {Q : VK} {E : XK} (h : spOf g (runB np n f) vs H Q E) : vs.length = np := by
  obtain ⟨ds, st, ρ, B, R, r, h⟩ := h
  unfold runB at h
  split at h
  · rename_i e; rw [r.length]; exact e
  · exact h.elim
end
/-- the promise of a def whose body is known -/
theorem ok_def {g : Gm} {P : Program} {w : World} {K : PySem.W.Frag} {mg : Str → Option Value} {base : Heap} {x qual : Str} {params : Arguments} {body : List Stmt} {scope : Scope} {dvs : List V} {kws : List (Str × V)} {f : Addr} {fd : FuncData} {N ps : List Str} {k np n : Nat} {m : SM} (F : FunD K x qual params body scope dvs kws f fd) (S : FnScope N ps scope)
    (hnp : ps.length = np) (hn : N.length = n)
    (hbody : ∀ (cdv : Value) (A : Around) (outer : List PySem.Env) (s : Shared) (H : Hp) (E : XK), fd.code = cdv → Room k (A.deeper (envOfC qual scope s.heap.objs.size f cdv)) →
      PSs (cxOf (L2.CX P w) P w K mg base N qual scope f cdv A outer s H E) body (tSS g E m)) : FnOk P w K mg base (L2.CX P w) (k + 1) f fd ps (spOf g (runB np n m)) := by
  subst hnp hn
  obtain ⟨oc, od, dV, kV, doc, pm, an, cdv, ct, osl, rfl, lk, hcd, _, _⟩ := F.ex
  exact fn_of lk hcd S (fun vs H Q E h => body_len h) fun A outer s H vs Q E hr h => ⟨tSS g E m, hbody cdv A outer s H E rfl hr, body_ok h⟩
/-- .. where repr is called -/
theorem ok_defG {g : Gm} {P : Program} {w : World} {K : PySem.W.Frag} {mg : Str → Option Value} {base : Heap} {x qual : Str} {params : Arguments} {body : List Stmt} {scope : Scope} {dvs : List V} {kws : List (Str × V)} {f : Addr} {fd : FuncData} {N ps : List Str} {k np n : Nat} {m : SM} (F : FunD K x qual params body scope dvs kws f fd) (S : FnScope N ps scope)
    (hnp : ps.length = np) (hn : N.length = n)
    (hbody : ∀ (cdv : Value) (A : Around) (outer : List PySem.Env) (s : Shared) (H : Hp) (E : XK), fd.code = cdv → (A.deeper (envOfC qual scope s.heap.objs.size f cdv)).guards = some [] → Room k (A.deeper (envOfC qual scope s.heap.objs.size f cdv)) →
      PSs (cxOf (L2.CX P w) P w K mg base N qual scope f cdv A outer s H E) body (tSS g E m)) : FnG P w K mg base (L2.CX P w) (k + 1) f fd ps (spOf g (runB np n m)) := by
  subst hnp hn
  obtain ⟨oc, od, dV, kV, doc, pm, an, cdv, ct, osl, rfl, lk, hcd, _, _⟩ := F.ex
  refine ⟨fun vs H Q E h => body_len h, fun A outer s H args us vs Q E hG hr e0 hb r hsp => ?_⟩
  exact LamX.run_ofS lk hcd S hr e0 hb r (body_len hsp) fun hr' => ⟨tSS g E m, hbody cdv A outer s H E rfl hG hr', body_ok hsp⟩
end Mp
end

section
set_option Elab.async false
set_option linter.all false
set_option maxRecDepth 100000
set_option maxHeartbeats 4000000
/-! M16: the rules in the form that a program prints. -/
namespace Mp
open PySem PySem.Spec PyProof.Rows L2
structure Cg (g : Gm) (X : Cx) : Prop where
  K : X.K = g.K
  calm : X.calm = true
  nd : X.N.Nodup
  un : X.A.units + 200 < cLine
def visB (sc : Scope) (x : Str) : Bool := match sc.names.lookup x with
  | some .local => true
  | some .cell => true
  | some .free => true
  | _ => false
theorem vis_of {sc : Scope} {x : Str} (h : visB sc x = true) : Vis sc x := by
  unfold visB at h
  split at h
  · rename_i e; exact .inl e
  · rename_i e; exact .inr (.inl e)
  · rename_i e; exact .inr (.inr e)
  · cases h
def locB (sc : Scope) (x : Str) : Bool := match sc.names.lookup x with
  | some .local => true
  | _ => false
theorem loc_of {sc : Scope} {x : Str} (h : locB sc x = true) : sc.names.lookup x = some .local := by
  unfold locB at h
  split at h
  · assumption
  · cases h
def nmB (x : Str) : Bool := !(x == ("__debug__" : Str)) && !(x == ("__classdict__" : Str)) && !(x == ("__name__" : Str))
def cellB (sc : Scope) (x : Str) : Bool := match sc.names.lookup x with
  | some .local => true
  | some .cell => true
  | _ => false
theorem cell_of {sc : Scope} {x : Str} (h : cellB sc x = true) : Loc sc x := by
  unfold cellB at h
  split at h
  · rename_i e; exact .inl e
  · rename_i e; exact .inr e
  · cases h
theorem fn_of' {X : Cx} {x : Str} (h : (X.fn x || locB X.env.scope x) = true) : X.fn x = true ∨ X.env.scope.names.lookup x = some .local := by
  rcases Bool.or_eq_true_iff.mp h with h | h
  · exact .inl h
  · exact .inr (loc_of h)
theorem nm_of {x : Str} (h : nmB x = true) : (x == ("__debug__" : Str)) = false ∧ (x == ("__classdict__" : Str)) = false ∧ x ≠ "__name__" := by
  unfold nmB at h
  simp only [Bool.and_eq_true, Bool.not_eq_true'] at h
  refine ⟨h.1.1, h.1.2, ?_⟩
  simpa using h.2
def glB (sc : Scope) (x : Str) : Bool := match sc.names.lookup x with
  | some .globalImplicit => true
  | _ => false
def noStar : List Expr → Bool
  | [] => true
  | .Starred _ _ :: _ => false
  | _ :: r => noStar r
theorem noStar_of : ∀ {es : List Expr}, noStar es = true → ∀ e ∈ es, ∀ y q, e ≠ .Starred y q
  | [], _, e, he => by cases he
  | a :: r, h, e, he => by
    cases a <;> first
      | (cases h; done)
      | (rcases List.mem_cons.mp he with rfl | he
         · intro y q z; cases z
         · exact noStar_of (es := r) h e he)
def noCall : Expr → Bool
  | .Call _ _ _ _ => false
  | _ => true
theorem noCall_of {e : Expr} (h : noCall e = true) : ∀ x b c p, e ≠ .Call x b c p := fun x b c p z => by subst z; cases h
def noSlice : Expr → Bool
  | .Slice _ _ _ _ => false
  | _ => true
theorem noSlice_of {e : Expr} (h : noSlice e = true) : ∀ lo hi p, e ≠ .Slice lo hi none p := fun lo hi p z => by subst z; cases h
def fCmp (op : COp) (fa fb : Env → Store → R D) : Env → Store → R D := fun env st => (fa env st).bind fun d st1 => (fb env st1).bind fun e st2 => cmpS op d e st2
section
variable {g : Gm} {EW : XK} {X : Cx} {a b c : Expr} {pos : Pos} {fa fb fc : Env → Store → R D}
theorem Cg.blk (C : Cg g X) {s : Shared} {H : Hp} {scope : Scope} {cenv : PySem.Env} {fp : List Addr} : Cg g (X.blk s H scope cenv fp) := ⟨C.K, C.calm, C.nd, C.un⟩
theorem gl_of {x : Str} (h : glB X.env.scope x = true) : Gl X x := by
  unfold glB at h
  split at h
  · assumption
  · cases h
theorem xv (i : Nat) {x : Str} (hN : X.N[i]? = some x := by rfl) (hv : visB X.env.scope x = true := by kernel_rfl) (hn : nmB x = true := by kernel_rfl) : PE X (.Name x pos) (tS g EW (fVar i)) := em_var hN (vis_of hv) (nm_of hn).1 (nm_of hn).2.1
theorem xgi {x : Str} {i : Int} (hm : ∃ t, X.mg x = some (.int i t)) (hg : glB X.env.scope x = true := by kernel_rfl) (hn : nmB x = true := by kernel_rfl) : PE X (.Name x pos) (tS g EW (fC (.int i))) := by
  obtain ⟨t, h⟩ := hm
  exact em_con (pe_glob (v := .int i) (gl_of hg) h ⟨t, rfl⟩ (nm_of hn).1) fun _ _ => .int i
theorem xgs {x z : Str} (hm : ∃ t, X.mg x = some (.str z t)) (hz : z.length ≤ sizeLine := by decide) (hg : glB X.env.scope x = true := by kernel_rfl) (hn : nmB x = true := by kernel_rfl) : PE X (.Name x pos) (tS g EW (fC (.str z))) := by
  obtain ⟨t, h⟩ := hm
  exact em_con (pe_glob (v := .str z) (gl_of hg) h ⟨t, rfl⟩ (nm_of hn).1) fun _ _ => .str z hz
theorem xgo {x : Str} {q : Addr} {d : PyData} (hm : X.mg x = some (.ref q)) (hd : ∀ H B, Dq g.K H B (.ref q) d) (hg : glB X.env.scope x = true := by kernel_rfl) (hn : nmB x = true := by kernel_rfl) : PE X (.Name x pos) (tS g EW (fC d)) :=
  em_con (pe_glob (v := .ref q) (gl_of hg) hm rfl (nm_of hn).1) hd
theorem xs {i : Str} {j : Nat} (h : i.length ≤ sizeLine := by decide) : PE X (.Constant (.str i) j pos) (tS g EW (fC (.str i))) := em_str h
/-! operators -/
theorem xAdd (C : Cg g X) (ha : PE X a (tS g EW fa)) (hb : PE X b (tS g EW fb)) : PE X (.BinOp a .Add b pos) (tS g EW (fBin .add fa fb)) := em_bin (or_add C.K) ha hb
theorem xSub (C : Cg g X) (ha : PE X a (tS g EW fa)) (hb : PE X b (tS g EW fb)) : PE X (.BinOp a .Sub b pos) (tS g EW (fBin .sub fa fb)) := em_bin or_sub ha hb
theorem xMul (C : Cg g X) (ha : PE X a (tS g EW fa)) (hb : PE X b (tS g EW fb)) : PE X (.BinOp a .Mult b pos) (tS g EW (fBin .mul fa fb)) := em_bin or_mul ha hb
theorem xFdiv (C : Cg g X) (ha : PE X a (tS g EW fa)) (hb : PE X b (tS g EW fb)) : PE X (.BinOp a .FloorDiv b pos) (tS g EW (fBin .fdiv fa fb)) := em_bin or_fdiv ha hb
theorem xMod (C : Cg g X) (ha : PE X a (tS g EW fa)) (hb : PE X b (tS g EW fb)) : PE X (.BinOp a .Mod b pos) (tS g EW (fBin .mod fa fb)) := em_bin or_mod ha hb
theorem xPow (C : Cg g X) (ha : PE X a (tS g EW fa)) (hb : PE X b (tS g EW fb)) : PE X (.BinOp a .Pow b pos) (tS g EW (fBin .pow fa fb)) := em_bin or_pow ha hb
def fNeg (fa : Env → Store → R D) : Env → Store → R D := fun env st => (fa env st).bind fun d st1 => match d with
  | .p (.int i) => .ok (.p (.int (-i))) st1
  | _ => .no
theorem xNeg (ha : PE X a (tS g EW fa)) : PE X (.UnaryOp .USub a pos) (tS g EW (fNeg fa)) := by
  refine peImp (pe_un un_neg ha) fun σ H Q ⟨env, st, ρ, B, er, R, h⟩ => ?_
  unfold fNeg at h
  refine ⟨env, st, ρ, B, er, R, seqP h fun d st1 x H1 ρ1 B1 _ l1 R1 r1 h1 => ?_⟩
  split at h1
  · rename_i i
    have r1' : Dq g.K H1 B1 x _ := r1
    cases r1'
    exact ⟨_, rfl, h1 _ H1 ρ1 B1 Later.refl R1 (show RD g H1 ρ1 B1 (.p (.int _)) (.int _) from .int _)⟩
  · exact h1.elim
/-- a or b, a a text -/
def fOrS (fa fb : Env → Store → R D) : Env → Store → R D := fun env st => (fa env st).bind fun d st1 => match d with
  | .p (.str x) => if x.length ≠ 0 then .ok (.p (.str x)) st1 else fb env st1
  | _ => .no
theorem xOrS {rest : List Expr} (ha : PE X a (tS g EW fa)) (hb : PE X (.BoolOp .Or (b :: rest) pos) (tS g EW fb)) : PE X (.BoolOp .Or (a :: b :: rest) pos) (tS g EW (fOrS fa fb)) := by
  refine peImp (pe_orT ha hb) fun σ H Q ⟨env, st, ρ, B, er, R, h⟩ => ?_
  unfold fOrS at h
  refine ⟨env, st, ρ, B, er, R, seqP h fun d st1 x H1 ρ1 B1 _ l1 R1 r1 h1 => ?_⟩
  split at h1
  · rename_i z
    have r1' : Dq g.K H1 B1 x _ := r1
    cases r1' with
    | str _ hz =>
      split at h1
      · rename_i hl
        exact ⟨true, ⟨hz, by simpa using hl⟩, iteT (h1 _ H1 ρ1 B1 Later.refl R1 r1)⟩
      · rename_i hl
        exact ⟨false, ⟨hz, by simpa using hl⟩, iteF ⟨env, st1, ρ1, B1, l1.env R er, R1, h1⟩⟩
  · exact h1.elim
theorem oEq (C : Cg g X) : OpR X (compareOp .Eq) (rC g EW .eq) := or_eq C.K (by have := C.un; omega)
theorem oNe (C : Cg g X) : OpR X (compareOp .NotEq) (rC g EW .ne) := or_ne C.K (by have := C.un; omega)
theorem oIn (C : Cg g X) : OpR X (compareOp .In) (rC g EW .isin) := or_in C.K (by have := C.un; omega)
theorem oNin (C : Cg g X) : OpR X (compareOp .NotIn) (rC g EW .notin) := or_notin C.K (by have := C.un; omega)
theorem oLt (C : Cg g X) : OpR X (compareOp .Lt) (rC g EW .lt) := or_lt
theorem oLe (C : Cg g X) : OpR X (compareOp .LtE) (rC g EW .le) := or_le
theorem oGt (C : Cg g X) : OpR X (compareOp .Gt) (rC g EW .gt) := or_gt
theorem oGe (C : Cg g X) : OpR X (compareOp .GtE) (rC g EW .ge) := or_ge
theorem oIs (C : Cg g X) : OpR X (compareOp .Is) (rC g EW .is) := or_is
theorem oIsn (C : Cg g X) : OpR X (compareOp .IsNot) (rC g EW .isnot) := or_isnot
theorem xCmp {op : CmpOp} {cop : COp} (ho : OpR X (compareOp op) (rC g EW cop)) (ha : PE X a (tS g EW fa)) (hb : PE X b (tS g EW fb)) (hm : behindInMarks op b = false := by with_unfolding_all rfl) : PE X (.Compare a [op] [b] pos) (tS g EW (fCmp cop fa fb)) := em_cmp ho ha hb hm
theorem tCmp {op : CmpOp} {cop : COp} (ho : OpR X (compareOp op) (rC g EW cop)) (ha : PE X a (tS g EW fa)) (hb : PE X b (tS g EW fb)) (hm : behindInMarks op b = false := by with_unfolding_all rfl) : PT X (.Compare a [op] [b] pos) (tST g EW (fT (fCmp cop fa fb))) := et_cmp ho ha hb hm
theorem xChain {op op' : CmpOp} {cop cop' : COp} (ho : OpR X (compareOp op) (rC g EW cop)) (ho' : OpR X (compareOp op') (rC g EW cop')) (ha : PE X a (tS g EW fa)) (hb : PE X b (tS g EW fb)) (hc : PE X c (tS g EW fc)) (hm : lastMarks [op, op'] [b, c] = false := by with_unfolding_all rfl) :
    PE X (.Compare a [op, op'] [b, c] pos) (tS g EW (fChain cop cop' fa fb fc)) := em_chain ho ho' ha hb hc hm
theorem tChain {op op' : CmpOp} {cop cop' : COp} (ho : OpR X (compareOp op) (rC g EW cop)) (ho' : OpR X (compareOp op') (rC g EW cop')) (ha : PE X a (tS g EW fa)) (hb : PE X b (tS g EW fb)) (hc : PE X c (tS g EW fc)) (hm : lastMarks [op, op'] [b, c] = false := by with_unfolding_all rfl) :
    PT X (.Compare a [op, op'] [b, c] pos) (tST g EW (fT (fChain cop cop' fa fb fc))) := et_chain ho ho' ha hb hc hm
theorem tVal (h : PE X a (tS g EW fa)) (he : ∀ whole, isTrue a X.env whole = (do let v ← whole; standAt a.pos; holding [v] (truthy v)) := by intro _; rfl) : PT X a (tST g EW (fT fa)) := et_val h he
theorem tW (h : PW X a (tST g EW (fT fa))) : PT X a (tST g EW (fT fa)) := h.pt
/-! lists of expressions -/
theorem lCons {es : List Expr} {fr : Env → Store → R (List D)} (ha : PE X a (tS g EW fa)) (hr : PA X es (tSA g EW fr)) (hp : noStar [a] = true := by rfl) : PA X (a :: es) (tSA g EW (fCons fa fr)) := ea_cons ha hr fun y q => noStar_of hp a (by simp) y q
theorem lStar (C : Cg g X) {es : List Expr} {fr : Env → Store → R (List D)} (ha : PE X a (tS g EW fa)) (hr : PA X es (tSA g EW fr)) : PA X (.Starred a pos :: es) (tSA g EW (fStar fa fr)) := ea_star C.K ha hr
/-! items, parts -/
theorem xIdx (C : Cg g X) (ha : PE X a (tS g EW fa)) (hb : PE X b (tS g EW fb)) (hs : noSlice b = true := by rfl) : PE X (.Subscript a b pos) (tS g EW (fIdx fa fb)) := em_idx C.K ha hb (noSlice_of hs)
theorem xSli (C : Cg g X) {lo hi : Option Expr} {p2 : Pos} {fl fh : Option (Env → Store → R D)} (ha : PE X a (tS g EW fa)) (hl : PO X lo (tSO g EW (fPart fl))) (hh : PO X hi (tSO g EW (fPart fh))) : PE X (.Subscript a (.Slice lo hi none p2) pos) (tS g EW (fSli fa fl fh)) := em_sli C.K ha hl hh
/-! built-in functions -/
variable {x : Str} {p : Pos} {es : List Expr} {fs : Env → Store → R (List D)}
theorem xLen (C : Cg g X) (ha : PA X [a] (tSA g EW fs)) (hm : X.mg "len" = none) (hg : glB X.env.scope "len" = true := by kernel_rfl) (he : noStar [a] = true := by rfl) : PE X (.Call (.Name "len" p) [a] [] pos) (tS g EW (fCall (fnV lenV) fs)) :=
  em_bf (pe_callB (cl_len C.K) (gl_of hg) hm boot_len ha (by decide) (by decide) (starEach_plain (noStar_of he a (by simp))) rfl)
theorem xAbs (C : Cg g X) (ha : PA X [a] (tSA g EW fs)) (hm : X.mg "abs" = none) (hg : glB X.env.scope "abs" = true := by kernel_rfl) (he : noStar [a] = true := by rfl) : PE X (.Call (.Name "abs" p) [a] [] pos) (tS g EW (fCall (fnV absV) fs)) :=
  em_bf (pe_callB cl_abs (gl_of hg) hm (by decide +kernel) ha (by decide) (by decide) (starEach_plain (noStar_of he a (by simp))) rfl)
theorem xAll (C : Cg g X) (ha : PA X [a] (tSA g EW fs)) (hm : X.mg "all" = none) (hg : glB X.env.scope "all" = true := by kernel_rfl) (he : noStar [a] = true := by rfl) : PE X (.Call (.Name "all" p) [a] [] pos) (tS g EW (fCall (fnV allV) fs)) :=
  em_bf (pe_callB (cl_all C.calm) (gl_of hg) hm (by decide +kernel) ha (by decide) (by decide) (starEach_plain (noStar_of he a (by simp))) rfl)
theorem xAny (C : Cg g X) (ha : PA X [a] (tSA g EW fs)) (hm : X.mg "any" = none) (hg : glB X.env.scope "any" = true := by kernel_rfl) (he : noStar [a] = true := by rfl) : PE X (.Call (.Name "any" p) [a] [] pos) (tS g EW (fCall (fnV anyV) fs)) :=
  em_bf (pe_callB (cl_any C.calm) (gl_of hg) hm (by decide +kernel) ha (by decide) (by decide) (starEach_plain (noStar_of he a (by simp))) rfl)
theorem xRepr (C : Cg g X) (hG : X.A.guards = some []) (ha : PA X [a] (tSA g EW fs)) (hm : X.mg "repr" = none) (hg : glB X.env.scope "repr" = true := by kernel_rfl) (he : noStar [a] = true := by rfl) : PE X (.Call (.Name "repr" p) [a] [] pos) (tS g EW (fCall (fnV reprVs) fs)) :=
  em_bf (pe_callB (cl_repr C.K hG (by have := C.un; omega)) (gl_of hg) hm (by decide +kernel) ha (by decide) (by decide) (starEach_plain (noStar_of he a (by simp))) rfl)
theorem xMax (C : Cg g X) (ha : PA X [a, b] (tSA g EW fs)) (hm : X.mg "max" = none) (hg : glB X.env.scope "max" = true := by kernel_rfl) (he : noStar [a, b] = true := by rfl) : PE X (.Call (.Name "max" p) [a, b] [] pos) (tS g EW (fCall (fnV maxV) fs)) :=
  em_bf (pe_callB (cl_max C.calm) (gl_of hg) hm (by decide +kernel) ha (by decide) (by decide) (starEach_plain (noStar_of he a (by simp))) (star_none fun e h => noStar_of he e (by simp at h; simp [h])))
theorem xMin (C : Cg g X) (ha : PA X [a, b] (tSA g EW fs)) (hm : X.mg "min" = none) (hg : glB X.env.scope "min" = true := by kernel_rfl) (he : noStar [a, b] = true := by rfl) : PE X (.Call (.Name "min" p) [a, b] [] pos) (tS g EW (fCall (fnV minV) fs)) :=
  em_bf (pe_callB (cl_min C.calm) (gl_of hg) hm (by decide +kernel) ha (by decide) (by decide) (starEach_plain (noStar_of he a (by simp))) (star_none fun e h => noStar_of he e (by simp at h; simp [h])))
theorem xDivmod (C : Cg g X) (ha : PA X [a, b] (tSA g EW fs)) (hm : X.mg "divmod" = none) (hg : glB X.env.scope "divmod" = true := by kernel_rfl) (he : noStar [a, b] = true := by rfl) : PE X (.Call (.Name "divmod" p) [a, b] [] pos) (tS g EW (fCall (fnV divmodV) fs)) :=
  em_bf (pe_callB cl_divmod (gl_of hg) hm (by decide +kernel) ha (by decide) (by decide) (starEach_plain (noStar_of he a (by simp))) (star_none fun e h => noStar_of he e (by simp at h; simp [h])))
theorem xGcd (C : Cg g X) (ha : PA X [a, b] (tSA g EW fs)) (hm : X.mg "gcd" = some (.builtin "math.gcd")) (hg : glB X.env.scope "gcd" = true := by kernel_rfl) (he : noStar [a, b] = true := by rfl) : PE X (.Call (.Name "gcd" p) [a, b] [] pos) (tS g EW (fCall (fnV gcdV) fs)) :=
  em_bf (pe_callBfun cl_gcd (gl_of hg) hm ha (by decide) (starEach_plain (noStar_of he a (by simp))) (star_none fun e h => noStar_of he e (by simp at h; simp [h])))
theorem xInt (C : Cg g X) (ha : PA X [a] (tSA g EW fs)) (hm : X.mg "int" = none) (hg : glB X.env.scope "int" = true := by kernel_rfl) (he : noStar [a] = true := by rfl) : PE X (.Call (.Name "int" p) [a] [] pos) (tS g EW (fCall (fnV intV) fs)) :=
  em_bf (pe_callTy cl_int (gl_of hg) hm (by decide +kernel) ha (by decide) (by decide) (starEach_plain (noStar_of he a (by simp))) rfl)
theorem xStr (C : Cg g X) (ha : PA X [a] (tSA g EW fs)) (hm : X.mg "str" = none) (hg : glB X.env.scope "str" = true := by kernel_rfl) (he : noStar [a] = true := by rfl) : PE X (.Call (.Name "str" p) [a] [] pos) (tS g EW (fCall (fnV strV) fs)) :=
  em_bf (pe_callTy cl_str (gl_of hg) hm (by decide +kernel) ha (by decide) (by decide) (starEach_plain (noStar_of he a (by simp))) rfl)
theorem xList (C : Cg g X) (ha : PA X [a] (tSA g EW fs)) (hm : X.mg "list" = none) (hg : glB X.env.scope "list" = true := by kernel_rfl) (he : noStar [a] = true := by rfl) : PE X (.Call (.Name "list" p) [a] [] pos) (tS g EW (fCall (fnV listV) fs)) :=
  em_bf (pe_callTy (cl_list C.K) (gl_of hg) hm (by decide +kernel) ha (by decide) (by decide) (starEach_plain (noStar_of he a (by simp))) rfl)
theorem xTuple (C : Cg g X) (ha : PA X [a] (tSA g EW fs)) (hm : X.mg "tuple" = none) (hg : glB X.env.scope "tuple" = true := by kernel_rfl) (he : noStar [a] = true := by rfl) : PE X (.Call (.Name "tuple" p) [a] [] pos) (tS g EW (fCall (fnV tupleV) fs)) :=
  em_bf (pe_callTy (cl_tuple C.K) (gl_of hg) hm (by decide +kernel) ha (by decide) (by decide) (starEach_plain (noStar_of he a (by simp))) rfl)
theorem xIsi (T : String) {T' : Str} {p2 : Pos} (C : Cg g X) (ha : PE X a (tS g EW fa)) (hm : X.mg "isinstance" = none) (hmT : X.mg T' = none) (hv : bootBuiltins T' = some (.type T) := by decide +kernel) (hg : glB X.env.scope "isinstance" = true := by kernel_rfl) (hgT : glB X.env.scope T' = true := by kernel_rfl) (hn : nmB T' = true := by kernel_rfl) (he : noStar [a] = true := by rfl) :
    PE X (.Call (.Name "isinstance" p) [a, .Name T' p2] [] pos) (tS g EW (fIsi T fa)) :=
  em_isi C.K ha (pe_bltn (gl_of hgT) hmT hv rfl (nm_of hn).2.2 (nm_of hn).1) (gl_of hg) hm (fun y q => noStar_of he a (by simp) y q)
/-! methods of built-in types -/
theorem xBm {T : String} {m : Str} {k : D → List D → Store → R D} {apos : Pos} (hT : T = "str" ∨ T = "list") (M : MthOk g EW X T m k) (ho : PE X a (tS g EW fa)) (ha : PA X es (tSA g EW fs)) (hp : noCall a = true := by rfl) (hst : noStar es = true := by rfl) (hl : decide (es.length < 30) = true := by rfl) (hpos : (apos.endLine == pos.line) = true := by rfl) (hnil : es = [] → fs = fNil := by first | exact fun _ => rfl | exact fun h => nomatch h) :
    PE X (.Call (.Attribute a m apos) es [] pos) (tS g EW (fBm T k fa fs)) := em_bm hT M ho ha (noCall_of hp) (noStar_of hst) (of_decide_eq_true hl) hpos hnil
theorem mApp : MthOk g EW X "list" "append" mAppend := mo_append
theorem mPp : MthOk g EW X "list" "pop" mPop := mo_pop
theorem mExt : MthOk g EW X "list" "extend" mExtend := mo_extend
theorem mIxL (C : Cg g X) : MthOk g EW X "list" "index" mIndexL := mo_indexL C.K (by have := C.un; omega)
theorem mJn (C : Cg g X) : MthOk g EW X "str" "join" mJoin := mo_join C.K
/-! attributes -/
theorem xFld (C : Cg g X) {fk : Nat → Str → Bool} (hf : ∀ c f, fk c f = true → Cls g.K (g.cad c) ∧ NoAttr g.K (g.cad c) f) {f : Str} (ha : PE X a (tS g EW fa)) (hp : noCall a = true := by rfl) : PE X (.Attribute a f pos) (tS g EW (fFld fk fa f)) := em_fld C.K hf ha (noCall_of hp)
/-! what is known of a def -/
structure Kn (g : Gm) (P : Program) (w : World) (K : PySem.W.Frag) (mg : Str → Option Value) (base : Heap) (x : Str) (n : Nat) (ps : List Str) (run : List D → Store → R D) : Prop where
  ex : ∃ f fd, FnOk P w K mg base (L2.CX P w) n f fd ps (spOf g run) ∧ mg x = some (.ref f) ∧ PySem.W.keepIn K (.ref f) = true ∧ Binds K fd ps []
structure KnG (g : Gm) (P : Program) (w : World) (K : PySem.W.Frag) (mg : Str → Option Value) (base : Heap) (x : Str) (n : Nat) (ps : List Str) (run : List D → Store → R D) : Prop where
  ex : ∃ f fd, FnG P w K mg base (L2.CX P w) n f fd ps (spOf g run) ∧ mg x = some (.ref f) ∧ PySem.W.keepIn K (.ref f) = true ∧ Binds K fd ps []
/-- .. called with keywords: a by position, the others by ks -/
structure Kk (g : Gm) (P : Program) (w : World) (K : PySem.W.Frag) (mg : Str → Option Value) (base : Heap) (x : Str) (n : Nat) (ps ks : List Str) (a b : Nat) (run : List D → Store → R D) : Prop where
  ex : ∃ f fd, FnOk P w K mg base (L2.CX P w) n f fd ps (spOf g run) ∧ mg x = some (.ref f) ∧ PySem.W.keepIn K (.ref f) = true ∧ KBinds K fd ps ks (kg a b) (kg a b)
def pR (run : List D → Store → R D) : List D → Store → R D := pureRun run
theorem xCall {n k : Nat} {ps : List Str} {run : List D → Store → R D} (Kf : Kn g X.prog X.w X.K X.mg X.base x n ps run) (tk : Takes X (fun c d _ H => EW c d H)) (hr : Room k X.A) (ha : PA X (a :: es) (tSA g EW fs)) (hnk : decide (n ≤ k) = true := by rfl) (hg : glB X.env.scope x = true := by kernel_rfl) (hn : nmB x = true := by kernel_rfl) (hst : noStar (a :: es) = true := by rfl) :
    PE X (.Call (.Name x p) (a :: es) [] pos) (tS g EW (fCall run fs)) := by
  obtain ⟨f, fd, F, hm, kp, hb⟩ := Kf.ex
  exact em_call (ds0 := []) (dvs := []) tk F (hr.mono (of_decide_eq_true hnk)) (gl_of hg) hm kp hb .nil (fun _ _ => .nil) ha (nm_of hn).1 (noStar_of hst) (.inl (by funext ds st; simp))
theorem xCallP {n k : Nat} {ps : List Str} {run : List D → Store → R D} (Kf : Kn g X.prog X.w X.K X.mg X.base x n ps run) (tk : Takes X (fun c d _ H => EW c d H)) (hr : Room k X.A) (ha : PA X (a :: es) (tSA g EW fs)) (hnk : decide (n ≤ k) = true := by rfl) (hg : glB X.env.scope x = true := by kernel_rfl) (hn : nmB x = true := by kernel_rfl) (hst : noStar (a :: es) = true := by rfl) :
    PE X (.Call (.Name x p) (a :: es) [] pos) (tS g EW (fCall (pR run) fs)) := by
  obtain ⟨f, fd, F, hm, kp, hb⟩ := Kf.ex
  exact em_call (ds0 := []) (dvs := []) tk F (hr.mono (of_decide_eq_true hnk)) (gl_of hg) hm kp hb .nil (fun _ _ => .nil) ha (nm_of hn).1 (noStar_of hst) (.inr (by funext ds st; simp [pR]))
theorem xCallG {n k : Nat} {ps : List Str} {run : List D → Store → R D} (Kf : KnG g X.prog X.w X.K X.mg X.base x n ps run) (hG : X.A.guards = some []) (tk : Takes X (fun c d _ H => EW c d H)) (hr : Room k X.A) (ha : PA X (a :: es) (tSA g EW fs)) (hnk : decide (n ≤ k) = true := by rfl) (hg : glB X.env.scope x = true := by kernel_rfl) (hn : nmB x = true := by kernel_rfl) (hst : noStar (a :: es) = true := by rfl) :
    PE X (.Call (.Name x p) (a :: es) [] pos) (tS g EW (fCall run fs)) := by
  obtain ⟨f, fd, F, hm, kp, hb⟩ := Kf.ex
  refine em_callG (ds0 := []) (dvs := []) tk ⟨F.len, fun A outer s H args us vs Q E h1 h2 => F.run A outer s H args us vs Q E h1 (h2.mono (Nat.le_refl n))⟩ hG (hr.mono (of_decide_eq_true hnk)) (gl_of hg) hm kp hb .nil (fun _ _ => .nil) ha (nm_of hn).1 (noStar_of hst) (.inl (by funext ds st; simp))
theorem xCallGP {n k : Nat} {ps : List Str} {run : List D → Store → R D} (Kf : KnG g X.prog X.w X.K X.mg X.base x n ps run) (hG : X.A.guards = some []) (tk : Takes X (fun c d _ H => EW c d H)) (hr : Room k X.A) (ha : PA X (a :: es) (tSA g EW fs)) (hnk : decide (n ≤ k) = true := by rfl) (hg : glB X.env.scope x = true := by kernel_rfl) (hn : nmB x = true := by kernel_rfl) (hst : noStar (a :: es) = true := by rfl) :
    PE X (.Call (.Name x p) (a :: es) [] pos) (tS g EW (fCall (pR run) fs)) := by
  obtain ⟨f, fd, F, hm, kp, hb⟩ := Kf.ex
  refine em_callG (ds0 := []) (dvs := []) tk F hG (hr.mono (of_decide_eq_true hnk)) (gl_of hg) hm kp hb .nil (fun _ _ => .nil) ha (nm_of hn).1 (noStar_of hst) (.inr (by funext ds st; simp [pR]))
theorem xCallK {n k : Nat} {ps ks : List Str} {i j : Nat} {kws : List Keyword} {run : List D → Store → R D} {fk : Env → Store → R (List D)} (Kf : Kk g X.prog X.w X.K X.mg X.base x n ps ks i j run) (tk : Takes X (fun c d _ H => EW c d H)) (hr : Room k X.A) (ha : PA X (a :: es) (tSA g EW fs)) (hkw : PK X kws (tSA g EW fk)) (hnk : decide (n ≤ k) = true := by rfl) (hg : glB X.env.scope x = true := by kernel_rfl) (hn : nmB x = true := by kernel_rfl) (hst : noStar (a :: es) = true := by rfl)
    (hall : (backToKw pos (keywordEach kws X.env)).all (·.1.isSome) = true := by rfl) (hks : (backToKw pos (keywordEach kws X.env)).filterMap (·.1) = ks := by rfl) (hpl : ((backTo pos (starEach (a :: es) X.env)).any (·.1) || (backToKw pos (keywordEach kws X.env)).any (·.1.isNone)) = false := by rfl) :
    PE X (.Call (.Name x p) (a :: es) kws pos) (tS g EW (fCallK i j run fs fk)) := by
  obtain ⟨f, fd, F, hm, kp, hb⟩ := Kf.ex
  exact em_callK tk F (hr.mono (of_decide_eq_true hnk)) (gl_of hg) hm kp hb ha hkw (nm_of hn).1 (noStar_of hst) hall hks hpl
theorem xCallK0 {n k : Nat} {ps ks : List Str} {j : Nat} {kws : List Keyword} {run : List D → Store → R D} {fk : Env → Store → R (List D)} (Kf : Kk g X.prog X.w X.K X.mg X.base x n ps ks 0 j run) (tk : Takes X (fun c d _ H => EW c d H)) (hr : Room k X.A) (hkw : PK X kws (tSA g EW fk)) (hnk : decide (n ≤ k) = true := by rfl) (hg : glB X.env.scope x = true := by kernel_rfl) (hn : nmB x = true := by kernel_rfl)
    (hall : (backToKw pos (keywordEach kws X.env)).all (·.1.isSome) = true := by rfl) (hks : (backToKw pos (keywordEach kws X.env)).filterMap (·.1) = ks := by rfl) (hpl : ((backTo pos (starEach [] X.env)).any (·.1) || (backToKw pos (keywordEach kws X.env)).any (·.1.isNone)) = false := by rfl) :
    PE X (.Call (.Name x p) [] kws pos) (tS g EW (fCallK0 j run fk)) := by
  obtain ⟨f, fd, F, hm, kp, hb⟩ := Kf.ex
  exact em_callK0 tk F (hr.mono (of_decide_eq_true hnk)) (gl_of hg) hm kp hb hkw (nm_of hn).1 hall hks hpl
/-! methods of the text's classes -/
structure KnM (g : Gm) (P : Program) (w : World) (K : PySem.W.Frag) (mg : Str → Option Value) (base : Heap) (c : Nat) (m : Str) (n : Nat) (ps : List Str) (run : List D → Store → R D) : Prop where
  ex : ∃ f fd, FnOk P w K mg base (L2.CX P w) n f fd ps (spOf g run) ∧ Cls K (g.cad c) ∧ Meth K (g.cad c) m f ∧ Binds K fd ps []
theorem xMeth {c n k : Nat} {m : Str} {ps : List Str} {run : List D → Store → R D} {apos : Pos} (Kf : KnM g X.prog X.w X.K X.mg X.base c m n ps run) (tk : Takes X (fun c d _ H => EW c d H)) (hr : Room k X.A) (ho : PE X a (tS g EW fa)) (ha : PA X es (tSA g EW fs)) (hnk : decide (n ≤ k) = true := by rfl) (hst : noStar es = true := by rfl) (hp : noCall a = true := by rfl) (hl : decide (es.length < 30) = true := by rfl) (hpos : (apos.endLine == pos.line) = true := by rfl) (hnil : es = [] → fs = fNil := by first | exact fun _ => rfl | exact fun h => nomatch h) :
    PE X (.Call (.Attribute a m apos) es [] pos) (tS g EW (fMeth c m run fa fs)) := by
  obtain ⟨f, fd, F, hc, hm, hb⟩ := Kf.ex
  exact em_meth tk ho hc hm F (hr.mono (of_decide_eq_true hnk)) hb ha (noStar_of hst) (noCall_of hp) (of_decide_eq_true hl) hpos hnil
structure KnC (g : Gm) (P : Program) (w : World) (K : PySem.W.Frag) (mg : Str → Option Value) (base : Heap) (x : Str) (c : Nat) (n : Nat) (ps : List Str) (run : List D → Store → R D) : Prop where
  ex : ∃ f fd, FnOk P w K mg base (L2.CX P w) n f fd ps (spOf g run) ∧ mg x = some (.ref (g.cad c)) ∧ Mk K (g.cad c) f ∧ Binds K fd ps []
theorem xMake {c n k : Nat} {ps : List Str} {run : List D → Store → R D} (Kf : KnC g X.prog X.w X.K X.mg X.base x c n ps run) (tk : Takes X (fun c d _ H => EW c d H)) (hr : Room k X.A) (ha : PA X es (tSA g EW fs)) (hnk : decide (n + 1 ≤ k) = true := by rfl) (hg : glB X.env.scope x = true := by kernel_rfl) (hn : nmB x = true := by kernel_rfl) (hst : noStar es = true := by rfl) (hnil : es = [] → fs = fNil := by first | exact fun _ => rfl | exact fun h => nomatch h) :
    PE X (.Call (.Name x p) es [] pos) (tS g EW (fMake c run fs)) := by
  obtain ⟨f, fd, F, hm, M, hb⟩ := Kf.ex
  exact em_make tk M F (hr.mono (of_decide_eq_true hnk)) (gl_of hg) hm hb ha (nm_of hn).1 (noStar_of hst) hnil
/-! raise -/
structure KnX (g : Gm) (P : Program) (w : World) (K : PySem.W.Frag) (mg : Str → Option Value) (base : Heap) (x : Str) (c : Nat) : Prop where
  ex : ∃ (f z : Str) (fI : Addr) (fd : FuncData), g.xat c = some f ∧ OexC K (g.cad c) ∧ PySem.W.findIn K (.ref (g.cad c)) "__init__" = some (some (.ref fI)) ∧ PySem.W.typeIn K (.ref fI) = some (.type "function") ∧ FnOk P w K mg base (L2.CX P w) 1 fI fd ["self", z] (spExC (g.cad c) f) ∧ Binds K fd ["self", z] [] ∧ mg x = some (.ref (g.cad c))
theorem sRse {c k : Nat} {pos' : Pos} (Kf : KnX g X.prog X.w X.K X.mg X.base x c) (C : Cg g X) (tk : Takes X (fun c d _ H => EW c d H)) (hr : Room k X.A) (he : PE X a (tS g EW fa)) (hnk : decide (2 ≤ k) = true := by rfl) (hg : glB X.env.scope x = true := by kernel_rfl) (hn : nmB x = true := by kernel_rfl) (hst : noStar [a] = true := by rfl) :
    PS X (.Raise (some (.Call (.Name x p) [a] [] pos)) none pos') (tSS g EW (sRaise c fa)) := by
  obtain ⟨f, z, fI, fd, h1, h2, h3, h4, h5, h6, h7⟩ := Kf.ex
  exact es_raise C.calm tk h1 h2 h3 h4 h5 (hr.mono (of_decide_eq_true hnk)) h6 (gl_of hg) h7 he (nm_of hn).1 (fun y q => noStar_of hst a (by simp) y q)
/-! statements -/
theorem sSetN (i : Nat) {pos' : Pos} (C : Cg g X) (he : PE X a (tS g EW fa)) (hi : X.N[i]? = some x := by rfl) (hx : cellB X.env.scope x = true := by kernel_rfl) (hf : (X.fn x || locB X.env.scope x) = true := by kernel_rfl) (hs : swapsWith a (some (.Name x pos')) pos.line X.env = pure false := by rfl) : PS X (.Assign [.Name x pos'] a pos) (tSS g EW (sSet i fa)) :=
  es_set C.nd hi (cell_of hx) he hs (fn_of' hf)
theorem sParN (i j : Nat) {x y : Str} {px py pt : Pos} {kt k2 pt2} (C : Cg g X) (ha : PA X [a, b] (tSA g EW fs)) (hi : X.N[i]? = some x := by rfl) (hj : X.N[j]? = some y := by rfl) (hij : decide (i ≠ j) = true := by rfl) (hx : locB X.env.scope x = true := by kernel_rfl) (hy : locB X.env.scope y = true := by kernel_rfl)
    (hw : swappedStores [.Tuple [.Name x px, .Name y py] kt pt] (.Tuple [a, b] k2 pt2) X.env = pure (some [x, y]) := by rfl) (hs : swapsWithSole [.Tuple [.Name x px, .Name y py] kt pt] (.Tuple [a, b] k2 pt2) pos.line X.env = pure false := by rfl) :
    PS X (.Assign [.Tuple [.Name x px, .Name y py] kt pt] (.Tuple [a, b] k2 pt2) pos) (tSS g EW (sPar i j fs)) := es_par C.calm C.nd hi hj (of_decide_eq_true hij) (loc_of hx) (loc_of hy) ha hw hs
theorem gN (i : Nat) (C : Cg g X) (hi : X.N[i]? = some x := by rfl) (hx : cellB X.env.scope x = true := by kernel_rfl) (hf : (X.fn x || locB X.env.scope x) = true := by kernel_rfl) : PG X (.Name x pos) (tSG g (gSet i)) := eg_name C.nd hi (cell_of hx) (fn_of' hf)
theorem gC {es : List Expr} {G : D → Env → Store → R Env} {Gs : List D → Env → Store → R Env} (h1 : PG X a (tSG g G)) (h2 : PGs X es (tSGs g Gs)) (hs : (assignEach (a :: es) X.env).map (·.2) = assign a X.env :: (assignEach es X.env).map (·.2) := by rfl) : PGs X (a :: es) (tSGs g (gCons' G Gs)) := egs_cons h1 h2 hs
theorem gT {es : List Expr} {k n : Nat} {G : List D → Env → Store → R Env} (C : Cg g X) (h : PGs X es (tSGs g G)) (hn : (assignEach es X.env).length = n := by rfl) (hst : (assignEach es X.env).findIdx? (·.1) = none := by rfl) : PG X (.Tuple es k pos) (tSG g (gTupD n G)) := eg_tup C.K C.calm h hn hst
theorem sAsgG {t : Expr} {G : D → Env → Store → R Env} (he : PE X a (tS g EW fa)) (hg : PG X t (tSG g G)) (hs : swapsWithSole [t] a pos.line X.env = pure false := by rfl) (hw : swappedStores [t] a X.env = pure none := by rfl) (h1 : (assignEach [t] X.env).map (·.2) = [assign t X.env] := by rfl) : PS X (.Assign [t] a pos) (tSS g EW (sAsg fa G)) := es_asg he hg hs hw h1
theorem sFldN (C : Cg g X) {fk : Nat → Str → Bool} (hf : ∀ c f, fk c f = true → Cls g.K (g.cad c) ∧ NoAttr g.K (g.cad c) f) {f : Str} {pos' : Pos} {fv : Env → Store → R D} (ho : PE X a (tS g EW fa)) (hv : PE X b (tS g EW fv)) (hs : swapsWith b (some (.Attribute a f pos')) pos.line X.env = pure false := by rfl) :
    PS X (.Assign [.Attribute a f pos'] b pos) (tSS g EW (sFldS fk fa fv f)) := es_fld C.K hf ho hv hs
theorem sDropN (he : PE X a (tS g EW fa)) (hs : swapsWith a none pos.line X.env = pure false := by rfl) : PS X (.Expr a pos) (tSS g EW (sDrop fa)) := es_drop he hs
theorem sForN {t : Expr} {body : List Stmt} {G : D → Env → Store → R Env} {fi : Env → Store → R (List D)} {m : SM} (C : Cg g X) (hp : PassesOwn (model X.prog X.w) X.A X.env X.xe) (hi : PI X t a (tSI g EW fi)) (hg : PG X t (tSG g G)) (hb : PSs X body (tSS g EW m)) (hs : ∀ x, foldedSetIterable a X.env x = pure x := by intro _; rfl) : PS X (.For t a body [] pos) (tSS g EW (sFor G fi m)) := es_for hp C.calm hi hg hb hs
theorem iAnyN {t : Expr} (C : Cg g X) (he : PE X a (tS g EW fa)) : PI X t a (tSI g EW (fIter fa)) := ei_any C.K he
theorem iRng {t : Expr} (ha : PE X a (tS g EW fa)) (hm : X.mg "range" = none) (hg : glB X.env.scope "range" = true := by kernel_rfl) (hst : noStar [a] = true := by rfl) : PI X t (.Call (.Name "range" p) [a] [] pos) (tSI g EW (fRng1 fa)) := ei_rng1 (gl_of hg) hm ha (fun y q => noStar_of hst a (by simp) y q)
theorem sWhileN (n : Nat) {body : List Stmt} {m : SM} (hp : PassesOwn (model X.prog X.w) X.A X.env X.xe) (hc : PT X a (tST g EW (fT fa))) (hb : PSs X body (tSS g EW m)) : PS X (.While a body [] pos) (tSS g EW (sWhile n fa m)) := es_while hp hc hb
/-! comprehensions -/
theorem wN (i : Nat) {vs : List Nat} (C : Cg g X) (hv : vs.contains i = true := by rfl) (hi : X.N[i]? = some x := by rfl) (hx : cellB X.env.scope x = true := by kernel_rfl) (hf : (X.fn x || locB X.env.scope x) = true := by kernel_rfl) : PG X (.Name x pos) (tSGw g vs (gSet i)) := egw_name (by simpa using hv) C.nd hi (cell_of hx) (fn_of' hf)
theorem xLc (own : List (Str × Nat)) (C : Cg g X) {t iter : Expr} {ifs : List Expr} {scope : Scope} {fi : Env → Store → R (List D)} {G : D → Env → Store → R Env} {ft : Env → Store → R Bool} {fe : Env → Store → R D} (hi : PI X t iter (tSI g EW fi))
    (hg : ∀ (s : Shared) (H : Hp) (D : Addr) (cl : List (Str × Addr)) (fp : List Addr), PG (X.blk s H scope (compEnvC scope cl D X.env) fp) t (tSGw g (own.map (·.2)) G)) (ht : ∀ (s : Shared) (H : Hp) (D : Addr) (cl : List (Str × Addr)) (fp : List Addr), PTs (X.blk s H scope (compEnvC scope cl D X.env) fp) ifs (tST g (fun _ _ _ => False) ft))
    (he : ∀ (s : Shared) (H : Hp) (D : Addr) (cl : List (Str × Addr)) (fp : List Addr), PE (X.blk s H scope (compEnvC scope cl D X.env) fp) a (tS g (fun _ _ _ => False) fe)) (ok : blkC X.N X.env.scope scope own = true := by kernel_rfl) (hs : ∀ x, foldedSetIterable iter X.env x = pure x := by intro _; rfl) :
    PE X (.ListComp a [⟨t, iter, ifs, 0⟩] scope pos) (tS g EW (fLc (own.map (·.2)) fi G ft fe)) := em_lc C.calm C.nd hi (blkOk_by ok) hg ht he hs
theorem xLc2 (own : List (Str × Nat)) (vs1 : List Nat) (C : Cg g X) {t iter t1 iter1 : Expr} {ifs ifs1 : List Expr} {scope : Scope} {fi fi1 : Env → Store → R (List D)} {G G1 : D → Env → Store → R Env} {ft ft1 : Env → Store → R Bool} {fe : Env → Store → R D} (hi : PI X t iter (tSI g EW fi))
    (hg : ∀ (s : Shared) (H : Hp) (D : Addr) (cl : List (Str × Addr)) (fp : List Addr), PG (X.blk s H scope (compEnvC scope cl D X.env) fp) t (tSGw g (own.map (·.2)) G)) (ht : ∀ (s : Shared) (H : Hp) (D : Addr) (cl : List (Str × Addr)) (fp : List Addr), PTs (X.blk s H scope (compEnvC scope cl D X.env) fp) ifs (tST g (fun _ _ _ => False) ft))
    (hi1 : ∀ (s : Shared) (H : Hp) (D : Addr) (cl : List (Str × Addr)) (fp : List Addr), PI (X.blk s H scope (compEnvC scope cl D X.env) fp) t1 iter1 (tSI g (fun _ _ _ => False) fi1))
    (hg1 : ∀ (s : Shared) (H : Hp) (D : Addr) (cl : List (Str × Addr)) (fp : List Addr), PG (X.blk s H scope (compEnvC scope cl D X.env) fp) t1 (tSGw g vs1 G1)) (ht1 : ∀ (s : Shared) (H : Hp) (D : Addr) (cl : List (Str × Addr)) (fp : List Addr), PTs (X.blk s H scope (compEnvC scope cl D X.env) fp) ifs1 (tST g (fun _ _ _ => False) ft1))
    (he : ∀ (s : Shared) (H : Hp) (D : Addr) (cl : List (Str × Addr)) (fp : List Addr), PE (X.blk s H scope (compEnvC scope cl D X.env) fp) a (tS g (fun _ _ _ => False) fe)) (ok : blkC X.N X.env.scope scope own = true := by kernel_rfl) (hv : (vs1.all fun i => (own.map (·.2)).contains i) = true := by rfl) (hs : ∀ x, foldedSetIterable iter X.env x = pure x := by intro _; rfl) (hs1 : ∀ env x, foldedSetIterable iter1 env x = pure x := by intro _ _; rfl) :
    PE X (.ListComp a [⟨t, iter, ifs, 0⟩, ⟨t1, iter1, ifs1, 0⟩] scope pos) (tS g EW (fLc2 (own.map (·.2)) vs1 fi G ft fi1 G1 ft1 fe)) :=
  em_lc2 C.calm C.nd hi (blkOk_by ok) (fun i h => by have := List.all_eq_true.mp hv i h; simpa using this) hg ht hi1 hg1 ht1 he hs hs1
end
/-- how a def without defaults is called with keywords -/
theorem funD_kb {K : PySem.W.Frag} {x qual : Str} {params : Arguments} {body : List Stmt} {scope : Scope} {kws : List (Str × V)} {f : Addr} {fd : FuncData} {ps ks : List Str} {a b : Nat} (F : FunD K x qual params body scope [] kws f fd) (hps : ps.length ≠ 0)
    (h : ∀ (kV doc pm : Value) (an : Option Addr) (cdv ct : Value) (us ws : List Value), us.length = a → ws.length = b → bindArgs (PySem.W.fnOf x qual params body scope .none kV doc pm an cdv ct) ⟨us, ks.zip ws⟩ = pure (ps.zip (us ++ ws))) : KBinds K fd ps ks (kg a b) (kg a b) := by
  obtain ⟨oc, od, dV, kV, doc, pm, an, cdv, ct, osl, rfl, lk, hcd, hD, hK⟩ := F.ex
  rcases hD with ⟨_, rfl⟩ | ⟨e, _⟩
  · exact kb_of hps (h kV doc pm an cdv ct)
  · exact absurd rfl e
/-! a lambda's body -/
section
variable {g : Gm} {X : Cx} {A : Around} {outer : List PySem.Env} {s : Shared} {H : Hp} {E : XK} {scope : Scope} {f c : Addr} {k : Nat}
theorem lamC (C : Cg g X) (hr : Room k (A.deeper (LamX.lamEnv X scope s.heap.objs.size f c))) : Cg g (LamX.lamCx X A outer s H E scope f c) := ⟨C.K, rfl, C.nd, by have h := hr.un; show (A.deeper _).units + 200 < cLine; omega⟩
theorem lamTk : Takes (LamX.lamCx X A outer s H E scope f c) (fun c d _ H => E c d H) := takes_of rfl rfl rfl rfl
end
end Mp
end

section
set_option Elab.async false
set_option linter.all false
set_option maxRecDepth 100000
set_option maxHeartbeats 4000000
/-! M17: what the head tells: a part of the heap without lists and tables; own exception classes; tables of code objects. -/
namespace Mp
open PySem PySem.Spec PyProof.Rows L2
/-! ### addresses -/
def cA (K : PySem.W.Frag) (x : Str) : Addr := match K.lookup (He.ga K x) with
  | some ⟨_, _, .func fd, _⟩ => (match fd.code with
    | .ref c => c
    | _ => 0)
  | _ => 0
def tA (K : PySem.W.Frag) (x : Str) : Addr := match K.lookup (cA K x) with
  | some ⟨_, _, .fields vs, _⟩ => (match (vs[11]? : Option Value) with
    | some (Value.ref c) => c
    | _ => 0)
  | _ => 0
/-! ### the part -/
def keepO (o : Obj) : Bool := match o.cls with
  | .type T => !(T == "list")
  | .none => (match o.data with
    | .dict _ _ => true
    | _ => false)
  | _ => true
def frM (g : Addr → Option Obj) (as : List Addr) : PySem.W.Frag := (He.frG g as).filter fun p => keepO p.2
theorem memLk {β : Type} {a : Addr} {o : β} : ∀ {l : List (Addr × β)}, l.lookup a = some o → (a, o) ∈ l
  | [], h => by cases h
  | (b, u) :: r, h => by
    rw [List.lookup_cons] at h
    split at h
    · rename_i e
      have : a = b := by simpa using e
      subst this
      cases h
      exact List.mem_cons_self
    · exact List.mem_cons_of_mem _ (memLk h)
theorem frM_at {g : Addr → Option Obj} {as : List Addr} {a : Addr} {o : Obj} (h : (frM g as).lookup a = some o) : g a = some o ∧ keepO o = true := by
  have m := memLk h
  obtain ⟨m1, m2⟩ := List.mem_filter.mp m
  obtain ⟨b, hb, e⟩ := List.mem_filterMap.mp m1
  cases q : g b with
  | none => rw [q] at e; cases e
  | some u =>
    rw [q] at e
    cases e
    exact ⟨q, m2⟩
theorem frM_in {as : List Addr} {h : Heap} : (frM h.get? as).In h := fun _ _ e => (frM_at e).1
/-! ### own exception classes -/
structure ExD where
  cls : Str
  fld : Str
  qual : Str
  params : Arguments
  body : List Stmt
  scope : Scope
abbrev FnX : Type := Option (Str × Str × Arguments × FuncBody × Scope × Addr × Addr)
def exI (K : PySem.W.Frag) (x : Str) : Addr := He.ma K (He.ga K x) "__init__"
def exV (K : PySem.W.Frag) (x : Str) : FnX := match K.lookup (exI K x) with
  | some ⟨_, _, .func fd, _⟩ => some (fd.name, fd.qualname, fd.params, fd.body, fd.scope, fd.globals, fd.builtins)
  | _ => none
def ExD.val (d : ExD) : FnX := some ("__init__", d.qual, d.params, .stmts d.body, d.scope, mainGlobals, builtinsNs)
def exCell (K : PySem.W.Frag) (C cc : Addr) : Bool := match K.lookup cc with
  | some ⟨_, _, .cell (some (.ref D)), _⟩ => D == C
  | _ => false
def exCode (K : PySem.W.Frag) (file : Str) (cd : Value) : Bool := match cd with
  | .ref c => (match K.lookup c with
    | some ⟨_, _, .fields vs, _⟩ => (match (vs[2]? : Option Value) with
      | some (Value.str f _) => file == f
      | _ => false)
    | _ => false)
  | _ => false
def exFn (K : PySem.W.Frag) (file : Str) (d : ExD) : Bool := match K.lookup (exI K d.cls) with
  | some ⟨_, _, .func fd, _⟩ => (match fd.closure with
    | [(n, cc)] => (n == ("__class__" : Str)) && exCell K (He.ga K d.cls) cc
    | _ => false) && (PySem.W.codeIn K fd.code d.qual && (exCode K file fd.code && decide (fd.defaults = .none)))
  | _ => false
def oexB (K : PySem.W.Frag) (C : Addr) : Bool := match K.lookup C with
  | some ⟨cl, _, .cls cd, sl⟩ => (decide (cl = .type "type")) && ((match cd.mro with
    | .ref C' :: bm => (C' == C) && PySem.HandSPX.refsVE bm
    | _ => false) && (cd.hasDict && (!cd.hasDel && (match sl.toList with
    | [_, _, _, _, some (.builtin n), _] => n == "ValueError.__new__"
    | _ => false))))
  | _ => false
def alB (K : PySem.W.Frag) (C : Addr) : Bool := match PySem.W.clsIn K C with
  | some cd => decide (PySem.W.alongIn K "__init__" ((cd.mro.dropWhile (· != .ref C)).drop 1) = some (some (.builtin "ValueError.__init__")))
  | none => false
def exB (K : PySem.W.Frag) (file : Str) (d : ExD) : Bool :=
  let C := He.ga K d.cls
  exFn K file d && (oexB K C && (He.eqO (PySem.W.findIn K (.ref C) "__setattr__") (some (some (.builtin "object.__setattr__"))) && (decide (PySem.W.subIn K (.ref C) (.type "BaseException") = some true) && (decide (PySem.W.typeIn K (.ref C) = some (.type "type")) && (PySem.W.keepIn K (.ref C) &&
  (He.eqO (PySem.W.findIn K (.ref C) "__init__") (some (some (.ref (exI K d.cls)))) && (decide (PySem.W.typeIn K (.ref (exI K d.cls)) = some (.type "function")) && (alB K C && (decide (PySem.W.mroIn K C (.ref C) = some true) && (decide (PySem.W.subIn K (.ref C) (.type "ValueError") = some true) &&
  (He.eqO (PySem.W.nsIn K PySem.cStatics "thirdparty.any") (some none) && He.eqO (PySem.W.findIn K (.ref C) d.fld) (some none))))))))))))
theorem oex_of {K : PySem.W.Frag} {C : Addr} (h : oexB K C = true) : ∃ nm q N bs bm sn sub ab col dd k0 k1 k2 k3 k5, K.lookup C = some (excClassObj nm q C N bs bm true sn sub ab col dd k0 k1 k2 k3 k5 "ValueError.__new__") ∧ PySem.HandSPX.refsVE bm = true := by
  unfold oexB at h
  split at h
  · rename_i cl dd cd sl e
    simp only [Bool.and_eq_true, decide_eq_true_eq, Bool.not_eq_true'] at h
    obtain ⟨rfl, h1, h2, h3, h4⟩ := h
    split at h1
    · rename_i C' bm e1
      simp only [Bool.and_eq_true, beq_iff_eq] at h1
      obtain ⟨rfl, hb⟩ := h1
      split at h4
      · rename_i k0 k1 k2 k3 n k5 e2
        have hn : n = "ValueError.__new__" := by simpa using h4
        subst hn
        have hsl : sl = #[k0, k1, k2, k3, some (.builtin "ValueError.__new__"), k5] := by
          obtain ⟨l⟩ := sl
          simp only at e2
          rw [e2]
        subst hsl
        obtain ⟨nm, bs, mro, ns, qn, hd, sn, sub, ab, col, del⟩ := cd
        dsimp only at e1 h2 h3
        subst e1 h2 h3
        exact ⟨nm, qn, ns, bs, bm, sn, sub, ab, col, dd, k0, k1, k2, k3, k5, e, hb⟩
      · cases h4
    · cases h1
  · cases h
theorem ekf_of {P : Program} {K : PySem.W.Frag} {d : ExD} (hv : exV K d.cls = d.val) (h : exB K P.main.file d = true) : ∃ fd, EKF P K (He.ga K d.cls) (exI K d.cls) d.qual d.params d.body d.scope d.fld d.fld fd ∧ fd.defaults = .none := by
  unfold exB at h
  simp only [Bool.and_eq_true, decide_eq_true_eq] at h
  obtain ⟨hf, ho, hsa, hex, hty, hk, hin, htf, hal, hmr, hsb, hst, hno⟩ := h
  unfold exV ExD.val at hv
  unfold exFn at hf
  split at hv
  · rename_i oc od fd osl lk
    rw [lk] at hf
    simp only [Bool.and_eq_true, decide_eq_true_eq] at hf
    obtain ⟨hcl, hcode, hcd, hdn⟩ := hf
    split at hcl
    · rename_i n cc ec
      simp only [Bool.and_eq_true, beq_iff_eq] at hcl
      obtain ⟨rfl, hcell⟩ := hcl
      have hv := Option.some.inj hv
      simp only [Prod.mk.injEq] at hv
      obtain ⟨e1, e2, e3, e4, e5, e6, e7⟩ := hv
      unfold exCode at hcd
      split at hcd
      · rename_i cda ecd
        split at hcd
        · rename_i o1 o2 vs o3 lkc
          split at hcd
          · rename_i f tf evs
            refine ⟨fd, ⟨⟨fd.defaults, fd.kwdefaults, fd.doc, fd.pyModule, fd.annotations, cda, fd.closureTuple, cc, oc, od, osl, ?_, lk, ?_, ⟨o1, o2, vs, o3, f, tf, lkc, evs, hcd⟩, ?_⟩, ⟨oex_of ho, He.eqO_ok hsa, hex, hty, hk⟩, He.eqO_ok hin, htf, ?_, hmr, hsb, He.eqO_ok hst, He.eqO_ok hno⟩, hdn⟩
            · obtain ⟨a1, a2, a3, a4, a5, a6, a7, a8, a9, a10, a11, a12, a13, a14⟩ := fd
              simp only at e1 e2 e3 e4 e5 e6 e7 ec ecd
              subst e1 e2 e3 e4 e5 e6 e7 ec ecd
              rfl
            · rw [← ecd]; exact hcode
            · unfold exCell at hcell
              split at hcell
              · rename_i c1 c2 D c3 lkl
                have : D = He.ga K d.cls := by simpa using hcell
                subst this
                exact ⟨c1, c2, c3, lkl⟩
              · cases hcell
            · unfold alB at hal
              split at hal
              · rename_i cd ecl
                exact ⟨cd, ecl, of_decide_eq_true hal⟩
              · cases hal
          · cases hcd
        · cases hcd
      · cases hcd
    · cases hcl
  · cases hv
/-- isinstance and fields of such classes -/
def icB (K : PySem.W.Frag) (C : Addr) : Bool := He.eqO (PySem.W.findIn K (.ref C) "__getattribute__") (some (some (.builtin "BaseException.__getattribute__"))) && (He.eqO (PySem.W.findIn K (.ref C) "__getattr__") (some none) && (decide (PySem.W.subIn K (.ref C) (.type "BaseException") = some true) && (PySem.W.hasDictIn K C &&
  (He.eqO (PySem.W.findIn K (.ref C) "__class__") (some (some (.builtin "object.__class__"))) && (He.eqO (PySem.W.specialIn K (.builtin "object.__class__") "__get__") (some (some (.builtin "getset_descriptor.__get__"))) && (decide (PySem.W.takesIn K (.builtin "object.__class__") = some true) && decide (PySem.W.mroIn K C (.type "object") = some true)))))))
theorem ic_of {K : PySem.W.Frag} {C : Addr} (h : icB K C = true) : ExcC K C ∧ XfC K C := by
  unfold icB at h
  simp only [Bool.and_eq_true, decide_eq_true_eq] at h
  obtain ⟨h1, h2, h3, h4, h5, h6, h7, h8⟩ := h
  exact ⟨⟨He.eqO_ok h1, He.eqO_ok h2, h3, h4, He.eqO_ok h5, He.eqO_ok h6, h7, h8⟩, ⟨He.eqO_ok h1, He.eqO_ok h2, h3, h4⟩⟩
/-! ### a tuple of the top -/
def tupB (K : PySem.W.Frag) (x : Str) (vs : List V) : Bool := match K.lookup (He.ga K x) with
  | some ⟨.type T, _, .seq its _, _⟩ => (T == "tuple") && (decide (its.size ≤ sizeLine) && He.relAll vs its.toList)
  | _ => false
theorem tup_of {K : PySem.W.Frag} {x : Str} {vs : List V} (h : tupB K x vs = true) (H : Hp) : SqT K H (He.ga K x) vs := by
  unfold tupB at h
  split at h
  · rename_i T dd its n sl e
    simp only [Bool.and_eq_true, decide_eq_true_eq] at h
    obtain ⟨h1, h2, h3⟩ := h
    have : T = "tuple" := by simpa using h1
    subst this
    exact .inr ⟨_, its, n, e, rfl, rfl, h2, He.relAll_ok h3⟩
  · cases h
/-! ### code objects and their tables -/
def codeB (K : PySem.W.Frag) (x : Str) : Bool := match K.lookup (cA K x) with
  | some ⟨.type T, _, .fields vs, _⟩ => (T == "code") && ((match (vs[11]? : Option Value) with
    | some (Value.ref _) => true
    | _ => false) && ((match vs.getD 18 .none with
    | .str _ _ => true
    | _ => false) && ((match vs.getD 7 .none with
    | .int _ _ => true
    | _ => false) && ((match vs.getD 9 .none with
    | .bool _ => true
    | _ => false) && ((match vs.getD 10 .none with
    | .int _ _ => true
    | _ => false) && !(cA K x == tA K x))))))
  | _ => false
theorem code_of {K : PySem.W.Frag} {h : Heap} {x : Str} (X : K.In h) (c : codeB K x = true) : PySem.W.CodeHd h (cA K x) (tA K x) := by
  unfold codeB at c
  split at c
  · rename_i T dd vs sl e
    simp only [Bool.and_eq_true, Bool.not_eq_true'] at c
    obtain ⟨c1, c2, c3, c4, c5, c6, c7⟩ := c
    have : T = "code" := by simpa using c1
    subst this
    split at c2
    · rename_i P e2
      split at c3
      · rename_i file tf e3
        split at c4
        · rename_i fl tg e4
          split at c5
          · rename_i inF e5
            split at c6
            · rename_i text tt e6
              have ht : tA K x = P := by
                unfold tA
                rw [e]
                simp only [e2]
              rw [ht] at c7 ⊢
              refine ⟨_, vs, file, tf, fl, tg, inF, text, tt, X _ _ e, rfl, rfl, e2, ?_, e3, e4, e5, e6, by simpa using c7⟩
              rw [Array.getD_eq_getD_getElem?, e2]
              rfl
            · cases c6
          · cases c5
        · cases c4
      · cases c3
    · cases c2
  · cases c
def tabB (o : Option Obj) : Bool := match o with
  | some ⟨.none, none, .fields vs, sl⟩ => vs.isEmpty && sl.isEmpty
  | _ => false
theorem tab_of {o : Option Obj} (h : tabB o = true) : o = some { cls := .none, data := .fields #[] } := by
  unfold tabB at h
  split at h
  · rename_i vs sl
    simp only [Bool.and_eq_true, Array.isEmpty_iff] at h
    obtain ⟨rfl, rfl⟩ := h
    rfl
  · cases h
/-! ### the Hook -/
abbrev AlM : Type := He.AlD × Bool × List FnX × Bool
structure HkD where
  n : Nat
  fa : List He.Fa
  fn : List He.DefD
  ex : List ExD
  mks : List Str
  chk : PySem.W.Frag → Bool
  file : Str
def HkD.K (d : HkD) (g : Addr → Option Obj) : PySem.W.Frag := frM g (PySem.cStatics :: He.asD g d.n)
def HkD.ob (d : HkD) (g : Addr → Option Obj) : AlM :=
  let K := d.K g
  (He.obsD d.fa d.fn K, d.chk K && ((d.ex.all fun e => exB K d.file e) && (d.mks.all fun x => codeB K x)), d.ex.map fun e => exV K e.cls, d.mks.all fun x => tabB (g (tA K x)))
def HkD.vl (d : HkD) : AlM := (He.valD d.fn, true, d.ex.map ExD.val, true)
structure HkD.Says (d : HkD) (h : Heap) (K : PySem.W.Frag) : Prop where
  kin : K.In h
  kp : ∀ a o, K.lookup a = some o → keepO o = true
  sd : He.SaysD d.fa d.fn K
  c : d.chk K = true
  e : ∀ x ∈ d.ex, exB K d.file x = true ∧ exV K x.cls = x.val
  m : ∀ x ∈ d.mks, codeB K x = true ∧ h.get? (tA K x) = some { cls := .none, data := .fields #[] }
theorem map_all {α β : Type} {l : List α} {f g : α → β} (h : l.map f = l.map g) : ∀ x ∈ l, f x = g x := List.map_inj_left.mp h
def HkD.hook (d : HkD) : PySem.W.Hook where
  α := AlM
  obs := fun s => d.ob s.heap.get?
  val := fun _ => d.vl
  says := fun _ h => ∃ K, d.Says h K
  of := fun _ s e => by
    have e1 : He.obsD d.fa d.fn (d.K s.heap.get?) = He.valD d.fn := congrArg (fun z : AlM => z.1) e
    have e2 : (d.chk (d.K s.heap.get?) && ((d.ex.all fun e => exB (d.K s.heap.get?) d.file e) && (d.mks.all fun x => codeB (d.K s.heap.get?) x))) = true := congrArg (fun z : AlM => z.2.1) e
    have e3 : (d.ex.map fun e => exV (d.K s.heap.get?) e.cls) = d.ex.map ExD.val := congrArg (fun z : AlM => z.2.2.1) e
    have e4 : (d.mks.all fun x => tabB (s.heap.get? (tA (d.K s.heap.get?) x))) = true := congrArg (fun z : AlM => z.2.2.2) e
    simp only [Bool.and_eq_true] at e2
    obtain ⟨c1, c2, c3⟩ := e2
    exact ⟨d.K s.heap.get?, frM_in, fun a o h => (frM_at h).2, e1, c1, fun x hx => ⟨List.all_eq_true.mp c2 x hx, map_all e3 x hx⟩, fun x hx => ⟨List.all_eq_true.mp c3 x hx, tab_of (List.all_eq_true.mp e4 x hx)⟩⟩
  keeps := fun _ _ _ ⟨K, z⟩ k => ⟨K, PySem.W.Frag.In.keeps z.kin k, z.kp, z.sd, z.c, z.e, fun x hx => ⟨(z.m x hx).1, k _ _ (z.m x hx).2⟩⟩
def HkD.obT (d : HkD) (s : PySem.W.SharedT) : AlM := d.ob (HandSHeadRun.getT s)
theorem HkD.obT_eq (d : HkD) (s : PySem.W.SharedT) : d.obT s = d.hook.obs s.abs := by
  unfold HkD.obT
  have e : HandSHeadRun.getT s = s.abs.heap.get? := funext (HandSHeadRun.getT_eq s)
  rw [e]
  rfl
theorem nolist {o : Obj} (h : keepO o = true) : o.cls ≠ .type "list" := fun e => by
  unfold keepO at h
  rw [e] at h
  simp at h
theorem notab {K : PySem.W.Frag} {h : Heap} {a : Addr} (X : K.In h) (kp : ∀ a o, K.lookup a = some o → keepO o = true) (t : h.get? a = some { cls := .none, data := .fields #[] }) : K.lookup a = none := by
  cases e : K.lookup a with
  | none => rfl
  | some o =>
    have q := X a o e
    rw [t] at q
    cases q
    have := kp a _ e
    cases this
end Mp
end

section
set_option Elab.async false
set_option linter.all false
set_option maxRecDepth 100000
set_option maxHeartbeats 4000000
/-! M18: the law's call, where its def keeps a promise under no repr (after the library's law_callTs, for FnG and a part without lists). -/
namespace Mp
open PySem PySem.W PySem.Spec PyProof.Rows L2 LamX
/-- the heap's tracked part at the law's call: the script, the tables -/
def HL (a : Addr) (o : Obj) (xs : List V) (ts : List Addr) : Hp := fun b => if b = a then some (.frz o (.lst xs)) else if b ∈ ts then some (.tbl #[]) else none
theorem law_callG {P : Program} {w : World} {K : PySem.W.Frag} {mg mb : Str → Option Value} {k : Nat} {fa a : Addr} {cs : List (Addr × Addr)} {fd : FuncData} {x : Str} {sp : Sp} {s₁ : Shared} {vs : List Value} {ns : List Int}
    (KX : K.In s₁.heap) (hns : s₁.heap.Ns mainGlobals mg) (hb : s₁.heap.Ns builtinsNs mb) (hbb : ∀ x : Str, x ≠ "__name__" → mb x = bootBuiltins x) (hlim : s₁.heap.NoLimit) (hg : s₁.gens = #[])
    (hT : ∀ p ∈ cs, s₁.heap.get? p.2 = some { cls := .none, data := .fields #[] }) (nT : ∀ p ∈ cs, K.lookup p.2 = none) (C : ∀ p ∈ cs, PySem.W.CodeHd s₁.heap p.1 p.2) (hk : K.lookup a = none)
    (hbm : ∃ (bm : Addr) (ob : Obj), mg "__builtins__" = some (.ref bm) ∧ bm ≠ builtinsNs ∧ s₁.heap.get? bm = some ob ∧ ob.cls = .type "module" ∧ ob.dict = some builtinsNs ∧ ob.data = .plain)
    (ha : s₁.heap.get? a = some { cls := .type "list", data := .seq vs.toArray }) (hi : IntsAre vs ns) (hl : ns.length ≤ sizeLine) (hr : Room k callerA)
    (F : ∀ base : Heap, K.In base → base.Ns mainGlobals mg → (∀ p ∈ cs, TabB base mg p.1 p.2) → FnG P w K mg base (L2.CX P w) k fa fd [x] sp) (hbind : ∀ (s : Shared) (u : Value), BindsTo s fd ⟨[u], []⟩ [(x, u)])
    (hsp : sp [.ref a] (HL a { cls := .type "list", data := .seq vs.toArray } (ns.map V.int) (cs.map (·.2))) (fun v _ => v = .bl true) fun _ _ _ => False) :
    codeAny (model P w) callerA (.call (.ref fa) ⟨[.ref a], []⟩) (fun r s' => r = .ok (.ret (.bool true)) ∧ OldK s₁.heap s'.heap ∧ s'.os = s₁.os ∧ AllBare s'.gens) s₁ := by
  have rv := vals_ints hi
  have isT : ∀ b : Addr, b ∈ cs.map (·.2) → s₁.heap.get? b = some { cls := .none, data := .fields #[] } := fun b hb => by
    obtain ⟨p, hp, e⟩ := List.mem_map.mp hb
    rw [← e]
    exact hT p hp
  have aT : a ∉ cs.map (·.2) := fun z => by
    have q := isT a z
    rw [ha] at q
    have z' : Data.seq vs.toArray _ = Data.fields #[] := congrArg Obj.data (Option.some.inj q)
    cases z'
  have memT : ∀ p ∈ cs, p.2 ∈ cs.map (·.2) := fun p hp => List.mem_map.mpr ⟨p, hp, rfl⟩
  have hat : HL a { cls := .type "list", data := .seq vs.toArray } (ns.map V.int) (cs.map (·.2)) a = some (.frz { cls := .type "list", data := .seq vs.toArray } (.lst (ns.map V.int))) := if_pos rfl
  have htb : ∀ b, b ∈ cs.map (·.2) → HL a { cls := .type "list", data := .seq vs.toArray } (ns.map V.int) (cs.map (·.2)) b = some (.tbl #[]) := fun b m => (if_neg (show ¬ b = a from fun z => aT (by rw [← z]; exact m))).trans (if_pos m)
  have hno : ∀ b, b ≠ a → b ∉ cs.map (·.2) → HL a { cls := .type "list", data := .seq vs.toArray } (ns.map V.int) (cs.map (·.2)) b = none := fun b h1 h2 => (if_neg h1).trans (if_neg h2)
  generalize HL a { cls := .type "list", data := .seq vs.toArray } (ns.map V.int) (cs.map (·.2)) = H at hsp hat htb hno
  have hok : HOk P w H s₁.heap := fun b u z => by
    by_cases h1 : b = a
    · subst h1
      rw [hat] at z
      cases z
      exact ⟨ha, by rw [List.length_map]; exact hl, vs, _, rv, ha⟩
    · by_cases h2 : b ∈ cs.map (·.2)
      · rw [htb b h2] at z
        cases z
        exact isT b h2
      · rw [hno b h1 h2] at z
        cases z
  have off : ∀ {b : Addr} {o : Obj}, s₁.heap.get? b = some o → (∀ vs n, o.data ≠ .seq vs n) → o.data ≠ .fields #[] → H b = none := fun {b o} e h1 h2 => by
    refine hno b (fun z => ?_) fun z => ?_
    · rw [z, ha] at e
      cases e
      exact h1 _ _ rfl
    · rw [isT b z] at e
      cases e
      exact h2 rfl
  have offD : ∀ {b : Addr} {o : Obj} {es : Array DictEntry} {ep : Nat}, s₁.heap.get? b = some o → o.data = .dict es ep → H b = none := fun {b o es ep} e d => off e (fun vs n z => by rw [d] at z; cases z) fun z => by rw [d] at z; cases z
  have atB : ∀ {b : Addr} {o : Obj}, s₁.heap.get? b = some o → H b = none → (hidT s₁.heap H).get? b = some o := fun e n => hidT_get e n
  have nsB : ∀ {b : Addr} {m : Str → Option Value}, s₁.heap.Ns b m → (hidT s₁.heap H).Ns b m := fun {b m} ⟨o, es, ep, e, d, r⟩ => ⟨o, es, ep, atB e (offD e d), d, r⟩
  have hKb : K.In (hidT s₁.heap H) := fun b o e => atB (KX b o e) (by
    refine hno b (fun z => ?_) fun z => ?_
    · rw [z, hk] at e; cases e
    · obtain ⟨p, hp, ep⟩ := List.mem_map.mp z
      rw [← ep, nT p hp] at e
      cases e)
  have hM : L2.Mod K mg (hidT s₁.heap H) := ⟨hKb, nsB hns, ⟨mb, nsB hb, hbb⟩, let ⟨mc, h1, h2⟩ := hlim; ⟨mc, nsB h1, h2⟩⟩
  have TB : ∀ p ∈ cs, TabB (hidT s₁.heap H) mg p.1 p.2 := fun p hp => by
    have hTp := hT p hp
    refine ⟨?_, ?_, fun z => ?_⟩
    · obtain ⟨o, us, file, tf, flags, tg, inF, text, tt, e1, r1, r2, r3, r4⟩ := C p hp
      refine ⟨o, us, file, tf, flags, tg, inF, text, tt, atB e1 (off e1 (fun vs n z => ?_) fun z => ?_), r1, r2, r3, r4⟩
      · rw [r2] at z; cases z
      · rw [r2] at z
        cases z
        simp at r3
    · obtain ⟨bm, ob, b1, b2, b3, b4, b5, b6⟩ := hbm
      refine ⟨bm, ob, b1, b2, fun q => ?_, fun q => ?_, atB b3 (off b3 (fun vs n z => ?_) fun z => ?_), b4, b5, b6⟩
      · obtain ⟨o, es, ep, e, hd, _⟩ := hns
        rw [q, e] at b3
        cases b3
        rw [hd] at b6
        cases b6
      · rw [q, hTp] at b3
        cases b3
        cases b6
      · rw [b6] at z; cases z
      · rw [b6] at z; cases z
    · obtain ⟨o, es, ep, e, hd, _⟩ := hns
      rw [z, hTp] at e
      cases e
      cases hd
  have e0 : Env0 P w K mg (hidT s₁.heap H) callerA [] s₁ H := ⟨rfl, hM, fun b o e => of_hidT e, Nat.le_of_eq (hidT_size _ _), trivial, fun b hb => absurd (show b ∈ ([] : List Addr) from hb) (by simp), hok, .of_eq hg⟩
  refine codeAny_mono ((F _ hKb (nsB hns) TB).run callerA [] s₁ H ⟨[.ref a], []⟩ [.ref a] [.ref a] _ _ rfl hr e0 (hbind s₁ (.ref a)) (.cons rfl .nil) hsp) fun r s' h => ?_
  cases r with
  | error e =>
    obtain ⟨_, _, _, _, _, _, _, _, _, _, _, _, z⟩ := h
    exact z.elim
  | ok fl =>
    cases fl with
    | next => exact False.elim h
    | brk => exact False.elim h
    | cont => exact False.elim h
    | ret u =>
      obtain ⟨v, H', os, bare, un, hok', r', q⟩ := h
      have q' : v = .bl true := q
      subst q'
      obtain rfl : u = Value.bool true := r'
      have key : ∀ b o, b ∉ cs.map (·.2) → s₁.heap.get? b = some o → s'.heap.get? b = some o := fun b o nb e => by
        by_cases hba : b = a
        · subst hba
          have z2 := un.frzs b _ _ hat
          obtain ⟨e2, _⟩ := hok' b _ z2
          rw [ha] at e; cases e
          exact e2
        · exact un.keep b o e (hno b hba nb) (by intro z; exact absurd (show b ∈ ([] : List Addr) from z) (by simp)) (by simp)
      have grown : ∀ p ∈ cs, ∃ more : Array Value, s'.heap.get? p.2 = some { cls := .none, data := .fields more } := fun p hp => by
        obtain ⟨more, z⟩ := un.tbls p.2 #[] (htb _ (memT p hp))
        exact ⟨_, hok' p.2 _ z⟩
      refine ⟨rfl, ⟨fun b o e => ?_, fun b o e => ?_⟩, os, bare⟩
      · by_cases hb : b ∈ cs.map (·.2)
        · obtain ⟨p, hp, ep⟩ := List.mem_map.mp hb
          obtain ⟨more, hm⟩ := grown p hp
          rw [← ep] at e ⊢
          rw [hT p hp] at e
          cases e
          exact .inr (.inl ⟨((C p hp).tab (hT p hp)).isCodeTable, rfl, #[], more, rfl, by rw [Array.empty_append]; exact hm⟩)
        · exact .inl (key b o hb e)
      · by_cases hb : b ∈ cs.map (·.2)
        · obtain ⟨p, hp, ep⟩ := List.mem_map.mp hb
          obtain ⟨more, hm⟩ := grown p hp
          rw [← ep]
          exact ⟨_, hm⟩
        · exact ⟨o, key b o hb e⟩
/-- what is known of the law's promise at the head's heap h -/
def LawG (l : PySem.W.OpenLaw) (w : World) (k n : Nat) (x : Str) (mg : Str → Option Value) (fa : Addr) (h : Heap) : Prop :=
  ∃ (K : PySem.W.Frag) (fd : FuncData) (cs : List (Addr × Addr)) (sp : Sp), K.In h ∧ (∀ a o, K.lookup a = some o → o.cls ≠ .type "list") ∧ (∀ p ∈ cs, h.get? p.2 = some { cls := .none, data := .fields #[] }) ∧ (∀ p ∈ cs, K.lookup p.2 = none) ∧ (∀ p ∈ cs, PySem.W.CodeHd h p.1 p.2) ∧ (∀ (s : Shared) (u : Value), BindsTo s fd ⟨[u], []⟩ [(x, u)]) ∧
    (∀ (o : Obj) (a : Addr) (ns : List Int), ns.length ≤ n → (∀ z ∈ ns, Builtin.Int.intBits z ≤ 1048576) → a ∉ cs.map (·.2) → sp [.ref a] (HL a o (ns.map V.int) (cs.map (·.2))) (fun v _ => v = .bl true) fun _ _ _ => False) ∧
    ∀ base : Heap, K.In base → base.Ns mainGlobals mg → (∀ p ∈ cs, TabB base mg p.1 p.2) → FnG l.prog w K mg base (L2.CX l.prog w) k fa fd [x] sp
theorem walk_ofG {l : PySem.W.OpenLaw} {n k : Nat} {q : Program} {loose : List Str} {XP : (Str → Option Value) → Heap → Prop} {YP : World → Heap → Prop} {d : DefRec} {x : Str}
    (hn : l.most = some n) (hn2 : n ≤ sizeLine) (hdf : d.params.defaults = []) (hr : Room k callerA)
    (F : ∀ (w : World) (mg : Str → Option Value) (fa : Addr) (h : Heap), YP w h → h.Ns mainGlobals mg → mg d.name = some (.ref fa) → LawG l w k n x mg fa h) :
    PySem.W.WalkO q loose XP YP l.row.toRowW d [] (fun f vs => PySem.call f vs) := by
  refine Att.attach_callB hn hdf fun w s₀ s₁ mg mb fa o pm cd doc a vs ns G Y ho hd hcd hmg hobj hints hlen hbits hg => ?_
  obtain ⟨K, fd, cs, sp, KX, nl, hT, nT, C, hb, hsp, hF⟩ := F w mg fa _ Y G.T.g hmg
  have hk : K.lookup a = none := by
    cases e : K.lookup a with
    | none => rfl
    | some o =>
      have q := KX a o e
      rw [hobj] at q
      cases q
      exact absurd rfl (nl a _ e)
  have aT : a ∉ cs.map (·.2) := fun z => by
    obtain ⟨p, hp, e⟩ := List.mem_map.mp z
    have q := hT p hp
    rw [e, hobj] at q
    have z' : Data.seq vs.toArray _ = Data.fields #[] := congrArg Obj.data (Option.some.inj q)
    cases z'
  exact law_callG KX G.T.g G.T.b G.T.builtins G.T.nolimit hg hT nT C hk G.T.bmain hobj hints (Nat.le_trans hlen hn2) hr hF hb (hsp _ a ns hlen hbits aT)
end Mp
end

section
set_option Elab.async false
set_option linter.all false
set_option maxRecDepth 100000
set_option maxHeartbeats 4000000
/-! the defs of the top, walked (printed by wip/gen/gen.py). -/
namespace K32
open PySem PySem.Spec PyProof.Rows L2 Mp
abbrev prg : Program := PySem.Challenge.rw_lastdigits_k32_whole_decimals_there_and.prog
def top (i : Nat) : Stmt := prg.main.body.getD i (.Pass ⟨0, 0, 0, 0⟩)
def clsBody : Stmt → List Stmt
  | .ClassDef (body := b) .. => b
  | _ => []
def topm (i j : Nat) : Stmt := (clsBody (top i)).getD j (.Pass ⟨0, 0, 0, 0⟩)
/-! ### addresses -/
def cadF (K : PySem.W.Frag) : Nat → Addr
  | 0 => He.ga K "InvalidDecimal"
  | 1 => He.ga K "InvalidExpression"
  | 2 => He.ga K "InvalidNumber"
  | 3 => He.ga K "InvalidFraction"
  | 4 => He.ga K "InvalidText"
  | 5 => He.ga K "Stack"
  | _ => 0
def xatF : Nat → Option Str
  | 0 => some "given"
  | 1 => some "given"
  | 2 => some "given"
  | 3 => some "given"
  | 4 => some "index"
  | _ => none
def gm (K : PySem.W.Frag) : Gm := { K := K, cad := cadF K, xat := xatF, T := [(tA K "_law_decimal_right", "_law_decimal_right.<locals>.<lambda>"), (tA K "_law_odd_right", "_law_odd_right.<locals>.<lambda>")] }
def fk : Nat → Str → Bool := fun c f => (c == 5 && f == ("held" : Str))
def et : Nat → Option Str
  | 4 => some "text"
  | 0 => some "decimal"
  | 1 => some "expression"
  | 3 => some "fraction"
  | 2 => some "number"
  | _ => none
def d_OPS : PyData := .tuple [.str "+", .str "-", .str "*", .str "/"]
def d_WORDS : PyData := .tuple [.str "else", .str "end", .str "fun", .str "give", .str "if", .str "in", .str "let", .str "main", .str "out", .str "repeat", .str "to"]
end K32
end

section
set_option Elab.async false
set_option linter.all false
set_option maxRecDepth 100000
set_option maxHeartbeats 4000000
/-! the head's facts (printed by wip/gen/gen.py). -/
namespace K32
open PySem PySem.Spec PyProof.Rows L2 Mp
def fn : List He.DefD := [⟨("is_whole", none), "is_whole", "is_whole", defArgs (top 15), defBody (top 15), defScope (top 15), [], []⟩,
  ⟨("is_in", none), "is_in", "is_in", defArgs (top 16), defBody (top 16), defScope (top 16), [], []⟩,
  ⟨("is_text", none), "is_text", "is_text", defArgs (top 17), defBody (top 17), defScope (top 17), [], []⟩,
  ⟨("is_tuple_of", none), "is_tuple_of", "is_tuple_of", defArgs (top 18), defBody (top 18), defScope (top 18), [], []⟩,
  ⟨("is_short_tuple", none), "is_short_tuple", "is_short_tuple", defArgs (top 19), defBody (top 19), defScope (top 19), [], []⟩,
  ⟨("head_of", none), "head_of", "head_of", defArgs (top 20), defBody (top 20), defScope (top 20), [], []⟩,
  ⟨("is_name", none), "is_name", "is_name", defArgs (top 21), defBody (top 21), defScope (top 21), [], []⟩,
  ⟨("is_decimal_form", none), "is_decimal_form", "is_decimal_form", defArgs (top 22), defBody (top 22), defScope (top 22), [], []⟩,
  ⟨("whole_of", none), "whole_of", "whole_of", defArgs (top 23), defBody (top 23), defScope (top 23), [], []⟩,
  ⟨("lowest", none), "lowest", "lowest", defArgs (top 25), defBody (top 25), defScope (top 25), [], []⟩,
  ⟨("is_fraction", none), "is_fraction", "is_fraction", defArgs (top 26), defBody (top 26), defScope (top 26), [], []⟩,
  ⟨("tens", none), "tens", "tens", defArgs (top 27), defBody (top 27), defScope (top 27), [], []⟩,
  ⟨("of_decimal", none), "of_decimal", "of_decimal", defArgs (top 28), defBody (top 28), defScope (top 28), [], []⟩,
  ⟨("rounded_at", none), "rounded_at", "rounded_at", defArgs (top 29), defBody (top 29), defScope (top 29), [], []⟩,
  ⟨("text_at", none), "text_at", "text_at", defArgs (top 30), defBody (top 30), defScope (top 30), [], []⟩,
  ⟨("decimal_told", none), "decimal_told", "decimal_told", defArgs (top 31), defBody (top 31), defScope (top 31), [], []⟩,
  ⟨("check_decimal", none), "check_decimal", "check_decimal", defArgs (top 34), defBody (top 34), defScope (top 34), [], []⟩,
  ⟨("check_places", none), "check_places", "check_places", defArgs (top 35), defBody (top 35), defScope (top 35), [], []⟩,
  ⟨("is_decimal", none), "is_decimal", "is_decimal", defArgs (top 36), defBody (top 36), defScope (top 36), [], []⟩,
  ⟨("fraction_of", none), "fraction_of", "fraction_of", defArgs (top 37), defBody (top 37), defScope (top 37), [], []⟩,
  ⟨("decimal_text", none), "decimal_text", "decimal_text", defArgs (top 38), defBody (top 38), defScope (top 38), [], []⟩,
  ⟨("rounded", none), "rounded", "rounded", defArgs (top 39), defBody (top 39), defScope (top 39), [], []⟩,
  ⟨("answer_text", none), "answer_text", "answer_text", defArgs (top 40), defBody (top 40), defScope (top 40), [], []⟩,
  ⟨("parts_of", none), "parts_of", "parts_of", defArgs (top 45), defBody (top 45), defScope (top 45), [], []⟩,
  ⟨("is_expression_head", none), "is_expression_head", "is_expression_head", defArgs (top 46), defBody (top 46), defScope (top 46), [], []⟩,
  ⟨("next_layer", none), "next_layer", "next_layer", defArgs (top 47), defBody (top 47), defScope (top 47), [], []⟩,
  ⟨("is_expression_form", none), "is_expression_form", "is_expression_form", defArgs (top 48), defBody (top 48), defScope (top 48), [], []⟩,
  ⟨("words_of", none), "words_of", "words_of", defArgs (top 52), defBody (top 52), defScope (top 52), [], []⟩,
  ⟨("text_of", none), "text_of", "text_of", defArgs (top 53), defBody (top 53), defScope (top 53), [], []⟩,
  ⟨("run_of", none), "run_of", "run_of", defArgs (top 57), defBody (top 57), defScope (top 57), [], []⟩,
  ⟨("token_at", none), "token_at", "token_at", defArgs (top 58), defBody (top 58), defScope (top 58), [], []⟩,
  ⟨("tokens_of", none), "tokens_of", "tokens_of", defArgs (top 59), defBody (top 59), defScope (top 59), [], []⟩,
  ⟨("Stack", some "__init__"), "__init__", "Stack.__init__", defArgs (topm 60 0), defBody (topm 60 0), defScope (topm 60 0), [], []⟩,
  ⟨("Stack", some "take"), "take", "Stack.take", defArgs (topm 60 1), defBody (topm 60 1), defScope (topm 60 1), [], []⟩,
  ⟨("Stack", some "leaf"), "leaf", "Stack.leaf", defArgs (topm 60 2), defBody (topm 60 2), defScope (topm 60 2), [], []⟩,
  ⟨("expression_told", none), "expression_told", "expression_told", defArgs (top 61), defBody (top 61), defScope (top 61), [], []⟩,
  ⟨("read_expression", none), "read_expression", "read_expression", defArgs (top 63), defBody (top 63), defScope (top 63), [], []⟩,
  ⟨("expression_text", none), "expression_text", "expression_text", defArgs (top 65), defBody (top 65), defScope (top 65), [], []⟩,
  ⟨("_law_pail", none), "_law_pail", "_law_pail", defArgs (top 67), defBody (top 67), defScope (top 67), [], []⟩,
  ⟨("_law_deal", none), "_law_deal", "_law_deal", defArgs (top 68), defBody (top 68), defScope (top 68), [], []⟩,
  ⟨("_law_any", none), "_law_any", "_law_any", defArgs (top 69), defBody (top 69), defScope (top 69), [], []⟩,
  ⟨("_law_gcd", none), "_law_gcd", "_law_gcd", defArgs (top 70), defBody (top 70), defScope (top 70), [], []⟩,
  ⟨("_law_frac", none), "_law_frac", "_law_frac", defArgs (top 71), defBody (top 71), defScope (top 71), [], []⟩,
  ⟨("_law_power", none), "_law_power", "_law_power", defArgs (top 72), defBody (top 72), defScope (top 72), [], []⟩,
  ⟨("_law_number", none), "_law_number", "_law_number", defArgs (top 73), defBody (top 73), defScope (top 73), [], []⟩,
  ⟨("_law_figures", none), "_law_figures", "_law_figures", defArgs (top 74), defBody (top 74), defScope (top 74), [], []⟩,
  ⟨("_law_rounded", none), "_law_rounded", "_law_rounded", defArgs (top 75), defBody (top 75), defScope (top 75), [], []⟩,
  ⟨("_law_same", none), "_law_same", "_law_same", defArgs (top 76), defBody (top 76), defScope (top 76), [], []⟩,
  ⟨("_law_decimal", none), "_law_decimal", "_law_decimal", defArgs (top 77), defBody (top 77), defScope (top 77), [], []⟩,
  ⟨("_law_is_decimal", none), "_law_is_decimal", "_law_is_decimal", defArgs (top 78), defBody (top 78), defScope (top 78), [], []⟩,
  ⟨("_law_ended", none), "_law_ended", "_law_ended", defArgs (top 79), defBody (top 79), defScope (top 79), [], []⟩,
  ⟨("_law_decimal_right", none), "_law_decimal_right", "_law_decimal_right", defArgs (top 80), defBody (top 80), defScope (top 80), [], []⟩,
  ⟨("_law_odd_right", none), "_law_odd_right", "_law_odd_right", defArgs (top 81), defBody (top 81), defScope (top 81), [], []⟩,
  ⟨("_law_right", none), "_law_right", "_law_right", defArgs (top 82), defBody (top 82), defScope (top 82), [], []⟩,
  ⟨("law", none), "law", "law", defArgs (top 83), defBody (top 83), defScope (top 83), [], []⟩]
def fa : List He.Fa := [.glo "is_whole", .glo "is_in", .glo "is_text", .glo "is_tuple_of", .glo "is_short_tuple", .glo "head_of", .glo "is_name", .glo "is_decimal_form", .glo "whole_of", .glo "lowest", .glo "is_fraction", .glo "tens", .glo "of_decimal", .glo "rounded_at", .glo "text_at", .glo "decimal_told", .glo "check_decimal", .glo "check_places", .glo "is_decimal", .glo "fraction_of", .glo "decimal_text", .glo "rounded", .glo "answer_text", .glo "parts_of", .glo "is_expression_head", .glo "next_layer", .glo "is_expression_form", .glo "words_of", .glo "text_of", .glo "run_of", .glo "token_at", .glo "tokens_of", .meth "Stack" "take", .meth "Stack" "leaf", .glo "expression_told", .glo "read_expression", .glo "expression_text", .glo "_law_pail", .glo "_law_deal", .glo "_law_any", .glo "_law_gcd", .glo "_law_frac", .glo "_law_power", .glo "_law_number", .glo "_law_figures", .glo "_law_rounded", .glo "_law_same", .glo "_law_decimal", .glo "_law_is_decimal", .glo "_law_ended", .glo "_law_decimal_right", .glo "_law_odd_right", .glo "_law_right", .glo "law", .glo "Stack", .cls "Stack", .mkr "Stack", .noat "Stack" "held", .free "abs", .free "all", .free "bool", .free "divmod", .free "int", .free "isinstance", .free "len", .free "list", .free "max", .free "min", .free "range", .free "repr", .free "str", .free "tuple", .str "FIGURES" "0123456789", .str "LETTERS" "abcdefghijklmnopqrstuvwxyz", .str "MINUS" "-", .int "MOST_DEEP" 5, .int "MOST_LETTERS" 8, .int "MOST_NUMBER" 999999, .int "MOST_PARAMS" 3, .int "MOST_PLACES_formwork" 4, .int "MOST_PLACES_numbers" 9, .glo "OPS", .str "POINT" ".", .str "SPACE" " ", .glo "WORDS", .free "super", .glo "InvalidDecimal", .glo "InvalidExpression", .glo "InvalidNumber", .glo "InvalidFraction", .glo "InvalidText", .glo "DigitError"]
def exs : List ExD := [⟨"InvalidDecimal", "given", "InvalidDecimal.__init__", defArgs (topm 3 0), defBody (topm 3 0), defScope (topm 3 0)⟩,
  ⟨"InvalidExpression", "given", "InvalidExpression.__init__", defArgs (topm 4 0), defBody (topm 4 0), defScope (topm 4 0)⟩,
  ⟨"InvalidNumber", "given", "InvalidNumber.__init__", defArgs (topm 5 0), defBody (topm 5 0), defScope (topm 5 0)⟩,
  ⟨"InvalidFraction", "given", "InvalidFraction.__init__", defArgs (topm 6 0), defBody (topm 6 0), defScope (topm 6 0)⟩,
  ⟨"InvalidText", "index", "InvalidText.__init__", defArgs (topm 7 0), defBody (topm 7 0), defScope (topm 7 0)⟩]
def ck0 (K : PySem.W.Frag) : Bool := He.eqO (PySem.W.nsIn K mainGlobals "gcd") (some (some (.builtin "math.gcd")))
def ck1 (K : PySem.W.Frag) : Bool := tupB K "OPS" [.str "+", .str "-", .str "*", .str "/"]
def ck2 (K : PySem.W.Frag) : Bool := tupB K "WORDS" [.str "else", .str "end", .str "fun", .str "give", .str "if", .str "in", .str "let", .str "main", .str "out", .str "repeat", .str "to"]
def ck3 (K : PySem.W.Frag) : Bool := icB K (He.ga K "InvalidText")
def ck4 (K : PySem.W.Frag) : Bool := icB K (He.ga K "InvalidDecimal")
def ck5 (K : PySem.W.Frag) : Bool := icB K (He.ga K "InvalidExpression")
def ck6 (K : PySem.W.Frag) : Bool := icB K (He.ga K "InvalidFraction")
def ck7 (K : PySem.W.Frag) : Bool := icB K (He.ga K "InvalidNumber")
def ck8 (K : PySem.W.Frag) : Bool := decide (PySem.W.exmOne K (.ref (He.ga K "InvalidText")) (.ref (He.ga K "DigitError")) = some true)
def ck9 (K : PySem.W.Frag) : Bool := decide (PySem.W.exmOne K (.ref (He.ga K "InvalidDecimal")) (.ref (He.ga K "DigitError")) = some true)
def ck10 (K : PySem.W.Frag) : Bool := decide (PySem.W.exmOne K (.ref (He.ga K "InvalidExpression")) (.ref (He.ga K "DigitError")) = some true)
def ck11 (K : PySem.W.Frag) : Bool := decide (PySem.W.exmOne K (.ref (He.ga K "InvalidFraction")) (.ref (He.ga K "DigitError")) = some true)
def ck12 (K : PySem.W.Frag) : Bool := decide (PySem.W.exmOne K (.ref (He.ga K "InvalidNumber")) (.ref (He.ga K "DigitError")) = some true)
def ck13 (K : PySem.W.Frag) : Bool := ([(He.ga K "InvalidText"), (He.ga K "InvalidDecimal"), (He.ga K "InvalidExpression"), (He.ga K "InvalidFraction"), (He.ga K "InvalidNumber")] : List Addr).all fun C => ([(He.ga K "InvalidText"), (He.ga K "InvalidDecimal"), (He.ga K "InvalidExpression"), (He.ga K "InvalidFraction"), (He.ga K "InvalidNumber")] : List Addr).all fun D => decide (PySem.W.kitOne K (.ref C) (.ref D) = some (decide (C = D)))
def ck14 (K : PySem.W.Frag) : Bool := decide ([(He.ga K "InvalidText"), (He.ga K "InvalidDecimal"), (He.ga K "InvalidExpression"), (He.ga K "InvalidFraction"), (He.ga K "InvalidNumber")] : List Addr).Nodup
def ck15 (K : PySem.W.Frag) : Bool := He.eqO (PySem.W.findIn K (.ref (He.ga K "InvalidText")) "index") (some none)
def ck16 (K : PySem.W.Frag) : Bool := ([(He.ga K "InvalidDecimal"), (He.ga K "InvalidExpression"), (He.ga K "InvalidFraction"), (He.ga K "InvalidNumber")] : List Addr).all fun C => He.eqO (PySem.W.findIn K (.ref C) "given") (some none)
def ck17 (K : PySem.W.Frag) : Bool := decide ((gm K).T.Pairwise fun p q => p.1 ≠ q.1)
def chk (K : PySem.W.Frag) : Bool := ck0 K && (ck1 K && (ck2 K && (ck3 K && (ck4 K && (ck5 K && (ck6 K && (ck7 K && (ck8 K && (ck9 K && (ck10 K && (ck11 K && (ck12 K && (ck13 K && (ck14 K && (ck15 K && (ck16 K && (ck17 K)))))))))))))))))
def hk : HkD := ⟨4, fa, fn, exs, ["_law_decimal_right", "_law_odd_right"], chk, prg.main.file⟩
end K32
end

section
set_option Elab.async false
set_option linter.all false
set_option maxRecDepth 100000
set_option maxHeartbeats 0
namespace K32
open PySem PySem.W PySem.Calls PyProof.Rows
abbrev Rw : OpenRow := OpenLaw.row PySem.Challenge.rw_lastdigits_k32_whole_decimals_there_and
abbrev qv : Program := view Rw.prog [0, 83]
def names0 : List PySem.Str := ["__name__", "DigitError", "InvalidDecimal", "InvalidExpression", "InvalidNumber", "InvalidFraction", "InvalidText", "LETTERS", "FIGURES", "WORDS", "MOST_LETTERS"]
def names1 : List PySem.Str := ["MOST_NUMBER", "MOST_PLACES_formwork", "is_whole", "is_in", "is_text", "is_tuple_of", "is_short_tuple", "head_of", "is_name", "is_decimal_form", "whole_of", "lowest"]
def names2 : List PySem.Str := ["is_fraction", "tens", "of_decimal", "rounded_at", "text_at", "decimal_told", "MOST_PLACES_numbers", "check_decimal", "check_places", "is_decimal", "fraction_of", "decimal_text"]
def names3 : List PySem.Str := ["rounded", "answer_text", "OPS", "MOST_DEEP", "MOST_PARAMS", "parts_of", "is_expression_head", "next_layer", "is_expression_form", "COMMA", "SPACE", "words_of"]
def names4 : List PySem.Str := ["text_of", "MINUS", "POINT", "run_of", "token_at", "tokens_of", "Stack", "expression_told", "read_expression", "expression_text", "_law_pail", "_law_deal"]
def names5 : List PySem.Str := ["_law_any", "_law_gcd", "_law_frac", "_law_power", "_law_number", "_law_figures", "_law_rounded", "_law_same", "_law_decimal", "_law_is_decimal", "_law_ended", "_law_decimal_right"]
def names6 : List PySem.Str := ["_law_odd_right", "_law_right"]
def names : List PySem.Str := names0 ++ names1 ++ names2 ++ names3 ++ names4 ++ names5 ++ names6
abbrev hkh : Hook := Mp.HkD.hook hk
def obh (s : SharedT) : Mp.AlM := Mp.HkD.obT hk s
theorem obh_eq (s : SharedT) : obh s = hkh.obs s.abs := Mp.HkD.obT_eq hk s
theorem run (w : World) : HandSHeadRun.RunEqI Rw qv hkh obh 30000 names w := by
  unfold HandSHeadRun.RunEqI
  kernel_rfl
end K32
end

section
set_option Elab.async false
set_option linter.all false
set_option maxRecDepth 100000
set_option maxHeartbeats 4000000
/-! the defs of the top, walked (printed by wip/gen/gen.py). -/
namespace K32
open PySem PySem.Spec PyProof.Rows L2 Mp
/-! ### what is told of the top -/
structure All (K : PySem.W.Frag) (mg : Str → Option Value) : Prop where
  g_is_whole : mg "is_whole" = some (.ref (He.ga K "is_whole"))
  F_is_whole : ∃ fd, FunD K "is_whole" "is_whole" (defArgs (top 15)) (defBody (top 15)) (defScope (top 15)) [] [] (He.ga K "is_whole") fd
  g_is_in : mg "is_in" = some (.ref (He.ga K "is_in"))
  F_is_in : ∃ fd, FunD K "is_in" "is_in" (defArgs (top 16)) (defBody (top 16)) (defScope (top 16)) [] [] (He.ga K "is_in") fd
  g_is_text : mg "is_text" = some (.ref (He.ga K "is_text"))
  F_is_text : ∃ fd, FunD K "is_text" "is_text" (defArgs (top 17)) (defBody (top 17)) (defScope (top 17)) [] [] (He.ga K "is_text") fd
  g_is_tuple_of : mg "is_tuple_of" = some (.ref (He.ga K "is_tuple_of"))
  F_is_tuple_of : ∃ fd, FunD K "is_tuple_of" "is_tuple_of" (defArgs (top 18)) (defBody (top 18)) (defScope (top 18)) [] [] (He.ga K "is_tuple_of") fd
  g_is_short_tuple : mg "is_short_tuple" = some (.ref (He.ga K "is_short_tuple"))
  F_is_short_tuple : ∃ fd, FunD K "is_short_tuple" "is_short_tuple" (defArgs (top 19)) (defBody (top 19)) (defScope (top 19)) [] [] (He.ga K "is_short_tuple") fd
  g_head_of : mg "head_of" = some (.ref (He.ga K "head_of"))
  F_head_of : ∃ fd, FunD K "head_of" "head_of" (defArgs (top 20)) (defBody (top 20)) (defScope (top 20)) [] [] (He.ga K "head_of") fd
  g_is_name : mg "is_name" = some (.ref (He.ga K "is_name"))
  F_is_name : ∃ fd, FunD K "is_name" "is_name" (defArgs (top 21)) (defBody (top 21)) (defScope (top 21)) [] [] (He.ga K "is_name") fd
  g_is_decimal_form : mg "is_decimal_form" = some (.ref (He.ga K "is_decimal_form"))
  F_is_decimal_form : ∃ fd, FunD K "is_decimal_form" "is_decimal_form" (defArgs (top 22)) (defBody (top 22)) (defScope (top 22)) [] [] (He.ga K "is_decimal_form") fd
  g_whole_of : mg "whole_of" = some (.ref (He.ga K "whole_of"))
  F_whole_of : ∃ fd, FunD K "whole_of" "whole_of" (defArgs (top 23)) (defBody (top 23)) (defScope (top 23)) [] [] (He.ga K "whole_of") fd
  g_lowest : mg "lowest" = some (.ref (He.ga K "lowest"))
  F_lowest : ∃ fd, FunD K "lowest" "lowest" (defArgs (top 25)) (defBody (top 25)) (defScope (top 25)) [] [] (He.ga K "lowest") fd
  g_is_fraction : mg "is_fraction" = some (.ref (He.ga K "is_fraction"))
  F_is_fraction : ∃ fd, FunD K "is_fraction" "is_fraction" (defArgs (top 26)) (defBody (top 26)) (defScope (top 26)) [] [] (He.ga K "is_fraction") fd
  g_tens : mg "tens" = some (.ref (He.ga K "tens"))
  F_tens : ∃ fd, FunD K "tens" "tens" (defArgs (top 27)) (defBody (top 27)) (defScope (top 27)) [] [] (He.ga K "tens") fd
  g_of_decimal : mg "of_decimal" = some (.ref (He.ga K "of_decimal"))
  F_of_decimal : ∃ fd, FunD K "of_decimal" "of_decimal" (defArgs (top 28)) (defBody (top 28)) (defScope (top 28)) [] [] (He.ga K "of_decimal") fd
  g_rounded_at : mg "rounded_at" = some (.ref (He.ga K "rounded_at"))
  F_rounded_at : ∃ fd, FunD K "rounded_at" "rounded_at" (defArgs (top 29)) (defBody (top 29)) (defScope (top 29)) [] [] (He.ga K "rounded_at") fd
  g_text_at : mg "text_at" = some (.ref (He.ga K "text_at"))
  F_text_at : ∃ fd, FunD K "text_at" "text_at" (defArgs (top 30)) (defBody (top 30)) (defScope (top 30)) [] [] (He.ga K "text_at") fd
  g_decimal_told : mg "decimal_told" = some (.ref (He.ga K "decimal_told"))
  F_decimal_told : ∃ fd, FunD K "decimal_told" "decimal_told" (defArgs (top 31)) (defBody (top 31)) (defScope (top 31)) [] [] (He.ga K "decimal_told") fd
  g_check_decimal : mg "check_decimal" = some (.ref (He.ga K "check_decimal"))
  F_check_decimal : ∃ fd, FunD K "check_decimal" "check_decimal" (defArgs (top 34)) (defBody (top 34)) (defScope (top 34)) [] [] (He.ga K "check_decimal") fd
  g_check_places : mg "check_places" = some (.ref (He.ga K "check_places"))
  F_check_places : ∃ fd, FunD K "check_places" "check_places" (defArgs (top 35)) (defBody (top 35)) (defScope (top 35)) [] [] (He.ga K "check_places") fd
  g_is_decimal : mg "is_decimal" = some (.ref (He.ga K "is_decimal"))
  F_is_decimal : ∃ fd, FunD K "is_decimal" "is_decimal" (defArgs (top 36)) (defBody (top 36)) (defScope (top 36)) [] [] (He.ga K "is_decimal") fd
  g_fraction_of : mg "fraction_of" = some (.ref (He.ga K "fraction_of"))
  F_fraction_of : ∃ fd, FunD K "fraction_of" "fraction_of" (defArgs (top 37)) (defBody (top 37)) (defScope (top 37)) [] [] (He.ga K "fraction_of") fd
  g_decimal_text : mg "decimal_text" = some (.ref (He.ga K "decimal_text"))
  F_decimal_text : ∃ fd, FunD K "decimal_text" "decimal_text" (defArgs (top 38)) (defBody (top 38)) (defScope (top 38)) [] [] (He.ga K "decimal_text") fd
  g_rounded : mg "rounded" = some (.ref (He.ga K "rounded"))
  F_rounded : ∃ fd, FunD K "rounded" "rounded" (defArgs (top 39)) (defBody (top 39)) (defScope (top 39)) [] [] (He.ga K "rounded") fd
  g_answer_text : mg "answer_text" = some (.ref (He.ga K "answer_text"))
  F_answer_text : ∃ fd, FunD K "answer_text" "answer_text" (defArgs (top 40)) (defBody (top 40)) (defScope (top 40)) [] [] (He.ga K "answer_text") fd
  g_parts_of : mg "parts_of" = some (.ref (He.ga K "parts_of"))
  F_parts_of : ∃ fd, FunD K "parts_of" "parts_of" (defArgs (top 45)) (defBody (top 45)) (defScope (top 45)) [] [] (He.ga K "parts_of") fd
  g_is_expression_head : mg "is_expression_head" = some (.ref (He.ga K "is_expression_head"))
  F_is_expression_head : ∃ fd, FunD K "is_expression_head" "is_expression_head" (defArgs (top 46)) (defBody (top 46)) (defScope (top 46)) [] [] (He.ga K "is_expression_head") fd
  g_next_layer : mg "next_layer" = some (.ref (He.ga K "next_layer"))
  F_next_layer : ∃ fd, FunD K "next_layer" "next_layer" (defArgs (top 47)) (defBody (top 47)) (defScope (top 47)) [] [] (He.ga K "next_layer") fd
  g_is_expression_form : mg "is_expression_form" = some (.ref (He.ga K "is_expression_form"))
  F_is_expression_form : ∃ fd, FunD K "is_expression_form" "is_expression_form" (defArgs (top 48)) (defBody (top 48)) (defScope (top 48)) [] [] (He.ga K "is_expression_form") fd
  g_words_of : mg "words_of" = some (.ref (He.ga K "words_of"))
  F_words_of : ∃ fd, FunD K "words_of" "words_of" (defArgs (top 52)) (defBody (top 52)) (defScope (top 52)) [] [] (He.ga K "words_of") fd
  g_text_of : mg "text_of" = some (.ref (He.ga K "text_of"))
  F_text_of : ∃ fd, FunD K "text_of" "text_of" (defArgs (top 53)) (defBody (top 53)) (defScope (top 53)) [] [] (He.ga K "text_of") fd
  g_run_of : mg "run_of" = some (.ref (He.ga K "run_of"))
  F_run_of : ∃ fd, FunD K "run_of" "run_of" (defArgs (top 57)) (defBody (top 57)) (defScope (top 57)) [] [] (He.ga K "run_of") fd
  g_token_at : mg "token_at" = some (.ref (He.ga K "token_at"))
  F_token_at : ∃ fd, FunD K "token_at" "token_at" (defArgs (top 58)) (defBody (top 58)) (defScope (top 58)) [] [] (He.ga K "token_at") fd
  g_tokens_of : mg "tokens_of" = some (.ref (He.ga K "tokens_of"))
  F_tokens_of : ∃ fd, FunD K "tokens_of" "tokens_of" (defArgs (top 59)) (defBody (top 59)) (defScope (top 59)) [] [] (He.ga K "tokens_of") fd
  F_Stack___init__ : ∃ fd, FunD K "__init__" "Stack.__init__" (defArgs (topm 60 0)) (defBody (topm 60 0)) (defScope (topm 60 0)) [] [] (He.ma K (He.ga K "Stack") "__init__") fd
  F_Stack_take : ∃ fd, FunD K "take" "Stack.take" (defArgs (topm 60 1)) (defBody (topm 60 1)) (defScope (topm 60 1)) [] [] (He.ma K (He.ga K "Stack") "take") fd
  M_Stack_take : Meth K (He.ga K "Stack") "take" (He.ma K (He.ga K "Stack") "take")
  F_Stack_leaf : ∃ fd, FunD K "leaf" "Stack.leaf" (defArgs (topm 60 2)) (defBody (topm 60 2)) (defScope (topm 60 2)) [] [] (He.ma K (He.ga K "Stack") "leaf") fd
  M_Stack_leaf : Meth K (He.ga K "Stack") "leaf" (He.ma K (He.ga K "Stack") "leaf")
  g_expression_told : mg "expression_told" = some (.ref (He.ga K "expression_told"))
  F_expression_told : ∃ fd, FunD K "expression_told" "expression_told" (defArgs (top 61)) (defBody (top 61)) (defScope (top 61)) [] [] (He.ga K "expression_told") fd
  g_read_expression : mg "read_expression" = some (.ref (He.ga K "read_expression"))
  F_read_expression : ∃ fd, FunD K "read_expression" "read_expression" (defArgs (top 63)) (defBody (top 63)) (defScope (top 63)) [] [] (He.ga K "read_expression") fd
  g_expression_text : mg "expression_text" = some (.ref (He.ga K "expression_text"))
  F_expression_text : ∃ fd, FunD K "expression_text" "expression_text" (defArgs (top 65)) (defBody (top 65)) (defScope (top 65)) [] [] (He.ga K "expression_text") fd
  g__law_pail : mg "_law_pail" = some (.ref (He.ga K "_law_pail"))
  F__law_pail : ∃ fd, FunD K "_law_pail" "_law_pail" (defArgs (top 67)) (defBody (top 67)) (defScope (top 67)) [] [] (He.ga K "_law_pail") fd
  g__law_deal : mg "_law_deal" = some (.ref (He.ga K "_law_deal"))
  F__law_deal : ∃ fd, FunD K "_law_deal" "_law_deal" (defArgs (top 68)) (defBody (top 68)) (defScope (top 68)) [] [] (He.ga K "_law_deal") fd
  g__law_any : mg "_law_any" = some (.ref (He.ga K "_law_any"))
  F__law_any : ∃ fd, FunD K "_law_any" "_law_any" (defArgs (top 69)) (defBody (top 69)) (defScope (top 69)) [] [] (He.ga K "_law_any") fd
  g__law_gcd : mg "_law_gcd" = some (.ref (He.ga K "_law_gcd"))
  F__law_gcd : ∃ fd, FunD K "_law_gcd" "_law_gcd" (defArgs (top 70)) (defBody (top 70)) (defScope (top 70)) [] [] (He.ga K "_law_gcd") fd
  g__law_frac : mg "_law_frac" = some (.ref (He.ga K "_law_frac"))
  F__law_frac : ∃ fd, FunD K "_law_frac" "_law_frac" (defArgs (top 71)) (defBody (top 71)) (defScope (top 71)) [] [] (He.ga K "_law_frac") fd
  g__law_power : mg "_law_power" = some (.ref (He.ga K "_law_power"))
  F__law_power : ∃ fd, FunD K "_law_power" "_law_power" (defArgs (top 72)) (defBody (top 72)) (defScope (top 72)) [] [] (He.ga K "_law_power") fd
  g__law_number : mg "_law_number" = some (.ref (He.ga K "_law_number"))
  F__law_number : ∃ fd, FunD K "_law_number" "_law_number" (defArgs (top 73)) (defBody (top 73)) (defScope (top 73)) [] [] (He.ga K "_law_number") fd
  g__law_figures : mg "_law_figures" = some (.ref (He.ga K "_law_figures"))
  F__law_figures : ∃ fd, FunD K "_law_figures" "_law_figures" (defArgs (top 74)) (defBody (top 74)) (defScope (top 74)) [] [] (He.ga K "_law_figures") fd
  g__law_rounded : mg "_law_rounded" = some (.ref (He.ga K "_law_rounded"))
  F__law_rounded : ∃ fd, FunD K "_law_rounded" "_law_rounded" (defArgs (top 75)) (defBody (top 75)) (defScope (top 75)) [] [] (He.ga K "_law_rounded") fd
  g__law_same : mg "_law_same" = some (.ref (He.ga K "_law_same"))
  F__law_same : ∃ fd, FunD K "_law_same" "_law_same" (defArgs (top 76)) (defBody (top 76)) (defScope (top 76)) [] [] (He.ga K "_law_same") fd
  g__law_decimal : mg "_law_decimal" = some (.ref (He.ga K "_law_decimal"))
  F__law_decimal : ∃ fd, FunD K "_law_decimal" "_law_decimal" (defArgs (top 77)) (defBody (top 77)) (defScope (top 77)) [] [] (He.ga K "_law_decimal") fd
  g__law_is_decimal : mg "_law_is_decimal" = some (.ref (He.ga K "_law_is_decimal"))
  F__law_is_decimal : ∃ fd, FunD K "_law_is_decimal" "_law_is_decimal" (defArgs (top 78)) (defBody (top 78)) (defScope (top 78)) [] [] (He.ga K "_law_is_decimal") fd
  g__law_ended : mg "_law_ended" = some (.ref (He.ga K "_law_ended"))
  F__law_ended : ∃ fd, FunD K "_law_ended" "_law_ended" (defArgs (top 79)) (defBody (top 79)) (defScope (top 79)) [] [] (He.ga K "_law_ended") fd
  g__law_decimal_right : mg "_law_decimal_right" = some (.ref (He.ga K "_law_decimal_right"))
  F__law_decimal_right : ∃ fd, FunD K "_law_decimal_right" "_law_decimal_right" (defArgs (top 80)) (defBody (top 80)) (defScope (top 80)) [] [] (He.ga K "_law_decimal_right") fd
  g__law_odd_right : mg "_law_odd_right" = some (.ref (He.ga K "_law_odd_right"))
  F__law_odd_right : ∃ fd, FunD K "_law_odd_right" "_law_odd_right" (defArgs (top 81)) (defBody (top 81)) (defScope (top 81)) [] [] (He.ga K "_law_odd_right") fd
  g__law_right : mg "_law_right" = some (.ref (He.ga K "_law_right"))
  F__law_right : ∃ fd, FunD K "_law_right" "_law_right" (defArgs (top 82)) (defBody (top 82)) (defScope (top 82)) [] [] (He.ga K "_law_right") fd
  g_law : mg "law" = some (.ref (He.ga K "law"))
  F_law : ∃ fd, FunD K "law" "law" (defArgs (top 83)) (defBody (top 83)) (defScope (top 83)) [] [] (He.ga K "law") fd
  g_Stack : mg "Stack" = some (.ref (He.ga K "Stack"))
  cls_Stack : Cls K (He.ga K "Stack")
  mk_Stack : Mk K (He.ga K "Stack") (He.ma K (He.ga K "Stack") "__init__")
  fk : ∀ c f, fk c f = true → Cls (gm K).K ((gm K).cad c) ∧ NoAttr (gm K).K ((gm K).cad c) f
  n_abs : mg "abs" = none
  n_all : mg "all" = none
  n_bool : mg "bool" = none
  n_divmod : mg "divmod" = none
  n_int : mg "int" = none
  n_isinstance : mg "isinstance" = none
  n_len : mg "len" = none
  n_list : mg "list" = none
  n_max : mg "max" = none
  n_min : mg "min" = none
  n_range : mg "range" = none
  n_repr : mg "repr" = none
  n_str : mg "str" = none
  n_tuple : mg "tuple" = none
  g_gcd : mg "gcd" = some (.builtin "math.gcd")
  c_FIGURES : ∃ t, mg "FIGURES" = some (.str "0123456789" t)
  c_LETTERS : ∃ t, mg "LETTERS" = some (.str "abcdefghijklmnopqrstuvwxyz" t)
  c_MINUS : ∃ t, mg "MINUS" = some (.str "-" t)
  c_MOST_DEEP : ∃ t, mg "MOST_DEEP" = some (.int 5 t)
  c_MOST_LETTERS : ∃ t, mg "MOST_LETTERS" = some (.int 8 t)
  c_MOST_NUMBER : ∃ t, mg "MOST_NUMBER" = some (.int 999999 t)
  c_MOST_PARAMS : ∃ t, mg "MOST_PARAMS" = some (.int 3 t)
  c_MOST_PLACES_formwork : ∃ t, mg "MOST_PLACES_formwork" = some (.int 4 t)
  c_MOST_PLACES_numbers : ∃ t, mg "MOST_PLACES_numbers" = some (.int 9 t)
  g_OPS : mg "OPS" = some (.ref (He.ga K "OPS"))
  c_OPS : ∀ H B, Dq (gm K).K H B (.ref (He.ga K "OPS")) d_OPS
  c_POINT : ∃ t, mg "POINT" = some (.str "." t)
  c_SPACE : ∃ t, mg "SPACE" = some (.str " " t)
  g_WORDS : mg "WORDS" = some (.ref (He.ga K "WORDS"))
  c_WORDS : ∀ H B, Dq (gm K).K H B (.ref (He.ga K "WORDS")) d_WORDS
  X_InvalidDecimal : ∀ (w : World) (base : Heap), KnX (gm K) prg w K mg base "InvalidDecimal" 0
  X_InvalidExpression : ∀ (w : World) (base : Heap), KnX (gm K) prg w K mg base "InvalidExpression" 1
  X_InvalidNumber : ∀ (w : World) (base : Heap), KnX (gm K) prg w K mg base "InvalidNumber" 2
  X_InvalidFraction : ∀ (w : World) (base : Heap), KnX (gm K) prg w K mg base "InvalidFraction" 3
  X_InvalidText : ∀ (w : World) (base : Heap), KnX (gm K) prg w K mg base "InvalidText" 4
  end_ : EndC K mg (He.ga K "DigitError") (He.ga K "InvalidText") (He.ga K "InvalidDecimal") (He.ga K "InvalidExpression") (He.ga K "InvalidFraction") (He.ga K "InvalidNumber")
  tabN : (gm K).T.Pairwise fun p q => p.1 ≠ q.1
/-- the makers of lambdas have code objects whose tables are known -/
def Tbs (K : PySem.W.Frag) (mg : Str → Option Value) (base : Heap) : Prop := ∀ p ∈ ([(cA K "_law_decimal_right", tA K "_law_decimal_right"), (cA K "_law_odd_right", tA K "_law_odd_right")] : List (Addr × Addr)), LamX.TabB base mg p.1 p.2
/-! ### the call of _law_ended -/
theorem S__law_ended : FnScope ["act", "error", "sorts"] ["act"] (defScope (top 79)) := ⟨by kernel_rfl, by kernel_rfl, by kernel_rfl, by decide +kernel, by kernel_rfl, by decide +kernel, by decide +kernel⟩
theorem E__law_ended : EndS (defScope (top 79)) := ⟨by kernel_rfl, by kernel_rfl, by kernel_rfl, by kernel_rfl, by decide +kernel⟩
theorem tab_one : ∀ {T : List (Addr × Str)}, (T.Pairwise fun p q => p.1 ≠ q.1) → ∀ {P : Addr} {q : Str}, (P, q) ∈ T → ∀ p ∈ T, p.1 = P → p.2 = q
  | [], _, _, _, h, _, _, _ => by cases h
  | t :: T, hp, P, q, h, p, hm, e => by
    obtain ⟨h1, h2⟩ := List.pairwise_cons.mp hp
    rcases List.mem_cons.mp h with h3 | h3
    · rcases List.mem_cons.mp hm with hm | hm
      · rw [hm, ← h3]
      · exact absurd e.symm (by have := h1 p hm; rw [← h3] at this; exact this)
    · rcases List.mem_cons.mp hm with hm | hm
      · rw [hm] at e
        exact absurd e (h1 (P, q) h3)
      · exact tab_one h2 h3 p hm e
theorem et_ok (K : PySem.W.Frag) : ∀ c nm, et c = some nm → nm.length ≤ sizeLine ∧ ∃ f, (gm K).xat c = some f ∧ ∀ v, EndE (He.ga K "InvalidText") (He.ga K "InvalidDecimal") (He.ga K "InvalidExpression") (He.ga K "InvalidFraction") (He.ga K "InvalidNumber") ((gm K).cad c) [(f, v)] v nm := by
  intro c nm h
  have lk : ∀ (z : Str) (v : V), [(z, v)].lookup z = some v := fun z v => by rw [List.lookup_cons]; simp
  match c, h with
  | 0, h => cases h; exact ⟨by decide, "given", rfl, fun v => .inr ⟨lk _ _, .inl ⟨rfl, rfl⟩⟩⟩
  | 1, h => cases h; exact ⟨by decide, "given", rfl, fun v => .inr ⟨lk _ _, .inr (.inl ⟨rfl, rfl⟩)⟩⟩
  | 2, h => cases h; exact ⟨by decide, "given", rfl, fun v => .inr ⟨lk _ _, .inr (.inr (.inr ⟨rfl, rfl⟩))⟩⟩
  | 3, h => cases h; exact ⟨by decide, "given", rfl, fun v => .inr ⟨lk _ _, .inr (.inr (.inl ⟨rfl, rfl⟩))⟩⟩
  | 4, h => cases h; exact ⟨by decide, "index", rfl, fun v => .inl ⟨rfl, lk _ _, rfl⟩⟩
theorem xEndX {X : Cx} {K : PySem.W.Frag} {mg : Str → Option Value} {EW : XK} {q : Str} {c P : Addr} {k : Nat} {params : Arguments} {b : Expr} {sc : Scope} {lp p pos : Pos} {fe : Mp.Env → Store → R D} (hK : X.K = K) (hmg : X.mg = mg) (A : All K mg) (C : Cg (gm K) X) (hq : X.env.qual ++ "<lambda>" = q) (hcode : X.env.code = .ref c) (TB : LamX.TabB X.base X.mg c P)
    (hmT : (P, q) ∈ (gm K).T) (hr : Room (k + 2) X.A) (hgl : glB X.env.scope "_law_ended" = true) (hb : ∀ (A1 : Around) (outer1 : List PySem.Env) (s1 : Shared) (H1 : Hp) (E1 : XK) (f1 c1 : Addr), Room k (A1.deeper (LamX.lamEnv X sc s1.heap.objs.size f1 c1)) → PE (LamX.lamCx X A1 outer1 s1 H1 E1 sc f1 c1) b (tS (gm K) E1 fe))
    (L : LamX.lamSB X.env.scope sc = true) (hdef : defaultsOf params X.env = ([], [])) (hbind : ∀ (q : Str) (cl : List (Str × Addr)) (pm cv ctv : Value), bindArgs (PySem.W.kla_fn "<lambda>" q params b sc cl pm cv ctv) ⟨[], []⟩ = pure []) :
    PE X (.Call (.Name "_law_ended" p) [.Lambda params b sc lp] [] pos) (tS (gm K) EW (fEnd et fe)) := by
  subst hK hmg hq
  obtain ⟨fd, F⟩ := A.F__law_ended
  have B : Binds X.K fd ["act"] [] := F.bindsN fun _ _ _ _ _ _ us hl => match us, hl with | [_], _ => rfl
  obtain ⟨oc, od, dV, kV, doc, pm, an, cdv, ct, osl, rfl, lk, hcg, _, _⟩ := F.ex
  exact em_end (et_ok X.K) (LamX.pe_lamcall (T := (gm X.K).T) (a := "act") (Ng := ["act", "error", "sorts"]) (gl_of hgl) A.g__law_ended F.kp lk hcg B S__law_ended rfl (.inl E__law_ended.act)
    (end_gives E__law_ended A.end_ A.n_isinstance C.un rfl rfl) TB hcode hmT (tab_one A.tabN hmT) hr (LamX.lamS_by L) hdef hbind hb (by decide) (by decide) (by decide))
theorem code_ref {K : PySem.W.Frag} {x : Str} {params : Arguments} {body : List Stmt} {scope : Scope} {fd : FuncData} {cdv : Value} (F : FunD K x x params body scope [] [] (He.ga K x) fd) (hcd : fd.code = cdv) : cdv = .ref (cA K x) := by
  obtain ⟨oc, od, dV, kV, doc, pm, an, cd, ct, osl, rfl, lk, hcg, _, _⟩ := F.ex
  have e : cd = cdv := hcd
  subst e
  unfold PySem.W.codeIn at hcg
  split at hcg
  · rename_i c
    have : cA K x = c := by unfold cA; rw [lk]
    rw [this]
  · cases hcg

section
variable {w : World} {K : PySem.W.Frag} {mg : Str → Option Value} {base : Heap}
/-! ### is_whole -/
theorem S_is_whole : FnScope ["value"] ["value"] (defScope (top 15)) := ⟨by kernel_rfl, by kernel_rfl, by kernel_rfl, by decide +kernel, by kernel_rfl, by decide +kernel, by decide +kernel⟩
def m_is_whole : SM := (sRet (fAnd (fIsi "int" (fVar 0)) (fNot (fIsi "bool" (fVar 0)))))
def r_is_whole : List D → Store → R D := runB 1 1 m_is_whole
theorem f_is_whole (A : All K mg) {fd : FuncData} (F : FunD K "is_whole" "is_whole" (defArgs (top 15)) (defBody (top 15)) (defScope (top 15)) [] [] (He.ga K "is_whole") fd) : FnOk prg w K mg base (L2.CX prg w) 1 (He.ga K "is_whole") fd ["value"] (spOf (gm K) r_is_whole) := by
  refine ok_def (k := 0) (m := m_is_whole) F S_is_whole rfl rfl fun cdv A0 outer s H E hcd hr => ?_
  have C : Cg (gm K) (cxOf (L2.CX prg w) prg w K mg base ["value"] "is_whole" (defScope (top 15)) (He.ga K "is_whole") cdv A0 outer s H E) := ⟨rfl, rfl, S_is_whole.nd, by have h := hr.un; show (A0.deeper _).units + 200 < cLine; omega⟩
  have tk : Takes (cxOf (L2.CX prg w) prg w K mg base ["value"] "is_whole" (defScope (top 15)) (He.ga K "is_whole") cdv A0 outer s H E) (fun c d _ H => E c d H) := takes_of rfl rfl rfl rfl
  have pw := passes_of (X := cxOf (L2.CX prg w) prg w K mg base ["value"] "is_whole" (defScope (top 15)) (He.ga K "is_whole") cdv A0 outer s H E) rfl
  show PSs _ [_] _
  unfold m_is_whole
  exact (ess_one (es_ret (em_and (xIsi "int" C (xv 0) A.n_isinstance A.n_int) (em_one (em_not (xIsi "bool" C (xv 0) A.n_isinstance A.n_bool))))))
theorem k_is_whole (A : All K mg) : Kn (gm K) prg w K mg base "is_whole" 1 ["value"] r_is_whole := by
  obtain ⟨fd, F⟩ := A.F_is_whole
  exact ⟨_, fd, f_is_whole A F, A.g_is_whole, F.kp, F.bindsN fun _ _ _ _ _ _ us hl => match us, hl with | [_], _ => rfl⟩
/-! ### is_text -/
theorem S_is_text : FnScope ["value"] ["value"] (defScope (top 17)) := ⟨by kernel_rfl, by kernel_rfl, by kernel_rfl, by decide +kernel, by kernel_rfl, by decide +kernel, by decide +kernel⟩
def m_is_text : SM := (sRet (fIsi "str" (fVar 0)))
def r_is_text : List D → Store → R D := runB 1 1 m_is_text
theorem f_is_text (A : All K mg) {fd : FuncData} (F : FunD K "is_text" "is_text" (defArgs (top 17)) (defBody (top 17)) (defScope (top 17)) [] [] (He.ga K "is_text") fd) : FnOk prg w K mg base (L2.CX prg w) 1 (He.ga K "is_text") fd ["value"] (spOf (gm K) r_is_text) := by
  refine ok_def (k := 0) (m := m_is_text) F S_is_text rfl rfl fun cdv A0 outer s H E hcd hr => ?_
  have C : Cg (gm K) (cxOf (L2.CX prg w) prg w K mg base ["value"] "is_text" (defScope (top 17)) (He.ga K "is_text") cdv A0 outer s H E) := ⟨rfl, rfl, S_is_text.nd, by have h := hr.un; show (A0.deeper _).units + 200 < cLine; omega⟩
  have tk : Takes (cxOf (L2.CX prg w) prg w K mg base ["value"] "is_text" (defScope (top 17)) (He.ga K "is_text") cdv A0 outer s H E) (fun c d _ H => E c d H) := takes_of rfl rfl rfl rfl
  have pw := passes_of (X := cxOf (L2.CX prg w) prg w K mg base ["value"] "is_text" (defScope (top 17)) (He.ga K "is_text") cdv A0 outer s H E) rfl
  show PSs _ [_] _
  unfold m_is_text
  exact (ess_one (es_ret (xIsi "str" C (xv 0) A.n_isinstance A.n_str)))
theorem k_is_text (A : All K mg) : Kn (gm K) prg w K mg base "is_text" 1 ["value"] r_is_text := by
  obtain ⟨fd, F⟩ := A.F_is_text
  exact ⟨_, fd, f_is_text A F, A.g_is_text, F.kp, F.bindsN fun _ _ _ _ _ _ us hl => match us, hl with | [_], _ => rfl⟩
/-! ### is_tuple_of -/
theorem S_is_tuple_of : FnScope ["value", "many"] ["value", "many"] (defScope (top 18)) := ⟨by kernel_rfl, by kernel_rfl, by kernel_rfl, by decide +kernel, by kernel_rfl, by decide +kernel, by decide +kernel⟩
def m_is_tuple_of : SM := (sRet (fAnd (fIsi "tuple" (fVar 0)) (fCmp .eq (fCall (fnV lenV) (fCons (fVar 0) fNil)) (fVar 1))))
def r_is_tuple_of : List D → Store → R D := runB 2 2 m_is_tuple_of
theorem f_is_tuple_of (A : All K mg) {fd : FuncData} (F : FunD K "is_tuple_of" "is_tuple_of" (defArgs (top 18)) (defBody (top 18)) (defScope (top 18)) [] [] (He.ga K "is_tuple_of") fd) : FnOk prg w K mg base (L2.CX prg w) 1 (He.ga K "is_tuple_of") fd ["value", "many"] (spOf (gm K) r_is_tuple_of) := by
  refine ok_def (k := 0) (m := m_is_tuple_of) F S_is_tuple_of rfl rfl fun cdv A0 outer s H E hcd hr => ?_
  have C : Cg (gm K) (cxOf (L2.CX prg w) prg w K mg base ["value", "many"] "is_tuple_of" (defScope (top 18)) (He.ga K "is_tuple_of") cdv A0 outer s H E) := ⟨rfl, rfl, S_is_tuple_of.nd, by have h := hr.un; show (A0.deeper _).units + 200 < cLine; omega⟩
  have tk : Takes (cxOf (L2.CX prg w) prg w K mg base ["value", "many"] "is_tuple_of" (defScope (top 18)) (He.ga K "is_tuple_of") cdv A0 outer s H E) (fun c d _ H => E c d H) := takes_of rfl rfl rfl rfl
  have pw := passes_of (X := cxOf (L2.CX prg w) prg w K mg base ["value", "many"] "is_tuple_of" (defScope (top 18)) (He.ga K "is_tuple_of") cdv A0 outer s H E) rfl
  show PSs _ [_] _
  unfold m_is_tuple_of
  exact (ess_one (es_ret (em_and (xIsi "tuple" C (xv 0) A.n_isinstance A.n_tuple) (em_one (xCmp (oEq C) (xLen C (lCons (xv 0) ea_nil) A.n_len) (xv 1))))))
theorem k_is_tuple_of (A : All K mg) : Kn (gm K) prg w K mg base "is_tuple_of" 1 ["value", "many"] r_is_tuple_of := by
  obtain ⟨fd, F⟩ := A.F_is_tuple_of
  exact ⟨_, fd, f_is_tuple_of A F, A.g_is_tuple_of, F.kp, F.bindsN fun _ _ _ _ _ _ us hl => match us, hl with | [_, _], _ => rfl⟩
/-! ### is_short_tuple -/
theorem S_is_short_tuple : FnScope ["value", "low", "high"] ["value", "low", "high"] (defScope (top 19)) := ⟨by kernel_rfl, by kernel_rfl, by kernel_rfl, by decide +kernel, by kernel_rfl, by decide +kernel, by decide +kernel⟩
def m_is_short_tuple : SM := (sRet (fAnd (fIsi "tuple" (fVar 0)) (fChain .le .le (fVar 1) (fCall (fnV lenV) (fCons (fVar 0) fNil)) (fVar 2))))
def r_is_short_tuple : List D → Store → R D := runB 3 3 m_is_short_tuple
theorem f_is_short_tuple (A : All K mg) {fd : FuncData} (F : FunD K "is_short_tuple" "is_short_tuple" (defArgs (top 19)) (defBody (top 19)) (defScope (top 19)) [] [] (He.ga K "is_short_tuple") fd) : FnOk prg w K mg base (L2.CX prg w) 1 (He.ga K "is_short_tuple") fd ["value", "low", "high"] (spOf (gm K) r_is_short_tuple) := by
  refine ok_def (k := 0) (m := m_is_short_tuple) F S_is_short_tuple rfl rfl fun cdv A0 outer s H E hcd hr => ?_
  have C : Cg (gm K) (cxOf (L2.CX prg w) prg w K mg base ["value", "low", "high"] "is_short_tuple" (defScope (top 19)) (He.ga K "is_short_tuple") cdv A0 outer s H E) := ⟨rfl, rfl, S_is_short_tuple.nd, by have h := hr.un; show (A0.deeper _).units + 200 < cLine; omega⟩
  have tk : Takes (cxOf (L2.CX prg w) prg w K mg base ["value", "low", "high"] "is_short_tuple" (defScope (top 19)) (He.ga K "is_short_tuple") cdv A0 outer s H E) (fun c d _ H => E c d H) := takes_of rfl rfl rfl rfl
  have pw := passes_of (X := cxOf (L2.CX prg w) prg w K mg base ["value", "low", "high"] "is_short_tuple" (defScope (top 19)) (He.ga K "is_short_tuple") cdv A0 outer s H E) rfl
  show PSs _ [_] _
  unfold m_is_short_tuple
  exact (ess_one (es_ret (em_and (xIsi "tuple" C (xv 0) A.n_isinstance A.n_tuple) (em_one (xChain (oLe C) (oLe C) (xv 1) (xLen C (lCons (xv 0) ea_nil) A.n_len) (xv 2))))))
theorem k_is_short_tuple (A : All K mg) : Kn (gm K) prg w K mg base "is_short_tuple" 1 ["value", "low", "high"] r_is_short_tuple := by
  obtain ⟨fd, F⟩ := A.F_is_short_tuple
  exact ⟨_, fd, f_is_short_tuple A F, A.g_is_short_tuple, F.kp, F.bindsN fun _ _ _ _ _ _ us hl => match us, hl with | [_, _, _], _ => rfl⟩
/-! ### head_of -/
theorem S_head_of : FnScope ["value"] ["value"] (defScope (top 20)) := ⟨by kernel_rfl, by kernel_rfl, by kernel_rfl, by decide +kernel, by kernel_rfl, by decide +kernel, by decide +kernel⟩
def m_head_of : SM := (sRet (fIte (fAnd (fIsi "tuple" (fVar 0)) (fAnd (fCmp .ne (fVar 0) (fTup fNil)) (fIsi "str" (fIdx (fVar 0) (fC (.int 0)))))) (fLst (fCons (fIdx (fVar 0) (fC (.int 0))) fNil)) (fLst fNil)))
def r_head_of : List D → Store → R D := runB 1 1 m_head_of
theorem f_head_of (A : All K mg) {fd : FuncData} (F : FunD K "head_of" "head_of" (defArgs (top 20)) (defBody (top 20)) (defScope (top 20)) [] [] (He.ga K "head_of") fd) : FnOk prg w K mg base (L2.CX prg w) 1 (He.ga K "head_of") fd ["value"] (spOf (gm K) r_head_of) := by
  refine ok_def (k := 0) (m := m_head_of) F S_head_of rfl rfl fun cdv A0 outer s H E hcd hr => ?_
  have C : Cg (gm K) (cxOf (L2.CX prg w) prg w K mg base ["value"] "head_of" (defScope (top 20)) (He.ga K "head_of") cdv A0 outer s H E) := ⟨rfl, rfl, S_head_of.nd, by have h := hr.un; show (A0.deeper _).units + 200 < cLine; omega⟩
  have tk : Takes (cxOf (L2.CX prg w) prg w K mg base ["value"] "head_of" (defScope (top 20)) (He.ga K "head_of") cdv A0 outer s H E) (fun c d _ H => E c d H) := takes_of rfl rfl rfl rfl
  have pw := passes_of (X := cxOf (L2.CX prg w) prg w K mg base ["value"] "head_of" (defScope (top 20)) (He.ga K "head_of") cdv A0 outer s H E) rfl
  show PSs _ [_] _
  unfold m_head_of
  exact (ess_one (es_ret (em_ite (tW (ew_and (tVal (xIsi "tuple" C (xv 0) A.n_isinstance A.n_tuple)) (ew_and (tCmp (oNe C) (xv 0) (em_tup ea_nil)) (ew_one (.inl rfl) (tVal (xIsi "str" C (xIdx C (xv 0) em_int) A.n_isinstance A.n_str)))))) (em_lst (lCons (xIdx C (xv 0) em_int) ea_nil)) (em_lst ea_nil))))
theorem k_head_of (A : All K mg) : Kn (gm K) prg w K mg base "head_of" 1 ["value"] r_head_of := by
  obtain ⟨fd, F⟩ := A.F_head_of
  exact ⟨_, fd, f_head_of A F, A.g_head_of, F.kp, F.bindsN fun _ _ _ _ _ _ us hl => match us, hl with | [_], _ => rfl⟩
/-! ### is_name -/
theorem S_is_name : FnScope ["value", "sign"] ["value"] (defScope (top 21)) := ⟨by kernel_rfl, by kernel_rfl, by kernel_rfl, by decide +kernel, by kernel_rfl, by decide +kernel, by decide +kernel⟩
def m_is_name : SM := (sSeq (sIf (fOr (fNot (fIsi "str" (fVar 0))) (fOr (fNot (fChain .le .le (fC (.int 1)) (fCall (fnV lenV) (fCons (fVar 0) fNil)) (fC (.int 8)))) (fCmp .isin (fVar 0) (fC d_WORDS)))) (sRet (fC (.bool false))) sNx) (sRet (fCall (fnV allV) (fCons (fLc [1] (fIter (fVar 0)) (gSet 1) tT1 (fCmp .isin (fVar 1) (fC (.str "abcdefghijklmnopqrstuvwxyz")))) fNil))))
def r_is_name : List D → Store → R D := runB 1 2 m_is_name
theorem f_is_name (A : All K mg) {fd : FuncData} (F : FunD K "is_name" "is_name" (defArgs (top 21)) (defBody (top 21)) (defScope (top 21)) [] [] (He.ga K "is_name") fd) : FnOk prg w K mg base (L2.CX prg w) 1 (He.ga K "is_name") fd ["value"] (spOf (gm K) r_is_name) := by
  refine ok_def (k := 0) (m := m_is_name) F S_is_name rfl rfl fun cdv A0 outer s H E hcd hr => ?_
  have C : Cg (gm K) (cxOf (L2.CX prg w) prg w K mg base ["value", "sign"] "is_name" (defScope (top 21)) (He.ga K "is_name") cdv A0 outer s H E) := ⟨rfl, rfl, S_is_name.nd, by have h := hr.un; show (A0.deeper _).units + 200 < cLine; omega⟩
  have tk : Takes (cxOf (L2.CX prg w) prg w K mg base ["value", "sign"] "is_name" (defScope (top 21)) (He.ga K "is_name") cdv A0 outer s H E) (fun c d _ H => E c d H) := takes_of rfl rfl rfl rfl
  have pw := passes_of (X := cxOf (L2.CX prg w) prg w K mg base ["value", "sign"] "is_name" (defScope (top 21)) (He.ga K "is_name") cdv A0 outer s H E) rfl
  show PSs _ [_, _] _
  unfold m_is_name
  exact (ess_cons (es_if (tW (ew_or (et_not (tVal (xIsi "str" C (xv 0) A.n_isinstance A.n_str))) (ew_or (et_not (tChain (oLe C) (oLe C) em_int (xLen C (lCons (xv 0) ea_nil) A.n_len) (xgi A.c_MOST_LETTERS))) (ew_one (.inr rfl) (tCmp (oIn C) (xv 0) (xgo A.g_WORDS A.c_WORDS)))))) (ess_one (es_ret em_bl)) ess_nil) (ess_one (es_ret (xAll C (lCons (xLc [("sign", 1)] C (iAnyN C (xv 0)) (fun _ _ _ _ _ => (wN 1 C.blk)) (fun _ _ _ _ _ => ets_nil) (fun _ _ _ _ _ => (xCmp (oIn C.blk) (xv 1) (xgs A.c_LETTERS)))) ea_nil) A.n_all))))
theorem k_is_name (A : All K mg) : Kn (gm K) prg w K mg base "is_name" 1 ["value"] r_is_name := by
  obtain ⟨fd, F⟩ := A.F_is_name
  exact ⟨_, fd, f_is_name A F, A.g_is_name, F.kp, F.bindsN fun _ _ _ _ _ _ us hl => match us, hl with | [_], _ => rfl⟩
/-! ### whole_of -/
theorem S_whole_of : FnScope ["figures", "found", "sign"] ["figures"] (defScope (top 23)) := ⟨by kernel_rfl, by kernel_rfl, by kernel_rfl, by decide +kernel, by kernel_rfl, by decide +kernel, by decide +kernel⟩
def m_whole_of : SM := (sSeq (sSet 1 (fC (.int 0))) (sSeq (sFor (gSet 2) (fIter (fVar 0)) (sSet 1 (fBin .add (fBin .mul (fVar 1) (fC (.int 10))) (fBm "str" mIndexS (fC (.str "0123456789")) (fCons (fVar 2) fNil))))) (sRet (fVar 1))))
def r_whole_of : List D → Store → R D := runB 1 3 m_whole_of
theorem f_whole_of (A : All K mg) {fd : FuncData} (F : FunD K "whole_of" "whole_of" (defArgs (top 23)) (defBody (top 23)) (defScope (top 23)) [] [] (He.ga K "whole_of") fd) : FnOk prg w K mg base (L2.CX prg w) 1 (He.ga K "whole_of") fd ["figures"] (spOf (gm K) r_whole_of) := by
  refine ok_def (k := 0) (m := m_whole_of) F S_whole_of rfl rfl fun cdv A0 outer s H E hcd hr => ?_
  have C : Cg (gm K) (cxOf (L2.CX prg w) prg w K mg base ["figures", "found", "sign"] "whole_of" (defScope (top 23)) (He.ga K "whole_of") cdv A0 outer s H E) := ⟨rfl, rfl, S_whole_of.nd, by have h := hr.un; show (A0.deeper _).units + 200 < cLine; omega⟩
  have tk : Takes (cxOf (L2.CX prg w) prg w K mg base ["figures", "found", "sign"] "whole_of" (defScope (top 23)) (He.ga K "whole_of") cdv A0 outer s H E) (fun c d _ H => E c d H) := takes_of rfl rfl rfl rfl
  have pw := passes_of (X := cxOf (L2.CX prg w) prg w K mg base ["figures", "found", "sign"] "whole_of" (defScope (top 23)) (He.ga K "whole_of") cdv A0 outer s H E) rfl
  show PSs _ [_, _, _] _
  unfold m_whole_of
  exact (ess_cons (sSetN 1 C em_int) (ess_cons (sForN C pw (iAnyN C (xv 0)) (gN 2 C) (ess_one (sSetN 1 C (xAdd C (xMul C (xv 1) em_int) (xBm (.inl rfl) mo_indexS (xgs A.c_FIGURES) (lCons (xv 2) ea_nil)))))) (ess_one (es_ret (xv 1)))))
theorem k_whole_of (A : All K mg) : Kn (gm K) prg w K mg base "whole_of" 1 ["figures"] r_whole_of := by
  obtain ⟨fd, F⟩ := A.F_whole_of
  exact ⟨_, fd, f_whole_of A F, A.g_whole_of, F.kp, F.bindsN fun _ _ _ _ _ _ us hl => match us, hl with | [_], _ => rfl⟩
/-! ### lowest -/
theorem S_lowest : FnScope ["num", "den", "common", "sign"] ["num", "den"] (defScope (top 25)) := ⟨by kernel_rfl, by kernel_rfl, by kernel_rfl, by decide +kernel, by kernel_rfl, by decide +kernel, by decide +kernel⟩
def m_lowest : SM := (sSeq (sSet 2 (fCall (fnV gcdV) (fCons (fVar 0) (fCons (fVar 1) fNil)))) (sSeq (sSet 3 (fIte (fCmp .gt (fVar 1) (fC (.int 0))) (fC (.int 1)) (fBin .sub (fC (.int 0)) (fC (.int 1))))) (sRet (fTup (fCons (fBin .fdiv (fBin .mul (fVar 3) (fVar 0)) (fVar 2)) (fCons (fBin .fdiv (fBin .mul (fVar 3) (fVar 1)) (fVar 2)) fNil))))))
def r_lowest : List D → Store → R D := runB 2 4 m_lowest
theorem f_lowest (A : All K mg) {fd : FuncData} (F : FunD K "lowest" "lowest" (defArgs (top 25)) (defBody (top 25)) (defScope (top 25)) [] [] (He.ga K "lowest") fd) : FnOk prg w K mg base (L2.CX prg w) 1 (He.ga K "lowest") fd ["num", "den"] (spOf (gm K) r_lowest) := by
  refine ok_def (k := 0) (m := m_lowest) F S_lowest rfl rfl fun cdv A0 outer s H E hcd hr => ?_
  have C : Cg (gm K) (cxOf (L2.CX prg w) prg w K mg base ["num", "den", "common", "sign"] "lowest" (defScope (top 25)) (He.ga K "lowest") cdv A0 outer s H E) := ⟨rfl, rfl, S_lowest.nd, by have h := hr.un; show (A0.deeper _).units + 200 < cLine; omega⟩
  have tk : Takes (cxOf (L2.CX prg w) prg w K mg base ["num", "den", "common", "sign"] "lowest" (defScope (top 25)) (He.ga K "lowest") cdv A0 outer s H E) (fun c d _ H => E c d H) := takes_of rfl rfl rfl rfl
  have pw := passes_of (X := cxOf (L2.CX prg w) prg w K mg base ["num", "den", "common", "sign"] "lowest" (defScope (top 25)) (He.ga K "lowest") cdv A0 outer s H E) rfl
  show PSs _ [_, _, _] _
  unfold m_lowest
  exact (ess_cons (sSetN 2 C (xGcd C (lCons (xv 0) (lCons (xv 1) ea_nil)) A.g_gcd)) (ess_cons (sSetN 3 C (em_ite (tCmp (oGt C) (xv 1) em_int) em_int (xSub C em_int em_int))) (ess_one (es_ret (em_tup (lCons (xFdiv C (xMul C (xv 3) (xv 0)) (xv 2)) (lCons (xFdiv C (xMul C (xv 3) (xv 1)) (xv 2)) ea_nil)))))))
theorem k_lowest (A : All K mg) : Kn (gm K) prg w K mg base "lowest" 1 ["num", "den"] r_lowest := by
  obtain ⟨fd, F⟩ := A.F_lowest
  exact ⟨_, fd, f_lowest A F, A.g_lowest, F.kp, F.bindsN fun _ _ _ _ _ _ us hl => match us, hl with | [_, _], _ => rfl⟩
/-! ### tens -/
theorem S_tens : FnScope ["places"] ["places"] (defScope (top 27)) := ⟨by kernel_rfl, by kernel_rfl, by kernel_rfl, by decide +kernel, by kernel_rfl, by decide +kernel, by decide +kernel⟩
def m_tens : SM := (sRet (fCall (fnV intV) (fCons (fBin .add (fC (.str "1")) (fBin .mul (fC (.str "0")) (fVar 0))) fNil)))
def r_tens : List D → Store → R D := runB 1 1 m_tens
theorem f_tens (A : All K mg) {fd : FuncData} (F : FunD K "tens" "tens" (defArgs (top 27)) (defBody (top 27)) (defScope (top 27)) [] [] (He.ga K "tens") fd) : FnOk prg w K mg base (L2.CX prg w) 1 (He.ga K "tens") fd ["places"] (spOf (gm K) r_tens) := by
  refine ok_def (k := 0) (m := m_tens) F S_tens rfl rfl fun cdv A0 outer s H E hcd hr => ?_
  have C : Cg (gm K) (cxOf (L2.CX prg w) prg w K mg base ["places"] "tens" (defScope (top 27)) (He.ga K "tens") cdv A0 outer s H E) := ⟨rfl, rfl, S_tens.nd, by have h := hr.un; show (A0.deeper _).units + 200 < cLine; omega⟩
  have tk : Takes (cxOf (L2.CX prg w) prg w K mg base ["places"] "tens" (defScope (top 27)) (He.ga K "tens") cdv A0 outer s H E) (fun c d _ H => E c d H) := takes_of rfl rfl rfl rfl
  have pw := passes_of (X := cxOf (L2.CX prg w) prg w K mg base ["places"] "tens" (defScope (top 27)) (He.ga K "tens") cdv A0 outer s H E) rfl
  show PSs _ [_] _
  unfold m_tens
  exact (ess_one (es_ret (xInt C (lCons (xAdd C xs (xMul C xs (xv 0))) ea_nil) A.n_int)))
theorem k_tens (A : All K mg) : Kn (gm K) prg w K mg base "tens" 1 ["places"] r_tens := by
  obtain ⟨fd, F⟩ := A.F_tens
  exact ⟨_, fd, f_tens A F, A.g_tens, F.kp, F.bindsN fun _ _ _ _ _ _ us hl => match us, hl with | [_], _ => rfl⟩
/-! ### text_at -/
theorem S_text_at : FnScope ["number", "places", "figures", "sign"] ["number", "places"] (defScope (top 30)) := ⟨by kernel_rfl, by kernel_rfl, by kernel_rfl, by decide +kernel, by kernel_rfl, by decide +kernel, by decide +kernel⟩
def m_text_at : SM := (sSeq (sSet 2 (fCall (fnV strV) (fCons (fCall (fnV absV) (fCons (fVar 0) fNil)) fNil))) (sSeq (sSet 3 (fIte (fCmp .lt (fVar 0) (fC (.int 0))) (fC (.str "-")) (fC (.str "")))) (sSeq (sIf (fCmp .eq (fVar 1) (fC (.int 0))) (sRet (fBin .add (fVar 3) (fVar 2))) sNx) (sSeq (sSet 2 (fBin .add (fBin .mul (fC (.str "0")) (fBin .sub (fBin .add (fVar 1) (fC (.int 1))) (fCall (fnV lenV) (fCons (fVar 2) fNil)))) (fVar 2))) (sRet (fBin .add (fBin .add (fBin .add (fVar 3) (fSli (fVar 2) none (some (fBin .sub (fCall (fnV lenV) (fCons (fVar 2) fNil)) (fVar 1))))) (fC (.str "."))) (fSli (fVar 2) (some (fBin .sub (fCall (fnV lenV) (fCons (fVar 2) fNil)) (fVar 1))) none)))))))
def r_text_at : List D → Store → R D := runB 2 4 m_text_at
theorem f_text_at (A : All K mg) {fd : FuncData} (F : FunD K "text_at" "text_at" (defArgs (top 30)) (defBody (top 30)) (defScope (top 30)) [] [] (He.ga K "text_at") fd) : FnOk prg w K mg base (L2.CX prg w) 1 (He.ga K "text_at") fd ["number", "places"] (spOf (gm K) r_text_at) := by
  refine ok_def (k := 0) (m := m_text_at) F S_text_at rfl rfl fun cdv A0 outer s H E hcd hr => ?_
  have C : Cg (gm K) (cxOf (L2.CX prg w) prg w K mg base ["number", "places", "figures", "sign"] "text_at" (defScope (top 30)) (He.ga K "text_at") cdv A0 outer s H E) := ⟨rfl, rfl, S_text_at.nd, by have h := hr.un; show (A0.deeper _).units + 200 < cLine; omega⟩
  have tk : Takes (cxOf (L2.CX prg w) prg w K mg base ["number", "places", "figures", "sign"] "text_at" (defScope (top 30)) (He.ga K "text_at") cdv A0 outer s H E) (fun c d _ H => E c d H) := takes_of rfl rfl rfl rfl
  have pw := passes_of (X := cxOf (L2.CX prg w) prg w K mg base ["number", "places", "figures", "sign"] "text_at" (defScope (top 30)) (He.ga K "text_at") cdv A0 outer s H E) rfl
  show PSs _ [_, _, _, _, _] _
  unfold m_text_at
  exact (ess_cons (sSetN 2 C (xStr C (lCons (xAbs C (lCons (xv 0) ea_nil) A.n_abs) ea_nil) A.n_str)) (ess_cons (sSetN 3 C (em_ite (tCmp (oLt C) (xv 0) em_int) xs xs)) (ess_cons (es_if (tCmp (oEq C) (xv 1) em_int) (ess_one (es_ret (xAdd C (xv 3) (xv 2)))) ess_nil) (ess_cons (sSetN 2 C (xAdd C (xMul C xs (xSub C (xAdd C (xv 1) em_int) (xLen C (lCons (xv 2) ea_nil) A.n_len))) (xv 2))) (ess_one (es_ret (xAdd C (xAdd C (xAdd C (xv 3) (xSli C (xv 2) eo_none (eo_some (xSub C (xLen C (lCons (xv 2) ea_nil) A.n_len) (xv 1))))) xs) (xSli C (xv 2) (eo_some (xSub C (xLen C (lCons (xv 2) ea_nil) A.n_len) (xv 1))) eo_none))))))))
theorem k_text_at (A : All K mg) : Kn (gm K) prg w K mg base "text_at" 1 ["number", "places"] r_text_at := by
  obtain ⟨fd, F⟩ := A.F_text_at
  exact ⟨_, fd, f_text_at A F, A.g_text_at, F.kp, F.bindsN fun _ _ _ _ _ _ us hl => match us, hl with | [_, _], _ => rfl⟩
/-! ### parts_of -/
theorem S_parts_of : FnScope ["expression"] ["expression"] (defScope (top 45)) := ⟨by kernel_rfl, by kernel_rfl, by kernel_rfl, by decide +kernel, by kernel_rfl, by decide +kernel, by decide +kernel⟩
def m_parts_of : SM := (sSeq (sIf (fCmp .isin (fIdx (fVar 0) (fC (.int 0))) (fC d_OPS)) (sRet (fLst (fCons (fIdx (fVar 0) (fC (.int 1))) (fCons (fIdx (fVar 0) (fC (.int 2))) fNil)))) sNx) (sRet (fIte (fCmp .eq (fIdx (fVar 0) (fC (.int 0))) (fC (.str "call"))) (fCall (fnV listV) (fCons (fIdx (fVar 0) (fC (.int 2))) fNil)) (fLst fNil))))
def r_parts_of : List D → Store → R D := runB 1 1 m_parts_of
theorem f_parts_of (A : All K mg) {fd : FuncData} (F : FunD K "parts_of" "parts_of" (defArgs (top 45)) (defBody (top 45)) (defScope (top 45)) [] [] (He.ga K "parts_of") fd) : FnOk prg w K mg base (L2.CX prg w) 1 (He.ga K "parts_of") fd ["expression"] (spOf (gm K) r_parts_of) := by
  refine ok_def (k := 0) (m := m_parts_of) F S_parts_of rfl rfl fun cdv A0 outer s H E hcd hr => ?_
  have C : Cg (gm K) (cxOf (L2.CX prg w) prg w K mg base ["expression"] "parts_of" (defScope (top 45)) (He.ga K "parts_of") cdv A0 outer s H E) := ⟨rfl, rfl, S_parts_of.nd, by have h := hr.un; show (A0.deeper _).units + 200 < cLine; omega⟩
  have tk : Takes (cxOf (L2.CX prg w) prg w K mg base ["expression"] "parts_of" (defScope (top 45)) (He.ga K "parts_of") cdv A0 outer s H E) (fun c d _ H => E c d H) := takes_of rfl rfl rfl rfl
  have pw := passes_of (X := cxOf (L2.CX prg w) prg w K mg base ["expression"] "parts_of" (defScope (top 45)) (He.ga K "parts_of") cdv A0 outer s H E) rfl
  show PSs _ [_, _] _
  unfold m_parts_of
  exact (ess_cons (es_if (tCmp (oIn C) (xIdx C (xv 0) em_int) (xgo A.g_OPS A.c_OPS)) (ess_one (es_ret (em_lst (lCons (xIdx C (xv 0) em_int) (lCons (xIdx C (xv 0) em_int) ea_nil))))) ess_nil) (ess_one (es_ret (em_ite (tCmp (oEq C) (xIdx C (xv 0) em_int) xs) (xList C (lCons (xIdx C (xv 0) em_int) ea_nil) A.n_list) (em_lst ea_nil)))))
theorem k_parts_of (A : All K mg) : Kn (gm K) prg w K mg base "parts_of" 1 ["expression"] r_parts_of := by
  obtain ⟨fd, F⟩ := A.F_parts_of
  exact ⟨_, fd, f_parts_of A F, A.g_parts_of, F.kp, F.bindsN fun _ _ _ _ _ _ us hl => match us, hl with | [_], _ => rfl⟩
/-! ### run_of -/
theorem S_run_of : FnScope ["text", "at", "signs", "end"] ["text", "at", "signs"] (defScope (top 57)) := ⟨by kernel_rfl, by kernel_rfl, by kernel_rfl, by decide +kernel, by kernel_rfl, by decide +kernel, by decide +kernel⟩
def m_run_of : SM := (sSeq (sSet 3 (fVar 1)) (sSeq (sWhile 100000 (fAnd (fCmp .lt (fVar 3) (fCall (fnV lenV) (fCons (fVar 0) fNil))) (fCmp .isin (fIdx (fVar 0) (fVar 3)) (fVar 2))) (sSet 3 (fBin .add (fVar 3) (fC (.int 1))))) (sRet (fSli (fVar 0) (some (fVar 1)) (some (fVar 3))))))
def r_run_of : List D → Store → R D := runB 3 4 m_run_of
theorem f_run_of (A : All K mg) {fd : FuncData} (F : FunD K "run_of" "run_of" (defArgs (top 57)) (defBody (top 57)) (defScope (top 57)) [] [] (He.ga K "run_of") fd) : FnOk prg w K mg base (L2.CX prg w) 1 (He.ga K "run_of") fd ["text", "at", "signs"] (spOf (gm K) r_run_of) := by
  refine ok_def (k := 0) (m := m_run_of) F S_run_of rfl rfl fun cdv A0 outer s H E hcd hr => ?_
  have C : Cg (gm K) (cxOf (L2.CX prg w) prg w K mg base ["text", "at", "signs", "end"] "run_of" (defScope (top 57)) (He.ga K "run_of") cdv A0 outer s H E) := ⟨rfl, rfl, S_run_of.nd, by have h := hr.un; show (A0.deeper _).units + 200 < cLine; omega⟩
  have tk : Takes (cxOf (L2.CX prg w) prg w K mg base ["text", "at", "signs", "end"] "run_of" (defScope (top 57)) (He.ga K "run_of") cdv A0 outer s H E) (fun c d _ H => E c d H) := takes_of rfl rfl rfl rfl
  have pw := passes_of (X := cxOf (L2.CX prg w) prg w K mg base ["text", "at", "signs", "end"] "run_of" (defScope (top 57)) (He.ga K "run_of") cdv A0 outer s H E) rfl
  show PSs _ [_, _, _] _
  unfold m_run_of
  exact (ess_cons (sSetN 3 C (xv 1)) (ess_cons (sWhileN 100000 pw (tW (ew_and (tCmp (oLt C) (xv 3) (xLen C (lCons (xv 0) ea_nil) A.n_len)) (ew_one (.inl rfl) (tCmp (oIn C) (xIdx C (xv 0) (xv 3)) (xv 2))))) (ess_one (sSetN 3 C (xAdd C (xv 3) em_int)))) (ess_one (es_ret (xSli C (xv 0) (eo_some (xv 1)) (eo_some (xv 3)))))))
theorem k_run_of (A : All K mg) : Kn (gm K) prg w K mg base "run_of" 1 ["text", "at", "signs"] r_run_of := by
  obtain ⟨fd, F⟩ := A.F_run_of
  exact ⟨_, fd, f_run_of A F, A.g_run_of, F.kp, F.bindsN fun _ _ _ _ _ _ us hl => match us, hl with | [_, _, _], _ => rfl⟩
/-! ### Stack.__init__ -/
theorem S_Stack___init__ : FnScope ["self"] ["self"] (defScope (topm 60 0)) := ⟨by kernel_rfl, by kernel_rfl, by kernel_rfl, by decide +kernel, by kernel_rfl, by decide +kernel, by decide +kernel⟩
def m_Stack___init__ : SM := (sFldS fk (fVar 0) (fNew fNil) "held")
def r_Stack___init__ : List D → Store → R D := runB 1 1 m_Stack___init__
theorem f_Stack___init__ (A : All K mg) {fd : FuncData} (F : FunD K "__init__" "Stack.__init__" (defArgs (topm 60 0)) (defBody (topm 60 0)) (defScope (topm 60 0)) [] [] (He.ma K (He.ga K "Stack") "__init__") fd) : FnOk prg w K mg base (L2.CX prg w) 1 (He.ma K (He.ga K "Stack") "__init__") fd ["self"] (spOf (gm K) r_Stack___init__) := by
  refine ok_def (k := 0) (m := m_Stack___init__) F S_Stack___init__ rfl rfl fun cdv A0 outer s H E hcd hr => ?_
  have C : Cg (gm K) (cxOf (L2.CX prg w) prg w K mg base ["self"] "Stack.__init__" (defScope (topm 60 0)) (He.ma K (He.ga K "Stack") "__init__") cdv A0 outer s H E) := ⟨rfl, rfl, S_Stack___init__.nd, by have h := hr.un; show (A0.deeper _).units + 200 < cLine; omega⟩
  have tk : Takes (cxOf (L2.CX prg w) prg w K mg base ["self"] "Stack.__init__" (defScope (topm 60 0)) (He.ma K (He.ga K "Stack") "__init__") cdv A0 outer s H E) (fun c d _ H => E c d H) := takes_of rfl rfl rfl rfl
  have pw := passes_of (X := cxOf (L2.CX prg w) prg w K mg base ["self"] "Stack.__init__" (defScope (topm 60 0)) (He.ma K (He.ga K "Stack") "__init__") cdv A0 outer s H E) rfl
  show PSs _ [_] _
  unfold m_Stack___init__
  exact (ess_one (sFldN C A.fk (xv 0) (em_new ea_nil)))
theorem k_Stack___init__ (A : All K mg) : KnC (gm K) prg w K mg base "Stack" 5 1 ["self"] r_Stack___init__ := by
  obtain ⟨fd, F⟩ := A.F_Stack___init__
  exact ⟨_, fd, f_Stack___init__ A F, A.g_Stack, A.mk_Stack, F.bindsN fun _ _ _ _ _ _ us hl => match us, hl with | [_], _ => rfl⟩
/-! ### _law_pail -/
theorem S__law_pail : FnScope ["script", "turn", "mixed", "cell", "own"] ["script", "turn"] (defScope (top 67)) := ⟨by kernel_rfl, by kernel_rfl, by kernel_rfl, by decide +kernel, by kernel_rfl, by decide +kernel, by decide +kernel⟩
def m__law_pail : SM := (sSeq (sSet 2 (fBin .add (fC (.int 4732416)) (fBin .mul (fC (.int 12199)) (fVar 1)))) (sSeq (sFor (gSet 3) (fIter (fSli (fVar 0) none (some (fC (.int 12))))) (sSet 2 (fBin .mod (fCall (fnV intV) (fCons (fBin .add (fBin .add (fBin .mul (fVar 2) (fC (.int 65029))) (fBin .mul (fBin .mod (fCall (fnV intV) (fCons (fVar 3) fNil)) (fC (.int 2147483489))) (fC (.int 13)))) (fC (.int 7))) fNil)) (fC (.int 2147483489))))) (sSeq (sSet 4 (fIte (fCmp .lt (fVar 1) (fCall (fnV lenV) (fCons (fVar 0) fNil))) (fCall (fnV intV) (fCons (fIdx (fVar 0) (fVar 1)) fNil)) (fC (.int 0)))) (sSeq (sSet 2 (fBin .mod (fCall (fnV intV) (fCons (fBin .add (fBin .add (fBin .mul (fVar 2) (fC (.int 89))) (fBin .mul (fBin .mod (fVar 4) (fC (.int 2147483489))) (fC (.int 75017)))) (fC (.int 11))) fNil)) (fC (.int 2147483489)))) (sRet (fNew (fCons (fIte (fOr (fCmp .lt (fVar 4) (fC (.int 0))) (fCmp .ge (fVar 4) (fBin .pow (fC (.int 10)) (fC (.int 15))))) (fCall (fnV absV) (fCons (fVar 4) fNil)) (fC (.int 0))) (fCons (fVar 2) (fCons (fC (.int 0)) fNil)))))))))
def r__law_pail : List D → Store → R D := runB 2 5 m__law_pail
theorem f__law_pail (A : All K mg) {fd : FuncData} (F : FunD K "_law_pail" "_law_pail" (defArgs (top 67)) (defBody (top 67)) (defScope (top 67)) [] [] (He.ga K "_law_pail") fd) : FnOk prg w K mg base (L2.CX prg w) 1 (He.ga K "_law_pail") fd ["script", "turn"] (spOf (gm K) r__law_pail) := by
  refine ok_def (k := 0) (m := m__law_pail) F S__law_pail rfl rfl fun cdv A0 outer s H E hcd hr => ?_
  have C : Cg (gm K) (cxOf (L2.CX prg w) prg w K mg base ["script", "turn", "mixed", "cell", "own"] "_law_pail" (defScope (top 67)) (He.ga K "_law_pail") cdv A0 outer s H E) := ⟨rfl, rfl, S__law_pail.nd, by have h := hr.un; show (A0.deeper _).units + 200 < cLine; omega⟩
  have tk : Takes (cxOf (L2.CX prg w) prg w K mg base ["script", "turn", "mixed", "cell", "own"] "_law_pail" (defScope (top 67)) (He.ga K "_law_pail") cdv A0 outer s H E) (fun c d _ H => E c d H) := takes_of rfl rfl rfl rfl
  have pw := passes_of (X := cxOf (L2.CX prg w) prg w K mg base ["script", "turn", "mixed", "cell", "own"] "_law_pail" (defScope (top 67)) (He.ga K "_law_pail") cdv A0 outer s H E) rfl
  show PSs _ [_, _, _, _, _] _
  unfold m__law_pail
  exact (ess_cons (sSetN 2 C (xAdd C em_int (xMul C em_int (xv 1)))) (ess_cons (sForN C pw (iAnyN C (xSli C (xv 0) eo_none (eo_some em_int))) (gN 3 C) (ess_one (sSetN 2 C (xMod C (xInt C (lCons (xAdd C (xAdd C (xMul C (xv 2) em_int) (xMul C (xMod C (xInt C (lCons (xv 3) ea_nil) A.n_int) em_int) em_int)) em_int) ea_nil) A.n_int) em_int)))) (ess_cons (sSetN 4 C (em_ite (tCmp (oLt C) (xv 1) (xLen C (lCons (xv 0) ea_nil) A.n_len)) (xInt C (lCons (xIdx C (xv 0) (xv 1)) ea_nil) A.n_int) em_int)) (ess_cons (sSetN 2 C (xMod C (xInt C (lCons (xAdd C (xAdd C (xMul C (xv 2) em_int) (xMul C (xMod C (xv 4) em_int) em_int)) em_int) ea_nil) A.n_int) em_int)) (ess_one (es_ret (em_new (lCons (em_ite (tW (ew_or (tCmp (oLt C) (xv 4) em_int) (ew_one (.inr rfl) (tCmp (oGe C) (xv 4) (xPow C em_int em_int))))) (xAbs C (lCons (xv 4) ea_nil) A.n_abs) em_int) (lCons (xv 2) (lCons em_int ea_nil))))))))))
theorem k__law_pail (A : All K mg) : Kn (gm K) prg w K mg base "_law_pail" 1 ["script", "turn"] r__law_pail := by
  obtain ⟨fd, F⟩ := A.F__law_pail
  exact ⟨_, fd, f__law_pail A F, A.g__law_pail, F.kp, F.bindsN fun _ _ _ _ _ _ us hl => match us, hl with | [_, _], _ => rfl⟩
/-! ### _law_deal -/
theorem S__law_deal : FnScope ["pail", "top", "figure", "mixed"] ["pail", "top"] (defScope (top 68)) := ⟨by kernel_rfl, by kernel_rfl, by kernel_rfl, by decide +kernel, by kernel_rfl, by decide +kernel, by decide +kernel⟩
def m__law_deal : SM := (sSeq (sIf (fCmp .gt (fIdx (fVar 0) (fC (.int 0))) (fC (.int 0))) (sSeq (sAsg (fCall (fnV divmodV) (fCons (fIdx (fVar 0) (fC (.int 0))) (fCons (fVar 1) fNil))) (gTupD 2 (gCons' (gSubD (fVar 0) (fC (.int 0))) (gCons' (gSet 2) gNil')))) (sRet (fVar 2))) sNx) (sSeq (sAsg (fBin .add (fIdx (fVar 0) (fC (.int 2))) (fC (.int 1))) (gSubD (fVar 0) (fC (.int 2)))) (sSeq (sSet 3 (fBin .mod (fCall (fnV intV) (fCons (fBin .add (fBin .mul (fIdx (fVar 0) (fC (.int 1))) (fC (.int 15527))) (fBin .mul (fC (.int 11909)) (fIdx (fVar 0) (fC (.int 2))))) fNil)) (fC (.int 2147483489)))) (sSeq (sAsg (fBin .mod (fCall (fnV intV) (fCons (fBin .add (fBin .mul (fVar 3) (fBin .add (fBin .mod (fCall (fnV intV) (fCons (fVar 3) fNil)) (fC (.int 5113))) (fC (.int 30013)))) (fBin .mul (fC (.int 31)) (fIdx (fVar 0) (fC (.int 2))))) fNil)) (fC (.int 2147483489))) (gSubD (fVar 0) (fC (.int 1)))) (sRet (fBin .mod (fCall (fnV intV) (fCons (fBin .fdiv (fIdx (fVar 0) (fC (.int 1))) (fC (.int 353))) fNil)) (fVar 1)))))))
def r__law_deal : List D → Store → R D := runB 2 4 m__law_deal
theorem f__law_deal (A : All K mg) {fd : FuncData} (F : FunD K "_law_deal" "_law_deal" (defArgs (top 68)) (defBody (top 68)) (defScope (top 68)) [] [] (He.ga K "_law_deal") fd) : FnOk prg w K mg base (L2.CX prg w) 1 (He.ga K "_law_deal") fd ["pail", "top"] (spOf (gm K) r__law_deal) := by
  refine ok_def (k := 0) (m := m__law_deal) F S__law_deal rfl rfl fun cdv A0 outer s H E hcd hr => ?_
  have C : Cg (gm K) (cxOf (L2.CX prg w) prg w K mg base ["pail", "top", "figure", "mixed"] "_law_deal" (defScope (top 68)) (He.ga K "_law_deal") cdv A0 outer s H E) := ⟨rfl, rfl, S__law_deal.nd, by have h := hr.un; show (A0.deeper _).units + 200 < cLine; omega⟩
  have tk : Takes (cxOf (L2.CX prg w) prg w K mg base ["pail", "top", "figure", "mixed"] "_law_deal" (defScope (top 68)) (He.ga K "_law_deal") cdv A0 outer s H E) (fun c d _ H => E c d H) := takes_of rfl rfl rfl rfl
  have pw := passes_of (X := cxOf (L2.CX prg w) prg w K mg base ["pail", "top", "figure", "mixed"] "_law_deal" (defScope (top 68)) (He.ga K "_law_deal") cdv A0 outer s H E) rfl
  show PSs _ [_, _, _, _, _] _
  unfold m__law_deal
  exact (ess_cons (es_if (tCmp (oGt C) (xIdx C (xv 0) em_int) em_int) (ess_cons (sAsgG (xDivmod C (lCons (xIdx C (xv 0) em_int) (lCons (xv 1) ea_nil)) A.n_divmod) (gT C (gC (eg_sub (xv 0) em_int) (gC (gN 2 C) egs_nil)))) (ess_one (es_ret (xv 2)))) ess_nil) (ess_cons (sAsgG (xAdd C (xIdx C (xv 0) em_int) em_int) (eg_sub (xv 0) em_int)) (ess_cons (sSetN 3 C (xMod C (xInt C (lCons (xAdd C (xMul C (xIdx C (xv 0) em_int) em_int) (xMul C em_int (xIdx C (xv 0) em_int))) ea_nil) A.n_int) em_int)) (ess_cons (sAsgG (xMod C (xInt C (lCons (xAdd C (xMul C (xv 3) (xAdd C (xMod C (xInt C (lCons (xv 3) ea_nil) A.n_int) em_int) em_int)) (xMul C em_int (xIdx C (xv 0) em_int))) ea_nil) A.n_int) em_int) (eg_sub (xv 0) em_int)) (ess_one (es_ret (xMod C (xInt C (lCons (xFdiv C (xIdx C (xv 0) em_int) em_int) ea_nil) A.n_int) (xv 1))))))))
theorem k__law_deal (A : All K mg) : Kn (gm K) prg w K mg base "_law_deal" 1 ["pail", "top"] r__law_deal := by
  obtain ⟨fd, F⟩ := A.F__law_deal
  exact ⟨_, fd, f__law_deal A F, A.g__law_deal, F.kp, F.bindsN fun _ _ _ _ _ _ us hl => match us, hl with | [_, _], _ => rfl⟩
/-! ### _law_gcd -/
theorem S__law_gcd : FnScope ["one", "two", "turn"] ["one", "two"] (defScope (top 70)) := ⟨by kernel_rfl, by kernel_rfl, by kernel_rfl, by decide +kernel, by kernel_rfl, by decide +kernel, by decide +kernel⟩
def m__law_gcd : SM := (sSeq (sPar 0 1 (fCons (fCall (fnV absV) (fCons (fVar 0) fNil)) (fCons (fCall (fnV absV) (fCons (fVar 1) fNil)) fNil))) (sSeq (sFor (gSet 2) (fRng1 (fC (.int 5000))) (sSeq (sIf (fCmp .eq (fVar 1) (fC (.int 0))) sBrk sNx) (sPar 0 1 (fCons (fVar 1) (fCons (fBin .mod (fCall (fnV intV) (fCons (fVar 0) fNil)) (fVar 1)) fNil))))) (sRet (fVar 0))))
def r__law_gcd : List D → Store → R D := runB 2 3 m__law_gcd
theorem f__law_gcd (A : All K mg) {fd : FuncData} (F : FunD K "_law_gcd" "_law_gcd" (defArgs (top 70)) (defBody (top 70)) (defScope (top 70)) [] [] (He.ga K "_law_gcd") fd) : FnOk prg w K mg base (L2.CX prg w) 1 (He.ga K "_law_gcd") fd ["one", "two"] (spOf (gm K) r__law_gcd) := by
  refine ok_def (k := 0) (m := m__law_gcd) F S__law_gcd rfl rfl fun cdv A0 outer s H E hcd hr => ?_
  have C : Cg (gm K) (cxOf (L2.CX prg w) prg w K mg base ["one", "two", "turn"] "_law_gcd" (defScope (top 70)) (He.ga K "_law_gcd") cdv A0 outer s H E) := ⟨rfl, rfl, S__law_gcd.nd, by have h := hr.un; show (A0.deeper _).units + 200 < cLine; omega⟩
  have tk : Takes (cxOf (L2.CX prg w) prg w K mg base ["one", "two", "turn"] "_law_gcd" (defScope (top 70)) (He.ga K "_law_gcd") cdv A0 outer s H E) (fun c d _ H => E c d H) := takes_of rfl rfl rfl rfl
  have pw := passes_of (X := cxOf (L2.CX prg w) prg w K mg base ["one", "two", "turn"] "_law_gcd" (defScope (top 70)) (He.ga K "_law_gcd") cdv A0 outer s H E) rfl
  show PSs _ [_, _, _] _
  unfold m__law_gcd
  exact (ess_cons (sParN 0 1 C (lCons (xAbs C (lCons (xv 0) ea_nil) A.n_abs) (lCons (xAbs C (lCons (xv 1) ea_nil) A.n_abs) ea_nil))) (ess_cons (sForN C pw (iRng em_int A.n_range) (gN 2 C) (ess_cons (es_if (tCmp (oEq C) (xv 1) em_int) (ess_one es_brk) ess_nil) (ess_one (sParN 0 1 C (lCons (xv 1) (lCons (xMod C (xInt C (lCons (xv 0) ea_nil) A.n_int) (xv 1)) ea_nil)))))) (ess_one (es_ret (xv 0)))))
theorem k__law_gcd (A : All K mg) : Kn (gm K) prg w K mg base "_law_gcd" 1 ["one", "two"] r__law_gcd := by
  obtain ⟨fd, F⟩ := A.F__law_gcd
  exact ⟨_, fd, f__law_gcd A F, A.g__law_gcd, F.kp, F.bindsN fun _ _ _ _ _ _ us hl => match us, hl with | [_, _], _ => rfl⟩
/-! ### _law_power -/
theorem S__law_power : FnScope ["base", "many", "found", "turn"] ["base", "many"] (defScope (top 72)) := ⟨by kernel_rfl, by kernel_rfl, by kernel_rfl, by decide +kernel, by kernel_rfl, by decide +kernel, by decide +kernel⟩
def m__law_power : SM := (sSeq (sSet 2 (fC (.int 1))) (sSeq (sFor (gSet 3) (fRng1 (fVar 1)) (sSet 2 (fBin .mul (fVar 2) (fVar 0)))) (sRet (fVar 2))))
def r__law_power : List D → Store → R D := runB 2 4 m__law_power
theorem f__law_power (A : All K mg) {fd : FuncData} (F : FunD K "_law_power" "_law_power" (defArgs (top 72)) (defBody (top 72)) (defScope (top 72)) [] [] (He.ga K "_law_power") fd) : FnOk prg w K mg base (L2.CX prg w) 1 (He.ga K "_law_power") fd ["base", "many"] (spOf (gm K) r__law_power) := by
  refine ok_def (k := 0) (m := m__law_power) F S__law_power rfl rfl fun cdv A0 outer s H E hcd hr => ?_
  have C : Cg (gm K) (cxOf (L2.CX prg w) prg w K mg base ["base", "many", "found", "turn"] "_law_power" (defScope (top 72)) (He.ga K "_law_power") cdv A0 outer s H E) := ⟨rfl, rfl, S__law_power.nd, by have h := hr.un; show (A0.deeper _).units + 200 < cLine; omega⟩
  have tk : Takes (cxOf (L2.CX prg w) prg w K mg base ["base", "many", "found", "turn"] "_law_power" (defScope (top 72)) (He.ga K "_law_power") cdv A0 outer s H E) (fun c d _ H => E c d H) := takes_of rfl rfl rfl rfl
  have pw := passes_of (X := cxOf (L2.CX prg w) prg w K mg base ["base", "many", "found", "turn"] "_law_power" (defScope (top 72)) (He.ga K "_law_power") cdv A0 outer s H E) rfl
  show PSs _ [_, _, _] _
  unfold m__law_power
  exact (ess_cons (sSetN 2 C em_int) (ess_cons (sForN C pw (iRng (xv 1) A.n_range) (gN 3 C) (ess_one (sSetN 2 C (xMul C (xv 2) (xv 0))))) (ess_one (es_ret (xv 2)))))
theorem k__law_power (A : All K mg) : Kn (gm K) prg w K mg base "_law_power" 1 ["base", "many"] r__law_power := by
  obtain ⟨fd, F⟩ := A.F__law_power
  exact ⟨_, fd, f__law_power A F, A.g__law_power, F.kp, F.bindsN fun _ _ _ _ _ _ us hl => match us, hl with | [_, _], _ => rfl⟩
/-! ### _law_figures -/
theorem S__law_figures : FnScope ["number", "places", "text"] ["number", "places"] (defScope (top 74)) := ⟨by kernel_rfl, by kernel_rfl, by kernel_rfl, by decide +kernel, by kernel_rfl, by decide +kernel, by decide +kernel⟩
def m__law_figures : SM := (sSeq (sSet 2 (fCall (fnV strV) (fCons (fCall (fnV absV) (fCons (fVar 0) fNil)) fNil))) (sSeq (sSet 2 (fBin .add (fBin .mul (fC (.str "0")) (fCall (fnV maxV) (fCons (fC (.int 0)) (fCons (fBin .sub (fBin .add (fVar 1) (fC (.int 1))) (fCall (fnV lenV) (fCons (fVar 2) fNil))) fNil)))) (fVar 2))) (sSeq (sSet 2 (fIte (fCmp .eq (fVar 1) (fC (.int 0))) (fVar 2) (fBin .add (fBin .add (fSli (fVar 2) none (some (fBin .sub (fCall (fnV lenV) (fCons (fVar 2) fNil)) (fVar 1)))) (fC (.str "."))) (fSli (fVar 2) (some (fBin .sub (fCall (fnV lenV) (fCons (fVar 2) fNil)) (fVar 1))) none)))) (sRet (fBin .add (fIte (fCmp .lt (fVar 0) (fC (.int 0))) (fC (.str "-")) (fC (.str ""))) (fVar 2))))))
def r__law_figures : List D → Store → R D := runB 2 3 m__law_figures
theorem f__law_figures (A : All K mg) {fd : FuncData} (F : FunD K "_law_figures" "_law_figures" (defArgs (top 74)) (defBody (top 74)) (defScope (top 74)) [] [] (He.ga K "_law_figures") fd) : FnOk prg w K mg base (L2.CX prg w) 1 (He.ga K "_law_figures") fd ["number", "places"] (spOf (gm K) r__law_figures) := by
  refine ok_def (k := 0) (m := m__law_figures) F S__law_figures rfl rfl fun cdv A0 outer s H E hcd hr => ?_
  have C : Cg (gm K) (cxOf (L2.CX prg w) prg w K mg base ["number", "places", "text"] "_law_figures" (defScope (top 74)) (He.ga K "_law_figures") cdv A0 outer s H E) := ⟨rfl, rfl, S__law_figures.nd, by have h := hr.un; show (A0.deeper _).units + 200 < cLine; omega⟩
  have tk : Takes (cxOf (L2.CX prg w) prg w K mg base ["number", "places", "text"] "_law_figures" (defScope (top 74)) (He.ga K "_law_figures") cdv A0 outer s H E) (fun c d _ H => E c d H) := takes_of rfl rfl rfl rfl
  have pw := passes_of (X := cxOf (L2.CX prg w) prg w K mg base ["number", "places", "text"] "_law_figures" (defScope (top 74)) (He.ga K "_law_figures") cdv A0 outer s H E) rfl
  show PSs _ [_, _, _, _] _
  unfold m__law_figures
  exact (ess_cons (sSetN 2 C (xStr C (lCons (xAbs C (lCons (xv 0) ea_nil) A.n_abs) ea_nil) A.n_str)) (ess_cons (sSetN 2 C (xAdd C (xMul C xs (xMax C (lCons em_int (lCons (xSub C (xAdd C (xv 1) em_int) (xLen C (lCons (xv 2) ea_nil) A.n_len)) ea_nil)) A.n_max)) (xv 2))) (ess_cons (sSetN 2 C (em_ite (tCmp (oEq C) (xv 1) em_int) (xv 2) (xAdd C (xAdd C (xSli C (xv 2) eo_none (eo_some (xSub C (xLen C (lCons (xv 2) ea_nil) A.n_len) (xv 1)))) xs) (xSli C (xv 2) (eo_some (xSub C (xLen C (lCons (xv 2) ea_nil) A.n_len) (xv 1))) eo_none)))) (ess_one (es_ret (xAdd C (em_ite (tCmp (oLt C) (xv 0) em_int) xs xs) (xv 2)))))))
theorem k__law_figures (A : All K mg) : Kn (gm K) prg w K mg base "_law_figures" 1 ["number", "places"] r__law_figures := by
  obtain ⟨fd, F⟩ := A.F__law_figures
  exact ⟨_, fd, f__law_figures A F, A.g__law_figures, F.kp, F.bindsN fun _ _ _ _ _ _ us hl => match us, hl with | [_, _], _ => rfl⟩
/-! ### _law_same -/
theorem S__law_same : FnScope ["one", "two"] ["one", "two"] (defScope (top 76)) := ⟨by kernel_rfl, by kernel_rfl, by kernel_rfl, by decide +kernel, by kernel_rfl, by decide +kernel, by decide +kernel⟩
def m__law_same : SM := (sRet (fCmp .eq (fCall (fnV reprVs) (fCons (fVar 0) fNil)) (fCall (fnV reprVs) (fCons (fVar 1) fNil))))
def r__law_same : List D → Store → R D := runB 2 2 m__law_same
theorem f__law_same (A : All K mg) (tb : Tbs K mg base) {fd : FuncData} (F : FunD K "_law_same" "_law_same" (defArgs (top 76)) (defBody (top 76)) (defScope (top 76)) [] [] (He.ga K "_law_same") fd) : FnG prg w K mg base (L2.CX prg w) 1 (He.ga K "_law_same") fd ["one", "two"] (spOf (gm K) r__law_same) := by
  refine ok_defG (k := 0) (m := m__law_same) F S__law_same rfl rfl fun cdv A0 outer s H E hcd hG hr => ?_
  have C : Cg (gm K) (cxOf (L2.CX prg w) prg w K mg base ["one", "two"] "_law_same" (defScope (top 76)) (He.ga K "_law_same") cdv A0 outer s H E) := ⟨rfl, rfl, S__law_same.nd, by have h := hr.un; show (A0.deeper _).units + 200 < cLine; omega⟩
  have tk : Takes (cxOf (L2.CX prg w) prg w K mg base ["one", "two"] "_law_same" (defScope (top 76)) (He.ga K "_law_same") cdv A0 outer s H E) (fun c d _ H => E c d H) := takes_of rfl rfl rfl rfl
  have pw := passes_of (X := cxOf (L2.CX prg w) prg w K mg base ["one", "two"] "_law_same" (defScope (top 76)) (He.ga K "_law_same") cdv A0 outer s H E) rfl
  show PSs _ [_] _
  unfold m__law_same
  exact (ess_one (es_ret (xCmp (oEq C) (xRepr C hG (lCons (xv 0) ea_nil) A.n_repr) (xRepr C hG (lCons (xv 1) ea_nil) A.n_repr))))
theorem k__law_same (A : All K mg) (tb : Tbs K mg base) : KnG (gm K) prg w K mg base "_law_same" 1 ["one", "two"] r__law_same := by
  obtain ⟨fd, F⟩ := A.F__law_same
  exact ⟨_, fd, f__law_same A tb F, A.g__law_same, F.kp, F.bindsN fun _ _ _ _ _ _ us hl => match us, hl with | [_, _], _ => rfl⟩
/-! ### _law_is_decimal -/
theorem S__law_is_decimal : FnScope ["value", "own"] ["value"] (defScope (top 78)) := ⟨by kernel_rfl, by kernel_rfl, by kernel_rfl, by decide +kernel, by kernel_rfl, by decide +kernel, by decide +kernel⟩
def m__law_is_decimal : SM := (sSeq (sIf (fOr (fNot (fIsi "tuple" (fVar 0))) (fCmp .ne (fCall (fnV lenV) (fCons (fVar 0) fNil)) (fC (.int 2)))) (sRet (fC (.bool false))) sNx) (sSeq (sIf (fCmp .ne (fLc [1] (fIter (fVar 0)) (gSet 1) (fT (fOr (fNot (fIsi "int" (fVar 1))) (fIsi "bool" (fVar 1)))) (fVar 1)) (fLst fNil)) (sRet (fC (.bool false))) sNx) (sRet (fAnd (fCmp .le (fCall (fnV absV) (fCons (fIdx (fVar 0) (fC (.int 0))) fNil)) (fC (.int 999999))) (fChain .le .le (fC (.int 0)) (fIdx (fVar 0) (fC (.int 1))) (fC (.int 4)))))))
def r__law_is_decimal : List D → Store → R D := runB 1 2 m__law_is_decimal
theorem f__law_is_decimal (A : All K mg) {fd : FuncData} (F : FunD K "_law_is_decimal" "_law_is_decimal" (defArgs (top 78)) (defBody (top 78)) (defScope (top 78)) [] [] (He.ga K "_law_is_decimal") fd) : FnOk prg w K mg base (L2.CX prg w) 1 (He.ga K "_law_is_decimal") fd ["value"] (spOf (gm K) r__law_is_decimal) := by
  refine ok_def (k := 0) (m := m__law_is_decimal) F S__law_is_decimal rfl rfl fun cdv A0 outer s H E hcd hr => ?_
  have C : Cg (gm K) (cxOf (L2.CX prg w) prg w K mg base ["value", "own"] "_law_is_decimal" (defScope (top 78)) (He.ga K "_law_is_decimal") cdv A0 outer s H E) := ⟨rfl, rfl, S__law_is_decimal.nd, by have h := hr.un; show (A0.deeper _).units + 200 < cLine; omega⟩
  have tk : Takes (cxOf (L2.CX prg w) prg w K mg base ["value", "own"] "_law_is_decimal" (defScope (top 78)) (He.ga K "_law_is_decimal") cdv A0 outer s H E) (fun c d _ H => E c d H) := takes_of rfl rfl rfl rfl
  have pw := passes_of (X := cxOf (L2.CX prg w) prg w K mg base ["value", "own"] "_law_is_decimal" (defScope (top 78)) (He.ga K "_law_is_decimal") cdv A0 outer s H E) rfl
  show PSs _ [_, _, _] _
  unfold m__law_is_decimal
  exact (ess_cons (es_if (tW (ew_or (et_not (tVal (xIsi "tuple" C (xv 0) A.n_isinstance A.n_tuple))) (ew_one (.inr rfl) (tCmp (oNe C) (xLen C (lCons (xv 0) ea_nil) A.n_len) em_int)))) (ess_one (es_ret em_bl)) ess_nil) (ess_cons (es_if (tCmp (oNe C) (xLc [("own", 1)] C (iAnyN C (xv 0)) (fun _ _ _ _ _ => (wN 1 C.blk)) (fun _ _ _ _ _ => (ets_one (tW (ew_or (et_not (tVal (xIsi "int" C.blk (xv 1) A.n_isinstance A.n_int))) (ew_one (.inr rfl) (tVal (xIsi "bool" C.blk (xv 1) A.n_isinstance A.n_bool))))))) (fun _ _ _ _ _ => (xv 1))) (em_lst ea_nil)) (ess_one (es_ret em_bl)) ess_nil) (ess_one (es_ret (em_and (xCmp (oLe C) (xAbs C (lCons (xIdx C (xv 0) em_int) ea_nil) A.n_abs) em_int) (em_one (xChain (oLe C) (oLe C) em_int (xIdx C (xv 0) em_int) em_int)))))))
theorem k__law_is_decimal (A : All K mg) : Kn (gm K) prg w K mg base "_law_is_decimal" 1 ["value"] r__law_is_decimal := by
  obtain ⟨fd, F⟩ := A.F__law_is_decimal
  exact ⟨_, fd, f__law_is_decimal A F, A.g__law_is_decimal, F.kp, F.bindsN fun _ _ _ _ _ _ us hl => match us, hl with | [_], _ => rfl⟩
/-! ### is_in -/
theorem S_is_in : FnScope ["value", "low", "high"] ["value", "low", "high"] (defScope (top 16)) := ⟨by kernel_rfl, by kernel_rfl, by kernel_rfl, by decide +kernel, by kernel_rfl, by decide +kernel, by decide +kernel⟩
def m_is_in : SM := (sRet (fAnd (fCall (pR r_is_whole) (fCons (fVar 0) fNil)) (fChain .le .le (fVar 1) (fVar 0) (fVar 2))))
def r_is_in : List D → Store → R D := runB 3 3 m_is_in
theorem f_is_in (A : All K mg) {fd : FuncData} (F : FunD K "is_in" "is_in" (defArgs (top 16)) (defBody (top 16)) (defScope (top 16)) [] [] (He.ga K "is_in") fd) : FnOk prg w K mg base (L2.CX prg w) 2 (He.ga K "is_in") fd ["value", "low", "high"] (spOf (gm K) r_is_in) := by
  have h_is_whole := k_is_whole (w := w) (base := base) A
  refine ok_def (k := 1) (m := m_is_in) F S_is_in rfl rfl fun cdv A0 outer s H E hcd hr => ?_
  have C : Cg (gm K) (cxOf (L2.CX prg w) prg w K mg base ["value", "low", "high"] "is_in" (defScope (top 16)) (He.ga K "is_in") cdv A0 outer s H E) := ⟨rfl, rfl, S_is_in.nd, by have h := hr.un; show (A0.deeper _).units + 200 < cLine; omega⟩
  have tk : Takes (cxOf (L2.CX prg w) prg w K mg base ["value", "low", "high"] "is_in" (defScope (top 16)) (He.ga K "is_in") cdv A0 outer s H E) (fun c d _ H => E c d H) := takes_of rfl rfl rfl rfl
  have pw := passes_of (X := cxOf (L2.CX prg w) prg w K mg base ["value", "low", "high"] "is_in" (defScope (top 16)) (He.ga K "is_in") cdv A0 outer s H E) rfl
  show PSs _ [_] _
  unfold m_is_in
  exact (ess_one (es_ret (em_and (xCallP h_is_whole tk hr (lCons (xv 0) ea_nil)) (em_one (xChain (oLe C) (oLe C) (xv 1) (xv 0) (xv 2))))))
theorem k_is_in (A : All K mg) : Kn (gm K) prg w K mg base "is_in" 2 ["value", "low", "high"] r_is_in := by
  obtain ⟨fd, F⟩ := A.F_is_in
  exact ⟨_, fd, f_is_in A F, A.g_is_in, F.kp, F.bindsN fun _ _ _ _ _ _ us hl => match us, hl with | [_, _, _], _ => rfl⟩
/-! ### is_fraction -/
theorem S_is_fraction : FnScope ["value"] ["value"] (defScope (top 26)) := ⟨by kernel_rfl, by kernel_rfl, by kernel_rfl, by decide +kernel, by kernel_rfl, by decide +kernel, by decide +kernel⟩
def m_is_fraction : SM := (sSeq (sIf (fOr (fNot (fCall (pR r_is_tuple_of) (fCons (fVar 0) (fCons (fC (.int 2)) fNil)))) (fOr (fNot (fCall (pR r_is_whole) (fCons (fIdx (fVar 0) (fC (.int 0))) fNil))) (fNot (fCall (pR r_is_whole) (fCons (fIdx (fVar 0) (fC (.int 1))) fNil))))) (sRet (fC (.bool false))) sNx) (sRet (fAnd (fCmp .gt (fIdx (fVar 0) (fC (.int 1))) (fC (.int 0))) (fCmp .eq (fCall (fnV gcdV) (fCons (fIdx (fVar 0) (fC (.int 0))) (fCons (fIdx (fVar 0) (fC (.int 1))) fNil))) (fC (.int 1))))))
def r_is_fraction : List D → Store → R D := runB 1 1 m_is_fraction
theorem f_is_fraction (A : All K mg) {fd : FuncData} (F : FunD K "is_fraction" "is_fraction" (defArgs (top 26)) (defBody (top 26)) (defScope (top 26)) [] [] (He.ga K "is_fraction") fd) : FnOk prg w K mg base (L2.CX prg w) 2 (He.ga K "is_fraction") fd ["value"] (spOf (gm K) r_is_fraction) := by
  have h_is_whole := k_is_whole (w := w) (base := base) A
  have h_is_tuple_of := k_is_tuple_of (w := w) (base := base) A
  refine ok_def (k := 1) (m := m_is_fraction) F S_is_fraction rfl rfl fun cdv A0 outer s H E hcd hr => ?_
  have C : Cg (gm K) (cxOf (L2.CX prg w) prg w K mg base ["value"] "is_fraction" (defScope (top 26)) (He.ga K "is_fraction") cdv A0 outer s H E) := ⟨rfl, rfl, S_is_fraction.nd, by have h := hr.un; show (A0.deeper _).units + 200 < cLine; omega⟩
  have tk : Takes (cxOf (L2.CX prg w) prg w K mg base ["value"] "is_fraction" (defScope (top 26)) (He.ga K "is_fraction") cdv A0 outer s H E) (fun c d _ H => E c d H) := takes_of rfl rfl rfl rfl
  have pw := passes_of (X := cxOf (L2.CX prg w) prg w K mg base ["value"] "is_fraction" (defScope (top 26)) (He.ga K "is_fraction") cdv A0 outer s H E) rfl
  show PSs _ [_, _] _
  unfold m_is_fraction
  exact (ess_cons (es_if (tW (ew_or (et_not (tVal (xCallP h_is_tuple_of tk hr (lCons (xv 0) (lCons em_int ea_nil))))) (ew_or (et_not (tVal (xCallP h_is_whole tk hr (lCons (xIdx C (xv 0) em_int) ea_nil)))) (ew_one (.inr rfl) (et_not (tVal (xCallP h_is_whole tk hr (lCons (xIdx C (xv 0) em_int) ea_nil)))))))) (ess_one (es_ret em_bl)) ess_nil) (ess_one (es_ret (em_and (xCmp (oGt C) (xIdx C (xv 0) em_int) em_int) (em_one (xCmp (oEq C) (xGcd C (lCons (xIdx C (xv 0) em_int) (lCons (xIdx C (xv 0) em_int) ea_nil)) A.g_gcd) em_int))))))
theorem k_is_fraction (A : All K mg) : Kn (gm K) prg w K mg base "is_fraction" 2 ["value"] r_is_fraction := by
  obtain ⟨fd, F⟩ := A.F_is_fraction
  exact ⟨_, fd, f_is_fraction A F, A.g_is_fraction, F.kp, F.bindsN fun _ _ _ _ _ _ us hl => match us, hl with | [_], _ => rfl⟩
/-! ### of_decimal -/
theorem S_of_decimal : FnScope ["decimal"] ["decimal"] (defScope (top 28)) := ⟨by kernel_rfl, by kernel_rfl, by kernel_rfl, by decide +kernel, by kernel_rfl, by decide +kernel, by decide +kernel⟩
def m_of_decimal : SM := (sRet (fCall (pR r_lowest) (fCons (fIdx (fVar 0) (fC (.int 0))) (fCons (fCall (pR r_tens) (fCons (fIdx (fVar 0) (fC (.int 1))) fNil)) fNil))))
def r_of_decimal : List D → Store → R D := runB 1 1 m_of_decimal
theorem f_of_decimal (A : All K mg) {fd : FuncData} (F : FunD K "of_decimal" "of_decimal" (defArgs (top 28)) (defBody (top 28)) (defScope (top 28)) [] [] (He.ga K "of_decimal") fd) : FnOk prg w K mg base (L2.CX prg w) 2 (He.ga K "of_decimal") fd ["decimal"] (spOf (gm K) r_of_decimal) := by
  have h_tens := k_tens (w := w) (base := base) A
  have h_lowest := k_lowest (w := w) (base := base) A
  refine ok_def (k := 1) (m := m_of_decimal) F S_of_decimal rfl rfl fun cdv A0 outer s H E hcd hr => ?_
  have C : Cg (gm K) (cxOf (L2.CX prg w) prg w K mg base ["decimal"] "of_decimal" (defScope (top 28)) (He.ga K "of_decimal") cdv A0 outer s H E) := ⟨rfl, rfl, S_of_decimal.nd, by have h := hr.un; show (A0.deeper _).units + 200 < cLine; omega⟩
  have tk : Takes (cxOf (L2.CX prg w) prg w K mg base ["decimal"] "of_decimal" (defScope (top 28)) (He.ga K "of_decimal") cdv A0 outer s H E) (fun c d _ H => E c d H) := takes_of rfl rfl rfl rfl
  have pw := passes_of (X := cxOf (L2.CX prg w) prg w K mg base ["decimal"] "of_decimal" (defScope (top 28)) (He.ga K "of_decimal") cdv A0 outer s H E) rfl
  show PSs _ [_] _
  unfold m_of_decimal
  exact (ess_one (es_ret (xCallP h_lowest tk hr (lCons (xIdx C (xv 0) em_int) (lCons (xCallP h_tens tk hr (lCons (xIdx C (xv 0) em_int) ea_nil)) ea_nil)))))
theorem k_of_decimal (A : All K mg) : Kn (gm K) prg w K mg base "of_decimal" 2 ["decimal"] r_of_decimal := by
  obtain ⟨fd, F⟩ := A.F_of_decimal
  exact ⟨_, fd, f_of_decimal A F, A.g_of_decimal, F.kp, F.bindsN fun _ _ _ _ _ _ us hl => match us, hl with | [_], _ => rfl⟩
/-! ### rounded_at -/
theorem S_rounded_at : FnScope ["one", "places"] ["one", "places"] (defScope (top 29)) := ⟨by kernel_rfl, by kernel_rfl, by kernel_rfl, by decide +kernel, by kernel_rfl, by decide +kernel, by decide +kernel⟩
def m_rounded_at : SM := (sRet (fBin .fdiv (fBin .add (fBin .mul (fBin .mul (fC (.int 2)) (fIdx (fVar 0) (fC (.int 0)))) (fCall (pR r_tens) (fCons (fVar 1) fNil))) (fIdx (fVar 0) (fC (.int 1)))) (fBin .mul (fC (.int 2)) (fIdx (fVar 0) (fC (.int 1))))))
def r_rounded_at : List D → Store → R D := runB 2 2 m_rounded_at
theorem f_rounded_at (A : All K mg) {fd : FuncData} (F : FunD K "rounded_at" "rounded_at" (defArgs (top 29)) (defBody (top 29)) (defScope (top 29)) [] [] (He.ga K "rounded_at") fd) : FnOk prg w K mg base (L2.CX prg w) 2 (He.ga K "rounded_at") fd ["one", "places"] (spOf (gm K) r_rounded_at) := by
  have h_tens := k_tens (w := w) (base := base) A
  refine ok_def (k := 1) (m := m_rounded_at) F S_rounded_at rfl rfl fun cdv A0 outer s H E hcd hr => ?_
  have C : Cg (gm K) (cxOf (L2.CX prg w) prg w K mg base ["one", "places"] "rounded_at" (defScope (top 29)) (He.ga K "rounded_at") cdv A0 outer s H E) := ⟨rfl, rfl, S_rounded_at.nd, by have h := hr.un; show (A0.deeper _).units + 200 < cLine; omega⟩
  have tk : Takes (cxOf (L2.CX prg w) prg w K mg base ["one", "places"] "rounded_at" (defScope (top 29)) (He.ga K "rounded_at") cdv A0 outer s H E) (fun c d _ H => E c d H) := takes_of rfl rfl rfl rfl
  have pw := passes_of (X := cxOf (L2.CX prg w) prg w K mg base ["one", "places"] "rounded_at" (defScope (top 29)) (He.ga K "rounded_at") cdv A0 outer s H E) rfl
  show PSs _ [_] _
  unfold m_rounded_at
  exact (ess_one (es_ret (xFdiv C (xAdd C (xMul C (xMul C em_int (xIdx C (xv 0) em_int)) (xCallP h_tens tk hr (lCons (xv 1) ea_nil))) (xIdx C (xv 0) em_int)) (xMul C em_int (xIdx C (xv 0) em_int)))))
theorem k_rounded_at (A : All K mg) : Kn (gm K) prg w K mg base "rounded_at" 2 ["one", "places"] r_rounded_at := by
  obtain ⟨fd, F⟩ := A.F_rounded_at
  exact ⟨_, fd, f_rounded_at A F, A.g_rounded_at, F.kp, F.bindsN fun _ _ _ _ _ _ us hl => match us, hl with | [_, _], _ => rfl⟩
/-! ### decimal_told -/
theorem S_decimal_told : FnScope ["word", "bare", "ahead", "point", "behind", "sign", "number", "found"] ["word"] (defScope (top 31)) := ⟨by kernel_rfl, by kernel_rfl, by kernel_rfl, by decide +kernel, by kernel_rfl, by decide +kernel, by decide +kernel⟩
def m_decimal_told : SM := (sSeq (sSet 1 (fIte (fCmp .eq (fSli (fVar 0) none (some (fC (.int 1)))) (fC (.str "-"))) (fSli (fVar 0) (some (fC (.int 1))) none) (fVar 0))) (sSeq (sAsg (fBm "str" mPartition (fVar 1) (fCons (fC (.str ".")) fNil)) (gTupD 3 (gCons' (gSet 2) (gCons' (gSet 3) (gCons' (gSet 4) gNil'))))) (sSeq (sIf (fOr (fAnd (fCmp .ne (fVar 3) (fC (.str ""))) (fCmp .eq (fVar 4) (fC (.str "")))) (fOr (fNot (fCall (fnV allV) (fCons (fLc [5] (fIter (fBin .add (fVar 2) (fVar 4))) (gSet 5) tT1 (fCmp .isin (fVar 5) (fC (.str "0123456789")))) fNil))) (fCmp .eq (fVar 2) (fC (.str ""))))) (sRet (fLst fNil)) sNx) (sSeq (sSet 6 (fCall (pR r_whole_of) (fCons (fBin .add (fVar 2) (fVar 4)) fNil))) (sSeq (sSet 7 (fTup (fCons (fIte (fCmp .ne (fVar 1) (fVar 0)) (fBin .sub (fC (.int 0)) (fVar 6)) (fVar 6)) (fCons (fCall (fnV lenV) (fCons (fVar 4) fNil)) fNil)))) (sRet (fIte (fOr (fAnd (fCmp .gt (fCall (fnV lenV) (fCons (fVar 2) fNil)) (fC (.int 1))) (fCmp .eq (fIdx (fVar 2) (fC (.int 0))) (fC (.str "0")))) (fAnd (fCmp .eq (fVar 6) (fC (.int 0))) (fCmp .ne (fVar 1) (fVar 0)))) (fLst fNil) (fLst (fCons (fVar 7) fNil)))))))))
def r_decimal_told : List D → Store → R D := runB 1 8 m_decimal_told
theorem f_decimal_told (A : All K mg) {fd : FuncData} (F : FunD K "decimal_told" "decimal_told" (defArgs (top 31)) (defBody (top 31)) (defScope (top 31)) [] [] (He.ga K "decimal_told") fd) : FnOk prg w K mg base (L2.CX prg w) 2 (He.ga K "decimal_told") fd ["word"] (spOf (gm K) r_decimal_told) := by
  have h_whole_of := k_whole_of (w := w) (base := base) A
  refine ok_def (k := 1) (m := m_decimal_told) F S_decimal_told rfl rfl fun cdv A0 outer s H E hcd hr => ?_
  have C : Cg (gm K) (cxOf (L2.CX prg w) prg w K mg base ["word", "bare", "ahead", "point", "behind", "sign", "number", "found"] "decimal_told" (defScope (top 31)) (He.ga K "decimal_told") cdv A0 outer s H E) := ⟨rfl, rfl, S_decimal_told.nd, by have h := hr.un; show (A0.deeper _).units + 200 < cLine; omega⟩
  have tk : Takes (cxOf (L2.CX prg w) prg w K mg base ["word", "bare", "ahead", "point", "behind", "sign", "number", "found"] "decimal_told" (defScope (top 31)) (He.ga K "decimal_told") cdv A0 outer s H E) (fun c d _ H => E c d H) := takes_of rfl rfl rfl rfl
  have pw := passes_of (X := cxOf (L2.CX prg w) prg w K mg base ["word", "bare", "ahead", "point", "behind", "sign", "number", "found"] "decimal_told" (defScope (top 31)) (He.ga K "decimal_told") cdv A0 outer s H E) rfl
  show PSs _ [_, _, _, _, _, _] _
  unfold m_decimal_told
  exact (ess_cons (sSetN 1 C (em_ite (tCmp (oEq C) (xSli C (xv 0) eo_none (eo_some em_int)) xs) (xSli C (xv 0) (eo_some em_int) eo_none) (xv 0))) (ess_cons (sAsgG (xBm (.inl rfl) mo_partition (xv 1) (lCons xs ea_nil)) (gT C (gC (gN 2 C) (gC (gN 3 C) (gC (gN 4 C) egs_nil))))) (ess_cons (es_if (tW (ew_or (tW (ew_and (tCmp (oNe C) (xv 3) xs) (ew_one (.inl rfl) (tCmp (oEq C) (xv 4) xs)))) (ew_or (et_not (tVal (xAll C (lCons (xLc [("sign", 5)] C (iAnyN C (xAdd C (xv 2) (xv 4))) (fun _ _ _ _ _ => (wN 5 C.blk)) (fun _ _ _ _ _ => ets_nil) (fun _ _ _ _ _ => (xCmp (oIn C.blk) (xv 5) xs))) ea_nil) A.n_all))) (ew_one (.inr rfl) (tCmp (oEq C) (xv 2) xs))))) (ess_one (es_ret (em_lst ea_nil))) ess_nil) (ess_cons (sSetN 6 C (xCallP h_whole_of tk hr (lCons (xAdd C (xv 2) (xv 4)) ea_nil))) (ess_cons (sSetN 7 C (em_tup (lCons (em_ite (tCmp (oNe C) (xv 1) (xv 0)) (xSub C em_int (xv 6)) (xv 6)) (lCons (xLen C (lCons (xv 4) ea_nil) A.n_len) ea_nil)))) (ess_one (es_ret (em_ite (tW (ew_or (tW (ew_and (tCmp (oGt C) (xLen C (lCons (xv 2) ea_nil) A.n_len) em_int) (ew_one (.inl rfl) (tCmp (oEq C) (xIdx C (xv 2) em_int) xs)))) (ew_one (.inr rfl) (tW (ew_and (tCmp (oEq C) (xv 6) em_int) (ew_one (.inl rfl) (tCmp (oNe C) (xv 1) (xv 0)))))))) (em_lst ea_nil) (em_lst (lCons (xv 7) ea_nil))))))))))
theorem k_decimal_told (A : All K mg) : Kn (gm K) prg w K mg base "decimal_told" 2 ["word"] r_decimal_told := by
  obtain ⟨fd, F⟩ := A.F_decimal_told
  exact ⟨_, fd, f_decimal_told A F, A.g_decimal_told, F.kp, F.bindsN fun _ _ _ _ _ _ us hl => match us, hl with | [_], _ => rfl⟩
/-! ### next_layer -/
theorem S_next_layer : FnScope ["layer", "each", "part"] ["layer"] (defScope (top 47)) := ⟨by kernel_rfl, by kernel_rfl, by kernel_rfl, by decide +kernel, by kernel_rfl, by decide +kernel, by decide +kernel⟩
def m_next_layer : SM := (sRet (fLc2 [1, 2] [2] (fIter (fVar 0)) (gSet 1) tT1 (fIter (fCall (pR r_parts_of) (fCons (fVar 1) fNil))) (gSet 2) tT1 (fVar 2)))
def r_next_layer : List D → Store → R D := runB 1 3 m_next_layer
theorem f_next_layer (A : All K mg) {fd : FuncData} (F : FunD K "next_layer" "next_layer" (defArgs (top 47)) (defBody (top 47)) (defScope (top 47)) [] [] (He.ga K "next_layer") fd) : FnOk prg w K mg base (L2.CX prg w) 2 (He.ga K "next_layer") fd ["layer"] (spOf (gm K) r_next_layer) := by
  have h_parts_of := k_parts_of (w := w) (base := base) A
  refine ok_def (k := 1) (m := m_next_layer) F S_next_layer rfl rfl fun cdv A0 outer s H E hcd hr => ?_
  have C : Cg (gm K) (cxOf (L2.CX prg w) prg w K mg base ["layer", "each", "part"] "next_layer" (defScope (top 47)) (He.ga K "next_layer") cdv A0 outer s H E) := ⟨rfl, rfl, S_next_layer.nd, by have h := hr.un; show (A0.deeper _).units + 200 < cLine; omega⟩
  have tk : Takes (cxOf (L2.CX prg w) prg w K mg base ["layer", "each", "part"] "next_layer" (defScope (top 47)) (He.ga K "next_layer") cdv A0 outer s H E) (fun c d _ H => E c d H) := takes_of rfl rfl rfl rfl
  have pw := passes_of (X := cxOf (L2.CX prg w) prg w K mg base ["layer", "each", "part"] "next_layer" (defScope (top 47)) (He.ga K "next_layer") cdv A0 outer s H E) rfl
  show PSs _ [_] _
  unfold m_next_layer
  exact (ess_one (es_ret (xLc2 [("each", 1), ("part", 2)] [2] C (iAnyN C (xv 0)) (fun _ _ _ _ _ => (wN 1 C.blk)) (fun _ _ _ _ _ => ets_nil) (fun _ _ _ _ _ => (iAnyN C.blk (xCallP h_parts_of LamX.takes0 hr (lCons (xv 1) ea_nil)))) (fun _ _ _ _ _ => (wN 2 C.blk)) (fun _ _ _ _ _ => ets_nil) (fun _ _ _ _ _ => (xv 2)))))
theorem k_next_layer (A : All K mg) : Kn (gm K) prg w K mg base "next_layer" 2 ["layer"] r_next_layer := by
  obtain ⟨fd, F⟩ := A.F_next_layer
  exact ⟨_, fd, f_next_layer A F, A.g_next_layer, F.kp, F.bindsN fun _ _ _ _ _ _ us hl => match us, hl with | [_], _ => rfl⟩
/-! ### words_of -/
theorem S_words_of : FnScope ["expression", "left", "found", "here", "inner", "each", "word"] ["expression"] (defScope (top 52)) := ⟨by kernel_rfl, by kernel_rfl, by kernel_rfl, by decide +kernel, by kernel_rfl, by decide +kernel, by decide +kernel⟩
def m_words_of : SM := (sSeq (sPar 1 2 (fCons (fNew (fCons (fVar 0) fNil)) (fCons (fNew fNil) fNil))) (sSeq (sWhile 100000 (fCmp .ne (fVar 1) (fLst fNil)) (sSeq (sSet 3 (fBm "list" mPop (fVar 1) fNil)) (sIf (fIsi "str" (fVar 3)) (sDrop (fBm "list" mAppend (fVar 2) (fCons (fVar 3) fNil))) (sIf (fCmp .isin (fIdx (fVar 3) (fC (.int 0))) (fC d_OPS)) sNo (sIf (fCmp .eq (fIdx (fVar 3) (fC (.int 0))) (fC (.str "call"))) sNo (sDrop (fBm "list" mAppend (fVar 2) (fCons (fIte (fCmp .eq (fIdx (fVar 3) (fC (.int 0))) (fC (.str "name"))) (fIdx (fVar 3) (fC (.int 1))) (fCall (pR r_text_at) (fCons (fIdx (fVar 3) (fC (.int 1))) (fCons (fIdx (fVar 3) (fC (.int 2))) fNil)))) fNil)))))))) (sRet (fVar 2))))
def r_words_of : List D → Store → R D := runB 1 7 m_words_of
theorem f_words_of (A : All K mg) {fd : FuncData} (F : FunD K "words_of" "words_of" (defArgs (top 52)) (defBody (top 52)) (defScope (top 52)) [] [] (He.ga K "words_of") fd) : FnOk prg w K mg base (L2.CX prg w) 2 (He.ga K "words_of") fd ["expression"] (spOf (gm K) r_words_of) := by
  have h_text_at := k_text_at (w := w) (base := base) A
  refine ok_def (k := 1) (m := m_words_of) F S_words_of rfl rfl fun cdv A0 outer s H E hcd hr => ?_
  have C : Cg (gm K) (cxOf (L2.CX prg w) prg w K mg base ["expression", "left", "found", "here", "inner", "each", "word"] "words_of" (defScope (top 52)) (He.ga K "words_of") cdv A0 outer s H E) := ⟨rfl, rfl, S_words_of.nd, by have h := hr.un; show (A0.deeper _).units + 200 < cLine; omega⟩
  have tk : Takes (cxOf (L2.CX prg w) prg w K mg base ["expression", "left", "found", "here", "inner", "each", "word"] "words_of" (defScope (top 52)) (He.ga K "words_of") cdv A0 outer s H E) (fun c d _ H => E c d H) := takes_of rfl rfl rfl rfl
  have pw := passes_of (X := cxOf (L2.CX prg w) prg w K mg base ["expression", "left", "found", "here", "inner", "each", "word"] "words_of" (defScope (top 52)) (He.ga K "words_of") cdv A0 outer s H E) rfl
  show PSs _ [_, _, _] _
  unfold m_words_of
  exact (ess_cons (sParN 1 2 C (lCons (em_new (lCons (xv 0) ea_nil)) (lCons (em_new ea_nil) ea_nil))) (ess_cons (sWhileN 100000 pw (tCmp (oNe C) (xv 1) (em_lst ea_nil)) (ess_cons (sSetN 3 C (xBm (.inr rfl) mPp (xv 1) ea_nil)) (ess_one (es_if (tVal (xIsi "str" C (xv 3) A.n_isinstance A.n_str)) (ess_one (sDropN (xBm (.inr rfl) mApp (xv 2) (lCons (xv 3) ea_nil)))) (ess_one (es_if (tCmp (oIn C) (xIdx C (xv 3) em_int) (xgo A.g_OPS A.c_OPS)) ess_no (ess_one (es_if (tCmp (oEq C) (xIdx C (xv 3) em_int) xs) ess_no (ess_one (sDropN (xBm (.inr rfl) mApp (xv 2) (lCons (em_ite (tCmp (oEq C) (xIdx C (xv 3) em_int) xs) (xIdx C (xv 3) em_int) (xCallP h_text_at tk hr (lCons (xIdx C (xv 3) em_int) (lCons (xIdx C (xv 3) em_int) ea_nil)))) ea_nil)))))))))))) (ess_one (es_ret (xv 2)))))
theorem k_words_of (A : All K mg) : Kn (gm K) prg w K mg base "words_of" 2 ["expression"] r_words_of := by
  obtain ⟨fd, F⟩ := A.F_words_of
  exact ⟨_, fd, f_words_of A F, A.g_words_of, F.kp, F.bindsN fun _ _ _ _ _ _ us hl => match us, hl with | [_], _ => rfl⟩
/-! ### token_at -/
theorem S_token_at : FnScope ["text", "at", "is_operand"] ["text", "at", "is_operand"] (defScope (top 58)) := ⟨by kernel_rfl, by kernel_rfl, by kernel_rfl, by decide +kernel, by kernel_rfl, by decide +kernel, by decide +kernel⟩
def m_token_at : SM := (sSeq (sIf (fCmp .isin (fIdx (fVar 0) (fVar 1)) (fC (.str "abcdefghijklmnopqrstuvwxyz"))) (sRet (fCall (pR r_run_of) (fCons (fVar 0) (fCons (fVar 1) (fCons (fC (.str "abcdefghijklmnopqrstuvwxyz")) fNil))))) sNx) (sSeq (sIf (fAnd (fCmp .eq (fIdx (fVar 0) (fVar 1)) (fC (.str "-"))) (fAnd (fVar 2) (fCmp .notin (fSli (fVar 0) (some (fBin .add (fVar 1) (fC (.int 1)))) (some (fBin .add (fVar 1) (fC (.int 2))))) (fTup (fCons (fC (.str "")) (fCons (fC (.str " ")) fNil)))))) (sRet (fBin .add (fC (.str "-")) (fCall (pR r_run_of) (fCons (fVar 0) (fCons (fBin .add (fVar 1) (fC (.int 1))) (fCons (fBin .add (fC (.str "0123456789")) (fC (.str "."))) fNil)))))) sNx) (sRet (fOrS (fCall (pR r_run_of) (fCons (fVar 0) (fCons (fVar 1) (fCons (fBin .add (fC (.str "0123456789")) (fC (.str "."))) fNil)))) (fIdx (fVar 0) (fVar 1))))))
def r_token_at : List D → Store → R D := runB 3 3 m_token_at
theorem f_token_at (A : All K mg) {fd : FuncData} (F : FunD K "token_at" "token_at" (defArgs (top 58)) (defBody (top 58)) (defScope (top 58)) [] [] (He.ga K "token_at") fd) : FnOk prg w K mg base (L2.CX prg w) 2 (He.ga K "token_at") fd ["text", "at", "is_operand"] (spOf (gm K) r_token_at) := by
  have h_run_of := k_run_of (w := w) (base := base) A
  refine ok_def (k := 1) (m := m_token_at) F S_token_at rfl rfl fun cdv A0 outer s H E hcd hr => ?_
  have C : Cg (gm K) (cxOf (L2.CX prg w) prg w K mg base ["text", "at", "is_operand"] "token_at" (defScope (top 58)) (He.ga K "token_at") cdv A0 outer s H E) := ⟨rfl, rfl, S_token_at.nd, by have h := hr.un; show (A0.deeper _).units + 200 < cLine; omega⟩
  have tk : Takes (cxOf (L2.CX prg w) prg w K mg base ["text", "at", "is_operand"] "token_at" (defScope (top 58)) (He.ga K "token_at") cdv A0 outer s H E) (fun c d _ H => E c d H) := takes_of rfl rfl rfl rfl
  have pw := passes_of (X := cxOf (L2.CX prg w) prg w K mg base ["text", "at", "is_operand"] "token_at" (defScope (top 58)) (He.ga K "token_at") cdv A0 outer s H E) rfl
  show PSs _ [_, _, _] _
  unfold m_token_at
  exact (ess_cons (es_if (tCmp (oIn C) (xIdx C (xv 0) (xv 1)) (xgs A.c_LETTERS)) (ess_one (es_ret (xCallP h_run_of tk hr (lCons (xv 0) (lCons (xv 1) (lCons (xgs A.c_LETTERS) ea_nil)))))) ess_nil) (ess_cons (es_if (tW (ew_and (tCmp (oEq C) (xIdx C (xv 0) (xv 1)) (xgs A.c_MINUS)) (ew_and (tVal (xv 2)) (ew_one (.inl rfl) (tCmp (oNin C) (xSli C (xv 0) (eo_some (xAdd C (xv 1) em_int)) (eo_some (xAdd C (xv 1) em_int))) (em_tup (lCons xs (lCons (xgs A.c_SPACE) ea_nil)))))))) (ess_one (es_ret (xAdd C (xgs A.c_MINUS) (xCallP h_run_of tk hr (lCons (xv 0) (lCons (xAdd C (xv 1) em_int) (lCons (xAdd C (xgs A.c_FIGURES) (xgs A.c_POINT)) ea_nil))))))) ess_nil) (ess_one (es_ret (xOrS (xCallP h_run_of tk hr (lCons (xv 0) (lCons (xv 1) (lCons (xAdd C (xgs A.c_FIGURES) (xgs A.c_POINT)) ea_nil)))) (em_one (xIdx C (xv 0) (xv 1))))))))
theorem k_token_at (A : All K mg) : Kn (gm K) prg w K mg base "token_at" 2 ["text", "at", "is_operand"] r_token_at := by
  obtain ⟨fd, F⟩ := A.F_token_at
  exact ⟨_, fd, f_token_at A F, A.g_token_at, F.kp, F.bindsN fun _ _ _ _ _ _ us hl => match us, hl with | [_, _, _], _ => rfl⟩
/-! ### _law_any -/
theorem S__law_any : FnScope ["pail", "some"] ["pail", "some"] (defScope (top 69)) := ⟨by kernel_rfl, by kernel_rfl, by kernel_rfl, by decide +kernel, by kernel_rfl, by decide +kernel, by decide +kernel⟩
def m__law_any : SM := (sRet (fIdx (fVar 1) (fCall r__law_deal (fCons (fVar 0) (fCons (fCall (fnV lenV) (fCons (fVar 1) fNil)) fNil)))))
def r__law_any : List D → Store → R D := runB 2 2 m__law_any
theorem f__law_any (A : All K mg) {fd : FuncData} (F : FunD K "_law_any" "_law_any" (defArgs (top 69)) (defBody (top 69)) (defScope (top 69)) [] [] (He.ga K "_law_any") fd) : FnOk prg w K mg base (L2.CX prg w) 2 (He.ga K "_law_any") fd ["pail", "some"] (spOf (gm K) r__law_any) := by
  have h__law_deal := k__law_deal (w := w) (base := base) A
  refine ok_def (k := 1) (m := m__law_any) F S__law_any rfl rfl fun cdv A0 outer s H E hcd hr => ?_
  have C : Cg (gm K) (cxOf (L2.CX prg w) prg w K mg base ["pail", "some"] "_law_any" (defScope (top 69)) (He.ga K "_law_any") cdv A0 outer s H E) := ⟨rfl, rfl, S__law_any.nd, by have h := hr.un; show (A0.deeper _).units + 200 < cLine; omega⟩
  have tk : Takes (cxOf (L2.CX prg w) prg w K mg base ["pail", "some"] "_law_any" (defScope (top 69)) (He.ga K "_law_any") cdv A0 outer s H E) (fun c d _ H => E c d H) := takes_of rfl rfl rfl rfl
  have pw := passes_of (X := cxOf (L2.CX prg w) prg w K mg base ["pail", "some"] "_law_any" (defScope (top 69)) (He.ga K "_law_any") cdv A0 outer s H E) rfl
  show PSs _ [_] _
  unfold m__law_any
  exact (ess_one (es_ret (xIdx C (xv 1) (xCall h__law_deal tk hr (lCons (xv 0) (lCons (xLen C (lCons (xv 1) ea_nil) A.n_len) ea_nil))))))
theorem k__law_any (A : All K mg) : Kn (gm K) prg w K mg base "_law_any" 2 ["pail", "some"] r__law_any := by
  obtain ⟨fd, F⟩ := A.F__law_any
  exact ⟨_, fd, f__law_any A F, A.g__law_any, F.kp, F.bindsN fun _ _ _ _ _ _ us hl => match us, hl with | [_, _], _ => rfl⟩
/-! ### _law_frac -/
theorem S__law_frac : FnScope ["num", "den", "part"] ["num", "den"] (defScope (top 71)) := ⟨by kernel_rfl, by kernel_rfl, by kernel_rfl, by decide +kernel, by kernel_rfl, by decide +kernel, by decide +kernel⟩
def m__law_frac : SM := (sSeq (sSet 2 (fBin .mul (fCall (fnV maxV) (fCons (fC (.int 1)) (fCons (fCall (pR r__law_gcd) (fCons (fVar 0) (fCons (fVar 1) fNil))) fNil))) (fIte (fCmp .lt (fVar 1) (fC (.int 0))) (fNeg (fC (.int 1))) (fC (.int 1))))) (sRet (fTup (fCons (fBin .fdiv (fVar 0) (fVar 2)) (fCons (fBin .fdiv (fVar 1) (fVar 2)) fNil)))))
def r__law_frac : List D → Store → R D := runB 2 3 m__law_frac
theorem f__law_frac (A : All K mg) {fd : FuncData} (F : FunD K "_law_frac" "_law_frac" (defArgs (top 71)) (defBody (top 71)) (defScope (top 71)) [] [] (He.ga K "_law_frac") fd) : FnOk prg w K mg base (L2.CX prg w) 2 (He.ga K "_law_frac") fd ["num", "den"] (spOf (gm K) r__law_frac) := by
  have h__law_gcd := k__law_gcd (w := w) (base := base) A
  refine ok_def (k := 1) (m := m__law_frac) F S__law_frac rfl rfl fun cdv A0 outer s H E hcd hr => ?_
  have C : Cg (gm K) (cxOf (L2.CX prg w) prg w K mg base ["num", "den", "part"] "_law_frac" (defScope (top 71)) (He.ga K "_law_frac") cdv A0 outer s H E) := ⟨rfl, rfl, S__law_frac.nd, by have h := hr.un; show (A0.deeper _).units + 200 < cLine; omega⟩
  have tk : Takes (cxOf (L2.CX prg w) prg w K mg base ["num", "den", "part"] "_law_frac" (defScope (top 71)) (He.ga K "_law_frac") cdv A0 outer s H E) (fun c d _ H => E c d H) := takes_of rfl rfl rfl rfl
  have pw := passes_of (X := cxOf (L2.CX prg w) prg w K mg base ["num", "den", "part"] "_law_frac" (defScope (top 71)) (He.ga K "_law_frac") cdv A0 outer s H E) rfl
  show PSs _ [_, _] _
  unfold m__law_frac
  exact (ess_cons (sSetN 2 C (xMul C (xMax C (lCons em_int (lCons (xCallP h__law_gcd tk hr (lCons (xv 0) (lCons (xv 1) ea_nil))) ea_nil)) A.n_max) (em_ite (tCmp (oLt C) (xv 1) em_int) (xNeg em_int) em_int))) (ess_one (es_ret (em_tup (lCons (xFdiv C (xv 0) (xv 2)) (lCons (xFdiv C (xv 1) (xv 2)) ea_nil))))))
theorem k__law_frac (A : All K mg) : Kn (gm K) prg w K mg base "_law_frac" 2 ["num", "den"] r__law_frac := by
  obtain ⟨fd, F⟩ := A.F__law_frac
  exact ⟨_, fd, f__law_frac A F, A.g__law_frac, F.kp, F.bindsN fun _ _ _ _ _ _ us hl => match us, hl with | [_, _], _ => rfl⟩
/-! ### _law_rounded -/
theorem S__law_rounded : FnScope ["one", "places"] ["one", "places"] (defScope (top 75)) := ⟨by kernel_rfl, by kernel_rfl, by kernel_rfl, by decide +kernel, by kernel_rfl, by decide +kernel, by decide +kernel⟩
def m__law_rounded : SM := (sRet (fBin .fdiv (fBin .add (fBin .mul (fBin .mul (fC (.int 2)) (fIdx (fVar 0) (fC (.int 0)))) (fCall (pR r__law_power) (fCons (fC (.int 10)) (fCons (fVar 1) fNil)))) (fIdx (fVar 0) (fC (.int 1)))) (fBin .mul (fC (.int 2)) (fIdx (fVar 0) (fC (.int 1))))))
def r__law_rounded : List D → Store → R D := runB 2 2 m__law_rounded
theorem f__law_rounded (A : All K mg) {fd : FuncData} (F : FunD K "_law_rounded" "_law_rounded" (defArgs (top 75)) (defBody (top 75)) (defScope (top 75)) [] [] (He.ga K "_law_rounded") fd) : FnOk prg w K mg base (L2.CX prg w) 2 (He.ga K "_law_rounded") fd ["one", "places"] (spOf (gm K) r__law_rounded) := by
  have h__law_power := k__law_power (w := w) (base := base) A
  refine ok_def (k := 1) (m := m__law_rounded) F S__law_rounded rfl rfl fun cdv A0 outer s H E hcd hr => ?_
  have C : Cg (gm K) (cxOf (L2.CX prg w) prg w K mg base ["one", "places"] "_law_rounded" (defScope (top 75)) (He.ga K "_law_rounded") cdv A0 outer s H E) := ⟨rfl, rfl, S__law_rounded.nd, by have h := hr.un; show (A0.deeper _).units + 200 < cLine; omega⟩
  have tk : Takes (cxOf (L2.CX prg w) prg w K mg base ["one", "places"] "_law_rounded" (defScope (top 75)) (He.ga K "_law_rounded") cdv A0 outer s H E) (fun c d _ H => E c d H) := takes_of rfl rfl rfl rfl
  have pw := passes_of (X := cxOf (L2.CX prg w) prg w K mg base ["one", "places"] "_law_rounded" (defScope (top 75)) (He.ga K "_law_rounded") cdv A0 outer s H E) rfl
  show PSs _ [_] _
  unfold m__law_rounded
  exact (ess_one (es_ret (xFdiv C (xAdd C (xMul C (xMul C em_int (xIdx C (xv 0) em_int)) (xCallP h__law_power tk hr (lCons em_int (lCons (xv 1) ea_nil)))) (xIdx C (xv 0) em_int)) (xMul C em_int (xIdx C (xv 0) em_int)))))
theorem k__law_rounded (A : All K mg) : Kn (gm K) prg w K mg base "_law_rounded" 2 ["one", "places"] r__law_rounded := by
  obtain ⟨fd, F⟩ := A.F__law_rounded
  exact ⟨_, fd, f__law_rounded A F, A.g__law_rounded, F.kp, F.bindsN fun _ _ _ _ _ _ us hl => match us, hl with | [_, _], _ => rfl⟩
/-! ### is_decimal_form -/
theorem S_is_decimal_form : FnScope ["value"] ["value"] (defScope (top 22)) := ⟨by kernel_rfl, by kernel_rfl, by kernel_rfl, by decide +kernel, by kernel_rfl, by decide +kernel, by decide +kernel⟩
def m_is_decimal_form : SM := (sSeq (sIf (fOr (fNot (fCall (pR r_is_tuple_of) (fCons (fVar 0) (fCons (fC (.int 2)) fNil)))) (fNot (fCall (pR r_is_in) (fCons (fIdx (fVar 0) (fC (.int 0))) (fCons (fBin .sub (fC (.int 0)) (fC (.int 999999))) (fCons (fC (.int 999999)) fNil)))))) (sRet (fC (.bool false))) sNx) (sRet (fCall (pR r_is_in) (fCons (fIdx (fVar 0) (fC (.int 1))) (fCons (fC (.int 0)) (fCons (fC (.int 4)) fNil))))))
def r_is_decimal_form : List D → Store → R D := runB 1 1 m_is_decimal_form
theorem f_is_decimal_form (A : All K mg) {fd : FuncData} (F : FunD K "is_decimal_form" "is_decimal_form" (defArgs (top 22)) (defBody (top 22)) (defScope (top 22)) [] [] (He.ga K "is_decimal_form") fd) : FnOk prg w K mg base (L2.CX prg w) 3 (He.ga K "is_decimal_form") fd ["value"] (spOf (gm K) r_is_decimal_form) := by
  have h_is_in := k_is_in (w := w) (base := base) A
  have h_is_tuple_of := k_is_tuple_of (w := w) (base := base) A
  refine ok_def (k := 2) (m := m_is_decimal_form) F S_is_decimal_form rfl rfl fun cdv A0 outer s H E hcd hr => ?_
  have C : Cg (gm K) (cxOf (L2.CX prg w) prg w K mg base ["value"] "is_decimal_form" (defScope (top 22)) (He.ga K "is_decimal_form") cdv A0 outer s H E) := ⟨rfl, rfl, S_is_decimal_form.nd, by have h := hr.un; show (A0.deeper _).units + 200 < cLine; omega⟩
  have tk : Takes (cxOf (L2.CX prg w) prg w K mg base ["value"] "is_decimal_form" (defScope (top 22)) (He.ga K "is_decimal_form") cdv A0 outer s H E) (fun c d _ H => E c d H) := takes_of rfl rfl rfl rfl
  have pw := passes_of (X := cxOf (L2.CX prg w) prg w K mg base ["value"] "is_decimal_form" (defScope (top 22)) (He.ga K "is_decimal_form") cdv A0 outer s H E) rfl
  show PSs _ [_, _] _
  unfold m_is_decimal_form
  exact (ess_cons (es_if (tW (ew_or (et_not (tVal (xCallP h_is_tuple_of tk hr (lCons (xv 0) (lCons em_int ea_nil))))) (ew_one (.inr rfl) (et_not (tVal (xCallP h_is_in tk hr (lCons (xIdx C (xv 0) em_int) (lCons (xSub C em_int (xgi A.c_MOST_NUMBER)) (lCons (xgi A.c_MOST_NUMBER) ea_nil))))))))) (ess_one (es_ret em_bl)) ess_nil) (ess_one (es_ret (xCallP h_is_in tk hr (lCons (xIdx C (xv 0) em_int) (lCons em_int (lCons (xgi A.c_MOST_PLACES_formwork) ea_nil)))))))
theorem k_is_decimal_form (A : All K mg) : Kn (gm K) prg w K mg base "is_decimal_form" 3 ["value"] r_is_decimal_form := by
  obtain ⟨fd, F⟩ := A.F_is_decimal_form
  exact ⟨_, fd, f_is_decimal_form A F, A.g_is_decimal_form, F.kp, F.bindsN fun _ _ _ _ _ _ us hl => match us, hl with | [_], _ => rfl⟩
/-! ### check_places -/
theorem S_check_places : FnScope ["value"] ["value"] (defScope (top 35)) := ⟨by kernel_rfl, by kernel_rfl, by kernel_rfl, by decide +kernel, by kernel_rfl, by decide +kernel, by decide +kernel⟩
def m_check_places : SM := (sIf (fNot (fCall (pR r_is_in) (fCons (fVar 0) (fCons (fC (.int 0)) (fCons (fC (.int 9)) fNil))))) (sRaise 2 (fVar 0)) sNx)
def r_check_places : List D → Store → R D := runB 1 1 m_check_places
theorem f_check_places (A : All K mg) {fd : FuncData} (F : FunD K "check_places" "check_places" (defArgs (top 35)) (defBody (top 35)) (defScope (top 35)) [] [] (He.ga K "check_places") fd) : FnOk prg w K mg base (L2.CX prg w) 3 (He.ga K "check_places") fd ["value"] (spOf (gm K) r_check_places) := by
  have h_is_in := k_is_in (w := w) (base := base) A
  have hX_InvalidNumber := A.X_InvalidNumber w base
  refine ok_def (k := 2) (m := m_check_places) F S_check_places rfl rfl fun cdv A0 outer s H E hcd hr => ?_
  have C : Cg (gm K) (cxOf (L2.CX prg w) prg w K mg base ["value"] "check_places" (defScope (top 35)) (He.ga K "check_places") cdv A0 outer s H E) := ⟨rfl, rfl, S_check_places.nd, by have h := hr.un; show (A0.deeper _).units + 200 < cLine; omega⟩
  have tk : Takes (cxOf (L2.CX prg w) prg w K mg base ["value"] "check_places" (defScope (top 35)) (He.ga K "check_places") cdv A0 outer s H E) (fun c d _ H => E c d H) := takes_of rfl rfl rfl rfl
  have pw := passes_of (X := cxOf (L2.CX prg w) prg w K mg base ["value"] "check_places" (defScope (top 35)) (He.ga K "check_places") cdv A0 outer s H E) rfl
  show PSs _ [_] _
  unfold m_check_places
  exact (ess_one (es_if (et_not (tVal (xCallP h_is_in tk hr (lCons (xv 0) (lCons em_int (lCons (xgi A.c_MOST_PLACES_numbers) ea_nil)))))) (ess_one (sRse hX_InvalidNumber C tk hr (xv 0))) ess_nil))
theorem k_check_places (A : All K mg) : Kn (gm K) prg w K mg base "check_places" 3 ["value"] r_check_places := by
  obtain ⟨fd, F⟩ := A.F_check_places
  exact ⟨_, fd, f_check_places A F, A.g_check_places, F.kp, F.bindsN fun _ _ _ _ _ _ us hl => match us, hl with | [_], _ => rfl⟩
/-! ### text_of -/
theorem S_text_of : FnScope ["expression"] ["expression"] (defScope (top 53)) := ⟨by kernel_rfl, by kernel_rfl, by kernel_rfl, by decide +kernel, by kernel_rfl, by decide +kernel, by decide +kernel⟩
def m_text_of : SM := (sRet (fBm "str" mJoin (fC (.str "")) (fCons (fCall (pR r_words_of) (fCons (fVar 0) fNil)) fNil)))
def r_text_of : List D → Store → R D := runB 1 1 m_text_of
theorem f_text_of (A : All K mg) {fd : FuncData} (F : FunD K "text_of" "text_of" (defArgs (top 53)) (defBody (top 53)) (defScope (top 53)) [] [] (He.ga K "text_of") fd) : FnOk prg w K mg base (L2.CX prg w) 3 (He.ga K "text_of") fd ["expression"] (spOf (gm K) r_text_of) := by
  have h_words_of := k_words_of (w := w) (base := base) A
  refine ok_def (k := 2) (m := m_text_of) F S_text_of rfl rfl fun cdv A0 outer s H E hcd hr => ?_
  have C : Cg (gm K) (cxOf (L2.CX prg w) prg w K mg base ["expression"] "text_of" (defScope (top 53)) (He.ga K "text_of") cdv A0 outer s H E) := ⟨rfl, rfl, S_text_of.nd, by have h := hr.un; show (A0.deeper _).units + 200 < cLine; omega⟩
  have tk : Takes (cxOf (L2.CX prg w) prg w K mg base ["expression"] "text_of" (defScope (top 53)) (He.ga K "text_of") cdv A0 outer s H E) (fun c d _ H => E c d H) := takes_of rfl rfl rfl rfl
  have pw := passes_of (X := cxOf (L2.CX prg w) prg w K mg base ["expression"] "text_of" (defScope (top 53)) (He.ga K "text_of") cdv A0 outer s H E) rfl
  show PSs _ [_] _
  unfold m_text_of
  exact (ess_one (es_ret (xBm (.inl rfl) (mJn C) xs (lCons (xCallP h_words_of tk hr (lCons (xv 0) ea_nil)) ea_nil))))
theorem k_text_of (A : All K mg) : Kn (gm K) prg w K mg base "text_of" 3 ["expression"] r_text_of := by
  obtain ⟨fd, F⟩ := A.F_text_of
  exact ⟨_, fd, f_text_of A F, A.g_text_of, F.kp, F.bindsN fun _ _ _ _ _ _ us hl => match us, hl with | [_], _ => rfl⟩
/-! ### tokens_of -/
theorem S_tokens_of : FnScope ["text", "found", "at", "is_operand"] ["text"] (defScope (top 59)) := ⟨by kernel_rfl, by kernel_rfl, by kernel_rfl, by decide +kernel, by kernel_rfl, by decide +kernel, by decide +kernel⟩
def m_tokens_of : SM := (sSeq (sPar 1 2 (fCons (fNew fNil) (fCons (fC (.int 0)) fNil))) (sSeq (sWhile 100000 (fCmp .lt (fVar 2) (fCall (fnV lenV) (fCons (fVar 0) fNil))) (sSeq (sIf (fCmp .eq (fIdx (fVar 0) (fVar 2)) (fC (.str " "))) (sSeq (sSet 2 (fBin .add (fVar 2) (fC (.int 1)))) sCont) sNx) (sSeq (sSet 3 (fOr (fCmp .eq (fVar 1) (fLst fNil)) (fCmp .isin (fIdx (fVar 1) (fNeg (fC (.int 1)))) (fTup (fCons (fC (.str "(")) (fCons (fC (.str ",")) (fStar (fC d_OPS) fNil))))))) (sSeq (sDrop (fBm "list" mAppend (fVar 1) (fCons (fCall (pR r_token_at) (fCons (fVar 0) (fCons (fVar 2) (fCons (fVar 3) fNil)))) fNil))) (sSet 2 (fBin .add (fVar 2) (fCall (fnV lenV) (fCons (fIdx (fVar 1) (fNeg (fC (.int 1)))) fNil)))))))) (sRet (fVar 1))))
def r_tokens_of : List D → Store → R D := runB 1 4 m_tokens_of
theorem f_tokens_of (A : All K mg) {fd : FuncData} (F : FunD K "tokens_of" "tokens_of" (defArgs (top 59)) (defBody (top 59)) (defScope (top 59)) [] [] (He.ga K "tokens_of") fd) : FnOk prg w K mg base (L2.CX prg w) 3 (He.ga K "tokens_of") fd ["text"] (spOf (gm K) r_tokens_of) := by
  have h_token_at := k_token_at (w := w) (base := base) A
  refine ok_def (k := 2) (m := m_tokens_of) F S_tokens_of rfl rfl fun cdv A0 outer s H E hcd hr => ?_
  have C : Cg (gm K) (cxOf (L2.CX prg w) prg w K mg base ["text", "found", "at", "is_operand"] "tokens_of" (defScope (top 59)) (He.ga K "tokens_of") cdv A0 outer s H E) := ⟨rfl, rfl, S_tokens_of.nd, by have h := hr.un; show (A0.deeper _).units + 200 < cLine; omega⟩
  have tk : Takes (cxOf (L2.CX prg w) prg w K mg base ["text", "found", "at", "is_operand"] "tokens_of" (defScope (top 59)) (He.ga K "tokens_of") cdv A0 outer s H E) (fun c d _ H => E c d H) := takes_of rfl rfl rfl rfl
  have pw := passes_of (X := cxOf (L2.CX prg w) prg w K mg base ["text", "found", "at", "is_operand"] "tokens_of" (defScope (top 59)) (He.ga K "tokens_of") cdv A0 outer s H E) rfl
  show PSs _ [_, _, _] _
  unfold m_tokens_of
  exact (ess_cons (sParN 1 2 C (lCons (em_new ea_nil) (lCons em_int ea_nil))) (ess_cons (sWhileN 100000 pw (tCmp (oLt C) (xv 2) (xLen C (lCons (xv 0) ea_nil) A.n_len)) (ess_cons (es_if (tCmp (oEq C) (xIdx C (xv 0) (xv 2)) (xgs A.c_SPACE)) (ess_cons (sSetN 2 C (xAdd C (xv 2) em_int)) (ess_one es_cont)) ess_nil) (ess_cons (sSetN 3 C (em_or (xCmp (oEq C) (xv 1) (em_lst ea_nil)) (em_one (xCmp (oIn C) (xIdx C (xv 1) (xNeg em_int)) (em_tup (lCons xs (lCons xs (lStar C (xgo A.g_OPS A.c_OPS) ea_nil)))))))) (ess_cons (sDropN (xBm (.inr rfl) mApp (xv 1) (lCons (xCallP h_token_at tk hr (lCons (xv 0) (lCons (xv 2) (lCons (xv 3) ea_nil)))) ea_nil))) (ess_one (sSetN 2 C (xAdd C (xv 2) (xLen C (lCons (xIdx C (xv 1) (xNeg em_int)) ea_nil) A.n_len)))))))) (ess_one (es_ret (xv 1)))))
theorem k_tokens_of (A : All K mg) : Kn (gm K) prg w K mg base "tokens_of" 3 ["text"] r_tokens_of := by
  obtain ⟨fd, F⟩ := A.F_tokens_of
  exact ⟨_, fd, f_tokens_of A F, A.g_tokens_of, F.kp, F.bindsN fun _ _ _ _ _ _ us hl => match us, hl with | [_], _ => rfl⟩
/-! ### _law_number -/
theorem S__law_number : FnScope ["n", "places"] ["n", "places"] (defScope (top 73)) := ⟨by kernel_rfl, by kernel_rfl, by kernel_rfl, by decide +kernel, by kernel_rfl, by decide +kernel, by decide +kernel⟩
def m__law_number : SM := (sRet (fCall (pR r__law_frac) (fCons (fVar 0) (fCons (fCall (pR r__law_power) (fCons (fC (.int 10)) (fCons (fVar 1) fNil))) fNil))))
def r__law_number : List D → Store → R D := runB 2 2 m__law_number
theorem f__law_number (A : All K mg) {fd : FuncData} (F : FunD K "_law_number" "_law_number" (defArgs (top 73)) (defBody (top 73)) (defScope (top 73)) [] [] (He.ga K "_law_number") fd) : FnOk prg w K mg base (L2.CX prg w) 3 (He.ga K "_law_number") fd ["n", "places"] (spOf (gm K) r__law_number) := by
  have h__law_power := k__law_power (w := w) (base := base) A
  have h__law_frac := k__law_frac (w := w) (base := base) A
  refine ok_def (k := 2) (m := m__law_number) F S__law_number rfl rfl fun cdv A0 outer s H E hcd hr => ?_
  have C : Cg (gm K) (cxOf (L2.CX prg w) prg w K mg base ["n", "places"] "_law_number" (defScope (top 73)) (He.ga K "_law_number") cdv A0 outer s H E) := ⟨rfl, rfl, S__law_number.nd, by have h := hr.un; show (A0.deeper _).units + 200 < cLine; omega⟩
  have tk : Takes (cxOf (L2.CX prg w) prg w K mg base ["n", "places"] "_law_number" (defScope (top 73)) (He.ga K "_law_number") cdv A0 outer s H E) (fun c d _ H => E c d H) := takes_of rfl rfl rfl rfl
  have pw := passes_of (X := cxOf (L2.CX prg w) prg w K mg base ["n", "places"] "_law_number" (defScope (top 73)) (He.ga K "_law_number") cdv A0 outer s H E) rfl
  show PSs _ [_] _
  unfold m__law_number
  exact (ess_one (es_ret (xCallP h__law_frac tk hr (lCons (xv 0) (lCons (xCallP h__law_power tk hr (lCons em_int (lCons (xv 1) ea_nil))) ea_nil)))))
theorem k__law_number (A : All K mg) : Kn (gm K) prg w K mg base "_law_number" 3 ["n", "places"] r__law_number := by
  obtain ⟨fd, F⟩ := A.F__law_number
  exact ⟨_, fd, f__law_number A F, A.g__law_number, F.kp, F.bindsN fun _ _ _ _ _ _ us hl => match us, hl with | [_, _], _ => rfl⟩
/-! ### _law_decimal -/
theorem S__law_decimal : FnScope ["pail", "n"] ["pail"] (defScope (top 77)) := ⟨by kernel_rfl, by kernel_rfl, by kernel_rfl, by decide +kernel, by kernel_rfl, by decide +kernel, by decide +kernel⟩
def m__law_decimal : SM := (sSeq (sSet 1 (fCall r__law_any (fCons (fVar 0) (fCons (fLst (fCons (fC (.int 0)) (fCons (fC (.int 1)) (fCons (fC (.int 5)) (fCons (fC (.int 10)) (fCons (fC (.int 999999)) (fCons (fC (.int 100000)) (fCons (fC (.int 25)) (fCons (fCall r__law_deal (fCons (fVar 0) (fCons (fC (.int 1000000)) fNil))) fNil))))))))) fNil)))) (sRet (fTup (fCons (fIte (fCmp .eq (fCall r__law_deal (fCons (fVar 0) (fCons (fC (.int 2)) fNil))) (fC (.int 0))) (fVar 1) (fBin .sub (fC (.int 0)) (fVar 1))) (fCons (fCall r__law_deal (fCons (fVar 0) (fCons (fC (.int 5)) fNil))) fNil)))))
def r__law_decimal : List D → Store → R D := runB 1 2 m__law_decimal
theorem f__law_decimal (A : All K mg) {fd : FuncData} (F : FunD K "_law_decimal" "_law_decimal" (defArgs (top 77)) (defBody (top 77)) (defScope (top 77)) [] [] (He.ga K "_law_decimal") fd) : FnOk prg w K mg base (L2.CX prg w) 3 (He.ga K "_law_decimal") fd ["pail"] (spOf (gm K) r__law_decimal) := by
  have h__law_deal := k__law_deal (w := w) (base := base) A
  have h__law_any := k__law_any (w := w) (base := base) A
  refine ok_def (k := 2) (m := m__law_decimal) F S__law_decimal rfl rfl fun cdv A0 outer s H E hcd hr => ?_
  have C : Cg (gm K) (cxOf (L2.CX prg w) prg w K mg base ["pail", "n"] "_law_decimal" (defScope (top 77)) (He.ga K "_law_decimal") cdv A0 outer s H E) := ⟨rfl, rfl, S__law_decimal.nd, by have h := hr.un; show (A0.deeper _).units + 200 < cLine; omega⟩
  have tk : Takes (cxOf (L2.CX prg w) prg w K mg base ["pail", "n"] "_law_decimal" (defScope (top 77)) (He.ga K "_law_decimal") cdv A0 outer s H E) (fun c d _ H => E c d H) := takes_of rfl rfl rfl rfl
  have pw := passes_of (X := cxOf (L2.CX prg w) prg w K mg base ["pail", "n"] "_law_decimal" (defScope (top 77)) (He.ga K "_law_decimal") cdv A0 outer s H E) rfl
  show PSs _ [_, _] _
  unfold m__law_decimal
  exact (ess_cons (sSetN 1 C (xCall h__law_any tk hr (lCons (xv 0) (lCons (em_lst (lCons em_int (lCons em_int (lCons em_int (lCons em_int (lCons em_int (lCons em_int (lCons em_int (lCons (xCall h__law_deal tk hr (lCons (xv 0) (lCons em_int ea_nil))) ea_nil))))))))) ea_nil)))) (ess_one (es_ret (em_tup (lCons (em_ite (tCmp (oEq C) (xCall h__law_deal tk hr (lCons (xv 0) (lCons em_int ea_nil))) em_int) (xv 1) (xSub C em_int (xv 1))) (lCons (xCall h__law_deal tk hr (lCons (xv 0) (lCons em_int ea_nil))) ea_nil))))))
theorem k__law_decimal (A : All K mg) : Kn (gm K) prg w K mg base "_law_decimal" 3 ["pail"] r__law_decimal := by
  obtain ⟨fd, F⟩ := A.F__law_decimal
  exact ⟨_, fd, f__law_decimal A F, A.g__law_decimal, F.kp, F.bindsN fun _ _ _ _ _ _ us hl => match us, hl with | [_], _ => rfl⟩
/-! ### check_decimal -/
theorem S_check_decimal : FnScope ["value"] ["value"] (defScope (top 34)) := ⟨by kernel_rfl, by kernel_rfl, by kernel_rfl, by decide +kernel, by kernel_rfl, by decide +kernel, by decide +kernel⟩
def m_check_decimal : SM := (sIf (fNot (fCall (pR r_is_decimal_form) (fCons (fVar 0) fNil))) (sRaise 0 (fVar 0)) sNx)
def r_check_decimal : List D → Store → R D := runB 1 1 m_check_decimal
theorem f_check_decimal (A : All K mg) {fd : FuncData} (F : FunD K "check_decimal" "check_decimal" (defArgs (top 34)) (defBody (top 34)) (defScope (top 34)) [] [] (He.ga K "check_decimal") fd) : FnOk prg w K mg base (L2.CX prg w) 4 (He.ga K "check_decimal") fd ["value"] (spOf (gm K) r_check_decimal) := by
  have h_is_decimal_form := k_is_decimal_form (w := w) (base := base) A
  have hX_InvalidDecimal := A.X_InvalidDecimal w base
  refine ok_def (k := 3) (m := m_check_decimal) F S_check_decimal rfl rfl fun cdv A0 outer s H E hcd hr => ?_
  have C : Cg (gm K) (cxOf (L2.CX prg w) prg w K mg base ["value"] "check_decimal" (defScope (top 34)) (He.ga K "check_decimal") cdv A0 outer s H E) := ⟨rfl, rfl, S_check_decimal.nd, by have h := hr.un; show (A0.deeper _).units + 200 < cLine; omega⟩
  have tk : Takes (cxOf (L2.CX prg w) prg w K mg base ["value"] "check_decimal" (defScope (top 34)) (He.ga K "check_decimal") cdv A0 outer s H E) (fun c d _ H => E c d H) := takes_of rfl rfl rfl rfl
  have pw := passes_of (X := cxOf (L2.CX prg w) prg w K mg base ["value"] "check_decimal" (defScope (top 34)) (He.ga K "check_decimal") cdv A0 outer s H E) rfl
  show PSs _ [_] _
  unfold m_check_decimal
  exact (ess_one (es_if (et_not (tVal (xCallP h_is_decimal_form tk hr (lCons (xv 0) ea_nil)))) (ess_one (sRse hX_InvalidDecimal C tk hr (xv 0))) ess_nil))
theorem k_check_decimal (A : All K mg) : Kn (gm K) prg w K mg base "check_decimal" 4 ["value"] r_check_decimal := by
  obtain ⟨fd, F⟩ := A.F_check_decimal
  exact ⟨_, fd, f_check_decimal A F, A.g_check_decimal, F.kp, F.bindsN fun _ _ _ _ _ _ us hl => match us, hl with | [_], _ => rfl⟩
/-! ### is_decimal -/
theorem S_is_decimal : FnScope ["value"] ["value"] (defScope (top 36)) := ⟨by kernel_rfl, by kernel_rfl, by kernel_rfl, by decide +kernel, by kernel_rfl, by decide +kernel, by decide +kernel⟩
def m_is_decimal : SM := (sRet (fCall (pR r_is_decimal_form) (fCons (fVar 0) fNil)))
def r_is_decimal : List D → Store → R D := runB 1 1 m_is_decimal
theorem f_is_decimal (A : All K mg) {fd : FuncData} (F : FunD K "is_decimal" "is_decimal" (defArgs (top 36)) (defBody (top 36)) (defScope (top 36)) [] [] (He.ga K "is_decimal") fd) : FnOk prg w K mg base (L2.CX prg w) 4 (He.ga K "is_decimal") fd ["value"] (spOf (gm K) r_is_decimal) := by
  have h_is_decimal_form := k_is_decimal_form (w := w) (base := base) A
  refine ok_def (k := 3) (m := m_is_decimal) F S_is_decimal rfl rfl fun cdv A0 outer s H E hcd hr => ?_
  have C : Cg (gm K) (cxOf (L2.CX prg w) prg w K mg base ["value"] "is_decimal" (defScope (top 36)) (He.ga K "is_decimal") cdv A0 outer s H E) := ⟨rfl, rfl, S_is_decimal.nd, by have h := hr.un; show (A0.deeper _).units + 200 < cLine; omega⟩
  have tk : Takes (cxOf (L2.CX prg w) prg w K mg base ["value"] "is_decimal" (defScope (top 36)) (He.ga K "is_decimal") cdv A0 outer s H E) (fun c d _ H => E c d H) := takes_of rfl rfl rfl rfl
  have pw := passes_of (X := cxOf (L2.CX prg w) prg w K mg base ["value"] "is_decimal" (defScope (top 36)) (He.ga K "is_decimal") cdv A0 outer s H E) rfl
  show PSs _ [_] _
  unfold m_is_decimal
  exact (ess_one (es_ret (xCallP h_is_decimal_form tk hr (lCons (xv 0) ea_nil))))
theorem k_is_decimal (A : All K mg) : Kn (gm K) prg w K mg base "is_decimal" 4 ["value"] r_is_decimal := by
  obtain ⟨fd, F⟩ := A.F_is_decimal
  exact ⟨_, fd, f_is_decimal A F, A.g_is_decimal, F.kp, F.bindsN fun _ _ _ _ _ _ us hl => match us, hl with | [_], _ => rfl⟩
theorem kk_is_decimal_0 (A : All K mg) : Kk (gm K) prg w K mg base "is_decimal" 4 ["value"] ["value"] 0 1 r_is_decimal := by
  obtain ⟨fd, F⟩ := A.F_is_decimal
  exact ⟨_, fd, f_is_decimal A F, A.g_is_decimal, F.kp, funD_kb F (by decide) fun _ _ _ _ _ _ us ws h1 h2 => match us, ws, h1, h2 with | [], [_], _, _ => rfl⟩
/-! ### rounded -/
theorem S_rounded : FnScope ["fraction", "places"] ["fraction", "places"] (defScope (top 39)) := ⟨by kernel_rfl, by kernel_rfl, by kernel_rfl, by decide +kernel, by kernel_rfl, by decide +kernel, by decide +kernel⟩
def m_rounded : SM := (sSeq (sIf (fNot (fCall (pR r_is_fraction) (fCons (fVar 0) fNil))) (sRaise 3 (fVar 0)) sNx) (sSeq (sDrop (fCall (pR r_check_places) (fCons (fVar 1) fNil))) (sRet (fCall (pR r_rounded_at) (fCons (fVar 0) (fCons (fVar 1) fNil))))))
def r_rounded : List D → Store → R D := runB 2 2 m_rounded
theorem f_rounded (A : All K mg) {fd : FuncData} (F : FunD K "rounded" "rounded" (defArgs (top 39)) (defBody (top 39)) (defScope (top 39)) [] [] (He.ga K "rounded") fd) : FnOk prg w K mg base (L2.CX prg w) 4 (He.ga K "rounded") fd ["fraction", "places"] (spOf (gm K) r_rounded) := by
  have h_is_fraction := k_is_fraction (w := w) (base := base) A
  have hX_InvalidFraction := A.X_InvalidFraction w base
  have h_check_places := k_check_places (w := w) (base := base) A
  have h_rounded_at := k_rounded_at (w := w) (base := base) A
  refine ok_def (k := 3) (m := m_rounded) F S_rounded rfl rfl fun cdv A0 outer s H E hcd hr => ?_
  have C : Cg (gm K) (cxOf (L2.CX prg w) prg w K mg base ["fraction", "places"] "rounded" (defScope (top 39)) (He.ga K "rounded") cdv A0 outer s H E) := ⟨rfl, rfl, S_rounded.nd, by have h := hr.un; show (A0.deeper _).units + 200 < cLine; omega⟩
  have tk : Takes (cxOf (L2.CX prg w) prg w K mg base ["fraction", "places"] "rounded" (defScope (top 39)) (He.ga K "rounded") cdv A0 outer s H E) (fun c d _ H => E c d H) := takes_of rfl rfl rfl rfl
  have pw := passes_of (X := cxOf (L2.CX prg w) prg w K mg base ["fraction", "places"] "rounded" (defScope (top 39)) (He.ga K "rounded") cdv A0 outer s H E) rfl
  show PSs _ [_, _, _] _
  unfold m_rounded
  exact (ess_cons (es_if (et_not (tVal (xCallP h_is_fraction tk hr (lCons (xv 0) ea_nil)))) (ess_one (sRse hX_InvalidFraction C tk hr (xv 0))) ess_nil) (ess_cons (sDropN (xCallP h_check_places tk hr (lCons (xv 1) ea_nil))) (ess_one (es_ret (xCallP h_rounded_at tk hr (lCons (xv 0) (lCons (xv 1) ea_nil)))))))
theorem k_rounded (A : All K mg) : Kn (gm K) prg w K mg base "rounded" 4 ["fraction", "places"] r_rounded := by
  obtain ⟨fd, F⟩ := A.F_rounded
  exact ⟨_, fd, f_rounded A F, A.g_rounded, F.kp, F.bindsN fun _ _ _ _ _ _ us hl => match us, hl with | [_, _], _ => rfl⟩
theorem kk_rounded_0 (A : All K mg) : Kk (gm K) prg w K mg base "rounded" 4 ["fraction", "places"] ["fraction", "places"] 0 2 r_rounded := by
  obtain ⟨fd, F⟩ := A.F_rounded
  exact ⟨_, fd, f_rounded A F, A.g_rounded, F.kp, funD_kb F (by decide) fun _ _ _ _ _ _ us ws h1 h2 => match us, ws, h1, h2 with | [], [_, _], _, _ => rfl⟩
theorem kk_rounded_1 (A : All K mg) : Kk (gm K) prg w K mg base "rounded" 4 ["fraction", "places"] ["places"] 1 1 r_rounded := by
  obtain ⟨fd, F⟩ := A.F_rounded
  exact ⟨_, fd, f_rounded A F, A.g_rounded, F.kp, funD_kb F (by decide) fun _ _ _ _ _ _ us ws h1 h2 => match us, ws, h1, h2 with | [_], [_], _, _ => rfl⟩
/-! ### answer_text -/
theorem S_answer_text : FnScope ["number", "places"] ["number", "places"] (defScope (top 40)) := ⟨by kernel_rfl, by kernel_rfl, by kernel_rfl, by decide +kernel, by kernel_rfl, by decide +kernel, by decide +kernel⟩
def m_answer_text : SM := (sSeq (sIf (fNot (fCall (pR r_is_whole) (fCons (fVar 0) fNil))) (sRaise 2 (fVar 0)) sNx) (sSeq (sDrop (fCall (pR r_check_places) (fCons (fVar 1) fNil))) (sRet (fCall (pR r_text_at) (fCons (fVar 0) (fCons (fVar 1) fNil))))))
def r_answer_text : List D → Store → R D := runB 2 2 m_answer_text
theorem f_answer_text (A : All K mg) {fd : FuncData} (F : FunD K "answer_text" "answer_text" (defArgs (top 40)) (defBody (top 40)) (defScope (top 40)) [] [] (He.ga K "answer_text") fd) : FnOk prg w K mg base (L2.CX prg w) 4 (He.ga K "answer_text") fd ["number", "places"] (spOf (gm K) r_answer_text) := by
  have h_is_whole := k_is_whole (w := w) (base := base) A
  have hX_InvalidNumber := A.X_InvalidNumber w base
  have h_check_places := k_check_places (w := w) (base := base) A
  have h_text_at := k_text_at (w := w) (base := base) A
  refine ok_def (k := 3) (m := m_answer_text) F S_answer_text rfl rfl fun cdv A0 outer s H E hcd hr => ?_
  have C : Cg (gm K) (cxOf (L2.CX prg w) prg w K mg base ["number", "places"] "answer_text" (defScope (top 40)) (He.ga K "answer_text") cdv A0 outer s H E) := ⟨rfl, rfl, S_answer_text.nd, by have h := hr.un; show (A0.deeper _).units + 200 < cLine; omega⟩
  have tk : Takes (cxOf (L2.CX prg w) prg w K mg base ["number", "places"] "answer_text" (defScope (top 40)) (He.ga K "answer_text") cdv A0 outer s H E) (fun c d _ H => E c d H) := takes_of rfl rfl rfl rfl
  have pw := passes_of (X := cxOf (L2.CX prg w) prg w K mg base ["number", "places"] "answer_text" (defScope (top 40)) (He.ga K "answer_text") cdv A0 outer s H E) rfl
  show PSs _ [_, _, _] _
  unfold m_answer_text
  exact (ess_cons (es_if (et_not (tVal (xCallP h_is_whole tk hr (lCons (xv 0) ea_nil)))) (ess_one (sRse hX_InvalidNumber C tk hr (xv 0))) ess_nil) (ess_cons (sDropN (xCallP h_check_places tk hr (lCons (xv 1) ea_nil))) (ess_one (es_ret (xCallP h_text_at tk hr (lCons (xv 0) (lCons (xv 1) ea_nil)))))))
theorem k_answer_text (A : All K mg) : Kn (gm K) prg w K mg base "answer_text" 4 ["number", "places"] r_answer_text := by
  obtain ⟨fd, F⟩ := A.F_answer_text
  exact ⟨_, fd, f_answer_text A F, A.g_answer_text, F.kp, F.bindsN fun _ _ _ _ _ _ us hl => match us, hl with | [_, _], _ => rfl⟩
theorem kk_answer_text_0 (A : All K mg) : Kk (gm K) prg w K mg base "answer_text" 4 ["number", "places"] ["number", "places"] 0 2 r_answer_text := by
  obtain ⟨fd, F⟩ := A.F_answer_text
  exact ⟨_, fd, f_answer_text A F, A.g_answer_text, F.kp, funD_kb F (by decide) fun _ _ _ _ _ _ us ws h1 h2 => match us, ws, h1, h2 with | [], [_, _], _, _ => rfl⟩
theorem kk_answer_text_1 (A : All K mg) : Kk (gm K) prg w K mg base "answer_text" 4 ["number", "places"] ["places"] 1 1 r_answer_text := by
  obtain ⟨fd, F⟩ := A.F_answer_text
  exact ⟨_, fd, f_answer_text A F, A.g_answer_text, F.kp, funD_kb F (by decide) fun _ _ _ _ _ _ us ws h1 h2 => match us, ws, h1, h2 with | [_], [_], _, _ => rfl⟩
/-! ### is_expression_head -/
theorem S_is_expression_head : FnScope ["value", "head"] ["value"] (defScope (top 46)) := ⟨by kernel_rfl, by kernel_rfl, by kernel_rfl, by decide +kernel, by kernel_rfl, by decide +kernel, by decide +kernel⟩
def m_is_expression_head : SM := (sSeq (sSet 1 (fCall (pR r_head_of) (fCons (fVar 0) fNil))) (sSeq (sIf (fCmp .eq (fVar 1) (fLst (fCons (fC (.str "number")) fNil))) (sRet (fAnd (fCall (pR r_is_tuple_of) (fCons (fVar 0) (fCons (fC (.int 3)) fNil))) (fCall (pR r_is_decimal_form) (fCons (fSli (fVar 0) (some (fC (.int 1))) none) fNil)))) sNx) (sSeq (sIf (fCmp .eq (fVar 1) (fLst (fCons (fC (.str "name")) fNil))) (sRet (fAnd (fCall (pR r_is_tuple_of) (fCons (fVar 0) (fCons (fC (.int 2)) fNil))) (fCall (pR r_is_name) (fCons (fIdx (fVar 0) (fC (.int 1))) fNil)))) sNx) (sSeq (sIf (fCmp .eq (fVar 1) (fLst (fCons (fC (.str "call")) fNil))) (sRet (fAnd (fCall (pR r_is_tuple_of) (fCons (fVar 0) (fCons (fC (.int 3)) fNil))) (fAnd (fCall (pR r_is_name) (fCons (fIdx (fVar 0) (fC (.int 1))) fNil)) (fCall (pR r_is_short_tuple) (fCons (fIdx (fVar 0) (fC (.int 2))) (fCons (fC (.int 1)) (fCons (fC (.int 3)) fNil))))))) sNx) (sRet (fAnd (fCmp .ne (fVar 1) (fLst fNil)) (fAnd (fCmp .isin (fIdx (fVar 1) (fC (.int 0))) (fC d_OPS)) (fCall (pR r_is_tuple_of) (fCons (fVar 0) (fCons (fC (.int 3)) fNil))))))))))
def r_is_expression_head : List D → Store → R D := runB 1 2 m_is_expression_head
theorem f_is_expression_head (A : All K mg) {fd : FuncData} (F : FunD K "is_expression_head" "is_expression_head" (defArgs (top 46)) (defBody (top 46)) (defScope (top 46)) [] [] (He.ga K "is_expression_head") fd) : FnOk prg w K mg base (L2.CX prg w) 4 (He.ga K "is_expression_head") fd ["value"] (spOf (gm K) r_is_expression_head) := by
  have h_head_of := k_head_of (w := w) (base := base) A
  have h_is_decimal_form := k_is_decimal_form (w := w) (base := base) A
  have h_is_tuple_of := k_is_tuple_of (w := w) (base := base) A
  have h_is_name := k_is_name (w := w) (base := base) A
  have h_is_short_tuple := k_is_short_tuple (w := w) (base := base) A
  refine ok_def (k := 3) (m := m_is_expression_head) F S_is_expression_head rfl rfl fun cdv A0 outer s H E hcd hr => ?_
  have C : Cg (gm K) (cxOf (L2.CX prg w) prg w K mg base ["value", "head"] "is_expression_head" (defScope (top 46)) (He.ga K "is_expression_head") cdv A0 outer s H E) := ⟨rfl, rfl, S_is_expression_head.nd, by have h := hr.un; show (A0.deeper _).units + 200 < cLine; omega⟩
  have tk : Takes (cxOf (L2.CX prg w) prg w K mg base ["value", "head"] "is_expression_head" (defScope (top 46)) (He.ga K "is_expression_head") cdv A0 outer s H E) (fun c d _ H => E c d H) := takes_of rfl rfl rfl rfl
  have pw := passes_of (X := cxOf (L2.CX prg w) prg w K mg base ["value", "head"] "is_expression_head" (defScope (top 46)) (He.ga K "is_expression_head") cdv A0 outer s H E) rfl
  show PSs _ [_, _, _, _, _] _
  unfold m_is_expression_head
  exact (ess_cons (sSetN 1 C (xCallP h_head_of tk hr (lCons (xv 0) ea_nil))) (ess_cons (es_if (tCmp (oEq C) (xv 1) (em_lst (lCons xs ea_nil))) (ess_one (es_ret (em_and (xCallP h_is_tuple_of tk hr (lCons (xv 0) (lCons em_int ea_nil))) (em_one (xCallP h_is_decimal_form tk hr (lCons (xSli C (xv 0) (eo_some em_int) eo_none) ea_nil)))))) ess_nil) (ess_cons (es_if (tCmp (oEq C) (xv 1) (em_lst (lCons xs ea_nil))) (ess_one (es_ret (em_and (xCallP h_is_tuple_of tk hr (lCons (xv 0) (lCons em_int ea_nil))) (em_one (xCallP h_is_name tk hr (lCons (xIdx C (xv 0) em_int) ea_nil)))))) ess_nil) (ess_cons (es_if (tCmp (oEq C) (xv 1) (em_lst (lCons xs ea_nil))) (ess_one (es_ret (em_and (xCallP h_is_tuple_of tk hr (lCons (xv 0) (lCons em_int ea_nil))) (em_and (xCallP h_is_name tk hr (lCons (xIdx C (xv 0) em_int) ea_nil)) (em_one (xCallP h_is_short_tuple tk hr (lCons (xIdx C (xv 0) em_int) (lCons em_int (lCons (xgi A.c_MOST_PARAMS) ea_nil))))))))) ess_nil) (ess_one (es_ret (em_and (xCmp (oNe C) (xv 1) (em_lst ea_nil)) (em_and (xCmp (oIn C) (xIdx C (xv 1) em_int) (xgo A.g_OPS A.c_OPS)) (em_one (xCallP h_is_tuple_of tk hr (lCons (xv 0) (lCons em_int ea_nil))))))))))))
theorem k_is_expression_head (A : All K mg) : Kn (gm K) prg w K mg base "is_expression_head" 4 ["value"] r_is_expression_head := by
  obtain ⟨fd, F⟩ := A.F_is_expression_head
  exact ⟨_, fd, f_is_expression_head A F, A.g_is_expression_head, F.kp, F.bindsN fun _ _ _ _ _ _ us hl => match us, hl with | [_], _ => rfl⟩
/-! ### Stack.leaf -/
theorem S_Stack_leaf : FnScope ["self", "token", "found", "each"] ["self", "token"] (defScope (topm 60 2)) := ⟨by kernel_rfl, by kernel_rfl, by kernel_rfl, by decide +kernel, by kernel_rfl, by decide +kernel, by decide +kernel⟩
def m_Stack_leaf : SM := (sSeq (sSet 2 (fIte (fCall (pR r_is_name) (fCons (fVar 1) fNil)) (fLst (fCons (fTup (fCons (fC (.str "name")) (fCons (fVar 1) fNil))) fNil)) (fLst fNil))) (sSeq (sSet 2 (fBin .add (fVar 2) (fLc [3] (fIter (fCall (pR r_decimal_told) (fCons (fVar 1) fNil))) (gSet 3) (fT (fCall (pR r_is_decimal_form) (fCons (fVar 3) fNil))) (fTup (fCons (fC (.str "number")) (fStar (fVar 3) fNil)))))) (sSeq (sDrop (fBm "list" mExtend (fFld fk (fVar 0) "held") (fCons (fVar 2) fNil))) (sRet (fCmp .ne (fVar 2) (fLst fNil))))))
def r_Stack_leaf : List D → Store → R D := runB 2 4 m_Stack_leaf
theorem f_Stack_leaf (A : All K mg) {fd : FuncData} (F : FunD K "leaf" "Stack.leaf" (defArgs (topm 60 2)) (defBody (topm 60 2)) (defScope (topm 60 2)) [] [] (He.ma K (He.ga K "Stack") "leaf") fd) : FnOk prg w K mg base (L2.CX prg w) 4 (He.ma K (He.ga K "Stack") "leaf") fd ["self", "token"] (spOf (gm K) r_Stack_leaf) := by
  have h_is_name := k_is_name (w := w) (base := base) A
  have h_decimal_told := k_decimal_told (w := w) (base := base) A
  have h_is_decimal_form := k_is_decimal_form (w := w) (base := base) A
  refine ok_def (k := 3) (m := m_Stack_leaf) F S_Stack_leaf rfl rfl fun cdv A0 outer s H E hcd hr => ?_
  have C : Cg (gm K) (cxOf (L2.CX prg w) prg w K mg base ["self", "token", "found", "each"] "Stack.leaf" (defScope (topm 60 2)) (He.ma K (He.ga K "Stack") "leaf") cdv A0 outer s H E) := ⟨rfl, rfl, S_Stack_leaf.nd, by have h := hr.un; show (A0.deeper _).units + 200 < cLine; omega⟩
  have tk : Takes (cxOf (L2.CX prg w) prg w K mg base ["self", "token", "found", "each"] "Stack.leaf" (defScope (topm 60 2)) (He.ma K (He.ga K "Stack") "leaf") cdv A0 outer s H E) (fun c d _ H => E c d H) := takes_of rfl rfl rfl rfl
  have pw := passes_of (X := cxOf (L2.CX prg w) prg w K mg base ["self", "token", "found", "each"] "Stack.leaf" (defScope (topm 60 2)) (He.ma K (He.ga K "Stack") "leaf") cdv A0 outer s H E) rfl
  show PSs _ [_, _, _, _] _
  unfold m_Stack_leaf
  exact (ess_cons (sSetN 2 C (em_ite (tVal (xCallP h_is_name tk hr (lCons (xv 1) ea_nil))) (em_lst (lCons (em_tup (lCons xs (lCons (xv 1) ea_nil))) ea_nil)) (em_lst ea_nil))) (ess_cons (sSetN 2 C (xAdd C (xv 2) (xLc [("each", 3)] C (iAnyN C (xCallP h_decimal_told tk hr (lCons (xv 1) ea_nil))) (fun _ _ _ _ _ => (wN 3 C.blk)) (fun _ _ _ _ _ => (ets_one (tVal (xCallP h_is_decimal_form LamX.takes0 hr (lCons (xv 3) ea_nil))))) (fun _ _ _ _ _ => (em_tup (lCons xs (lStar C.blk (xv 3) ea_nil))))))) (ess_cons (sDropN (xBm (.inr rfl) mExt (xFld C A.fk (xv 0)) (lCons (xv 2) ea_nil))) (ess_one (es_ret (xCmp (oNe C) (xv 2) (em_lst ea_nil)))))))
theorem k_Stack_leaf (A : All K mg) : KnM (gm K) prg w K mg base 5 "leaf" 4 ["self", "token"] r_Stack_leaf := by
  obtain ⟨fd, F⟩ := A.F_Stack_leaf
  exact ⟨_, fd, f_Stack_leaf A F, A.cls_Stack, A.M_Stack_leaf, F.bindsN fun _ _ _ _ _ _ us hl => match us, hl with | [_, _], _ => rfl⟩
/-! ### fraction_of -/
theorem S_fraction_of : FnScope ["decimal"] ["decimal"] (defScope (top 37)) := ⟨by kernel_rfl, by kernel_rfl, by kernel_rfl, by decide +kernel, by kernel_rfl, by decide +kernel, by decide +kernel⟩
def m_fraction_of : SM := (sSeq (sDrop (fCall (pR r_check_decimal) (fCons (fVar 0) fNil))) (sRet (fCall (pR r_of_decimal) (fCons (fVar 0) fNil))))
def r_fraction_of : List D → Store → R D := runB 1 1 m_fraction_of
theorem f_fraction_of (A : All K mg) {fd : FuncData} (F : FunD K "fraction_of" "fraction_of" (defArgs (top 37)) (defBody (top 37)) (defScope (top 37)) [] [] (He.ga K "fraction_of") fd) : FnOk prg w K mg base (L2.CX prg w) 5 (He.ga K "fraction_of") fd ["decimal"] (spOf (gm K) r_fraction_of) := by
  have h_check_decimal := k_check_decimal (w := w) (base := base) A
  have h_of_decimal := k_of_decimal (w := w) (base := base) A
  refine ok_def (k := 4) (m := m_fraction_of) F S_fraction_of rfl rfl fun cdv A0 outer s H E hcd hr => ?_
  have C : Cg (gm K) (cxOf (L2.CX prg w) prg w K mg base ["decimal"] "fraction_of" (defScope (top 37)) (He.ga K "fraction_of") cdv A0 outer s H E) := ⟨rfl, rfl, S_fraction_of.nd, by have h := hr.un; show (A0.deeper _).units + 200 < cLine; omega⟩
  have tk : Takes (cxOf (L2.CX prg w) prg w K mg base ["decimal"] "fraction_of" (defScope (top 37)) (He.ga K "fraction_of") cdv A0 outer s H E) (fun c d _ H => E c d H) := takes_of rfl rfl rfl rfl
  have pw := passes_of (X := cxOf (L2.CX prg w) prg w K mg base ["decimal"] "fraction_of" (defScope (top 37)) (He.ga K "fraction_of") cdv A0 outer s H E) rfl
  show PSs _ [_, _] _
  unfold m_fraction_of
  exact (ess_cons (sDropN (xCallP h_check_decimal tk hr (lCons (xv 0) ea_nil))) (ess_one (es_ret (xCallP h_of_decimal tk hr (lCons (xv 0) ea_nil)))))
theorem k_fraction_of (A : All K mg) : Kn (gm K) prg w K mg base "fraction_of" 5 ["decimal"] r_fraction_of := by
  obtain ⟨fd, F⟩ := A.F_fraction_of
  exact ⟨_, fd, f_fraction_of A F, A.g_fraction_of, F.kp, F.bindsN fun _ _ _ _ _ _ us hl => match us, hl with | [_], _ => rfl⟩
theorem kk_fraction_of_0 (A : All K mg) : Kk (gm K) prg w K mg base "fraction_of" 5 ["decimal"] ["decimal"] 0 1 r_fraction_of := by
  obtain ⟨fd, F⟩ := A.F_fraction_of
  exact ⟨_, fd, f_fraction_of A F, A.g_fraction_of, F.kp, funD_kb F (by decide) fun _ _ _ _ _ _ us ws h1 h2 => match us, ws, h1, h2 with | [], [_], _, _ => rfl⟩
/-! ### decimal_text -/
theorem S_decimal_text : FnScope ["decimal"] ["decimal"] (defScope (top 38)) := ⟨by kernel_rfl, by kernel_rfl, by kernel_rfl, by decide +kernel, by kernel_rfl, by decide +kernel, by decide +kernel⟩
def m_decimal_text : SM := (sSeq (sDrop (fCall (pR r_check_decimal) (fCons (fVar 0) fNil))) (sRet (fCall (pR r_text_at) (fCons (fIdx (fVar 0) (fC (.int 0))) (fCons (fIdx (fVar 0) (fC (.int 1))) fNil)))))
def r_decimal_text : List D → Store → R D := runB 1 1 m_decimal_text
theorem f_decimal_text (A : All K mg) {fd : FuncData} (F : FunD K "decimal_text" "decimal_text" (defArgs (top 38)) (defBody (top 38)) (defScope (top 38)) [] [] (He.ga K "decimal_text") fd) : FnOk prg w K mg base (L2.CX prg w) 5 (He.ga K "decimal_text") fd ["decimal"] (spOf (gm K) r_decimal_text) := by
  have h_check_decimal := k_check_decimal (w := w) (base := base) A
  have h_text_at := k_text_at (w := w) (base := base) A
  refine ok_def (k := 4) (m := m_decimal_text) F S_decimal_text rfl rfl fun cdv A0 outer s H E hcd hr => ?_
  have C : Cg (gm K) (cxOf (L2.CX prg w) prg w K mg base ["decimal"] "decimal_text" (defScope (top 38)) (He.ga K "decimal_text") cdv A0 outer s H E) := ⟨rfl, rfl, S_decimal_text.nd, by have h := hr.un; show (A0.deeper _).units + 200 < cLine; omega⟩
  have tk : Takes (cxOf (L2.CX prg w) prg w K mg base ["decimal"] "decimal_text" (defScope (top 38)) (He.ga K "decimal_text") cdv A0 outer s H E) (fun c d _ H => E c d H) := takes_of rfl rfl rfl rfl
  have pw := passes_of (X := cxOf (L2.CX prg w) prg w K mg base ["decimal"] "decimal_text" (defScope (top 38)) (He.ga K "decimal_text") cdv A0 outer s H E) rfl
  show PSs _ [_, _] _
  unfold m_decimal_text
  exact (ess_cons (sDropN (xCallP h_check_decimal tk hr (lCons (xv 0) ea_nil))) (ess_one (es_ret (xCallP h_text_at tk hr (lCons (xIdx C (xv 0) em_int) (lCons (xIdx C (xv 0) em_int) ea_nil))))))
theorem k_decimal_text (A : All K mg) : Kn (gm K) prg w K mg base "decimal_text" 5 ["decimal"] r_decimal_text := by
  obtain ⟨fd, F⟩ := A.F_decimal_text
  exact ⟨_, fd, f_decimal_text A F, A.g_decimal_text, F.kp, F.bindsN fun _ _ _ _ _ _ us hl => match us, hl with | [_], _ => rfl⟩
/-! ### is_expression_form -/
theorem S_is_expression_form : FnScope ["value", "layer", "_", "each"] ["value"] (defScope (top 48)) := ⟨by kernel_rfl, by kernel_rfl, by kernel_rfl, by decide +kernel, by kernel_rfl, by decide +kernel, by decide +kernel⟩
def m_is_expression_form : SM := (sSeq (sSet 1 (fLst (fCons (fVar 0) fNil))) (sSeq (sFor (gSet 2) (fRng1 (fC (.int 5))) (sSeq (sIf (fNot (fCall (fnV allV) (fCons (fLc [3] (fIter (fVar 1)) (gSet 3) tT1 (fCall (pR r_is_expression_head) (fCons (fVar 3) fNil))) fNil))) (sRet (fC (.bool false))) sNx) (sSet 1 (fCall (pR r_next_layer) (fCons (fVar 1) fNil))))) (sRet (fCmp .eq (fVar 1) (fLst fNil)))))
def r_is_expression_form : List D → Store → R D := runB 1 4 m_is_expression_form
theorem f_is_expression_form (A : All K mg) {fd : FuncData} (F : FunD K "is_expression_form" "is_expression_form" (defArgs (top 48)) (defBody (top 48)) (defScope (top 48)) [] [] (He.ga K "is_expression_form") fd) : FnOk prg w K mg base (L2.CX prg w) 5 (He.ga K "is_expression_form") fd ["value"] (spOf (gm K) r_is_expression_form) := by
  have h_is_expression_head := k_is_expression_head (w := w) (base := base) A
  have h_next_layer := k_next_layer (w := w) (base := base) A
  refine ok_def (k := 4) (m := m_is_expression_form) F S_is_expression_form rfl rfl fun cdv A0 outer s H E hcd hr => ?_
  have C : Cg (gm K) (cxOf (L2.CX prg w) prg w K mg base ["value", "layer", "_", "each"] "is_expression_form" (defScope (top 48)) (He.ga K "is_expression_form") cdv A0 outer s H E) := ⟨rfl, rfl, S_is_expression_form.nd, by have h := hr.un; show (A0.deeper _).units + 200 < cLine; omega⟩
  have tk : Takes (cxOf (L2.CX prg w) prg w K mg base ["value", "layer", "_", "each"] "is_expression_form" (defScope (top 48)) (He.ga K "is_expression_form") cdv A0 outer s H E) (fun c d _ H => E c d H) := takes_of rfl rfl rfl rfl
  have pw := passes_of (X := cxOf (L2.CX prg w) prg w K mg base ["value", "layer", "_", "each"] "is_expression_form" (defScope (top 48)) (He.ga K "is_expression_form") cdv A0 outer s H E) rfl
  show PSs _ [_, _, _] _
  unfold m_is_expression_form
  exact (ess_cons (sSetN 1 C (em_lst (lCons (xv 0) ea_nil))) (ess_cons (sForN C pw (iRng (xgi A.c_MOST_DEEP) A.n_range) (gN 2 C) (ess_cons (es_if (et_not (tVal (xAll C (lCons (xLc [("each", 3)] C (iAnyN C (xv 1)) (fun _ _ _ _ _ => (wN 3 C.blk)) (fun _ _ _ _ _ => ets_nil) (fun _ _ _ _ _ => (xCallP h_is_expression_head LamX.takes0 hr (lCons (xv 3) ea_nil)))) ea_nil) A.n_all))) (ess_one (es_ret em_bl)) ess_nil) (ess_one (sSetN 1 C (xCallP h_next_layer tk hr (lCons (xv 1) ea_nil)))))) (ess_one (es_ret (xCmp (oEq C) (xv 1) (em_lst ea_nil))))))
theorem k_is_expression_form (A : All K mg) : Kn (gm K) prg w K mg base "is_expression_form" 5 ["value"] r_is_expression_form := by
  obtain ⟨fd, F⟩ := A.F_is_expression_form
  exact ⟨_, fd, f_is_expression_form A F, A.g_is_expression_form, F.kp, F.bindsN fun _ _ _ _ _ _ us hl => match us, hl with | [_], _ => rfl⟩
/-! ### Stack.take -/
theorem S_Stack_take : FnScope ["self", "token"] ["self", "token"] (defScope (topm 60 1)) := ⟨by kernel_rfl, by kernel_rfl, by kernel_rfl, by decide +kernel, by kernel_rfl, by decide +kernel, by decide +kernel⟩
def m_Stack_take : SM := (sSeq (sIf (fCmp .eq (fVar 1) (fC (.str ")"))) sNo sNx) (sSeq (sIf (fOr (fCmp .isin (fVar 1) (fC d_OPS)) (fCmp .isin (fVar 1) (fTup (fCons (fC (.str "(")) (fCons (fC (.str ",")) fNil))))) (sSeq (sDrop (fBm "list" mAppend (fFld fk (fVar 0) "held") (fCons (fVar 1) fNil))) (sRet (fC (.bool true)))) sNx) (sRet (fMeth 5 "leaf" r_Stack_leaf (fVar 0) (fCons (fVar 1) fNil)))))
def r_Stack_take : List D → Store → R D := runB 2 2 m_Stack_take
theorem f_Stack_take (A : All K mg) {fd : FuncData} (F : FunD K "take" "Stack.take" (defArgs (topm 60 1)) (defBody (topm 60 1)) (defScope (topm 60 1)) [] [] (He.ma K (He.ga K "Stack") "take") fd) : FnOk prg w K mg base (L2.CX prg w) 5 (He.ma K (He.ga K "Stack") "take") fd ["self", "token"] (spOf (gm K) r_Stack_take) := by
  have h_Stack_leaf := k_Stack_leaf (w := w) (base := base) A
  refine ok_def (k := 4) (m := m_Stack_take) F S_Stack_take rfl rfl fun cdv A0 outer s H E hcd hr => ?_
  have C : Cg (gm K) (cxOf (L2.CX prg w) prg w K mg base ["self", "token"] "Stack.take" (defScope (topm 60 1)) (He.ma K (He.ga K "Stack") "take") cdv A0 outer s H E) := ⟨rfl, rfl, S_Stack_take.nd, by have h := hr.un; show (A0.deeper _).units + 200 < cLine; omega⟩
  have tk : Takes (cxOf (L2.CX prg w) prg w K mg base ["self", "token"] "Stack.take" (defScope (topm 60 1)) (He.ma K (He.ga K "Stack") "take") cdv A0 outer s H E) (fun c d _ H => E c d H) := takes_of rfl rfl rfl rfl
  have pw := passes_of (X := cxOf (L2.CX prg w) prg w K mg base ["self", "token"] "Stack.take" (defScope (topm 60 1)) (He.ma K (He.ga K "Stack") "take") cdv A0 outer s H E) rfl
  show PSs _ [_, _, _] _
  unfold m_Stack_take
  exact (ess_cons (es_if (tCmp (oEq C) (xv 1) xs) ess_no ess_nil) (ess_cons (es_if (tW (ew_or (tCmp (oIn C) (xv 1) (xgo A.g_OPS A.c_OPS)) (ew_one (.inr rfl) (tCmp (oIn C) (xv 1) (em_tup (lCons xs (lCons xs ea_nil))))))) (ess_cons (sDropN (xBm (.inr rfl) mApp (xFld C A.fk (xv 0)) (lCons (xv 1) ea_nil))) (ess_one (es_ret em_bl))) ess_nil) (ess_one (es_ret (xMeth h_Stack_leaf tk hr (xv 0) (lCons (xv 1) ea_nil))))))
theorem k_Stack_take (A : All K mg) : KnM (gm K) prg w K mg base 5 "take" 5 ["self", "token"] r_Stack_take := by
  obtain ⟨fd, F⟩ := A.F_Stack_take
  exact ⟨_, fd, f_Stack_take A F, A.cls_Stack, A.M_Stack_take, F.bindsN fun _ _ _ _ _ _ us hl => match us, hl with | [_, _], _ => rfl⟩
/-! ### expression_told -/
theorem S_expression_told : FnScope ["text", "stack", "token"] ["text"] (defScope (top 61)) := ⟨by kernel_rfl, by kernel_rfl, by kernel_rfl, by decide +kernel, by kernel_rfl, by decide +kernel, by decide +kernel⟩
def m_expression_told : SM := (sSeq (sSet 1 (fMake 5 r_Stack___init__ fNil)) (sSeq (sFor (gSet 2) (fIter (fCall (pR r_tokens_of) (fCons (fVar 0) fNil))) (sIf (fNot (fMeth 5 "take" r_Stack_take (fVar 1) (fCons (fVar 2) fNil))) (sRet (fLst fNil)) sNx)) (sSeq (sIf (fOr (fCmp .ne (fCall (fnV lenV) (fCons (fFld fk (fVar 1) "held") fNil)) (fC (.int 1))) (fIsi "str" (fIdx (fFld fk (fVar 1) "held") (fC (.int 0))))) (sRet (fLst fNil)) sNx) (sRet (fIte (fCmp .eq (fCall (pR r_text_of) (fCons (fIdx (fFld fk (fVar 1) "held") (fC (.int 0))) fNil)) (fVar 0)) (fLst (fCons (fIdx (fFld fk (fVar 1) "held") (fC (.int 0))) fNil)) (fLst fNil))))))
def r_expression_told : List D → Store → R D := runB 1 3 m_expression_told
theorem f_expression_told (A : All K mg) {fd : FuncData} (F : FunD K "expression_told" "expression_told" (defArgs (top 61)) (defBody (top 61)) (defScope (top 61)) [] [] (He.ga K "expression_told") fd) : FnOk prg w K mg base (L2.CX prg w) 6 (He.ga K "expression_told") fd ["text"] (spOf (gm K) r_expression_told) := by
  have hC_Stack := k_Stack___init__ (w := w) (base := base) A
  have h_tokens_of := k_tokens_of (w := w) (base := base) A
  have h_Stack_take := k_Stack_take (w := w) (base := base) A
  have h_text_of := k_text_of (w := w) (base := base) A
  refine ok_def (k := 5) (m := m_expression_told) F S_expression_told rfl rfl fun cdv A0 outer s H E hcd hr => ?_
  have C : Cg (gm K) (cxOf (L2.CX prg w) prg w K mg base ["text", "stack", "token"] "expression_told" (defScope (top 61)) (He.ga K "expression_told") cdv A0 outer s H E) := ⟨rfl, rfl, S_expression_told.nd, by have h := hr.un; show (A0.deeper _).units + 200 < cLine; omega⟩
  have tk : Takes (cxOf (L2.CX prg w) prg w K mg base ["text", "stack", "token"] "expression_told" (defScope (top 61)) (He.ga K "expression_told") cdv A0 outer s H E) (fun c d _ H => E c d H) := takes_of rfl rfl rfl rfl
  have pw := passes_of (X := cxOf (L2.CX prg w) prg w K mg base ["text", "stack", "token"] "expression_told" (defScope (top 61)) (He.ga K "expression_told") cdv A0 outer s H E) rfl
  show PSs _ [_, _, _, _] _
  unfold m_expression_told
  exact (ess_cons (sSetN 1 C (xMake hC_Stack tk hr ea_nil)) (ess_cons (sForN C pw (iAnyN C (xCallP h_tokens_of tk hr (lCons (xv 0) ea_nil))) (gN 2 C) (ess_one (es_if (et_not (tVal (xMeth h_Stack_take tk hr (xv 1) (lCons (xv 2) ea_nil)))) (ess_one (es_ret (em_lst ea_nil))) ess_nil))) (ess_cons (es_if (tW (ew_or (tCmp (oNe C) (xLen C (lCons (xFld C A.fk (xv 1)) ea_nil) A.n_len) em_int) (ew_one (.inr rfl) (tVal (xIsi "str" C (xIdx C (xFld C A.fk (xv 1)) em_int) A.n_isinstance A.n_str))))) (ess_one (es_ret (em_lst ea_nil))) ess_nil) (ess_one (es_ret (em_ite (tCmp (oEq C) (xCallP h_text_of tk hr (lCons (xIdx C (xFld C A.fk (xv 1)) em_int) ea_nil)) (xv 0)) (em_lst (lCons (xIdx C (xFld C A.fk (xv 1)) em_int) ea_nil)) (em_lst ea_nil)))))))
theorem k_expression_told (A : All K mg) : Kn (gm K) prg w K mg base "expression_told" 6 ["text"] r_expression_told := by
  obtain ⟨fd, F⟩ := A.F_expression_told
  exact ⟨_, fd, f_expression_told A F, A.g_expression_told, F.kp, F.bindsN fun _ _ _ _ _ _ us hl => match us, hl with | [_], _ => rfl⟩
/-! ### expression_text -/
theorem S_expression_text : FnScope ["value"] ["value"] (defScope (top 65)) := ⟨by kernel_rfl, by kernel_rfl, by kernel_rfl, by decide +kernel, by kernel_rfl, by decide +kernel, by decide +kernel⟩
def m_expression_text : SM := (sSeq (sIf (fNot (fCall (pR r_is_expression_form) (fCons (fVar 0) fNil))) (sRaise 1 (fVar 0)) sNx) (sRet (fCall (pR r_text_of) (fCons (fVar 0) fNil))))
def r_expression_text : List D → Store → R D := runB 1 1 m_expression_text
theorem f_expression_text (A : All K mg) {fd : FuncData} (F : FunD K "expression_text" "expression_text" (defArgs (top 65)) (defBody (top 65)) (defScope (top 65)) [] [] (He.ga K "expression_text") fd) : FnOk prg w K mg base (L2.CX prg w) 6 (He.ga K "expression_text") fd ["value"] (spOf (gm K) r_expression_text) := by
  have h_is_expression_form := k_is_expression_form (w := w) (base := base) A
  have hX_InvalidExpression := A.X_InvalidExpression w base
  have h_text_of := k_text_of (w := w) (base := base) A
  refine ok_def (k := 5) (m := m_expression_text) F S_expression_text rfl rfl fun cdv A0 outer s H E hcd hr => ?_
  have C : Cg (gm K) (cxOf (L2.CX prg w) prg w K mg base ["value"] "expression_text" (defScope (top 65)) (He.ga K "expression_text") cdv A0 outer s H E) := ⟨rfl, rfl, S_expression_text.nd, by have h := hr.un; show (A0.deeper _).units + 200 < cLine; omega⟩
  have tk : Takes (cxOf (L2.CX prg w) prg w K mg base ["value"] "expression_text" (defScope (top 65)) (He.ga K "expression_text") cdv A0 outer s H E) (fun c d _ H => E c d H) := takes_of rfl rfl rfl rfl
  have pw := passes_of (X := cxOf (L2.CX prg w) prg w K mg base ["value"] "expression_text" (defScope (top 65)) (He.ga K "expression_text") cdv A0 outer s H E) rfl
  show PSs _ [_, _] _
  unfold m_expression_text
  exact (ess_cons (es_if (et_not (tVal (xCallP h_is_expression_form tk hr (lCons (xv 0) ea_nil)))) (ess_one (sRse hX_InvalidExpression C tk hr (xv 0))) ess_nil) (ess_one (es_ret (xCallP h_text_of tk hr (lCons (xv 0) ea_nil)))))
theorem k_expression_text (A : All K mg) : Kn (gm K) prg w K mg base "expression_text" 6 ["value"] r_expression_text := by
  obtain ⟨fd, F⟩ := A.F_expression_text
  exact ⟨_, fd, f_expression_text A F, A.g_expression_text, F.kp, F.bindsN fun _ _ _ _ _ _ us hl => match us, hl with | [_], _ => rfl⟩
theorem kk_expression_text_0 (A : All K mg) : Kk (gm K) prg w K mg base "expression_text" 6 ["value"] ["value"] 0 1 r_expression_text := by
  obtain ⟨fd, F⟩ := A.F_expression_text
  exact ⟨_, fd, f_expression_text A F, A.g_expression_text, F.kp, funD_kb F (by decide) fun _ _ _ _ _ _ us ws h1 h2 => match us, ws, h1, h2 with | [], [_], _, _ => rfl⟩
/-! ### read_expression -/
theorem S_read_expression : FnScope ["text", "found"] ["text"] (defScope (top 63)) := ⟨by kernel_rfl, by kernel_rfl, by kernel_rfl, by decide +kernel, by kernel_rfl, by decide +kernel, by decide +kernel⟩
def m_read_expression : SM := (sSeq (sFor (gSet 1) (fIter (fIte (fCall (pR r_is_text) (fCons (fVar 0) fNil)) (fCall (pR r_expression_told) (fCons (fVar 0) fNil)) (fLst fNil))) (sIf (fCall (pR r_is_expression_form) (fCons (fVar 1) fNil)) (sRet (fVar 1)) sNx)) (sRaise 4 (fC .none)))
def r_read_expression : List D → Store → R D := runB 1 2 m_read_expression
theorem f_read_expression (A : All K mg) {fd : FuncData} (F : FunD K "read_expression" "read_expression" (defArgs (top 63)) (defBody (top 63)) (defScope (top 63)) [] [] (He.ga K "read_expression") fd) : FnOk prg w K mg base (L2.CX prg w) 7 (He.ga K "read_expression") fd ["text"] (spOf (gm K) r_read_expression) := by
  have h_is_text := k_is_text (w := w) (base := base) A
  have h_expression_told := k_expression_told (w := w) (base := base) A
  have h_is_expression_form := k_is_expression_form (w := w) (base := base) A
  have hX_InvalidText := A.X_InvalidText w base
  refine ok_def (k := 6) (m := m_read_expression) F S_read_expression rfl rfl fun cdv A0 outer s H E hcd hr => ?_
  have C : Cg (gm K) (cxOf (L2.CX prg w) prg w K mg base ["text", "found"] "read_expression" (defScope (top 63)) (He.ga K "read_expression") cdv A0 outer s H E) := ⟨rfl, rfl, S_read_expression.nd, by have h := hr.un; show (A0.deeper _).units + 200 < cLine; omega⟩
  have tk : Takes (cxOf (L2.CX prg w) prg w K mg base ["text", "found"] "read_expression" (defScope (top 63)) (He.ga K "read_expression") cdv A0 outer s H E) (fun c d _ H => E c d H) := takes_of rfl rfl rfl rfl
  have pw := passes_of (X := cxOf (L2.CX prg w) prg w K mg base ["text", "found"] "read_expression" (defScope (top 63)) (He.ga K "read_expression") cdv A0 outer s H E) rfl
  show PSs _ [_, _] _
  unfold m_read_expression
  exact (ess_cons (sForN C pw (iAnyN C (em_ite (tVal (xCallP h_is_text tk hr (lCons (xv 0) ea_nil))) (xCallP h_expression_told tk hr (lCons (xv 0) ea_nil)) (em_lst ea_nil))) (gN 1 C) (ess_one (es_if (tVal (xCallP h_is_expression_form tk hr (lCons (xv 1) ea_nil))) (ess_one (es_ret (xv 1))) ess_nil))) (ess_one (sRse hX_InvalidText C tk hr em_non)))
theorem k_read_expression (A : All K mg) : Kn (gm K) prg w K mg base "read_expression" 7 ["text"] r_read_expression := by
  obtain ⟨fd, F⟩ := A.F_read_expression
  exact ⟨_, fd, f_read_expression A F, A.g_read_expression, F.kp, F.bindsN fun _ _ _ _ _ _ us hl => match us, hl with | [_], _ => rfl⟩
/-! ### _law_odd_right -/
theorem S__law_odd_right : FnScope ["pail", "n", "places", "some", "odd", "had", "wrong"] ["pail"] (defScope (top 81)) := ⟨by kernel_rfl, by kernel_rfl, by kernel_rfl, by decide +kernel, by kernel_rfl, by decide +kernel, by decide +kernel⟩
def m__law_odd_right : SM := (sSeq (sAsg (fCall r__law_decimal (fCons (fVar 0) fNil)) (gTupD 2 (gCons' (gSet 1) (gCons' (gSet 2) gNil')))) (sSeq (sSet 3 (fLst (fCons (fTup (fCons (fC (.int 1000000)) (fCons (fC (.int 0)) fNil))) (fCons (fTup (fCons (fNeg (fC (.int 1000000))) (fCons (fVar 2) fNil))) (fCons (fTup (fCons (fVar 1) (fCons (fC (.int 5)) fNil))) (fCons (fTup (fCons (fVar 1) (fCons (fNeg (fC (.int 1))) fNil))) (fCons (fTup (fCons (fC (.bool true)) (fCons (fC (.int 0)) fNil))) (fCons (fTup (fCons (fVar 1) (fCons (fC (.bool true)) fNil))) fNil)))))))) (sSeq (sSet 3 (fBin .add (fVar 3) (fLst (fCons (fLst (fCons (fVar 1) (fCons (fVar 2) fNil))) (fCons (fTup (fCons (fVar 1) fNil)) (fCons (fTup (fCons (fVar 1) (fCons (fC (.int 0)) (fCons (fC (.int 0)) fNil)))) (fCons (fC .none) (fCons (fC (.int 5)) (fCons (fC (.str "5")) fNil))))))))) (sSeq (sFor (gSet 4) (fIter (fBin .add (fVar 3) (fLst (fCons (fCall (fnV strV) (fCons (fVar 1) fNil)) fNil)))) (sSeq (sSet 5 (fNew (fCons (fCallK0 1 r_is_decimal (fCons (fVar 4) fNil)) (fCons (fEnd et (fCall (pR r_decimal_text) (fCons (fVar 4) fNil))) (fCons (fC (.int 0)) fNil))))) (sSeq (sAsg (fEnd et (fCall (pR r_fraction_of) (fCons (fVar 4) fNil))) (gSubD (fVar 5) (fC (.int 2)))) (sSeq (sIf (fNot (fCall (pR r__law_same) (fCons (fVar 5) (fCons (fLst (fCons (fC (.bool false)) (fCons (fLst (fCons (fC (.str "decimal")) (fCons (fVar 4) fNil))) (fCons (fLst (fCons (fC (.str "decimal")) (fCons (fVar 4) fNil))) fNil)))) fNil)))) (sRet (fC (.bool false))) sNx) (sSeq (sSet 5 (fEnd et (fCall (pR r_expression_text) (fCons (fTup (fCons (fC (.str "number")) (fCons (fVar 4) (fCons (fVar 2) fNil)))) fNil)))) (sIf (fAnd (fNot (fIsi "int" (fVar 4))) (fCmp .ne (fIdx (fVar 5) (fC (.int 0))) (fC (.str "expression")))) (sRet (fC (.bool false))) sNx)))))) (sSeq (sFor (gSet 4) (fIter (fTup (fCons (fTup (fCons (fC (.int 2)) (fCons (fC (.int 4)) fNil))) (fCons (fTup (fCons (fC (.int 1)) (fCons (fC (.int 0)) fNil))) (fCons (fTup (fCons (fC (.int 1)) (fCons (fNeg (fC (.int 2))) fNil))) (fCons (fTup (fCons (fC (.int 0)) (fCons (fC (.int 2)) fNil))) (fCons (fTup (fCons (fC (.bool true)) (fCons (fC (.int 1)) fNil))) (fCons (fLst (fCons (fC (.int 1)) (fCons (fC (.int 2)) fNil))) (fCons (fTup (fCons (fC (.int 1)) fNil)) (fCons (fC .none) (fCons (fTup (fCons (fC (.int 1)) (fCons (fC (.int 2)) (fCons (fC (.int 3)) fNil)))) (fCons (fC (.str "1")) fNil)))))))))))) (sSeq (sSet 6 (fCall r__law_any (fCons (fVar 0) (fCons (fLst (fCons (fC (.int 10)) (fCons (fNeg (fC (.int 1))) (fCons (fC .none) (fCons (fC (.bool true)) fNil))))) fNil)))) (sSeq (sSet 5 (fNew (fCons (fEnd et (fCall (pR r_rounded) (fCons (fVar 4) (fCons (fVar 6) fNil)))) (fCons (fC (.int 0)) (fCons (fC (.int 0)) fNil))))) (sSeq (sAsg (fEnd et (fCallK 1 1 r_rounded (fCons (fTup (fCons (fC (.int 1)) (fCons (fC (.int 3)) fNil))) fNil) (fCons (fVar 6) fNil))) (gSubD (fVar 5) (fC (.int 1)))) (sSeq (sAsg (fEnd et (fCallK0 2 r_rounded (fCons (fVar 4) (fCons (fC (.int 2)) fNil)))) (gSubD (fVar 5) (fC (.int 2)))) (sSeq (sIf (fNot (fCall (pR r__law_same) (fCons (fVar 5) (fCons (fLst (fCons (fLst (fCons (fC (.str "fraction")) (fCons (fVar 4) fNil))) (fCons (fLst (fCons (fC (.str "number")) (fCons (fVar 6) fNil))) (fCons (fLst (fCons (fC (.str "fraction")) (fCons (fVar 4) fNil))) fNil)))) fNil)))) (sRet (fC (.bool false))) sNx) (sSeq (sSet 5 (fNew (fCons (fEnd et (fCallK 1 1 r_answer_text (fCons (fC .none) fNil) (fCons (fVar 6) fNil))) (fCons (fC (.int 0)) fNil)))) (sSeq (sAsg (fEnd et (fCall (pR r_answer_text) (fCons (fVar 1) (fCons (fVar 6) fNil)))) (gSubD (fVar 5) (fC (.int 1)))) (sIf (fNot (fCall (pR r__law_same) (fCons (fVar 5) (fCons (fLst (fCons (fLst (fCons (fC (.str "number")) (fCons (fC .none) fNil))) (fCons (fLst (fCons (fC (.str "number")) (fCons (fVar 6) fNil))) fNil))) fNil)))) (sRet (fC (.bool false))) sNx))))))))) (sRet (fC (.bool true))))))))
def r__law_odd_right : List D → Store → R D := runB 1 7 m__law_odd_right
theorem f__law_odd_right (A : All K mg) (tb : Tbs K mg base) {fd : FuncData} (F : FunD K "_law_odd_right" "_law_odd_right" (defArgs (top 81)) (defBody (top 81)) (defScope (top 81)) [] [] (He.ga K "_law_odd_right") fd) : FnG prg w K mg base (L2.CX prg w) 9 (He.ga K "_law_odd_right") fd ["pail"] (spOf (gm K) r__law_odd_right) := by
  have h__law_decimal := k__law_decimal (w := w) (base := base) A
  have h_decimal_text := k_decimal_text (w := w) (base := base) A
  have hk_is_decimal_0 := kk_is_decimal_0 (w := w) (base := base) A
  have h_fraction_of := k_fraction_of (w := w) (base := base) A
  have h__law_same := k__law_same (w := w) (base := base) A tb
  have h_expression_text := k_expression_text (w := w) (base := base) A
  have h__law_any := k__law_any (w := w) (base := base) A
  have h_rounded := k_rounded (w := w) (base := base) A
  have hk_rounded_1 := kk_rounded_1 (w := w) (base := base) A
  have hk_rounded_0 := kk_rounded_0 (w := w) (base := base) A
  have hk_answer_text_1 := kk_answer_text_1 (w := w) (base := base) A
  have h_answer_text := k_answer_text (w := w) (base := base) A
  refine ok_defG (k := 8) (m := m__law_odd_right) F S__law_odd_right rfl rfl fun cdv A0 outer s H E hcd hG hr => ?_
  have C : Cg (gm K) (cxOf (L2.CX prg w) prg w K mg base ["pail", "n", "places", "some", "odd", "had", "wrong"] "_law_odd_right" (defScope (top 81)) (He.ga K "_law_odd_right") cdv A0 outer s H E) := ⟨rfl, rfl, S__law_odd_right.nd, by have h := hr.un; show (A0.deeper _).units + 200 < cLine; omega⟩
  have tk : Takes (cxOf (L2.CX prg w) prg w K mg base ["pail", "n", "places", "some", "odd", "had", "wrong"] "_law_odd_right" (defScope (top 81)) (He.ga K "_law_odd_right") cdv A0 outer s H E) (fun c d _ H => E c d H) := takes_of rfl rfl rfl rfl
  have pw := passes_of (X := cxOf (L2.CX prg w) prg w K mg base ["pail", "n", "places", "some", "odd", "had", "wrong"] "_law_odd_right" (defScope (top 81)) (He.ga K "_law_odd_right") cdv A0 outer s H E) rfl
  have ec := code_ref F hcd
  have hEnd : ∀ {params : Arguments} {b : Expr} {sc : Scope} {lp p pos : Pos} {fe : Mp.Env → Store → R D}, (∀ (A1 : Around) (outer1 : List PySem.Env) (s1 : Shared) (H1 : Hp) (E1 : XK) (f1 c1 : Addr), Room 6 (A1.deeper (LamX.lamEnv (cxOf (L2.CX prg w) prg w K mg base ["pail", "n", "places", "some", "odd", "had", "wrong"] "_law_odd_right" (defScope (top 81)) (He.ga K "_law_odd_right") cdv A0 outer s H E) sc s1.heap.objs.size f1 c1)) → PE (LamX.lamCx (cxOf (L2.CX prg w) prg w K mg base ["pail", "n", "places", "some", "odd", "had", "wrong"] "_law_odd_right" (defScope (top 81)) (He.ga K "_law_odd_right") cdv A0 outer s H E) A1 outer1 s1 H1 E1 sc f1 c1) b (tS (gm K) E1 fe)) → (L : LamX.lamSB (defScope (top 81)) sc = true := by kernel_rfl) → (hdef : defaultsOf params (cxOf (L2.CX prg w) prg w K mg base ["pail", "n", "places", "some", "odd", "had", "wrong"] "_law_odd_right" (defScope (top 81)) (He.ga K "_law_odd_right") cdv A0 outer s H E).env = ([], []) := by rfl) → (hbind : ∀ (q : Str) (cl : List (Str × Addr)) (pm cv ctv : Value), bindArgs (PySem.W.kla_fn "<lambda>" q params b sc cl pm cv ctv) ⟨[], []⟩ = pure [] := by intros; rfl) → PE (cxOf (L2.CX prg w) prg w K mg base ["pail", "n", "places", "some", "odd", "had", "wrong"] "_law_odd_right" (defScope (top 81)) (He.ga K "_law_odd_right") cdv A0 outer s H E) (.Call (.Name "_law_ended" p) [.Lambda params b sc lp] [] pos) (tS (gm K) E (fEnd et fe)) :=
    fun hb L hdef hbind => xEndX rfl rfl A C rfl ec (tb (cA K "_law_odd_right", tA K "_law_odd_right") (.tail _ (.head _))) (.tail _ (.head _)) hr (by kernel_rfl) hb L hdef hbind
  show PSs _ [_, _, _, _, _, _] _
  unfold m__law_odd_right
  exact (ess_cons (sAsgG (xCall h__law_decimal tk hr (lCons (xv 0) ea_nil)) (gT C (gC (gN 1 C) (gC (gN 2 C) egs_nil)))) (ess_cons (sSetN 3 C (em_lst (lCons (em_tup (lCons em_int (lCons em_int ea_nil))) (lCons (em_tup (lCons (xNeg em_int) (lCons (xv 2) ea_nil))) (lCons (em_tup (lCons (xv 1) (lCons em_int ea_nil))) (lCons (em_tup (lCons (xv 1) (lCons (xNeg em_int) ea_nil))) (lCons (em_tup (lCons em_bl (lCons em_int ea_nil))) (lCons (em_tup (lCons (xv 1) (lCons em_bl ea_nil))) ea_nil)))))))) (ess_cons (sSetN 3 C (xAdd C (xv 3) (em_lst (lCons (em_lst (lCons (xv 1) (lCons (xv 2) ea_nil))) (lCons (em_tup (lCons (xv 1) ea_nil)) (lCons (em_tup (lCons (xv 1) (lCons em_int (lCons em_int ea_nil)))) (lCons em_non (lCons em_int (lCons xs ea_nil))))))))) (ess_cons (sForN C pw (iAnyN C (xAdd C (xv 3) (em_lst (lCons (xStr C (lCons (xv 1) ea_nil) A.n_str) ea_nil)))) (gN 4 C) (ess_cons (sSetN 5 C (em_new (lCons (xCallK0 hk_is_decimal_0 tk hr (ek_cons (xv 4) ek_nil)) (lCons (hEnd (fun A1 outer1 s1 H1 E1 f1 c1 hr1 => by have C1 := lamC (outer := outer1) (H := H1) (E := E1) C hr1; exact (xCallP h_decimal_text lamTk hr1 (lCons (xv 4) ea_nil)))) (lCons em_int ea_nil))))) (ess_cons (sAsgG (hEnd (fun A1 outer1 s1 H1 E1 f1 c1 hr1 => by have C1 := lamC (outer := outer1) (H := H1) (E := E1) C hr1; exact (xCallP h_fraction_of lamTk hr1 (lCons (xv 4) ea_nil)))) (eg_sub (xv 5) em_int)) (ess_cons (es_if (et_not (tVal (xCallGP h__law_same hG tk hr (lCons (xv 5) (lCons (em_lst (lCons em_bl (lCons (em_lst (lCons xs (lCons (xv 4) ea_nil))) (lCons (em_lst (lCons xs (lCons (xv 4) ea_nil))) ea_nil)))) ea_nil))))) (ess_one (es_ret em_bl)) ess_nil) (ess_cons (sSetN 5 C (hEnd (fun A1 outer1 s1 H1 E1 f1 c1 hr1 => by have C1 := lamC (outer := outer1) (H := H1) (E := E1) C hr1; exact (xCallP h_expression_text lamTk hr1 (lCons (em_tup (lCons xs (lCons (xv 4) (lCons (xv 2) ea_nil)))) ea_nil))))) (ess_one (es_if (tW (ew_and (et_not (tVal (xIsi "int" C (xv 4) A.n_isinstance A.n_int))) (ew_one (.inl rfl) (tCmp (oNe C) (xIdx C (xv 5) em_int) xs)))) (ess_one (es_ret em_bl)) ess_nil))))))) (ess_cons (sForN C pw (iAnyN C (em_tup (lCons (em_tup (lCons em_int (lCons em_int ea_nil))) (lCons (em_tup (lCons em_int (lCons em_int ea_nil))) (lCons (em_tup (lCons em_int (lCons (xNeg em_int) ea_nil))) (lCons (em_tup (lCons em_int (lCons em_int ea_nil))) (lCons (em_tup (lCons em_bl (lCons em_int ea_nil))) (lCons (em_lst (lCons em_int (lCons em_int ea_nil))) (lCons (em_tup (lCons em_int ea_nil)) (lCons em_non (lCons (em_tup (lCons em_int (lCons em_int (lCons em_int ea_nil)))) (lCons xs ea_nil)))))))))))) (gN 4 C) (ess_cons (sSetN 6 C (xCall h__law_any tk hr (lCons (xv 0) (lCons (em_lst (lCons em_int (lCons (xNeg em_int) (lCons em_non (lCons em_bl ea_nil))))) ea_nil)))) (ess_cons (sSetN 5 C (em_new (lCons (hEnd (fun A1 outer1 s1 H1 E1 f1 c1 hr1 => by have C1 := lamC (outer := outer1) (H := H1) (E := E1) C hr1; exact (xCallP h_rounded lamTk hr1 (lCons (xv 4) (lCons (xv 6) ea_nil))))) (lCons em_int (lCons em_int ea_nil))))) (ess_cons (sAsgG (hEnd (fun A1 outer1 s1 H1 E1 f1 c1 hr1 => by have C1 := lamC (outer := outer1) (H := H1) (E := E1) C hr1; exact (xCallK hk_rounded_1 lamTk hr1 (lCons (em_tup (lCons em_int (lCons em_int ea_nil))) ea_nil) (ek_cons (xv 6) ek_nil)))) (eg_sub (xv 5) em_int)) (ess_cons (sAsgG (hEnd (fun A1 outer1 s1 H1 E1 f1 c1 hr1 => by have C1 := lamC (outer := outer1) (H := H1) (E := E1) C hr1; exact (xCallK0 hk_rounded_0 lamTk hr1 (ek_cons (xv 4) (ek_cons em_int ek_nil))))) (eg_sub (xv 5) em_int)) (ess_cons (es_if (et_not (tVal (xCallGP h__law_same hG tk hr (lCons (xv 5) (lCons (em_lst (lCons (em_lst (lCons xs (lCons (xv 4) ea_nil))) (lCons (em_lst (lCons xs (lCons (xv 6) ea_nil))) (lCons (em_lst (lCons xs (lCons (xv 4) ea_nil))) ea_nil)))) ea_nil))))) (ess_one (es_ret em_bl)) ess_nil) (ess_cons (sSetN 5 C (em_new (lCons (hEnd (fun A1 outer1 s1 H1 E1 f1 c1 hr1 => by have C1 := lamC (outer := outer1) (H := H1) (E := E1) C hr1; exact (xCallK hk_answer_text_1 lamTk hr1 (lCons em_non ea_nil) (ek_cons (xv 6) ek_nil)))) (lCons em_int ea_nil)))) (ess_cons (sAsgG (hEnd (fun A1 outer1 s1 H1 E1 f1 c1 hr1 => by have C1 := lamC (outer := outer1) (H := H1) (E := E1) C hr1; exact (xCallP h_answer_text lamTk hr1 (lCons (xv 1) (lCons (xv 6) ea_nil))))) (eg_sub (xv 5) em_int)) (ess_one (es_if (et_not (tVal (xCallGP h__law_same hG tk hr (lCons (xv 5) (lCons (em_lst (lCons (em_lst (lCons xs (lCons em_non ea_nil))) (lCons (em_lst (lCons xs (lCons (xv 6) ea_nil))) ea_nil))) ea_nil))))) (ess_one (es_ret em_bl)) ess_nil)))))))))) (ess_one (es_ret em_bl)))))))
theorem k__law_odd_right (A : All K mg) (tb : Tbs K mg base) : KnG (gm K) prg w K mg base "_law_odd_right" 9 ["pail"] r__law_odd_right := by
  obtain ⟨fd, F⟩ := A.F__law_odd_right
  exact ⟨_, fd, f__law_odd_right A tb F, A.g__law_odd_right, F.kp, F.bindsN fun _ _ _ _ _ _ us hl => match us, hl with | [_], _ => rfl⟩
/-! ### _law_decimal_right -/
theorem S__law_decimal_right : FnScope ["pail", "n", "places", "text", "one", "had", "many", "due", "back"] ["pail"] (defScope (top 80)) := ⟨by kernel_rfl, by kernel_rfl, by kernel_rfl, by decide +kernel, by kernel_rfl, by decide +kernel, by decide +kernel⟩
def m__law_decimal_right : SM := (sSeq (sAsg (fCall r__law_decimal (fCons (fVar 0) fNil)) (gTupD 2 (gCons' (gSet 1) (gCons' (gSet 2) gNil')))) (sSeq (sPar 3 4 (fCons (fCall (pR r__law_figures) (fCons (fVar 1) (fCons (fVar 2) fNil))) (fCons (fTup (fCons (fC (.str "number")) (fCons (fVar 1) (fCons (fVar 2) fNil)))) fNil))) (sSeq (sSet 5 (fLst (fCons (fCall (pR r_is_decimal) (fCons (fTup (fCons (fVar 1) (fCons (fVar 2) fNil))) fNil)) (fCons (fCall (pR r_decimal_text) (fCons (fTup (fCons (fVar 1) (fCons (fVar 2) fNil))) fNil)) fNil)))) (sSeq (sSet 5 (fBin .add (fVar 5) (fLst (fCons (fCallK0 1 r_fraction_of (fCons (fTup (fCons (fVar 1) (fCons (fVar 2) fNil))) fNil)) (fCons (fCall (pR r_read_expression) (fCons (fVar 3) fNil)) fNil))))) (sSeq (sIf (fNot (fCall (pR r__law_same) (fCons (fVar 5) (fCons (fLst (fCons (fC (.bool true)) (fCons (fVar 3) (fCons (fCall (pR r__law_number) (fCons (fVar 1) (fCons (fVar 2) fNil))) (fCons (fVar 4) fNil))))) fNil)))) (sRet (fC (.bool false))) sNx) (sSeq (sSet 5 (fLst (fCons (fCallK0 1 r_expression_text (fCons (fVar 4) fNil)) (fCons (fCallK0 2 r_answer_text (fCons (fVar 1) (fCons (fVar 2) fNil))) fNil)))) (sSeq (sSet 5 (fBin .add (fVar 5) (fLst (fCons (fCall (pR r_rounded) (fCons (fCall (pR r_fraction_of) (fCons (fTup (fCons (fVar 1) (fCons (fVar 2) fNil))) fNil)) (fCons (fVar 2) fNil))) fNil)))) (sSeq (sIf (fNot (fCall (pR r__law_same) (fCons (fVar 5) (fCons (fLst (fCons (fVar 3) (fCons (fVar 3) (fCons (fVar 1) fNil)))) fNil)))) (sRet (fC (.bool false))) sNx) (sSeq (sSet 6 (fCall r__law_deal (fCons (fVar 0) (fCons (fC (.int 10)) fNil)))) (sSeq (sSet 7 (fCall (pR r__law_rounded) (fCons (fCall (pR r__law_number) (fCons (fVar 1) (fCons (fVar 2) fNil))) (fCons (fVar 6) fNil)))) (sSeq (sIf (fNot (fCall (pR r__law_same) (fCons (fLst (fCons (fCall (pR r_rounded) (fCons (fCall (pR r__law_number) (fCons (fVar 1) (fCons (fVar 2) fNil))) (fCons (fVar 6) fNil))) (fCons (fCall (pR r_answer_text) (fCons (fVar 7) (fCons (fVar 6) fNil))) fNil))) (fCons (fLst (fCons (fVar 7) (fCons (fCall (pR r__law_figures) (fCons (fVar 7) (fCons (fVar 6) fNil))) fNil))) fNil)))) (sRet (fC (.bool false))) sNx) (sSeq (sSet 8 (fEnd et (fCall (pR r_read_expression) (fCons (fCall (pR r__law_figures) (fCons (fVar 7) (fCons (fVar 6) fNil))) fNil)))) (sRet (fCmp .eq (fVar 8) (fIte (fCall (pR r__law_is_decimal) (fCons (fTup (fCons (fVar 7) (fCons (fVar 6) fNil))) fNil)) (fLst (fCons (fC (.str "told")) (fCons (fTup (fCons (fC (.str "number")) (fCons (fVar 7) (fCons (fVar 6) fNil)))) fNil))) (fLst (fCons (fC (.str "text")) (fCons (fC .none) fNil))))))))))))))))))
def r__law_decimal_right : List D → Store → R D := runB 1 9 m__law_decimal_right
theorem f__law_decimal_right (A : All K mg) (tb : Tbs K mg base) {fd : FuncData} (F : FunD K "_law_decimal_right" "_law_decimal_right" (defArgs (top 80)) (defBody (top 80)) (defScope (top 80)) [] [] (He.ga K "_law_decimal_right") fd) : FnG prg w K mg base (L2.CX prg w) 10 (He.ga K "_law_decimal_right") fd ["pail"] (spOf (gm K) r__law_decimal_right) := by
  have h__law_decimal := k__law_decimal (w := w) (base := base) A
  have h__law_figures := k__law_figures (w := w) (base := base) A
  have h_decimal_text := k_decimal_text (w := w) (base := base) A
  have h_is_decimal := k_is_decimal (w := w) (base := base) A
  have h_read_expression := k_read_expression (w := w) (base := base) A
  have hk_fraction_of_0 := kk_fraction_of_0 (w := w) (base := base) A
  have h__law_number := k__law_number (w := w) (base := base) A
  have h__law_same := k__law_same (w := w) (base := base) A tb
  have hk_answer_text_0 := kk_answer_text_0 (w := w) (base := base) A
  have hk_expression_text_0 := kk_expression_text_0 (w := w) (base := base) A
  have h_fraction_of := k_fraction_of (w := w) (base := base) A
  have h_rounded := k_rounded (w := w) (base := base) A
  have h__law_deal := k__law_deal (w := w) (base := base) A
  have h__law_rounded := k__law_rounded (w := w) (base := base) A
  have h_answer_text := k_answer_text (w := w) (base := base) A
  have h__law_is_decimal := k__law_is_decimal (w := w) (base := base) A
  refine ok_defG (k := 9) (m := m__law_decimal_right) F S__law_decimal_right rfl rfl fun cdv A0 outer s H E hcd hG hr => ?_
  have C : Cg (gm K) (cxOf (L2.CX prg w) prg w K mg base ["pail", "n", "places", "text", "one", "had", "many", "due", "back"] "_law_decimal_right" (defScope (top 80)) (He.ga K "_law_decimal_right") cdv A0 outer s H E) := ⟨rfl, rfl, S__law_decimal_right.nd, by have h := hr.un; show (A0.deeper _).units + 200 < cLine; omega⟩
  have tk : Takes (cxOf (L2.CX prg w) prg w K mg base ["pail", "n", "places", "text", "one", "had", "many", "due", "back"] "_law_decimal_right" (defScope (top 80)) (He.ga K "_law_decimal_right") cdv A0 outer s H E) (fun c d _ H => E c d H) := takes_of rfl rfl rfl rfl
  have pw := passes_of (X := cxOf (L2.CX prg w) prg w K mg base ["pail", "n", "places", "text", "one", "had", "many", "due", "back"] "_law_decimal_right" (defScope (top 80)) (He.ga K "_law_decimal_right") cdv A0 outer s H E) rfl
  have ec := code_ref F hcd
  have hEnd : ∀ {params : Arguments} {b : Expr} {sc : Scope} {lp p pos : Pos} {fe : Mp.Env → Store → R D}, (∀ (A1 : Around) (outer1 : List PySem.Env) (s1 : Shared) (H1 : Hp) (E1 : XK) (f1 c1 : Addr), Room 7 (A1.deeper (LamX.lamEnv (cxOf (L2.CX prg w) prg w K mg base ["pail", "n", "places", "text", "one", "had", "many", "due", "back"] "_law_decimal_right" (defScope (top 80)) (He.ga K "_law_decimal_right") cdv A0 outer s H E) sc s1.heap.objs.size f1 c1)) → PE (LamX.lamCx (cxOf (L2.CX prg w) prg w K mg base ["pail", "n", "places", "text", "one", "had", "many", "due", "back"] "_law_decimal_right" (defScope (top 80)) (He.ga K "_law_decimal_right") cdv A0 outer s H E) A1 outer1 s1 H1 E1 sc f1 c1) b (tS (gm K) E1 fe)) → (L : LamX.lamSB (defScope (top 80)) sc = true := by kernel_rfl) → (hdef : defaultsOf params (cxOf (L2.CX prg w) prg w K mg base ["pail", "n", "places", "text", "one", "had", "many", "due", "back"] "_law_decimal_right" (defScope (top 80)) (He.ga K "_law_decimal_right") cdv A0 outer s H E).env = ([], []) := by rfl) → (hbind : ∀ (q : Str) (cl : List (Str × Addr)) (pm cv ctv : Value), bindArgs (PySem.W.kla_fn "<lambda>" q params b sc cl pm cv ctv) ⟨[], []⟩ = pure [] := by intros; rfl) → PE (cxOf (L2.CX prg w) prg w K mg base ["pail", "n", "places", "text", "one", "had", "many", "due", "back"] "_law_decimal_right" (defScope (top 80)) (He.ga K "_law_decimal_right") cdv A0 outer s H E) (.Call (.Name "_law_ended" p) [.Lambda params b sc lp] [] pos) (tS (gm K) E (fEnd et fe)) :=
    fun hb L hdef hbind => xEndX rfl rfl A C rfl ec (tb (cA K "_law_decimal_right", tA K "_law_decimal_right") (.head _)) (.head _) hr (by kernel_rfl) hb L hdef hbind
  show PSs _ [_, _, _, _, _, _, _, _, _, _, _, _, _] _
  unfold m__law_decimal_right
  exact (ess_cons (sAsgG (xCall h__law_decimal tk hr (lCons (xv 0) ea_nil)) (gT C (gC (gN 1 C) (gC (gN 2 C) egs_nil)))) (ess_cons (sParN 3 4 C (lCons (xCallP h__law_figures tk hr (lCons (xv 1) (lCons (xv 2) ea_nil))) (lCons (em_tup (lCons xs (lCons (xv 1) (lCons (xv 2) ea_nil)))) ea_nil))) (ess_cons (sSetN 5 C (em_lst (lCons (xCallP h_is_decimal tk hr (lCons (em_tup (lCons (xv 1) (lCons (xv 2) ea_nil))) ea_nil)) (lCons (xCallP h_decimal_text tk hr (lCons (em_tup (lCons (xv 1) (lCons (xv 2) ea_nil))) ea_nil)) ea_nil)))) (ess_cons (sSetN 5 C (xAdd C (xv 5) (em_lst (lCons (xCallK0 hk_fraction_of_0 tk hr (ek_cons (em_tup (lCons (xv 1) (lCons (xv 2) ea_nil))) ek_nil)) (lCons (xCallP h_read_expression tk hr (lCons (xv 3) ea_nil)) ea_nil))))) (ess_cons (es_if (et_not (tVal (xCallGP h__law_same hG tk hr (lCons (xv 5) (lCons (em_lst (lCons em_bl (lCons (xv 3) (lCons (xCallP h__law_number tk hr (lCons (xv 1) (lCons (xv 2) ea_nil))) (lCons (xv 4) ea_nil))))) ea_nil))))) (ess_one (es_ret em_bl)) ess_nil) (ess_cons (sSetN 5 C (em_lst (lCons (xCallK0 hk_expression_text_0 tk hr (ek_cons (xv 4) ek_nil)) (lCons (xCallK0 hk_answer_text_0 tk hr (ek_cons (xv 1) (ek_cons (xv 2) ek_nil))) ea_nil)))) (ess_cons (sSetN 5 C (xAdd C (xv 5) (em_lst (lCons (xCallP h_rounded tk hr (lCons (xCallP h_fraction_of tk hr (lCons (em_tup (lCons (xv 1) (lCons (xv 2) ea_nil))) ea_nil)) (lCons (xv 2) ea_nil))) ea_nil)))) (ess_cons (es_if (et_not (tVal (xCallGP h__law_same hG tk hr (lCons (xv 5) (lCons (em_lst (lCons (xv 3) (lCons (xv 3) (lCons (xv 1) ea_nil)))) ea_nil))))) (ess_one (es_ret em_bl)) ess_nil) (ess_cons (sSetN 6 C (xCall h__law_deal tk hr (lCons (xv 0) (lCons em_int ea_nil)))) (ess_cons (sSetN 7 C (xCallP h__law_rounded tk hr (lCons (xCallP h__law_number tk hr (lCons (xv 1) (lCons (xv 2) ea_nil))) (lCons (xv 6) ea_nil)))) (ess_cons (es_if (et_not (tVal (xCallGP h__law_same hG tk hr (lCons (em_lst (lCons (xCallP h_rounded tk hr (lCons (xCallP h__law_number tk hr (lCons (xv 1) (lCons (xv 2) ea_nil))) (lCons (xv 6) ea_nil))) (lCons (xCallP h_answer_text tk hr (lCons (xv 7) (lCons (xv 6) ea_nil))) ea_nil))) (lCons (em_lst (lCons (xv 7) (lCons (xCallP h__law_figures tk hr (lCons (xv 7) (lCons (xv 6) ea_nil))) ea_nil))) ea_nil))))) (ess_one (es_ret em_bl)) ess_nil) (ess_cons (sSetN 8 C (hEnd (fun A1 outer1 s1 H1 E1 f1 c1 hr1 => by have C1 := lamC (outer := outer1) (H := H1) (E := E1) C hr1; exact (xCallP h_read_expression lamTk hr1 (lCons (xCallP h__law_figures lamTk hr1 (lCons (xv 7) (lCons (xv 6) ea_nil))) ea_nil))))) (ess_one (es_ret (xCmp (oEq C) (xv 8) (em_ite (tVal (xCallP h__law_is_decimal tk hr (lCons (em_tup (lCons (xv 7) (lCons (xv 6) ea_nil))) ea_nil))) (em_lst (lCons xs (lCons (em_tup (lCons xs (lCons (xv 7) (lCons (xv 6) ea_nil)))) ea_nil))) (em_lst (lCons xs (lCons em_non ea_nil)))))))))))))))))))
theorem k__law_decimal_right (A : All K mg) (tb : Tbs K mg base) : KnG (gm K) prg w K mg base "_law_decimal_right" 10 ["pail"] r__law_decimal_right := by
  obtain ⟨fd, F⟩ := A.F__law_decimal_right
  exact ⟨_, fd, f__law_decimal_right A tb F, A.g__law_decimal_right, F.kp, F.bindsN fun _ _ _ _ _ _ us hl => match us, hl with | [_], _ => rfl⟩
/-! ### _law_right -/
theorem S__law_right : FnScope ["pail", "turn"] ["pail"] (defScope (top 82)) := ⟨by kernel_rfl, by kernel_rfl, by kernel_rfl, by decide +kernel, by kernel_rfl, by decide +kernel, by decide +kernel⟩
def m__law_right : SM := (sSeq (sFor (gSet 1) (fRng1 (fC (.int 20))) (sIf (fNot (fCall r__law_decimal_right (fCons (fVar 0) fNil))) (sRet (fC (.bool false))) sNx)) (sRet (fCall r__law_odd_right (fCons (fVar 0) fNil))))
def r__law_right : List D → Store → R D := runB 1 2 m__law_right
theorem f__law_right (A : All K mg) (tb : Tbs K mg base) {fd : FuncData} (F : FunD K "_law_right" "_law_right" (defArgs (top 82)) (defBody (top 82)) (defScope (top 82)) [] [] (He.ga K "_law_right") fd) : FnG prg w K mg base (L2.CX prg w) 11 (He.ga K "_law_right") fd ["pail"] (spOf (gm K) r__law_right) := by
  have h__law_decimal_right := k__law_decimal_right (w := w) (base := base) A tb
  have h__law_odd_right := k__law_odd_right (w := w) (base := base) A tb
  refine ok_defG (k := 10) (m := m__law_right) F S__law_right rfl rfl fun cdv A0 outer s H E hcd hG hr => ?_
  have C : Cg (gm K) (cxOf (L2.CX prg w) prg w K mg base ["pail", "turn"] "_law_right" (defScope (top 82)) (He.ga K "_law_right") cdv A0 outer s H E) := ⟨rfl, rfl, S__law_right.nd, by have h := hr.un; show (A0.deeper _).units + 200 < cLine; omega⟩
  have tk : Takes (cxOf (L2.CX prg w) prg w K mg base ["pail", "turn"] "_law_right" (defScope (top 82)) (He.ga K "_law_right") cdv A0 outer s H E) (fun c d _ H => E c d H) := takes_of rfl rfl rfl rfl
  have pw := passes_of (X := cxOf (L2.CX prg w) prg w K mg base ["pail", "turn"] "_law_right" (defScope (top 82)) (He.ga K "_law_right") cdv A0 outer s H E) rfl
  show PSs _ [_, _] _
  unfold m__law_right
  exact (ess_cons (sForN C pw (iRng em_int A.n_range) (gN 1 C) (ess_one (es_if (et_not (tVal (xCallG h__law_decimal_right hG tk hr (lCons (xv 0) ea_nil)))) (ess_one (es_ret em_bl)) ess_nil))) (ess_one (es_ret (xCallG h__law_odd_right hG tk hr (lCons (xv 0) ea_nil)))))
theorem k__law_right (A : All K mg) (tb : Tbs K mg base) : KnG (gm K) prg w K mg base "_law_right" 11 ["pail"] r__law_right := by
  obtain ⟨fd, F⟩ := A.F__law_right
  exact ⟨_, fd, f__law_right A tb F, A.g__law_right, F.kp, F.bindsN fun _ _ _ _ _ _ us hl => match us, hl with | [_], _ => rfl⟩
/-! ### law -/
theorem S_law : FnScope ["script", "turn"] ["script"] (defScope (top 83)) := ⟨by kernel_rfl, by kernel_rfl, by kernel_rfl, by decide +kernel, by kernel_rfl, by decide +kernel, by decide +kernel⟩
def m_law : SM := (sRet (fCall (fnV allV) (fCons (fLc [1] (fRng1 (fCall (fnV maxV) (fCons (fC (.int 1)) (fCons (fCall (fnV minV) (fCons (fCall (fnV lenV) (fCons (fVar 0) fNil)) (fCons (fC (.int 3)) fNil))) fNil)))) (gSet 1) tT1 (fCall r__law_right (fCons (fCall r__law_pail (fCons (fVar 0) (fCons (fVar 1) fNil))) fNil))) fNil)))
def r_law : List D → Store → R D := runB 1 2 m_law
theorem f_law (A : All K mg) (tb : Tbs K mg base) {fd : FuncData} (F : FunD K "law" "law" (defArgs (top 83)) (defBody (top 83)) (defScope (top 83)) [] [] (He.ga K "law") fd) : FnG prg w K mg base (L2.CX prg w) 12 (He.ga K "law") fd ["script"] (spOf (gm K) r_law) := by
  have h__law_pail := k__law_pail (w := w) (base := base) A
  have h__law_right := k__law_right (w := w) (base := base) A tb
  refine ok_defG (k := 11) (m := m_law) F S_law rfl rfl fun cdv A0 outer s H E hcd hG hr => ?_
  have C : Cg (gm K) (cxOf (L2.CX prg w) prg w K mg base ["script", "turn"] "law" (defScope (top 83)) (He.ga K "law") cdv A0 outer s H E) := ⟨rfl, rfl, S_law.nd, by have h := hr.un; show (A0.deeper _).units + 200 < cLine; omega⟩
  have tk : Takes (cxOf (L2.CX prg w) prg w K mg base ["script", "turn"] "law" (defScope (top 83)) (He.ga K "law") cdv A0 outer s H E) (fun c d _ H => E c d H) := takes_of rfl rfl rfl rfl
  have pw := passes_of (X := cxOf (L2.CX prg w) prg w K mg base ["script", "turn"] "law" (defScope (top 83)) (He.ga K "law") cdv A0 outer s H E) rfl
  show PSs _ [_] _
  unfold m_law
  exact (ess_one (es_ret (xAll C (lCons (xLc [("turn", 1)] C (iRng (xMax C (lCons em_int (lCons (xMin C (lCons (xLen C (lCons (xv 0) ea_nil) A.n_len) (lCons em_int ea_nil)) A.n_min) ea_nil)) A.n_max) A.n_range) (fun _ _ _ _ _ => (wN 1 C.blk)) (fun _ _ _ _ _ => ets_nil) (fun _ _ _ _ _ => (xCallG h__law_right hG LamX.takes0 hr (lCons (xCall h__law_pail LamX.takes0 hr (lCons (xv 0) (lCons (xv 1) ea_nil))) ea_nil)))) ea_nil) A.n_all)))
theorem k_law (A : All K mg) (tb : Tbs K mg base) : KnG (gm K) prg w K mg base "law" 12 ["script"] r_law := by
  obtain ⟨fd, F⟩ := A.F_law
  exact ⟨_, fd, f_law A tb F, A.g_law, F.kp, F.bindsN fun _ _ _ _ _ _ us hl => match us, hl with | [_], _ => rfl⟩
end
end K32
end

section
set_option Elab.async false
set_option linter.all false
set_option maxRecDepth 100000
set_option maxHeartbeats 4000000
/-! the head's facts (printed by wip/gen/gen.py). -/
namespace K32
open PySem PySem.Spec PyProof.Rows L2 Mp
section
variable {K : PySem.W.Frag} {mg : Str → Option Value} {h : Heap}
theorem S_InvalidDecimal : EKS prg (defArgs (topm 3 0)) (defBody (topm 3 0)) (defScope (topm 3 0)) "given" "given" := ⟨⟨_, _, _, _, _, _, _, _, _, _, by rfl, by rfl⟩, by kernel_rfl, by kernel_rfl, by kernel_rfl, by kernel_rfl, by kernel_rfl, by kernel_rfl, by kernel_rfl, by kernel_rfl, by decide +kernel, by decide, ⟨by decide, by decide⟩, by kernel_rfl⟩
theorem S_InvalidExpression : EKS prg (defArgs (topm 4 0)) (defBody (topm 4 0)) (defScope (topm 4 0)) "given" "given" := ⟨⟨_, _, _, _, _, _, _, _, _, _, by rfl, by rfl⟩, by kernel_rfl, by kernel_rfl, by kernel_rfl, by kernel_rfl, by kernel_rfl, by kernel_rfl, by kernel_rfl, by kernel_rfl, by decide +kernel, by decide, ⟨by decide, by decide⟩, by kernel_rfl⟩
theorem S_InvalidNumber : EKS prg (defArgs (topm 5 0)) (defBody (topm 5 0)) (defScope (topm 5 0)) "given" "given" := ⟨⟨_, _, _, _, _, _, _, _, _, _, by rfl, by rfl⟩, by kernel_rfl, by kernel_rfl, by kernel_rfl, by kernel_rfl, by kernel_rfl, by kernel_rfl, by kernel_rfl, by kernel_rfl, by decide +kernel, by decide, ⟨by decide, by decide⟩, by kernel_rfl⟩
theorem S_InvalidFraction : EKS prg (defArgs (topm 6 0)) (defBody (topm 6 0)) (defScope (topm 6 0)) "given" "given" := ⟨⟨_, _, _, _, _, _, _, _, _, _, by rfl, by rfl⟩, by kernel_rfl, by kernel_rfl, by kernel_rfl, by kernel_rfl, by kernel_rfl, by kernel_rfl, by kernel_rfl, by kernel_rfl, by decide +kernel, by decide, ⟨by decide, by decide⟩, by kernel_rfl⟩
theorem S_InvalidText : EKS prg (defArgs (topm 7 0)) (defBody (topm 7 0)) (defScope (topm 7 0)) "index" "index" := ⟨⟨_, _, _, _, _, _, _, _, _, _, by rfl, by rfl⟩, by kernel_rfl, by kernel_rfl, by kernel_rfl, by kernel_rfl, by kernel_rfl, by kernel_rfl, by kernel_rfl, by kernel_rfl, by decide +kernel, by decide, ⟨by decide, by decide⟩, by kernel_rfl⟩
theorem all_of (G : h.Ns mainGlobals mg) (z : hk.Says h K) : All K mg := by
  have hc : chk K = true := z.c
  unfold chk at hc
  simp only [Bool.and_eq_true] at hc
  obtain ⟨q0, q1, q2, q3, q4, q5, q6, q7, q8, q9, q10, q11, q12, q13, q14, q15, q16, q17⟩ := hc
  have hms : mg "super" = none := He.free_ok z.kin G (z.sd.fact 85 (f := .free "super") rfl)
  have X_InvalidDecimal : ∀ (w : World) (base : Heap), KnX (gm K) prg w K mg base "InvalidDecimal" 0 := fun w base => by
    obtain ⟨fd, F, hdn⟩ := ekf_of (P := prg) (z.e ⟨"InvalidDecimal", "given", "InvalidDecimal.__init__", defArgs (topm 3 0), defBody (topm 3 0), defScope (topm 3 0)⟩ (.head _)).2 (z.e ⟨"InvalidDecimal", "given", "InvalidDecimal.__init__", defArgs (topm 3 0), defBody (topm 3 0), defScope (topm 3 0)⟩ (.head _)).1
    refine ⟨"given", "given", _, fd, rfl, F.oex, F.init, F.tI, ok_exinit F S_InvalidDecimal hms, ?_, He.glo_ok z.kin G (z.sd.fact 86 (f := .glo "InvalidDecimal") rfl)⟩
    obtain ⟨dV, kV, doc, pm, an, cda, ct, cc, oc, od, osl, rfl, _⟩ := F.fn
    have hdn : dV = .none := hdn
    subst hdn
    exact .all fun us hl => match us, hl with | [_, _], _ => rfl
  have X_InvalidExpression : ∀ (w : World) (base : Heap), KnX (gm K) prg w K mg base "InvalidExpression" 1 := fun w base => by
    obtain ⟨fd, F, hdn⟩ := ekf_of (P := prg) (z.e ⟨"InvalidExpression", "given", "InvalidExpression.__init__", defArgs (topm 4 0), defBody (topm 4 0), defScope (topm 4 0)⟩ (.tail _ (.head _))).2 (z.e ⟨"InvalidExpression", "given", "InvalidExpression.__init__", defArgs (topm 4 0), defBody (topm 4 0), defScope (topm 4 0)⟩ (.tail _ (.head _))).1
    refine ⟨"given", "given", _, fd, rfl, F.oex, F.init, F.tI, ok_exinit F S_InvalidExpression hms, ?_, He.glo_ok z.kin G (z.sd.fact 87 (f := .glo "InvalidExpression") rfl)⟩
    obtain ⟨dV, kV, doc, pm, an, cda, ct, cc, oc, od, osl, rfl, _⟩ := F.fn
    have hdn : dV = .none := hdn
    subst hdn
    exact .all fun us hl => match us, hl with | [_, _], _ => rfl
  have X_InvalidNumber : ∀ (w : World) (base : Heap), KnX (gm K) prg w K mg base "InvalidNumber" 2 := fun w base => by
    obtain ⟨fd, F, hdn⟩ := ekf_of (P := prg) (z.e ⟨"InvalidNumber", "given", "InvalidNumber.__init__", defArgs (topm 5 0), defBody (topm 5 0), defScope (topm 5 0)⟩ (.tail _ (.tail _ (.head _)))).2 (z.e ⟨"InvalidNumber", "given", "InvalidNumber.__init__", defArgs (topm 5 0), defBody (topm 5 0), defScope (topm 5 0)⟩ (.tail _ (.tail _ (.head _)))).1
    refine ⟨"given", "given", _, fd, rfl, F.oex, F.init, F.tI, ok_exinit F S_InvalidNumber hms, ?_, He.glo_ok z.kin G (z.sd.fact 88 (f := .glo "InvalidNumber") rfl)⟩
    obtain ⟨dV, kV, doc, pm, an, cda, ct, cc, oc, od, osl, rfl, _⟩ := F.fn
    have hdn : dV = .none := hdn
    subst hdn
    exact .all fun us hl => match us, hl with | [_, _], _ => rfl
  have X_InvalidFraction : ∀ (w : World) (base : Heap), KnX (gm K) prg w K mg base "InvalidFraction" 3 := fun w base => by
    obtain ⟨fd, F, hdn⟩ := ekf_of (P := prg) (z.e ⟨"InvalidFraction", "given", "InvalidFraction.__init__", defArgs (topm 6 0), defBody (topm 6 0), defScope (topm 6 0)⟩ (.tail _ (.tail _ (.tail _ (.head _))))).2 (z.e ⟨"InvalidFraction", "given", "InvalidFraction.__init__", defArgs (topm 6 0), defBody (topm 6 0), defScope (topm 6 0)⟩ (.tail _ (.tail _ (.tail _ (.head _))))).1
    refine ⟨"given", "given", _, fd, rfl, F.oex, F.init, F.tI, ok_exinit F S_InvalidFraction hms, ?_, He.glo_ok z.kin G (z.sd.fact 89 (f := .glo "InvalidFraction") rfl)⟩
    obtain ⟨dV, kV, doc, pm, an, cda, ct, cc, oc, od, osl, rfl, _⟩ := F.fn
    have hdn : dV = .none := hdn
    subst hdn
    exact .all fun us hl => match us, hl with | [_, _], _ => rfl
  have X_InvalidText : ∀ (w : World) (base : Heap), KnX (gm K) prg w K mg base "InvalidText" 4 := fun w base => by
    obtain ⟨fd, F, hdn⟩ := ekf_of (P := prg) (z.e ⟨"InvalidText", "index", "InvalidText.__init__", defArgs (topm 7 0), defBody (topm 7 0), defScope (topm 7 0)⟩ (.tail _ (.tail _ (.tail _ (.tail _ (.head _)))))).2 (z.e ⟨"InvalidText", "index", "InvalidText.__init__", defArgs (topm 7 0), defBody (topm 7 0), defScope (topm 7 0)⟩ (.tail _ (.tail _ (.tail _ (.tail _ (.head _)))))).1
    refine ⟨"index", "index", _, fd, rfl, F.oex, F.init, F.tI, ok_exinit F S_InvalidText hms, ?_, He.glo_ok z.kin G (z.sd.fact 90 (f := .glo "InvalidText") rfl)⟩
    obtain ⟨dV, kV, doc, pm, an, cda, ct, cc, oc, od, osl, rfl, _⟩ := F.fn
    have hdn : dV = .none := hdn
    subst hdn
    exact .all fun us hl => match us, hl with | [_, _], _ => rfl
  have end_ : EndC K mg (He.ga K "DigitError") (He.ga K "InvalidText") (He.ga K "InvalidDecimal") (He.ga K "InvalidExpression") (He.ga K "InvalidFraction") (He.ga K "InvalidNumber") := by
    refine ⟨⟨He.glo_ok z.kin G (z.sd.fact 91 (f := .glo "DigitError") rfl), He.glo_ok z.kin G (z.sd.fact 90 (f := .glo "InvalidText") rfl), He.glo_ok z.kin G (z.sd.fact 86 (f := .glo "InvalidDecimal") rfl), He.glo_ok z.kin G (z.sd.fact 87 (f := .glo "InvalidExpression") rfl), He.glo_ok z.kin G (z.sd.fact 89 (f := .glo "InvalidFraction") rfl), He.glo_ok z.kin G (z.sd.fact 88 (f := .glo "InvalidNumber") rfl)⟩, ?_, ?_, of_decide_eq_true q14, He.eqO_ok q15, ?_⟩
    · intro C hC
      simp only [List.mem_cons, List.not_mem_nil, or_false] at hC
      rcases hC with rfl | rfl | rfl | rfl | rfl
      · exact ⟨(ic_of q3).1, (ic_of q3).2, of_decide_eq_true q8⟩
      · exact ⟨(ic_of q4).1, (ic_of q4).2, of_decide_eq_true q9⟩
      · exact ⟨(ic_of q5).1, (ic_of q5).2, of_decide_eq_true q10⟩
      · exact ⟨(ic_of q6).1, (ic_of q6).2, of_decide_eq_true q11⟩
      · exact ⟨(ic_of q7).1, (ic_of q7).2, of_decide_eq_true q12⟩
    · exact fun C hC D hD => of_decide_eq_true (List.all_eq_true.mp (List.all_eq_true.mp q13 C hC) D hD)
    · exact fun C hC => He.eqO_ok (List.all_eq_true.mp q16 C hC)
  have fkk : ∀ c f, fk c f = true → Cls (gm K).K ((gm K).cad c) ∧ NoAttr (gm K).K ((gm K).cad c) f := by
    intro c f hf
    unfold fk at hf
    simp only [Bool.or_eq_true, Bool.and_eq_true, beq_iff_eq] at hf
    obtain ⟨rfl, rfl⟩ := hf
    exact ⟨He.cls_ok (z.sd.fact 55 (f := .cls "Stack") rfl), He.noat_ok (z.sd.fact 57 (f := .noat "Stack" "held") rfl)⟩
  have p_g_is_whole := He.glo_ok z.kin G (z.sd.fact 0 (f := .glo "is_whole") rfl)
  have p_F_is_whole := z.sd.def_ 0 rfl
  have p_g_is_in := He.glo_ok z.kin G (z.sd.fact 1 (f := .glo "is_in") rfl)
  have p_F_is_in := z.sd.def_ 1 rfl
  have p_g_is_text := He.glo_ok z.kin G (z.sd.fact 2 (f := .glo "is_text") rfl)
  have p_F_is_text := z.sd.def_ 2 rfl
  have p_g_is_tuple_of := He.glo_ok z.kin G (z.sd.fact 3 (f := .glo "is_tuple_of") rfl)
  have p_F_is_tuple_of := z.sd.def_ 3 rfl
  have p_g_is_short_tuple := He.glo_ok z.kin G (z.sd.fact 4 (f := .glo "is_short_tuple") rfl)
  have p_F_is_short_tuple := z.sd.def_ 4 rfl
  have p_g_head_of := He.glo_ok z.kin G (z.sd.fact 5 (f := .glo "head_of") rfl)
  have p_F_head_of := z.sd.def_ 5 rfl
  have p_g_is_name := He.glo_ok z.kin G (z.sd.fact 6 (f := .glo "is_name") rfl)
  have p_F_is_name := z.sd.def_ 6 rfl
  have p_g_is_decimal_form := He.glo_ok z.kin G (z.sd.fact 7 (f := .glo "is_decimal_form") rfl)
  have p_F_is_decimal_form := z.sd.def_ 7 rfl
  have p_g_whole_of := He.glo_ok z.kin G (z.sd.fact 8 (f := .glo "whole_of") rfl)
  have p_F_whole_of := z.sd.def_ 8 rfl
  have p_g_lowest := He.glo_ok z.kin G (z.sd.fact 9 (f := .glo "lowest") rfl)
  have p_F_lowest := z.sd.def_ 9 rfl
  have p_g_is_fraction := He.glo_ok z.kin G (z.sd.fact 10 (f := .glo "is_fraction") rfl)
  have p_F_is_fraction := z.sd.def_ 10 rfl
  have p_g_tens := He.glo_ok z.kin G (z.sd.fact 11 (f := .glo "tens") rfl)
  have p_F_tens := z.sd.def_ 11 rfl
  have p_g_of_decimal := He.glo_ok z.kin G (z.sd.fact 12 (f := .glo "of_decimal") rfl)
  have p_F_of_decimal := z.sd.def_ 12 rfl
  have p_g_rounded_at := He.glo_ok z.kin G (z.sd.fact 13 (f := .glo "rounded_at") rfl)
  have p_F_rounded_at := z.sd.def_ 13 rfl
  have p_g_text_at := He.glo_ok z.kin G (z.sd.fact 14 (f := .glo "text_at") rfl)
  have p_F_text_at := z.sd.def_ 14 rfl
  have p_g_decimal_told := He.glo_ok z.kin G (z.sd.fact 15 (f := .glo "decimal_told") rfl)
  have p_F_decimal_told := z.sd.def_ 15 rfl
  have p_g_check_decimal := He.glo_ok z.kin G (z.sd.fact 16 (f := .glo "check_decimal") rfl)
  have p_F_check_decimal := z.sd.def_ 16 rfl
  have p_g_check_places := He.glo_ok z.kin G (z.sd.fact 17 (f := .glo "check_places") rfl)
  have p_F_check_places := z.sd.def_ 17 rfl
  have p_g_is_decimal := He.glo_ok z.kin G (z.sd.fact 18 (f := .glo "is_decimal") rfl)
  have p_F_is_decimal := z.sd.def_ 18 rfl
  have p_g_fraction_of := He.glo_ok z.kin G (z.sd.fact 19 (f := .glo "fraction_of") rfl)
  have p_F_fraction_of := z.sd.def_ 19 rfl
  have p_g_decimal_text := He.glo_ok z.kin G (z.sd.fact 20 (f := .glo "decimal_text") rfl)
  have p_F_decimal_text := z.sd.def_ 20 rfl
  have p_g_rounded := He.glo_ok z.kin G (z.sd.fact 21 (f := .glo "rounded") rfl)
  have p_F_rounded := z.sd.def_ 21 rfl
  have p_g_answer_text := He.glo_ok z.kin G (z.sd.fact 22 (f := .glo "answer_text") rfl)
  have p_F_answer_text := z.sd.def_ 22 rfl
  have p_g_parts_of := He.glo_ok z.kin G (z.sd.fact 23 (f := .glo "parts_of") rfl)
  have p_F_parts_of := z.sd.def_ 23 rfl
  have p_g_is_expression_head := He.glo_ok z.kin G (z.sd.fact 24 (f := .glo "is_expression_head") rfl)
  have p_F_is_expression_head := z.sd.def_ 24 rfl
  have p_g_next_layer := He.glo_ok z.kin G (z.sd.fact 25 (f := .glo "next_layer") rfl)
  have p_F_next_layer := z.sd.def_ 25 rfl
  have p_g_is_expression_form := He.glo_ok z.kin G (z.sd.fact 26 (f := .glo "is_expression_form") rfl)
  have p_F_is_expression_form := z.sd.def_ 26 rfl
  have p_g_words_of := He.glo_ok z.kin G (z.sd.fact 27 (f := .glo "words_of") rfl)
  have p_F_words_of := z.sd.def_ 27 rfl
  have p_g_text_of := He.glo_ok z.kin G (z.sd.fact 28 (f := .glo "text_of") rfl)
  have p_F_text_of := z.sd.def_ 28 rfl
  have p_g_run_of := He.glo_ok z.kin G (z.sd.fact 29 (f := .glo "run_of") rfl)
  have p_F_run_of := z.sd.def_ 29 rfl
  have p_g_token_at := He.glo_ok z.kin G (z.sd.fact 30 (f := .glo "token_at") rfl)
  have p_F_token_at := z.sd.def_ 30 rfl
  have p_g_tokens_of := He.glo_ok z.kin G (z.sd.fact 31 (f := .glo "tokens_of") rfl)
  have p_F_tokens_of := z.sd.def_ 31 rfl
  have p_F_Stack___init__ := z.sd.def_ 32 rfl
  have p_F_Stack_take := z.sd.def_ 33 rfl
  have p_M_Stack_take := He.meth_ok (z.sd.fact 32 (f := .meth "Stack" "take") rfl)
  have p_F_Stack_leaf := z.sd.def_ 34 rfl
  have p_M_Stack_leaf := He.meth_ok (z.sd.fact 33 (f := .meth "Stack" "leaf") rfl)
  have p_g_expression_told := He.glo_ok z.kin G (z.sd.fact 34 (f := .glo "expression_told") rfl)
  have p_F_expression_told := z.sd.def_ 35 rfl
  have p_g_read_expression := He.glo_ok z.kin G (z.sd.fact 35 (f := .glo "read_expression") rfl)
  have p_F_read_expression := z.sd.def_ 36 rfl
  have p_g_expression_text := He.glo_ok z.kin G (z.sd.fact 36 (f := .glo "expression_text") rfl)
  have p_F_expression_text := z.sd.def_ 37 rfl
  have p_g__law_pail := He.glo_ok z.kin G (z.sd.fact 37 (f := .glo "_law_pail") rfl)
  have p_F__law_pail := z.sd.def_ 38 rfl
  have p_g__law_deal := He.glo_ok z.kin G (z.sd.fact 38 (f := .glo "_law_deal") rfl)
  have p_F__law_deal := z.sd.def_ 39 rfl
  have p_g__law_any := He.glo_ok z.kin G (z.sd.fact 39 (f := .glo "_law_any") rfl)
  have p_F__law_any := z.sd.def_ 40 rfl
  have p_g__law_gcd := He.glo_ok z.kin G (z.sd.fact 40 (f := .glo "_law_gcd") rfl)
  have p_F__law_gcd := z.sd.def_ 41 rfl
  have p_g__law_frac := He.glo_ok z.kin G (z.sd.fact 41 (f := .glo "_law_frac") rfl)
  have p_F__law_frac := z.sd.def_ 42 rfl
  have p_g__law_power := He.glo_ok z.kin G (z.sd.fact 42 (f := .glo "_law_power") rfl)
  have p_F__law_power := z.sd.def_ 43 rfl
  have p_g__law_number := He.glo_ok z.kin G (z.sd.fact 43 (f := .glo "_law_number") rfl)
  have p_F__law_number := z.sd.def_ 44 rfl
  have p_g__law_figures := He.glo_ok z.kin G (z.sd.fact 44 (f := .glo "_law_figures") rfl)
  have p_F__law_figures := z.sd.def_ 45 rfl
  have p_g__law_rounded := He.glo_ok z.kin G (z.sd.fact 45 (f := .glo "_law_rounded") rfl)
  have p_F__law_rounded := z.sd.def_ 46 rfl
  have p_g__law_same := He.glo_ok z.kin G (z.sd.fact 46 (f := .glo "_law_same") rfl)
  have p_F__law_same := z.sd.def_ 47 rfl
  have p_g__law_decimal := He.glo_ok z.kin G (z.sd.fact 47 (f := .glo "_law_decimal") rfl)
  have p_F__law_decimal := z.sd.def_ 48 rfl
  have p_g__law_is_decimal := He.glo_ok z.kin G (z.sd.fact 48 (f := .glo "_law_is_decimal") rfl)
  have p_F__law_is_decimal := z.sd.def_ 49 rfl
  have p_g__law_ended := He.glo_ok z.kin G (z.sd.fact 49 (f := .glo "_law_ended") rfl)
  have p_F__law_ended := z.sd.def_ 50 rfl
  have p_g__law_decimal_right := He.glo_ok z.kin G (z.sd.fact 50 (f := .glo "_law_decimal_right") rfl)
  have p_F__law_decimal_right := z.sd.def_ 51 rfl
  have p_g__law_odd_right := He.glo_ok z.kin G (z.sd.fact 51 (f := .glo "_law_odd_right") rfl)
  have p_F__law_odd_right := z.sd.def_ 52 rfl
  have p_g__law_right := He.glo_ok z.kin G (z.sd.fact 52 (f := .glo "_law_right") rfl)
  have p_F__law_right := z.sd.def_ 53 rfl
  have p_g_law := He.glo_ok z.kin G (z.sd.fact 53 (f := .glo "law") rfl)
  have p_F_law := z.sd.def_ 54 rfl
  have p_g_Stack := He.glo_ok z.kin G (z.sd.fact 54 (f := .glo "Stack") rfl)
  have p_cls_Stack := He.cls_ok (z.sd.fact 55 (f := .cls "Stack") rfl)
  have p_mk_Stack := He.mkr_ok (z.sd.fact 56 (f := .mkr "Stack") rfl)
  have p_fk := fkk
  have p_n_abs := He.free_ok z.kin G (z.sd.fact 58 (f := .free "abs") rfl)
  have p_n_all := He.free_ok z.kin G (z.sd.fact 59 (f := .free "all") rfl)
  have p_n_bool := He.free_ok z.kin G (z.sd.fact 60 (f := .free "bool") rfl)
  have p_n_divmod := He.free_ok z.kin G (z.sd.fact 61 (f := .free "divmod") rfl)
  have p_n_int := He.free_ok z.kin G (z.sd.fact 62 (f := .free "int") rfl)
  have p_n_isinstance := He.free_ok z.kin G (z.sd.fact 63 (f := .free "isinstance") rfl)
  have p_n_len := He.free_ok z.kin G (z.sd.fact 64 (f := .free "len") rfl)
  have p_n_list := He.free_ok z.kin G (z.sd.fact 65 (f := .free "list") rfl)
  have p_n_max := He.free_ok z.kin G (z.sd.fact 66 (f := .free "max") rfl)
  have p_n_min := He.free_ok z.kin G (z.sd.fact 67 (f := .free "min") rfl)
  have p_n_range := He.free_ok z.kin G (z.sd.fact 68 (f := .free "range") rfl)
  have p_n_repr := He.free_ok z.kin G (z.sd.fact 69 (f := .free "repr") rfl)
  have p_n_str := He.free_ok z.kin G (z.sd.fact 70 (f := .free "str") rfl)
  have p_n_tuple := He.free_ok z.kin G (z.sd.fact 71 (f := .free "tuple") rfl)
  have p_g_gcd := PySem.W.mg_of z.kin G (He.eqO_ok q0)
  have p_c_FIGURES := He.str_ok z.kin G (z.sd.fact 72 (f := .str "FIGURES" "0123456789") rfl)
  have p_c_LETTERS := He.str_ok z.kin G (z.sd.fact 73 (f := .str "LETTERS" "abcdefghijklmnopqrstuvwxyz") rfl)
  have p_c_MINUS := He.str_ok z.kin G (z.sd.fact 74 (f := .str "MINUS" "-") rfl)
  have p_c_MOST_DEEP := He.int_ok z.kin G (z.sd.fact 75 (f := .int "MOST_DEEP" 5) rfl)
  have p_c_MOST_LETTERS := He.int_ok z.kin G (z.sd.fact 76 (f := .int "MOST_LETTERS" 8) rfl)
  have p_c_MOST_NUMBER := He.int_ok z.kin G (z.sd.fact 77 (f := .int "MOST_NUMBER" 999999) rfl)
  have p_c_MOST_PARAMS := He.int_ok z.kin G (z.sd.fact 78 (f := .int "MOST_PARAMS" 3) rfl)
  have p_c_MOST_PLACES_formwork := He.int_ok z.kin G (z.sd.fact 79 (f := .int "MOST_PLACES_formwork" 4) rfl)
  have p_c_MOST_PLACES_numbers := He.int_ok z.kin G (z.sd.fact 80 (f := .int "MOST_PLACES_numbers" 9) rfl)
  have p_g_OPS := He.glo_ok z.kin G (z.sd.fact 81 (f := .glo "OPS") rfl)
  have p_c_OPS : ∀ H B, Dq (gm K).K H B (.ref (He.ga K "OPS")) d_OPS := fun H B => .tup (tup_of q1 H) (.cons (.str _ (by decide)) (.cons (.str _ (by decide)) (.cons (.str _ (by decide)) (.cons (.str _ (by decide)) .nil))))
  have p_c_POINT := He.str_ok z.kin G (z.sd.fact 82 (f := .str "POINT" ".") rfl)
  have p_c_SPACE := He.str_ok z.kin G (z.sd.fact 83 (f := .str "SPACE" " ") rfl)
  have p_g_WORDS := He.glo_ok z.kin G (z.sd.fact 84 (f := .glo "WORDS") rfl)
  have p_c_WORDS : ∀ H B, Dq (gm K).K H B (.ref (He.ga K "WORDS")) d_WORDS := fun H B => .tup (tup_of q2 H) (.cons (.str _ (by decide)) (.cons (.str _ (by decide)) (.cons (.str _ (by decide)) (.cons (.str _ (by decide)) (.cons (.str _ (by decide)) (.cons (.str _ (by decide)) (.cons (.str _ (by decide)) (.cons (.str _ (by decide)) (.cons (.str _ (by decide)) (.cons (.str _ (by decide)) (.cons (.str _ (by decide)) .nil)))))))))))
  have p_X_InvalidDecimal := X_InvalidDecimal
  have p_X_InvalidExpression := X_InvalidExpression
  have p_X_InvalidNumber := X_InvalidNumber
  have p_X_InvalidFraction := X_InvalidFraction
  have p_X_InvalidText := X_InvalidText
  have p_end_ := end_
  have p_tabN := of_decide_eq_true q17
  exact ⟨p_g_is_whole, p_F_is_whole, p_g_is_in, p_F_is_in, p_g_is_text, p_F_is_text, p_g_is_tuple_of, p_F_is_tuple_of, p_g_is_short_tuple, p_F_is_short_tuple, p_g_head_of, p_F_head_of, p_g_is_name, p_F_is_name, p_g_is_decimal_form, p_F_is_decimal_form, p_g_whole_of, p_F_whole_of, p_g_lowest, p_F_lowest, p_g_is_fraction, p_F_is_fraction, p_g_tens, p_F_tens, p_g_of_decimal, p_F_of_decimal, p_g_rounded_at, p_F_rounded_at, p_g_text_at, p_F_text_at, p_g_decimal_told, p_F_decimal_told, p_g_check_decimal, p_F_check_decimal, p_g_check_places, p_F_check_places, p_g_is_decimal, p_F_is_decimal, p_g_fraction_of, p_F_fraction_of, p_g_decimal_text, p_F_decimal_text, p_g_rounded, p_F_rounded, p_g_answer_text, p_F_answer_text, p_g_parts_of, p_F_parts_of, p_g_is_expression_head, p_F_is_expression_head, p_g_next_layer, p_F_next_layer, p_g_is_expression_form, p_F_is_expression_form, p_g_words_of, p_F_words_of, p_g_text_of, p_F_text_of, p_g_run_of, p_F_run_of, p_g_token_at, p_F_token_at, p_g_tokens_of, p_F_tokens_of, p_F_Stack___init__, p_F_Stack_take, p_M_Stack_take, p_F_Stack_leaf, p_M_Stack_leaf, p_g_expression_told, p_F_expression_told, p_g_read_expression, p_F_read_expression, p_g_expression_text, p_F_expression_text, p_g__law_pail, p_F__law_pail, p_g__law_deal, p_F__law_deal, p_g__law_any, p_F__law_any, p_g__law_gcd, p_F__law_gcd, p_g__law_frac, p_F__law_frac, p_g__law_power, p_F__law_power, p_g__law_number, p_F__law_number, p_g__law_figures, p_F__law_figures, p_g__law_rounded, p_F__law_rounded, p_g__law_same, p_F__law_same, p_g__law_decimal, p_F__law_decimal, p_g__law_is_decimal, p_F__law_is_decimal, p_g__law_ended, p_F__law_ended, p_g__law_decimal_right, p_F__law_decimal_right, p_g__law_odd_right, p_F__law_odd_right, p_g__law_right, p_F__law_right, p_g_law, p_F_law, p_g_Stack, p_cls_Stack, p_mk_Stack, p_fk, p_n_abs, p_n_all, p_n_bool, p_n_divmod, p_n_int, p_n_isinstance, p_n_len, p_n_list, p_n_max, p_n_min, p_n_range, p_n_repr, p_n_str, p_n_tuple, p_g_gcd, p_c_FIGURES, p_c_LETTERS, p_c_MINUS, p_c_MOST_DEEP, p_c_MOST_LETTERS, p_c_MOST_NUMBER, p_c_MOST_PARAMS, p_c_MOST_PLACES_formwork, p_c_MOST_PLACES_numbers, p_g_OPS, p_c_OPS, p_c_POINT, p_c_SPACE, p_g_WORDS, p_c_WORDS, p_X_InvalidDecimal, p_X_InvalidExpression, p_X_InvalidNumber, p_X_InvalidFraction, p_X_InvalidText, p_end_, p_tabN⟩
end
end K32
end

section
set_option Elab.async false
set_option linter.all false
set_option maxRecDepth 100000
set_option maxHeartbeats 4000000
namespace K32
open PySem PySem.Spec PyProof.Rows L2 Mp
theorem ints_dq {K : PySem.W.Frag} {H : Hp} {B : List Addr} : ∀ ns : List Int, DqAll K H B (ns.map V.int) (ns.map .int)
  | [] => .nil
  | n :: ns => .cons (.int n) (ints_dq ns)
theorem law_end (hlaw : ∀ ns : List Int, ns.length ≤ 63 → (∀ z ∈ ns, Builtin.Int.intBits z ≤ 1048576) → ∃ st, r_law [.p (.list (ns.map .int))] [] = .ok (.p (.bool true)) st)
    (w : World) (mg : Str → Option Value) (fa : Addr) (h : Heap) (Y : hk.hook.says w h) (G : h.Ns mainGlobals mg) (hfa : mg ("law" : Str) = some (.ref fa)) : LawG PySem.Challenge.rw_lastdigits_k32_whole_decimals_there_and w 12 63 "script" mg fa h := by
  obtain ⟨K, z⟩ := Y
  have A := all_of G z
  obtain ⟨fd, F⟩ := A.F_law
  have e := hfa.symm.trans A.g_law
  cases e
  refine ⟨K, fd, hk.mks.map fun x => (cA K x, tA K x), spOf (gm K) r_law, z.kin, fun a o q => nolist (z.kp a o q), fun p hp => ?_, fun p hp => ?_, fun p hp => ?_, fun s u => F.bindsA (ps := ["script"]) (fun _ _ _ _ _ _ us hl => match us, hl with | [_], _ => rfl) s [u] rfl, fun o a ns hl hbits ha => ?_, fun base _ _ TB => f_law A TB F⟩
  · obtain ⟨x, hx, rfl⟩ := List.mem_map.mp hp
    exact (z.m x hx).2
  · obtain ⟨x, hx, rfl⟩ := List.mem_map.mp hp
    exact notab z.kin z.kp (z.m x hx).2
  · obtain ⟨x, hx, rfl⟩ := List.mem_map.mp hp
    exact code_of z.kin (z.m x hx).1
  · obtain ⟨st, hst⟩ := hlaw ns hl hbits
    have htab : ∀ p ∈ (gm K).T, HL a o (ns.map V.int) ((hk.mks.map fun x => (cA K x, tA K x)).map (·.2)) p.1 = some (.tbl #[]) := fun p hp => by
      have hm : p.1 ∈ (hk.mks.map fun x => (cA K x, tA K x)).map (·.2) := by
        simp only [gm, List.mem_cons, List.not_mem_nil, or_false] at hp
        simp only [hk, List.map_cons, List.map_nil, List.mem_cons, List.not_mem_nil, or_false]
        rcases hp with rfl | rfl
        · exact .inl rfl
        · exact .inr rfl
      exact (if_neg (show ¬ p.1 = a from fun z => ha (z ▸ hm))).trans (if_pos hm)
    refine ⟨[.p (.list (ns.map .int))], [], [], [], ⟨rfl, .nil, by simp, by simp, by simp, fun p hp => LamX.TabS.nil (htab p hp)⟩, .cons (show Dq _ _ _ _ _ from .lst (by simp) (.inr ⟨o, if_pos rfl⟩) ?_) .nil, ?_⟩
    · exact ints_dq ns
    · rw [hst]
      intro v H' ρ' B' l R rv
      have rv' : Dq (gm K).K H' B' v (.bool true) := rv
      cases rv'
      rfl
end K32
end

section
set_option Elab.async false
set_option linter.all false
set_option maxRecDepth 100000
set_option maxHeartbeats 4000000
/-! K32m1: the plain law, small defs. -/
namespace K32
open PySem Mp
/-- a pure def's call: what it gives on a store of its own -/
theorem pR_ok {run : List D → Store → R D} {es : List PyData} {d : PyData} {st1 st : Store} (h : run (es.map .p) [] = .ok (.p d) st1) : pR run (es.map .p) st = .ok (.p d) st := by
  have e : ∀ es : List PyData, pdsB st (es.map .p) = some (es, false) := fun es => by
    induction es with
    | nil => rfl
    | cons x r ih => simp [pdsB, ih]
  simp [pR, pureRun, e, h, asP]
theorem pR_exc {run : List D → Store → R D} {es : List PyData} {c : Nat} {d : PyData} {st1 st : Store} (h : run (es.map .p) [] = .exc c d st1) : pR run (es.map .p) st = .exc c d st := by
  have e : ∀ es : List PyData, pdsB st (es.map .p) = some (es, false) := fun es => by
    induction es with
    | nil => rfl
    | cons x r ih => simp [pdsB, ih]
  simp [pR, pureRun, e, h]
theorem addV_int (i j : Int) : addV (.int i) (.int j) = some (.int (i + j)) := rfl
theorem fdivV_pos (i j : Int) (h : 0 < j) (h2 : j < 1073741824) : fdivV (.int i) (.int j) = some (.int (i / j)) := by
  have h3 : j.natAbs < 1073741824 := by omega
  have h4 : j ≠ 0 := by omega
  simp only [fdivV, if_pos (show j ≠ 0 ∧ j.natAbs < 1073741824 from ⟨h4, h3⟩)]
  rw [Int.fdiv_eq_ediv_of_nonneg i (by omega)]
theorem modV_pos (i j : Int) (h : 0 < j) : modV (.int i) (.int j) = some (.int (i % j)) := by
  have h4 : j ≠ 0 := by omega
  simp only [modV, if_pos h4]
  rw [Int.fmod_eq_emod_of_nonneg i (by omega)]
theorem mulV_l (i j : Int) (h : i.natAbs < 18446744073709551616) : mulV (.int i) (.int j) = some (.int (i * j)) := by
  simp [mulV, mulOk, h]
theorem mulV_r (i j : Int) (h : j.natAbs < 18446744073709551616) : mulV (.int i) (.int j) = some (.int (i * j)) := by
  simp [mulV, mulOk, h]
theorem w_int (i : Int) (st : Store) : r_is_whole [.p (.int i)] st = .ok (.p (.bool true)) st := by kernel_rfl
theorem pw_int (i : Int) (st : Store) : pR r_is_whole [.p (.int i)] st = .ok (.p (.bool true)) st := by kernel_rfl
theorem e_is_in (i a b : Int) (st : Store) : r_is_in [.p (.int i), .p (.int a), .p (.int b)] st = .ok (.p (.bool (decide (a ≤ i) && decide (i ≤ b)))) st := by
  by_cases h1 : a ≤ i <;> by_cases h2 : i ≤ b <;> simp [r_is_in, m_is_in, runB, startE, endB, sRet, sSeq, sSet, sIf, sDrop, sNx, sNo, sBrk, sCont, sPar, sAsg, sFor, sWhile, sRaise, sFldS, gSet, gTupD, gCons', gNil', gSubD, fVar, fC, fBin, binS, binV, addV_int, subV, powV, asP, asPs, pds, ofO, ofD, fCmp, cmpS, cmpO, cmpV, ltV, leV, fChain, fAnd, fOr, fNot, fIte, fT, truB, fNeg, fOrS, fCall, fCons, fNil, fStar, fTup, fLst, fNew, newLst, fIdx, idxO, fSli, fPart, sliV, fFld, fldO, lookF, fMeth, fMake, fnV, lenV, absV, minV, intV, listV, fIsi, isiO, tyName, fBm, mtyp, mAppend, mPop, mExtend, itemsD, fCallK, fCallK0, fIter, iterD, fRng1, fLc, tT1, fEnd, putD, itemsO, L2.atI, L2.ixN, pw_int, h1, h2]
theorem p_is_in (i a b : Int) (st : Store) : pR r_is_in [.p (.int i), .p (.int a), .p (.int b)] st = .ok (.p (.bool (decide (a ≤ i) && decide (i ≤ b)))) st := pR_ok (es := [.int i, .int a, .int b]) (e_is_in i a b [])
theorem pu_pR {run : List D → Store → R D} : pureRun run = pR run := rfl
theorem szl : sizeLine = 16777216 := rfl
/-- the numbers of a fraction in lowest terms -/
def gc (n d : Int) : Int := ((Nat.gcd n.natAbs d.natAbs : Nat) : Int)
theorem gc_pos {n d : Int} (hd : 0 < d) : 0 < gc n d := by
  have : 0 < Nat.gcd n.natAbs d.natAbs := Nat.gcd_pos_of_pos_right _ (by omega)
  unfold gc; omega
theorem gc_le {n d : Int} (hd : 0 < d) : gc n d ≤ d := by
  have : Nat.gcd n.natAbs d.natAbs ≤ d.natAbs := Nat.gcd_le_right _ (by omega)
  unfold gc; omega
theorem gcdV_gc (n d : Int) : gcdV [.int n, .int d] = some (.int (gc n d)) := rfl
theorem e_lowest (n d : Int) (hd : 0 < d) (hdb : d < 1000000000) (st : Store) : r_lowest [.p (.int n), .p (.int d)] st = .ok (.p (.tuple [.int (n / gc n d), .int (d / gc n d)])) st := by
  have h1 := gc_pos (n := n) hd
  have h2 := gc_le (n := n) hd
  have h3 : gc n d < 1073741824 := by omega
  simp [r_lowest, m_lowest, runB, startE, endB, sRet, sSeq, sSet, sIf, sDrop, sNx, sNo, sBrk, sCont, sPar, sAsg, sFor, sWhile, sRaise, sFldS, gSet, gTupD, gCons', gNil', gSubD, fVar, fC, fBin, binS, binV, addV_int, subV, powV, asP, asPs, pds, ofO, ofD, fCmp, cmpS, cmpO, cmpV, ltV, leV, fChain, fAnd, fOr, fNot, fIte, fT, truB, fNeg, fOrS, fCall, fCons, fNil, fStar, fTup, fLst, fNew, newLst, fIdx, idxO, fSli, fPart, sliV, fFld, fldO, lookF, fMeth, fMake, fnV, lenV, absV, minV, intV, listV, fIsi, isiO, tyName, fBm, mtyp, mAppend, mPop, mExtend, itemsD, fCallK, fCallK0, fIter, iterD, fRng1, fLc, tT1, fEnd, putD, itemsO, L2.atI, L2.ixN, hd, gcdV_gc, mulV_l, fdivV_pos, h1, h3, szl]
theorem p_lowest (n d : Int) (hd : 0 < d) (hdb : d < 1000000000) (st : Store) : pR r_lowest [.p (.int n), .p (.int d)] st = .ok (.p (.tuple [.int (n / gc n d), .int (d / gc n d)])) st := pR_ok (es := [.int n, .int d]) (e_lowest n d hd hdb [])
/-- so many tens -/
theorem small9 {p : Int} (h0 : 0 ≤ p) (h9 : p ≤ 9) : p = 0 ∨ p = 1 ∨ p = 2 ∨ p = 3 ∨ p = 4 ∨ p = 5 ∨ p = 6 ∨ p = 7 ∨ p = 8 ∨ p = 9 := by omega
def tn (p : Int) : Int := (10 : Int) ^ p.toNat
theorem p_tens (p : Int) (h0 : 0 ≤ p) (h9 : p ≤ 9) (st : Store) : pR r_tens [.p (.int p)] st = .ok (.p (.int (tn p))) st := by
  rcases small9 h0 h9 with rfl | rfl | rfl | rfl | rfl | rfl | rfl | rfl | rfl | rfl <;> kernel_rfl
theorem p_power (p : Int) (h0 : 0 ≤ p) (h9 : p ≤ 9) (st : Store) : pR r__law_power [.p (.int 10), .p (.int p)] st = .ok (.p (.int (tn p))) st := by
  rcases small9 h0 h9 with rfl | rfl | rfl | rfl | rfl | rfl | rfl | rfl | rfl | rfl <;> kernel_rfl
theorem tn_pos (p : Int) (h0 : 0 ≤ p) (h9 : p ≤ 9) : 0 < tn p ∧ tn p ≤ 1000000000 := by
  rcases small9 h0 h9 with rfl | rfl | rfl | rfl | rfl | rfl | rfl | rfl | rfl | rfl <;> decide
theorem tn_small (p : Int) (h0 : 0 ≤ p) (h9 : p ≤ 4) : 0 < tn p ∧ tn p ≤ 10000 := by
  rcases small9 h0 (by omega : p ≤ 9) with rfl | rfl | rfl | rfl | rfl | rfl | rfl | rfl | rfl | rfl <;> first | decide | omega
/-! ### decimals -/
theorem is2 (a b : PyData) (st : Store) : pR r_is_tuple_of [.p (.tuple [a, b]), .p (.int 2)] st = .ok (.p (.bool true)) st := by kernel_rfl
theorem e_dform (n p : Int) (st : Store) : r_is_decimal_form [.p (.tuple [.int n, .int p])] st = .ok (.p (.bool ((decide (-999999 ≤ n) && decide (n ≤ 999999)) && (decide (0 ≤ p) && decide (p ≤ 4))))) st := by
  by_cases h1 : -999999 ≤ n <;> by_cases h2 : n ≤ 999999 <;> simp [r_is_decimal_form, m_is_decimal_form, runB, startE, endB, sRet, sSeq, sSet, sIf, sDrop, sNx, sNo, sBrk, sCont, sPar, sAsg, sFor, sWhile, sRaise, sFldS, gSet, gTupD, gCons', gNil', gSubD, fVar, fC, fBin, binS, binV, addV_int, subV, powV, asP, asPs, pds, ofO, ofD, fCmp, cmpS, cmpO, cmpV, ltV, leV, fChain, fAnd, fOr, fNot, fIte, fT, truB, fNeg, fOrS, fCall, fCons, fNil, fStar, fTup, fLst, fNew, newLst, fIdx, idxO, fSli, fPart, sliV, fFld, fldO, lookF, fMeth, fMake, fnV, lenV, absV, minV, intV, listV, fIsi, isiO, tyName, fBm, mtyp, mAppend, mPop, mExtend, itemsD, fCallK, fCallK0, fIter, iterD, fRng1, fLc, tT1, fEnd, putD, itemsO, L2.atI, L2.ixN, is2, p_is_in, subV, h1, h2]
theorem p_dform (n p : Int) (st : Store) : pR r_is_decimal_form [.p (.tuple [.int n, .int p])] st = .ok (.p (.bool ((decide (-999999 ≤ n) && decide (n ≤ 999999)) && (decide (0 ≤ p) && decide (p ≤ 4))))) st := pR_ok (es := [.tuple [.int n, .int p]]) (e_dform n p [])
structure Dec (n p : Int) : Prop where
  l : -999999 ≤ n
  h : n ≤ 999999
  p0 : 0 ≤ p
  p4 : p ≤ 4
theorem p_dform_ok {n p : Int} (h : Dec n p) (st : Store) : pR r_is_decimal_form [.p (.tuple [.int n, .int p])] st = .ok (.p (.bool true)) st := by
  rw [p_dform]; simp [h.l, h.h, h.p0, h.p4]
theorem p_isdec_ok {n p : Int} (h : Dec n p) (st : Store) : pR r_is_decimal [.p (.tuple [.int n, .int p])] st = .ok (.p (.bool true)) st := by
  refine pR_ok (es := [.tuple [.int n, .int p]]) (st1 := []) ?_
  simp [r_is_decimal, m_is_decimal, runB, startE, endB, sRet, sSeq, sSet, sIf, sDrop, sNx, sNo, sBrk, sCont, sPar, sAsg, sFor, sWhile, sRaise, sFldS, gSet, gTupD, gCons', gNil', gSubD, fVar, fC, fBin, binS, binV, addV_int, subV, powV, asP, asPs, pds, ofO, ofD, fCmp, cmpS, cmpO, cmpV, ltV, leV, fChain, fAnd, fOr, fNot, fIte, fT, truB, fNeg, fOrS, fCall, fCons, fNil, fStar, fTup, fLst, fNew, newLst, fIdx, idxO, fSli, fPart, sliV, fFld, fldO, lookF, fMeth, fMake, fnV, lenV, absV, minV, intV, listV, fIsi, isiO, tyName, fBm, mtyp, mAppend, mPop, mExtend, itemsD, fCallK, fCallK0, fIter, iterD, fRng1, fLc, tT1, fEnd, putD, itemsO, L2.atI, L2.ixN, p_dform_ok h]
theorem p_chkdec_ok {n p : Int} (h : Dec n p) (st : Store) : pR r_check_decimal [.p (.tuple [.int n, .int p])] st = .ok (.p .none) st := by
  refine pR_ok (es := [.tuple [.int n, .int p]]) (st1 := []) ?_
  simp [r_check_decimal, m_check_decimal, runB, startE, endB, sRet, sSeq, sSet, sIf, sDrop, sNx, sNo, sBrk, sCont, sPar, sAsg, sFor, sWhile, sRaise, sFldS, gSet, gTupD, gCons', gNil', gSubD, fVar, fC, fBin, binS, binV, addV_int, subV, powV, asP, asPs, pds, ofO, ofD, fCmp, cmpS, cmpO, cmpV, ltV, leV, fChain, fAnd, fOr, fNot, fIte, fT, truB, fNeg, fOrS, fCall, fCons, fNil, fStar, fTup, fLst, fNew, newLst, fIdx, idxO, fSli, fPart, sliV, fFld, fldO, lookF, fMeth, fMake, fnV, lenV, absV, minV, intV, listV, fIsi, isiO, tyName, fBm, mtyp, mAppend, mPop, mExtend, itemsD, fCallK, fCallK0, fIter, iterD, fRng1, fLc, tT1, fEnd, putD, itemsO, L2.atI, L2.ixN, p_dform_ok h]
theorem p_chkpl_ok {p : Int} (h0 : 0 ≤ p) (h9 : p ≤ 9) (st : Store) : pR r_check_places [.p (.int p)] st = .ok (.p .none) st := by
  refine pR_ok (es := [.int p]) (st1 := []) ?_
  simp [r_check_places, m_check_places, runB, startE, endB, sRet, sSeq, sSet, sIf, sDrop, sNx, sNo, sBrk, sCont, sPar, sAsg, sFor, sWhile, sRaise, sFldS, gSet, gTupD, gCons', gNil', gSubD, fVar, fC, fBin, binS, binV, addV_int, subV, powV, asP, asPs, pds, ofO, ofD, fCmp, cmpS, cmpO, cmpV, ltV, leV, fChain, fAnd, fOr, fNot, fIte, fT, truB, fNeg, fOrS, fCall, fCons, fNil, fStar, fTup, fLst, fNew, newLst, fIdx, idxO, fSli, fPart, sliV, fFld, fldO, lookF, fMeth, fMake, fnV, lenV, absV, minV, intV, listV, fIsi, isiO, tyName, fBm, mtyp, mAppend, mPop, mExtend, itemsD, fCallK, fCallK0, fIter, iterD, fRng1, fLc, tT1, fEnd, putD, itemsO, L2.atI, L2.ixN, p_is_in, h0, h9]
/-- the fraction of a decimal -/
def fr (n p : Int) : PyData := .tuple [.int (n / gc n (tn p)), .int (tn p / gc n (tn p))]
theorem p_of_decimal {n p : Int} (h : Dec n p) (st : Store) : pR r_of_decimal [.p (.tuple [.int n, .int p])] st = .ok (.p (fr n p)) st := by
  have ⟨t1, t2⟩ := tn_small p h.p0 h.p4
  refine pR_ok (es := [.tuple [.int n, .int p]]) (st1 := []) ?_
  simp [r_of_decimal, m_of_decimal, runB, startE, endB, sRet, sSeq, sSet, sIf, sDrop, sNx, sNo, sBrk, sCont, sPar, sAsg, sFor, sWhile, sRaise, sFldS, gSet, gTupD, gCons', gNil', gSubD, fVar, fC, fBin, binS, binV, addV_int, subV, powV, asP, asPs, pds, ofO, ofD, fCmp, cmpS, cmpO, cmpV, ltV, leV, fChain, fAnd, fOr, fNot, fIte, fT, truB, fNeg, fOrS, fCall, fCons, fNil, fStar, fTup, fLst, fNew, newLst, fIdx, idxO, fSli, fPart, sliV, fFld, fldO, lookF, fMeth, fMake, fnV, lenV, absV, minV, intV, listV, fIsi, isiO, tyName, fBm, mtyp, mAppend, mPop, mExtend, itemsD, fCallK, fCallK0, fIter, iterD, fRng1, fLc, tT1, fEnd, putD, itemsO, L2.atI, L2.ixN, p_tens p h.p0 (by have := h.p4; omega), p_lowest n (tn p) t1 (by omega), fr]
theorem p_fraction_of {n p : Int} (h : Dec n p) (st : Store) : pR r_fraction_of [.p (.tuple [.int n, .int p])] st = .ok (.p (fr n p)) st := by
  refine pR_ok (es := [.tuple [.int n, .int p]]) (st1 := []) ?_
  simp [r_fraction_of, m_fraction_of, runB, startE, endB, sRet, sSeq, sSet, sIf, sDrop, sNx, sNo, sBrk, sCont, sPar, sAsg, sFor, sWhile, sRaise, sFldS, gSet, gTupD, gCons', gNil', gSubD, fVar, fC, fBin, binS, binV, addV_int, subV, powV, asP, asPs, pds, ofO, ofD, fCmp, cmpS, cmpO, cmpV, ltV, leV, fChain, fAnd, fOr, fNot, fIte, fT, truB, fNeg, fOrS, fCall, fCons, fNil, fStar, fTup, fLst, fNew, newLst, fIdx, idxO, fSli, fPart, sliV, fFld, fldO, lookF, fMeth, fMake, fnV, lenV, absV, minV, intV, listV, fIsi, isiO, tyName, fBm, mtyp, mAppend, mPop, mExtend, itemsD, fCallK, fCallK0, fIter, iterD, fRng1, fLc, tT1, fEnd, putD, itemsO, L2.atI, L2.ixN, p_chkdec_ok h, p_of_decimal h]
end K32
end

section
set_option Elab.async false
set_option linter.all false
set_option maxRecDepth 100000
set_option maxHeartbeats 4000000
/-! K32m2: the plain law, fractions. -/
namespace K32
open PySem Mp
/-! ### Euclid -/
abbrev gcBody : SM := sSeq (sIf (fCmp .eq (fVar 1) (fC (.int 0))) sBrk sNx) (sPar 0 1 (fCons (fVar 1) (fCons (fBin .mod (fCall (fnV intV) (fCons (fVar 0) fNil)) (fVar 1)) fNil)))
theorem eq_int (i j : Int) : eqV (.int i) (.int j) = some (decide (i = j)) := by
  have h1 : SeqAt.shaped (.int i) = true := by kernel_rfl
  have h2 : SeqAt.shaped (.int j) = true := by kernel_rfl
  simp [eqV, h1, h2, PyData.eqv]
  rfl
theorem gc_stop (a : Nat) (t : Option D) (st : Store) : gcBody [some (.p (.int a)), some (.p (.int 0)), t] st = .ok (.brk [some (.p (.int a)), some (.p (.int 0)), t]) st := by
  simp [gcBody, runB, startE, endB, sRet, sSeq, sSet, sIf, sDrop, sNx, sNo, sBrk, sCont, sPar, sAsg, sFor, sWhile, sRaise, sFldS, gSet, gTupD, gCons', gNil', gSubD, fVar, fC, fBin, binS, binV, addV_int, subV, powV, asP, asPs, pds, ofO, ofD, fCmp, cmpS, cmpO, cmpV, ltV, leV, fChain, fAnd, fOr, fNot, fIte, fT, truB, fNeg, fOrS, fCall, fCons, fNil, fStar, fTup, fLst, fNew, newLst, fIdx, idxO, fSli, fPart, sliV, fFld, fldO, lookF, fMeth, fMake, fnV, lenV, absV, minV, intV, listV, fIsi, isiO, tyName, fBm, mtyp, mAppend, mPop, mExtend, itemsD, fCallK, fCallK0, fIter, iterD, fRng1, fLc, tT1, fEnd, putD, itemsO, L2.atI, L2.ixN, eq_int]
theorem gc_step (a b : Nat) (hb : 0 < b) (t : Option D) (st : Store) : gcBody [some (.p (.int a)), some (.p (.int b)), t] st = .ok (.nx [some (.p (.int b)), some (.p (.int ((a % b : Nat) : Int))), t]) st := by
  have h0 : (b : Int) ≠ 0 := by omega
  have h1 : (0 : Int) < b := by omega
  have h2 : b ≠ 0 := by omega
  simp [gcBody, runB, startE, endB, sRet, sSeq, sSet, sIf, sDrop, sNx, sNo, sBrk, sCont, sPar, sAsg, sFor, sWhile, sRaise, sFldS, gSet, gTupD, gCons', gNil', gSubD, fVar, fC, fBin, binS, binV, addV_int, subV, powV, asP, asPs, pds, ofO, ofD, fCmp, cmpS, cmpO, cmpV, ltV, leV, fChain, fAnd, fOr, fNot, fIte, fT, truB, fNeg, fOrS, fCall, fCons, fNil, fStar, fTup, fLst, fNew, newLst, fIdx, idxO, fSli, fPart, sliV, fFld, fldO, lookF, fMeth, fMake, fnV, lenV, absV, minV, intV, listV, fIsi, isiO, tyName, fBm, mtyp, mAppend, mPop, mExtend, itemsD, fCallK, fCallK0, fIter, iterD, fRng1, fLc, tT1, fEnd, putD, itemsO, L2.atI, L2.ixN, eq_int, modV_pos _ _ h1, h0, h2]
theorem gc_loop (k : Nat) : ∀ (a b : Nat) (l : List D) (t : Option D) (st : Store), b < 2 ^ k → 2 * k ≤ l.length → ∃ t' b', loopF (gSet 2) gcBody l [some (.p (.int a)), some (.p (.int b)), t] st = .ok (.nx [some (.p (.int (Nat.gcd a b : Nat))), b', t']) st := by
  have stop : ∀ (a : Nat) (l : List D) (t : Option D) (st : Store), ∃ t' b', loopF (gSet 2) gcBody l [some (.p (.int a)), some (.p (.int ((0 : Nat) : Int))), t] st = .ok (.nx [some (.p (.int (Nat.gcd a 0 : Nat))), b', t']) st := by
    intro a l t st
    cases l with
    | nil => exact ⟨_, _, by rw [Nat.gcd_zero_right]; rfl⟩
    | cons d r =>
      refine ⟨some d, some (.p (.int 0)), ?_⟩
      have := gc_stop a (some d) st
      rw [Nat.gcd_zero_right]
      simp only [loopF, gSet, List.set_cons_succ, List.set_cons_zero]
      rw [show (((0 : Nat) : Int)) = 0 from rfl, this]
      rfl
  have go : ∀ (a b : Nat) (d : D) (r : List D) (t : Option D) (st : Store), 0 < b → loopF (gSet 2) gcBody (d :: r) [some (.p (.int a)), some (.p (.int b)), t] st = loopF (gSet 2) gcBody r [some (.p (.int b)), some (.p (.int ((a % b : Nat) : Int))), some d] st := by
    intro a b d r t st hb
    rw [loopF]
    simp only [gSet, List.set_cons_succ, List.set_cons_zero]
    rw [gc_step a b hb]
    rfl
  induction k with
  | zero =>
    intro a b l t st hb _
    have : b = 0 := by simpa using hb
    subst this
    exact stop a l t st
  | succ k ih =>
    intro a b l t st hb hl
    by_cases h0 : b = 0
    · subst h0; exact stop a l t st
    · obtain ⟨d, l, rfl⟩ : ∃ d r, l = d :: r := by
        cases l with
        | nil => simp at hl
        | cons d r => exact ⟨d, r, rfl⟩
      rw [go a b d l t st (by omega)]
      rw [show Nat.gcd a b = Nat.gcd b (a % b) by rw [Nat.gcd_comm a b, Nat.gcd_rec b a, Nat.gcd_comm]]
      by_cases h1 : a % b = 0
      · rw [h1]; exact stop b l _ st
      · obtain ⟨d', l, rfl⟩ : ∃ d r, l = d :: r := by
          cases l with
          | nil => simp at hl; omega
          | cons d r => exact ⟨d, r, rfl⟩
        rw [go b (a % b) d' l _ st (by omega)]
        rw [show Nat.gcd b (a % b) = Nat.gcd (a % b) (b % (a % b)) by rw [Nat.gcd_comm b (a % b), Nat.gcd_rec (a % b) b, Nat.gcd_comm]]
        refine ih _ _ _ _ _ ?_ (by simp at hl; omega)
        have h2 : a % b < b := Nat.mod_lt _ (by omega)
        have h3 : b % (a % b) < a % b := Nat.mod_lt _ (by omega)
        have h4 : b % (a % b) ≤ b - (a % b) := by
          rw [Nat.mod_eq_sub_mod (by omega : b ≥ a % b)]
          exact Nat.mod_le _ _
        have h5 : 2 ^ (k + 1) = 2 ^ k * 2 := Nat.pow_succ 2 k
        omega
theorem natAbs_abs (i : Int) : (if i < 0 then -i else i) = (i.natAbs : Int) := by split <;> omega
theorem p_law_gcd (n d : Int) (h0 : 0 < d) (hd : d < 1000000000) (st : Store) : pR r__law_gcd [.p (.int n), .p (.int d)] st = .ok (.p (.int (gc n d))) st := by
  refine pR_ok (es := [.int n, .int d]) (st1 := []) ?_
  have rl : (rngD 0 5000).length = 5000 := by simp [rngD]
  obtain ⟨t', b', e⟩ := gc_loop 30 n.natAbs d.natAbs (rngD 0 5000) none [] (by omega) (by rw [rl]; decide)
  have ok : rngOk 5000 = true := by decide
  simp [gcBody] at e
  simp [r__law_gcd, m__law_gcd, runB, startE, endB, sRet, sSeq, sSet, sIf, sDrop, sNx, sNo, sBrk, sCont, sPar, sAsg, sFor, sWhile, sRaise, sFldS, gSet, gTupD, gCons', gNil', gSubD, fVar, fC, fBin, binS, binV, addV_int, subV, powV, asP, asPs, pds, ofO, ofD, fCmp, cmpS, cmpO, cmpV, ltV, leV, fChain, fAnd, fOr, fNot, fIte, fT, truB, fNeg, fOrS, fCall, fCons, fNil, fStar, fTup, fLst, fNew, newLst, fIdx, idxO, fSli, fPart, sliV, fFld, fldO, lookF, fMeth, fMake, fnV, lenV, absV, minV, intV, listV, fIsi, isiO, tyName, fBm, mtyp, mAppend, mPop, mExtend, itemsD, fCallK, fCallK0, fIter, iterD, fRng1, fLc, tT1, fEnd, putD, itemsO, L2.atI, L2.ixN, natAbs_abs, ok, e, gc]
theorem p_law_frac (n d : Int) (h0 : 0 < d) (hd : d < 1000000000) (st : Store) : pR r__law_frac [.p (.int n), .p (.int d)] st = .ok (.p (.tuple [.int (n / gc n d), .int (d / gc n d)])) st := by
  refine pR_ok (es := [.int n, .int d]) (st1 := []) ?_
  have h1 := gc_pos (n := n) h0
  have h2 := gc_le (n := n) h0
  have h3 : gc n d < 1073741824 := by omega
  have h4 : ¬ d < 0 := by omega
  have h5 : (if gc n d > 1 then gc n d else 1) = gc n d := by split <;> omega
  simp [r__law_frac, m__law_frac, runB, startE, endB, sRet, sSeq, sSet, sIf, sDrop, sNx, sNo, sBrk, sCont, sPar, sAsg, sFor, sWhile, sRaise, sFldS, gSet, gTupD, gCons', gNil', gSubD, fVar, fC, fBin, binS, binV, addV_int, subV, powV, asP, asPs, pds, ofO, ofD, fCmp, cmpS, cmpO, cmpV, ltV, leV, fChain, fAnd, fOr, fNot, fIte, fT, truB, fNeg, fOrS, fCall, fCons, fNil, fStar, fTup, fLst, fNew, newLst, fIdx, idxO, fSli, fPart, sliV, fFld, fldO, lookF, fMeth, fMake, fnV, lenV, absV, minV, intV, listV, fIsi, isiO, tyName, fBm, mtyp, mAppend, mPop, mExtend, itemsD, fCallK, fCallK0, fIter, iterD, fRng1, fLc, tT1, fEnd, putD, itemsO, L2.atI, L2.ixN, p_law_gcd n d h0 hd, h4, h5, maxV, mulV_r, fdivV_pos, h1, h3, szl]
theorem p_law_number {n p : Int} (h : Dec n p) (st : Store) : pR r__law_number [.p (.int n), .p (.int p)] st = .ok (.p (fr n p)) st := by
  refine pR_ok (es := [.int n, .int p]) (st1 := []) ?_
  have ⟨t1, t2⟩ := tn_small p h.p0 h.p4
  have h9 : p ≤ 9 := by have := h.p4; omega
  simp [r__law_number, m__law_number, runB, startE, endB, sRet, sSeq, sSet, sIf, sDrop, sNx, sNo, sBrk, sCont, sPar, sAsg, sFor, sWhile, sRaise, sFldS, gSet, gTupD, gCons', gNil', gSubD, fVar, fC, fBin, binS, binV, addV_int, subV, powV, asP, asPs, pds, ofO, ofD, fCmp, cmpS, cmpO, cmpV, ltV, leV, fChain, fAnd, fOr, fNot, fIte, fT, truB, fNeg, fOrS, fCall, fCons, fNil, fStar, fTup, fLst, fNew, newLst, fIdx, idxO, fSli, fPart, sliV, fFld, fldO, lookF, fMeth, fMake, fnV, lenV, absV, minV, intV, listV, fIsi, isiO, tyName, fBm, mtyp, mAppend, mPop, mExtend, itemsD, fCallK, fCallK0, fIter, iterD, fRng1, fLc, tT1, fEnd, putD, itemsO, L2.atI, L2.ixN, p_power p h.p0 h9, p_law_frac n (tn p) t1 (by omega), fr]
/-! ### rounding -/
def ra (n p : Int) : Int := n / gc n (tn p)
def rb (n p : Int) : Int := tn p / gc n (tn p)
theorem fr_eq (n p : Int) : fr n p = .tuple [.int (ra n p), .int (rb n p)] := rfl
theorem gc_dvd_l (n d : Int) : gc n d ∣ n := by
  unfold gc
  exact Int.ofNat_dvd_left.mpr (Nat.gcd_dvd_left _ _)
theorem gc_dvd_r (n d : Int) : gc n d ∣ d := by
  unfold gc
  exact Int.ofNat_dvd_left.mpr (Nat.gcd_dvd_right _ _)
theorem ra_mul (n p : Int) : ra n p * gc n (tn p) = n := Int.ediv_mul_cancel (gc_dvd_l _ _)
theorem rb_mul (n p : Int) : rb n p * gc n (tn p) = tn p := Int.ediv_mul_cancel (gc_dvd_r _ _)
theorem rb_pos {n p : Int} (h : Dec n p) : 0 < rb n p ∧ rb n p ≤ 10000 := by
  have ⟨t1, t2⟩ := tn_small p h.p0 h.p4
  have g := gc_pos (n := n) t1
  have e := rb_mul n p
  constructor
  · apply Int.pos_of_mul_pos_left (b := gc n (tn p)) _ g
    omega
  · have : tn p / gc n (tn p) ≤ tn p := Int.ediv_le_self _ (by omega)
    unfold rb; omega
theorem fr_gcd {n p : Int} (h : Dec n p) : gc (ra n p) (rb n p) = 1 := by
  have ⟨t1, t2⟩ := tn_small p h.p0 h.p4
  have g := gc_pos (n := n) t1
  unfold gc ra rb
  have h1 := Int.natAbs_ediv_of_dvd (gc_dvd_l n (tn p))
  have h2 := Int.natAbs_ediv_of_dvd (gc_dvd_r n (tn p))
  rw [h1, h2]
  have e : (gc n (tn p)).natAbs = Nat.gcd n.natAbs (tn p).natAbs := by unfold gc; simp
  rw [e, Nat.coprime_div_gcd_div_gcd (by rw [← e]; omega)]
  rfl
/-- a decimal's number times so many tens, rounded -/
def rd (n p m : Int) : Int := (2 * ra n p * tn m + rb n p) / (2 * rb n p)
theorem p_is_fraction {n p : Int} (h : Dec n p) (st : Store) : pR r_is_fraction [.p (fr n p)] st = .ok (.p (.bool true)) st := by
  refine pR_ok (es := [fr n p]) (st1 := []) ?_
  have ⟨h1, h2⟩ := rb_pos h
  simp [r_is_fraction, m_is_fraction, runB, startE, endB, sRet, sSeq, sSet, sIf, sDrop, sNx, sNo, sBrk, sCont, sPar, sAsg, sFor, sWhile, sRaise, sFldS, gSet, gTupD, gCons', gNil', gSubD, fVar, fC, fBin, binS, binV, addV_int, subV, powV, asP, asPs, pds, ofO, ofD, fCmp, cmpS, cmpO, cmpV, ltV, leV, fChain, fAnd, fOr, fNot, fIte, fT, truB, fNeg, fOrS, fCall, fCons, fNil, fStar, fTup, fLst, fNew, newLst, fIdx, idxO, fSli, fPart, sliV, fFld, fldO, lookF, fMeth, fMake, fnV, lenV, absV, minV, intV, listV, fIsi, isiO, tyName, fBm, mtyp, mAppend, mPop, mExtend, itemsD, fCallK, fCallK0, fIter, iterD, fRng1, fLc, tT1, fEnd, putD, itemsO, L2.atI, L2.ixN, fr_eq, is2, pw_int, gcdV_gc, fr_gcd h, h1, eq_int]
theorem p_rounded_at {n p m : Int} (h : Dec n p) (h0 : 0 ≤ m) (h9 : m ≤ 9) (st : Store) : pR r_rounded_at [.p (fr n p), .p (.int m)] st = .ok (.p (.int (rd n p m))) st := by
  refine pR_ok (es := [fr n p, .int m]) (st1 := []) ?_
  have ⟨h1, h2⟩ := rb_pos h
  have ⟨t1, t2⟩ := tn_pos m h0 h9
  simp [r_rounded_at, m_rounded_at, runB, startE, endB, sRet, sSeq, sSet, sIf, sDrop, sNx, sNo, sBrk, sCont, sPar, sAsg, sFor, sWhile, sRaise, sFldS, gSet, gTupD, gCons', gNil', gSubD, fVar, fC, fBin, binS, binV, addV_int, subV, powV, asP, asPs, pds, ofO, ofD, fCmp, cmpS, cmpO, cmpV, ltV, leV, fChain, fAnd, fOr, fNot, fIte, fT, truB, fNeg, fOrS, fCall, fCons, fNil, fStar, fTup, fLst, fNew, newLst, fIdx, idxO, fSli, fPart, sliV, fFld, fldO, lookF, fMeth, fMake, fnV, lenV, absV, minV, intV, listV, fIsi, isiO, tyName, fBm, mtyp, mAppend, mPop, mExtend, itemsD, fCallK, fCallK0, fIter, iterD, fRng1, fLc, tT1, fEnd, putD, itemsO, L2.atI, L2.ixN, fr_eq, p_tens m h0 h9, mulV_l 2 (ra n p) (by decide), mulV_l 2 (rb n p) (by decide), mulV_r (2 * ra n p) (tn m) (by omega), fdivV_pos _ (2 * rb n p) (by omega) (by omega), rd]
theorem p_rounded {n p m : Int} (h : Dec n p) (h0 : 0 ≤ m) (h9 : m ≤ 9) (st : Store) : pR r_rounded [.p (fr n p), .p (.int m)] st = .ok (.p (.int (rd n p m))) st := by
  refine pR_ok (es := [fr n p, .int m]) (st1 := []) ?_
  simp [r_rounded, m_rounded, runB, startE, endB, sRet, sSeq, sSet, sIf, sDrop, sNx, sNo, sBrk, sCont, sPar, sAsg, sFor, sWhile, sRaise, sFldS, gSet, gTupD, gCons', gNil', gSubD, fVar, fC, fBin, binS, binV, addV_int, subV, powV, asP, asPs, pds, ofO, ofD, fCmp, cmpS, cmpO, cmpV, ltV, leV, fChain, fAnd, fOr, fNot, fIte, fT, truB, fNeg, fOrS, fCall, fCons, fNil, fStar, fTup, fLst, fNew, newLst, fIdx, idxO, fSli, fPart, sliV, fFld, fldO, lookF, fMeth, fMake, fnV, lenV, absV, minV, intV, listV, fIsi, isiO, tyName, fBm, mtyp, mAppend, mPop, mExtend, itemsD, fCallK, fCallK0, fIter, iterD, fRng1, fLc, tT1, fEnd, putD, itemsO, L2.atI, L2.ixN, p_is_fraction h, p_chkpl_ok h0 h9, p_rounded_at h h0 h9]
theorem p_law_rounded {n p m : Int} (h : Dec n p) (h0 : 0 ≤ m) (h9 : m ≤ 9) (st : Store) : pR r__law_rounded [.p (fr n p), .p (.int m)] st = .ok (.p (.int (rd n p m))) st := by
  refine pR_ok (es := [fr n p, .int m]) (st1 := []) ?_
  have ⟨h1, h2⟩ := rb_pos h
  have ⟨t1, t2⟩ := tn_pos m h0 h9
  simp [r__law_rounded, m__law_rounded, runB, startE, endB, sRet, sSeq, sSet, sIf, sDrop, sNx, sNo, sBrk, sCont, sPar, sAsg, sFor, sWhile, sRaise, sFldS, gSet, gTupD, gCons', gNil', gSubD, fVar, fC, fBin, binS, binV, addV_int, subV, powV, asP, asPs, pds, ofO, ofD, fCmp, cmpS, cmpO, cmpV, ltV, leV, fChain, fAnd, fOr, fNot, fIte, fT, truB, fNeg, fOrS, fCall, fCons, fNil, fStar, fTup, fLst, fNew, newLst, fIdx, idxO, fSli, fPart, sliV, fFld, fldO, lookF, fMeth, fMake, fnV, lenV, absV, minV, intV, listV, fIsi, isiO, tyName, fBm, mtyp, mAppend, mPop, mExtend, itemsD, fCallK, fCallK0, fIter, iterD, fRng1, fLc, tT1, fEnd, putD, itemsO, L2.atI, L2.ixN, fr_eq, p_power m h0 h9, mulV_l 2 (ra n p) (by decide), mulV_l 2 (rb n p) (by decide), mulV_r (2 * ra n p) (tn m) (by omega), fdivV_pos _ (2 * rb n p) (by omega) (by omega), rd]
theorem rd_same {n p : Int} (h : Dec n p) : rd n p p = n := by
  have ⟨h1, h2⟩ := rb_pos h
  have e1 := ra_mul n p
  have e2 := rb_mul n p
  unfold rd
  have : 2 * ra n p * tn p + rb n p = (2 * n + 1) * rb n p := by
    rw [← e2]
    calc 2 * ra n p * (rb n p * gc n (tn p)) + rb n p = (2 * (ra n p * gc n (tn p)) + 1) * rb n p := by
          rw [Int.add_mul, Int.one_mul]
          congr 1
          simp only [Int.mul_assoc, Int.mul_comm, Int.mul_left_comm]
      _ = _ := by rw [e1]
  rw [this]
  rw [Int.mul_ediv_mul_of_pos_left _ _ h1]
  omega
end K32
end

section
set_option Elab.async false
set_option linter.all false
set_option maxRecDepth 100000
set_option maxHeartbeats 4000000
/-! K32m3: the plain law, texts of numbers. -/
namespace K32
open PySem Mp SX
open L2 (cutS)
open C8 (cutS_slice)
theorem s_0 : ("0" : Str) = S [48] := by kernel_rfl
theorem s_m : ("-" : Str) = S [45] := by kernel_rfl
theorem s_p : ("." : Str) = S [46] := by kernel_rfl
theorem s_e : ("" : Str) = S [] := by kernel_rfl
theorem addV_S (a b : List Nat) (h : a.length + b.length ≤ 16777216) : addV (.str (S a)) (.str (S b)) = some (.str (S (a ++ b))) := by
  rw [addV, S_len, S_len, szl, if_pos h, S_cat]
theorem rep_S (c : Nat) (k : Int) (h : k < 1000000) (h2 : -1000000 < k) : mulV (.str (S [c])) (.int k) = some (.str (S (List.replicate k.toNat c))) := by
  have h1 : repOk (S [c]) k = true := by simp [repOk, S_len, h, h2]
  rw [mulV, if_pos h1]
  have : repS (S [c]) k.toNat = S (List.replicate k.toNat c) := by
    unfold repS
    show (⟨(List.replicate k.toNat [c]).flatten.toArray⟩ : Str) = _
    congr 2
    induction k.toNat with
    | zero => rfl
    | succ n ih => rw [List.replicate_succ, List.replicate_succ, List.flatten_cons, ih]; rfl
  rw [this]
theorem cut_to (a : List Nat) (i : Int) (h : 0 ≤ i) : cutS (S a) none (some i) = S (a.take i.toNat) := by
  rw [cutS_slice, slice_to h]
theorem cut_from (a : List Nat) (i : Int) (h : 0 ≤ i) : cutS (S a) (some i) none = S (a.drop i.toNat) := by
  rw [cutS_slice, slice_from h]
theorem str_num (m : Nat) (h : m < 10 ^ 20) : strV [.int (m : Int)] = some (.str (S (TL.numL m))) := by
  have : (m : Int).natAbs.log2 < 1920 := by
    rw [Int.natAbs_natCast]
    by_cases h0 : m = 0
    · subst h0; decide
    · rw [Nat.log2_lt h0]
      exact Nat.lt_trans h (by decide)
  rw [strV, if_pos this]
  unfold strI
  rw [num_S]
/-- the figures, noughts ahead -/
def pad (m q : Nat) : List Nat := List.replicate (q + 1 - (TL.numL m).length) 48 ++ TL.numL m
def fg (m q : Nat) : List Nat := if q = 0 then TL.numL m else (pad m q).take ((pad m q).length - q) ++ 46 :: (pad m q).drop ((pad m q).length - q)
def sg (n : Int) : List Nat := if n < 0 then [45] else []
def tx (n : Int) (q : Nat) : List Nat := sg n ++ fg n.natAbs q
theorem num_len (m : Nat) (h : m < 10 ^ 20) : (TL.numL m).length ≤ 20 := TL.numL_len (by decide) h
theorem num_pos (m : Nat) : 1 ≤ (TL.numL m).length := by
  have := TL.numL_ne m
  cases e : TL.numL m with
  | nil => exact absurd e this
  | cons a r => simp
theorem pad_len (m q : Nat) : (pad m q).length = max (q + 1) (TL.numL m).length := by
  unfold pad
  rw [List.length_append, List.length_replicate]
  omega
theorem addV_S' (a b c : List Nat) (h : a.length + b.length ≤ 16777216) (e : a ++ b = c) : addV (.str (S a)) (.str (S b)) = some (.str (S c)) := by rw [addV_S a b h, e]
theorem p_text_at (n : Int) (q : Nat) (hn : n.natAbs < 10 ^ 20) (hq : q ≤ 9) (st : Store) : pR r_text_at [.p (.int n), .p (.int q)] st = .ok (.p (.str (S (tx n q)))) st := by
  refine pR_ok (es := [.int n, .int q]) (st1 := []) ?_
  have h1 := num_len _ hn
  have h2 := num_pos n.natAbs
  have h3 := pad_len n.natAbs q
  have a1 := addV_S' [45] (TL.numL n.natAbs) (45 :: TL.numL n.natAbs) (by simp; omega) rfl
  have a2 := addV_S' [] (TL.numL n.natAbs) (TL.numL n.natAbs) (by simp; omega) rfl
  have a3 := addV_S (List.replicate (q + 1 - (TL.numL n.natAbs).length) 48) (TL.numL n.natAbs) (by simp; omega)
  have r1 := rep_S 48 ((q : Int) + 1 - (TL.numL n.natAbs).length) (by omega) (by omega)
  have mx : maxV [.int 0, .int ((q : Int) + 1 - (TL.numL n.natAbs).length)] = some (.int ((q + 1 - (TL.numL n.natAbs).length : Nat) : Int)) := by
    have h : (if (q : Int) + 1 - (TL.numL n.natAbs).length > 0 then (q : Int) + 1 - (TL.numL n.natAbs).length else 0) = ((q + 1 - (TL.numL n.natAbs).length : Nat) : Int) := by split <;> omega
    rw [maxV, h]
  have r2 := rep_S 48 ((q + 1 - (TL.numL n.natAbs).length : Nat) : Int) (by omega) (by omega)
  rw [Int.toNat_natCast] at r2
  have e1 : ((q : Int) + 1 - (TL.numL n.natAbs).length).toNat = q + 1 - (TL.numL n.natAbs).length := by omega
  rw [e1] at r1
  have c1 := cut_to (pad n.natAbs q) ((pad n.natAbs q).length - q) (by omega)
  have c2 := cut_from (pad n.natAbs q) ((pad n.natAbs q).length - q) (by omega)
  have e2 : (((pad n.natAbs q).length : Int) - q).toNat = (pad n.natAbs q).length - q := by omega
  rw [e2] at c1 c2
  generalize hT : (pad n.natAbs q).take ((pad n.natAbs q).length - q) = T at *
  generalize hR : (pad n.natAbs q).drop ((pad n.natAbs q).length - q) = U at *
  have tl : T.length ≤ 30 := by rw [← hT]; simp; omega
  have ul : U.length ≤ 30 := by rw [← hR]; simp; omega
  have b1 := addV_S' [45] T (45 :: T) (by simp; omega) rfl
  have b2 := addV_S' [] T T (by simp; omega) rfl
  have b3 := addV_S' (45 :: T) [46] (45 :: (T ++ [46])) (by simp; omega) rfl
  have b4 := addV_S' T [46] (T ++ [46]) (by simp; omega) rfl
  have b5 := addV_S' (45 :: (T ++ [46])) U (45 :: (T ++ 46 :: U)) (by simp; omega) (by simp)
  have b6 := addV_S' (T ++ [46]) U (T ++ 46 :: U) (by simp; omega) (by simp)
  have b7 := addV_S' [45] (T ++ 46 :: U) (45 :: (T ++ 46 :: U)) (by simp; omega) (by simp)
  have b8 := addV_S' [] (T ++ 46 :: U) (T ++ 46 :: U) (by simp; omega) (by simp)
  have fp : List.replicate (q + 1 - (TL.numL n.natAbs).length) 48 ++ TL.numL n.natAbs = pad n.natAbs q := rfl
  rw [fp] at a3
  generalize hnl : TL.numL n.natAbs = nl at *
  generalize hpl : pad n.natAbs q = pl at *
  have hsn := str_num _ hn
  rw [hnl] at hsn
  have z0 : q = 0 → pl = nl := fun z => by
    subst z
    rw [← fp, show 0 + 1 - nl.length = 0 by omega]
    rfl
  have hE : q = 0 → eqV (.int (q : Int)) (.int 0) = some true := fun z => by rw [eq_int]; simp [z]
  have hN : q ≠ 0 → eqV (.int (q : Int)) (.int 0) = some false := fun z => by rw [eq_int]; simp [z]
  generalize hm : q + 1 - nl.length = mm at *
  by_cases hs : n < 0 <;> by_cases h0 : q = 0
  · have ht : tx n q = 45 :: nl := by simp [tx, sg, fg, hs, h0, hnl]
    have hE := hE h0
    have := z0 h0
    rw [this] at a3
    simp [r_text_at, m_text_at, runB, startE, endB, sRet, sSeq, sSet, sIf, sDrop, sNx, sNo, sBrk, sCont, sPar, sAsg, sFor, sWhile, sRaise, sFldS, gSet, gTupD, gCons', gNil', gSubD, fVar, fC, fBin, binS, binV, addV_int, subV, powV, asP, asPs, pds, ofO, ofD, fCmp, cmpS, cmpO, cmpV, ltV, leV, fChain, fAnd, fOr, fNot, fIte, fT, truB, fNeg, fOrS, fCall, fCons, fNil, fStar, fTup, fLst, fNew, newLst, fIdx, idxO, fSli, fPart, sliV, fFld, fldO, lookF, fMeth, fMake, fnV, lenV, absV, minV, intV, listV, fIsi, isiO, tyName, fBm, mtyp, mAppend, mPop, mExtend, itemsD, fCallK, fCallK0, fIter, iterD, fRng1, fLc, tT1, fEnd, putD, itemsO, L2.atI, L2.ixN, natAbs_abs, hsn, hs, s_m, s_e, hE, a1, ht]
  · have ht : tx n q = 45 :: (T ++ 46 :: U) := by simp [tx, sg, fg, hs, h0, hpl, hT, hR]
    have hN := hN h0
    simp [r_text_at, m_text_at, runB, startE, endB, sRet, sSeq, sSet, sIf, sDrop, sNx, sNo, sBrk, sCont, sPar, sAsg, sFor, sWhile, sRaise, sFldS, gSet, gTupD, gCons', gNil', gSubD, fVar, fC, fBin, binS, binV, addV_int, subV, powV, asP, asPs, pds, ofO, ofD, fCmp, cmpS, cmpO, cmpV, ltV, leV, fChain, fAnd, fOr, fNot, fIte, fT, truB, fNeg, fOrS, fCall, fCons, fNil, fStar, fTup, fLst, fNew, newLst, fIdx, idxO, fSli, fPart, sliV, fFld, fldO, lookF, fMeth, fMake, fnV, lenV, absV, minV, intV, listV, fIsi, isiO, tyName, fBm, mtyp, mAppend, mPop, mExtend, itemsD, fCallK, fCallK0, fIter, iterD, fRng1, fLc, tT1, fEnd, putD, itemsO, L2.atI, L2.ixN, natAbs_abs, hsn, hs, s_m, s_e, s_0, s_p, S_len, r1, a3, c1, c2, b1, b3, b5, hN, ht]
  · have ht : tx n q = nl := by simp [tx, sg, fg, hs, h0, hnl]
    have hE := hE h0
    have := z0 h0
    rw [this] at a3
    simp [r_text_at, m_text_at, runB, startE, endB, sRet, sSeq, sSet, sIf, sDrop, sNx, sNo, sBrk, sCont, sPar, sAsg, sFor, sWhile, sRaise, sFldS, gSet, gTupD, gCons', gNil', gSubD, fVar, fC, fBin, binS, binV, addV_int, subV, powV, asP, asPs, pds, ofO, ofD, fCmp, cmpS, cmpO, cmpV, ltV, leV, fChain, fAnd, fOr, fNot, fIte, fT, truB, fNeg, fOrS, fCall, fCons, fNil, fStar, fTup, fLst, fNew, newLst, fIdx, idxO, fSli, fPart, sliV, fFld, fldO, lookF, fMeth, fMake, fnV, lenV, absV, minV, intV, listV, fIsi, isiO, tyName, fBm, mtyp, mAppend, mPop, mExtend, itemsD, fCallK, fCallK0, fIter, iterD, fRng1, fLc, tT1, fEnd, putD, itemsO, L2.atI, L2.ixN, natAbs_abs, hsn, hs, s_m, s_e, hE, a2, ht]
  · have ht : tx n q = T ++ 46 :: U := by simp [tx, sg, fg, hs, h0, hpl, hT, hR]
    have hN := hN h0
    simp [r_text_at, m_text_at, runB, startE, endB, sRet, sSeq, sSet, sIf, sDrop, sNx, sNo, sBrk, sCont, sPar, sAsg, sFor, sWhile, sRaise, sFldS, gSet, gTupD, gCons', gNil', gSubD, fVar, fC, fBin, binS, binV, addV_int, subV, powV, asP, asPs, pds, ofO, ofD, fCmp, cmpS, cmpO, cmpV, ltV, leV, fChain, fAnd, fOr, fNot, fIte, fT, truB, fNeg, fOrS, fCall, fCons, fNil, fStar, fTup, fLst, fNew, newLst, fIdx, idxO, fSli, fPart, sliV, fFld, fldO, lookF, fMeth, fMake, fnV, lenV, absV, minV, intV, listV, fIsi, isiO, tyName, fBm, mtyp, mAppend, mPop, mExtend, itemsD, fCallK, fCallK0, fIter, iterD, fRng1, fLc, tT1, fEnd, putD, itemsO, L2.atI, L2.ixN, natAbs_abs, hsn, hs, s_m, s_e, s_0, s_p, S_len, r1, a3, c1, c2, b2, b4, b6, hN, ht]
theorem p_figures (n : Int) (q : Nat) (hn : n.natAbs < 10 ^ 20) (hq : q ≤ 9) (st : Store) : pR r__law_figures [.p (.int n), .p (.int q)] st = .ok (.p (.str (S (tx n q)))) st := by
  refine pR_ok (es := [.int n, .int q]) (st1 := []) ?_
  have h1 := num_len _ hn
  have h2 := num_pos n.natAbs
  have h3 := pad_len n.natAbs q
  have a1 := addV_S' [45] (TL.numL n.natAbs) (45 :: TL.numL n.natAbs) (by simp; omega) rfl
  have a2 := addV_S' [] (TL.numL n.natAbs) (TL.numL n.natAbs) (by simp; omega) rfl
  have a3 := addV_S (List.replicate (q + 1 - (TL.numL n.natAbs).length) 48) (TL.numL n.natAbs) (by simp; omega)
  have r1 := rep_S 48 ((q : Int) + 1 - (TL.numL n.natAbs).length) (by omega) (by omega)
  have mx : maxV [.int 0, .int ((q : Int) + 1 - (TL.numL n.natAbs).length)] = some (.int ((q + 1 - (TL.numL n.natAbs).length : Nat) : Int)) := by
    have h : (if (q : Int) + 1 - (TL.numL n.natAbs).length > 0 then (q : Int) + 1 - (TL.numL n.natAbs).length else 0) = ((q + 1 - (TL.numL n.natAbs).length : Nat) : Int) := by split <;> omega
    rw [maxV, h]
  have r2 := rep_S 48 ((q + 1 - (TL.numL n.natAbs).length : Nat) : Int) (by omega) (by omega)
  rw [Int.toNat_natCast] at r2
  have e1 : ((q : Int) + 1 - (TL.numL n.natAbs).length).toNat = q + 1 - (TL.numL n.natAbs).length := by omega
  rw [e1] at r1
  have c1 := cut_to (pad n.natAbs q) ((pad n.natAbs q).length - q) (by omega)
  have c2 := cut_from (pad n.natAbs q) ((pad n.natAbs q).length - q) (by omega)
  have e2 : (((pad n.natAbs q).length : Int) - q).toNat = (pad n.natAbs q).length - q := by omega
  rw [e2] at c1 c2
  generalize hT : (pad n.natAbs q).take ((pad n.natAbs q).length - q) = T at *
  generalize hR : (pad n.natAbs q).drop ((pad n.natAbs q).length - q) = U at *
  have tl : T.length ≤ 30 := by rw [← hT]; simp; omega
  have ul : U.length ≤ 30 := by rw [← hR]; simp; omega
  have b1 := addV_S' [45] T (45 :: T) (by simp; omega) rfl
  have b2 := addV_S' [] T T (by simp; omega) rfl
  have b3 := addV_S' (45 :: T) [46] (45 :: (T ++ [46])) (by simp; omega) rfl
  have b4 := addV_S' T [46] (T ++ [46]) (by simp; omega) rfl
  have b5 := addV_S' (45 :: (T ++ [46])) U (45 :: (T ++ 46 :: U)) (by simp; omega) (by simp)
  have b6 := addV_S' (T ++ [46]) U (T ++ 46 :: U) (by simp; omega) (by simp)
  have b7 := addV_S' [45] (T ++ 46 :: U) (45 :: (T ++ 46 :: U)) (by simp; omega) (by simp)
  have b8 := addV_S' [] (T ++ 46 :: U) (T ++ 46 :: U) (by simp; omega) (by simp)
  have fp : List.replicate (q + 1 - (TL.numL n.natAbs).length) 48 ++ TL.numL n.natAbs = pad n.natAbs q := rfl
  rw [fp] at a3
  generalize hnl : TL.numL n.natAbs = nl at *
  generalize hpl : pad n.natAbs q = pl at *
  have hsn := str_num _ hn
  rw [hnl] at hsn
  have z0 : q = 0 → pl = nl := fun z => by
    subst z
    rw [← fp, show 0 + 1 - nl.length = 0 by omega]
    rfl
  have hE : q = 0 → eqV (.int (q : Int)) (.int 0) = some true := fun z => by rw [eq_int]; simp [z]
  have hN : q ≠ 0 → eqV (.int (q : Int)) (.int 0) = some false := fun z => by rw [eq_int]; simp [z]
  generalize hm : q + 1 - nl.length = mm at *
  rw [← S_len nl] at mx
  rw [← S_len pl] at c1 c2
  obtain ⟨kk, hkk⟩ : ∃ kk : Int, kk = (mm : Int) := ⟨_, rfl⟩
  rw [← hkk] at mx r2
  by_cases hs : n < 0 <;> by_cases h0 : q = 0
  · have ht : tx n q = 45 :: nl := by simp [tx, sg, fg, hs, h0, hnl]
    have hE := hE h0
    have := z0 h0
    rw [this] at a3
    simp [r__law_figures, m__law_figures, runB, startE, endB, sRet, sSeq, sSet, sIf, sDrop, sNx, sNo, sBrk, sCont, sPar, sAsg, sFor, sWhile, sRaise, sFldS, gSet, gTupD, gCons', gNil', gSubD, fVar, fC, fBin, binS, binV, addV_int, subV, powV, asP, asPs, pds, ofO, ofD, fCmp, cmpS, cmpO, cmpV, ltV, leV, fChain, fAnd, fOr, fNot, fIte, fT, truB, fNeg, fOrS, fCall, fCons, fNil, fStar, fTup, fLst, fNew, newLst, fIdx, idxO, fSli, fPart, sliV, fFld, fldO, lookF, fMeth, fMake, fnV, lenV, absV, minV, intV, listV, fIsi, isiO, tyName, fBm, mtyp, mAppend, mPop, mExtend, itemsD, fCallK, fCallK0, fIter, iterD, fRng1, fLc, tT1, fEnd, putD, itemsO, L2.atI, L2.ixN, natAbs_abs, hsn, hs, s_m, s_e, s_0, s_p, hE, mx, r2, a1, a3, ht]
  · have ht : tx n q = 45 :: (T ++ 46 :: U) := by simp [tx, sg, fg, hs, h0, hpl, hT, hR]
    have hN := hN h0
    simp [r__law_figures, m__law_figures, runB, startE, endB, sRet, sSeq, sSet, sIf, sDrop, sNx, sNo, sBrk, sCont, sPar, sAsg, sFor, sWhile, sRaise, sFldS, gSet, gTupD, gCons', gNil', gSubD, fVar, fC, fBin, binS, binV, addV_int, subV, powV, asP, asPs, pds, ofO, ofD, fCmp, cmpS, cmpO, cmpV, ltV, leV, fChain, fAnd, fOr, fNot, fIte, fT, truB, fNeg, fOrS, fCall, fCons, fNil, fStar, fTup, fLst, fNew, newLst, fIdx, idxO, fSli, fPart, sliV, fFld, fldO, lookF, fMeth, fMake, fnV, lenV, absV, minV, intV, listV, fIsi, isiO, tyName, fBm, mtyp, mAppend, mPop, mExtend, itemsD, fCallK, fCallK0, fIter, iterD, fRng1, fLc, tT1, fEnd, putD, itemsO, L2.atI, L2.ixN, natAbs_abs, hsn, hs, s_m, s_e, s_0, s_p, mx, r2, a3, c1, c2, b4, b6, b7, hN, ht]
  · have ht : tx n q = nl := by simp [tx, sg, fg, hs, h0, hnl]
    have hE := hE h0
    have := z0 h0
    rw [this] at a3
    simp [r__law_figures, m__law_figures, runB, startE, endB, sRet, sSeq, sSet, sIf, sDrop, sNx, sNo, sBrk, sCont, sPar, sAsg, sFor, sWhile, sRaise, sFldS, gSet, gTupD, gCons', gNil', gSubD, fVar, fC, fBin, binS, binV, addV_int, subV, powV, asP, asPs, pds, ofO, ofD, fCmp, cmpS, cmpO, cmpV, ltV, leV, fChain, fAnd, fOr, fNot, fIte, fT, truB, fNeg, fOrS, fCall, fCons, fNil, fStar, fTup, fLst, fNew, newLst, fIdx, idxO, fSli, fPart, sliV, fFld, fldO, lookF, fMeth, fMake, fnV, lenV, absV, minV, intV, listV, fIsi, isiO, tyName, fBm, mtyp, mAppend, mPop, mExtend, itemsD, fCallK, fCallK0, fIter, iterD, fRng1, fLc, tT1, fEnd, putD, itemsO, L2.atI, L2.ixN, natAbs_abs, hsn, hs, s_m, s_e, s_0, s_p, hE, mx, r2, a2, a3, ht]
  · have ht : tx n q = T ++ 46 :: U := by simp [tx, sg, fg, hs, h0, hpl, hT, hR]
    have hN := hN h0
    simp [r__law_figures, m__law_figures, runB, startE, endB, sRet, sSeq, sSet, sIf, sDrop, sNx, sNo, sBrk, sCont, sPar, sAsg, sFor, sWhile, sRaise, sFldS, gSet, gTupD, gCons', gNil', gSubD, fVar, fC, fBin, binS, binV, addV_int, subV, powV, asP, asPs, pds, ofO, ofD, fCmp, cmpS, cmpO, cmpV, ltV, leV, fChain, fAnd, fOr, fNot, fIte, fT, truB, fNeg, fOrS, fCall, fCons, fNil, fStar, fTup, fLst, fNew, newLst, fIdx, idxO, fSli, fPart, sliV, fFld, fldO, lookF, fMeth, fMake, fnV, lenV, absV, minV, intV, listV, fIsi, isiO, tyName, fBm, mtyp, mAppend, mPop, mExtend, itemsD, fCallK, fCallK0, fIter, iterD, fRng1, fLc, tT1, fEnd, putD, itemsO, L2.atI, L2.ixN, natAbs_abs, hsn, hs, s_m, s_e, s_0, s_p, mx, r2, a3, c1, c2, b4, b6, b8, hN, ht]
end K32
end

section
set_option Elab.async false
set_option linter.all false
set_option maxRecDepth 100000
set_option maxHeartbeats 4000000
/-! K32m4: the plain law, a number's text read back: the text, its token. -/
namespace K32
open PySem Mp SX
open L2 (cutS)
open C8 (cutS_slice)
/-! ### the text -/
def Ax (m q : Nat) : List Nat := (pad m q).take ((pad m q).length - q)
def Bx (m q : Nat) : List Nat := (pad m q).drop ((pad m q).length - q)
def ux (m q : Nat) : List Nat := Ax m q ++ (if q = 0 then [] else 46 :: Bx m q)
theorem fg_ux (m q : Nat) : fg m q = ux m q := by
  unfold fg ux Ax
  by_cases h : q = 0
  · subst h
    have := num_pos m
    simp only [if_true]
    have e : pad m 0 = TL.numL m := by
      unfold pad
      rw [show 0 + 1 - (TL.numL m).length = 0 by omega]
      rfl
    rw [e, Nat.sub_zero, List.take_length, List.append_nil]
  · rw [if_neg h, if_neg h]; rfl
theorem tx_ux (n : Int) (q : Nat) : tx n q = sg n ++ ux n.natAbs q := by unfold tx; rw [fg_ux]
theorem AB_pad (m q : Nat) : Ax m q ++ Bx m q = pad m q := List.take_append_drop _ _
theorem B_len (m q : Nat) : (Bx m q).length = q := by
  have := pad_len m q
  unfold Bx
  rw [List.length_drop]
  omega
theorem A_len (m q : Nat) : (Ax m q).length = (pad m q).length - q := by
  unfold Ax
  rw [List.length_take]
  omega
theorem A_pos (m q : Nat) : 1 ≤ (Ax m q).length := by
  have := pad_len m q
  rw [A_len]
  omega
def Dg (c : Nat) : Prop := 48 ≤ c ∧ c ≤ 57
theorem num_dg (m : Nat) : ∀ c ∈ TL.numL m, Dg c := TL.numL_digits m
theorem pad_dg (m q : Nat) : ∀ c ∈ pad m q, Dg c := by
  intro c hc
  rcases List.mem_append.mp hc with h | h
  · have := List.eq_of_mem_replicate h
    subst this
    exact ⟨by decide, by decide⟩
  · exact num_dg m c h
theorem A_dg (m q : Nat) : ∀ c ∈ Ax m q, Dg c := fun c hc => pad_dg m q c (List.mem_of_mem_take hc)
theorem B_dg (m q : Nat) : ∀ c ∈ Bx m q, Dg c := fun c hc => pad_dg m q c (List.mem_of_mem_drop hc)
def val (l : List Nat) (a : Int) : Int := l.foldl (fun (t : Int) (c : Nat) => t * 10 + ((c : Int) - 48)) a
theorem pad_val (m q : Nat) : val (pad m q) 0 = (m : Int) := by
  have z : ∀ k : Nat, val (List.replicate k 48) 0 = 0 := by
    intro k
    induction k with
    | zero => rfl
    | succ k ih => rw [List.replicate_succ]; exact ih
  unfold pad val
  rw [List.foldl_append]
  have := z (q + 1 - (TL.numL m).length)
  unfold val at this
  rw [this]
  exact TL.fold_num m
theorem num_head (m : Nat) : 0 < m → (TL.numL m)[0]? ≠ some 48 := by
  induction m using Nat.strongRecOn with
  | ind m ih =>
    intro h
    by_cases h1 : m < 10
    · rw [TL.numL_lt h1]
      simp
      omega
    · rw [TL.numL_step (by omega)]
      have hp := num_pos (m / 10)
      rw [List.getElem?_append_left (by omega)]
      exact ih (m / 10) (by omega) (by omega)
theorem A_head {m q : Nat} (h : 1 < (Ax m q).length) : (Ax m q)[0]? ≠ some 48 := by
  have h1 := A_len m q
  have h2 := pad_len m q
  have e : pad m q = TL.numL m := by
    unfold pad
    rw [show q + 1 - (TL.numL m).length = 0 by omega]
    rfl
  have h3 : 10 ≤ m := by
    rcases Nat.lt_or_ge m 10 with h3 | h3
    · rw [TL.numL_lt h3] at h2
      simp at h2
      omega
    · exact h3
  unfold Ax
  rw [List.getElem?_take_of_lt (by rw [A_len] at h; omega), e]
  exact num_head m (by omega)
theorem ux_len (m q : Nat) (h : m < 10 ^ 20) (hq : q ≤ 9) : (ux m q).length ≤ 31 := by
  have h1 := num_len m h
  have h2 := pad_len m q
  have h3 := A_len m q
  have h4 := B_len m q
  unfold ux
  rw [List.length_append]
  split <;> simp <;> omega
theorem tx_len (n : Int) (q : Nat) (h : n.natAbs < 10 ^ 20) (hq : q ≤ 9) : (tx n q).length ≤ 32 := by
  have := ux_len n.natAbs q h hq
  rw [tx_ux, List.length_append]
  unfold sg
  split <;> simp <;> omega
theorem ux_mem {m q : Nat} : ∀ c ∈ ux m q, Dg c ∨ c = 46 := by
  intro c hc
  unfold ux at hc
  rcases List.mem_append.mp hc with h | h
  · exact .inl (A_dg m q c h)
  · split at h
    · simp at h
    · rcases List.mem_cons.mp h with h | h
      · exact .inr h
      · exact .inl (B_dg m q c h)
theorem ux_cons (m q : Nat) : ∃ c r, ux m q = c :: r ∧ Dg c := by
  have h1 := A_pos m q
  cases e : Ax m q with
  | nil => rw [e] at h1; simp at h1
  | cons c r => exact ⟨c, r ++ (if q = 0 then [] else 46 :: Bx m q), by rw [ux, e]; rfl, A_dg m q c (by rw [e]; simp)⟩
/-- a text that is one token: a sign or none, a figure, figures and points -/
structure Tok (L : List Nat) : Prop where
  len : L.length ≤ 32
  hd : (∃ c r, L = c :: r ∧ Dg c ∧ ∀ x ∈ r, Dg x ∨ x = 46) ∨ (∃ c r, L = 45 :: c :: r ∧ Dg c ∧ ∀ x ∈ r, Dg x ∨ x = 46)
theorem tx_tok (n : Int) (q : Nat) (h : n.natAbs < 10 ^ 20) (hq : q ≤ 9) : Tok (tx n q) := by
  refine ⟨tx_len n q h hq, ?_⟩
  obtain ⟨c, r, e, d⟩ := ux_cons n.natAbs q
  have m : ∀ x ∈ r, Dg x ∨ x = 46 := fun x hx => ux_mem (m := n.natAbs) (q := q) x (by rw [e]; simp [hx])
  rw [tx_ux, e]
  unfold sg
  split
  · exact .inr ⟨c, r, rfl, d, m⟩
  · exact .inl ⟨c, r, rfl, d, m⟩
abbrev Asc (l : List Nat) : Prop := ∀ c ∈ l, c < 256
theorem asc1 {c : Nat} (h : c < 256) : Asc [c] := fun x hx => by
  have := List.mem_singleton.mp hx
  omega
theorem dg_lt {c : Nat} (h : Dg c) : c < 256 := by unfold Dg at h; omega
theorem Tok.asc {L : List Nat} (h : Tok L) : Asc L := by
  rcases h.hd with ⟨c, r, e, d, m⟩ | ⟨c, r, e, d, m⟩ <;> intro x hx <;> rw [e] at hx <;> simp at hx
  · rcases hx with rfl | hx
    · exact dg_lt d
    · rcases m x hx with h | h
      · exact dg_lt h
      · omega
  · rcases hx with rfl | rfl | hx
    · decide
    · exact dg_lt d
    · rcases m x hx with h | h
      · exact dg_lt h
      · omega
theorem sh_S {a : List Nat} (h : Asc a) : SeqAt.shaped (.str (S a)) = true := by
  have : PyData.strOk (S a) = true := by
    simp [PyData.strOk]
    intro x hx
    have := h x hx
    omega
  simp [SeqAt.shaped, PyData.canLay0, PyData.depth, this]
/-! ### values of texts -/
theorem s_alph : ("abcdefghijklmnopqrstuvwxyz" : Str) = S [97, 98, 99, 100, 101, 102, 103, 104, 105, 106, 107, 108, 109, 110, 111, 112, 113, 114, 115, 116, 117, 118, 119, 120, 121, 122] := by kernel_rfl
theorem s_digs : ("0123456789" : Str) = S [48, 49, 50, 51, 52, 53, 54, 55, 56, 57] := by kernel_rfl
theorem s_figs : addV (.str "0123456789") (.str ".") = some (.str (S [48, 49, 50, 51, 52, 53, 54, 55, 56, 57, 46])) := by kernel_rfl
theorem in_one (c : Nat) (al : List Nat) : inV (.str (S [c])) (.str (S al)) = some (decide (c ∈ al)) := by simp [inV]
theorem eq_S {a b : List Nat} (ha : Asc a) (hb : Asc b) : eqV (.str (S a)) (.str (S b)) = some (decide (a = b)) := by
  have h1 := sh_S ha
  have h2 := sh_S hb
  unfold eqV
  rw [h1, h2]
  show some (S a == S b) = _
  rw [S_beq_eq]
def al : List Nat := [97, 98, 99, 100, 101, 102, 103, 104, 105, 106, 107, 108, 109, 110, 111, 112, 113, 114, 115, 116, 117, 118, 119, 120, 121, 122]
def fgs : List Nat := [48, 49, 50, 51, 52, 53, 54, 55, 56, 57, 46]
theorem dg_fgs {c : Nat} (h : Dg c ∨ c = 46) : c ∈ fgs := by
  unfold fgs
  simp
  unfold Dg at h
  omega
theorem dg_al {c : Nat} (h : Dg c) : c ∉ al := by
  unfold al
  simp
  unfold Dg at h
  omega
theorem in_tup {a : Str} {xs : List PyData} (h1 : SeqAt.shaped (.str a) = true) (h2 : SeqAt.shaped (.tuple xs) = true) : inV (.str a) (.tuple xs) = some (xs.any fun z => PyData.eqv z (.str a)) := by simp [inV, h1, h2]
/-! ### run_of -/
abbrev rnC : Mp.Env → Store → R D := fAnd (fCmp .lt (fVar 3) (fCall (fnV lenV) (fCons (fVar 0) fNil))) (fCmp .isin (fIdx (fVar 0) (fVar 3)) (fVar 2))
abbrev rnB : SM := sSet 3 (fBin .add (fVar 3) (fC (.int 1)))
theorem rn_loop (L : List Nat) (a : Option D) (f : List Nat) : ∀ (k n j : Nat) (st : Store), j + k = L.length → (∀ x ∈ L.drop j, x ∈ f) → k < n → loopW (fT rnC) rnB n [some (.p (.str (S L))), a, some (.p (.str (S f))), some (.p (.int (j : Int)))] st = .ok (.nx [some (.p (.str (S L))), a, some (.p (.str (S f))), some (.p (.int (L.length : Int)))]) st := by
  intro k
  induction k with
  | zero =>
    intro n j st e _ hn
    obtain ⟨n, rfl⟩ : ∃ n', n = n' + 1 := ⟨n - 1, by omega⟩
    have hj : ¬ ((j : Int) < (L.length : Int)) := by omega
    have : j = L.length := by omega
    subst this
    rw [loopW]
    simp [rnC, runB, startE, endB, sRet, sSeq, sSet, sIf, sDrop, sNx, sNo, sBrk, sCont, sPar, sAsg, sFor, sWhile, sRaise, sFldS, gSet, gTupD, gCons', gNil', gSubD, fVar, fC, fBin, binS, binV, addV_int, subV, powV, asP, asPs, pds, ofO, ofD, fCmp, cmpS, cmpO, cmpV, ltV, leV, fChain, fAnd, fOr, fNot, fIte, fT, truB, fNeg, fOrS, fCall, fCons, fNil, fStar, fTup, fLst, fNew, newLst, fIdx, idxO, fSli, fPart, sliV, fFld, fldO, lookF, fMeth, fMake, fnV, lenV, absV, minV, intV, listV, fIsi, isiO, tyName, fBm, mtyp, mAppend, mPop, mExtend, itemsD, fCallK, fCallK0, fIter, iterD, fRng1, fLc, tT1, fEnd, putD, itemsO, L2.atI, L2.ixN, S_len, hj]
  | succ k ih =>
    intro n j st e hm hn
    obtain ⟨n, rfl⟩ : ∃ n', n = n' + 1 := ⟨n - 1, by omega⟩
    have hj : j < L.length := by omega
    have hx : L[j] ∈ f := hm _ (by rw [List.drop_eq_getElem_cons hj]; exact List.mem_cons_self)
    have hr : ∀ x ∈ L.drop (j + 1), x ∈ f := fun x hx => hm x (by rw [List.drop_eq_getElem_cons hj]; exact List.mem_cons_of_mem _ hx)
    have ih := ih n (j + 1) st (by omega) hr (by omega)
    have i1 := in_one L[j] f
    simp only [Int.natCast_add, Int.cast_ofNat_Int] at ih
    rw [loopW]
    simp [rnC, rnB, runB, startE, endB, sRet, sSeq, sSet, sIf, sDrop, sNx, sNo, sBrk, sCont, sPar, sAsg, sFor, sWhile, sRaise, sFldS, gSet, gTupD, gCons', gNil', gSubD, fVar, fC, fBin, binS, binV, addV_int, subV, powV, asP, asPs, pds, ofO, ofD, fCmp, cmpS, cmpO, cmpV, ltV, leV, fChain, fAnd, fOr, fNot, fIte, fT, truB, fNeg, fOrS, fCall, fCons, fNil, fStar, fTup, fLst, fNew, newLst, fIdx, idxO, fSli, fPart, sliV, fFld, fldO, lookF, fMeth, fMake, fnV, lenV, absV, minV, intV, listV, fIsi, isiO, tyName, fBm, mtyp, mAppend, mPop, mExtend, itemsD, fCallK, fCallK0, fIter, iterD, fRng1, fLc, tT1, fEnd, putD, itemsO, L2.atI, L2.ixN, S_len, hj, i1, hx]
    simp [rnC, rnB] at ih
    exact ih
theorem cut_at (L : List Nat) (i : Nat) (h : i ≤ L.length) : cutS (S L) (some (i : Int)) (some (L.length : Int)) = S (L.drop i) := by
  unfold cutS
  rw [HT.sIx_nat, HT.sIx_nat, S_len, Nat.min_eq_left h, Nat.min_self]
  show S ((L.drop i).take (L.length - i)) = _
  rw [List.take_of_length_le (by rw [List.length_drop]; omega)]
theorem cut_one (c d : Nat) (r : List Nat) : cutS (S (c :: d :: r)) (some 1) (some 2) = S [d] := by
  have h1 : HT.sIx (c :: d :: r).length 0 (some (1 : Int)) = 1 := by
    have := HT.sIx_nat (c :: d :: r).length 0 1
    rw [show ((1 : Nat) : Int) = 1 from rfl] at this
    rw [this]; simp
  have h2 : HT.sIx (c :: d :: r).length (c :: d :: r).length (some (2 : Int)) = 2 := by
    have := HT.sIx_nat (c :: d :: r).length (c :: d :: r).length 2
    rw [show ((2 : Nat) : Int) = 2 from rfl] at this
    rw [this]; simp
  unfold cutS
  rw [S_len, h1, h2]
  rfl
theorem cut_sign (L : List Nat) (c : Nat) (r : List Nat) (e : L = c :: r) : cutS (S L) none (some 1) = S [c] := by
  rw [cut_to L 1 (by decide), e]; rfl
theorem p_run_of (L f : List Nat) (i : Nat) (hl : L.length ≤ 1000) (hi : i ≤ L.length) (hm : ∀ x ∈ L.drop i, x ∈ f) (st : Store) : pR r_run_of [.p (.str (S L)), .p (.int (i : Int)), .p (.str (S f))] st = .ok (.p (.str (S (L.drop i)))) st := by
  refine pR_ok (es := [.str (S L), .int (i : Int), .str (S f)]) (st1 := []) ?_
  have e := rn_loop L (some (.p (.int (i : Int)))) f (L.length - i) 100000 i [] (by omega) hm (by omega)
  have c := cut_at L i hi
  simp [rnC, rnB] at e
  simp [r_run_of, m_run_of, runB, startE, endB, sRet, sSeq, sSet, sIf, sDrop, sNx, sNo, sBrk, sCont, sPar, sAsg, sFor, sWhile, sRaise, sFldS, gSet, gTupD, gCons', gNil', gSubD, fVar, fC, fBin, binS, binV, addV_int, subV, powV, asP, asPs, pds, ofO, ofD, fCmp, cmpS, cmpO, cmpV, ltV, leV, fChain, fAnd, fOr, fNot, fIte, fT, truB, fNeg, fOrS, fCall, fCons, fNil, fStar, fTup, fLst, fNew, newLst, fIdx, idxO, fSli, fPart, sliV, fFld, fldO, lookF, fMeth, fMake, fnV, lenV, absV, minV, intV, listV, fIsi, isiO, tyName, fBm, mtyp, mAppend, mPop, mExtend, itemsD, fCallK, fCallK0, fIter, iterD, fRng1, fLc, tT1, fEnd, putD, itemsO, L2.atI, L2.ixN, e, c]
end K32
end

section
set_option Elab.async false
set_option linter.all false
set_option maxRecDepth 100000
set_option maxHeartbeats 4000000
/-! K32m5: the plain law, a number's text read back: tokens, the leaf. -/
namespace K32
open PySem Mp SX
open L2 (cutS)
open C8 (cutS_slice)
theorem p_run0 (L : List Nat) (hl : L.length ≤ 1000) (hm : ∀ x ∈ L, x ∈ fgs) (st : Store) : pR r_run_of [.p (.str (S L)), .p (.int 0), .p (.str (S fgs))] st = .ok (.p (.str (S L))) st := by
  have := p_run_of L fgs 0 hl (by omega) (by simpa using hm) st
  simpa using this
theorem p_run1 (c : Nat) (L : List Nat) (hl : L.length + 1 ≤ 1000) (hm : ∀ x ∈ L, x ∈ fgs) (st : Store) : pR r_run_of [.p (.str (S (c :: L))), .p (.int 1), .p (.str (S fgs))] st = .ok (.p (.str (S L))) st := by
  have := p_run_of (c :: L) fgs 1 (by simp; omega) (by simp) (by simpa using hm) st
  simpa using this
theorem p_token {L : List Nat} (h : Tok L) (st : Store) : pR r_token_at [.p (.str (S L)), .p (.int 0), .p (.bool true)] st = .ok (.p (.str (S L))) st := by
  refine pR_ok (es := [.str (S L), .int 0, .bool true]) (st1 := []) ?_
  have hl := h.len
  have fg := s_figs
  rcases h.hd with ⟨c, r, e, d, m⟩ | ⟨c, r, e, d, m⟩
  · have mm : ∀ x ∈ L, x ∈ fgs := fun x hx => by
      rw [e] at hx
      rcases List.mem_cons.mp hx with h | h
      · subst h; exact dg_fgs (.inl d)
      · exact dg_fgs (m x h)
    have run := fun st => p_run0 L (by omega) mm st
    have i1 : inV (.str (S [c])) (.str "abcdefghijklmnopqrstuvwxyz") = some false := by
      rw [s_alph, in_one, decide_eq_false]
      exact dg_al d
    have i2 : eqV (.str (S [c])) (.str "-") = some false := by
      rw [s_m, eq_S (asc1 (dg_lt d)) (by decide), decide_eq_false]
      unfold Dg at d
      simp
      omega
    have nz : (S L).length ≠ 0 := by rw [S_len, e]; simp
    have ix : (S L).cps.toList[0]? = some c := by rw [e]; rfl
    unfold fgs at run
    have nz' : L ≠ [] := by rw [e]; simp
    simp [r_token_at, m_token_at, runB, startE, endB, sRet, sSeq, sSet, sIf, sDrop, sNx, sNo, sBrk, sCont, sPar, sAsg, sFor, sWhile, sRaise, sFldS, gSet, gTupD, gCons', gNil', gSubD, fVar, fC, fBin, binS, binV, addV_int, subV, powV, asP, asPs, pds, ofO, ofD, fCmp, cmpS, cmpO, cmpV, ltV, leV, fChain, fAnd, fOr, fNot, fIte, fT, truB, fNeg, fOrS, fCall, fCons, fNil, fStar, fTup, fLst, fNew, newLst, fIdx, idxO, fSli, fPart, sliV, fFld, fldO, lookF, fMeth, fMake, fnV, lenV, absV, minV, intV, listV, fIsi, isiO, tyName, fBm, mtyp, mAppend, mPop, mExtend, itemsD, fCallK, fCallK0, fIter, iterD, fRng1, fLc, tT1, fEnd, putD, itemsO, L2.atI, L2.ixN, e, i1, i2, fg, S_len]
    simp [e] at run
    simp [run, S_len]
  · have mm : ∀ x ∈ c :: r, x ∈ fgs := fun x hx => by
      rcases List.mem_cons.mp hx with h | h
      · subst h; exact dg_fgs (.inl d)
      · exact dg_fgs (m x h)
    have run := fun st => p_run1 45 (c :: r) (by rw [e] at hl; simp at hl; simp; omega) mm st
    have i1 : inV (.str (S [45])) (.str "abcdefghijklmnopqrstuvwxyz") = some false := by kernel_rfl
    have i2 : eqV (.str (S [45])) (.str "-") = some true := by kernel_rfl
    have i3 : inV (.str (S [c])) (.tuple [.str "", .str " "]) = some false := by
      have h1 : SeqAt.shaped (.str (S [c])) = true := sh_S (asc1 (dg_lt d))
      have h2 : SeqAt.shaped (.tuple [.str "", .str " "]) = true := by kernel_rfl
      rw [in_tup h1 h2]
      have q1 : PyData.eqv (.str "") (.str (S [c])) = false := by
        show ((("" : Str) == S [c])) = false
        rw [s_e, S_beq_eq]; simp
      have q2 : PyData.eqv (.str " ") (.str (S [c])) = false := by
        show (((" " : Str) == S [c])) = false
        rw [show (" " : Str) = S [32] by kernel_rfl, S_beq_eq]
        unfold Dg at d
        simp
        omega
      simp [q1, q2]
    have c1 := cut_one 45 c r
    have a1 : addV (.str "-") (.str (S (c :: r))) = some (.str (S (45 :: c :: r))) := by rw [s_m]; exact addV_S' [45] (c :: r) (45 :: c :: r) (by rw [e] at hl; simp at hl; simp; omega) rfl
    unfold fgs at run
    rw [e]
    have p0 : (0 : Int) < (r.length : Int) + 1 + 1 := by omega
    simp [r_token_at, m_token_at, runB, startE, endB, sRet, sSeq, sSet, sIf, sDrop, sNx, sNo, sBrk, sCont, sPar, sAsg, sFor, sWhile, sRaise, sFldS, gSet, gTupD, gCons', gNil', gSubD, fVar, fC, fBin, binS, binV, addV_int, subV, powV, asP, asPs, pds, ofO, ofD, fCmp, cmpS, cmpO, cmpV, ltV, leV, fChain, fAnd, fOr, fNot, fIte, fT, truB, fNeg, fOrS, fCall, fCons, fNil, fStar, fTup, fLst, fNew, newLst, fIdx, idxO, fSli, fPart, sliV, fFld, fldO, lookF, fMeth, fMake, fnV, lenV, absV, minV, intV, listV, fIsi, isiO, tyName, fBm, mtyp, mAppend, mPop, mExtend, itemsD, fCallK, fCallK0, fIter, iterD, fRng1, fLc, tT1, fEnd, putD, itemsO, L2.atI, L2.ixN, p0, i1, i2, i3, c1, fg, run, a1, szl]
/-! ### tokens_of -/
theorem tok_len {L : List Nat} (h : Tok L) : 1 ≤ L.length := by
  rcases h.hd with ⟨c, r, e, _, _⟩ | ⟨c, r, e, _, _⟩ <;> rw [e] <;> simp
theorem tok_sp {L : List Nat} (h : Tok L) : ∃ c r, L = c :: r ∧ c ≠ 32 ∧ c < 256 := by
  rcases h.hd with ⟨c, r, e, d, _⟩ | ⟨c, r, e, d, _⟩
  · exact ⟨c, r, e, by unfold Dg at d; omega, dg_lt d⟩
  · exact ⟨45, _, e, by decide, by decide⟩
theorem sSeq_nx {f k : SM} {env env1 : Mp.Env} {st st1 : Store} (h : f env st = .ok (.nx env1) st1) : sSeq f k env st = k env1 st1 := by unfold sSeq; rw [h]; rfl
theorem loopW_t {fc : Mp.Env → Store → R Bool} {fb : SM} {n : Nat} {env e : Mp.Env} {st st1 st2 : Store} (hc : fc env st = .ok true st1) (hb : fb env st1 = .ok (.nx e) st2) : loopW fc fb (n + 1) env st = loopW fc fb n e st2 := by
  rw [loopW, hc]
  simp only [Mp.R.bind, if_true]
  rw [hb]
theorem loopW_f {fc : Mp.Env → Store → R Bool} {fb : SM} {n : Nat} {env : Mp.Env} {st st1 : Store} (hc : fc env st = .ok false st1) : loopW fc fb (n + 1) env st = .ok (.nx env) st1 := by
  rw [loopW, hc]
  simp [Mp.R.bind]
abbrev tkA : SM := (sPar 1 2 (fCons (fNew fNil) (fCons (fC (.int 0)) fNil)))
abbrev tkC : Mp.Env → Store → R D := fCmp .lt (fVar 2) (fCall (fnV lenV) (fCons (fVar 0) fNil))
abbrev tkB : SM := (sSeq (sIf (fCmp .eq (fIdx (fVar 0) (fVar 2)) (fC (.str " "))) (sSeq (sSet 2 (fBin .add (fVar 2) (fC (.int 1)))) sCont) sNx) (sSeq (sSet 3 (fOr (fCmp .eq (fVar 1) (fLst fNil)) (fCmp .isin (fIdx (fVar 1) (fNeg (fC (.int 1)))) (fTup (fCons (fC (.str "(")) (fCons (fC (.str ",")) (fStar (fC d_OPS) fNil))))))) (sSeq (sDrop (fBm "list" mAppend (fVar 1) (fCons (fCall (pR r_token_at) (fCons (fVar 0) (fCons (fVar 2) (fCons (fVar 3) fNil)))) fNil))) (sSet 2 (fBin .add (fVar 2) (fCall (fnV lenV) (fCons (fIdx (fVar 1) (fNeg (fC (.int 1)))) fNil)))))))
theorem tk_eq : m_tokens_of = sSeq tkA (sSeq (sWhile 100000 tkC tkB) (sRet (fVar 1))) := rfl
theorem p_tokens {L : List Nat} (h : Tok L) (st : Store) : pR r_tokens_of [.p (.str (S L))] st = .ok (.p (.list [.str (S L)])) st := by
  have tk := fun st => p_token h st
  have hl := h.len
  have hp := tok_len h
  obtain ⟨c, r, e, hc, hcl⟩ := tok_sp h
  have i1 : eqV (.str (S [c])) (.str " ") = some false := by
    rw [show (" " : Str) = S [32] by kernel_rfl, eq_S (asc1 hcl) (by decide), decide_eq_false]
    simp; exact hc
  have e0 : eqV (.list []) (.list []) = some true := by kernel_rfl
  have sl := S_len L
  have hlt : 0 < L.length := by omega
  have ix : ∀ st, idxO st (.p (.str (S L))) (.p (.int 0)) = some (.p (.str (S [c]))) := fun st => by rw [e]; simp [idxO, L2.atI, L2.ixN]
  generalize hs : S L = s at *
  have a : tkA [some (.p (.str s)), none, none, none] [] = .ok (.nx [some (.p (.str s)), some (.obj 0), some (.p (.int 0)), none]) [.lst []] := by simp [tkA, runB, startE, endB, sRet, sSeq, sSet, sIf, sDrop, sNx, sNo, sBrk, sCont, sPar, sAsg, sFor, sWhile, sRaise, sFldS, gSet, gTupD, gCons', gNil', gSubD, fVar, fC, fBin, binS, binV, addV_int, subV, powV, asP, asPs, pds, ofO, ofD, fCmp, cmpS, cmpO, cmpV, ltV, leV, fChain, fAnd, fOr, fNot, fIte, fT, truB, fNeg, fOrS, fCall, fCons, fNil, fStar, fTup, fLst, fNew, newLst, fIdx, idxO, fSli, fPart, sliV, fFld, fldO, lookF, fMeth, fMake, fnV, lenV, absV, minV, intV, listV, fIsi, isiO, tyName, fBm, mtyp, mAppend, mPop, mExtend, itemsD, fCallK, fCallK0, fIter, iterD, fRng1, fLc, tT1, fEnd, putD, itemsO, L2.atI, L2.ixN, szl]
  have c0 : fT tkC [some (.p (.str s)), some (.obj 0), some (.p (.int 0)), none] [.lst []] = .ok true [.lst []] := by simp [tkC, runB, startE, endB, sRet, sSeq, sSet, sIf, sDrop, sNx, sNo, sBrk, sCont, sPar, sAsg, sFor, sWhile, sRaise, sFldS, gSet, gTupD, gCons', gNil', gSubD, fVar, fC, fBin, binS, binV, addV_int, subV, powV, asP, asPs, pds, ofO, ofD, fCmp, cmpS, cmpO, cmpV, ltV, leV, fChain, fAnd, fOr, fNot, fIte, fT, truB, fNeg, fOrS, fCall, fCons, fNil, fStar, fTup, fLst, fNew, newLst, fIdx, idxO, fSli, fPart, sliV, fFld, fldO, lookF, fMeth, fMake, fnV, lenV, absV, minV, intV, listV, fIsi, isiO, tyName, fBm, mtyp, mAppend, mPop, mExtend, itemsD, fCallK, fCallK0, fIter, iterD, fRng1, fLc, tT1, fEnd, putD, itemsO, L2.atI, L2.ixN, sl, hlt]
  have b0 : tkB [some (.p (.str s)), some (.obj 0), some (.p (.int 0)), none] [.lst []] = .ok (.nx [some (.p (.str s)), some (.obj 0), some (.p (.int L.length)), some (.p (.bool true))]) [.lst [.p (.str s)]] := by
    simp only [tkB, sSeq, sIf, fT, fCmp, fIdx, fVar, fC, Mp.R.bind, List.getElem?_cons_zero, List.getElem?_cons_succ, ix, ofD, cmpS, cmpO, asP, cmpV, i1, Option.map, ofO, truB]
    simp [runB, startE, endB, sRet, sSeq, sSet, sIf, sDrop, sNx, sNo, sBrk, sCont, sPar, sAsg, sFor, sWhile, sRaise, sFldS, gSet, gTupD, gCons', gNil', gSubD, fVar, fC, fBin, binS, binV, addV_int, subV, powV, asP, asPs, pds, ofO, ofD, fCmp, cmpS, cmpO, cmpV, ltV, leV, fChain, fAnd, fOr, fNot, fIte, fT, truB, fNeg, fOrS, fCall, fCons, fNil, fStar, fTup, fLst, fNew, newLst, fIdx, idxO, fSli, fPart, sliV, fFld, fldO, lookF, fMeth, fMake, fnV, lenV, absV, minV, intV, listV, fIsi, isiO, tyName, fBm, mtyp, mAppend, mPop, mExtend, itemsD, fCallK, fCallK0, fIter, iterD, fRng1, fLc, tT1, fEnd, putD, itemsO, L2.atI, L2.ixN, ix, i1, e0, szl, tk, sl]
  have c1 : fT tkC [some (.p (.str s)), some (.obj 0), some (.p (.int L.length)), some (.p (.bool true))] [.lst [.p (.str s)]] = .ok false [.lst [.p (.str s)]] := by simp [tkC, runB, startE, endB, sRet, sSeq, sSet, sIf, sDrop, sNx, sNo, sBrk, sCont, sPar, sAsg, sFor, sWhile, sRaise, sFldS, gSet, gTupD, gCons', gNil', gSubD, fVar, fC, fBin, binS, binV, addV_int, subV, powV, asP, asPs, pds, ofO, ofD, fCmp, cmpS, cmpO, cmpV, ltV, leV, fChain, fAnd, fOr, fNot, fIte, fT, truB, fNeg, fOrS, fCall, fCons, fNil, fStar, fTup, fLst, fNew, newLst, fIdx, idxO, fSli, fPart, sliV, fFld, fldO, lookF, fMeth, fMake, fnV, lenV, absV, minV, intV, listV, fIsi, isiO, tyName, fBm, mtyp, mAppend, mPop, mExtend, itemsD, fCallK, fCallK0, fIter, iterD, fRng1, fLc, tT1, fEnd, putD, itemsO, L2.atI, L2.ixN, sl]
  have w : sWhile 100000 tkC tkB [some (.p (.str s)), some (.obj 0), some (.p (.int 0)), none] [.lst []] = .ok (.nx [some (.p (.str s)), some (.obj 0), some (.p (.int L.length)), some (.p (.bool true))]) [.lst [.p (.str s)]] :=
    (loopW_t (n := 99999) c0 b0).trans (loopW_f (n := 99998) c1)
  have run : m_tokens_of [some (.p (.str s)), none, none, none] [] = .ok (.ret (.obj 0)) [.lst [.p (.str s)]] := by
    rw [tk_eq]
    exact (sSeq_nx a).trans ((sSeq_nx w).trans rfl)
  have run2 : r_tokens_of [.p (.str s)] [] = .ok (.obj 0) [.lst [.p (.str s)]] := by
    show runB 1 4 m_tokens_of _ _ = _
    unfold runB startE
    simp only [List.length_cons, List.length_nil, List.map_cons, List.map_nil, if_true]
    show endB (m_tokens_of [some (.p (.str s)), none, none, none] []) = _
    rw [run]
    rfl
  unfold pR pureRun
  simp [pdsB, run2, runB, startE, endB, sRet, sSeq, sSet, sIf, sDrop, sNx, sNo, sBrk, sCont, sPar, sAsg, sFor, sWhile, sRaise, sFldS, gSet, gTupD, gCons', gNil', gSubD, fVar, fC, fBin, binS, binV, addV_int, subV, powV, asP, asPs, pds, ofO, ofD, fCmp, cmpS, cmpO, cmpV, ltV, leV, fChain, fAnd, fOr, fNot, fIte, fT, truB, fNeg, fOrS, fCall, fCons, fNil, fStar, fTup, fLst, fNew, newLst, fIdx, idxO, fSli, fPart, sliV, fFld, fldO, lookF, fMeth, fMake, fnV, lenV, absV, minV, intV, listV, fIsi, isiO, tyName, fBm, mtyp, mAppend, mPop, mExtend, itemsD, fCallK, fCallK0, fIter, iterD, fRng1, fLc, tT1, fEnd, putD, itemsO, L2.atI, L2.ixN]
end K32
end

section
set_option Elab.async false
set_option linter.all false
set_option maxRecDepth 100000
set_option maxHeartbeats 4000000
/-! K32m6: the plain law, a number's text read back: the decimal told. -/
namespace K32
open PySem Mp SX
open L2 (cutS)
open C8 (cutS_slice)
/-! ### whole_of -/
theorem m_ix (c : Nat) (h : Dg c) (st : Store) : mIndexS (.p (.str "0123456789")) [.p (.str (S [c]))] st = .ok (.p (.int ((c : Int) - 48))) st := by
  have : c = 48 ∨ c = 49 ∨ c = 50 ∨ c = 51 ∨ c = 52 ∨ c = 53 ∨ c = 54 ∨ c = 55 ∨ c = 56 ∨ c = 57 := by unfold Dg at h; omega
  rcases this with rfl | rfl | rfl | rfl | rfl | rfl | rfl | rfl | rfl | rfl <;> kernel_rfl
abbrev woB : SM := sSet 1 (fBin .add (fBin .mul (fVar 1) (fC (.int 10))) (fBm "str" mIndexS (fC (.str "0123456789")) (fCons (fVar 2) fNil)))
def chs (L : List Nat) : List D := L.map fun c => .p (.str (S [c]))
theorem wo_loop (t : Option D) : ∀ (L : List Nat) (a : Int) (u : Option D) (st : Store), (∀ c ∈ L, Dg c) → ∃ u', loopF (gSet 2) woB (chs L) [t, some (.p (.int a)), u] st = .ok (.nx [t, some (.p (.int (val L a))), u']) st := by
  intro L
  induction L with
  | nil => exact fun a u st _ => ⟨u, rfl⟩
  | cons c L ih =>
    intro a u st h
    have hc := h c (by simp)
    obtain ⟨u', e⟩ := ih (a * 10 + ((c : Int) - 48)) (some (.p (.str (S [c])))) st (fun x hx => h x (by simp [hx]))
    refine ⟨u', ?_⟩
    have ix := m_ix c hc st
    show loopF (gSet 2) woB (.p (.str (S [c])) :: chs L) _ st = _
    rw [loopF]
    have mu := mulV_r a 10 (by decide)
    have b : woB [t, some (.p (.int a)), some (.p (.str (S [c])))] st = .ok (.nx [t, some (.p (.int (a * 10 + ((c : Int) - 48)))), some (.p (.str (S [c])))]) st := by
      simp [woB, runB, startE, endB, sRet, sSeq, sSet, sIf, sDrop, sNx, sNo, sBrk, sCont, sPar, sAsg, sFor, sWhile, sRaise, sFldS, gSet, gTupD, gCons', gNil', gSubD, fVar, fC, fBin, binS, binV, addV_int, subV, powV, asP, asPs, pds, ofO, ofD, fCmp, cmpS, cmpO, cmpV, ltV, leV, fChain, fAnd, fOr, fNot, fIte, fT, truB, fNeg, fOrS, fCall, fCons, fNil, fStar, fTup, fLst, fNew, newLst, fIdx, idxO, fSli, fPart, sliV, fFld, fldO, lookF, fMeth, fMake, fnV, lenV, absV, minV, intV, listV, fIsi, isiO, tyName, fBm, mtyp, mAppend, mPop, mExtend, itemsD, fCallK, fCallK0, fIter, iterD, fRng1, fLc, tT1, fEnd, putD, itemsO, L2.atI, L2.ixN, mu, ix]
    simp only [gSet, List.set_cons_succ, List.set_cons_zero]
    rw [b]
    exact e
theorem iter_S (L : List Nat) : iterD (.p (.str (S L))) = some (chs L) := by
  simp [iterD, chs]
theorem p_whole {L : List Nat} (h : ∀ c ∈ L, Dg c) (st : Store) : pR r_whole_of [.p (.str (S L))] st = .ok (.p (.int (val L 0))) st := by
  refine pR_ok (es := [.str (S L)]) (st1 := []) ?_
  obtain ⟨u', e⟩ := wo_loop (some (.p (.str (S L)))) L 0 none [] h
  have it := iter_S L
  simp [woB] at e
  simp only [r_whole_of, m_whole_of, runB, startE, sSeq, sSet, sFor, fIter, fC, fVar]
  simp only [iterD] at it
  simp [runB, startE, endB, sRet, sSeq, sSet, sIf, sDrop, sNx, sNo, sBrk, sCont, sPar, sAsg, sFor, sWhile, sRaise, sFldS, gSet, gTupD, gCons', gNil', gSubD, fVar, fC, fBin, binS, binV, addV_int, subV, powV, asP, asPs, pds, ofO, ofD, fCmp, cmpS, cmpO, cmpV, ltV, leV, fChain, fAnd, fOr, fNot, fIte, fT, truB, fNeg, fOrS, fCall, fCons, fNil, fStar, fTup, fLst, fNew, newLst, fIdx, idxO, fSli, fPart, sliV, fFld, fldO, lookF, fMeth, fMake, fnV, lenV, absV, minV, intV, listV, fIsi, isiO, tyName, fBm, mtyp, mAppend, mPop, mExtend, itemsD, fCallK, fCallK0, fIter, iterD, fRng1, fLc, tT1, fEnd, putD, itemsO, L2.atI, L2.ixN, chs] at it e ⊢
  simp [e]
/-! ### all figures -/
abbrev lcE : Mp.Env → Store → R D := fCmp .isin (fVar 5) (fC (.str "0123456789"))
theorem dg_in (c : Nat) (h : Dg c) : inV (.str (S [c])) (.str "0123456789") = some true := by
  rw [s_digs, in_one, decide_eq_true]
  unfold Dg at h
  simp
  omega
theorem lc_loop : ∀ (L : List Nat) (acc : List D) (a b c d e f g h : Option D) (k : Nat) (st : Store), (∀ c ∈ L, Dg c) → k = st.length → acc.length + L.length ≤ 1000 → lcGo k (gSet 5) tT1 lcE (chs L) [a, b, c, d, e, f, g, h] (st ++ [.lst acc]) = .ok () (st ++ [.lst (acc ++ List.replicate L.length (.p (.bool true)))]) := by
  intro L
  induction L with
  | nil => intro acc a b c d e f g h k st _ _ _; simp [chs, lcGo]
  | cons x L ih =>
    intro acc a b c d e f g h k st hd hk hl
    subst hk
    have hx := dg_in x (hd x (by simp))
    have ih := ih (acc ++ [.p (.bool true)]) a b c d e f g h st.length st (fun y hy => hd y (by simp [hy])) rfl (by simp at hl ⊢; omega)
    show lcGo st.length (gSet 5) tT1 lcE (.p (.str (S [x])) :: chs L) _ _ = _
    rw [lcGo]
    have b : lcE [a, b, c, d, e, some (.p (.str (S [x]))), g, h] (st ++ [.lst acc]) = .ok (.p (.bool true)) (st ++ [.lst acc]) := by
      simp [lcE, runB, startE, endB, sRet, sSeq, sSet, sIf, sDrop, sNx, sNo, sBrk, sCont, sPar, sAsg, sFor, sWhile, sRaise, sFldS, gSet, gTupD, gCons', gNil', gSubD, fVar, fC, fBin, binS, binV, addV_int, subV, powV, asP, asPs, pds, ofO, ofD, fCmp, cmpS, cmpO, cmpV, ltV, leV, fChain, fAnd, fOr, fNot, fIte, fT, truB, fNeg, fOrS, fCall, fCons, fNil, fStar, fTup, fLst, fNew, newLst, fIdx, idxO, fSli, fPart, sliV, fFld, fldO, lookF, fMeth, fMake, fnV, lenV, absV, minV, intV, listV, fIsi, isiO, tyName, fBm, mtyp, mAppend, mPop, mExtend, itemsD, fCallK, fCallK0, fIter, iterD, fRng1, fLc, tT1, fEnd, putD, itemsO, L2.atI, L2.ixN, hx]
    simp only [gSet, List.set_cons_succ, List.set_cons_zero, tT1, noX, Mp.R.bind, if_true]
    rw [b]
    have hz : acc.length < sizeLine := by simp at hl; rw [szl]; omega
    simp only [noX, Mp.R.bind]
    rw [List.getElem?_append_right (Nat.le_refl _), Nat.sub_self]
    simp only [List.getElem?_cons_zero, if_pos hz]
    have e1 : (st ++ [Cell.lst acc]).set st.length (Cell.lst (acc ++ [.p (.bool true)])) = st ++ [Cell.lst (acc ++ [.p (.bool true)])] := by simp
    rw [e1, ih]
    simp [List.replicate_succ]
end K32
end

section
set_option Elab.async false
set_option linter.all false
set_option maxRecDepth 100000
set_option maxHeartbeats 4000000
/-! K32m7: the plain law, decimal_told. -/
namespace K32
open PySem Mp SX
open L2 (cutS)
open C8 (cutS_slice)
theorem bools_rep : ∀ k : Nat, boolsP (List.replicate k (.bool true)) = some (List.replicate k true) := by
  intro k
  induction k with
  | zero => rfl
  | succ k ih => rw [List.replicate_succ, boolsP, ih]; rfl
theorem pds_rep : ∀ k : Nat, pds (List.replicate k (.p (.bool true))) = some (List.replicate k (.bool true)) := by
  intro k
  induction k with
  | zero => rfl
  | succ k ih => rw [List.replicate_succ, pds, ih]; rfl
theorem all_rep (k : Nat) : allV [.list (List.replicate k (.bool true))] = some (.bool true) := by
  have : ∀ k : Nat, (List.replicate k true).all (fun b => b) = true := by intro k; simp
  simp [allV, bools_rep]
/-- the comprehension over figures, and all of it -/
theorem allD (fi : Mp.Env → Store → R (List D)) (L : List Nat) (a b c d e f g h : Option D) (st : Store) (hi : fi [a, b, c, d, e, f, g, h] st = .ok (chs L) st) (hd : ∀ c ∈ L, Dg c) (hl : L.length ≤ 1000) :
    fCall (fnV allV) (fCons (fLc [5] fi (gSet 5) tT1 lcE) fNil) [a, b, c, d, e, f, g, h] st = .ok (.p (.bool true)) (st ++ [.lst (List.replicate L.length (.p (.bool true)))]) := by
  have lo := lc_loop L [] a b c d e none g h st.length st hd rfl (by simpa using hl)
  have w : wipeE [a, b, c, d, e, f, g, h] [5] = [a, b, c, d, e, none, g, h] := rfl
  have l1 : fLc [5] fi (gSet 5) tT1 lcE [a, b, c, d, e, f, g, h] st = .ok (.obj st.length) (st ++ [.lst (List.replicate L.length (.p (.bool true)))]) := by
    unfold fLc
    rw [hi]
    simp only [Mp.R.bind]
    rw [w, lo]
    simp
  unfold fCall fCons fNil
  simp only [Mp.R.bind]
  rw [l1]
  simp only [Mp.R.bind]
  unfold fnV
  have : asPs (st ++ [.lst (List.replicate L.length (.p (.bool true)))]) [.obj st.length] = some [.list (List.replicate L.length (.bool true))] := by
    simp [asPs, asP, pds_rep]
  rw [this]
  simp only [all_rep, ofO]
theorem no46 {L : List Nat} (h : ∀ c ∈ L, Dg c) : 46 ∉ L := fun hm => by
  have := h 46 hm
  unfold Dg at this
  omega
theorem part_ux (m q : Nat) : Txt.partition (S (ux m q)) (S [46]) = (S (Ax m q), S (if q = 0 then [] else [46]), S (Bx m q)) := by
  by_cases h : q = 0
  · subst h
    have hb : Bx m 0 = [] := List.length_eq_zero_iff.mp (B_len m 0)
    have e : ux m 0 = Ax m 0 := by simp [ux]
    rw [e, hb, partition_none (by simp) (par_head_none (no46 (A_dg m 0)))]
    rfl
  · have e : ux m q = Ax m q ++ (46 :: [] ++ Bx m q) := by simp [ux, h]
    rw [e, partition_some (by simp) (par_head (Bx m q) (no46 (A_dg m q))), if_neg h]
theorem ux_head (m q : Nat) : ∃ c r, ux m q = c :: r ∧ Dg c ∧ c ≠ 45 := by
  obtain ⟨c, r, e, d⟩ := ux_cons m q
  exact ⟨c, r, e, d, by unfold Dg at d; omega⟩
theorem sg_neg {n : Int} (h : n < 0) (q : Nat) : tx n q = 45 :: ux n.natAbs q := by rw [tx_ux, sg, if_pos h]; rfl
theorem sg_pos {n : Int} (h : ¬ n < 0) (q : Nat) : tx n q = ux n.natAbs q := by rw [tx_ux, sg, if_neg h]; rfl
theorem fOr_f {f k : Mp.Env → Store → R D} {env : Mp.Env} {st st1 : Store} (h : f env st = .ok (.p (.bool false)) st1) : fOr f k env st = k env st1 := by unfold fOr; rw [h]; rfl
theorem fOr_t {f k : Mp.Env → Store → R D} {env : Mp.Env} {st st1 : Store} (h : f env st = .ok (.p (.bool true)) st1) : fOr f k env st = .ok (.p (.bool true)) st1 := by unfold fOr; rw [h]; rfl
theorem fNot_b {f : Mp.Env → Store → R D} {env : Mp.Env} {st st1 : Store} {b : Bool} (h : f env st = .ok (.p (.bool b)) st1) : fNot f env st = .ok (.p (.bool (!b))) st1 := by unfold fNot; rw [h]; rfl
theorem sIf_f {fc : Mp.Env → Store → R D} {a b : SM} {env : Mp.Env} {st st1 : Store} (h : fc env st = .ok (.p (.bool false)) st1) : sIf fc a b env st = b env st1 := by unfold sIf fT; rw [h]; rfl
theorem sIf_t {fc : Mp.Env → Store → R D} {a b : SM} {env : Mp.Env} {st st1 : Store} (h : fc env st = .ok (.p (.bool true)) st1) : sIf fc a b env st = a env st1 := by unfold sIf fT; rw [h]; rfl
theorem pR_okE {run : List D → Store → R D} {es : List PyData} {d : PyData} {st : Store} (h : ∃ st1, run (es.map .p) [] = .ok (.p d) st1) : pR run (es.map .p) st = .ok (.p d) st := by
  obtain ⟨_, h⟩ := h
  exact pR_ok h
abbrev dt1 : SM := (sSet 1 (fIte (fCmp .eq (fSli (fVar 0) none (some (fC (.int 1)))) (fC (.str "-"))) (fSli (fVar 0) (some (fC (.int 1))) none) (fVar 0)))
abbrev dt2 : SM := (sAsg (fBm "str" mPartition (fVar 1) (fCons (fC (.str ".")) fNil)) (gTupD 3 (gCons' (gSet 2) (gCons' (gSet 3) (gCons' (gSet 4) gNil')))))
abbrev dt3a : Mp.Env → Store → R D := (fAnd (fCmp .ne (fVar 3) (fC (.str ""))) (fCmp .eq (fVar 4) (fC (.str ""))))
abbrev dt3b : Mp.Env → Store → R D := (fCall (fnV allV) (fCons (fLc [5] (fIter (fBin .add (fVar 2) (fVar 4))) (gSet 5) tT1 (fCmp .isin (fVar 5) (fC (.str "0123456789")))) fNil))
abbrev dt3c : Mp.Env → Store → R D := (fCmp .eq (fVar 2) (fC (.str "")))
abbrev dt3 : SM := (sIf (fOr dt3a (fOr (fNot dt3b) dt3c)) (sRet (fLst fNil)) sNx)
abbrev dt4 : SM := (sSet 6 (fCall (pR r_whole_of) (fCons (fBin .add (fVar 2) (fVar 4)) fNil)))
abbrev dt5 : SM := (sSet 7 (fTup (fCons (fIte (fCmp .ne (fVar 1) (fVar 0)) (fBin .sub (fC (.int 0)) (fVar 6)) (fVar 6)) (fCons (fCall (fnV lenV) (fCons (fVar 4) fNil)) fNil))))
abbrev dt6 : SM := (sRet (fIte (fOr (fAnd (fCmp .gt (fCall (fnV lenV) (fCons (fVar 2) fNil)) (fC (.int 1))) (fCmp .eq (fIdx (fVar 2) (fC (.int 0))) (fC (.str "0")))) (fAnd (fCmp .eq (fVar 6) (fC (.int 0))) (fCmp .ne (fVar 1) (fVar 0)))) (fLst fNil) (fLst (fCons (fVar 7) fNil))))
theorem dt_eq : m_decimal_told = sSeq dt1 (sSeq dt2 (sSeq dt3 (sSeq dt4 (sSeq dt5 dt6)))) := rfl
theorem told_gen (a0 : Nat) (A B U T : List Nat) (q : Nat) (m : Int) (sn : Bool) (hp : Txt.partition (S U) (S [46]) = (S (a0 :: A), S (if q = 0 then [] else [46]), S B)) (hB : B.length = q) (dgs : ∀ c ∈ (a0 :: A) ++ B, Dg c) (wh : val ((a0 :: A) ++ B) 0 = m)
    (hh : A ≠ [] → a0 ≠ 48) (hl : A.length + B.length ≤ 100) (hul : U.length ≤ 100) (hu : ∃ c r, U = c :: r ∧ c ≠ 45 ∧ c < 256) (hua : Asc U) (hT : T = if sn then 45 :: U else U) (hz : sn = true → m ≠ 0) :
    ∃ st1, r_decimal_told [.p (.str (S T))] [] = .ok (.p (.list [.tuple [.int (if sn then 0 - m else m), .int q]])) st1 := by
  have pw := fun st => p_whole dgs st
  rw [wh] at pw
  obtain ⟨c, r, ue, uc, ucl⟩ := hu
  have dA : Asc (a0 :: A) := fun x hx => dg_lt (dgs x (List.mem_append_left _ hx))
  have dB : Asc B := fun x hx => dg_lt (dgs x (List.mem_append_right _ hx))
  have hTl : T.length ≤ 101 := by rw [hT]; split <;> (try rw [List.length_cons]) <;> omega
  -- dt1
  have e1 : dt1 [some (.p (.str (S T))), none, none, none, none, none, none, none] [] = .ok (.nx [some (.p (.str (S T))), some (.p (.str (S U))), none, none, none, none, none, none]) [] := by
    cases sn with
    | true =>
      simp only [if_true] at hT
      have c1 := cut_sign T 45 U hT
      have c2 : cutS (S T) (some 1) none = S U := by rw [cut_from T 1 (by decide), hT]; rfl
      have i2 : eqV (.str (S [45])) (.str "-") = some true := by kernel_rfl
      simp [dt1, runB, startE, endB, sRet, sSeq, sSet, sIf, sDrop, sNx, sNo, sBrk, sCont, sPar, sAsg, sFor, sWhile, sRaise, sFldS, gSet, gTupD, gCons', gNil', gSubD, fVar, fC, fBin, binS, binV, addV_int, subV, powV, asP, asPs, pds, ofO, ofD, fCmp, cmpS, cmpO, cmpV, ltV, leV, fChain, fAnd, fOr, fNot, fIte, fT, truB, fNeg, fOrS, fCall, fCons, fNil, fStar, fTup, fLst, fNew, newLst, fIdx, idxO, fSli, fPart, sliV, fFld, fldO, lookF, fMeth, fMake, fnV, lenV, absV, minV, intV, listV, fIsi, isiO, tyName, fBm, mtyp, mAppend, mPop, mExtend, itemsD, fCallK, fCallK0, fIter, iterD, fRng1, fLc, tT1, fEnd, putD, itemsO, L2.atI, L2.ixN, c1, c2, i2]
    | false =>
      simp only [Bool.false_eq_true, if_false] at hT
      have c1 := cut_sign T c r (by rw [hT, ue])
      have i2 : eqV (.str (S [c])) (.str "-") = some false := by
        rw [s_m, eq_S (asc1 ucl) (by decide), decide_eq_false]
        simpa using uc
      simp [dt1, runB, startE, endB, sRet, sSeq, sSet, sIf, sDrop, sNx, sNo, sBrk, sCont, sPar, sAsg, sFor, sWhile, sRaise, sFldS, gSet, gTupD, gCons', gNil', gSubD, fVar, fC, fBin, binS, binV, addV_int, subV, powV, asP, asPs, pds, ofO, ofD, fCmp, cmpS, cmpO, cmpV, ltV, leV, fChain, fAnd, fOr, fNot, fIte, fT, truB, fNeg, fOrS, fCall, fCons, fNil, fStar, fTup, fLst, fNew, newLst, fIdx, idxO, fSli, fPart, sliV, fFld, fldO, lookF, fMeth, fMake, fnV, lenV, absV, minV, intV, listV, fIsi, isiO, tyName, fBm, mtyp, mAppend, mPop, mExtend, itemsD, fCallK, fCallK0, fIter, iterD, fRng1, fLc, tT1, fEnd, putD, itemsO, L2.atI, L2.ixN, c1, i2]
      rw [hT]
  have e2 : dt2 [some (.p (.str (S T))), some (.p (.str (S U))), none, none, none, none, none, none] [] = .ok (.nx [some (.p (.str (S T))), some (.p (.str (S U))), some (.p (.str (S (a0 :: A)))), some (.p (.str (S (if q = 0 then [] else [46])))), some (.p (.str (S B))), none, none, none]) [] := by
    have mp : mPartition (.p (.str (S U))) [.p (.str ".")] [] = .ok (.p (.tuple [.str (S (a0 :: A)), .str (S (if q = 0 then [] else [46])), .str (S B)])) [] := by
      simp only [mPartition, asP, asPs, s_p, S_len, hp, szl]
      rw [if_pos ⟨by simp, by omega, by simp⟩]
      rfl
    generalize S (if q = 0 then [] else [46]) = sp at *
    simp [dt2, runB, startE, endB, sRet, sSeq, sSet, sIf, sDrop, sNx, sNo, sBrk, sCont, sPar, sAsg, sFor, sWhile, sRaise, sFldS, gSet, gTupD, gCons', gNil', gSubD, fVar, fC, fBin, binS, binV, addV_int, subV, powV, asP, asPs, pds, ofO, ofD, fCmp, cmpS, cmpO, cmpV, ltV, leV, fChain, fAnd, fOr, fNot, fIte, fT, truB, fNeg, fOrS, fCall, fCons, fNil, fStar, fTup, fLst, fNew, newLst, fIdx, idxO, fSli, fPart, sliV, fFld, fldO, lookF, fMeth, fMake, fnV, lenV, absV, minV, intV, listV, fIsi, isiO, tyName, fBm, mtyp, mAppend, mPop, mExtend, itemsD, fCallK, fCallK0, fIter, iterD, fRng1, fLc, tT1, fEnd, putD, itemsO, L2.atI, L2.ixN, mp]
  have e3 : dt3 [some (.p (.str (S T))), some (.p (.str (S U))), some (.p (.str (S (a0 :: A)))), some (.p (.str (S (if q = 0 then [] else [46])))), some (.p (.str (S B))), none, none, none] [] = .ok (.nx [some (.p (.str (S T))), some (.p (.str (S U))), some (.p (.str (S (a0 :: A)))), some (.p (.str (S (if q = 0 then [] else [46])))), some (.p (.str (S B))), none, none, none]) [.lst (List.replicate ((a0 :: A) ++ B).length (.p (.bool true)))] := by
    have x1 : dt3a [some (.p (.str (S T))), some (.p (.str (S U))), some (.p (.str (S (a0 :: A)))), some (.p (.str (S (if q = 0 then [] else [46])))), some (.p (.str (S B))), none, none, none] [] = .ok (.p (.bool false)) [] := by
      by_cases h0 : q = 0
      · subst h0
        have i1 : eqV (.str (S [])) (.str "") = some true := by kernel_rfl
        simp only [if_true]
        simp [dt3a, runB, startE, endB, sRet, sSeq, sSet, sIf, sDrop, sNx, sNo, sBrk, sCont, sPar, sAsg, sFor, sWhile, sRaise, sFldS, gSet, gTupD, gCons', gNil', gSubD, fVar, fC, fBin, binS, binV, addV_int, subV, powV, asP, asPs, pds, ofO, ofD, fCmp, cmpS, cmpO, cmpV, ltV, leV, fChain, fAnd, fOr, fNot, fIte, fT, truB, fNeg, fOrS, fCall, fCons, fNil, fStar, fTup, fLst, fNew, newLst, fIdx, idxO, fSli, fPart, sliV, fFld, fldO, lookF, fMeth, fMake, fnV, lenV, absV, minV, intV, listV, fIsi, isiO, tyName, fBm, mtyp, mAppend, mPop, mExtend, itemsD, fCallK, fCallK0, fIter, iterD, fRng1, fLc, tT1, fEnd, putD, itemsO, L2.atI, L2.ixN, i1]
      · simp only [if_neg h0]
        have i1 : eqV (.str (S [46])) (.str "") = some false := by kernel_rfl
        have i2 : eqV (.str (S B)) (.str "") = some false := by
          rw [s_e, eq_S dB (by decide), decide_eq_false]
          intro e
          rw [e] at hB
          exact h0 hB.symm
        simp [dt3a, runB, startE, endB, sRet, sSeq, sSet, sIf, sDrop, sNx, sNo, sBrk, sCont, sPar, sAsg, sFor, sWhile, sRaise, sFldS, gSet, gTupD, gCons', gNil', gSubD, fVar, fC, fBin, binS, binV, addV_int, subV, powV, asP, asPs, pds, ofO, ofD, fCmp, cmpS, cmpO, cmpV, ltV, leV, fChain, fAnd, fOr, fNot, fIte, fT, truB, fNeg, fOrS, fCall, fCons, fNil, fStar, fTup, fLst, fNew, newLst, fIdx, idxO, fSli, fPart, sliV, fFld, fldO, lookF, fMeth, fMake, fnV, lenV, absV, minV, intV, listV, fIsi, isiO, tyName, fBm, mtyp, mAppend, mPop, mExtend, itemsD, fCallK, fCallK0, fIter, iterD, fRng1, fLc, tT1, fEnd, putD, itemsO, L2.atI, L2.ixN, i1, i2]
    have it : fIter (fBin .add (fVar 2) (fVar 4)) [some (.p (.str (S T))), some (.p (.str (S U))), some (.p (.str (S (a0 :: A)))), some (.p (.str (S (if q = 0 then [] else [46])))), some (.p (.str (S B))), none, none, none] [] = .ok (chs ((a0 :: A) ++ B)) [] := by
      have ad := addV_S (a0 :: A) B (by simp; omega)
      have is := iter_S ((a0 :: A) ++ B)
      have fb : fBin .add (fVar 2) (fVar 4) [some (.p (.str (S T))), some (.p (.str (S U))), some (.p (.str (S (a0 :: A)))), some (.p (.str (S (if q = 0 then [] else [46])))), some (.p (.str (S B))), none, none, none] [] = .ok (.p (.str (S ((a0 :: A) ++ B)))) [] := by
        generalize S (if q = 0 then [] else [46]) = sp at *
        generalize S ((a0 :: A) ++ B) = s1 at *
        generalize S (a0 :: A) = s2 at *
        simp [runB, startE, endB, sRet, sSeq, sSet, sIf, sDrop, sNx, sNo, sBrk, sCont, sPar, sAsg, sFor, sWhile, sRaise, sFldS, gSet, gTupD, gCons', gNil', gSubD, fVar, fC, fBin, binS, binV, addV_int, subV, powV, asP, asPs, pds, ofO, ofD, fCmp, cmpS, cmpO, cmpV, ltV, leV, fChain, fAnd, fOr, fNot, fIte, fT, truB, fNeg, fOrS, fCall, fCons, fNil, fStar, fTup, fLst, fNew, newLst, fIdx, idxO, fSli, fPart, sliV, fFld, fldO, lookF, fMeth, fMake, fnV, lenV, absV, minV, intV, listV, fIsi, isiO, tyName, fBm, mtyp, mAppend, mPop, mExtend, itemsD, fCallK, fCallK0, fIter, iterD, fRng1, fLc, tT1, fEnd, putD, itemsO, L2.atI, L2.ixN, ad]
      unfold fIter
      rw [fb]
      simp only [Mp.R.bind, is]
    have x2 := allD _ _ _ _ _ _ _ none none none [] it dgs (by simp; omega)
    have x3 : ∀ st, dt3c [some (.p (.str (S T))), some (.p (.str (S U))), some (.p (.str (S (a0 :: A)))), some (.p (.str (S (if q = 0 then [] else [46])))), some (.p (.str (S B))), none, none, none] st = .ok (.p (.bool false)) st := by
      intro st
      have i1 : eqV (.str (S (a0 :: A))) (.str "") = some false := by
        rw [s_e, eq_S dA (by decide), decide_eq_false]
        simp
      generalize S (if q = 0 then [] else [46]) = sp at *
      generalize S (a0 :: A) = s2 at *
      simp [dt3c, runB, startE, endB, sRet, sSeq, sSet, sIf, sDrop, sNx, sNo, sBrk, sCont, sPar, sAsg, sFor, sWhile, sRaise, sFldS, gSet, gTupD, gCons', gNil', gSubD, fVar, fC, fBin, binS, binV, addV_int, subV, powV, asP, asPs, pds, ofO, ofD, fCmp, cmpS, cmpO, cmpV, ltV, leV, fChain, fAnd, fOr, fNot, fIte, fT, truB, fNeg, fOrS, fCall, fCons, fNil, fStar, fTup, fLst, fNew, newLst, fIdx, idxO, fSli, fPart, sliV, fFld, fldO, lookF, fMeth, fMake, fnV, lenV, absV, minV, intV, listV, fIsi, isiO, tyName, fBm, mtyp, mAppend, mPop, mExtend, itemsD, fCallK, fCallK0, fIter, iterD, fRng1, fLc, tT1, fEnd, putD, itemsO, L2.atI, L2.ixN, i1]
    exact sIf_f ((fOr_f x1).trans ((fOr_f (fNot_b x2)).trans (x3 _)))
  generalize hst : [Cell.lst (List.replicate ((a0 :: A) ++ B).length (.p (.bool true)))] = st3 at *
  have e4 : dt4 [some (.p (.str (S T))), some (.p (.str (S U))), some (.p (.str (S (a0 :: A)))), some (.p (.str (S (if q = 0 then [] else [46])))), some (.p (.str (S B))), none, none, none] st3 = .ok (.nx [some (.p (.str (S T))), some (.p (.str (S U))), some (.p (.str (S (a0 :: A)))), some (.p (.str (S (if q = 0 then [] else [46])))), some (.p (.str (S B))), none, some (.p (.int m)), none]) st3 := by
    have ad := addV_S (a0 :: A) B (by simp; omega)
    generalize S (if q = 0 then [] else [46]) = sp at *
    generalize S ((a0 :: A) ++ B) = s1 at *
    generalize S (a0 :: A) = s2 at *
    simp [dt4, runB, startE, endB, sRet, sSeq, sSet, sIf, sDrop, sNx, sNo, sBrk, sCont, sPar, sAsg, sFor, sWhile, sRaise, sFldS, gSet, gTupD, gCons', gNil', gSubD, fVar, fC, fBin, binS, binV, addV_int, subV, powV, asP, asPs, pds, ofO, ofD, fCmp, cmpS, cmpO, cmpV, ltV, leV, fChain, fAnd, fOr, fNot, fIte, fT, truB, fNeg, fOrS, fCall, fCons, fNil, fStar, fTup, fLst, fNew, newLst, fIdx, idxO, fSli, fPart, sliV, fFld, fldO, lookF, fMeth, fMake, fnV, lenV, absV, minV, intV, listV, fIsi, isiO, tyName, fBm, mtyp, mAppend, mPop, mExtend, itemsD, fCallK, fCallK0, fIter, iterD, fRng1, fLc, tT1, fEnd, putD, itemsO, L2.atI, L2.ixN, ad, pw]
  have eqT : eqV (.str (S U)) (.str (S T)) = some (!sn) := by
    have ta : Asc T := by
      rw [hT]
      split
      · intro x hx
        rcases List.mem_cons.mp hx with h | h
        · omega
        · exact hua x h
      · exact hua
    rw [eq_S hua ta, hT]
    cases sn with
    | true =>
      rw [decide_eq_false]
      · rfl
      · intro h
        have := congrArg List.length h
        simp at this
    | false => simp
  have e5 : dt5 [some (.p (.str (S T))), some (.p (.str (S U))), some (.p (.str (S (a0 :: A)))), some (.p (.str (S (if q = 0 then [] else [46])))), some (.p (.str (S B))), none, some (.p (.int m)), none] st3 = .ok (.nx [some (.p (.str (S T))), some (.p (.str (S U))), some (.p (.str (S (a0 :: A)))), some (.p (.str (S (if q = 0 then [] else [46])))), some (.p (.str (S B))), none, some (.p (.int m)), some (.p (.tuple [.int (if sn then 0 - m else m), .int q]))]) st3 := by
    have bl : (S B).length = q := by rw [S_len, hB]
    generalize S (if q = 0 then [] else [46]) = sp at *
    generalize S (a0 :: A) = s2 at *
    generalize S B = s3 at *
    generalize S U = s4 at *
    generalize S T = s5 at *
    cases sn <;> simp [dt5, runB, startE, endB, sRet, sSeq, sSet, sIf, sDrop, sNx, sNo, sBrk, sCont, sPar, sAsg, sFor, sWhile, sRaise, sFldS, gSet, gTupD, gCons', gNil', gSubD, fVar, fC, fBin, binS, binV, addV_int, subV, powV, asP, asPs, pds, ofO, ofD, fCmp, cmpS, cmpO, cmpV, ltV, leV, fChain, fAnd, fOr, fNot, fIte, fT, truB, fNeg, fOrS, fCall, fCons, fNil, fStar, fTup, fLst, fNew, newLst, fIdx, idxO, fSli, fPart, sliV, fFld, fldO, lookF, fMeth, fMake, fnV, lenV, absV, minV, intV, listV, fIsi, isiO, tyName, fBm, mtyp, mAppend, mPop, mExtend, itemsD, fCallK, fCallK0, fIter, iterD, fRng1, fLc, tT1, fEnd, putD, itemsO, L2.atI, L2.ixN, eqT, bl, szl]
  have e6 : dt6 [some (.p (.str (S T))), some (.p (.str (S U))), some (.p (.str (S (a0 :: A)))), some (.p (.str (S (if q = 0 then [] else [46])))), some (.p (.str (S B))), none, some (.p (.int m)), some (.p (.tuple [.int (if sn then 0 - m else m), .int q]))] st3 = .ok (.ret (.p (.list [.tuple [.int (if sn then 0 - m else m), .int q]]))) st3 := by
    have al : (S (a0 :: A)).length = A.length + 1 := by rw [S_len]; rfl
    have ix : ∀ st, idxO st (.p (.str (S (a0 :: A)))) (.p (.int 0)) = some (.p (.str (S [a0]))) := fun st => by simp [idxO, L2.atI, L2.ixN]; try omega
    have i0 : eqV (.str (S [a0])) (.str "0") = some (decide (a0 = 48)) := by
      rw [s_0, eq_S (asc1 (dA a0 (by simp))) (by decide)]; simp
    have im : eqV (.int m) (.int 0) = some (decide (m = 0)) := eq_int m 0
    generalize S (if q = 0 then [] else [46]) = sp at *
    generalize S (a0 :: A) = s2 at *
    generalize S B = s3 at *
    generalize S U = s4 at *
    generalize S T = s5 at *
    generalize (PyData.tuple [.int (if sn then 0 - m else m), .int q]) = tp at *
    have fin : ∀ b : Bool, (m = 0 → sn = false) := fun _ h => by cases sn with
      | true => exact absurd h (hz rfl)
      | false => rfl
    cases A with
    | nil =>
      by_cases hm : m = 0
      · have := fin true hm
        subst this
        rw [decide_eq_true hm] at im
        simp [dt6, runB, startE, endB, sRet, sSeq, sSet, sIf, sDrop, sNx, sNo, sBrk, sCont, sPar, sAsg, sFor, sWhile, sRaise, sFldS, gSet, gTupD, gCons', gNil', gSubD, fVar, fC, fBin, binS, binV, addV_int, subV, powV, asP, asPs, pds, ofO, ofD, fCmp, cmpS, cmpO, cmpV, ltV, leV, fChain, fAnd, fOr, fNot, fIte, fT, truB, fNeg, fOrS, fCall, fCons, fNil, fStar, fTup, fLst, fNew, newLst, fIdx, idxO, fSli, fPart, sliV, fFld, fldO, lookF, fMeth, fMake, fnV, lenV, absV, minV, intV, listV, fIsi, isiO, tyName, fBm, mtyp, mAppend, mPop, mExtend, itemsD, fCallK, fCallK0, fIter, iterD, fRng1, fLc, tT1, fEnd, putD, itemsO, L2.atI, L2.ixN, al, eqT, im, szl]
      · rw [decide_eq_false hm] at im
        simp [dt6, runB, startE, endB, sRet, sSeq, sSet, sIf, sDrop, sNx, sNo, sBrk, sCont, sPar, sAsg, sFor, sWhile, sRaise, sFldS, gSet, gTupD, gCons', gNil', gSubD, fVar, fC, fBin, binS, binV, addV_int, subV, powV, asP, asPs, pds, ofO, ofD, fCmp, cmpS, cmpO, cmpV, ltV, leV, fChain, fAnd, fOr, fNot, fIte, fT, truB, fNeg, fOrS, fCall, fCons, fNil, fStar, fTup, fLst, fNew, newLst, fIdx, idxO, fSli, fPart, sliV, fFld, fldO, lookF, fMeth, fMake, fnV, lenV, absV, minV, intV, listV, fIsi, isiO, tyName, fBm, mtyp, mAppend, mPop, mExtend, itemsD, fCallK, fCallK0, fIter, iterD, fRng1, fLc, tT1, fEnd, putD, itemsO, L2.atI, L2.ixN, al, eqT, im, szl]
    | cons a1 A =>
      have ha := hh (by simp)
      have hlt : (1 : Int) < (A.length : Int) + 1 + 1 := by omega
      simp at al
      by_cases hm : m = 0
      · have := fin true hm
        subst this
        rw [decide_eq_true hm] at im
        simp only [dt6, sRet, fIte, fOr, fAnd, fCmp, fIdx, fVar, fC, Mp.R.bind, List.getElem?_cons_zero, List.getElem?_cons_succ, ix, ofD]
        simp [runB, startE, endB, sRet, sSeq, sSet, sIf, sDrop, sNx, sNo, sBrk, sCont, sPar, sAsg, sFor, sWhile, sRaise, sFldS, gSet, gTupD, gCons', gNil', gSubD, fVar, fC, fBin, binS, binV, addV_int, subV, powV, asP, asPs, pds, ofO, ofD, fCmp, cmpS, cmpO, cmpV, ltV, leV, fChain, fAnd, fOr, fNot, fIte, fT, truB, fNeg, fOrS, fCall, fCons, fNil, fStar, fTup, fLst, fNew, newLst, fIdx, idxO, fSli, fPart, sliV, fFld, fldO, lookF, fMeth, fMake, fnV, lenV, absV, minV, intV, listV, fIsi, isiO, tyName, fBm, mtyp, mAppend, mPop, mExtend, itemsD, fCallK, fCallK0, fIter, iterD, fRng1, fLc, tT1, fEnd, putD, itemsO, L2.atI, L2.ixN, al, eqT, im, i0, ha, hlt, szl]
      · rw [decide_eq_false hm] at im
        simp only [dt6, sRet, fIte, fOr, fAnd, fCmp, fIdx, fVar, fC, Mp.R.bind, List.getElem?_cons_zero, List.getElem?_cons_succ, ix, ofD]
        simp [runB, startE, endB, sRet, sSeq, sSet, sIf, sDrop, sNx, sNo, sBrk, sCont, sPar, sAsg, sFor, sWhile, sRaise, sFldS, gSet, gTupD, gCons', gNil', gSubD, fVar, fC, fBin, binS, binV, addV_int, subV, powV, asP, asPs, pds, ofO, ofD, fCmp, cmpS, cmpO, cmpV, ltV, leV, fChain, fAnd, fOr, fNot, fIte, fT, truB, fNeg, fOrS, fCall, fCons, fNil, fStar, fTup, fLst, fNew, newLst, fIdx, idxO, fSli, fPart, sliV, fFld, fldO, lookF, fMeth, fMake, fnV, lenV, absV, minV, intV, listV, fIsi, isiO, tyName, fBm, mtyp, mAppend, mPop, mExtend, itemsD, fCallK, fCallK0, fIter, iterD, fRng1, fLc, tT1, fEnd, putD, itemsO, L2.atI, L2.ixN, al, eqT, im, i0, ha, hlt, szl]
  refine ⟨st3, ?_⟩
  have run : m_decimal_told (startE 8 [.p (.str (S T))]) [] = .ok (.ret (.p (.list [.tuple [.int (if sn then 0 - m else m), .int q]]))) st3 := by
    rw [dt_eq]
    exact (sSeq_nx e1).trans ((sSeq_nx e2).trans ((sSeq_nx e3).trans ((sSeq_nx e4).trans ((sSeq_nx e5).trans e6))))
  unfold r_decimal_told runB
  simp only [List.length_cons, List.length_nil, if_true]
  rw [run]
  rfl
theorem p_told (n : Int) (q : Nat) (hn : n.natAbs < 10 ^ 20) (hq : q ≤ 9) (st : Store) : pR r_decimal_told [.p (.str (S (tx n q)))] st = .ok (.p (.list [.tuple [.int n, .int q]])) st := by
  refine pR_okE (es := [.str (S (tx n q))]) ?_
  have hul := ux_len n.natAbs q hn hq
  have pt := part_ux n.natAbs q
  have pl := pad_len n.natAbs q
  have nl := num_len _ hn
  have ab := AB_pad n.natAbs q
  have bl := B_len n.natAbs q
  have ap := A_pos n.natAbs q
  have ah := fun z => A_head (m := n.natAbs) (q := q) z
  have pv := pad_val n.natAbs q
  have dgs : ∀ c ∈ Ax n.natAbs q ++ Bx n.natAbs q, Dg c := by rw [ab]; exact pad_dg _ _
  rw [← ab] at pv
  have abl : (Ax n.natAbs q ++ Bx n.natAbs q).length ≤ 100 := by rw [ab, pl]; omega
  obtain ⟨c, r, ue, ud, u45⟩ := ux_head n.natAbs q
  have tT : tx n q = if decide (n < 0) = true then 45 :: ux n.natAbs q else ux n.natAbs q := by
    by_cases h : n < 0
    · rw [sg_neg h]; simp [h]
    · rw [sg_pos h]; simp [h]
  obtain ⟨a0, A, ae⟩ : ∃ a0 A, Ax n.natAbs q = a0 :: A := by
    cases e : Ax n.natAbs q with
    | nil => rw [e] at ap; simp at ap
    | cons a r => exact ⟨a, r, rfl⟩
  rw [ae] at dgs pv pt ah abl
  have hv : (if decide (n < 0) = true then 0 - (n.natAbs : Int) else (n.natAbs : Int)) = n := by
    by_cases h : n < 0
    · simp only [h, decide_true, if_true]; omega
    · simp only [h, decide_false, Bool.false_eq_true, if_false]; omega
  have := told_gen a0 A (Bx n.natAbs q) (ux n.natAbs q) (tx n q) q n.natAbs (decide (n < 0)) pt bl dgs pv (fun h => by
    have := ah (by
      cases A with
      | nil => exact absurd rfl h
      | cons x A => simp)
    simpa using this) (by simp at abl; omega) (by omega) ⟨c, r, ue, u45, dg_lt ud⟩ (fun x hx => by
    rcases ux_mem x hx with h | h
    · exact dg_lt h
    · omega) tT (fun h => by
    have : n < 0 := by simpa using h
    omega)
  rw [hv] at this
  exact this
end K32
end

section
set_option Elab.async false
set_option linter.all false
set_option maxRecDepth 100000
set_option maxHeartbeats 4000000
/-! K32m8: the plain law, expressions of numbers. -/
namespace K32
open PySem Mp SX
open L2 (cutS)
open C8 (cutS_slice)
def nm (n : Int) (q : Nat) : PyData := .tuple [.str "number", .int n, .int q]
/-! ### a token that is no word and no sign -/
theorem eq_tok {L : List Nat} (h : Tok L) (w : List Nat) (hw : w.length ≤ 1) (h2 : ∀ c ∈ w, ¬ Dg c) (ha : Asc w) : eqV (.str (S L)) (.str (S w)) = some false := by
  rw [eq_S h.asc ha, decide_eq_false]
  intro e
  rcases h.hd with ⟨c, r, e2, d, _⟩ | ⟨c, r, e2, d, _⟩
  · rw [← e, e2] at h2
    exact h2 c (by simp) d
  · rw [← e, e2] at hw
    simp at hw
theorem ne_tok {L : List Nat} (h : Tok L) (w : List Nat) (h2 : ∃ c r, w = c :: r ∧ ¬ Dg c ∧ (c = 45 → r = [])) : S w ≠ S L := by
  intro e
  have e := S_inj e
  obtain ⟨c, r, e1, h1, h2⟩ := h2
  rcases h.hd with ⟨c', r', e2, d, _⟩ | ⟨c', r', e2, d, _⟩
  · rw [e1, e2] at e
    cases e
    exact h1 d
  · rw [e1, e2] at e
    cases e
    have := h2 rfl
    simp at this
theorem beq_tok {L : List Nat} (h : Tok L) (w : List Nat) (h2 : ∃ c r, w = c :: r ∧ ¬ Dg c ∧ (c = 45 → r = [])) : (S w == S L) = false := by
  rw [S_beq_eq, decide_eq_false]
  intro e
  exact ne_tok h w h2 (by rw [e])
theorem in_ops {L : List Nat} (h : Tok L) : inV (.str (S L)) d_OPS = some false := by
  have h1 : SeqAt.shaped (.str (S L)) = true := sh_S h.asc
  have h2 : SeqAt.shaped d_OPS = true := by kernel_rfl
  have q1 : (("+" : Str) == S L) = false := beq_tok h [43] ⟨43, [], rfl, by unfold Dg; omega, by simp⟩
  have q2 : (("-" : Str) == S L) = false := beq_tok h [45] ⟨45, [], rfl, by unfold Dg; omega, by simp⟩
  have q3 : (("*" : Str) == S L) = false := beq_tok h [42] ⟨42, [], rfl, by unfold Dg; omega, by simp⟩
  have q4 : (("/" : Str) == S L) = false := beq_tok h [47] ⟨47, [], rfl, by unfold Dg; omega, by simp⟩
  unfold d_OPS at h2 ⊢
  rw [in_tup h1 h2]
  simp [PyData.eqv, q1, q2, q3, q4]
theorem in_par {L : List Nat} (h : Tok L) : inV (.str (S L)) (.tuple [.str "(", .str ","]) = some false := by
  have h1 : SeqAt.shaped (.str (S L)) = true := sh_S h.asc
  have h2 : SeqAt.shaped (.tuple [.str "(", .str ","]) = true := by kernel_rfl
  have q1 : (("(" : Str) == S L) = false := beq_tok h [40] ⟨40, [], rfl, by unfold Dg; omega, by simp⟩
  have q2 : (("," : Str) == S L) = false := beq_tok h [44] ⟨44, [], rfl, by unfold Dg; omega, by simp⟩
  rw [in_tup h1 h2]
  simp [PyData.eqv, q1, q2]
theorem in_words {L : List Nat} (h : Tok L) : inV (.str (S L)) d_WORDS = some false := by
  have h1 : SeqAt.shaped (.str (S L)) = true := sh_S h.asc
  have h2 : SeqAt.shaped d_WORDS = true := by kernel_rfl
  have w : ∀ (c : Nat) (r : List Nat), 97 ≤ c → (S (c :: r) == S L) = false := fun c r hc => beq_tok h (c :: r) ⟨c, r, rfl, by unfold Dg; omega, by omega⟩
  have q1 : (("else" : Str) == S L) = false := w 101 [108, 115, 101] (by decide)
  have q2 : (("end" : Str) == S L) = false := w 101 [110, 100] (by decide)
  have q3 : (("fun" : Str) == S L) = false := w 102 [117, 110] (by decide)
  have q4 : (("give" : Str) == S L) = false := w 103 [105, 118, 101] (by decide)
  have q5 : (("if" : Str) == S L) = false := w 105 [102] (by decide)
  have q6 : (("in" : Str) == S L) = false := w 105 [110] (by decide)
  have q7 : (("let" : Str) == S L) = false := w 108 [101, 116] (by decide)
  have q8 : (("main" : Str) == S L) = false := w 109 [97, 105, 110] (by decide)
  have q9 : (("out" : Str) == S L) = false := w 111 [117, 116] (by decide)
  have qa : (("repeat" : Str) == S L) = false := w 114 [101, 112, 101, 97, 116] (by decide)
  have qb : (("to" : Str) == S L) = false := w 116 [111] (by decide)
  unfold d_WORDS at h2 ⊢
  rw [in_tup h1 h2]
  simp [PyData.eqv, q1, q2, q3, q4, q5, q6, q7, q8, q9, qa, qb]
theorem kb_ss : L2.kitB "str" "str" = some true := by kernel_rfl
/-! ### is_name of a number's text -/
abbrev nmE : Mp.Env → Store → R D := fCmp .isin (fVar 1) (fC (.str "abcdefghijklmnopqrstuvwxyz"))
/-- the comprehension's truths: the first one is false -/
theorem nm_loop : ∀ (L : List Nat) (acc : List Bool) (a b : Option D) (k : Nat) (st : Store), k = st.length → acc.length + L.length ≤ 1000 → ∃ bs : List Bool, lcGo k (gSet 1) tT1 nmE (chs L) [a, b] (st ++ [.lst (acc.map fun b => .p (.bool b))]) = .ok () (st ++ [.lst ((acc ++ bs).map fun b => .p (.bool b))]) ∧ bs = L.map fun c => decide (c ∈ al) := by
  intro L
  induction L with
  | nil => intro acc a b k st _ _; exact ⟨[], by simp [chs, lcGo], rfl⟩
  | cons x L ih =>
    intro acc a b k st hk hl
    subst hk
    have hx : inV (.str (S [x])) (.str "abcdefghijklmnopqrstuvwxyz") = some (decide (x ∈ al)) := by rw [s_alph, SX.S, in_one]; rfl
    obtain ⟨bs, ih, hb⟩ := ih (acc ++ [decide (x ∈ al)]) a b st.length st rfl (by simp at hl ⊢; omega)
    refine ⟨decide (x ∈ al) :: bs, ?_, by rw [hb]; rfl⟩
    show lcGo st.length (gSet 1) tT1 nmE (.p (.str (S [x])) :: chs L) _ _ = _
    rw [lcGo]
    have b : nmE [a, some (.p (.str (S [x])))] (st ++ [.lst (acc.map fun b => .p (.bool b))]) = .ok (.p (.bool (decide (x ∈ al)))) (st ++ [.lst (acc.map fun b => .p (.bool b))]) := by
      generalize decide (x ∈ al) = bx at *
      simp [nmE, runB, startE, endB, sRet, sSeq, sSet, sIf, sDrop, sNx, sNo, sBrk, sCont, sPar, sAsg, sFor, sWhile, sRaise, sFldS, gSet, gTupD, gCons', gNil', gSubD, fVar, fC, fBin, binS, binV, addV_int, subV, powV, asP, asPs, pds, ofO, ofD, fCmp, cmpS, cmpO, cmpV, ltV, leV, fChain, fAnd, fOr, fNot, fIte, fT, truB, fNeg, fOrS, fCall, fCons, fNil, fStar, fTup, fLst, fNew, newLst, fIdx, idxO, fSli, fPart, sliV, fFld, fldO, lookF, fMeth, fMake, fnV, lenV, absV, minV, intV, listV, fIsi, isiO, tyName, fBm, mtyp, mAppend, mPop, mExtend, itemsD, fCallK, fCallK0, fIter, iterD, fRng1, fLc, tT1, fEnd, putD, itemsO, L2.atI, L2.ixN, hx]
    simp only [gSet, List.set_cons_succ, List.set_cons_zero, tT1, noX, Mp.R.bind, if_true]
    rw [b]
    have hz : (acc.map fun b => (Mp.D.p (.bool b))).length < sizeLine := by simp at hl; rw [szl, List.length_map]; omega
    simp only [noX, Mp.R.bind]
    rw [List.getElem?_append_right (Nat.le_refl _), Nat.sub_self]
    simp only [List.getElem?_cons_zero, if_pos hz]
    have e1 : (st ++ [Cell.lst (acc.map fun b => (Mp.D.p (.bool b)))]).set st.length (Cell.lst ((acc.map fun b => (Mp.D.p (.bool b))) ++ [.p (.bool (decide (x ∈ al)))])) = st ++ [Cell.lst ((acc ++ [decide (x ∈ al)]).map fun b => (Mp.D.p (.bool b)))] := by simp
    rw [e1, ih]
    simp
theorem bools_map : ∀ bs : List Bool, boolsP (bs.map .bool) = some bs := by
  intro bs
  induction bs with
  | nil => rfl
  | cons b bs ih => rw [List.map_cons, boolsP, ih]; rfl
theorem pds_bools : ∀ bs : List Bool, pds (bs.map fun b => .p (.bool b)) = some (bs.map .bool) := by
  intro bs
  induction bs with
  | nil => rfl
  | cons b bs ih => rw [List.map_cons, pds, ih]; rfl
theorem p_not_name {L : List Nat} (h : Tok L) (st : Store) : pR r_is_name [.p (.str (S L))] st = .ok (.p (.bool false)) st := by
  refine pR_okE (es := [.str (S L)]) ?_
  have hl := h.len
  have w := in_words h
  have hd : ∃ c r, L = c :: r ∧ c ∉ al := by
    rcases h.hd with ⟨c, r, e, d, _⟩ | ⟨c, r, e, d, _⟩
    · exact ⟨c, r, e, dg_al d⟩
    · exact ⟨45, _, e, by decide⟩
  obtain ⟨c, r, e, hc⟩ := hd
  have sl : (S L).length = L.length := S_len L
  have h1 : (1 : Int) ≤ (L.length : Int) := by rw [e]; simp; omega
  by_cases h8 : (L.length : Int) ≤ 8
  · obtain ⟨bs, lo, hb⟩ := nm_loop L [] (some (.p (.str (S L)))) none 0 [] rfl (by simp; omega)
    have ab : allV [.list (bs.map .bool)] = some (.bool false) := by
      simp only [allV, bools_map]
      rw [hb, e]
      simp [hc]
    have it := iter_S L
    have l1 : ∀ st, fIter (fVar 0) [some (.p (.str (S L))), none] st = .ok (chs L) st := fun st => by
      unfold fIter fVar
      simp only [List.getElem?_cons_zero, Mp.R.bind, it]
    have l2 : fLc [1] (fIter (fVar 0)) (gSet 1) tT1 nmE [some (.p (.str (S L))), none] [] = .ok (.obj 0) [.lst (bs.map fun b => .p (.bool b))] := by
      unfold fLc
      rw [l1]
      simp only [Mp.R.bind]
      have w : wipeE [some (.p (.str (S L))), none] [1] = [some (.p (.str (S L))), none] := rfl
      rw [w]
      simp only [List.length_nil, List.nil_append, List.map_nil] at lo ⊢
      rw [lo]
    have l3 : fCall (fnV allV) (fCons (fLc [1] (fIter (fVar 0)) (gSet 1) tT1 nmE) fNil) [some (.p (.str (S L))), none] [] = .ok (.p (.bool false)) [.lst (bs.map fun b => .p (.bool b))] := by
      unfold fCall fCons fNil
      simp only [Mp.R.bind]
      rw [l2]
      simp only [Mp.R.bind]
      unfold fnV
      have : asPs [.lst (bs.map fun b => .p (.bool b))] [.obj 0] = some [.list (bs.map .bool)] := by
        simp [asPs, asP, pds_bools]
      rw [this]
      simp only [ab, ofO]
    refine ⟨[.lst (bs.map fun b => .p (.bool b))], ?_⟩
    have c1 : (fOr (fNot (fIsi "str" (fVar 0))) (fOr (fNot (fChain .le .le (fC (.int 1)) (fCall (fnV lenV) (fCons (fVar 0) fNil)) (fC (.int 8)))) (fCmp .isin (fVar 0) (fC d_WORDS)))) [some (.p (.str (S L))), none] [] = .ok (.p (.bool false)) [] := by
      generalize S L = s at *
      simp [runB, startE, endB, sRet, sSeq, sSet, sIf, sDrop, sNx, sNo, sBrk, sCont, sPar, sAsg, sFor, sWhile, sRaise, sFldS, gSet, gTupD, gCons', gNil', gSubD, fVar, fC, fBin, binS, binV, addV_int, subV, powV, asP, asPs, pds, ofO, ofD, fCmp, cmpS, cmpO, cmpV, ltV, leV, fChain, fAnd, fOr, fNot, fIte, fT, truB, fNeg, fOrS, fCall, fCons, fNil, fStar, fTup, fLst, fNew, newLst, fIdx, idxO, fSli, fPart, sliV, fFld, fldO, lookF, fMeth, fMake, fnV, lenV, absV, minV, intV, listV, fIsi, isiO, tyName, fBm, mtyp, mAppend, mPop, mExtend, itemsD, fCallK, fCallK0, fIter, iterD, fRng1, fLc, tT1, fEnd, putD, itemsO, L2.atI, L2.ixN, sl, h1, h8, w, kb_ss]
    have run : m_is_name [some (.p (.str (S L))), none] [] = .ok (.ret (.p (.bool false))) [.lst (bs.map fun b => .p (.bool b))] := by
      unfold m_is_name
      refine (sSeq_nx (sIf_f c1)).trans ?_
      unfold sRet
      rw [l3]
      rfl
    show runB 1 2 m_is_name _ _ = _
    unfold runB startE
    simp only [List.length_cons, List.length_nil, List.map_cons, List.map_nil, if_true]
    show endB (m_is_name [some (.p (.str (S L))), none] []) = _
    rw [run]
    rfl
  · refine ⟨[], ?_⟩
    generalize S L = s at *
    simp [r_is_name, m_is_name, runB, startE, endB, sRet, sSeq, sSet, sIf, sDrop, sNx, sNo, sBrk, sCont, sPar, sAsg, sFor, sWhile, sRaise, sFldS, gSet, gTupD, gCons', gNil', gSubD, fVar, fC, fBin, binS, binV, addV_int, subV, powV, asP, asPs, pds, ofO, ofD, fCmp, cmpS, cmpO, cmpV, ltV, leV, fChain, fAnd, fOr, fNot, fIte, fT, truB, fNeg, fOrS, fCall, fCons, fNil, fStar, fTup, fLst, fNew, newLst, fIdx, idxO, fSli, fPart, sliV, fFld, fldO, lookF, fMeth, fMake, fnV, lenV, absV, minV, intV, listV, fIsi, isiO, tyName, fBm, mtyp, mAppend, mPop, mExtend, itemsD, fCallK, fCallK0, fIter, iterD, fRng1, fLc, tT1, fEnd, putD, itemsO, L2.atI, L2.ixN, sl, h1, h8, kb_ss]
end K32
end

section
set_option Elab.async false
set_option linter.all false
set_option maxRecDepth 100000
set_option maxHeartbeats 4000000
/-! K32m9: the plain law, expressions of numbers: the stack, the text, the reading. -/
namespace K32
open PySem Mp SX
open L2 (cutS)
open C8 (cutS_slice)
theorem eq_nm (n : Int) (q : Nat) : eqV (.list [nm n q]) (.list []) = some false := by kernel_rfl
theorem eq_l0 : eqV (.list []) (.list []) = some true := by kernel_rfl
theorem eq_rb {L : List Nat} (h : Tok L) : eqV (.str (S L)) (.str ")") = some false := eq_tok h [41] (by simp) (by simp [Dg]) (by decide)
def okN (n : Int) (q : Nat) : Bool := (decide (-999999 ≤ n) && decide (n ≤ 999999)) && (decide (0 ≤ (q : Int)) && decide ((q : Int) ≤ 4))
abbrev fsE : Store := [.ins 5 [("held", .obj 1)], .lst []]
theorem e_leaf {n : Int} {q : Nat} {L : List Nat} (h : Tok L) (ht : ∀ st, pR r_decimal_told [.p (.str (S L))] st = .ok (.p (.list [.tuple [.int n, .int q]])) st) :
    r_Stack_leaf [.obj 0, .p (.str (S L))] fsE = .ok (.p (.bool (okN n q))) [.ins 5 [("held", .obj 1)], .lst (if okN n q then [.p (nm n q)] else []), .lst (if okN n q then [.p (nm n q)] else [])] := by
  have pn := fun st => p_not_name h st
  have df := fun st => p_dform n q st
  have e1 := eq_nm n q
  have e2 := eq_l0
  have ad0 : addV (.list []) (.list []) = some (.list []) := by kernel_rfl
  have ad1 : addV (.list []) (.list [nm n q]) = some (.list [nm n q]) := by kernel_rfl
  simp only [nm] at ad1
  generalize S L = s at *
  cases hb : okN n q with
  | true =>
    have hb' := hb
    unfold okN at hb'
    rw [hb'] at df
    simp [nm] at e1
    simp [r_Stack_leaf, m_Stack_leaf, runB, startE, endB, sRet, sSeq, sSet, sIf, sDrop, sNx, sNo, sBrk, sCont, sPar, sAsg, sFor, sWhile, sRaise, sFldS, gSet, gTupD, gCons', gNil', gSubD, fVar, fC, fBin, binS, binV, addV_int, subV, powV, asP, asPs, pds, ofO, ofD, fCmp, cmpS, cmpO, cmpV, ltV, leV, fChain, fAnd, fOr, fNot, fIte, fT, truB, fNeg, fOrS, fCall, fCons, fNil, fStar, fTup, fLst, fNew, newLst, fIdx, idxO, fSli, fPart, sliV, fFld, fldO, lookF, fMeth, fMake, fnV, lenV, absV, minV, intV, listV, fIsi, isiO, tyName, fBm, mtyp, mAppend, mPop, mExtend, itemsD, fCallK, fCallK0, fIter, iterD, fRng1, fLc, tT1, fEnd, putD, itemsO, L2.atI, L2.ixN, fk, pn, ht, df, e1, ad1, nm, szl, noX, lcGo, wipeE]
  | false =>
    have hb' := hb
    unfold okN at hb'
    rw [hb'] at df
    simp [r_Stack_leaf, m_Stack_leaf, runB, startE, endB, sRet, sSeq, sSet, sIf, sDrop, sNx, sNo, sBrk, sCont, sPar, sAsg, sFor, sWhile, sRaise, sFldS, gSet, gTupD, gCons', gNil', gSubD, fVar, fC, fBin, binS, binV, addV_int, subV, powV, asP, asPs, pds, ofO, ofD, fCmp, cmpS, cmpO, cmpV, ltV, leV, fChain, fAnd, fOr, fNot, fIte, fT, truB, fNeg, fOrS, fCall, fCons, fNil, fStar, fTup, fLst, fNew, newLst, fIdx, idxO, fSli, fPart, sliV, fFld, fldO, lookF, fMeth, fMake, fnV, lenV, absV, minV, intV, listV, fIsi, isiO, tyName, fBm, mtyp, mAppend, mPop, mExtend, itemsD, fCallK, fCallK0, fIter, iterD, fRng1, fLc, tT1, fEnd, putD, itemsO, L2.atI, L2.ixN, fk, pn, ht, df, e2, ad0, nm, szl, noX, lcGo, wipeE]
end K32
end

section
set_option Elab.async false
set_option linter.all false
set_option maxRecDepth 100000
set_option maxHeartbeats 4000000
/-! K32ma: the plain law, expressions of numbers: the text, the form, the reading. -/
namespace K32
open PySem Mp SX
open L2 (cutS)
open C8 (cutS_slice)
theorem e_take {n : Int} {q : Nat} {L : List Nat} (h : Tok L) (ht : ∀ st, pR r_decimal_told [.p (.str (S L))] st = .ok (.p (.list [.tuple [.int n, .int q]])) st) :
    r_Stack_take [.obj 0, .p (.str (S L))] fsE = .ok (.p (.bool (okN n q))) [.ins 5 [("held", .obj 1)], .lst (if okN n q then [.p (nm n q)] else []), .lst (if okN n q then [.p (nm n q)] else [])] := by
  have lf := e_leaf h ht
  have i1 := eq_rb h
  have lh : ¬ (("leaf" : Str) = "held") := by decide
  have i2 := in_ops h
  have i3 := in_par h
  generalize S L = s at *
  generalize (if okN n q then [Mp.D.p (nm n q)] else []) = ds at *
  simp [fsE] at lf
  simp [r_Stack_take, m_Stack_take, runB, startE, endB, sRet, sSeq, sSet, sIf, sDrop, sNx, sNo, sBrk, sCont, sPar, sAsg, sFor, sWhile, sRaise, sFldS, gSet, gTupD, gCons', gNil', gSubD, fVar, fC, fBin, binS, binV, addV_int, subV, powV, asP, asPs, pds, ofO, ofD, fCmp, cmpS, cmpO, cmpV, ltV, leV, fChain, fAnd, fOr, fNot, fIte, fT, truB, fNeg, fOrS, fCall, fCons, fNil, fStar, fTup, fLst, fNew, newLst, fIdx, idxO, fSli, fPart, sliV, fFld, fldO, lookF, fMeth, fMake, fnV, lenV, absV, minV, intV, listV, fIsi, isiO, tyName, fBm, mtyp, mAppend, mPop, mExtend, itemsD, fCallK, fCallK0, fIter, iterD, fRng1, fLc, tT1, fEnd, putD, itemsO, L2.atI, L2.ixN, fsE, i1, i2, i3, lf, lh, szl]
/-! ### words_of, text_of -/
abbrev wdA : SM := (sPar 1 2 (fCons (fNew (fCons (fVar 0) fNil)) (fCons (fNew fNil) fNil)))
abbrev wdC : Mp.Env → Store → R D := (fCmp .ne (fVar 1) (fLst fNil))
abbrev wdB : SM := (sSeq (sSet 3 (fBm "list" mPop (fVar 1) fNil)) (sIf (fIsi "str" (fVar 3)) (sDrop (fBm "list" mAppend (fVar 2) (fCons (fVar 3) fNil))) (sIf (fCmp .isin (fIdx (fVar 3) (fC (.int 0))) (fC d_OPS)) sNo (sIf (fCmp .eq (fIdx (fVar 3) (fC (.int 0))) (fC (.str "call"))) sNo (sDrop (fBm "list" mAppend (fVar 2) (fCons (fIte (fCmp .eq (fIdx (fVar 3) (fC (.int 0))) (fC (.str "name"))) (fIdx (fVar 3) (fC (.int 1))) (fCall (pR r_text_at) (fCons (fIdx (fVar 3) (fC (.int 1))) (fCons (fIdx (fVar 3) (fC (.int 2))) fNil)))) fNil)))))))
theorem wd_eq : m_words_of = sSeq wdA (sSeq (sWhile 100000 wdC wdB) (sRet (fVar 2))) := rfl
theorem p_words (n : Int) (q : Nat) (hn : n.natAbs < 10 ^ 20) (hq : q ≤ 9) (st : Store) : pR r_words_of [.p (nm n q)] st = .ok (.p (.list [.str (S (tx n q))])) st := by
  have ta := fun st => p_text_at n q hn hq st
  have e1 := eq_nm n q
  have e2 := eq_l0
  have k1 : L2.kitB "str" "tuple" = some false := by kernel_rfl
  have k2 : L2.kitB "tuple" "str" = some false := by kernel_rfl
  have i1 : inV (.str "number") d_OPS = some false := by kernel_rfl
  have i2 : eqV (.str "number") (.str "call") = some false := by kernel_rfl
  have i3 : eqV (.str "number") (.str "name") = some false := by kernel_rfl
  generalize S (tx n q) = s at *
  have a : wdA [some (.p (nm n q)), none, none, none, none, none, none] [] = .ok (.nx [some (.p (nm n q)), some (.obj 0), some (.obj 1), none, none, none, none]) [.lst [.p (nm n q)], .lst []] := by simp [wdA, runB, startE, endB, sRet, sSeq, sSet, sIf, sDrop, sNx, sNo, sBrk, sCont, sPar, sAsg, sFor, sWhile, sRaise, sFldS, gSet, gTupD, gCons', gNil', gSubD, fVar, fC, fBin, binS, binV, addV_int, subV, powV, asP, asPs, pds, ofO, ofD, fCmp, cmpS, cmpO, cmpV, ltV, leV, fChain, fAnd, fOr, fNot, fIte, fT, truB, fNeg, fOrS, fCall, fCons, fNil, fStar, fTup, fLst, fNew, newLst, fIdx, idxO, fSli, fPart, sliV, fFld, fldO, lookF, fMeth, fMake, fnV, lenV, absV, minV, intV, listV, fIsi, isiO, tyName, fBm, mtyp, mAppend, mPop, mExtend, itemsD, fCallK, fCallK0, fIter, iterD, fRng1, fLc, tT1, fEnd, putD, itemsO, L2.atI, L2.ixN, szl]
  have c0 : fT wdC [some (.p (nm n q)), some (.obj 0), some (.obj 1), none, none, none, none] [.lst [.p (nm n q)], .lst []] = .ok true [.lst [.p (nm n q)], .lst []] := by simp [wdC, runB, startE, endB, sRet, sSeq, sSet, sIf, sDrop, sNx, sNo, sBrk, sCont, sPar, sAsg, sFor, sWhile, sRaise, sFldS, gSet, gTupD, gCons', gNil', gSubD, fVar, fC, fBin, binS, binV, addV_int, subV, powV, asP, asPs, pds, ofO, ofD, fCmp, cmpS, cmpO, cmpV, ltV, leV, fChain, fAnd, fOr, fNot, fIte, fT, truB, fNeg, fOrS, fCall, fCons, fNil, fStar, fTup, fLst, fNew, newLst, fIdx, idxO, fSli, fPart, sliV, fFld, fldO, lookF, fMeth, fMake, fnV, lenV, absV, minV, intV, listV, fIsi, isiO, tyName, fBm, mtyp, mAppend, mPop, mExtend, itemsD, fCallK, fCallK0, fIter, iterD, fRng1, fLc, tT1, fEnd, putD, itemsO, L2.atI, L2.ixN, e1, szl]
  have b0 : wdB [some (.p (nm n q)), some (.obj 0), some (.obj 1), none, none, none, none] [.lst [.p (nm n q)], .lst []] = .ok (.nx [some (.p (nm n q)), some (.obj 0), some (.obj 1), some (.p (nm n q)), none, none, none]) [.lst [], .lst [.p (.str s)]] := by
    simp [wdB, runB, startE, endB, sRet, sSeq, sSet, sIf, sDrop, sNx, sNo, sBrk, sCont, sPar, sAsg, sFor, sWhile, sRaise, sFldS, gSet, gTupD, gCons', gNil', gSubD, fVar, fC, fBin, binS, binV, addV_int, subV, powV, asP, asPs, pds, ofO, ofD, fCmp, cmpS, cmpO, cmpV, ltV, leV, fChain, fAnd, fOr, fNot, fIte, fT, truB, fNeg, fOrS, fCall, fCons, fNil, fStar, fTup, fLst, fNew, newLst, fIdx, idxO, fSli, fPart, sliV, fFld, fldO, lookF, fMeth, fMake, fnV, lenV, absV, minV, intV, listV, fIsi, isiO, tyName, fBm, mtyp, mAppend, mPop, mExtend, itemsD, fCallK, fCallK0, fIter, iterD, fRng1, fLc, tT1, fEnd, putD, itemsO, L2.atI, L2.ixN, nm, k1, k2, i1, i2, i3, ta, szl]
  have c1 : fT wdC [some (.p (nm n q)), some (.obj 0), some (.obj 1), some (.p (nm n q)), none, none, none] [.lst [], .lst [.p (.str s)]] = .ok false [.lst [], .lst [.p (.str s)]] := by simp [wdC, runB, startE, endB, sRet, sSeq, sSet, sIf, sDrop, sNx, sNo, sBrk, sCont, sPar, sAsg, sFor, sWhile, sRaise, sFldS, gSet, gTupD, gCons', gNil', gSubD, fVar, fC, fBin, binS, binV, addV_int, subV, powV, asP, asPs, pds, ofO, ofD, fCmp, cmpS, cmpO, cmpV, ltV, leV, fChain, fAnd, fOr, fNot, fIte, fT, truB, fNeg, fOrS, fCall, fCons, fNil, fStar, fTup, fLst, fNew, newLst, fIdx, idxO, fSli, fPart, sliV, fFld, fldO, lookF, fMeth, fMake, fnV, lenV, absV, minV, intV, listV, fIsi, isiO, tyName, fBm, mtyp, mAppend, mPop, mExtend, itemsD, fCallK, fCallK0, fIter, iterD, fRng1, fLc, tT1, fEnd, putD, itemsO, L2.atI, L2.ixN, e2, szl]
  have w : sWhile 100000 wdC wdB [some (.p (nm n q)), some (.obj 0), some (.obj 1), none, none, none, none] [.lst [.p (nm n q)], .lst []] = .ok (.nx [some (.p (nm n q)), some (.obj 0), some (.obj 1), some (.p (nm n q)), none, none, none]) [.lst [], .lst [.p (.str s)]] :=
    (loopW_t (n := 99999) c0 b0).trans (loopW_f (n := 99998) c1)
  have run : m_words_of [some (.p (nm n q)), none, none, none, none, none, none] [] = .ok (.ret (.obj 1)) [.lst [], .lst [.p (.str s)]] := by
    rw [wd_eq]
    exact (sSeq_nx a).trans ((sSeq_nx w).trans rfl)
  have run2 : r_words_of [.p (nm n q)] [] = .ok (.obj 1) [.lst [], .lst [.p (.str s)]] := by
    show runB 1 7 m_words_of _ _ = _
    unfold runB startE
    simp only [List.length_cons, List.length_nil, List.map_cons, List.map_nil, if_true]
    show endB (m_words_of [some (.p (nm n q)), none, none, none, none, none, none] []) = _
    rw [run]
    rfl
  unfold pR pureRun
  simp [pdsB, run2, runB, startE, endB, sRet, sSeq, sSet, sIf, sDrop, sNx, sNo, sBrk, sCont, sPar, sAsg, sFor, sWhile, sRaise, sFldS, gSet, gTupD, gCons', gNil', gSubD, fVar, fC, fBin, binS, binV, addV_int, subV, powV, asP, asPs, pds, ofO, ofD, fCmp, cmpS, cmpO, cmpV, ltV, leV, fChain, fAnd, fOr, fNot, fIte, fT, truB, fNeg, fOrS, fCall, fCons, fNil, fStar, fTup, fLst, fNew, newLst, fIdx, idxO, fSli, fPart, sliV, fFld, fldO, lookF, fMeth, fMake, fnV, lenV, absV, minV, intV, listV, fIsi, isiO, tyName, fBm, mtyp, mAppend, mPop, mExtend, itemsD, fCallK, fCallK0, fIter, iterD, fRng1, fLc, tT1, fEnd, putD, itemsO, L2.atI, L2.ixN]
theorem e_join (L : List Nat) (h : L.length ≤ 1000) (st : Store) : mJoin (.p (.str "")) [.p (.list [.str (S L)])] st = .ok (.p (.str (S L))) st := by
  have j : Txt.join ("" : Str) [S L] = S L := by rw [s_e]; exact join_S [] [L]
  have l1 : ([S L].map (·.length)).sum + [S L].length * ("" : Str).length ≤ 16777216 ∧ (Txt.join ("" : Str) [S L]).length ≤ sizeLine := by
    rw [j, S_len, szl]
    simp [S_len]
    show L.length + 0 ≤ 16777216 ∧ L.length ≤ 16777216
    omega
  simp only [mJoin, asP, asPs, strsP, Option.map]
  rw [if_pos l1, j]
  rfl
theorem p_text_of (n : Int) (q : Nat) (hn : n.natAbs < 10 ^ 20) (hq : q ≤ 9) (st : Store) : pR r_text_of [.p (nm n q)] st = .ok (.p (.str (S (tx n q)))) st := by
  refine pR_ok (es := [nm n q]) (st1 := []) ?_
  have w := fun st => p_words n q hn hq st
  have j := fun st => e_join (tx n q) (by have := tx_len n q hn hq; omega) st
  generalize S (tx n q) = s at *
  simp [r_text_of, m_text_of, runB, startE, endB, sRet, sSeq, sSet, sIf, sDrop, sNx, sNo, sBrk, sCont, sPar, sAsg, sFor, sWhile, sRaise, sFldS, gSet, gTupD, gCons', gNil', gSubD, fVar, fC, fBin, binS, binV, addV_int, subV, powV, asP, asPs, pds, ofO, ofD, fCmp, cmpS, cmpO, cmpV, ltV, leV, fChain, fAnd, fOr, fNot, fIte, fT, truB, fNeg, fOrS, fCall, fCons, fNil, fStar, fTup, fLst, fNew, newLst, fIdx, idxO, fSli, fPart, sliV, fFld, fldO, lookF, fMeth, fMake, fnV, lenV, absV, minV, intV, listV, fIsi, isiO, tyName, fBm, mtyp, mAppend, mPop, mExtend, itemsD, fCallK, fCallK0, fIter, iterD, fRng1, fLc, tT1, fEnd, putD, itemsO, L2.atI, L2.ixN, w, j]
/-! ### the form -/
theorem p_head (n : Int) (q : Nat) (st : Store) : pR r_is_expression_head [.p (nm n q)] st = .ok (.p (.bool (okN n q))) st := by
  refine pR_ok (es := [nm n q]) (st1 := []) ?_
  have h1 : ∀ st, pR r_head_of [.p (nm n q)] st = .ok (.p (.list [.str "number"])) st := fun st => by kernel_rfl
  have h2 : ∀ st, pR r_is_tuple_of [.p (nm n q), .p (.int 3)] st = .ok (.p (.bool true)) st := fun st => by kernel_rfl
  have h3 : sliV (some 1) none (nm n q) = some (.tuple [.int n, .int q]) := by kernel_rfl
  have e1 : eqV (.list [.str "number"]) (.list [.str "number"]) = some true := by kernel_rfl
  have df := fun st => p_dform n q st
  have ok : ((decide (-999999 ≤ n) && decide (n ≤ 999999)) && (decide (0 ≤ (q : Int)) && decide ((q : Int) ≤ 4))) = okN n q := rfl
  rw [ok] at df
  generalize okN n q = b at *
  generalize nm n q = x at *
  cases b <;> simp [r_is_expression_head, m_is_expression_head, fSli, fPart, runB, startE, endB, sRet, sSeq, sSet, sIf, fVar, fC, fCmp, cmpS, cmpO, cmpV, fAnd, fT, truB, fCall, fCons, fNil, fLst, ofO, asP, pds, h1, h2, h3, e1, df, szl]
theorem p_next (n : Int) (q : Nat) (st : Store) : pR r_next_layer [.p (.list [nm n q])] st = .ok (.p (.list [])) st := by kernel_rfl
theorem p_next0 (st : Store) : pR r_next_layer [.p (.list [])] st = .ok (.p (.list [])) st := by kernel_rfl
theorem p_form {n : Int} {q : Nat} (ok : okN n q = true) (st : Store) : pR r_is_expression_form [.p (nm n q)] st = .ok (.p (.bool true)) st := by
  refine pR_okE (es := [nm n q]) ?_
  have h1 := fun st => p_head n q st
  rw [ok] at h1
  have h2 := fun st => p_next n q st
  have h3 := p_next0
  have e2 := eq_l0
  generalize nm n q = x at *
  have r5 : rngOk 5 = true := by decide
  have rg : rngD 0 (Int.toNat 5) = [.p (.int 0), .p (.int 1), .p (.int 2), .p (.int 3), .p (.int 4)] := rfl
  refine ⟨[.lst [.p (.bool true)], .lst [], .lst [], .lst [], .lst []], ?_⟩
  simp [r_is_expression_form, m_is_expression_form, runB, startE, endB, sRet, sSeq, sSet, sIf, sDrop, sNx, sNo, sBrk, sCont, sPar, sAsg, sFor, sWhile, sRaise, sFldS, gSet, gTupD, gCons', gNil', gSubD, fVar, fC, fBin, binS, binV, addV_int, subV, powV, asP, asPs, pds, ofO, ofD, fCmp, cmpS, cmpO, cmpV, ltV, leV, fChain, fAnd, fOr, fNot, fIte, fT, truB, fNeg, fOrS, fCall, fCons, fNil, fStar, fTup, fLst, fNew, newLst, fIdx, idxO, fSli, fPart, sliV, fFld, fldO, lookF, fMeth, fMake, fnV, lenV, absV, minV, intV, listV, fIsi, isiO, tyName, fBm, mtyp, mAppend, mPop, mExtend, itemsD, fCallK, fCallK0, fIter, iterD, fRng1, fLc, tT1, fEnd, putD, itemsO, L2.atI, L2.ixN, r5, rngD, List.range, List.range.loop, loopF, lcGo, wipeE, noX, h1, h2, h3, e2, szl, allV, boolsP]
theorem p_form_no {n : Int} {q : Nat} (ok : okN n q = false) (st : Store) : pR r_is_expression_form [.p (nm n q)] st = .ok (.p (.bool false)) st := by
  refine pR_okE (es := [nm n q]) ?_
  have h1 := fun st => p_head n q st
  rw [ok] at h1
  generalize nm n q = x at *
  have r5 : rngOk 5 = true := by decide
  refine ⟨[.lst [.p (.bool false)]], ?_⟩
  simp [r_is_expression_form, m_is_expression_form, runB, startE, endB, sRet, sSeq, sSet, sIf, sDrop, sNx, sNo, sBrk, sCont, sPar, sAsg, sFor, sWhile, sRaise, sFldS, gSet, gTupD, gCons', gNil', gSubD, fVar, fC, fBin, binS, binV, addV_int, subV, powV, asP, asPs, pds, ofO, ofD, fCmp, cmpS, cmpO, cmpV, ltV, leV, fChain, fAnd, fOr, fNot, fIte, fT, truB, fNeg, fOrS, fCall, fCons, fNil, fStar, fTup, fLst, fNew, newLst, fIdx, idxO, fSli, fPart, sliV, fFld, fldO, lookF, fMeth, fMake, fnV, lenV, absV, minV, intV, listV, fIsi, isiO, tyName, fBm, mtyp, mAppend, mPop, mExtend, itemsD, fCallK, fCallK0, fIter, iterD, fRng1, fLc, tT1, fEnd, putD, itemsO, L2.atI, L2.ixN, r5, rngD, List.range, List.range.loop, loopF, lcGo, wipeE, noX, h1, szl, allV, boolsP]
/-! ### the expression's text -/
theorem p_expression_text {n : Int} {q : Nat} (ok : okN n q = true) (st : Store) : pR r_expression_text [.p (nm n q)] st = .ok (.p (.str (S (tx n q)))) st := by
  refine pR_ok (es := [nm n q]) (st1 := []) ?_
  have k := ok
  simp [okN] at k
  have h1 := fun st => p_form ok st
  have h2 := fun st => p_text_of n q (by omega) (by omega) st
  generalize S (tx n q) = s at *
  generalize nm n q = x at *
  simp [r_expression_text, m_expression_text, runB, startE, endB, sRet, sSeq, sSet, sIf, sDrop, sNx, sNo, sBrk, sCont, sPar, sAsg, sFor, sWhile, sRaise, sFldS, gSet, gTupD, gCons', gNil', gSubD, fVar, fC, fBin, binS, binV, addV_int, subV, powV, asP, asPs, pds, ofO, ofD, fCmp, cmpS, cmpO, cmpV, ltV, leV, fChain, fAnd, fOr, fNot, fIte, fT, truB, fNeg, fOrS, fCall, fCons, fNil, fStar, fTup, fLst, fNew, newLst, fIdx, idxO, fSli, fPart, sliV, fFld, fldO, lookF, fMeth, fMake, fnV, lenV, absV, minV, intV, listV, fIsi, isiO, tyName, fBm, mtyp, mAppend, mPop, mExtend, itemsD, fCallK, fCallK0, fIter, iterD, fRng1, fLc, tT1, fEnd, putD, itemsO, L2.atI, L2.ixN, h1, h2]
end K32
end

section
set_option Elab.async false
set_option linter.all false
set_option maxRecDepth 100000
set_option maxHeartbeats 4000000
/-! K32mb: the plain law, expressions of numbers: the reading. -/
namespace K32
open PySem Mp SX
theorem e_init : r_Stack___init__ [.obj 0] [.ins 5 []] = .ok (.p .none) fsE := by kernel_rfl
theorem p_etold {n : Int} {q : Nat} (hn : n.natAbs < 10 ^ 20) (hq : q ≤ 9) (ok : okN n q = true) (st : Store) : pR r_expression_told [.p (.str (S (tx n q)))] st = .ok (.p (.list [nm n q])) st := by
  refine pR_okE (es := [.str (S (tx n q))]) ?_
  have h := tx_tok n q hn hq
  have tk := e_take h (fun st => p_told n q hn hq st)
  have tks := fun st => p_tokens h st
  have xt := fun st => p_text_of n q hn hq st
  have k2 : L2.kitB "tuple" "str" = some false := by kernel_rfl
  have k1 : L2.kitB "str" "tuple" = some false := by kernel_rfl
  have ii := e_init
  have lh : ¬ (("take" : Str) = "held") := by decide
  have es : eqV (.str (S (tx n q))) (.str (S (tx n q))) = some true := by rw [eq_S h.asc h.asc]; simp
  have e11 : eqV (.int 1) (.int 1) = some true := by kernel_rfl
  rw [ok] at tk
  generalize S (tx n q) = s at *
  refine ⟨[.ins 5 [("held", .obj 1)], .lst [.p (nm n q)], .lst [.p (nm n q)]], ?_⟩
  simp [fsE, nm] at tk ii xt
  simp [r_expression_told, m_expression_told, runB, startE, endB, sRet, sSeq, sSet, sIf, sDrop, sNx, sNo, sBrk, sCont, sPar, sAsg, sFor, sWhile, sRaise, sFldS, gSet, gTupD, gCons', gNil', gSubD, fVar, fC, fBin, binS, binV, addV_int, subV, powV, asP, asPs, pds, ofO, ofD, fCmp, cmpS, cmpO, cmpV, ltV, leV, fChain, fAnd, fOr, fNot, fIte, fT, truB, fNeg, fOrS, fCall, fCons, fNil, fStar, fTup, fLst, fNew, newLst, fIdx, idxO, fSli, fPart, sliV, fFld, fldO, lookF, fMeth, fMake, fnV, lenV, absV, minV, intV, listV, fIsi, isiO, tyName, fBm, mtyp, mAppend, mPop, mExtend, itemsD, fCallK, fCallK0, fIter, iterD, fRng1, fLc, tT1, fEnd, putD, itemsO, L2.atI, L2.ixN, fk, loopF, nm, ii, tk, tks, xt, k1, k2, lh, es, e11, szl]
theorem p_etold_no {n : Int} {q : Nat} (hn : n.natAbs < 10 ^ 20) (hq : q ≤ 9) (ok : okN n q = false) (st : Store) : pR r_expression_told [.p (.str (S (tx n q)))] st = .ok (.p (.list [])) st := by
  refine pR_okE (es := [.str (S (tx n q))]) ?_
  have h := tx_tok n q hn hq
  have tk := e_take h (fun st => p_told n q hn hq st)
  have tks := fun st => p_tokens h st
  have ii := e_init
  have lh : ¬ (("take" : Str) = "held") := by decide
  rw [ok] at tk
  generalize S (tx n q) = s at *
  refine ⟨[.ins 5 [("held", .obj 1)], .lst [], .lst []], ?_⟩
  simp [fsE] at tk ii
  simp [r_expression_told, m_expression_told, runB, startE, endB, sRet, sSeq, sSet, sIf, sDrop, sNx, sNo, sBrk, sCont, sPar, sAsg, sFor, sWhile, sRaise, sFldS, gSet, gTupD, gCons', gNil', gSubD, fVar, fC, fBin, binS, binV, addV_int, subV, powV, asP, asPs, pds, ofO, ofD, fCmp, cmpS, cmpO, cmpV, ltV, leV, fChain, fAnd, fOr, fNot, fIte, fT, truB, fNeg, fOrS, fCall, fCons, fNil, fStar, fTup, fLst, fNew, newLst, fIdx, idxO, fSli, fPart, sliV, fFld, fldO, lookF, fMeth, fMake, fnV, lenV, absV, minV, intV, listV, fIsi, isiO, tyName, fBm, mtyp, mAppend, mPop, mExtend, itemsD, fCallK, fCallK0, fIter, iterD, fRng1, fLc, tT1, fEnd, putD, itemsO, L2.atI, L2.ixN, fk, loopF, ii, tk, tks, lh, szl]
theorem p_is_text (s : Str) (st : Store) : pR r_is_text [.p (.str s)] st = .ok (.p (.bool true)) st := by kernel_rfl
theorem p_read {n : Int} {q : Nat} (hn : n.natAbs < 10 ^ 20) (hq : q ≤ 9) (ok : okN n q = true) (st : Store) : pR r_read_expression [.p (.str (S (tx n q)))] st = .ok (.p (nm n q)) st := by
  refine pR_ok (es := [.str (S (tx n q))]) (st1 := []) ?_
  have h1 := fun st => p_etold hn hq ok st
  have h2 := fun st => p_form ok st
  have h3 := p_is_text
  generalize S (tx n q) = s at *
  generalize nm n q = x at *
  simp [r_read_expression, m_read_expression, runB, startE, endB, sRet, sSeq, sSet, sIf, sDrop, sNx, sNo, sBrk, sCont, sPar, sAsg, sFor, sWhile, sRaise, sFldS, gSet, gTupD, gCons', gNil', gSubD, fVar, fC, fBin, binS, binV, addV_int, subV, powV, asP, asPs, pds, ofO, ofD, fCmp, cmpS, cmpO, cmpV, ltV, leV, fChain, fAnd, fOr, fNot, fIte, fT, truB, fNeg, fOrS, fCall, fCons, fNil, fStar, fTup, fLst, fNew, newLst, fIdx, idxO, fSli, fPart, sliV, fFld, fldO, lookF, fMeth, fMake, fnV, lenV, absV, minV, intV, listV, fIsi, isiO, tyName, fBm, mtyp, mAppend, mPop, mExtend, itemsD, fCallK, fCallK0, fIter, iterD, fRng1, fLc, tT1, fEnd, putD, itemsO, L2.atI, L2.ixN, loopF, h1, h2, h3, szl]
theorem p_read_no {n : Int} {q : Nat} (hn : n.natAbs < 10 ^ 20) (hq : q ≤ 9) (ok : okN n q = false) (st : Store) : pR r_read_expression [.p (.str (S (tx n q)))] st = .exc 4 .none st := by
  refine pR_exc (es := [.str (S (tx n q))]) (st1 := []) ?_
  have h1 := fun st => p_etold_no hn hq ok st
  have h3 := p_is_text
  generalize S (tx n q) = s at *
  simp [r_read_expression, m_read_expression, runB, startE, endB, sRet, sSeq, sSet, sIf, sDrop, sNx, sNo, sBrk, sCont, sPar, sAsg, sFor, sWhile, sRaise, sFldS, gSet, gTupD, gCons', gNil', gSubD, fVar, fC, fBin, binS, binV, addV_int, subV, powV, asP, asPs, pds, ofO, ofD, fCmp, cmpS, cmpO, cmpV, ltV, leV, fChain, fAnd, fOr, fNot, fIte, fT, truB, fNeg, fOrS, fCall, fCons, fNil, fStar, fTup, fLst, fNew, newLst, fIdx, idxO, fSli, fPart, sliV, fFld, fldO, lookF, fMeth, fMake, fnV, lenV, absV, minV, intV, listV, fIsi, isiO, tyName, fBm, mtyp, mAppend, mPop, mExtend, itemsD, fCallK, fCallK0, fIter, iterD, fRng1, fLc, tT1, fEnd, putD, itemsO, L2.atI, L2.ixN, loopF, h1, h3, szl]
end K32
end

section
set_option Elab.async false
set_option linter.all false
set_option maxRecDepth 100000
set_option maxHeartbeats 4000000
/-! K32m10: the plain law, the pail. -/
namespace K32
open PySem Mp SX
def Pail (k : Nat) (st : Store) : Prop := ∃ a b c : Int, st[k]? = some (.lst [.p (.int a), .p (.int b), .p (.int c)])
def Gr (k : Nat) (st st' : Store) : Prop := st.length ≤ st'.length ∧ ∀ j, j < st.length → j ≠ k → st'[j]? = st[j]?
theorem Gr.refl {k : Nat} {st : Store} : Gr k st st := ⟨Nat.le_refl _, fun _ _ _ => rfl⟩
theorem Gr.trans {k : Nat} {a b c : Store} (h : Gr k a b) (i : Gr k b c) : Gr k a c :=
  ⟨Nat.le_trans h.1 i.1, fun j hj n => (i.2 j (Nat.lt_of_lt_of_le hj h.1) n).trans (h.2 j hj n)⟩
theorem Gr.app {k : Nat} {st xs : Store} : Gr k st (st ++ xs) := ⟨by simp, fun j hj _ => List.getElem?_append_left hj⟩
theorem Gr.set {k : Nat} {st : Store} {x : Cell} : Gr k st (st.set k x) := ⟨by simp, fun j _ n => by rw [List.getElem?_set_ne (Ne.symm n)]⟩
theorem Pail.lt {k : Nat} {st : Store} (h : Pail k st) : k < st.length := by
  obtain ⟨a, b, c, h⟩ := h
  exact (List.getElem?_eq_some_iff.mp h).1
theorem Pail.app {k : Nat} {st xs : Store} (h : Pail k st) : Pail k (st ++ xs) := by
  have l := h.lt
  obtain ⟨a, b, c, h⟩ := h
  exact ⟨a, b, c, by rw [List.getElem?_append_left l]; exact h⟩
theorem Pail.set {k : Nat} {st : Store} (a b c : Int) (l : k < st.length) : Pail k (st.set k (.lst [.p (.int a), .p (.int b), .p (.int c)])) := ⟨a, b, c, by rw [List.getElem?_set_self l]⟩
theorem e_deal {k : Nat} {st : Store} {top : Int} (h : Pail k st) (h0 : 0 < top) (h1 : top < 1073741824) :
    ∃ v st', r__law_deal [.obj k, .p (.int top)] st = .ok (.p (.int v)) st' ∧ 0 ≤ v ∧ v < top ∧ Pail k st' ∧ Gr k st st' := by
  have l := h.lt
  obtain ⟨a, b, c, hk⟩ := h
  by_cases ha : 0 < a
  · refine ⟨a % top, st.set k (.lst [.p (.int (a / top)), .p (.int b), .p (.int c)]), ?_, Int.emod_nonneg _ (by omega), Int.emod_lt_of_pos _ h0, Pail.set _ _ _ l, Gr.set⟩
    simp [r__law_deal, m__law_deal, runB, startE, endB, sRet, sSeq, sSet, sIf, sDrop, sNx, sNo, sBrk, sCont, sPar, sAsg, sFor, sWhile, sRaise, sFldS, gSet, gTupD, gCons', gNil', gSubD, fVar, fC, fBin, binS, binV, addV_int, subV, powV, asP, asPs, pds, ofO, ofD, fCmp, cmpS, cmpO, cmpV, ltV, leV, fChain, fAnd, fOr, fNot, fIte, fT, truB, fNeg, fOrS, fCall, fCons, fNil, fStar, fTup, fLst, fNew, newLst, fIdx, idxO, fSli, fPart, sliV, fFld, fldO, lookF, fMeth, fMake, fnV, lenV, absV, minV, intV, listV, fIsi, isiO, tyName, fBm, mtyp, mAppend, mPop, mExtend, itemsD, fCallK, fCallK0, fIter, iterD, fRng1, fLc, tT1, fEnd, putD, itemsO, L2.atI, L2.ixN, hk, ha, divmodV, h0, h1]
  · have ex : ∃ mx : Int, mx = (b * 15527 + 11909 * (c + 1)) % 2147483489 := ⟨_, rfl⟩
    obtain ⟨mx, hm⟩ := ex
    have ex : ∃ nx : Int, nx = (mx * (mx % 5113 + 30013) + 31 * (c + 1)) % 2147483489 := ⟨_, rfl⟩
    obtain ⟨nx, hn⟩ := ex
    have m1 := mulV_r b 15527 (by decide)
    have m2 := mulV_l 11909 (c + 1) (by decide)
    have m3 := mulV_l 31 (c + 1) (by decide)
    have m4 := mulV_r mx (mx % 5113 + 30013) (by omega)
    have o1 := modV_pos (b * 15527 + 11909 * (c + 1)) 2147483489 (by decide)
    rw [← hm] at o1
    have o2 := modV_pos mx 5113 (by decide)
    have o3 := modV_pos (mx * (mx % 5113 + 30013) + 31 * (c + 1)) 2147483489 (by decide)
    rw [← hn] at o3
    have o4 := modV_pos (nx / 353) top h0
    have d1 := fdivV_pos nx 353 (by decide) (by decide)
    refine ⟨nx / 353 % top, st.set k (.lst [.p (.int a), .p (.int nx), .p (.int (c + 1))]), ?_, Int.emod_nonneg _ (by omega), Int.emod_lt_of_pos _ h0, Pail.set _ _ _ l, Gr.set⟩
    obtain ⟨l', hk'⟩ := List.getElem?_eq_some_iff.mp hk
    simp [r__law_deal, m__law_deal, runB, startE, endB, sRet, sSeq, sSet, sIf, sDrop, sNx, sNo, sBrk, sCont, sPar, sAsg, sFor, sWhile, sRaise, sFldS, gSet, gTupD, gCons', gNil', gSubD, fVar, fC, fBin, binS, binV, addV_int, subV, powV, asP, asPs, pds, ofO, ofD, fCmp, cmpS, cmpO, cmpV, ltV, leV, fChain, fAnd, fOr, fNot, fIte, fT, truB, fNeg, fOrS, fCall, fCons, fNil, fStar, fTup, fLst, fNew, newLst, fIdx, idxO, fSli, fPart, sliV, fFld, fldO, lookF, fMeth, fMake, fnV, lenV, absV, minV, intV, listV, fIsi, isiO, tyName, fBm, mtyp, mAppend, mPop, mExtend, itemsD, fCallK, fCallK0, fIter, iterD, fRng1, fLc, tT1, fEnd, putD, itemsO, L2.atI, L2.ixN, hk', l, ha, m1, m2, m3, m4, o1, o2, o3, o4, d1]
theorem e_any {k : Nat} {st : Store} {xs : List PyData} (h : Pail k st) (h0 : xs ≠ []) (h1 : xs.length < 1000) :
    ∃ (d : PyData) (st' : Store), r__law_any [.obj k, .p (.list xs)] st = .ok (.p d) st' ∧ d ∈ xs ∧ Pail k st' ∧ Gr k st st' := by
  have hp : 0 < xs.length := List.length_pos_iff.mpr h0
  obtain ⟨v, st', e, a1, a2, P, G⟩ := e_deal (top := (xs.length : Int)) h (by omega) (by omega)
  obtain ⟨w, rfl⟩ : ∃ w : Nat, v = w := ⟨v.toNat, by omega⟩
  have hv : w < xs.length := by omega
  refine ⟨xs[w], st', ?_, List.getElem_mem _, P, G⟩
  simp [r__law_any, m__law_any, runB, startE, endB, sRet, sSeq, sSet, sIf, sDrop, sNx, sNo, sBrk, sCont, sPar, sAsg, sFor, sWhile, sRaise, sFldS, gSet, gTupD, gCons', gNil', gSubD, fVar, fC, fBin, binS, binV, addV_int, subV, powV, asP, asPs, pds, ofO, ofD, fCmp, cmpS, cmpO, cmpV, ltV, leV, fChain, fAnd, fOr, fNot, fIte, fT, truB, fNeg, fOrS, fCall, fCons, fNil, fStar, fTup, fLst, fNew, newLst, fIdx, idxO, fSli, fPart, sliV, fFld, fldO, lookF, fMeth, fMake, fnV, lenV, absV, minV, intV, listV, fIsi, isiO, tyName, fBm, mtyp, mAppend, mPop, mExtend, itemsD, fCallK, fCallK0, fIter, iterD, fRng1, fLc, tT1, fEnd, putD, itemsO, L2.atI, L2.ixN, e, hv]
theorem e_decimal {k : Nat} {st : Store} (h : Pail k st) :
    ∃ (n p : Int) (st' : Store), r__law_decimal [.obj k] st = .ok (.p (.tuple [.int n, .int p])) st' ∧ Dec n p ∧ Pail k st' ∧ Gr k st st' := by
  obtain ⟨v0, s1, e1, a1, b1, P1, G1⟩ := e_deal (top := 1000000) h (by decide) (by decide)
  obtain ⟨d, s2, e2, m, P2, G2⟩ := e_any (xs := [.int 0, .int 1, .int 5, .int 10, .int 999999, .int 100000, .int 25, .int v0]) P1 (by simp) (by simp)
  obtain ⟨v3, s3, e3, a3, b3, P3, G3⟩ := e_deal (top := 2) P2 (by decide) (by decide)
  obtain ⟨v4, s4, e4, a4, b4, P4, G4⟩ := e_deal (top := 5) P3 (by decide) (by decide)
  obtain ⟨i, hi, i0, i1⟩ : ∃ i : Int, d = .int i ∧ 0 ≤ i ∧ i ≤ 999999 := by
    simp only [List.mem_cons, List.not_mem_nil, or_false] at m
    rcases m with h | h | h | h | h | h | h | h <;> exact ⟨_, h, by omega, by omega⟩
  subst hi
  refine ⟨if v3 = 0 then i else 0 - i, v4, s4, ?_, ?_, P4, G1.trans (G2.trans (G3.trans G4))⟩
  · have e := eq_int v3 0
    by_cases hv : v3 = 0
    · subst hv
      simp [r__law_decimal, m__law_decimal, runB, startE, endB, sRet, sSeq, sSet, sIf, sDrop, sNx, sNo, sBrk, sCont, sPar, sAsg, sFor, sWhile, sRaise, sFldS, gSet, gTupD, gCons', gNil', gSubD, fVar, fC, fBin, binS, binV, addV_int, subV, powV, asP, asPs, pds, ofO, ofD, fCmp, cmpS, cmpO, cmpV, ltV, leV, fChain, fAnd, fOr, fNot, fIte, fT, truB, fNeg, fOrS, fCall, fCons, fNil, fStar, fTup, fLst, fNew, newLst, fIdx, idxO, fSli, fPart, sliV, fFld, fldO, lookF, fMeth, fMake, fnV, lenV, absV, minV, intV, listV, fIsi, isiO, tyName, fBm, mtyp, mAppend, mPop, mExtend, itemsD, fCallK, fCallK0, fIter, iterD, fRng1, fLc, tT1, fEnd, putD, itemsO, L2.atI, L2.ixN, e1, e2, e3, e4, e, szl]
    · simp [r__law_decimal, m__law_decimal, runB, startE, endB, sRet, sSeq, sSet, sIf, sDrop, sNx, sNo, sBrk, sCont, sPar, sAsg, sFor, sWhile, sRaise, sFldS, gSet, gTupD, gCons', gNil', gSubD, fVar, fC, fBin, binS, binV, addV_int, subV, powV, asP, asPs, pds, ofO, ofD, fCmp, cmpS, cmpO, cmpV, ltV, leV, fChain, fAnd, fOr, fNot, fIte, fT, truB, fNeg, fOrS, fCall, fCons, fNil, fStar, fTup, fLst, fNew, newLst, fIdx, idxO, fSli, fPart, sliV, fFld, fldO, lookF, fMeth, fMake, fnV, lenV, absV, minV, intV, listV, fIsi, isiO, tyName, fBm, mtyp, mAppend, mPop, mExtend, itemsD, fCallK, fCallK0, fIter, iterD, fRng1, fLc, tT1, fEnd, putD, itemsO, L2.atI, L2.ixN, e1, e2, e3, e4, e, hv, szl]
  · constructor
    · split <;> omega
    · split <;> omega
    · exact a4
    · omega
end K32
end

section
set_option Elab.async false
set_option linter.all false
set_option maxRecDepth 100000
set_option maxHeartbeats 4000000
/-! K32m11: the plain law, repr of both is one. -/
namespace K32
open PySem Mp SX
mutual
def bd : PyData → Nat
  | .none => 4
  | .bool _ => 5
  | .int _ => 21
  | .str x => 10 * x.length + 2
  | .list xs => bdA xs + 2
  | .tuple xs => bdA xs + 3
  | .dict _ => 0
def bdA : List PyData → Nat
  | [] => 0
  | x :: xs => bd x + 2 + bdA xs
end
mutual
def gd : PyData → Bool
  | .none => true
  | .bool _ => true
  | .int i => decide (i.natAbs < 10 ^ 20)
  | .str x => x.cps.toList.all fun c => decide (c < 256)
  | .list xs => gdA xs
  | .tuple xs => gdA xs
  | .dict _ => false
def gdA : List PyData → Bool
  | [] => true
  | x :: xs => gd x && gdA xs
end
theorem textFrom_le : ∀ (ts : List Str) (k : Nat) (acc : Str), (textFrom k acc ts).length ≤ acc.length + piled ts
  | [], k, acc => by simp [textFrom]
  | t :: r, k, acc => by
    have ih := textFrom_le r (k + 1) (acc ++ (if k > 0 then ", " else "" : String) ++ t)
    have e : (acc ++ (if k > 0 then ", " else "" : String) ++ t).length ≤ acc.length + 2 + t.length := by
      rw [strLen_append, strLen_append]
      split
      · exact Nat.le_refl _
      · show acc.length + 0 + t.length ≤ _; omega
    rw [piled_cons]
    show (textFrom (k + 1) _ r).length ≤ _
    omega
theorem listText_le (ts : List Str) : (listText ts).length ≤ piled ts + 2 := by
  unfold listText
  have := textFrom_le ts 0 "["
  have e : ((("[" : String) : Str)).length = 1 := rfl
  have e2 : ((("]" : String) : Str)).length = 1 := rfl
  rw [strLen_append]
  omega
theorem tupleText_le (ts : List Str) : (tupleText ts).length ≤ piled ts + 3 := by
  unfold tupleText
  rw [strLen_append, strLen_append]
  have e1 : ((("(" : String) : Str)).length = 1 := rfl
  have e3 : (((if ts.length == 1 then ",)" else ")" : String) : Str)).length ≤ 2 := by split <;> decide
  by_cases h : ts = []
  · subst h
    have : (Str.join ", " []).length = 0 := rfl
    omega
  · have := join_length_add ts h
    omega
mutual
theorem shown_le : ∀ (d : PyData), gd d = true → d.shown.length ≤ bd d ∧ d.showable = true ∧ d.hasDict = false
  | .none, _ => ⟨by decide, rfl, rfl⟩
  | .bool b, _ => ⟨by cases b <;> decide, rfl, rfl⟩
  | .int i, h => by
    have h : i.natAbs < 10 ^ 20 := by simpa [gd] using h
    refine ⟨?_, ?_, rfl⟩
    · have := int_text_length_le10 (k := 20) (by decide) h
      show (Str.ofString (toString i)).length ≤ 21
      rw [ofString_length]
      omega
    · show decide (i.natAbs.log2 < 1920) = true
      rw [decide_eq_true_eq]
      by_cases h0 : i.natAbs = 0
      · rw [h0]; decide
      · rw [Nat.log2_lt h0]
        exact Nat.lt_trans h (by decide)
  | .str x, h => by
    refine ⟨?_, rfl, rfl⟩
    show (reprText x).length ≤ 10 * x.length + 2
    refine StrLaws.reprText_len x fun c hc => ?_
    have : ∀ c ∈ x.cps.toList, c < 256 := fun c hc => of_decide_eq_true (List.all_eq_true.mp h c hc)
    exact Nat.lt_trans (this c hc) (by decide)
  | .list xs, h => by
    have ⟨h1, h2, h3⟩ := shownAll_le xs (by simpa [gd] using h)
    have := listText_le (PyData.shownAll xs)
    exact ⟨by show (listText (PyData.shownAll xs)).length ≤ bdA xs + 2; omega, h2, h3⟩
  | .tuple xs, h => by
    have ⟨h1, h2, h3⟩ := shownAll_le xs (by simpa [gd] using h)
    have := tupleText_le (PyData.shownAll xs)
    exact ⟨by show (tupleText (PyData.shownAll xs)).length ≤ bdA xs + 3; omega, h2, h3⟩
  | .dict _, h => by simp [gd] at h
theorem shownAll_le : ∀ (xs : List PyData), gdA xs = true → piled (PyData.shownAll xs) ≤ bdA xs ∧ PyData.showableAll xs = true ∧ PyData.hasDictAll xs = false
  | [], _ => ⟨Nat.le_refl _, rfl, rfl⟩
  | x :: xs, h => by
    have h : gd x = true ∧ gdA xs = true := by simpa [gdA] using h
    have ⟨h1, h2, h3⟩ := shown_le x h.1
    have ⟨i1, i2, i3⟩ := shownAll_le xs h.2
    refine ⟨?_, ?_, ?_⟩
    · show piled (x.shown :: PyData.shownAll xs) ≤ bd x + 2 + bdA xs
      rw [piled_cons]
      omega
    · show (x.showable && PyData.showableAll xs) = true
      rw [h2, i2]; rfl
    · show (x.hasDict || PyData.hasDictAll xs) = false
      rw [h3, i3]; rfl
end
theorem gd_S {L : List Nat} (h : Asc L) : gd (.str (S L)) = true := by
  simp [gd]
  exact h
/-! ### the text's codes -/
def cOk (x : Str) : Prop := ∀ c ∈ x.cps.toList, c < 1114112
theorem cOk_app {x y : Str} (h : cOk x) (k : cOk y) : cOk (x ++ y) := fun c hc => by
  have e : (x ++ y).cps.toList = x.cps.toList ++ y.cps.toList := TL.tl_append x y
  rw [e] at hc
  rcases List.mem_append.mp hc with q | q
  · exact h c q
  · exact k c q
theorem cOk_of (s : String) : cOk (Str.ofString s) := fun c hc => by
  have e : (Str.ofString s).cps.toList = s.toList.map Char.toNat := PyProof.Rows.signs_ofString s
  rw [e] at hc
  obtain ⟨ch, _, rfl⟩ := List.mem_map.mp hc
  have := ch.valid
  rcases this with h | h
  · exact Nat.lt_trans h (by decide)
  · exact h.2
theorem cOk_textFrom : ∀ (ts : List Str) (k : Nat) (acc : Str), cOk acc → (∀ t ∈ ts, cOk t) → cOk (textFrom k acc ts)
  | [], k, acc, h, _ => h
  | t :: r, k, acc, h, ht => by
    show cOk (textFrom (k + 1) _ r)
    exact cOk_textFrom r (k + 1) _ (cOk_app (cOk_app h (cOk_of _)) (ht t (by simp))) (fun u hu => ht u (by simp [hu]))
theorem cOk_listText (ts : List Str) (h : ∀ t ∈ ts, cOk t) : cOk (listText ts) := cOk_app (cOk_textFrom ts 0 _ (cOk_of _) h) (cOk_of _)
theorem cOk_join : ∀ (ts : List Str), (∀ t ∈ ts, cOk t) → cOk (Str.join ", " ts)
  | [], _ => cOk_of ""
  | [x], h => h x (by simp)
  | x :: y :: r, h => by
    show cOk (x ++ ", " ++ Str.join ", " (y :: r))
    exact cOk_app (cOk_app (h x (by simp)) (cOk_of _)) (cOk_join (y :: r) (fun t ht => h t (by simp at ht ⊢; exact .inr ht)))
theorem cOk_tupleText (ts : List Str) (h : ∀ t ∈ ts, cOk t) : cOk (tupleText ts) := cOk_app (cOk_app (cOk_of _) (cOk_join ts h)) (cOk_of _)
open Builtin Builtin.Str in
theorem rc_ok : ((List.range 256).all fun c => (reprChar 39 c).all (fun x => decide (x < 1114112)) && (reprChar 34 c).all (fun x => decide (x < 1114112))) = true := by kernel_rfl
open Builtin Builtin.Str in
theorem rc_lt {q c : Nat} (hq : q = 39 ∨ q = 34) (hc : c < 256) : ∀ x ∈ reprChar q c, x < 1114112 := by
  have h := List.all_eq_true.mp rc_ok c (List.mem_range.mpr hc)
  have h := Bool.and_eq_true_iff.mp h
  rcases hq with rfl | rfl
  · exact fun x hx => of_decide_eq_true (List.all_eq_true.mp h.1 x hx)
  · exact fun x hx => of_decide_eq_true (List.all_eq_true.mp h.2 x hx)
open Builtin Builtin.Str in
theorem fold_lt {q : Nat} (hq : q = 39 ∨ q = 34) : ∀ (l : List Nat) (acc : Array Nat), (∀ c ∈ l, c < 256) → (∀ x ∈ acc.toList, x < 1114112) → ∀ x ∈ (l.foldl (fun out c => out ++ (reprChar q c).toArray) acc).toList, x < 1114112
  | [], acc, _, h => h
  | c :: r, acc, hc, h => by
    refine fold_lt hq r (acc ++ (reprChar q c).toArray) (fun d hd => hc d (by simp [hd])) ?_
    intro x hx
    rw [Array.toList_append] at hx
    rcases List.mem_append.mp hx with k | k
    · exact h x k
    · exact rc_lt hq (hc c (by simp)) x k
theorem quote_or (x : Str) : PySem.reprQuote x = 39 ∨ PySem.reprQuote x = 34 := by
  unfold PySem.reprQuote
  split
  · exact .inr rfl
  · exact .inl rfl
theorem cOk_repr (x : Str) (h : ∀ c ∈ x.cps.toList, c < 256) : cOk (reprText x) := by
  have q := quote_or x
  have qq : PySem.reprQuote x < 1114112 := by omega
  intro c hc
  unfold reprText at hc
  rw [Array.toList_push, ← Array.foldl_toList] at hc
  rcases List.mem_append.mp hc with k | k
  · exact fold_lt q x.cps.toList _ h (fun y hy => by simp at hy; omega) c k
  · simp at k; omega
mutual
theorem cOk_shown : ∀ (d : PyData), gd d = true → cOk d.shown
  | .none, _ => cOk_of "None"
  | .bool b, _ => by cases b; exact cOk_of "False"; exact cOk_of "True"
  | .int i, _ => cOk_of (toString i)
  | .str x, h => cOk_repr x fun c hc => of_decide_eq_true (List.all_eq_true.mp h c hc)
  | .list xs, h => cOk_listText _ (cOk_all xs (by simpa [gd] using h))
  | .tuple xs, h => cOk_tupleText _ (cOk_all xs (by simpa [gd] using h))
  | .dict _, h => by simp [gd] at h
theorem cOk_all : ∀ (xs : List PyData), gdA xs = true → ∀ t ∈ PyData.shownAll xs, cOk t
  | [], _, t, ht => by simp [PyData.shownAll] at ht
  | x :: xs, h, t, ht => by
    have h : gd x = true ∧ gdA xs = true := by simpa [gdA] using h
    have ht : t ∈ x.shown :: PyData.shownAll xs := ht
    rcases List.mem_cons.mp ht with rfl | k
    · exact cOk_shown x h.1
    · exact cOk_all xs h.2 t k
end
/-- what law_same is asked of -/
def Rok (xs : List PyData) : Prop := gdA xs = true ∧ (PyData.list xs).depth ≤ 60 ∧ bdA xs ≤ 100000
theorem e_same {xs : List PyData} (h : Rok xs) : r__law_same [.p (.list xs), .p (.list xs)] [] = .ok (.p (.bool true)) [] := by
  obtain ⟨h1, h2, h3⟩ := h
  have hg : gd (.list xs) = true := by simpa [gd] using h1
  obtain ⟨a1, a2, a3⟩ := shown_le (.list xs) hg
  have ck := cOk_shown (.list xs) hg
  have a4 : (PyData.list xs).shown.length ≤ sizeLine := by
    have : bd (.list xs) = bdA xs + 2 := rfl
    rw [szl]; omega
  have rp : reprVs [.list xs] = some (.str (PyData.list xs).shown) := by
    show reprV (.list xs) = _
    unfold reprV
    rw [a2, a3, decide_eq_true h2, decide_eq_true a4]
    rfl
  generalize (PyData.list xs).shown = s at *
  have sh : SeqAt.shaped (.str s) = true := by
    have : PyData.strOk s = true := by
      unfold PyData.strOk
      rw [← Array.all_toList]
      exact List.all_eq_true.mpr fun c hc => decide_eq_true (ck c hc)
    simp [SeqAt.shaped, PyData.canLay0, PyData.depth, this]
  have eq : eqV (.str s) (.str s) = some true := by
    unfold eqV
    rw [sh]
    show some (s == s) = _
    rw [beq_self_eq_true]
  simp [r__law_same, m__law_same, runB, startE, endB, sRet, sSeq, sSet, sIf, sDrop, sNx, sNo, sBrk, sCont, sPar, sAsg, sFor, sWhile, sRaise, sFldS, gSet, gTupD, gCons', gNil', gSubD, fVar, fC, fBin, binS, binV, addV_int, subV, powV, asP, asPs, pds, ofO, ofD, fCmp, cmpS, cmpO, cmpV, ltV, leV, fChain, fAnd, fOr, fNot, fIte, fT, truB, fNeg, fOrS, fCall, fCons, fNil, fStar, fTup, fLst, fNew, newLst, fIdx, idxO, fSli, fPart, sliV, fFld, fldO, lookF, fMeth, fMake, fnV, lenV, absV, minV, intV, listV, fIsi, isiO, tyName, fBm, mtyp, mAppend, mPop, mExtend, itemsD, fCallK, fCallK0, fIter, iterD, fRng1, fLc, tT1, fEnd, putD, itemsO, L2.atI, L2.ixN, rp, eq]
theorem p_same {xs : List PyData} (h : Rok xs) (st : Store) : pR r__law_same [.p (.list xs), .p (.list xs)] st = .ok (.p (.bool true)) st :=
  pR_ok (es := [.list xs, .list xs]) (e_same h)
theorem p_sameO {xs : List PyData} {n : Nat} {st : Store} (h : Rok xs) (e : asP st (.obj n) = some (.list xs)) : pR r__law_same [.obj n, .p (.list xs)] st = .ok (.p (.bool true)) st := by
  have := e_same h
  unfold pR pureRun
  simp only [pdsB, e, Option.map]
  show (match r__law_same [.p (.list xs), .p (.list xs)] [] with | .ok r st' => _ | .exc c d _ => _ | .no => _) = _
  rw [this]
  rfl
end K32
end

section
set_option Elab.async false
set_option linter.all false
set_option maxRecDepth 100000
set_option maxHeartbeats 4000000
/-! K32m12: the plain law, a decimal's turn. -/
namespace K32
open PySem Mp SX
theorem p_decimal_text {n : Int} {q : Nat} (h : Dec n q) (st : Store) : pR r_decimal_text [.p (.tuple [.int n, .int q])] st = .ok (.p (.str (S (tx n q)))) st := by
  refine pR_ok (es := [.tuple [.int n, .int q]]) (st1 := []) ?_
  have l := h.l
  have hh := h.h
  have p4 := h.p4
  have ta := fun st => p_text_at n q (by omega) (by omega) st
  generalize S (tx n q) = s at *
  simp [r_decimal_text, m_decimal_text, runB, startE, endB, sRet, sSeq, sSet, sIf, sDrop, sNx, sNo, sBrk, sCont, sPar, sAsg, sFor, sWhile, sRaise, sFldS, gSet, gTupD, gCons', gNil', gSubD, fVar, fC, fBin, binS, binV, addV_int, subV, powV, asP, asPs, pds, ofO, ofD, fCmp, cmpS, cmpO, cmpV, ltV, leV, fChain, fAnd, fOr, fNot, fIte, fT, truB, fNeg, fOrS, fCall, fCons, fNil, fStar, fTup, fLst, fNew, newLst, fIdx, idxO, fSli, fPart, sliV, fFld, fldO, lookF, fMeth, fMake, fnV, lenV, absV, minV, intV, listV, fIsi, isiO, tyName, fBm, mtyp, mAppend, mPop, mExtend, itemsD, fCallK, fCallK0, fIter, iterD, fRng1, fLc, tT1, fEnd, putD, itemsO, L2.atI, L2.ixN, p_chkdec_ok h, ta]
theorem p_answer_text {n : Int} {q : Nat} (hn : n.natAbs < 10 ^ 20) (hq : q ≤ 9) (st : Store) : pR r_answer_text [.p (.int n), .p (.int q)] st = .ok (.p (.str (S (tx n q)))) st := by
  refine pR_ok (es := [.int n, .int q]) (st1 := []) ?_
  have ta := fun st => p_text_at n q hn hq st
  have ck := fun st => p_chkpl_ok (p := (q : Int)) (by omega) (by omega) st
  generalize S (tx n q) = s at *
  simp [r_answer_text, m_answer_text, runB, startE, endB, sRet, sSeq, sSet, sIf, sDrop, sNx, sNo, sBrk, sCont, sPar, sAsg, sFor, sWhile, sRaise, sFldS, gSet, gTupD, gCons', gNil', gSubD, fVar, fC, fBin, binS, binV, addV_int, subV, powV, asP, asPs, pds, ofO, ofD, fCmp, cmpS, cmpO, cmpV, ltV, leV, fChain, fAnd, fOr, fNot, fIte, fT, truB, fNeg, fOrS, fCall, fCons, fNil, fStar, fTup, fLst, fNew, newLst, fIdx, idxO, fSli, fPart, sliV, fFld, fldO, lookF, fMeth, fMake, fnV, lenV, absV, minV, intV, listV, fIsi, isiO, tyName, fBm, mtyp, mAppend, mPop, mExtend, itemsD, fCallK, fCallK0, fIter, iterD, fRng1, fLc, tT1, fEnd, putD, itemsO, L2.atI, L2.ixN, pw_int, ck, ta]
theorem p_law_isdec (n : Int) (q : Nat) (st : Store) : pR r__law_is_decimal [.p (.tuple [.int n, .int q])] st = .ok (.p (.bool (okN n q))) st := by
  refine pR_okE (es := [.tuple [.int n, .int q]]) ?_
  have k1 : L2.kitB "tuple" "tuple" = some true := by kernel_rfl
  have k2 : L2.kitB "int" "int" = some true := by kernel_rfl
  have k3 : L2.kitB "int" "bool" = some false := by kernel_rfl
  have e2 := eq_l0
  have e3 : eqV (.int 2) (.int 2) = some true := by kernel_rfl
  refine ⟨[.lst []], ?_⟩
  have ok : okN n q = (decide ((n.natAbs : Int) ≤ 999999) && (decide (0 ≤ (q : Int)) && decide ((q : Int) ≤ 4))) := by
    unfold okN
    congr 1
    by_cases h : (n.natAbs : Int) ≤ 999999
    · have h1 : -999999 ≤ n := by omega
      have h2 : n ≤ 999999 := by omega
      simp [h, h1, h2]
    · have : ¬ (-999999 ≤ n ∧ n ≤ 999999) := by omega
      by_cases h1 : -999999 ≤ n
      · have h2 : ¬ n ≤ 999999 := by omega
        simp [h, h2]
      · simp [h, h1]
  rw [ok]
  by_cases h1 : (n.natAbs : Int) ≤ 999999 <;> by_cases h2 : (q : Int) ≤ 4 <;> simp [r__law_is_decimal, m__law_is_decimal, runB, startE, endB, sRet, sSeq, sSet, sIf, sDrop, sNx, sNo, sBrk, sCont, sPar, sAsg, sFor, sWhile, sRaise, sFldS, gSet, gTupD, gCons', gNil', gSubD, fVar, fC, fBin, binS, binV, addV_int, subV, powV, asP, asPs, pds, ofO, ofD, fCmp, cmpS, cmpO, cmpV, ltV, leV, fChain, fAnd, fOr, fNot, fIte, fT, truB, fNeg, fOrS, fCall, fCons, fNil, fStar, fTup, fLst, fNew, newLst, fIdx, idxO, fSli, fPart, sliV, fFld, fldO, lookF, fMeth, fMake, fnV, lenV, absV, minV, intV, listV, fIsi, isiO, tyName, fBm, mtyp, mAppend, mPop, mExtend, itemsD, fCallK, fCallK0, fIter, iterD, fRng1, fLc, tT1, fEnd, putD, itemsO, L2.atI, L2.ixN, k1, k2, k3, e2, e3, natAbs_abs, lcGo, wipeE, noX, fT, h1, h2, szl]
theorem rd_lt {n p m : Int} (h : Dec n p) (h0 : 0 ≤ m) (h9 : m ≤ 9) : (rd n p m).natAbs < 10 ^ 20 := by
  have ⟨t1, t2⟩ := tn_pos m h0 h9
  have ⟨b1, b2⟩ := rb_pos h
  have l := h.l
  have hh := h.h
  have a1 : (ra n p).natAbs ≤ 999999 := by
    have : (ra n p).natAbs ≤ n.natAbs := Int.natAbs_ediv_le_natAbs _ _
    omega
  have m1 : (2 * ra n p * tn m).natAbs ≤ 2 * 999999 * 1000000000 := by
    rw [Int.natAbs_mul, Int.natAbs_mul]
    exact Nat.mul_le_mul (Nat.mul_le_mul (Nat.le_refl 2) a1) (by omega)
  have m2 : (rd n p m).natAbs ≤ (2 * ra n p * tn m + rb n p).natAbs := Int.natAbs_ediv_le_natAbs _ _
  generalize 2 * ra n p * tn m = x at *
  have : (10 : Nat) ^ 20 = 100000000000000000000 := by decide
  omega
theorem addV_22 (a b c d : PyData) : addV (.list [a, b]) (.list [c, d]) = some (.list [a, b, c, d]) := by kernel_rfl
theorem addV_21 (a b c : PyData) : addV (.list [a, b]) (.list [c]) = some (.list [a, b, c]) := by kernel_rfl
theorem gd_int {i : Int} (h : i.natAbs < 10 ^ 20) : gd (.int i) = true := by simpa [gd] using h
theorem gd_fr {n p : Int} (h : Dec n p) : gd (fr n p) = true := by
  have ⟨b1, b2⟩ := rb_pos h
  have l := h.l
  have hh := h.h
  have a1 : (ra n p).natAbs < 10 ^ 20 := by
    have : (ra n p).natAbs ≤ n.natAbs := Int.natAbs_ediv_le_natAbs _ _
    have e : (10 : Nat) ^ 20 = 100000000000000000000 := by decide
    omega
  have a2 : (rb n p).natAbs < 10 ^ 20 := by
    have e : (10 : Nat) ^ 20 = 100000000000000000000 := by decide
    omega
  rw [fr_eq]
  show (gd (.int (ra n p)) && (gd (.int (rb n p)) && true)) = true
  rw [gd_int a1, gd_int a2]; rfl
theorem Dec.ok {n : Int} {q : Nat} (h : Dec n q) : okN n q = true := by
  have h1 := h.l
  have h2 := h.h
  have h3 := h.p0
  have h4 := h.p4
  simp only [okN, decide_eq_true h1, decide_eq_true h2, decide_eq_true h3, decide_eq_true h4]
  rfl
theorem Dec.lt {n : Int} {p : Int} (h : Dec n p) : n.natAbs < 10 ^ 20 := by
  have h1 := h.l
  have h2 := h.h
  have e : (10 : Nat) ^ 20 = 100000000000000000000 := by decide
  omega
theorem bd_S {L : List Nat} (h : L.length ≤ 32) : bd (.str (S L)) ≤ 322 := by
  show 10 * (S L).length + 2 ≤ 322
  rw [S_len]; omega
theorem gd_tx {n : Int} {q : Nat} (hn : n.natAbs < 10 ^ 20) (hq : q ≤ 9) : gd (.str (S (tx n q))) = true := gd_S (tx_tok n q hn hq).asc
theorem rok1 {n : Int} {q : Nat} (h : Dec n q) : Rok [.bool true, .str (S (tx n q)), fr n q, nm n q] := by
  have p4 := h.p4
  have g1 := gd_tx h.lt (show q ≤ 9 by omega)
  have g2 := gd_fr h
  have g3 := gd_int h.lt
  have g4 := gd_int (i := (q : Int)) (by have e : (10 : Nat) ^ 20 = 100000000000000000000 := by decide
                                         omega)
  refine ⟨?_, ?_, ?_⟩
  · show (gd (.bool true) && (gd (.str (S (tx n q))) && (gd (fr n q) && ((gd (.str "number") && (gd (.int n) && (gd (.int q) && true))) && true)))) = true
    rw [g1, g2, g3, g4]; rfl
  · rw [fr_eq]; show (_ : Nat) ≤ 60; simp [PyData.depth, PyData.depthAll, nm]
  · have := bd_S (L := tx n q) (tx_len n q h.lt (by omega))
    rw [fr_eq]
    show 5 + 2 + (bd (.str (S (tx n q))) + 2 + ((21 + 2 + (21 + 2 + 0) + 3) + 2 + (((10 * 6 + 2) + 2 + (21 + 2 + (21 + 2 + 0)) + 3) + 2 + 0))) ≤ 100000
    omega
theorem rok2 {n : Int} {q : Nat} (h : Dec n q) : Rok [.str (S (tx n q)), .str (S (tx n q)), .int n] := by
  have p4 := h.p4
  have g1 := gd_tx h.lt (show q ≤ 9 by omega)
  have g3 := gd_int h.lt
  refine ⟨?_, ?_, ?_⟩
  · show (gd (.str (S (tx n q))) && (gd (.str (S (tx n q))) && (gd (.int n) && true))) = true
    rw [g1, g3]; rfl
  · simp [PyData.depth, PyData.depthAll]
  · have := bd_S (L := tx n q) (tx_len n q h.lt (by omega))
    show bd (.str (S (tx n q))) + 2 + (bd (.str (S (tx n q))) + 2 + (21 + 2 + 0)) ≤ 100000
    omega
theorem rok3 {n : Int} {q : Nat} (h : n.natAbs < 10 ^ 20) (hq : q ≤ 9) : Rok [.int n, .str (S (tx n q))] := by
  have g1 := gd_tx h hq
  have g3 := gd_int h
  refine ⟨?_, ?_, ?_⟩
  · show (gd (.int n) && (gd (.str (S (tx n q))) && true)) = true
    rw [g1, g3]; rfl
  · simp [PyData.depth, PyData.depthAll]
  · have := bd_S (L := tx n q) (tx_len n q h hq)
    show 21 + 2 + (bd (.str (S (tx n q))) + 2 + 0) ≤ 100000
    omega
theorem eq_told (n : Int) (q : Nat) : eqV (.list [.str "told", nm n q]) (.list [.str "told", nm n q]) = some true := by
  have sh : SeqAt.shaped (.list [.str "told", nm n q]) = true := by kernel_rfl
  unfold eqV
  rw [sh]
  show some (PyData.eqv _ _) = _
  rw [SeqAt.eqv_refl _ (SeqAt.canLay_of_shaped sh)]
theorem eq_text : eqV (.list [.str "text", .none]) (.list [.str "text", .none]) = some true := by kernel_rfl
end K32
end

section
set_option Elab.async false
set_option linter.all false
set_option maxRecDepth 100000
set_option maxHeartbeats 4000000
/-! K32m13: the plain law, a decimal's turn as a whole. -/
namespace K32
open PySem Mp SX
abbrev dr1 : SM := sAsg (fCall r__law_decimal (fCons (fVar 0) fNil)) (gTupD 2 (gCons' (gSet 1) (gCons' (gSet 2) gNil')))
abbrev dr2 : SM := sPar 3 4 (fCons (fCall (pR r__law_figures) (fCons (fVar 1) (fCons (fVar 2) fNil))) (fCons (fTup (fCons (fC (.str "number")) (fCons (fVar 1) (fCons (fVar 2) fNil)))) fNil))
abbrev dr3 : SM := sSet 5 (fLst (fCons (fCall (pR r_is_decimal) (fCons (fTup (fCons (fVar 1) (fCons (fVar 2) fNil))) fNil)) (fCons (fCall (pR r_decimal_text) (fCons (fTup (fCons (fVar 1) (fCons (fVar 2) fNil))) fNil)) fNil)))
abbrev dr4 : SM := sSet 5 (fBin .add (fVar 5) (fLst (fCons (fCallK0 1 r_fraction_of (fCons (fTup (fCons (fVar 1) (fCons (fVar 2) fNil))) fNil)) (fCons (fCall (pR r_read_expression) (fCons (fVar 3) fNil)) fNil))))
abbrev dr5 : SM := sIf (fNot (fCall (pR r__law_same) (fCons (fVar 5) (fCons (fLst (fCons (fC (.bool true)) (fCons (fVar 3) (fCons (fCall (pR r__law_number) (fCons (fVar 1) (fCons (fVar 2) fNil))) (fCons (fVar 4) fNil))))) fNil)))) (sRet (fC (.bool false))) sNx
abbrev dr6 : SM := sSet 5 (fLst (fCons (fCallK0 1 r_expression_text (fCons (fVar 4) fNil)) (fCons (fCallK0 2 r_answer_text (fCons (fVar 1) (fCons (fVar 2) fNil))) fNil)))
abbrev dr7 : SM := sSet 5 (fBin .add (fVar 5) (fLst (fCons (fCall (pR r_rounded) (fCons (fCall (pR r_fraction_of) (fCons (fTup (fCons (fVar 1) (fCons (fVar 2) fNil))) fNil)) (fCons (fVar 2) fNil))) fNil)))
abbrev dr8 : SM := sIf (fNot (fCall (pR r__law_same) (fCons (fVar 5) (fCons (fLst (fCons (fVar 3) (fCons (fVar 3) (fCons (fVar 1) fNil)))) fNil)))) (sRet (fC (.bool false))) sNx
abbrev dr9 : SM := sSet 6 (fCall r__law_deal (fCons (fVar 0) (fCons (fC (.int 10)) fNil)))
abbrev dr10 : SM := sSet 7 (fCall (pR r__law_rounded) (fCons (fCall (pR r__law_number) (fCons (fVar 1) (fCons (fVar 2) fNil))) (fCons (fVar 6) fNil)))
abbrev dr11 : SM := sIf (fNot (fCall (pR r__law_same) (fCons (fLst (fCons (fCall (pR r_rounded) (fCons (fCall (pR r__law_number) (fCons (fVar 1) (fCons (fVar 2) fNil))) (fCons (fVar 6) fNil))) (fCons (fCall (pR r_answer_text) (fCons (fVar 7) (fCons (fVar 6) fNil))) fNil))) (fCons (fLst (fCons (fVar 7) (fCons (fCall (pR r__law_figures) (fCons (fVar 7) (fCons (fVar 6) fNil))) fNil))) fNil)))) (sRet (fC (.bool false))) sNx
abbrev dr12 : SM := sSet 8 (fEnd et (fCall (pR r_read_expression) (fCons (fCall (pR r__law_figures) (fCons (fVar 7) (fCons (fVar 6) fNil))) fNil)))
abbrev dr13 : SM := sRet (fCmp .eq (fVar 8) (fIte (fCall (pR r__law_is_decimal) (fCons (fTup (fCons (fVar 7) (fCons (fVar 6) fNil))) fNil)) (fLst (fCons (fC (.str "told")) (fCons (fTup (fCons (fC (.str "number")) (fCons (fVar 7) (fCons (fVar 6) fNil)))) fNil))) (fLst (fCons (fC (.str "text")) (fCons (fC .none) fNil)))))
theorem dr_eq : m__law_decimal_right = sSeq dr1 (sSeq dr2 (sSeq dr3 (sSeq dr4 (sSeq dr5 (sSeq dr6 (sSeq dr7 (sSeq dr8 (sSeq dr9 (sSeq dr10 (sSeq dr11 (sSeq dr12 dr13))))))))))) := rfl
theorem r5' (k : Nat) (n p : Int) (T : Str) (F X : PyData) (s1 : Store) (f8 : ∀ st, pR r__law_number [.p (.int n), .p (.int p)] st = .ok (.p F) st) (f7 : ∀ st, pR r__law_same [.p (.list [.bool true, .str T, F, X]), .p (.list [.bool true, .str T, F, X])] st = .ok (.p (.bool true)) st) : dr5 [some (.obj k), some (.p (.int n)), some (.p (.int p)), some (.p (.str T)), some (.p X), some (.p (.list [.bool true, .str T, F, X])), none, none, none] s1 = .ok (.nx [some (.obj k), some (.p (.int n)), some (.p (.int p)), some (.p (.str T)), some (.p X), some (.p (.list [.bool true, .str T, F, X])), none, none, none]) s1 := by
    simp [dr5, runB, startE, endB, sRet, sSeq, sSet, sIf, sDrop, sNx, sNo, sBrk, sCont, sPar, sAsg, sFor, sWhile, sRaise, sFldS, gSet, gTupD, gCons', gNil', gSubD, fVar, fC, fBin, binS, binV, addV_int, subV, powV, asP, asPs, pds, ofO, ofD, fCmp, cmpS, cmpO, cmpV, ltV, leV, fChain, fAnd, fOr, fNot, fIte, fT, truB, fNeg, fOrS, fCall, fCons, fNil, fStar, fTup, fLst, fNew, newLst, fIdx, idxO, fSli, fPart, sliV, fFld, fldO, lookF, fMeth, fMake, fnV, lenV, absV, minV, intV, listV, fIsi, isiO, tyName, fBm, mtyp, mAppend, mPop, mExtend, itemsD, fCallK, fCallK0, fIter, iterD, fRng1, fLc, tT1, fEnd, putD, itemsO, L2.atI, L2.ixN, f7, f8, szl]
theorem r10' (k : Nat) (n p m : Int) (T : Str) (F X Y : PyData) (R : Int) (s2 : Store) (f8 : ∀ st, pR r__law_number [.p (.int n), .p (.int p)] st = .ok (.p F) st) (g5 : ∀ st, pR r__law_rounded [.p F, .p (.int m)] st = .ok (.p (.int R)) st) : dr10 [some (.obj k), some (.p (.int n)), some (.p (.int p)), some (.p (.str T)), some (.p X), some (.p Y), some (.p (.int m)), none, none] s2 = .ok (.nx [some (.obj k), some (.p (.int n)), some (.p (.int p)), some (.p (.str T)), some (.p X), some (.p Y), some (.p (.int m)), some (.p (.int R)), none]) s2 := by
    simp [dr10, runB, startE, endB, sRet, sSeq, sSet, sIf, sDrop, sNx, sNo, sBrk, sCont, sPar, sAsg, sFor, sWhile, sRaise, sFldS, gSet, gTupD, gCons', gNil', gSubD, fVar, fC, fBin, binS, binV, addV_int, subV, powV, asP, asPs, pds, ofO, ofD, fCmp, cmpS, cmpO, cmpV, ltV, leV, fChain, fAnd, fOr, fNot, fIte, fT, truB, fNeg, fOrS, fCall, fCons, fNil, fStar, fTup, fLst, fNew, newLst, fIdx, idxO, fSli, fPart, sliV, fFld, fldO, lookF, fMeth, fMake, fnV, lenV, absV, minV, intV, listV, fIsi, isiO, tyName, fBm, mtyp, mAppend, mPop, mExtend, itemsD, fCallK, fCallK0, fIter, iterD, fRng1, fLc, tT1, fEnd, putD, itemsO, L2.atI, L2.ixN, f8, g5]
theorem r11' (k : Nat) (n p m : Int) (T U : Str) (F X Y : PyData) (R : Int) (s2 : Store) (f8 : ∀ st, pR r__law_number [.p (.int n), .p (.int p)] st = .ok (.p F) st) (g6 : ∀ st, pR r_rounded [.p F, .p (.int m)] st = .ok (.p (.int R)) st) (g2 : ∀ st, pR r_answer_text [.p (.int R), .p (.int m)] st = .ok (.p (.str U)) st) (f2 : ∀ st, pR r__law_figures [.p (.int R), .p (.int m)] st = .ok (.p (.str U)) st) (g7 : ∀ st, pR r__law_same [.p (.list [.int R, .str U]), .p (.list [.int R, .str U])] st = .ok (.p (.bool true)) st) : dr11 [some (.obj k), some (.p (.int n)), some (.p (.int p)), some (.p (.str T)), some (.p X), some (.p Y), some (.p (.int m)), some (.p (.int R)), none] s2 = .ok (.nx [some (.obj k), some (.p (.int n)), some (.p (.int p)), some (.p (.str T)), some (.p X), some (.p Y), some (.p (.int m)), some (.p (.int R)), none]) s2 := by
    simp [dr11, runB, startE, endB, sRet, sSeq, sSet, sIf, sDrop, sNx, sNo, sBrk, sCont, sPar, sAsg, sFor, sWhile, sRaise, sFldS, gSet, gTupD, gCons', gNil', gSubD, fVar, fC, fBin, binS, binV, addV_int, subV, powV, asP, asPs, pds, ofO, ofD, fCmp, cmpS, cmpO, cmpV, ltV, leV, fChain, fAnd, fOr, fNot, fIte, fT, truB, fNeg, fOrS, fCall, fCons, fNil, fStar, fTup, fLst, fNew, newLst, fIdx, idxO, fSli, fPart, sliV, fFld, fldO, lookF, fMeth, fMake, fnV, lenV, absV, minV, intV, listV, fIsi, isiO, tyName, fBm, mtyp, mAppend, mPop, mExtend, itemsD, fCallK, fCallK0, fIter, iterD, fRng1, fLc, tT1, fEnd, putD, itemsO, L2.atI, L2.ixN, f8, g6, g2, f2, g7, szl]
theorem e_dr {k : Nat} {st : Store} (h : Pail k st) : ∃ st', r__law_decimal_right [.obj k] st = .ok (.p (.bool true)) st' ∧ Pail k st' ∧ Gr k st st' := by
  obtain ⟨n, p, s1, e1, D, P1, G1⟩ := e_decimal h
  obtain ⟨q, rfl⟩ : ∃ q : Nat, p = q := ⟨p.toNat, by have := D.p0; omega⟩
  obtain ⟨m, s2, e2, m0, m1, P2, G2⟩ := e_deal (top := 10) P1 (by decide) (by decide)
  obtain ⟨w, rfl⟩ : ∃ w : Nat, m = w := ⟨m.toNat, by omega⟩
  have hw : w ≤ 9 := by omega
  have hq : q ≤ 9 := by have := D.p4; omega
  have bn := D.lt
  have bd := rd_lt (m := (w : Int)) D (by omega) (by omega)
  have f1 := fun st => p_figures n q bn hq st
  have f2 := fun st => p_figures (rd n q w) w bd hw st
  have f3 := fun st => p_isdec_ok D st
  have f4 := fun st => p_decimal_text D st
  have f5 := fun st => p_fraction_of D st
  have f6 := fun st => p_read bn hq D.ok st
  have f7 := fun st => p_same (rok1 D) st
  have f8 := fun st => p_law_number D st
  have f9 := fun st => p_expression_text D.ok st
  have g1 := fun st => p_answer_text bn hq st
  have g2 := fun st => p_answer_text bd hw st
  have g3 := fun st => p_rounded (m := (q : Int)) D (by omega) (by omega) st
  rw [rd_same D] at g3
  have g4 := fun st => p_same (rok2 D) st
  have g5 := fun st => p_law_rounded (m := (w : Int)) D (by omega) (by omega) st
  have g6 := fun st => p_rounded (m := (w : Int)) D (by omega) (by omega) st
  have g7 := fun st => p_same (rok3 bd hw) st
  have g8 := fun st => p_law_isdec (rd n q w) w st
  refine ⟨s2, ?_, P2, G1.trans G2⟩
  have t1 := eq_told (rd n q w) w
  have t2 := eq_text
  have ad1 := addV_22
  have ad2 := addV_21
  have nmq : PyData.tuple [.str "number", .int n, .int q] = nm n q := rfl
  have nmw : PyData.tuple [.str "number", .int (rd n q w), .int w] = nm (rd n q w) w := rfl
  generalize hT : S (tx n q) = T at *
  generalize hU : S (tx (rd n q w) w) = U at *
  generalize hF : fr n q = F at *
  generalize hR : rd n q w = R at *
  generalize hpq : ((q : Nat) : Int) = p at *
  generalize hmw : ((w : Nat) : Int) = m at *
  have r1 : dr1 [some (.obj k), none, none, none, none, none, none, none, none] st = .ok (.nx [some (.obj k), some (.p (.int n)), some (.p (.int p)), none, none, none, none, none, none]) s1 := by
    simp [dr1, runB, startE, endB, sRet, sSeq, sSet, sIf, sDrop, sNx, sNo, sBrk, sCont, sPar, sAsg, sFor, sWhile, sRaise, sFldS, gSet, gTupD, gCons', gNil', gSubD, fVar, fC, fBin, binS, binV, addV_int, subV, powV, asP, asPs, pds, ofO, ofD, fCmp, cmpS, cmpO, cmpV, ltV, leV, fChain, fAnd, fOr, fNot, fIte, fT, truB, fNeg, fOrS, fCall, fCons, fNil, fStar, fTup, fLst, fNew, newLst, fIdx, idxO, fSli, fPart, sliV, fFld, fldO, lookF, fMeth, fMake, fnV, lenV, absV, minV, intV, listV, fIsi, isiO, tyName, fBm, mtyp, mAppend, mPop, mExtend, itemsD, fCallK, fCallK0, fIter, iterD, fRng1, fLc, tT1, fEnd, putD, itemsO, L2.atI, L2.ixN, e1]
  have r2 : dr2 [some (.obj k), some (.p (.int n)), some (.p (.int p)), none, none, none, none, none, none] s1 = .ok (.nx [some (.obj k), some (.p (.int n)), some (.p (.int p)), some (.p (.str T)), some (.p (nm n q)), none, none, none, none]) s1 := by
    simp [dr2, runB, startE, endB, sRet, sSeq, sSet, sIf, sDrop, sNx, sNo, sBrk, sCont, sPar, sAsg, sFor, sWhile, sRaise, sFldS, gSet, gTupD, gCons', gNil', gSubD, fVar, fC, fBin, binS, binV, addV_int, subV, powV, asP, asPs, pds, ofO, ofD, fCmp, cmpS, cmpO, cmpV, ltV, leV, fChain, fAnd, fOr, fNot, fIte, fT, truB, fNeg, fOrS, fCall, fCons, fNil, fStar, fTup, fLst, fNew, newLst, fIdx, idxO, fSli, fPart, sliV, fFld, fldO, lookF, fMeth, fMake, fnV, lenV, absV, minV, intV, listV, fIsi, isiO, tyName, fBm, mtyp, mAppend, mPop, mExtend, itemsD, fCallK, fCallK0, fIter, iterD, fRng1, fLc, tT1, fEnd, putD, itemsO, L2.atI, L2.ixN, f1, szl, nmq]
  have r3 : dr3 [some (.obj k), some (.p (.int n)), some (.p (.int p)), some (.p (.str T)), some (.p (nm n q)), none, none, none, none] s1 = .ok (.nx [some (.obj k), some (.p (.int n)), some (.p (.int p)), some (.p (.str T)), some (.p (nm n q)), some (.p (.list [.bool true, .str T])), none, none, none]) s1 := by
    simp [dr3, runB, startE, endB, sRet, sSeq, sSet, sIf, sDrop, sNx, sNo, sBrk, sCont, sPar, sAsg, sFor, sWhile, sRaise, sFldS, gSet, gTupD, gCons', gNil', gSubD, fVar, fC, fBin, binS, binV, addV_int, subV, powV, asP, asPs, pds, ofO, ofD, fCmp, cmpS, cmpO, cmpV, ltV, leV, fChain, fAnd, fOr, fNot, fIte, fT, truB, fNeg, fOrS, fCall, fCons, fNil, fStar, fTup, fLst, fNew, newLst, fIdx, idxO, fSli, fPart, sliV, fFld, fldO, lookF, fMeth, fMake, fnV, lenV, absV, minV, intV, listV, fIsi, isiO, tyName, fBm, mtyp, mAppend, mPop, mExtend, itemsD, fCallK, fCallK0, fIter, iterD, fRng1, fLc, tT1, fEnd, putD, itemsO, L2.atI, L2.ixN, f3, f4, szl]
  have r4 : dr4 [some (.obj k), some (.p (.int n)), some (.p (.int p)), some (.p (.str T)), some (.p (nm n q)), some (.p (.list [.bool true, .str T])), none, none, none] s1 = .ok (.nx [some (.obj k), some (.p (.int n)), some (.p (.int p)), some (.p (.str T)), some (.p (nm n q)), some (.p (.list [.bool true, .str T, F, nm n q])), none, none, none]) s1 := by
    simp [dr4, runB, startE, endB, sRet, sSeq, sSet, sIf, sDrop, sNx, sNo, sBrk, sCont, sPar, sAsg, sFor, sWhile, sRaise, sFldS, gSet, gTupD, gCons', gNil', gSubD, fVar, fC, fBin, binS, binV, addV_int, subV, powV, asP, asPs, pds, ofO, ofD, fCmp, cmpS, cmpO, cmpV, ltV, leV, fChain, fAnd, fOr, fNot, fIte, fT, truB, fNeg, fOrS, fCall, fCons, fNil, fStar, fTup, fLst, fNew, newLst, fIdx, idxO, fSli, fPart, sliV, fFld, fldO, lookF, fMeth, fMake, fnV, lenV, absV, minV, intV, listV, fIsi, isiO, tyName, fBm, mtyp, mAppend, mPop, mExtend, itemsD, fCallK, fCallK0, fIter, iterD, fRng1, fLc, tT1, fEnd, putD, itemsO, L2.atI, L2.ixN, pu_pR, f5, f6, ad1, szl]
  have r5 : dr5 [some (.obj k), some (.p (.int n)), some (.p (.int p)), some (.p (.str T)), some (.p (nm n q)), some (.p (.list [.bool true, .str T, F, nm n q])), none, none, none] s1 = .ok (.nx [some (.obj k), some (.p (.int n)), some (.p (.int p)), some (.p (.str T)), some (.p (nm n q)), some (.p (.list [.bool true, .str T, F, nm n q])), none, none, none]) s1 := by
    exact r5' _ _ _ _ _ _ _ f8 f7
  have r6 : dr6 [some (.obj k), some (.p (.int n)), some (.p (.int p)), some (.p (.str T)), some (.p (nm n q)), some (.p (.list [.bool true, .str T, F, nm n q])), none, none, none] s1 = .ok (.nx [some (.obj k), some (.p (.int n)), some (.p (.int p)), some (.p (.str T)), some (.p (nm n q)), some (.p (.list [.str T, .str T])), none, none, none]) s1 := by
    simp [dr6, runB, startE, endB, sRet, sSeq, sSet, sIf, sDrop, sNx, sNo, sBrk, sCont, sPar, sAsg, sFor, sWhile, sRaise, sFldS, gSet, gTupD, gCons', gNil', gSubD, fVar, fC, fBin, binS, binV, addV_int, subV, powV, asP, asPs, pds, ofO, ofD, fCmp, cmpS, cmpO, cmpV, ltV, leV, fChain, fAnd, fOr, fNot, fIte, fT, truB, fNeg, fOrS, fCall, fCons, fNil, fStar, fTup, fLst, fNew, newLst, fIdx, idxO, fSli, fPart, sliV, fFld, fldO, lookF, fMeth, fMake, fnV, lenV, absV, minV, intV, listV, fIsi, isiO, tyName, fBm, mtyp, mAppend, mPop, mExtend, itemsD, fCallK, fCallK0, fIter, iterD, fRng1, fLc, tT1, fEnd, putD, itemsO, L2.atI, L2.ixN, pu_pR, f9, g1, szl]
  have r7 : dr7 [some (.obj k), some (.p (.int n)), some (.p (.int p)), some (.p (.str T)), some (.p (nm n q)), some (.p (.list [.str T, .str T])), none, none, none] s1 = .ok (.nx [some (.obj k), some (.p (.int n)), some (.p (.int p)), some (.p (.str T)), some (.p (nm n q)), some (.p (.list [.str T, .str T, .int n])), none, none, none]) s1 := by
    simp [dr7, runB, startE, endB, sRet, sSeq, sSet, sIf, sDrop, sNx, sNo, sBrk, sCont, sPar, sAsg, sFor, sWhile, sRaise, sFldS, gSet, gTupD, gCons', gNil', gSubD, fVar, fC, fBin, binS, binV, addV_int, subV, powV, asP, asPs, pds, ofO, ofD, fCmp, cmpS, cmpO, cmpV, ltV, leV, fChain, fAnd, fOr, fNot, fIte, fT, truB, fNeg, fOrS, fCall, fCons, fNil, fStar, fTup, fLst, fNew, newLst, fIdx, idxO, fSli, fPart, sliV, fFld, fldO, lookF, fMeth, fMake, fnV, lenV, absV, minV, intV, listV, fIsi, isiO, tyName, fBm, mtyp, mAppend, mPop, mExtend, itemsD, fCallK, fCallK0, fIter, iterD, fRng1, fLc, tT1, fEnd, putD, itemsO, L2.atI, L2.ixN, f5, g3, ad2, szl]
  have r8 : dr8 [some (.obj k), some (.p (.int n)), some (.p (.int p)), some (.p (.str T)), some (.p (nm n q)), some (.p (.list [.str T, .str T, .int n])), none, none, none] s1 = .ok (.nx [some (.obj k), some (.p (.int n)), some (.p (.int p)), some (.p (.str T)), some (.p (nm n q)), some (.p (.list [.str T, .str T, .int n])), none, none, none]) s1 := by
    simp [dr8, runB, startE, endB, sRet, sSeq, sSet, sIf, sDrop, sNx, sNo, sBrk, sCont, sPar, sAsg, sFor, sWhile, sRaise, sFldS, gSet, gTupD, gCons', gNil', gSubD, fVar, fC, fBin, binS, binV, addV_int, subV, powV, asP, asPs, pds, ofO, ofD, fCmp, cmpS, cmpO, cmpV, ltV, leV, fChain, fAnd, fOr, fNot, fIte, fT, truB, fNeg, fOrS, fCall, fCons, fNil, fStar, fTup, fLst, fNew, newLst, fIdx, idxO, fSli, fPart, sliV, fFld, fldO, lookF, fMeth, fMake, fnV, lenV, absV, minV, intV, listV, fIsi, isiO, tyName, fBm, mtyp, mAppend, mPop, mExtend, itemsD, fCallK, fCallK0, fIter, iterD, fRng1, fLc, tT1, fEnd, putD, itemsO, L2.atI, L2.ixN, g4, szl]
  have r9 : dr9 [some (.obj k), some (.p (.int n)), some (.p (.int p)), some (.p (.str T)), some (.p (nm n q)), some (.p (.list [.str T, .str T, .int n])), none, none, none] s1 = .ok (.nx [some (.obj k), some (.p (.int n)), some (.p (.int p)), some (.p (.str T)), some (.p (nm n q)), some (.p (.list [.str T, .str T, .int n])), some (.p (.int m)), none, none]) s2 := by
    simp [dr9, runB, startE, endB, sRet, sSeq, sSet, sIf, sDrop, sNx, sNo, sBrk, sCont, sPar, sAsg, sFor, sWhile, sRaise, sFldS, gSet, gTupD, gCons', gNil', gSubD, fVar, fC, fBin, binS, binV, addV_int, subV, powV, asP, asPs, pds, ofO, ofD, fCmp, cmpS, cmpO, cmpV, ltV, leV, fChain, fAnd, fOr, fNot, fIte, fT, truB, fNeg, fOrS, fCall, fCons, fNil, fStar, fTup, fLst, fNew, newLst, fIdx, idxO, fSli, fPart, sliV, fFld, fldO, lookF, fMeth, fMake, fnV, lenV, absV, minV, intV, listV, fIsi, isiO, tyName, fBm, mtyp, mAppend, mPop, mExtend, itemsD, fCallK, fCallK0, fIter, iterD, fRng1, fLc, tT1, fEnd, putD, itemsO, L2.atI, L2.ixN, e2]
  have r10 : dr10 [some (.obj k), some (.p (.int n)), some (.p (.int p)), some (.p (.str T)), some (.p (nm n q)), some (.p (.list [.str T, .str T, .int n])), some (.p (.int m)), none, none] s2 = .ok (.nx [some (.obj k), some (.p (.int n)), some (.p (.int p)), some (.p (.str T)), some (.p (nm n q)), some (.p (.list [.str T, .str T, .int n])), some (.p (.int m)), some (.p (.int R)), none]) s2 := by
    exact r10' _ _ _ _ _ _ _ _ _ _ f8 g5
  have r11 : dr11 [some (.obj k), some (.p (.int n)), some (.p (.int p)), some (.p (.str T)), some (.p (nm n q)), some (.p (.list [.str T, .str T, .int n])), some (.p (.int m)), some (.p (.int R)), none] s2 = .ok (.nx [some (.obj k), some (.p (.int n)), some (.p (.int p)), some (.p (.str T)), some (.p (nm n q)), some (.p (.list [.str T, .str T, .int n])), some (.p (.int m)), some (.p (.int R)), none]) s2 := by
    exact r11' _ _ _ _ _ _ _ _ _ _ _ f8 g6 g2 f2 g7
  have r12 : dr12 [some (.obj k), some (.p (.int n)), some (.p (.int p)), some (.p (.str T)), some (.p (nm n q)), some (.p (.list [.str T, .str T, .int n])), some (.p (.int m)), some (.p (.int R)), none] s2 = .ok (.nx [some (.obj k), some (.p (.int n)), some (.p (.int p)), some (.p (.str T)), some (.p (nm n q)), some (.p (.list [.str T, .str T, .int n])), some (.p (.int m)), some (.p (.int R)), some (.p (if okN R w then .list [.str "told", nm R w] else .list [.str "text", .none]))]) s2 := by
    cases ok : okN R w with
    | true =>
      have f := fun st => p_read bd hw ok st
      rw [hU] at f
      simp [dr12, fEnd, runB, startE, endB, sRet, sSeq, sSet, sIf, sDrop, sNx, sNo, sBrk, sCont, sPar, sAsg, sFor, sWhile, sRaise, sFldS, gSet, gTupD, gCons', gNil', gSubD, fVar, fC, fBin, binS, binV, addV_int, subV, powV, asP, asPs, pds, ofO, ofD, fCmp, cmpS, cmpO, cmpV, ltV, leV, fChain, fAnd, fOr, fNot, fIte, fT, truB, fNeg, fOrS, fCall, fCons, fNil, fStar, fTup, fLst, fNew, newLst, fIdx, idxO, fSli, fPart, sliV, fFld, fldO, lookF, fMeth, fMake, fnV, lenV, absV, minV, intV, listV, fIsi, isiO, tyName, fBm, mtyp, mAppend, mPop, mExtend, itemsD, fCallK, fCallK0, fIter, iterD, fRng1, fLc, tT1, fEnd, putD, itemsO, L2.atI, L2.ixN, f2, f]
    | false =>
      have f := fun st => p_read_no bd hw ok st
      rw [hU] at f
      simp [dr12, fEnd, runB, startE, endB, sRet, sSeq, sSet, sIf, sDrop, sNx, sNo, sBrk, sCont, sPar, sAsg, sFor, sWhile, sRaise, sFldS, gSet, gTupD, gCons', gNil', gSubD, fVar, fC, fBin, binS, binV, addV_int, subV, powV, asP, asPs, pds, ofO, ofD, fCmp, cmpS, cmpO, cmpV, ltV, leV, fChain, fAnd, fOr, fNot, fIte, fT, truB, fNeg, fOrS, fCall, fCons, fNil, fStar, fTup, fLst, fNew, newLst, fIdx, idxO, fSli, fPart, sliV, fFld, fldO, lookF, fMeth, fMake, fnV, lenV, absV, minV, intV, listV, fIsi, isiO, tyName, fBm, mtyp, mAppend, mPop, mExtend, itemsD, fCallK, fCallK0, fIter, iterD, fRng1, fLc, tT1, fEnd, putD, itemsO, L2.atI, L2.ixN, f2, f, et]
  have r13 : dr13 [some (.obj k), some (.p (.int n)), some (.p (.int p)), some (.p (.str T)), some (.p (nm n q)), some (.p (.list [.str T, .str T, .int n])), some (.p (.int m)), some (.p (.int R)), some (.p (if okN R w then .list [.str "told", nm R w] else .list [.str "text", .none]))] s2 = .ok (.ret (.p (.bool true))) s2 := by
    cases ok : okN R w with
    | true =>
      rw [ok] at g8
      simp [dr13, runB, startE, endB, sRet, sSeq, sSet, sIf, sDrop, sNx, sNo, sBrk, sCont, sPar, sAsg, sFor, sWhile, sRaise, sFldS, gSet, gTupD, gCons', gNil', gSubD, fVar, fC, fBin, binS, binV, addV_int, subV, powV, asP, asPs, pds, ofO, ofD, fCmp, cmpS, cmpO, cmpV, ltV, leV, fChain, fAnd, fOr, fNot, fIte, fT, truB, fNeg, fOrS, fCall, fCons, fNil, fStar, fTup, fLst, fNew, newLst, fIdx, idxO, fSli, fPart, sliV, fFld, fldO, lookF, fMeth, fMake, fnV, lenV, absV, minV, intV, listV, fIsi, isiO, tyName, fBm, mtyp, mAppend, mPop, mExtend, itemsD, fCallK, fCallK0, fIter, iterD, fRng1, fLc, tT1, fEnd, putD, itemsO, L2.atI, L2.ixN, g8, nmw, t1, szl]
    | false =>
      rw [ok] at g8
      simp [dr13, runB, startE, endB, sRet, sSeq, sSet, sIf, sDrop, sNx, sNo, sBrk, sCont, sPar, sAsg, sFor, sWhile, sRaise, sFldS, gSet, gTupD, gCons', gNil', gSubD, fVar, fC, fBin, binS, binV, addV_int, subV, powV, asP, asPs, pds, ofO, ofD, fCmp, cmpS, cmpO, cmpV, ltV, leV, fChain, fAnd, fOr, fNot, fIte, fT, truB, fNeg, fOrS, fCall, fCons, fNil, fStar, fTup, fLst, fNew, newLst, fIdx, idxO, fSli, fPart, sliV, fFld, fldO, lookF, fMeth, fMake, fnV, lenV, absV, minV, intV, listV, fIsi, isiO, tyName, fBm, mtyp, mAppend, mPop, mExtend, itemsD, fCallK, fCallK0, fIter, iterD, fRng1, fLc, tT1, fEnd, putD, itemsO, L2.atI, L2.ixN, g8, nmw, t2, szl]
  have run : m__law_decimal_right [some (.obj k), none, none, none, none, none, none, none, none] st = .ok (.ret (.p (.bool true))) s2 := by
    rw [dr_eq]
    exact (sSeq_nx r1).trans ((sSeq_nx r2).trans ((sSeq_nx r3).trans ((sSeq_nx r4).trans ((sSeq_nx r5).trans ((sSeq_nx r6).trans ((sSeq_nx r7).trans ((sSeq_nx r8).trans ((sSeq_nx r9).trans ((sSeq_nx r10).trans ((sSeq_nx r11).trans ((sSeq_nx r12).trans r13)))))))))))
  show runB 1 9 m__law_decimal_right _ _ = _
  unfold runB startE
  simp only [List.length_cons, List.length_nil, List.map_cons, List.map_nil, if_true]
  show endB (m__law_decimal_right [some (.obj k), none, none, none, none, none, none, none, none] st) = _
  rw [run]
  rfl
end K32
end

section
set_option Elab.async false
set_option linter.all false
set_option maxRecDepth 100000
set_option maxHeartbeats 4000000
/-! K32m14: the plain law, things that are no decimals. -/
namespace K32
open PySem Mp SX
abbrev oa1 : SM := sSet 5 (fNew (fCons (fCallK0 1 r_is_decimal (fCons (fVar 4) fNil)) (fCons (fEnd et (fCall (pR r_decimal_text) (fCons (fVar 4) fNil))) (fCons (fC (.int 0)) fNil))))
abbrev oa2 : SM := sAsg (fEnd et (fCall (pR r_fraction_of) (fCons (fVar 4) fNil))) (gSubD (fVar 5) (fC (.int 2)))
abbrev oa3 : SM := sIf (fNot (fCall (pR r__law_same) (fCons (fVar 5) (fCons (fLst (fCons (fC (.bool false)) (fCons (fLst (fCons (fC (.str "decimal")) (fCons (fVar 4) fNil))) (fCons (fLst (fCons (fC (.str "decimal")) (fCons (fVar 4) fNil))) fNil)))) fNil)))) (sRet (fC (.bool false))) sNx
abbrev oa4 : SM := sSet 5 (fEnd et (fCall (pR r_expression_text) (fCons (fTup (fCons (fC (.str "number")) (fCons (fVar 4) (fCons (fVar 2) fNil)))) fNil)))
abbrev oa5 : SM := sIf (fAnd (fNot (fIsi "int" (fVar 4))) (fCmp .ne (fIdx (fVar 5) (fC (.int 0))) (fC (.str "expression")))) (sRet (fC (.bool false))) sNx
abbrev oaB : SM := sSeq oa1 (sSeq oa2 (sSeq oa3 (sSeq oa4 oa5)))
abbrev oaI : Mp.Env → Store → R (List D) := fIter (fBin .add (fVar 3) (fLst (fCons (fCall (fnV strV) (fCons (fVar 1) fNil)) fNil)))
abbrev ob1 : SM := sSet 6 (fCall r__law_any (fCons (fVar 0) (fCons (fLst (fCons (fC (.int 10)) (fCons (fNeg (fC (.int 1))) (fCons (fC .none) (fCons (fC (.bool true)) fNil))))) fNil)))
abbrev ob2 : SM := sSet 5 (fNew (fCons (fEnd et (fCall (pR r_rounded) (fCons (fVar 4) (fCons (fVar 6) fNil)))) (fCons (fC (.int 0)) (fCons (fC (.int 0)) fNil))))
abbrev ob3 : SM := sAsg (fEnd et (fCallK 1 1 r_rounded (fCons (fTup (fCons (fC (.int 1)) (fCons (fC (.int 3)) fNil))) fNil) (fCons (fVar 6) fNil))) (gSubD (fVar 5) (fC (.int 1)))
abbrev ob4 : SM := sAsg (fEnd et (fCallK0 2 r_rounded (fCons (fVar 4) (fCons (fC (.int 2)) fNil)))) (gSubD (fVar 5) (fC (.int 2)))
abbrev ob5 : SM := sIf (fNot (fCall (pR r__law_same) (fCons (fVar 5) (fCons (fLst (fCons (fLst (fCons (fC (.str "fraction")) (fCons (fVar 4) fNil))) (fCons (fLst (fCons (fC (.str "number")) (fCons (fVar 6) fNil))) (fCons (fLst (fCons (fC (.str "fraction")) (fCons (fVar 4) fNil))) fNil)))) fNil)))) (sRet (fC (.bool false))) sNx
abbrev ob6 : SM := sSet 5 (fNew (fCons (fEnd et (fCallK 1 1 r_answer_text (fCons (fC .none) fNil) (fCons (fVar 6) fNil))) (fCons (fC (.int 0)) fNil)))
abbrev ob7 : SM := sAsg (fEnd et (fCall (pR r_answer_text) (fCons (fVar 1) (fCons (fVar 6) fNil)))) (gSubD (fVar 5) (fC (.int 1)))
abbrev ob8 : SM := sIf (fNot (fCall (pR r__law_same) (fCons (fVar 5) (fCons (fLst (fCons (fLst (fCons (fC (.str "number")) (fCons (fC .none) fNil))) (fCons (fLst (fCons (fC (.str "number")) (fCons (fVar 6) fNil))) fNil))) fNil)))) (sRet (fC (.bool false))) sNx
abbrev obB : SM := sSeq ob1 (sSeq ob2 (sSeq ob3 (sSeq ob4 (sSeq ob5 (sSeq ob6 (sSeq ob7 ob8))))))
abbrev obI : Mp.Env → Store → R (List D) := fIter (fTup (fCons (fTup (fCons (fC (.int 2)) (fCons (fC (.int 4)) fNil))) (fCons (fTup (fCons (fC (.int 1)) (fCons (fC (.int 0)) fNil))) (fCons (fTup (fCons (fC (.int 1)) (fCons (fNeg (fC (.int 2))) fNil))) (fCons (fTup (fCons (fC (.int 0)) (fCons (fC (.int 2)) fNil))) (fCons (fTup (fCons (fC (.bool true)) (fCons (fC (.int 1)) fNil))) (fCons (fLst (fCons (fC (.int 1)) (fCons (fC (.int 2)) fNil))) (fCons (fTup (fCons (fC (.int 1)) fNil)) (fCons (fC .none) (fCons (fTup (fCons (fC (.int 1)) (fCons (fC (.int 2)) (fCons (fC (.int 3)) fNil)))) (fCons (fC (.str "1")) fNil)))))))))))
abbrev od1 : SM := sAsg (fCall r__law_decimal (fCons (fVar 0) fNil)) (gTupD 2 (gCons' (gSet 1) (gCons' (gSet 2) gNil')))
abbrev od2 : SM := sSet 3 (fLst (fCons (fTup (fCons (fC (.int 1000000)) (fCons (fC (.int 0)) fNil))) (fCons (fTup (fCons (fNeg (fC (.int 1000000))) (fCons (fVar 2) fNil))) (fCons (fTup (fCons (fVar 1) (fCons (fC (.int 5)) fNil))) (fCons (fTup (fCons (fVar 1) (fCons (fNeg (fC (.int 1))) fNil))) (fCons (fTup (fCons (fC (.bool true)) (fCons (fC (.int 0)) fNil))) (fCons (fTup (fCons (fVar 1) (fCons (fC (.bool true)) fNil))) fNil)))))))
abbrev od3 : SM := sSet 3 (fBin .add (fVar 3) (fLst (fCons (fLst (fCons (fVar 1) (fCons (fVar 2) fNil))) (fCons (fTup (fCons (fVar 1) fNil)) (fCons (fTup (fCons (fVar 1) (fCons (fC (.int 0)) (fCons (fC (.int 0)) fNil)))) (fCons (fC .none) (fCons (fC (.int 5)) (fCons (fC (.str "5")) fNil))))))))
theorem od_eq : m__law_odd_right = sSeq od1 (sSeq od2 (sSeq od3 (sSeq (sFor (gSet 4) oaI oaB) (sSeq (sFor (gSet 4) obI obB) (sRet (fC (.bool true))))))) := rfl

/-! ### what no decimal is refused with -/
theorem no_isdec {d : PyData} (nd : ∀ st, pR r_is_decimal_form [.p d] st = .ok (.p (.bool false)) st) (st : Store) : pR r_is_decimal [.p d] st = .ok (.p (.bool false)) st := by
  refine pR_ok (es := [d]) (st1 := []) ?_
  simp [r_is_decimal, m_is_decimal, runB, startE, endB, sRet, sSeq, sSet, sIf, sDrop, sNx, sNo, sBrk, sCont, sPar, sAsg, sFor, sWhile, sRaise, sFldS, gSet, gTupD, gCons', gNil', gSubD, fVar, fC, fBin, binS, binV, addV_int, subV, powV, asP, asPs, pds, ofO, ofD, fCmp, cmpS, cmpO, cmpV, ltV, leV, fChain, fAnd, fOr, fNot, fIte, fT, truB, fNeg, fOrS, fCall, fCons, fNil, fStar, fTup, fLst, fNew, newLst, fIdx, idxO, fSli, fPart, sliV, fFld, fldO, lookF, fMeth, fMake, fnV, lenV, absV, minV, intV, listV, fIsi, isiO, tyName, fBm, mtyp, mAppend, mPop, mExtend, itemsD, fCallK, fCallK0, fIter, iterD, fRng1, fLc, tT1, fEnd, putD, itemsO, L2.atI, L2.ixN, nd]
theorem no_chk {d : PyData} (nd : ∀ st, pR r_is_decimal_form [.p d] st = .ok (.p (.bool false)) st) (st : Store) : pR r_check_decimal [.p d] st = .exc 0 d st := by
  refine pR_exc (es := [d]) (st1 := []) ?_
  simp [r_check_decimal, m_check_decimal, runB, startE, endB, sRet, sSeq, sSet, sIf, sDrop, sNx, sNo, sBrk, sCont, sPar, sAsg, sFor, sWhile, sRaise, sFldS, gSet, gTupD, gCons', gNil', gSubD, fVar, fC, fBin, binS, binV, addV_int, subV, powV, asP, asPs, pds, ofO, ofD, fCmp, cmpS, cmpO, cmpV, ltV, leV, fChain, fAnd, fOr, fNot, fIte, fT, truB, fNeg, fOrS, fCall, fCons, fNil, fStar, fTup, fLst, fNew, newLst, fIdx, idxO, fSli, fPart, sliV, fFld, fldO, lookF, fMeth, fMake, fnV, lenV, absV, minV, intV, listV, fIsi, isiO, tyName, fBm, mtyp, mAppend, mPop, mExtend, itemsD, fCallK, fCallK0, fIter, iterD, fRng1, fLc, tT1, fEnd, putD, itemsO, L2.atI, L2.ixN, nd]
theorem no_dtext {d : PyData} (nd : ∀ st, pR r_is_decimal_form [.p d] st = .ok (.p (.bool false)) st) (st : Store) : pR r_decimal_text [.p d] st = .exc 0 d st := by
  refine pR_exc (es := [d]) (st1 := []) ?_
  have c := fun st => no_chk nd st
  simp [r_decimal_text, m_decimal_text, runB, startE, endB, sRet, sSeq, sSet, sIf, sDrop, sNx, sNo, sBrk, sCont, sPar, sAsg, sFor, sWhile, sRaise, sFldS, gSet, gTupD, gCons', gNil', gSubD, fVar, fC, fBin, binS, binV, addV_int, subV, powV, asP, asPs, pds, ofO, ofD, fCmp, cmpS, cmpO, cmpV, ltV, leV, fChain, fAnd, fOr, fNot, fIte, fT, truB, fNeg, fOrS, fCall, fCons, fNil, fStar, fTup, fLst, fNew, newLst, fIdx, idxO, fSli, fPart, sliV, fFld, fldO, lookF, fMeth, fMake, fnV, lenV, absV, minV, intV, listV, fIsi, isiO, tyName, fBm, mtyp, mAppend, mPop, mExtend, itemsD, fCallK, fCallK0, fIter, iterD, fRng1, fLc, tT1, fEnd, putD, itemsO, L2.atI, L2.ixN, c]
theorem no_frac {d : PyData} (nd : ∀ st, pR r_is_decimal_form [.p d] st = .ok (.p (.bool false)) st) (st : Store) : pR r_fraction_of [.p d] st = .exc 0 d st := by
  refine pR_exc (es := [d]) (st1 := []) ?_
  have c := fun st => no_chk nd st
  simp [r_fraction_of, m_fraction_of, runB, startE, endB, sRet, sSeq, sSet, sIf, sDrop, sNx, sNo, sBrk, sCont, sPar, sAsg, sFor, sWhile, sRaise, sFldS, gSet, gTupD, gCons', gNil', gSubD, fVar, fC, fBin, binS, binV, addV_int, subV, powV, asP, asPs, pds, ofO, ofD, fCmp, cmpS, cmpO, cmpV, ltV, leV, fChain, fAnd, fOr, fNot, fIte, fT, truB, fNeg, fOrS, fCall, fCons, fNil, fStar, fTup, fLst, fNew, newLst, fIdx, idxO, fSli, fPart, sliV, fFld, fldO, lookF, fMeth, fMake, fnV, lenV, absV, minV, intV, listV, fIsi, isiO, tyName, fBm, mtyp, mAppend, mPop, mExtend, itemsD, fCallK, fCallK0, fIter, iterD, fRng1, fLc, tT1, fEnd, putD, itemsO, L2.atI, L2.ixN, c]
theorem is2' (a b : PyData) (st : Store) : pR r_is_tuple_of [.p (.tuple [a, b]), .p (.int 2)] st = .ok (.p (.bool true)) st := is2 a b st
theorem no_dform2 {d : PyData} {p : Int} (wh : ∀ st, pR r_is_whole [.p d] st = .ok (.p (.bool false)) st) (st : Store) : pR r_is_decimal_form [.p (.tuple [d, .int p])] st = .ok (.p (.bool false)) st := by
  refine pR_ok (es := [.tuple [d, .int p]]) (st1 := []) ?_
  have i : ∀ st, pR r_is_in [.p d, .p (.int (-999999)), .p (.int 999999)] st = .ok (.p (.bool false)) st := fun st => by
    refine pR_ok (es := [d, .int (-999999), .int 999999]) (st1 := []) ?_
    simp [r_is_in, m_is_in, runB, startE, endB, sRet, sSeq, sSet, sIf, sDrop, sNx, sNo, sBrk, sCont, sPar, sAsg, sFor, sWhile, sRaise, sFldS, gSet, gTupD, gCons', gNil', gSubD, fVar, fC, fBin, binS, binV, addV_int, subV, powV, asP, asPs, pds, ofO, ofD, fCmp, cmpS, cmpO, cmpV, ltV, leV, fChain, fAnd, fOr, fNot, fIte, fT, truB, fNeg, fOrS, fCall, fCons, fNil, fStar, fTup, fLst, fNew, newLst, fIdx, idxO, fSli, fPart, sliV, fFld, fldO, lookF, fMeth, fMake, fnV, lenV, absV, minV, intV, listV, fIsi, isiO, tyName, fBm, mtyp, mAppend, mPop, mExtend, itemsD, fCallK, fCallK0, fIter, iterD, fRng1, fLc, tT1, fEnd, putD, itemsO, L2.atI, L2.ixN, wh]
  simp [r_is_decimal_form, m_is_decimal_form, runB, startE, endB, sRet, sSeq, sSet, sIf, sDrop, sNx, sNo, sBrk, sCont, sPar, sAsg, sFor, sWhile, sRaise, sFldS, gSet, gTupD, gCons', gNil', gSubD, fVar, fC, fBin, binS, binV, addV_int, subV, powV, asP, asPs, pds, ofO, ofD, fCmp, cmpS, cmpO, cmpV, ltV, leV, fChain, fAnd, fOr, fNot, fIte, fT, truB, fNeg, fOrS, fCall, fCons, fNil, fStar, fTup, fLst, fNew, newLst, fIdx, idxO, fSli, fPart, sliV, fFld, fldO, lookF, fMeth, fMake, fnV, lenV, absV, minV, intV, listV, fIsi, isiO, tyName, fBm, mtyp, mAppend, mPop, mExtend, itemsD, fCallK, fCallK0, fIter, iterD, fRng1, fLc, tT1, fEnd, putD, itemsO, L2.atI, L2.ixN, is2, subV, i]
theorem no_head {d : PyData} {p : Int} (wh : ∀ st, pR r_is_whole [.p d] st = .ok (.p (.bool false)) st) (sh : SeqAt.shaped (.tuple [.str "number", d, .int p]) = true) (st : Store) : pR r_is_expression_head [.p (.tuple [.str "number", d, .int p])] st = .ok (.p (.bool false)) st := by
  refine pR_ok (es := [.tuple [.str "number", d, .int p]]) (st1 := []) ?_
  have k1 : L2.kitB "tuple" "tuple" = some true := by kernel_rfl
  have k2 : L2.kitB "str" "str" = some true := by kernel_rfl
  have e0 : eqV (.tuple [.str "number", d, .int p]) (.tuple []) = some false := by
    have h2 : SeqAt.shaped (.tuple []) = true := by kernel_rfl
    unfold eqV
    rw [sh, h2]
    rfl
  have h1 : ∀ st, pR r_head_of [.p (.tuple [.str "number", d, .int p])] st = .ok (.p (.list [.str "number"])) st := fun st => by
    refine pR_ok (es := [.tuple [.str "number", d, .int p]]) (st1 := []) ?_
    simp [r_head_of, m_head_of, runB, startE, endB, sRet, sSeq, sSet, sIf, sDrop, sNx, sNo, sBrk, sCont, sPar, sAsg, sFor, sWhile, sRaise, sFldS, gSet, gTupD, gCons', gNil', gSubD, fVar, fC, fBin, binS, binV, addV_int, subV, powV, asP, asPs, pds, ofO, ofD, fCmp, cmpS, cmpO, cmpV, ltV, leV, fChain, fAnd, fOr, fNot, fIte, fT, truB, fNeg, fOrS, fCall, fCons, fNil, fStar, fTup, fLst, fNew, newLst, fIdx, idxO, fSli, fPart, sliV, fFld, fldO, lookF, fMeth, fMake, fnV, lenV, absV, minV, intV, listV, fIsi, isiO, tyName, fBm, mtyp, mAppend, mPop, mExtend, itemsD, fCallK, fCallK0, fIter, iterD, fRng1, fLc, tT1, fEnd, putD, itemsO, L2.atI, L2.ixN, k1, k2, e0, szl]
  have h2 : ∀ st, pR r_is_tuple_of [.p (.tuple [.str "number", d, .int p]), .p (.int 3)] st = .ok (.p (.bool true)) st := fun st => by kernel_rfl
  have h3 : sliV (some 1) none (.tuple [.str "number", d, .int p]) = some (.tuple [d, .int p]) := by kernel_rfl
  have e1 : eqV (.list [.str "number"]) (.list [.str "number"]) = some true := by kernel_rfl
  have df := fun st => no_dform2 (p := p) wh st
  generalize PyData.tuple [.str "number", d, .int p] = x at *
  simp [r_is_expression_head, m_is_expression_head, fSli, fPart, runB, startE, endB, sRet, sSeq, sSet, sIf, fVar, fC, fCmp, cmpS, cmpO, cmpV, fAnd, fT, truB, fCall, fCons, fNil, fLst, ofO, asP, pds, h1, h2, h3, e1, df, szl]
theorem no_etext {d : PyData} {p : Int} (wh : ∀ st, pR r_is_whole [.p d] st = .ok (.p (.bool false)) st) (sh : SeqAt.shaped (.tuple [.str "number", d, .int p]) = true) (st : Store) : pR r_expression_text [.p (.tuple [.str "number", d, .int p])] st = .exc 1 (.tuple [.str "number", d, .int p]) st := by
  refine pR_exc (es := [.tuple [.str "number", d, .int p]]) (st1 := []) ?_
  have h1 := fun st => no_head wh sh st
  generalize PyData.tuple [.str "number", d, .int p] = x at *
  have fm : ∀ st, pR r_is_expression_form [.p x] st = .ok (.p (.bool false)) st := fun st => by
    refine pR_okE (es := [x]) ?_
    have r5 : rngOk 5 = true := by decide
    refine ⟨[.lst [.p (.bool false)]], ?_⟩
    simp [r_is_expression_form, m_is_expression_form, runB, startE, endB, sRet, sSeq, sSet, sIf, sDrop, sNx, sNo, sBrk, sCont, sPar, sAsg, sFor, sWhile, sRaise, sFldS, gSet, gTupD, gCons', gNil', gSubD, fVar, fC, fBin, binS, binV, addV_int, subV, powV, asP, asPs, pds, ofO, ofD, fCmp, cmpS, cmpO, cmpV, ltV, leV, fChain, fAnd, fOr, fNot, fIte, fT, truB, fNeg, fOrS, fCall, fCons, fNil, fStar, fTup, fLst, fNew, newLst, fIdx, idxO, fSli, fPart, sliV, fFld, fldO, lookF, fMeth, fMake, fnV, lenV, absV, minV, intV, listV, fIsi, isiO, tyName, fBm, mtyp, mAppend, mPop, mExtend, itemsD, fCallK, fCallK0, fIter, iterD, fRng1, fLc, tT1, fEnd, putD, itemsO, L2.atI, L2.ixN, r5, rngD, List.range, List.range.loop, loopF, lcGo, wipeE, noX, h1, szl, allV, boolsP]
  simp [r_expression_text, m_expression_text, runB, startE, endB, sRet, sSeq, sSet, sIf, sDrop, sNx, sNo, sBrk, sCont, sPar, sAsg, sFor, sWhile, sRaise, sFldS, gSet, gTupD, gCons', gNil', gSubD, fVar, fC, fBin, binS, binV, addV_int, subV, powV, asP, asPs, pds, ofO, ofD, fCmp, cmpS, cmpO, cmpV, ltV, leV, fChain, fAnd, fOr, fNot, fIte, fT, truB, fNeg, fOrS, fCall, fCons, fNil, fStar, fTup, fLst, fNew, newLst, fIdx, idxO, fSli, fPart, sliV, fFld, fldO, lookF, fMeth, fMake, fnV, lenV, absV, minV, intV, listV, fIsi, isiO, tyName, fBm, mtyp, mAppend, mPop, mExtend, itemsD, fCallK, fCallK0, fIter, iterD, fRng1, fLc, tT1, fEnd, putD, itemsO, L2.atI, L2.ixN, fm]
/-- a thing that is no decimal: what the turn asks of it -/
structure Odd (p : Int) (d : PyData) : Prop where
  nd : ∀ st, pR r_is_decimal_form [.p d] st = .ok (.p (.bool false)) st
  ex : (∃ ty, tyName d = some ty ∧ L2.kitB ty "int" = some false ∧ ∀ st, pR r_expression_text [.p (.tuple [.str "number", d, .int p])] st = .exc 1 (.tuple [.str "number", d, .int p]) st) ∨ (d = .int 5 ∧ ∃ t, ∀ st, pR r_expression_text [.p (.tuple [.str "number", d, .int p])] st = .ok (.p (.str t)) st)
  g : gd d = true
  dp : d.depth ≤ 10
  b : bd d ≤ 1000
theorem Odd.rok {p : Int} {d : PyData} (o : Odd p d) : Rok [.bool false, .list [.str "decimal", d], .list [.str "decimal", d]] := by
  refine ⟨?_, ?_, ?_⟩
  · show (gd (.bool false) && ((gd (.str "decimal") && (gd d && true)) && ((gd (.str "decimal") && (gd d && true)) && true))) = true
    rw [o.g]; rfl
  · have := o.dp
    simp [PyData.depth, PyData.depthAll]
    omega
  · have := o.b
    show 5 + 2 + ((10 * 7 + 2 + 2 + (bd d + 2 + 0) + 2) + 2 + ((10 * 7 + 2 + 2 + (bd d + 2 + 0) + 2) + 2 + 0)) ≤ 100000
    omega
theorem set_end (st : Store) (x y : Cell) : (st ++ [x]).set st.length y = st ++ [y] := by simp
theorem get_end (st : Store) (x : Cell) : (st ++ [x])[st.length]? = some x := by simp
theorem oa_body {k : Nat} {n p : Int} {l : D} {d : PyData} (o : Odd p d) (e5 e6 : Option D) (st : Store) : ∃ e5' c, oaB [some (.obj k), some (.p (.int n)), some (.p (.int p)), some l, some (.p d), e5, e6] st = .ok (.nx [some (.obj k), some (.p (.int n)), some (.p (.int p)), some l, some (.p d), e5', e6]) (st ++ [c]) := by
  have f1 := fun st => no_isdec o.nd st
  have f2 := fun st => no_dtext o.nd st
  have f3 := fun st => no_frac o.nd st
  have rk := o.rok
  have q1 : oa1 [some (.obj k), some (.p (.int n)), some (.p (.int p)), some l, some (.p d), e5, e6] st = .ok (.nx [some (.obj k), some (.p (.int n)), some (.p (.int p)), some l, some (.p d), some (.obj st.length), e6]) (st ++ [.lst [.p (.bool false), .p (.list [.str "decimal", d]), .p (.int 0)]]) := by
    simp [oa1, fEnd, runB, startE, endB, sRet, sSeq, sSet, sIf, sDrop, sNx, sNo, sBrk, sCont, sPar, sAsg, sFor, sWhile, sRaise, sFldS, gSet, gTupD, gCons', gNil', gSubD, fVar, fC, fBin, binS, binV, addV_int, subV, powV, asP, asPs, pds, ofO, ofD, fCmp, cmpS, cmpO, cmpV, ltV, leV, fChain, fAnd, fOr, fNot, fIte, fT, truB, fNeg, fOrS, fCall, fCons, fNil, fStar, fTup, fLst, fNew, newLst, fIdx, idxO, fSli, fPart, sliV, fFld, fldO, lookF, fMeth, fMake, fnV, lenV, absV, minV, intV, listV, fIsi, isiO, tyName, fBm, mtyp, mAppend, mPop, mExtend, itemsD, fCallK, fCallK0, fIter, iterD, fRng1, fLc, tT1, fEnd, putD, itemsO, L2.atI, L2.ixN, pu_pR, f1, f2, et, szl]
  have q2 : oa2 [some (.obj k), some (.p (.int n)), some (.p (.int p)), some l, some (.p d), some (.obj st.length), e6] (st ++ [.lst [.p (.bool false), .p (.list [.str "decimal", d]), .p (.int 0)]]) = .ok (.nx [some (.obj k), some (.p (.int n)), some (.p (.int p)), some l, some (.p d), some (.obj st.length), e6]) (st ++ [.lst [.p (.bool false), .p (.list [.str "decimal", d]), .p (.list [.str "decimal", d])]]) := by
    simp [oa2, fEnd, runB, startE, endB, sRet, sSeq, sSet, sIf, sDrop, sNx, sNo, sBrk, sCont, sPar, sAsg, sFor, sWhile, sRaise, sFldS, gSet, gTupD, gCons', gNil', gSubD, fVar, fC, fBin, binS, binV, addV_int, subV, powV, asP, asPs, pds, ofO, ofD, fCmp, cmpS, cmpO, cmpV, ltV, leV, fChain, fAnd, fOr, fNot, fIte, fT, truB, fNeg, fOrS, fCall, fCons, fNil, fStar, fTup, fLst, fNew, newLst, fIdx, idxO, fSli, fPart, sliV, fFld, fldO, lookF, fMeth, fMake, fnV, lenV, absV, minV, intV, listV, fIsi, isiO, tyName, fBm, mtyp, mAppend, mPop, mExtend, itemsD, fCallK, fCallK0, fIter, iterD, fRng1, fLc, tT1, fEnd, putD, itemsO, L2.atI, L2.ixN, f3, et, szl]
  have same : ∀ c, c = Cell.lst [.p (.bool false), .p (.list [.str "decimal", d]), .p (.list [.str "decimal", d])] → pR r__law_same [.obj st.length, .p (.list [.bool false, .list [.str "decimal", d], .list [.str "decimal", d]])] (st ++ [c]) = .ok (.p (.bool true)) (st ++ [c]) := fun c hc => by
    refine p_sameO rk ?_
    subst hc
    simp [asP, pds]
  have q3 : oa3 [some (.obj k), some (.p (.int n)), some (.p (.int p)), some l, some (.p d), some (.obj st.length), e6] (st ++ [.lst [.p (.bool false), .p (.list [.str "decimal", d]), .p (.list [.str "decimal", d])]]) = .ok (.nx [some (.obj k), some (.p (.int n)), some (.p (.int p)), some l, some (.p d), some (.obj st.length), e6]) (st ++ [.lst [.p (.bool false), .p (.list [.str "decimal", d]), .p (.list [.str "decimal", d])]]) := by
    have sm := same _ rfl
    generalize Cell.lst [.p (.bool false), .p (.list [.str "decimal", d]), .p (.list [.str "decimal", d])] = c at *
    simp [oa3, runB, startE, endB, sRet, sSeq, sSet, sIf, sDrop, sNx, sNo, sBrk, sCont, sPar, sAsg, sFor, sWhile, sRaise, sFldS, gSet, gTupD, gCons', gNil', gSubD, fVar, fC, fBin, binS, binV, addV_int, subV, powV, asP, asPs, pds, ofO, ofD, fCmp, cmpS, cmpO, cmpV, ltV, leV, fChain, fAnd, fOr, fNot, fIte, fT, truB, fNeg, fOrS, fCall, fCons, fNil, fStar, fTup, fLst, fNew, newLst, fIdx, idxO, fSli, fPart, sliV, fFld, fldO, lookF, fMeth, fMake, fnV, lenV, absV, minV, intV, listV, fIsi, isiO, tyName, fBm, mtyp, mAppend, mPop, mExtend, itemsD, fCallK, fCallK0, fIter, iterD, fRng1, fLc, tT1, fEnd, putD, itemsO, L2.atI, L2.ixN, sm, szl]
  generalize Cell.lst [.p (.bool false), .p (.list [.str "decimal", d]), .p (.list [.str "decimal", d])] = c at *
  have fin : ∃ e5', sSeq oa4 oa5 [some (.obj k), some (.p (.int n)), some (.p (.int p)), some l, some (.p d), some (.obj st.length), e6] (st ++ [c]) = .ok (.nx [some (.obj k), some (.p (.int n)), some (.p (.int p)), some l, some (.p d), e5', e6]) (st ++ [c]) := by
    rcases o.ex with ⟨ty, t1, t2, ex⟩ | ⟨hd, t, ex⟩
    · refine ⟨some (.p (.list [.str "expression", .tuple [.str "number", d, .int p]])), ?_⟩
      have r4 : oa4 [some (.obj k), some (.p (.int n)), some (.p (.int p)), some l, some (.p d), some (.obj st.length), e6] (st ++ [c]) = .ok (.nx [some (.obj k), some (.p (.int n)), some (.p (.int p)), some l, some (.p d), some (.p (.list [.str "expression", .tuple [.str "number", d, .int p]])), e6]) (st ++ [c]) := by
        simp [oa4, fEnd, runB, startE, endB, sRet, sSeq, sSet, sIf, sDrop, sNx, sNo, sBrk, sCont, sPar, sAsg, sFor, sWhile, sRaise, sFldS, gSet, gTupD, gCons', gNil', gSubD, fVar, fC, fBin, binS, binV, addV_int, subV, powV, asP, asPs, pds, ofO, ofD, fCmp, cmpS, cmpO, cmpV, ltV, leV, fChain, fAnd, fOr, fNot, fIte, fT, truB, fNeg, fOrS, fCall, fCons, fNil, fStar, fTup, fLst, fNew, newLst, fIdx, idxO, fSli, fPart, sliV, fFld, fldO, lookF, fMeth, fMake, fnV, lenV, absV, minV, intV, listV, fIsi, isiO, tyName, fBm, mtyp, mAppend, mPop, mExtend, itemsD, fCallK, fCallK0, fIter, iterD, fRng1, fLc, tT1, fEnd, putD, itemsO, L2.atI, L2.ixN, ex, et, szl]
      refine (sSeq_nx r4).trans ?_
      generalize PyData.tuple [.str "number", d, .int p] = x
      have e1 : eqV (.str "expression") (.str "expression") = some true := by kernel_rfl
      have ii : isiO "int" (.p d) (st ++ [c]) = some false := by simp [isiO, t1, t2]
      refine sIf_f ?_
      simp only [fAnd, fNot, fIsi, fVar, Mp.R.bind, List.getElem?_cons_succ, List.getElem?_cons_zero, ii, ofO, Option.map, truB]
      simp [runB, startE, endB, sRet, sSeq, sSet, sIf, sDrop, sNx, sNo, sBrk, sCont, sPar, sAsg, sFor, sWhile, sRaise, sFldS, gSet, gTupD, gCons', gNil', gSubD, fVar, fC, fBin, binS, binV, addV_int, subV, powV, asP, asPs, pds, ofO, ofD, fCmp, cmpS, cmpO, cmpV, ltV, leV, fChain, fAnd, fOr, fNot, fIte, fT, truB, fNeg, fOrS, fCall, fCons, fNil, fStar, fTup, fLst, fNew, newLst, fIdx, idxO, fSli, fPart, sliV, fFld, fldO, lookF, fMeth, fMake, fnV, lenV, absV, minV, intV, listV, fIsi, isiO, tyName, fBm, mtyp, mAppend, mPop, mExtend, itemsD, fCallK, fCallK0, fIter, iterD, fRng1, fLc, tT1, fEnd, putD, itemsO, L2.atI, L2.ixN, e1]
    · subst hd
      refine ⟨some (.p (.list [.str "told", .str t])), ?_⟩
      have r4 : oa4 [some (.obj k), some (.p (.int n)), some (.p (.int p)), some l, some (.p (.int 5)), some (.obj st.length), e6] (st ++ [c]) = .ok (.nx [some (.obj k), some (.p (.int n)), some (.p (.int p)), some l, some (.p (.int 5)), some (.p (.list [.str "told", .str t])), e6]) (st ++ [c]) := by
        simp [oa4, fEnd, runB, startE, endB, sRet, sSeq, sSet, sIf, sDrop, sNx, sNo, sBrk, sCont, sPar, sAsg, sFor, sWhile, sRaise, sFldS, gSet, gTupD, gCons', gNil', gSubD, fVar, fC, fBin, binS, binV, addV_int, subV, powV, asP, asPs, pds, ofO, ofD, fCmp, cmpS, cmpO, cmpV, ltV, leV, fChain, fAnd, fOr, fNot, fIte, fT, truB, fNeg, fOrS, fCall, fCons, fNil, fStar, fTup, fLst, fNew, newLst, fIdx, idxO, fSli, fPart, sliV, fFld, fldO, lookF, fMeth, fMake, fnV, lenV, absV, minV, intV, listV, fIsi, isiO, tyName, fBm, mtyp, mAppend, mPop, mExtend, itemsD, fCallK, fCallK0, fIter, iterD, fRng1, fLc, tT1, fEnd, putD, itemsO, L2.atI, L2.ixN, ex, et, szl]
      refine (sSeq_nx r4).trans ?_
      refine sIf_f ?_
      have k2 : L2.kitB "int" "int" = some true := by kernel_rfl
      have ii : isiO "int" (.p (.int 5)) (st ++ [c]) = some true := by simp [isiO, tyName, k2]
      simp only [fAnd, fNot, fIsi, fVar, Mp.R.bind, List.getElem?_cons_succ, List.getElem?_cons_zero, ii, ofO, Option.map, truB]
      rfl
  obtain ⟨e5', fin⟩ := fin
  exact ⟨e5', c, (sSeq_nx q1).trans ((sSeq_nx q2).trans ((sSeq_nx q3).trans fin))⟩
theorem oa_loop {k : Nat} {n p : Int} {l : D} : ∀ (ds : List PyData), (∀ d ∈ ds, Odd p d) → ∀ (e4 e5 e6 : Option D) (st : Store), ∃ e4' e5' xs, loopF (gSet 4) oaB (ds.map .p) [some (.obj k), some (.p (.int n)), some (.p (.int p)), some l, e4, e5, e6] st = .ok (.nx [some (.obj k), some (.p (.int n)), some (.p (.int p)), some l, e4', e5', e6]) (st ++ xs) := by
  intro ds
  induction ds with
  | nil => exact fun _ e4 e5 e6 st => ⟨e4, e5, [], by simp [loopF]⟩
  | cons d ds ih =>
    intro h e4 e5 e6 st
    obtain ⟨e5', c, b⟩ := oa_body (k := k) (n := n) (l := l) (h d (by simp)) e5 e6 st
    obtain ⟨a4, a5, xs, r⟩ := ih (fun x hx => h x (by simp [hx])) (some (.p d)) e5' e6 (st ++ [c])
    refine ⟨a4, a5, c :: xs, ?_⟩
    rw [List.map_cons, loopF]
    simp only [gSet, List.set_cons_succ, List.set_cons_zero]
    rw [b]
    simp only [Mp.R.bind]
    rw [r]
    simp
end K32
end

section
set_option Elab.async false
set_option linter.all false
set_option maxRecDepth 100000
set_option maxHeartbeats 4000000
/-! K32m15: the plain law, the thirteen that are no decimals. -/
namespace K32
open PySem Mp SX
theorem int_len {i : Int} (h : i.natAbs < 10 ^ 20) : (strI i).length ≤ 21 := by
  have := int_text_length_le10 (k := 20) (by decide) h
  unfold strI
  rw [ofString_length]
  omega
theorem strV_int {i : Int} (h : i.natAbs < 10 ^ 20) : strV [.int i] = some (.str (strI i)) := by
  have : i.natAbs.log2 < 1920 := by
    by_cases h0 : i.natAbs = 0
    · rw [h0]; decide
    · rw [Nat.log2_lt h0]
      exact Nat.lt_trans h (by decide)
  rw [strV, if_pos this]
theorem strI_asc {i : Int} : ∀ c ∈ (strI i).cps.toList, c < 256 := by
  intro c hc
  unfold strI at hc
  by_cases h : 0 ≤ i
  · have e : i = ((i.toNat : Nat) : Int) := by omega
    rw [e, num_S] at hc
    exact dg_lt (num_dg _ c (by simpa using hc))
  · have e : i = -((i.natAbs : Nat) : Int) := by omega
    have e2 : ∃ m : Nat, i = Int.negSucc m := ⟨i.natAbs - 1, by omega⟩
    obtain ⟨m, rfl⟩ := e2
    have e3 : toString (Int.negSucc m) = "-" ++ toString (((m + 1 : Nat) : Int)) := rfl
    rw [e3] at hc
    have e4 : Str.ofString ("-" ++ toString (((m + 1 : Nat) : Int))) = S (45 :: TL.numL (m + 1)) := by
      have a : (Str.ofString ("-" ++ toString (((m + 1 : Nat) : Int)))).cps.toList = 45 :: TL.numL (m + 1) := by
        rw [PyProof.Rows.signs_ofString, String.toList_append, List.map_append]
        have b := PyProof.Rows.signs_ofString (toString (((m + 1 : Nat) : Int)))
        rw [num_S] at b
        rw [← b]
        rfl
      have := S_tl (Str.ofString ("-" ++ toString (((m + 1 : Nat) : Int))))
      rw [← this, a]
    rw [e4] at hc
    have hc : c ∈ 45 :: TL.numL (m + 1) := by simpa using hc
    rcases List.mem_cons.mp hc with rfl | hc
    · decide
    · exact dg_lt (num_dg _ c hc)
/-- no decimal, by its kind -/
theorem odd_of {p : Int} {d : PyData} (ty : String) (h1 : tyName d = some ty) (h2 : L2.kitB ty "int" = some false) (nd : ∀ st, pR r_is_decimal_form [.p d] st = .ok (.p (.bool false)) st) (wh : ∀ st, pR r_is_whole [.p d] st = .ok (.p (.bool false)) st) (sh : SeqAt.shaped (.tuple [.str "number", d, .int p]) = true) (g : gd d = true) (dp : d.depth ≤ 10) (b : bd d ≤ 1000) : Odd p d :=
  ⟨nd, .inl ⟨ty, h1, h2, fun st => no_etext wh sh st⟩, g, dp, b⟩
theorem k_ti : L2.kitB "tuple" "int" = some false := by kernel_rfl
theorem k_li : L2.kitB "list" "int" = some false := by kernel_rfl
theorem k_ni : L2.kitB "NoneType" "int" = some false := by kernel_rfl
theorem k_si : L2.kitB "str" "int" = some false := by kernel_rfl
theorem gd2 {a b : PyData} (h1 : gd a = true) (h2 : gd b = true) : gd (.tuple [a, b]) = true := by
  show (gd a && (gd b && true)) = true
  rw [h1, h2]; rfl
theorem odds {n p : Int} (D : Dec n p) : ∀ d ∈ [PyData.tuple [.int 1000000, .int 0], .tuple [.int (-1000000), .int p], .tuple [.int n, .int 5], .tuple [.int n, .int (-1)], .tuple [.bool true, .int 0], .tuple [.int n, .bool true], .list [.int n, .int p], .tuple [.int n], .tuple [.int n, .int 0, .int 0], .none, .int 5, .str "5", .str (strI n)], Odd p d := by
  have gn := gd_int D.lt
  have gp := gd_int (i := p) (by
    have h0 := D.p0
    have h4 := D.p4
    have e : (10 : Nat) ^ 20 = 100000000000000000000 := by decide
    omega)
  have w : ∀ xs st, pR r_is_whole [.p (.tuple xs)] st = .ok (.p (.bool false)) st := fun xs st => by kernel_rfl
  intro d hd
  simp only [List.mem_cons, List.not_mem_nil, or_false] at hd
  rcases hd with rfl | rfl | rfl | rfl | rfl | rfl | rfl | rfl | rfl | rfl | rfl | rfl | rfl
  · exact odd_of "tuple" rfl k_ti (fun st => by kernel_rfl) (w _) (by kernel_rfl) (by decide) (by decide) (by decide)
  · exact odd_of "tuple" rfl k_ti (fun st => by kernel_rfl) (w _) (by kernel_rfl) (gd2 (by decide) gp) (by simp [PyData.depth, PyData.depthAll]) (by simp [bd, bdA])
  · refine odd_of "tuple" rfl k_ti (fun st => ?_) (w _) (by kernel_rfl) (gd2 gn (by decide)) (by simp [PyData.depth, PyData.depthAll]) (by simp [bd, bdA])
    rw [p_dform]; simp
  · refine odd_of "tuple" rfl k_ti (fun st => ?_) (w _) (by kernel_rfl) (gd2 gn (by decide)) (by simp [PyData.depth, PyData.depthAll]) (by simp [bd, bdA])
    rw [p_dform]; simp
  · exact odd_of "tuple" rfl k_ti (fun st => by kernel_rfl) (w _) (by kernel_rfl) (by decide) (by decide) (by decide)
  · refine odd_of "tuple" rfl k_ti (fun st => ?_) (w _) (by kernel_rfl) (gd2 gn (by decide)) (by simp [PyData.depth, PyData.depthAll]) (by simp [bd, bdA])
    refine pR_ok (es := [.tuple [.int n, .bool true]]) (st1 := []) ?_
    have b1 : ∀ st, pR r_is_in [.p (.bool true), .p (.int 0), .p (.int 4)] st = .ok (.p (.bool false)) st := fun st => by kernel_rfl
    simp [r_is_decimal_form, m_is_decimal_form, runB, startE, endB, sRet, sSeq, sSet, sIf, sDrop, sNx, sNo, sBrk, sCont, sPar, sAsg, sFor, sWhile, sRaise, sFldS, gSet, gTupD, gCons', gNil', gSubD, fVar, fC, fBin, binS, binV, addV_int, subV, powV, asP, asPs, pds, ofO, ofD, fCmp, cmpS, cmpO, cmpV, ltV, leV, fChain, fAnd, fOr, fNot, fIte, fT, truB, fNeg, fOrS, fCall, fCons, fNil, fStar, fTup, fLst, fNew, newLst, fIdx, idxO, fSli, fPart, sliV, fFld, fldO, lookF, fMeth, fMake, fnV, lenV, absV, minV, intV, listV, fIsi, isiO, tyName, fBm, mtyp, mAppend, mPop, mExtend, itemsD, fCallK, fCallK0, fIter, iterD, fRng1, fLc, tT1, fEnd, putD, itemsO, L2.atI, L2.ixN, is2, p_is_in, subV, D.l, D.h, b1]
  · exact odd_of "list" rfl k_li (fun st => by kernel_rfl) (fun st => by kernel_rfl) (by kernel_rfl) (gd2 gn gp) (by simp [PyData.depth, PyData.depthAll]) (by simp [bd, bdA])
  · exact odd_of "tuple" rfl k_ti (fun st => by kernel_rfl) (w _) (by kernel_rfl) (by show (gd (.int n) && true) = true; rw [gn]; rfl) (by simp [PyData.depth, PyData.depthAll]) (by simp [bd, bdA])
  · exact odd_of "tuple" rfl k_ti (fun st => by kernel_rfl) (w _) (by kernel_rfl) (by show (gd (.int n) && _) = true; rw [gn]; rfl) (by simp [PyData.depth, PyData.depthAll]) (by simp [bd, bdA])
  · exact odd_of "NoneType" rfl k_ni (fun st => by kernel_rfl) (fun st => by kernel_rfl) (by kernel_rfl) (by decide) (by decide) (by decide)
  · refine ⟨fun st => by kernel_rfl, .inr ⟨rfl, ?_⟩, by decide, by decide, by decide⟩
    obtain ⟨q, rfl⟩ : ∃ q : Nat, p = q := ⟨p.toNat, by have := D.p0; omega⟩
    have D5 : Dec 5 (q : Int) := ⟨by decide, by decide, D.p0, D.p4⟩
    exact ⟨_, fun st => p_expression_text D5.ok st⟩
  · exact odd_of "str" rfl k_si (fun st => by kernel_rfl) (fun st => by kernel_rfl) (by kernel_rfl) (by decide) (by decide) (by decide)
  · refine odd_of "str" rfl k_si (fun st => by kernel_rfl) (fun st => by kernel_rfl) ?_ ?_ (by simp [PyData.depth]) ?_
    · have a := strI_asc (i := n)
      have e : strI n = S (strI n).cps.toList := (S_tl _).symm
      have so : PyData.strOk (strI n) = true := by
        unfold PyData.strOk
        rw [← Array.all_toList]
        exact List.all_eq_true.mpr fun c hc => decide_eq_true (Nat.lt_trans (a c hc) (by decide))
      have so2 : PyData.strOk ("number" : Str) = true := by kernel_rfl
      simp [SeqAt.shaped, PyData.canLay0, PyData.canLayAll0, PyData.depth, PyData.depthAll, so, so2]
    · exact List.all_eq_true.mpr fun c hc => decide_eq_true (strI_asc c hc)
    · have := int_len D.lt
      show 10 * (strI n).length + 2 ≤ 1000
      omega
end K32
end

section
set_option Elab.async false
set_option linter.all false
set_option maxRecDepth 100000
set_option maxHeartbeats 4000000
/-! K32m16: the plain law, the odd turn. -/
namespace K32
open PySem Mp SX
/-! ### what no fraction is refused with -/
theorem nf_rounded {d x : PyData} (nf : ∀ st, pR r_is_fraction [.p d] st = .ok (.p (.bool false)) st) (st : Store) : pR r_rounded [.p d, .p x] st = .exc 3 d st := by
  refine pR_exc (es := [d, x]) (st1 := []) ?_
  simp [r_rounded, m_rounded, runB, startE, endB, sRet, sSeq, sSet, sIf, sDrop, sNx, sNo, sBrk, sCont, sPar, sAsg, sFor, sWhile, sRaise, sFldS, gSet, gTupD, gCons', gNil', gSubD, fVar, fC, fBin, binS, binV, addV_int, subV, powV, asP, asPs, pds, ofO, ofD, fCmp, cmpS, cmpO, cmpV, ltV, leV, fChain, fAnd, fOr, fNot, fIte, fT, truB, fNeg, fOrS, fCall, fCons, fNil, fStar, fTup, fLst, fNew, newLst, fIdx, idxO, fSli, fPart, sliV, fFld, fldO, lookF, fMeth, fMake, fnV, lenV, absV, minV, intV, listV, fIsi, isiO, tyName, fBm, mtyp, mAppend, mPop, mExtend, itemsD, fCallK, fCallK0, fIter, iterD, fRng1, fLc, tT1, fEnd, putD, itemsO, L2.atI, L2.ixN, nf]
theorem wr_rounded {x : PyData} (ck : ∀ st, pR r_check_places [.p x] st = .exc 2 x st) (st : Store) : pR r_rounded [.p (.tuple [.int 1, .int 3]), .p x] st = .exc 2 x st := by
  refine pR_exc (es := [.tuple [.int 1, .int 3], x]) (st1 := []) ?_
  have f : ∀ st, pR r_is_fraction [.p (.tuple [.int 1, .int 3])] st = .ok (.p (.bool true)) st := fun st => by kernel_rfl
  simp [r_rounded, m_rounded, runB, startE, endB, sRet, sSeq, sSet, sIf, sDrop, sNx, sNo, sBrk, sCont, sPar, sAsg, sFor, sWhile, sRaise, sFldS, gSet, gTupD, gCons', gNil', gSubD, fVar, fC, fBin, binS, binV, addV_int, subV, powV, asP, asPs, pds, ofO, ofD, fCmp, cmpS, cmpO, cmpV, ltV, leV, fChain, fAnd, fOr, fNot, fIte, fT, truB, fNeg, fOrS, fCall, fCons, fNil, fStar, fTup, fLst, fNew, newLst, fIdx, idxO, fSli, fPart, sliV, fFld, fldO, lookF, fMeth, fMake, fnV, lenV, absV, minV, intV, listV, fIsi, isiO, tyName, fBm, mtyp, mAppend, mPop, mExtend, itemsD, fCallK, fCallK0, fIter, iterD, fRng1, fLc, tT1, fEnd, putD, itemsO, L2.atI, L2.ixN, f, ck]
theorem none_answer {x : PyData} (st : Store) : pR r_answer_text [.p .none, .p x] st = .exc 2 .none st := by
  refine pR_exc (es := [.none, x]) (st1 := []) ?_
  have f : ∀ st, pR r_is_whole [.p .none] st = .ok (.p (.bool false)) st := fun st => by kernel_rfl
  simp [r_answer_text, m_answer_text, runB, startE, endB, sRet, sSeq, sSet, sIf, sDrop, sNx, sNo, sBrk, sCont, sPar, sAsg, sFor, sWhile, sRaise, sFldS, gSet, gTupD, gCons', gNil', gSubD, fVar, fC, fBin, binS, binV, addV_int, subV, powV, asP, asPs, pds, ofO, ofD, fCmp, cmpS, cmpO, cmpV, ltV, leV, fChain, fAnd, fOr, fNot, fIte, fT, truB, fNeg, fOrS, fCall, fCons, fNil, fStar, fTup, fLst, fNew, newLst, fIdx, idxO, fSli, fPart, sliV, fFld, fldO, lookF, fMeth, fMake, fnV, lenV, absV, minV, intV, listV, fIsi, isiO, tyName, fBm, mtyp, mAppend, mPop, mExtend, itemsD, fCallK, fCallK0, fIter, iterD, fRng1, fLc, tT1, fEnd, putD, itemsO, L2.atI, L2.ixN, f]
theorem wr_answer {n : Int} {x : PyData} (ck : ∀ st, pR r_check_places [.p x] st = .exc 2 x st) (st : Store) : pR r_answer_text [.p (.int n), .p x] st = .exc 2 x st := by
  refine pR_exc (es := [.int n, x]) (st1 := []) ?_
  simp [r_answer_text, m_answer_text, runB, startE, endB, sRet, sSeq, sSet, sIf, sDrop, sNx, sNo, sBrk, sCont, sPar, sAsg, sFor, sWhile, sRaise, sFldS, gSet, gTupD, gCons', gNil', gSubD, fVar, fC, fBin, binS, binV, addV_int, subV, powV, asP, asPs, pds, ofO, ofD, fCmp, cmpS, cmpO, cmpV, ltV, leV, fChain, fAnd, fOr, fNot, fIte, fT, truB, fNeg, fOrS, fCall, fCons, fNil, fStar, fTup, fLst, fNew, newLst, fIdx, idxO, fSli, fPart, sliV, fFld, fldO, lookF, fMeth, fMake, fnV, lenV, absV, minV, intV, listV, fIsi, isiO, tyName, fBm, mtyp, mAppend, mPop, mExtend, itemsD, fCallK, fCallK0, fIter, iterD, fRng1, fLc, tT1, fEnd, putD, itemsO, L2.atI, L2.ixN, pw_int, ck]
/-- no fraction -/
structure OddF (d : PyData) : Prop where
  nf : ∀ st, pR r_is_fraction [.p d] st = .ok (.p (.bool false)) st
  g : gd d = true
  dp : d.depth ≤ 10
  b : bd d ≤ 1000
/-- no number of places -/
structure OddW (d : PyData) : Prop where
  ck : ∀ st, pR r_check_places [.p d] st = .exc 2 d st
  g : gd d = true
  dp : d.depth ≤ 10
  b : bd d ≤ 1000
theorem rokF {d x : PyData} (o : OddF d) (w : OddW x) : Rok [.list [.str "fraction", d], .list [.str "number", x], .list [.str "fraction", d]] := by
  refine ⟨?_, ?_, ?_⟩
  · show ((gd (.str "fraction") && (gd d && true)) && ((gd (.str "number") && (gd x && true)) && ((gd (.str "fraction") && (gd d && true)) && true))) = true
    rw [o.g, w.g]; rfl
  · have := o.dp
    have := w.dp
    simp [PyData.depth, PyData.depthAll]
    omega
  · have := o.b
    have := w.b
    show ((10 * 8 + 2 + 2 + (bd d + 2 + 0) + 2) + 2 + ((10 * 6 + 2 + 2 + (bd x + 2 + 0) + 2) + 2 + ((10 * 8 + 2 + 2 + (bd d + 2 + 0) + 2) + 2 + 0))) ≤ 100000
    omega
theorem rokW {x : PyData} (w : OddW x) : Rok [.list [.str "number", .none], .list [.str "number", x]] := by
  refine ⟨?_, ?_, ?_⟩
  · show ((gd (.str "number") && (gd .none && true)) && ((gd (.str "number") && (gd x && true)) && true)) = true
    rw [w.g]; rfl
  · have := w.dp
    simp [PyData.depth, PyData.depthAll]
    omega
  · have := w.b
    show ((10 * 6 + 2 + 2 + (4 + 2 + 0) + 2) + 2 + ((10 * 6 + 2 + 2 + (bd x + 2 + 0) + 2) + 2 + 0)) ≤ 100000
    omega
theorem oddw : ∀ d ∈ [PyData.int 10, .int (-1), .none, .bool true], OddW d := by
  intro d hd
  simp only [List.mem_cons, List.not_mem_nil, or_false] at hd
  rcases hd with rfl | rfl | rfl | rfl <;> exact ⟨fun st => by kernel_rfl, by decide, by decide, by decide⟩
theorem oddf : ∀ d ∈ [PyData.tuple [.int 2, .int 4], .tuple [.int 1, .int 0], .tuple [.int 1, .int (-2)], .tuple [.int 0, .int 2], .tuple [.bool true, .int 1], .list [.int 1, .int 2], .tuple [.int 1], .none, .tuple [.int 1, .int 2, .int 3], .str "1"], OddF d := by
  intro d hd
  simp only [List.mem_cons, List.not_mem_nil, or_false] at hd
  rcases hd with rfl | rfl | rfl | rfl | rfl | rfl | rfl | rfl | rfl | rfl <;> exact ⟨fun st => by kernel_rfl, by decide, by decide, by decide⟩
theorem ob_body {k : Nat} {n p : Int} {l : D} {d : PyData} (o : OddF d) (e5 e6 : Option D) (st : Store) (P : Pail k st) : ∃ e5' e6' st', obB [some (.obj k), some (.p (.int n)), some (.p (.int p)), some l, some (.p d), e5, e6] st = .ok (.nx [some (.obj k), some (.p (.int n)), some (.p (.int p)), some l, some (.p d), e5', e6']) st' ∧ Pail k st' ∧ Gr k st st' := by
  obtain ⟨x, s1, e1, hx, P1, G1⟩ := e_any (xs := [.int 10, .int (-1), .none, .bool true]) P (by simp) (by simp)
  have w := oddw x hx
  have f1 := fun y st => nf_rounded (x := y) o.nf st
  have f2 := fun st => wr_rounded w.ck st
  have f3 := fun st => none_answer (x := x) st
  have f4 := fun st => wr_answer (n := n) w.ck st
  have rk1 := rokF o w
  have rk2 := rokW w
  have q1 : ob1 [some (.obj k), some (.p (.int n)), some (.p (.int p)), some l, some (.p d), e5, e6] st = .ok (.nx [some (.obj k), some (.p (.int n)), some (.p (.int p)), some l, some (.p d), e5, some (.p x)]) s1 := by
    simp [ob1, runB, startE, endB, sRet, sSeq, sSet, sIf, sDrop, sNx, sNo, sBrk, sCont, sPar, sAsg, sFor, sWhile, sRaise, sFldS, gSet, gTupD, gCons', gNil', gSubD, fVar, fC, fBin, binS, binV, addV_int, subV, powV, asP, asPs, pds, ofO, ofD, fCmp, cmpS, cmpO, cmpV, ltV, leV, fChain, fAnd, fOr, fNot, fIte, fT, truB, fNeg, fOrS, fCall, fCons, fNil, fStar, fTup, fLst, fNew, newLst, fIdx, idxO, fSli, fPart, sliV, fFld, fldO, lookF, fMeth, fMake, fnV, lenV, absV, minV, intV, listV, fIsi, isiO, tyName, fBm, mtyp, mAppend, mPop, mExtend, itemsD, fCallK, fCallK0, fIter, iterD, fRng1, fLc, tT1, fEnd, putD, itemsO, L2.atI, L2.ixN, e1, szl]
  have q2 : ob2 [some (.obj k), some (.p (.int n)), some (.p (.int p)), some l, some (.p d), e5, some (.p x)] s1 = .ok (.nx [some (.obj k), some (.p (.int n)), some (.p (.int p)), some l, some (.p d), some (.obj s1.length), some (.p x)]) (s1 ++ [.lst [.p (.list [.str "fraction", d]), .p (.int 0), .p (.int 0)]]) := by
    simp [ob2, fEnd, runB, startE, endB, sRet, sSeq, sSet, sIf, sDrop, sNx, sNo, sBrk, sCont, sPar, sAsg, sFor, sWhile, sRaise, sFldS, gSet, gTupD, gCons', gNil', gSubD, fVar, fC, fBin, binS, binV, addV_int, subV, powV, asP, asPs, pds, ofO, ofD, fCmp, cmpS, cmpO, cmpV, ltV, leV, fChain, fAnd, fOr, fNot, fIte, fT, truB, fNeg, fOrS, fCall, fCons, fNil, fStar, fTup, fLst, fNew, newLst, fIdx, idxO, fSli, fPart, sliV, fFld, fldO, lookF, fMeth, fMake, fnV, lenV, absV, minV, intV, listV, fIsi, isiO, tyName, fBm, mtyp, mAppend, mPop, mExtend, itemsD, fCallK, fCallK0, fIter, iterD, fRng1, fLc, tT1, fEnd, putD, itemsO, L2.atI, L2.ixN, f1, et, szl]
  have q3 : ob3 [some (.obj k), some (.p (.int n)), some (.p (.int p)), some l, some (.p d), some (.obj s1.length), some (.p x)] (s1 ++ [.lst [.p (.list [.str "fraction", d]), .p (.int 0), .p (.int 0)]]) = .ok (.nx [some (.obj k), some (.p (.int n)), some (.p (.int p)), some l, some (.p d), some (.obj s1.length), some (.p x)]) (s1 ++ [.lst [.p (.list [.str "fraction", d]), .p (.list [.str "number", x]), .p (.int 0)]]) := by
    simp [ob3, fEnd, runB, startE, endB, sRet, sSeq, sSet, sIf, sDrop, sNx, sNo, sBrk, sCont, sPar, sAsg, sFor, sWhile, sRaise, sFldS, gSet, gTupD, gCons', gNil', gSubD, fVar, fC, fBin, binS, binV, addV_int, subV, powV, asP, asPs, pds, ofO, ofD, fCmp, cmpS, cmpO, cmpV, ltV, leV, fChain, fAnd, fOr, fNot, fIte, fT, truB, fNeg, fOrS, fCall, fCons, fNil, fStar, fTup, fLst, fNew, newLst, fIdx, idxO, fSli, fPart, sliV, fFld, fldO, lookF, fMeth, fMake, fnV, lenV, absV, minV, intV, listV, fIsi, isiO, tyName, fBm, mtyp, mAppend, mPop, mExtend, itemsD, fCallK, fCallK0, fIter, iterD, fRng1, fLc, tT1, fEnd, putD, itemsO, L2.atI, L2.ixN, pu_pR, f2, et, szl]
  have q4 : ob4 [some (.obj k), some (.p (.int n)), some (.p (.int p)), some l, some (.p d), some (.obj s1.length), some (.p x)] (s1 ++ [.lst [.p (.list [.str "fraction", d]), .p (.list [.str "number", x]), .p (.int 0)]]) = .ok (.nx [some (.obj k), some (.p (.int n)), some (.p (.int p)), some l, some (.p d), some (.obj s1.length), some (.p x)]) (s1 ++ [.lst [.p (.list [.str "fraction", d]), .p (.list [.str "number", x]), .p (.list [.str "fraction", d])]]) := by
    simp [ob4, fEnd, runB, startE, endB, sRet, sSeq, sSet, sIf, sDrop, sNx, sNo, sBrk, sCont, sPar, sAsg, sFor, sWhile, sRaise, sFldS, gSet, gTupD, gCons', gNil', gSubD, fVar, fC, fBin, binS, binV, addV_int, subV, powV, asP, asPs, pds, ofO, ofD, fCmp, cmpS, cmpO, cmpV, ltV, leV, fChain, fAnd, fOr, fNot, fIte, fT, truB, fNeg, fOrS, fCall, fCons, fNil, fStar, fTup, fLst, fNew, newLst, fIdx, idxO, fSli, fPart, sliV, fFld, fldO, lookF, fMeth, fMake, fnV, lenV, absV, minV, intV, listV, fIsi, isiO, tyName, fBm, mtyp, mAppend, mPop, mExtend, itemsD, fCallK, fCallK0, fIter, iterD, fRng1, fLc, tT1, fEnd, putD, itemsO, L2.atI, L2.ixN, pu_pR, f1, et, szl]
  have same : pR r__law_same [.obj s1.length, .p (.list [.list [.str "fraction", d], .list [.str "number", x], .list [.str "fraction", d]])] (s1 ++ [.lst [.p (.list [.str "fraction", d]), .p (.list [.str "number", x]), .p (.list [.str "fraction", d])]]) = .ok (.p (.bool true)) (s1 ++ [.lst [.p (.list [.str "fraction", d]), .p (.list [.str "number", x]), .p (.list [.str "fraction", d])]]) := by
    refine p_sameO rk1 ?_
    simp [asP, pds]
  generalize hc : Cell.lst [.p (.list [.str "fraction", d]), .p (.list [.str "number", x]), .p (.list [.str "fraction", d])] = c at *
  have q5 : ob5 [some (.obj k), some (.p (.int n)), some (.p (.int p)), some l, some (.p d), some (.obj s1.length), some (.p x)] (s1 ++ [c]) = .ok (.nx [some (.obj k), some (.p (.int n)), some (.p (.int p)), some l, some (.p d), some (.obj s1.length), some (.p x)]) (s1 ++ [c]) := by
    simp [ob5, runB, startE, endB, sRet, sSeq, sSet, sIf, sDrop, sNx, sNo, sBrk, sCont, sPar, sAsg, sFor, sWhile, sRaise, sFldS, gSet, gTupD, gCons', gNil', gSubD, fVar, fC, fBin, binS, binV, addV_int, subV, powV, asP, asPs, pds, ofO, ofD, fCmp, cmpS, cmpO, cmpV, ltV, leV, fChain, fAnd, fOr, fNot, fIte, fT, truB, fNeg, fOrS, fCall, fCons, fNil, fStar, fTup, fLst, fNew, newLst, fIdx, idxO, fSli, fPart, sliV, fFld, fldO, lookF, fMeth, fMake, fnV, lenV, absV, minV, intV, listV, fIsi, isiO, tyName, fBm, mtyp, mAppend, mPop, mExtend, itemsD, fCallK, fCallK0, fIter, iterD, fRng1, fLc, tT1, fEnd, putD, itemsO, L2.atI, L2.ixN, same, szl]
  have P2 : Pail k (s1 ++ [c]) := P1.app
  have G2 : Gr k st (s1 ++ [c]) := G1.trans Gr.app
  generalize s1 ++ [c] = s2 at *
  have q6 : ob6 [some (.obj k), some (.p (.int n)), some (.p (.int p)), some l, some (.p d), some (.obj s1.length), some (.p x)] s2 = .ok (.nx [some (.obj k), some (.p (.int n)), some (.p (.int p)), some l, some (.p d), some (.obj s2.length), some (.p x)]) (s2 ++ [.lst [.p (.list [.str "number", .none]), .p (.int 0)]]) := by
    simp [ob6, fEnd, runB, startE, endB, sRet, sSeq, sSet, sIf, sDrop, sNx, sNo, sBrk, sCont, sPar, sAsg, sFor, sWhile, sRaise, sFldS, gSet, gTupD, gCons', gNil', gSubD, fVar, fC, fBin, binS, binV, addV_int, subV, powV, asP, asPs, pds, ofO, ofD, fCmp, cmpS, cmpO, cmpV, ltV, leV, fChain, fAnd, fOr, fNot, fIte, fT, truB, fNeg, fOrS, fCall, fCons, fNil, fStar, fTup, fLst, fNew, newLst, fIdx, idxO, fSli, fPart, sliV, fFld, fldO, lookF, fMeth, fMake, fnV, lenV, absV, minV, intV, listV, fIsi, isiO, tyName, fBm, mtyp, mAppend, mPop, mExtend, itemsD, fCallK, fCallK0, fIter, iterD, fRng1, fLc, tT1, fEnd, putD, itemsO, L2.atI, L2.ixN, pu_pR, f3, et, szl]
  have q7 : ob7 [some (.obj k), some (.p (.int n)), some (.p (.int p)), some l, some (.p d), some (.obj s2.length), some (.p x)] (s2 ++ [.lst [.p (.list [.str "number", .none]), .p (.int 0)]]) = .ok (.nx [some (.obj k), some (.p (.int n)), some (.p (.int p)), some l, some (.p d), some (.obj s2.length), some (.p x)]) (s2 ++ [.lst [.p (.list [.str "number", .none]), .p (.list [.str "number", x])]]) := by
    simp [ob7, fEnd, runB, startE, endB, sRet, sSeq, sSet, sIf, sDrop, sNx, sNo, sBrk, sCont, sPar, sAsg, sFor, sWhile, sRaise, sFldS, gSet, gTupD, gCons', gNil', gSubD, fVar, fC, fBin, binS, binV, addV_int, subV, powV, asP, asPs, pds, ofO, ofD, fCmp, cmpS, cmpO, cmpV, ltV, leV, fChain, fAnd, fOr, fNot, fIte, fT, truB, fNeg, fOrS, fCall, fCons, fNil, fStar, fTup, fLst, fNew, newLst, fIdx, idxO, fSli, fPart, sliV, fFld, fldO, lookF, fMeth, fMake, fnV, lenV, absV, minV, intV, listV, fIsi, isiO, tyName, fBm, mtyp, mAppend, mPop, mExtend, itemsD, fCallK, fCallK0, fIter, iterD, fRng1, fLc, tT1, fEnd, putD, itemsO, L2.atI, L2.ixN, f4, et, szl]
  have same2 : pR r__law_same [.obj s2.length, .p (.list [.list [.str "number", .none], .list [.str "number", x]])] (s2 ++ [.lst [.p (.list [.str "number", .none]), .p (.list [.str "number", x])]]) = .ok (.p (.bool true)) (s2 ++ [.lst [.p (.list [.str "number", .none]), .p (.list [.str "number", x])]]) := by
    refine p_sameO rk2 ?_
    simp [asP, pds]
  generalize hc2 : Cell.lst [.p (.list [.str "number", .none]), .p (.list [.str "number", x])] = c2 at *
  have q8 : ob8 [some (.obj k), some (.p (.int n)), some (.p (.int p)), some l, some (.p d), some (.obj s2.length), some (.p x)] (s2 ++ [c2]) = .ok (.nx [some (.obj k), some (.p (.int n)), some (.p (.int p)), some l, some (.p d), some (.obj s2.length), some (.p x)]) (s2 ++ [c2]) := by
    simp [ob8, runB, startE, endB, sRet, sSeq, sSet, sIf, sDrop, sNx, sNo, sBrk, sCont, sPar, sAsg, sFor, sWhile, sRaise, sFldS, gSet, gTupD, gCons', gNil', gSubD, fVar, fC, fBin, binS, binV, addV_int, subV, powV, asP, asPs, pds, ofO, ofD, fCmp, cmpS, cmpO, cmpV, ltV, leV, fChain, fAnd, fOr, fNot, fIte, fT, truB, fNeg, fOrS, fCall, fCons, fNil, fStar, fTup, fLst, fNew, newLst, fIdx, idxO, fSli, fPart, sliV, fFld, fldO, lookF, fMeth, fMake, fnV, lenV, absV, minV, intV, listV, fIsi, isiO, tyName, fBm, mtyp, mAppend, mPop, mExtend, itemsD, fCallK, fCallK0, fIter, iterD, fRng1, fLc, tT1, fEnd, putD, itemsO, L2.atI, L2.ixN, same2, szl]
  exact ⟨_, _, s2 ++ [c2], (sSeq_nx q1).trans ((sSeq_nx q2).trans ((sSeq_nx q3).trans ((sSeq_nx q4).trans ((sSeq_nx q5).trans ((sSeq_nx q6).trans ((sSeq_nx q7).trans q8)))))), P2.app, G2.trans Gr.app⟩
theorem ob_loop {k : Nat} {n p : Int} {l : D} : ∀ (ds : List PyData), (∀ d ∈ ds, OddF d) → ∀ (e4 e5 e6 : Option D) (st : Store), Pail k st → ∃ e4' e5' e6' st', loopF (gSet 4) obB (ds.map .p) [some (.obj k), some (.p (.int n)), some (.p (.int p)), some l, e4, e5, e6] st = .ok (.nx [some (.obj k), some (.p (.int n)), some (.p (.int p)), some l, e4', e5', e6']) st' ∧ Pail k st' ∧ Gr k st st' := by
  intro ds
  induction ds with
  | nil => exact fun _ e4 e5 e6 st P => ⟨e4, e5, e6, st, by simp [loopF], P, Gr.refl⟩
  | cons d ds ih =>
    intro h e4 e5 e6 st P
    obtain ⟨e5', e6', s1, b, P1, G1⟩ := ob_body (n := n) (p := p) (l := l) (h d (by simp)) e5 e6 st P
    obtain ⟨a4, a5, a6, s2, r, P2, G2⟩ := ih (fun x hx => h x (by simp [hx])) (some (.p d)) e5' e6' s1 P1
    refine ⟨a4, a5, a6, s2, ?_, P2, G1.trans G2⟩
    rw [List.map_cons, loopF]
    simp only [gSet, List.set_cons_succ, List.set_cons_zero]
    rw [b]
    simp only [Mp.R.bind]
    rw [r]
theorem addV_66 (a b c d e f g h i j k l : PyData) : addV (.list [a, b, c, d, e, f]) (.list [g, h, i, j, k, l]) = some (.list [a, b, c, d, e, f, g, h, i, j, k, l]) := by kernel_rfl
theorem addV_121 (a b c d e f g h i j k l m : PyData) : addV (.list [a, b, c, d, e, f, g, h, i, j, k, l]) (.list [m]) = some (.list [a, b, c, d, e, f, g, h, i, j, k, l, m]) := by kernel_rfl
theorem e_odd {k : Nat} {st : Store} (h : Pail k st) : ∃ st', r__law_odd_right [.obj k] st = .ok (.p (.bool true)) st' ∧ Pail k st' ∧ Gr k st st' := by
  obtain ⟨n, p, s1, e1, D, P1, G1⟩ := e_decimal h
  have od := odds D
  have sv := strV_int D.lt
  have a1 := addV_66
  have a2 := addV_121
  have q1 : od1 [some (.obj k), none, none, none, none, none, none] st = .ok (.nx [some (.obj k), some (.p (.int n)), some (.p (.int p)), none, none, none, none]) s1 := by
    simp [od1, runB, startE, endB, sRet, sSeq, sSet, sIf, sDrop, sNx, sNo, sBrk, sCont, sPar, sAsg, sFor, sWhile, sRaise, sFldS, gSet, gTupD, gCons', gNil', gSubD, fVar, fC, fBin, binS, binV, addV_int, subV, powV, asP, asPs, pds, ofO, ofD, fCmp, cmpS, cmpO, cmpV, ltV, leV, fChain, fAnd, fOr, fNot, fIte, fT, truB, fNeg, fOrS, fCall, fCons, fNil, fStar, fTup, fLst, fNew, newLst, fIdx, idxO, fSli, fPart, sliV, fFld, fldO, lookF, fMeth, fMake, fnV, lenV, absV, minV, intV, listV, fIsi, isiO, tyName, fBm, mtyp, mAppend, mPop, mExtend, itemsD, fCallK, fCallK0, fIter, iterD, fRng1, fLc, tT1, fEnd, putD, itemsO, L2.atI, L2.ixN, e1]
  have q2 : od2 [some (.obj k), some (.p (.int n)), some (.p (.int p)), none, none, none, none] s1 = .ok (.nx [some (.obj k), some (.p (.int n)), some (.p (.int p)), some (.p (.list [.tuple [.int 1000000, .int 0], .tuple [.int (-1000000), .int p], .tuple [.int n, .int 5], .tuple [.int n, .int (-1)], .tuple [.bool true, .int 0], .tuple [.int n, .bool true]])), none, none, none]) s1 := by
    simp [od2, runB, startE, endB, sRet, sSeq, sSet, sIf, sDrop, sNx, sNo, sBrk, sCont, sPar, sAsg, sFor, sWhile, sRaise, sFldS, gSet, gTupD, gCons', gNil', gSubD, fVar, fC, fBin, binS, binV, addV_int, subV, powV, asP, asPs, pds, ofO, ofD, fCmp, cmpS, cmpO, cmpV, ltV, leV, fChain, fAnd, fOr, fNot, fIte, fT, truB, fNeg, fOrS, fCall, fCons, fNil, fStar, fTup, fLst, fNew, newLst, fIdx, idxO, fSli, fPart, sliV, fFld, fldO, lookF, fMeth, fMake, fnV, lenV, absV, minV, intV, listV, fIsi, isiO, tyName, fBm, mtyp, mAppend, mPop, mExtend, itemsD, fCallK, fCallK0, fIter, iterD, fRng1, fLc, tT1, fEnd, putD, itemsO, L2.atI, L2.ixN, szl]
  have q3 : od3 [some (.obj k), some (.p (.int n)), some (.p (.int p)), some (.p (.list [.tuple [.int 1000000, .int 0], .tuple [.int (-1000000), .int p], .tuple [.int n, .int 5], .tuple [.int n, .int (-1)], .tuple [.bool true, .int 0], .tuple [.int n, .bool true]])), none, none, none] s1 = .ok (.nx [some (.obj k), some (.p (.int n)), some (.p (.int p)), some (.p (.list [.tuple [.int 1000000, .int 0], .tuple [.int (-1000000), .int p], .tuple [.int n, .int 5], .tuple [.int n, .int (-1)], .tuple [.bool true, .int 0], .tuple [.int n, .bool true], .list [.int n, .int p], .tuple [.int n], .tuple [.int n, .int 0, .int 0], .none, .int 5, .str "5"])), none, none, none]) s1 := by
    simp [od3, runB, startE, endB, sRet, sSeq, sSet, sIf, sDrop, sNx, sNo, sBrk, sCont, sPar, sAsg, sFor, sWhile, sRaise, sFldS, gSet, gTupD, gCons', gNil', gSubD, fVar, fC, fBin, binS, binV, addV_int, subV, powV, asP, asPs, pds, ofO, ofD, fCmp, cmpS, cmpO, cmpV, ltV, leV, fChain, fAnd, fOr, fNot, fIte, fT, truB, fNeg, fOrS, fCall, fCons, fNil, fStar, fTup, fLst, fNew, newLst, fIdx, idxO, fSli, fPart, sliV, fFld, fldO, lookF, fMeth, fMake, fnV, lenV, absV, minV, intV, listV, fIsi, isiO, tyName, fBm, mtyp, mAppend, mPop, mExtend, itemsD, fCallK, fCallK0, fIter, iterD, fRng1, fLc, tT1, fEnd, putD, itemsO, L2.atI, L2.ixN, a1, szl]
  have i4 : oaI [some (.obj k), some (.p (.int n)), some (.p (.int p)), some (.p (.list [.tuple [.int 1000000, .int 0], .tuple [.int (-1000000), .int p], .tuple [.int n, .int 5], .tuple [.int n, .int (-1)], .tuple [.bool true, .int 0], .tuple [.int n, .bool true], .list [.int n, .int p], .tuple [.int n], .tuple [.int n, .int 0, .int 0], .none, .int 5, .str "5"])), none, none, none] s1 = .ok ([PyData.tuple [.int 1000000, .int 0], .tuple [.int (-1000000), .int p], .tuple [.int n, .int 5], .tuple [.int n, .int (-1)], .tuple [.bool true, .int 0], .tuple [.int n, .bool true], .list [.int n, .int p], .tuple [.int n], .tuple [.int n, .int 0, .int 0], .none, .int 5, .str "5", .str (strI n)].map .p) s1 := by
    simp [oaI, runB, startE, endB, sRet, sSeq, sSet, sIf, sDrop, sNx, sNo, sBrk, sCont, sPar, sAsg, sFor, sWhile, sRaise, sFldS, gSet, gTupD, gCons', gNil', gSubD, fVar, fC, fBin, binS, binV, addV_int, subV, powV, asP, asPs, pds, ofO, ofD, fCmp, cmpS, cmpO, cmpV, ltV, leV, fChain, fAnd, fOr, fNot, fIte, fT, truB, fNeg, fOrS, fCall, fCons, fNil, fStar, fTup, fLst, fNew, newLst, fIdx, idxO, fSli, fPart, sliV, fFld, fldO, lookF, fMeth, fMake, fnV, lenV, absV, minV, intV, listV, fIsi, isiO, tyName, fBm, mtyp, mAppend, mPop, mExtend, itemsD, fCallK, fCallK0, fIter, iterD, fRng1, fLc, tT1, fEnd, putD, itemsO, L2.atI, L2.ixN, a2, sv, szl]
  generalize (PyData.list [.tuple [.int 1000000, .int 0], .tuple [.int (-1000000), .int p], .tuple [.int n, .int 5], .tuple [.int n, .int (-1)], .tuple [.bool true, .int 0], .tuple [.int n, .bool true], .list [.int n, .int p], .tuple [.int n], .tuple [.int n, .int 0, .int 0], .none, .int 5, .str "5"]) = l12 at *
  obtain ⟨e4, e5, xs, q4⟩ := oa_loop (k := k) (n := n) (l := .p l12) _ od none none none s1
  generalize [PyData.tuple [.int 1000000, .int 0], .tuple [.int (-1000000), .int p], .tuple [.int n, .int 5], .tuple [.int n, .int (-1)], .tuple [.bool true, .int 0], .tuple [.int n, .bool true], .list [.int n, .int p], .tuple [.int n], .tuple [.int n, .int 0, .int 0], .none, .int 5, .str "5", .str (strI n)].map Mp.D.p = ds at *
  have q4' : sFor (gSet 4) oaI oaB [some (.obj k), some (.p (.int n)), some (.p (.int p)), some (.p l12), none, none, none] s1 = .ok (.nx [some (.obj k), some (.p (.int n)), some (.p (.int p)), some (.p l12), e4, e5, none]) (s1 ++ xs) := by
    unfold sFor
    rw [i4]
    exact q4
  have P2 : Pail k (s1 ++ xs) := P1.app
  have G2 : Gr k st (s1 ++ xs) := G1.trans Gr.app
  generalize s1 ++ xs = s2 at *
  have i5 : obI [some (.obj k), some (.p (.int n)), some (.p (.int p)), some (.p l12), e4, e5, none] s2 = .ok ([PyData.tuple [.int 2, .int 4], .tuple [.int 1, .int 0], .tuple [.int 1, .int (-2)], .tuple [.int 0, .int 2], .tuple [.bool true, .int 1], .list [.int 1, .int 2], .tuple [.int 1], .none, .tuple [.int 1, .int 2, .int 3], .str "1"].map .p) s2 := by
    simp [obI, runB, startE, endB, sRet, sSeq, sSet, sIf, sDrop, sNx, sNo, sBrk, sCont, sPar, sAsg, sFor, sWhile, sRaise, sFldS, gSet, gTupD, gCons', gNil', gSubD, fVar, fC, fBin, binS, binV, addV_int, subV, powV, asP, asPs, pds, ofO, ofD, fCmp, cmpS, cmpO, cmpV, ltV, leV, fChain, fAnd, fOr, fNot, fIte, fT, truB, fNeg, fOrS, fCall, fCons, fNil, fStar, fTup, fLst, fNew, newLst, fIdx, idxO, fSli, fPart, sliV, fFld, fldO, lookF, fMeth, fMake, fnV, lenV, absV, minV, intV, listV, fIsi, isiO, tyName, fBm, mtyp, mAppend, mPop, mExtend, itemsD, fCallK, fCallK0, fIter, iterD, fRng1, fLc, tT1, fEnd, putD, itemsO, L2.atI, L2.ixN, szl]
  obtain ⟨a4, a5, a6, s3, q5, P3, G3⟩ := ob_loop (n := n) (p := p) (l := .p l12) _ oddf e4 e5 none s2 P2
  have q5' : sFor (gSet 4) obI obB [some (.obj k), some (.p (.int n)), some (.p (.int p)), some (.p l12), e4, e5, none] s2 = .ok (.nx [some (.obj k), some (.p (.int n)), some (.p (.int p)), some (.p l12), a4, a5, a6]) s3 := by
    unfold sFor
    rw [i5]
    exact q5
  refine ⟨s3, ?_, P3, G2.trans G3⟩
  have run : m__law_odd_right [some (.obj k), none, none, none, none, none, none] st = .ok (.ret (.p (.bool true))) s3 := by
    rw [od_eq]
    exact (sSeq_nx q1).trans ((sSeq_nx q2).trans ((sSeq_nx q3).trans ((sSeq_nx q4').trans ((sSeq_nx q5').trans rfl))))
  show runB 1 7 m__law_odd_right _ _ = _
  unfold runB startE
  simp only [List.length_cons, List.length_nil, List.map_cons, List.map_nil, if_true]
  show endB (m__law_odd_right [some (.obj k), none, none, none, none, none, none] st) = _
  rw [run]
  rfl
end K32
end

section
set_option Elab.async false
set_option linter.all false
set_option maxRecDepth 100000
set_option maxHeartbeats 4000000
/-! K32m17: the plain law, the whole. -/
namespace K32
open PySem Mp SX
/-! ### the pail -/
abbrev lp1 : SM := sSet 2 (fBin .add (fC (.int 4732416)) (fBin .mul (fC (.int 12199)) (fVar 1)))
abbrev lpI : Mp.Env → Store → R (List D) := (fIter (fSli (fVar 0) none (some (fC (.int 12)))))
abbrev lpB : SM := (sSet 2 (fBin .mod (fCall (fnV intV) (fCons (fBin .add (fBin .add (fBin .mul (fVar 2) (fC (.int 65029))) (fBin .mul (fBin .mod (fCall (fnV intV) (fCons (fVar 3) fNil)) (fC (.int 2147483489))) (fC (.int 13)))) (fC (.int 7))) fNil)) (fC (.int 2147483489))))
abbrev lp3 : SM := sSet 4 (fIte (fCmp .lt (fVar 1) (fCall (fnV lenV) (fCons (fVar 0) fNil))) (fCall (fnV intV) (fCons (fIdx (fVar 0) (fVar 1)) fNil)) (fC (.int 0)))
abbrev lp4 : SM := sSet 2 (fBin .mod (fCall (fnV intV) (fCons (fBin .add (fBin .add (fBin .mul (fVar 2) (fC (.int 89))) (fBin .mul (fBin .mod (fVar 4) (fC (.int 2147483489))) (fC (.int 75017)))) (fC (.int 11))) fNil)) (fC (.int 2147483489)))
abbrev lp5 : SM := sRet (fNew (fCons (fIte (fOr (fCmp .lt (fVar 4) (fC (.int 0))) (fCmp .ge (fVar 4) (fBin .pow (fC (.int 10)) (fC (.int 15))))) (fCall (fnV absV) (fCons (fVar 4) fNil)) (fC (.int 0))) (fCons (fVar 2) (fCons (fC (.int 0)) fNil))))
theorem lp_eq : m__law_pail = sSeq lp1 (sSeq (sFor (gSet 3) lpI lpB) (sSeq lp3 (sSeq lp4 lp5))) := rfl
theorem lp_loop {x0 x1 : Option D} : ∀ (ns : List Int) (a : Int) (e3 e4 : Option D) (st : Store), ∃ a' e3', loopF (gSet 3) lpB (ns.map fun z => .p (.int z)) [x0, x1, some (.p (.int a)), e3, e4] st = .ok (.nx [x0, x1, some (.p (.int a')), e3', e4]) st := by
  intro ns
  induction ns with
  | nil => exact fun a e3 e4 st => ⟨a, e3, by simp [loopF]⟩
  | cons z ns ih =>
    intro a e3 e4 st
    obtain ⟨a', e3', r⟩ := ih ((a * 65029 + z % 2147483489 * 13 + 7) % 2147483489) (some (.p (.int z))) e4 st
    refine ⟨a', e3', ?_⟩
    have m1 := mulV_r a 65029 (by decide)
    have o1 := modV_pos z 2147483489 (by decide)
    have m2 := mulV_r (z % 2147483489) 13 (by decide)
    have o2 := modV_pos (a * 65029 + z % 2147483489 * 13 + 7) 2147483489 (by decide)
    have b : lpB [x0, x1, some (.p (.int a)), some (.p (.int z)), e4] st = .ok (.nx [x0, x1, some (.p (.int ((a * 65029 + z % 2147483489 * 13 + 7) % 2147483489))), some (.p (.int z)), e4]) st := by
      simp [lpB, runB, startE, endB, sRet, sSeq, sSet, sIf, sDrop, sNx, sNo, sBrk, sCont, sPar, sAsg, sFor, sWhile, sRaise, sFldS, gSet, gTupD, gCons', gNil', gSubD, fVar, fC, fBin, binS, binV, addV_int, subV, powV, asP, asPs, pds, ofO, ofD, fCmp, cmpS, cmpO, cmpV, ltV, leV, fChain, fAnd, fOr, fNot, fIte, fT, truB, fNeg, fOrS, fCall, fCons, fNil, fStar, fTup, fLst, fNew, newLst, fIdx, idxO, fSli, fPart, sliV, fFld, fldO, lookF, fMeth, fMake, fnV, lenV, absV, minV, intV, listV, fIsi, isiO, tyName, fBm, mtyp, mAppend, mPop, mExtend, itemsD, fCallK, fCallK0, fIter, iterD, fRng1, fLc, tT1, fEnd, putD, itemsO, L2.atI, L2.ixN, m1, o1, m2, o2]
    rw [List.map_cons, loopF]
    simp only [gSet, List.set_cons_succ, List.set_cons_zero]
    rw [b]
    simp only [Mp.R.bind]
    rw [r]
theorem e_pail (ns : List Int) (t : Int) (t0 : 0 ≤ t) (st : Store) : ∃ a b c : Int, r__law_pail [.p (.list (ns.map .int)), .p (.int t)] st = .ok (.obj st.length) (st ++ [.lst [.p (.int a), .p (.int b), .p (.int c)]]) := by
  generalize hl : PyData.list (ns.map .int) = l
  have m1 := mulV_l 12199 t (by decide)
  have q1 : lp1 [some (.p l), some (.p (.int t)), none, none, none] st = .ok (.nx [some (.p l), some (.p (.int t)), some (.p (.int (4732416 + 12199 * t))), none, none]) st := by
    simp [lp1, runB, startE, endB, sRet, sSeq, sSet, sIf, sDrop, sNx, sNo, sBrk, sCont, sPar, sAsg, sFor, sWhile, sRaise, sFldS, gSet, gTupD, gCons', gNil', gSubD, fVar, fC, fBin, binS, binV, addV_int, subV, powV, asP, asPs, pds, ofO, ofD, fCmp, cmpS, cmpO, cmpV, ltV, leV, fChain, fAnd, fOr, fNot, fIte, fT, truB, fNeg, fOrS, fCall, fCons, fNil, fStar, fTup, fLst, fNew, newLst, fIdx, idxO, fSli, fPart, sliV, fFld, fldO, lookF, fMeth, fMake, fnV, lenV, absV, minV, intV, listV, fIsi, isiO, tyName, fBm, mtyp, mAppend, mPop, mExtend, itemsD, fCallK, fCallK0, fIter, iterD, fRng1, fLc, tT1, fEnd, putD, itemsO, L2.atI, L2.ixN, m1]
  have i2 : lpI [some (.p l), some (.p (.int t)), some (.p (.int (4732416 + 12199 * t))), none, none] st = .ok ((cutD ns none (some 12)).map fun z => .p (.int z)) st := by
    have c : sliV none (some 12) l = some (.list ((cutD ns none (some 12)).map .int)) := by
      rw [← hl]
      simp [sliV, cutD, List.map_drop, List.map_take]
    simp only [lpI, fIter, fSli, fPart, fVar, fC, Mp.R.bind, List.getElem?_cons_zero, asP, c, ofO, iterD, List.map_map]
    rfl
  obtain ⟨a2, e3, q2⟩ := lp_loop (x0 := some (.p l)) (x1 := some (.p (.int t))) (cutD ns none (some 12)) (4732416 + 12199 * t) none none st
  have q2' : sFor (gSet 3) lpI lpB [some (.p l), some (.p (.int t)), some (.p (.int (4732416 + 12199 * t))), none, none] st = .ok (.nx [some (.p l), some (.p (.int t)), some (.p (.int a2)), e3, none]) st := by
    unfold sFor
    rw [i2]
    exact q2
  have q3 : ∃ own : Int, lp3 [some (.p l), some (.p (.int t)), some (.p (.int a2)), e3, none] st = .ok (.nx [some (.p l), some (.p (.int t)), some (.p (.int a2)), e3, some (.p (.int own))]) st := by
    have ln : lenV [l] = some (.int ns.length) := by rw [← hl]; simp [lenV]
    by_cases h : t < (ns.length : Int)
    · obtain ⟨w, rfl⟩ : ∃ w : Nat, t = w := ⟨t.toNat, by omega⟩
      have hw : w < ns.length := by omega
      have ix : ∀ st, idxO st (.p l) (.p (.int w)) = some (.p (.int ns[w])) := fun st => by rw [← hl]; simp [idxO, L2.atI, L2.ixN, hw]
      refine ⟨ns[w], ?_⟩
      have hlt : ltV (.int (w : Int)) (.int (ns.length : Int)) = some true := by simp [ltV, hw]
      generalize ((w : Nat) : Int) = wi at *
      simp only [lp3, sSet, fIte, fCmp, fCall, fCons, fNil, fVar, fC, fnV, asPs, asP, Option.map, Mp.R.bind, List.getElem?_cons_zero, List.getElem?_cons_succ, ln, ofO, cmpS, cmpO, cmpV, hlt, truB, fIdx, ix, ofD, intV]
      rfl
    · refine ⟨0, ?_⟩
      have hlt : ltV (.int t) (.int (ns.length : Int)) = some false := by simp [ltV]; omega
      simp only [lp3, sSet, fIte, fCmp, fCall, fCons, fNil, fVar, fC, fnV, asPs, asP, Option.map, Mp.R.bind, List.getElem?_cons_zero, List.getElem?_cons_succ, ln, ofO, cmpS, cmpO, cmpV, hlt, truB]
      rfl
  obtain ⟨own, q3⟩ := q3
  obtain ⟨b, hb⟩ : ∃ b : Int, b = (a2 * 89 + own % 2147483489 * 75017 + 11) % 2147483489 := ⟨_, rfl⟩
  have q4 : lp4 [some (.p l), some (.p (.int t)), some (.p (.int a2)), e3, some (.p (.int own))] st = .ok (.nx [some (.p l), some (.p (.int t)), some (.p (.int b)), e3, some (.p (.int own))]) st := by
    have m1 := mulV_r a2 89 (by decide)
    have o1 := modV_pos own 2147483489 (by decide)
    have m2 := mulV_r (own % 2147483489) 75017 (by decide)
    have o2 := modV_pos (a2 * 89 + own % 2147483489 * 75017 + 11) 2147483489 (by decide)
    rw [← hb] at o2
    simp [lp4, runB, startE, endB, sRet, sSeq, sSet, sIf, sDrop, sNx, sNo, sBrk, sCont, sPar, sAsg, sFor, sWhile, sRaise, sFldS, gSet, gTupD, gCons', gNil', gSubD, fVar, fC, fBin, binS, binV, addV_int, subV, powV, asP, asPs, pds, ofO, ofD, fCmp, cmpS, cmpO, cmpV, ltV, leV, fChain, fAnd, fOr, fNot, fIte, fT, truB, fNeg, fOrS, fCall, fCons, fNil, fStar, fTup, fLst, fNew, newLst, fIdx, idxO, fSli, fPart, sliV, fFld, fldO, lookF, fMeth, fMake, fnV, lenV, absV, minV, intV, listV, fIsi, isiO, tyName, fBm, mtyp, mAppend, mPop, mExtend, itemsD, fCallK, fCallK0, fIter, iterD, fRng1, fLc, tT1, fEnd, putD, itemsO, L2.atI, L2.ixN, m1, o1, m2, o2]
  have q5 : ∃ a : Int, lp5 [some (.p l), some (.p (.int t)), some (.p (.int b)), e3, some (.p (.int own))] st = .ok (.ret (.obj st.length)) (st ++ [.lst [.p (.int a), .p (.int b), .p (.int 0)]]) := by
    have pw : powV (.int 10) (.int 15) = some (.int 1000000000000000) := by kernel_rfl
    by_cases h1 : own < 0
    · refine ⟨(own.natAbs : Int), ?_⟩
      simp [lp5, runB, startE, endB, sRet, sSeq, sSet, sIf, sDrop, sNx, sNo, sBrk, sCont, sPar, sAsg, sFor, sWhile, sRaise, sFldS, gSet, gTupD, gCons', gNil', gSubD, fVar, fC, fBin, binS, binV, addV_int, subV, powV, asP, asPs, pds, ofO, ofD, fCmp, cmpS, cmpO, cmpV, ltV, leV, fChain, fAnd, fOr, fNot, fIte, fT, truB, fNeg, fOrS, fCall, fCons, fNil, fStar, fTup, fLst, fNew, newLst, fIdx, idxO, fSli, fPart, sliV, fFld, fldO, lookF, fMeth, fMake, fnV, lenV, absV, minV, intV, listV, fIsi, isiO, tyName, fBm, mtyp, mAppend, mPop, mExtend, itemsD, fCallK, fCallK0, fIter, iterD, fRng1, fLc, tT1, fEnd, putD, itemsO, L2.atI, L2.ixN, natAbs_abs, pw, h1, szl]
    · by_cases h2 : 1000000000000000 ≤ own
      · refine ⟨(own.natAbs : Int), ?_⟩
        simp [lp5, runB, startE, endB, sRet, sSeq, sSet, sIf, sDrop, sNx, sNo, sBrk, sCont, sPar, sAsg, sFor, sWhile, sRaise, sFldS, gSet, gTupD, gCons', gNil', gSubD, fVar, fC, fBin, binS, binV, addV_int, subV, powV, asP, asPs, pds, ofO, ofD, fCmp, cmpS, cmpO, cmpV, ltV, leV, fChain, fAnd, fOr, fNot, fIte, fT, truB, fNeg, fOrS, fCall, fCons, fNil, fStar, fTup, fLst, fNew, newLst, fIdx, idxO, fSli, fPart, sliV, fFld, fldO, lookF, fMeth, fMake, fnV, lenV, absV, minV, intV, listV, fIsi, isiO, tyName, fBm, mtyp, mAppend, mPop, mExtend, itemsD, fCallK, fCallK0, fIter, iterD, fRng1, fLc, tT1, fEnd, putD, itemsO, L2.atI, L2.ixN, natAbs_abs, pw, h1, h2, szl]
      · refine ⟨0, ?_⟩
        simp [lp5, runB, startE, endB, sRet, sSeq, sSet, sIf, sDrop, sNx, sNo, sBrk, sCont, sPar, sAsg, sFor, sWhile, sRaise, sFldS, gSet, gTupD, gCons', gNil', gSubD, fVar, fC, fBin, binS, binV, addV_int, subV, powV, asP, asPs, pds, ofO, ofD, fCmp, cmpS, cmpO, cmpV, ltV, leV, fChain, fAnd, fOr, fNot, fIte, fT, truB, fNeg, fOrS, fCall, fCons, fNil, fStar, fTup, fLst, fNew, newLst, fIdx, idxO, fSli, fPart, sliV, fFld, fldO, lookF, fMeth, fMake, fnV, lenV, absV, minV, intV, listV, fIsi, isiO, tyName, fBm, mtyp, mAppend, mPop, mExtend, itemsD, fCallK, fCallK0, fIter, iterD, fRng1, fLc, tT1, fEnd, putD, itemsO, L2.atI, L2.ixN, natAbs_abs, pw, h1, h2, szl]
  obtain ⟨a, q5⟩ := q5
  refine ⟨a, b, 0, ?_⟩
  have run : m__law_pail [some (.p l), some (.p (.int t)), none, none, none] st = .ok (.ret (.obj st.length)) (st ++ [.lst [.p (.int a), .p (.int b), .p (.int 0)]]) := by
    rw [lp_eq]
    exact (sSeq_nx q1).trans ((sSeq_nx q2').trans ((sSeq_nx q3).trans ((sSeq_nx q4).trans q5)))
  show runB 2 5 m__law_pail _ _ = _
  unfold runB startE
  simp only [List.length_cons, List.length_nil, List.map_cons, List.map_nil, if_true]
  show endB (m__law_pail [some (.p l), some (.p (.int t)), none, none, none] st) = _
  rw [run]
  rfl
/-! ### the turns -/
abbrev lrB : SM := (sIf (fNot (fCall r__law_decimal_right (fCons (fVar 0) fNil))) (sRet (fC (.bool false))) sNx)
theorem lr_eq : m__law_right = sSeq (sFor (gSet 1) (fRng1 (fC (.int 20))) lrB) (sRet (fCall r__law_odd_right (fCons (fVar 0) fNil))) := rfl
theorem lr_loop {k : Nat} : ∀ (ds : List D) (e1 : Option D) (st : Store), Pail k st → ∃ e1' st', loopF (gSet 1) lrB ds [some (.obj k), e1] st = .ok (.nx [some (.obj k), e1']) st' ∧ Pail k st' ∧ Gr k st st' := by
  intro ds
  induction ds with
  | nil => exact fun e1 st P => ⟨e1, st, rfl, P, Gr.refl⟩
  | cons d ds ih =>
    intro e1 st P
    obtain ⟨s1, r, P1, G1⟩ := e_dr P
    obtain ⟨e', s2, r2, P2, G2⟩ := ih (some d) s1 P1
    refine ⟨e', s2, ?_, P2, G1.trans G2⟩
    have b : lrB [some (.obj k), some d] st = .ok (.nx [some (.obj k), some d]) s1 := by
      refine sIf_f (fNot_b (b := true) ?_)
      simp only [fCall, fCons, fNil, fVar, Mp.R.bind, List.getElem?_cons_zero, r]
    rw [loopF]
    simp only [gSet, List.set_cons_succ, List.set_cons_zero]
    rw [b]
    simp only [Mp.R.bind]
    rw [r2]
theorem e_right {k : Nat} {st : Store} (P : Pail k st) : ∃ st', r__law_right [.obj k] st = .ok (.p (.bool true)) st' ∧ Gr k st st' := by
  obtain ⟨e1, s1, q1, P1, G1⟩ := lr_loop (rngD 0 20) none st P
  obtain ⟨s2, r, P2, G2⟩ := e_odd P1
  refine ⟨s2, ?_, G1.trans G2⟩
  have rg : rngOk 20 = true := by decide
  have q1' : sFor (gSet 1) (fRng1 (fC (.int 20))) lrB [some (.obj k), none] st = .ok (.nx [some (.obj k), e1]) s1 := by
    unfold sFor
    have : fRng1 (fC (.int 20)) [some (.obj k), none] st = .ok (rngD 0 20) st := by
      simp [fRng1, fC, Mp.R.bind, rg]
    rw [this]
    exact q1
  have run : m__law_right [some (.obj k), none] st = .ok (.ret (.p (.bool true))) s2 := by
    rw [lr_eq]
    refine (sSeq_nx q1').trans ?_
    simp only [sRet, fCall, fCons, fNil, fVar, Mp.R.bind, List.getElem?_cons_zero, r]
  show runB 1 2 m__law_right _ _ = _
  unfold runB startE
  simp only [List.length_cons, List.length_nil, List.map_cons, List.map_nil, if_true]
  show endB (m__law_right [some (.obj k), none] st) = _
  rw [run]
  rfl
/-! ### the law -/
abbrev lwE : Mp.Env → Store → R D := (fCall r__law_right (fCons (fCall r__law_pail (fCons (fVar 0) (fCons (fVar 1) fNil))) fNil))
theorem lwE_ok (ns : List Int) (t : Int) (t0 : 0 ≤ t) (st : Store) : ∃ st', lwE [some (.p (.list (ns.map .int))), some (.p (.int t))] st = .ok (.p (.bool true)) st' ∧ st.length ≤ st'.length ∧ ∀ j, j < st.length → st'[j]? = st[j]? := by
  obtain ⟨a, b, c, q⟩ := e_pail ns t t0 st
  obtain ⟨s2, r, G⟩ := e_right (k := st.length) (st := st ++ [.lst [.p (.int a), .p (.int b), .p (.int c)]]) ⟨a, b, c, by simp⟩
  refine ⟨s2, ?_, ?_, ?_⟩
  · simp only [lwE, fCall, fCons, fNil, fVar, Mp.R.bind, List.getElem?_cons_zero, List.getElem?_cons_succ, q, r]
  · have := G.1
    simp at this
    omega
  · intro j hj
    have g := G.2 j (by simp; omega) (by omega)
    rw [g, List.getElem?_append_left hj]
theorem lw_loop (ns : List Int) : ∀ (ts : List Int) (acc : List D) (st : Store) (e1 : Option D), (∀ t ∈ ts, 0 ≤ t) → acc.length + ts.length ≤ 1000 → st[0]? = some (.lst acc) → ∃ st', lcGo 0 (gSet 1) tT1 lwE (ts.map fun t => .p (.int t)) [some (.p (.list (ns.map .int))), e1] st = .ok () st' ∧ st'[0]? = some (.lst (acc ++ List.replicate ts.length (.p (.bool true)))) := by
  intro ts
  induction ts with
  | nil => intro acc st e1 _ _ h; exact ⟨st, rfl, by simpa using h⟩
  | cons t ts ih =>
    intro acc st e1 ht hl h
    have hlt : 0 < st.length := (List.getElem?_eq_some_iff.mp h).1
    obtain ⟨s1, r, l1, k1⟩ := lwE_ok ns t (ht t (by simp)) st
    have h1 : s1[0]? = some (.lst acc) := by rw [k1 0 hlt, h]
    have hlt1 : 0 < s1.length := by omega
    obtain ⟨s2, r2, f⟩ := ih (acc ++ [.p (.bool true)]) (s1.set 0 (.lst (acc ++ [.p (.bool true)]))) e1 (fun x hx => ht x (by simp [hx])) (by simp at hl ⊢; omega) (by rw [List.getElem?_set_self hlt1])
    refine ⟨s2, ?_, ?_⟩
    · rw [List.map_cons, lcGo]
      simp only [gSet, List.set_cons_succ, List.set_cons_zero, tT1, noX, Mp.R.bind, if_true]
      rw [r]
      simp only [noX, Mp.R.bind, h1]
      rw [if_pos (by rw [szl]; simp at hl; omega)]
      exact r2
    · rw [f]
      simp [List.replicate_succ]
theorem call_all {F : Mp.Env → Store → R D} {env : Mp.Env} {st st' : Store} {c : Nat} (h : F env st = .ok (.obj 0) st') (as : asPs st' [.obj 0] = some [.list (List.replicate c (.bool true))]) : fCall (fnV allV) (fCons F fNil) env st = .ok (.p (.bool true)) st' := by
  unfold fCall fCons fNil
  simp only [Mp.R.bind, h, fnV, as, all_rep, ofO]
theorem sRet_ok {f : Mp.Env → Store → R D} {env : Mp.Env} {st st' : Store} {d : D} (h : f env st = .ok d st') : sRet f env st = .ok (.ret d) st' := by unfold sRet; rw [h]; rfl
theorem hlaw (ns : List Int) : ∃ st, r_law [.p (.list (ns.map .int))] [] = .ok (.p (.bool true)) st := by
  obtain ⟨c, hc, c1⟩ : ∃ c : Nat, max 1 (min ns.length 3) = c ∧ c ≤ 3 := ⟨_, rfl, by omega⟩
  have ln : lenV [.list (ns.map .int)] = some (.int ns.length) := by simp [lenV]
  obtain ⟨mi, hmi⟩ : ∃ mi : Nat, mi = min ns.length 3 := ⟨_, rfl⟩
  have mn : minV [.int (ns.length : Int), .int 3] = some (.int (mi : Int)) := by
    have : (if (3 : Int) < (ns.length : Int) then (3 : Int) else (ns.length : Int)) = (mi : Int) := by split <;> omega
    simp [minV, this]
  have mx : maxV [.int 1, .int (mi : Int)] = some (.int (c : Int)) := by
    have : (if (mi : Int) > 1 then (mi : Int) else (1 : Int)) = (c : Int) := by split <;> omega
    simp only [maxV, this]
  have rg : fRng1 (fCall (fnV maxV) (fCons (fC (.int 1)) (fCons (fCall (fnV minV) (fCons (fCall (fnV lenV) (fCons (fVar 0) fNil)) (fCons (fC (.int 3)) fNil))) fNil))) [some (.p (.list (ns.map .int))), none] [] = .ok (rngD 0 c) [] := by
    have ok : rngOk (c : Int) = true := by
      have : c = 0 ∨ c = 1 ∨ c = 2 ∨ c = 3 := by omega
      rcases this with h | h | h | h <;> rw [h] <;> decide
    have tn : (c : Int).toNat = c := by omega
    generalize hcc : (c : Int) = cc at *
    generalize PyData.list (ns.map .int) = l at *
    generalize ((ns.length : Nat) : Int) = x at *
    generalize (mi : Int) = y at *
    simp only [fRng1, fCall, fCons, fNil, fVar, fC, fnV, asPs, asP, Option.map, Mp.R.bind, List.getElem?_cons_zero, ln, mn, mx, ofO, ok, tn, if_true]
  have rd : rngD 0 c = ((List.range c).map fun i : Nat => ((i : Int))).map fun t => .p (.int t) := by
    simp [rngD]
  obtain ⟨s2, r, f⟩ := lw_loop ns ((List.range c).map fun i : Nat => ((i : Int))) [] [.lst []] none (by intro t ht; simp at ht; obtain ⟨i, _, rfl⟩ := ht; omega) (by simp; omega) rfl
  have fl : fLc [1] (fRng1 (fCall (fnV maxV) (fCons (fC (.int 1)) (fCons (fCall (fnV minV) (fCons (fCall (fnV lenV) (fCons (fVar 0) fNil)) (fCons (fC (.int 3)) fNil))) fNil)))) (gSet 1) tT1 lwE [some (.p (.list (ns.map .int))), none] [] = .ok (.obj 0) s2 := by
    unfold fLc
    rw [rg]
    simp only [Mp.R.bind]
    rw [rd]
    have w : wipeE [some (.p (.list (ns.map .int))), none] [1] = [some (.p (.list (ns.map .int))), none] := rfl
    rw [w]
    simp only [List.length_nil, List.nil_append]
    rw [r]
  refine ⟨s2, ?_⟩
  have as : asPs s2 [.obj 0] = some [.list (List.replicate c (.bool true))] := by
    simp at f
    simp [asPs, asP, f, pds_rep]
  have run : m_law [some (.p (.list (ns.map .int))), none] [] = .ok (.ret (.p (.bool true))) s2 := by
    exact sRet_ok (call_all fl as)
  show runB 1 2 m_law _ _ = _
  unfold runB startE
  simp only [List.length_cons, List.length_nil, List.map_cons, List.map_nil, if_true]
  show endB (m_law [some (.p (.list (ns.map .int))), none] []) = _
  rw [run]
  rfl
end K32
end

section
set_option Elab.async false
set_option linter.all false
set_option maxRecDepth 100000
set_option maxHeartbeats 0
open PySem PySem.W PySem.Calls PyProof.Rows
theorem K32.holds_of (hlaw : ∀ ns : List Int, ns.length ≤ 63 → (∀ z ∈ ns, Builtin.Int.intBits z ≤ 1048576) → ∃ st, K32.r_law [.p (.list (ns.map .int))] [] = .ok (.p (.bool true)) st) : PySem.Challenge.rw_lastdigits_k32_whole_decimals_there_and.Holds := by
  w_on; o_law
  refine HandSHeadRun.head_imp (r := OpenLaw.row PySem.Challenge.rw_lastdigits_k32_whole_decimals_there_and) (q := view (OpenLaw.row PySem.Challenge.rw_lastdigits_k32_whole_decimals_there_and).prog [0, 83]) (H := K32.hkh) (ob := K32.obh) (M := 30000) (loose := K32.names) (d := HandSHeadRun.topDef (OpenLaw.row PySem.Challenge.rw_lastdigits_k32_whole_decimals_there_and).prog 83) (kwd := []) K32.obh_eq
    K32.run (by kernel_rfl) (by kernel_rfl) (by kernel_rfl) (by rfl) (by first | assumption | decide +kernel) (by decide +kernel) ⟨rfl, rfl, rfl, rfl, rfl, by decide +kernel⟩ ?hw ?hc
  case hw => w_witness2
  case hc =>
    refine Mp.walk_ofG (l := PySem.Challenge.rw_lastdigits_k32_whole_decimals_there_and) (n := 63) (k := 12) (x := "script") rfl (by decide) (by kernel_rfl) ⟨rfl, by decide, by decide⟩ ?F
    intro w mg fa h Y G hmg0
    have hmg : mg ("law" : PySem.Str) = some (.ref fa) := by
      have e : (HandSHeadRun.topDef (OpenLaw.row PySem.Challenge.rw_lastdigits_k32_whole_decimals_there_and).prog 83).name = ("law" : PySem.Str) := by kernel_rfl
      rw [← e]
      exact hmg0
    exact K32.law_end hlaw w mg fa h Y G hmg
end
theorem PySem.Challenge.cw_lastdigits_k32_whole_decimals_there_and_holds : PySem.Challenge.rw_lastdigits_k32_whole_decimals_there_and.Holds := by
  exact K32.holds_of fun ns _ _ => K32.hlaw ns
