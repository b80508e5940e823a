import PyProof.Rows.All
import Wide.All
import OpenK.AllK
import Wide.FinOn
import HandS.ForMost
import HandS.ForExc
import HandS.CallSlots
import HandS.TupAny
import HandS.TupMul
import HandS.IsInst
import HandS.Deep
import HandS.Zip
import HandS.SetFor
import HandS.Style
import HandS.NoneIn
import PySem.Challenge.RW_shelfround_k83_whole_steps_held
set_option Elab.async false
set_option linter.all false
set_option maxRecDepth 100000
set_option maxHeartbeats 4000000
set_option autoImplicit false
/-! Mi: a refinement layer. Data trees with value semantics, a store of mutable cells; each construct computes a Lean function. -/
namespace Mi
open PySem PySem.Spec PyProof.Rows L2

inductive Ty where
  | int | bool | str | list | tuple | dict
  deriving DecidableEq
def Ty.name : Ty → String
  | .int => "int" | .bool => "bool" | .str => "str" | .list => "list" | .tuple => "tuple" | .dict => "dict"
/-- data -/
inductive D where
  | non | bl (b : Bool) | int (i : Int) | str (x : Str) | lst (xs : List D) | tup (xs : List D)
  | dic (ks : List Key) (vs : List D) | set (xs : List D) | cell (n : Nat) | ref (a : Addr) | exc (c : Str) | scr (ns : List Int) | ty (n : Ty)
inductive Cell where
  | dead | lst (xs : List D) | dic (ks : List Key) (vs : List D) | ins (C : Str) (fs : List (Str × D))
inductive Res (α : Type) where
  | ok (a : α) (ω : List Cell) | raise (c : Str) (ω : List Cell) | stuck
abbrev M (α : Type) := List Cell → Res α
abbrev Env := List (Option D)
structure Wd where
  S : Addr → Prop
  μ : List Addr
  ω : List Cell
  H : Hp

mutual
inductive Rep (K : PySem.W.Frag) (S : Addr → Prop) (μ : List Addr) (H : Hp) : V → D → Prop
  | non : Rep K S μ H .non .non
  | bl (b : Bool) : Rep K S μ H (.bl b) (.bl b)
  | int (i : Int) : Rep K S μ H (.int i) (.int i)
  | str (x : Str) : x.length ≤ sizeLine → PyData.strOk x = true → Rep K S μ H (.str x) (.str x)
  | lst {a : Addr} {vs : List V} {ds : List D} : S a → H a = some (.lst vs) → vs.length ≤ sizeLine → Reps K S μ H vs ds → Rep K S μ H (.ref a) (.lst ds)
  | tup {a : Addr} {vs : List V} {ds : List D} : S a → H a = some (.tup vs) → vs.length ≤ sizeLine → Reps K S μ H vs ds → Rep K S μ H (.ref a) (.tup ds)
  | dic {a : Addr} {kvs : List (Key × V)} {ds : List D} : S a → H a = some (.dK kvs) → kvs.length ≤ sizeLine → Reps K S μ H (kvs.map (·.2)) ds → Rep K S μ H (.ref a) (.dic (kvs.map (·.1)) ds)
  | cell {n : Nat} {a : Addr} : μ[n]? = some a → Rep K S μ H (.ref a) (.cell n)
  | ref (a : Addr) : Rep K S μ H (.ref a) (.ref a)
  | ty (n : Ty) : Rep K S μ H (.ty n.name) (.ty n)
  | scr {a : Addr} {ns : List Int} : (S a ∨ ∀ H', SqL K H' a (ns.map V.int)) → SqL K H a (ns.map V.int) → Rep K S μ H (.ref a) (.scr ns)
inductive Reps (K : PySem.W.Frag) (S : Addr → Prop) (μ : List Addr) (H : Hp) : List V → List D → Prop
  | nil : Reps K S μ H [] []
  | cons {v : V} {vs : List V} {d : D} {ds : List D} : Rep K S μ H v d → Reps K S μ H vs ds → Reps K S μ H (v :: vs) (d :: ds)
end
abbrev Wd.rep (K : PySem.W.Frag) (w : Wd) : V → D → Prop := Rep K w.S w.μ w.H
abbrev Wd.reps (K : PySem.W.Frag) (w : Wd) : List V → List D → Prop := Reps K w.S w.μ w.H

def CellOk (K : PySem.W.Frag) (w : Wd) (a : Addr) : Cell → Prop
  | .dead => True
  | .lst xs => ∃ vs, w.H a = some (.lst vs) ∧ vs.length ≤ sizeLine ∧ w.reps K vs xs
  | .dic ks xs => ∃ kvs, w.H a = some (.dK kvs) ∧ kvs.length ≤ sizeLine ∧ kvs.map (·.1) = ks ∧ w.reps K (kvs.map (·.2)) xs
  | .ins _ _ => False
structure Fits (K : PySem.W.Frag) (w : Wd) : Prop where
  len : w.μ.length = w.ω.length
  nd : w.μ.Nodup
  dom : ∀ a, w.S a → w.H a ≠ none
  domμ : ∀ a ∈ w.μ, w.H a ≠ none
  live : ∀ (n : Nat) (a : Addr) (c : Cell), w.μ[n]? = some a → w.ω[n]? = some c → c = .dead ∨ (¬ w.S a ∧ CellOk K w a c)
structure Grow (w w' : Wd) : Prop where
  S : ∀ a, w.S a → w'.S a
  S' : ∀ a, w'.S a → w.S a ∨ w.H a = none ∨ a ∈ w.μ
  μ : w.μ <+: w'.μ
  μ' : ∀ a ∈ w'.μ, a ∈ w.μ ∨ w.H a = none
  fr : ∀ a o, w.H a = some o → (w.S a ∨ a ∉ w.μ) → w'.H a = some o
theorem Grow.refl (w : Wd) : Grow w w := ⟨fun _ h => h, fun _ h => .inl h, List.prefix_refl _, fun _ h => .inl h, fun _ _ h _ => h⟩
theorem Grow.trans {w w1 w2 : Wd} (a : Grow w w1) (b : Grow w1 w2) : Grow w w2 := by
  refine ⟨fun x h => b.S x (a.S x h), fun x h => ?_, a.μ.trans b.μ, fun x h => ?_, fun x o h k => ?_⟩
  · rcases b.S' x h with h | h | h
    · exact a.S' x h
    · by_cases hm : x ∈ w.μ
      · exact .inr (.inr hm)
      · refine .inr (.inl ?_)
        cases q : w.H x with
        | none => rfl
        | some o => rw [a.fr x o q (.inr hm)] at h; cases h
    · rcases a.μ' x h with h | h
      · exact .inr (.inr h)
      · exact .inr (.inl h)
  · rcases b.μ' x h with h | h
    · exact a.μ' x h
    · by_cases hm : x ∈ w.μ
      · exact .inl hm
      · refine .inr ?_
        cases q : w.H x with
        | none => rfl
        | some o => rw [a.fr x o q (.inr hm)] at h; cases h
  · refine b.fr x o (a.fr x o h k) ?_
    rcases k with k | k
    · exact .inl (a.S x k)
    · refine .inr fun h2 => ?_
      rcases a.μ' x h2 with h3 | h3
      · exact k h3
      · rw [h3] at h; cases h

section
variable {K : PySem.W.Frag}
theorem sqL_mono {H H' : Hp} {a : Addr} {vs : List V} (h : ∀ o, H a = some o → H' a = some o) (x : SqL K H a vs) : SqL K H' a vs := by
  rcases x with (x | ⟨o, x⟩) | x
  · exact .inl (.inl (h _ x))
  · exact .inl (.inr ⟨o, h _ x⟩)
  · exact .inr x
theorem sqT_mono {H H' : Hp} {a : Addr} {vs : List V} (h : ∀ o, H a = some o → H' a = some o) (x : SqT K H a vs) : SqT K H' a vs := by
  rcases x with (x | ⟨o, x⟩) | x
  · exact .inl (.inl (h _ x))
  · exact .inl (.inr ⟨o, h _ x⟩)
  · exact .inr x
variable {S S' : Addr → Prop} {μ μ' : List Addr} {H H' : Hp}
mutual
theorem Rep.mono (hS : ∀ a, S a → S' a) (hm : ∀ (n : Nat) (a : Addr), μ[n]? = some a → μ'[n]? = some a) (hH : ∀ a o, S a → H a = some o → H' a = some o) : ∀ {v : V} {d : D}, Rep K S μ H v d → Rep K S' μ' H' v d
  | _, _, .non => .non
  | _, _, .bl b => .bl b
  | _, _, .int i => .int i
  | _, _, .str x h h' => .str x h h'
  | _, _, .lst h1 h2 h3 h4 => .lst (hS _ h1) (hH _ _ h1 h2) h3 (Reps.mono hS hm hH h4)
  | _, _, .tup h1 h2 h3 h4 => .tup (hS _ h1) (hH _ _ h1 h2) h3 (Reps.mono hS hm hH h4)
  | _, _, .ty n => .ty n
  | _, _, .scr (.inl h1) h2 => .scr (.inl (hS _ h1)) (sqL_mono (hH _ · h1) h2)
  | _, _, .scr (.inr h1) h2 => .scr (.inr h1) (h1 _)
  | _, _, .dic h1 h2 h3 h4 => .dic (hS _ h1) (hH _ _ h1 h2) h3 (Reps.mono hS hm hH h4)
  | _, _, .cell h => .cell (hm _ _ h)
  | _, _, .ref a => .ref a
theorem Reps.mono (hS : ∀ a, S a → S' a) (hm : ∀ (n : Nat) (a : Addr), μ[n]? = some a → μ'[n]? = some a) (hH : ∀ a o, S a → H a = some o → H' a = some o) : ∀ {vs : List V} {ds : List D}, Reps K S μ H vs ds → Reps K S' μ' H' vs ds
  | _, _, .nil => .nil
  | _, _, .cons h t => .cons (Rep.mono hS hm hH h) (Reps.mono hS hm hH t)
end
theorem pre_get {μ μ' : List Addr} (h : μ <+: μ') (n : Nat) (a : Addr) (e : μ[n]? = some a) : μ'[n]? = some a := by
  obtain ⟨t, rfl⟩ := h
  rw [List.getElem?_append_left (List.getElem?_eq_some_iff.mp e).1]; exact e
theorem Grow.rep {w w' : Wd} (g : Grow w w') {v : V} {d : D} (r : w.rep K v d) : w'.rep K v d := Rep.mono g.S (pre_get g.μ) (fun a o s h => g.fr a o h (.inl s)) r
theorem Grow.reps {w w' : Wd} (g : Grow w w') {v : List V} {d : List D} (r : w.reps K v d) : w'.reps K v d := Reps.mono g.S (pre_get g.μ) (fun a o s h => g.fr a o h (.inl s)) r
theorem Reps.length {vs : List V} {ds : List D} (h : Reps K S μ H vs ds) : vs.length = ds.length := by
  induction vs generalizing ds with
  | nil => cases h; rfl
  | cons v vs ih => cases h with | cons h t => simp [ih t]
theorem Reps.get : ∀ {vs : List V} {ds : List D} {i : Nat} {d : D}, Reps K S μ H vs ds → ds[i]? = some d → ∃ v, vs[i]? = some v ∧ Rep K S μ H v d
  | _, _, _, _, .nil, e => by simp at e
  | _, _, 0, _, .cons h _, e => by simp at e; subst e; exact ⟨_, rfl, h⟩
  | _, _, i + 1, _, .cons _ t, e => by
    obtain ⟨v, h1, h2⟩ := Reps.get (i := i) t (by simpa using e)
    exact ⟨v, by simpa using h1, h2⟩
theorem Reps.get' : ∀ {vs : List V} {ds : List D} {i : Nat} {v : V}, Reps K S μ H vs ds → vs[i]? = some v → ∃ d, ds[i]? = some d ∧ Rep K S μ H v d
  | _, _, _, _, .nil, e => by simp at e
  | _, _, 0, _, .cons h _, e => by simp at e; subst e; exact ⟨_, rfl, h⟩
  | _, _, i + 1, _, .cons _ t, e => by
    obtain ⟨v, h1, h2⟩ := Reps.get' (i := i) t (by simpa using e)
    exact ⟨v, by simpa using h1, h2⟩
theorem Reps.append : ∀ {vs vs' : List V} {ds ds' : List D}, Reps K S μ H vs ds → Reps K S μ H vs' ds' → Reps K S μ H (vs ++ vs') (ds ++ ds')
  | _, _, _, _, .nil, h => h
  | _, _, _, _, .cons h t, h' => .cons h (Reps.append t h')
theorem Reps.take : ∀ {vs : List V} {ds : List D} (n : Nat), Reps K S μ H vs ds → Reps K S μ H (vs.take n) (ds.take n)
  | _, _, 0, _ => by simp; exact .nil
  | _, _, n + 1, .nil => .nil
  | _, _, n + 1, .cons h t => .cons h (Reps.take n t)
theorem Reps.drop : ∀ {vs : List V} {ds : List D} (n : Nat), Reps K S μ H vs ds → Reps K S μ H (vs.drop n) (ds.drop n)
  | _, _, 0, h => by simpa using h
  | _, _, n + 1, .nil => .nil
  | _, _, n + 1, .cons h t => Reps.drop n t
theorem Reps.set : ∀ {vs : List V} {ds : List D} (n : Nat) {v : V} {d : D}, Rep K S μ H v d → Reps K S μ H vs ds → Reps K S μ H (vs.set n v) (ds.set n d)
  | _, _, 0, _, _, r, .nil => .nil
  | _, _, 0, _, _, r, .cons h t => .cons r t
  | _, _, n + 1, _, _, r, .nil => .nil
  | _, _, n + 1, _, _, r, .cons h t => .cons h (Reps.set n r t)
theorem Reps.reverse {vs : List V} {ds : List D} (h : Reps K S μ H vs ds) : Reps K S μ H vs.reverse ds.reverse := by
  induction vs generalizing ds with
  | nil => cases h; exact .nil
  | cons v vs ih => cases h with | cons h t => simp only [List.reverse_cons]; exact (ih t).append (.cons h .nil)
theorem Reps.mem {vs : List V} {ds : List D} {v : V} (h : Reps K S μ H vs ds) (m : v ∈ vs) : ∃ d ∈ ds, Rep K S μ H v d := by
  obtain ⟨i, hi⟩ := List.getElem?_of_mem m
  obtain ⟨d, h1, h2⟩ := h.get' hi
  exact ⟨d, List.mem_of_getElem? h1, h2⟩
end

/-! ### results -/
def M.ret {α : Type} (a : α) : M α := fun ω => .ok a ω
def M.bind {α β : Type} (m : M α) (k : α → M β) : M β := fun ω => match m ω with
  | .ok a ω1 => k a ω1
  | .raise c ω1 => .raise c ω1
  | .stuck => .stuck
def M.stuck {α : Type} : M α := fun _ => .stuck
def M.raise {α : Type} (c : Str) : M α := fun ω => .raise c ω

section
variable {α β : Type} (K : PySem.W.Frag) (mg : Str → Option Value)
def Holds (W : WX) (σ : L2.St) (w : Wd) (r : Res α) (P : α → Wd → Prop) : Prop := match r with
  | .ok a ω' => ∀ w', Grow w w' → Fits K w' → w'.ω = ω' → P a w'
  | .raise c ω' => ∀ w' u, Grow w w' → Fits K w' → w'.ω = ω' → mg c = some u → W u none σ w'.H
  | .stuck => False
variable {K mg}
theorem Holds.grow {W : WX} {σ : L2.St} {w w1 : Wd} {r : Res α} {P : α → Wd → Prop} (g : Grow w w1) (h : Holds K mg W σ w r P) : Holds K mg W σ w1 r P := by
  cases r with
  | ok a ω => exact fun w' g' f e => h w' (g.trans g') f e
  | raise c ω => exact fun w' u g' f e m => h w' u (g.trans g') f e m
  | stuck => exact h
theorem Holds.mono {W : WX} {σ : L2.St} {w : Wd} {r : Res α} {P P' : α → Wd → Prop} (h : Holds K mg W σ w r P) (hp : ∀ a w', Grow w w' → Fits K w' → P a w' → P' a w') : Holds K mg W σ w r P' := by
  cases r with
  | ok a ω => exact fun w' g' f e => hp a w' g' f (h w' g' f e)
  | raise c ω => exact h
  | stuck => exact h
theorem Holds.bind {W : WX} {σ : L2.St} {w : Wd} {m : M α} {k : α → M β} {P : β → Wd → Prop} (h : Holds K mg W σ w (M.bind m k w.ω) P) : Holds K mg W σ w (m w.ω) fun a w1 => Holds K mg W σ w1 (k a w1.ω) P := by
  unfold M.bind at h
  cases q : m w.ω with
  | ok a ω =>
    rw [q] at h
    intro w1 g1 f1 e1
    subst e1
    exact Holds.grow g1 h
  | raise c ω => rw [q] at h; exact h
  | stuck => rw [q] at h; exact h
/-- bind, and the rest in hand -/
theorem Holds.thn {W : WX} {σ : L2.St} {w : Wd} {m : M α} {k : α → M β} {P : β → Wd → Prop} {P' : α → Wd → Prop} (h : Holds K mg W σ w (M.bind m k w.ω) P) (hp : ∀ a w1, Grow w w1 → Fits K w1 → Holds K mg W σ w1 (k a w1.ω) P → P' a w1) : Holds K mg W σ w (m w.ω) P' :=
  h.bind.mono hp
theorem Holds.here {W : WX} {σ : L2.St} {w : Wd} {a : α} {P : α → Wd → Prop} (f : Fits K w) (h : Holds K mg W σ w (M.ret a w.ω) P) : P a w := h w (Grow.refl w) f rfl
theorem Holds.no {W : WX} {σ : L2.St} {w : Wd} {P : α → Wd → Prop} {R : Prop} (h : Holds K mg W σ w (M.stuck (α := α) w.ω) P) : R := h.elim
end

/-! ### the slots -/
structure EnvRep (K : PySem.W.Frag) (w : Wd) (ρ : Env) (σ : L2.St) : Prop where
  len : ρ.length = σ.length
  get : ∀ (i : Nat) (d : D), ρ[i]? = some (some d) → ∃ v, σ[i]? = some (some v) ∧ w.rep K v d
theorem EnvRep.grow {K : PySem.W.Frag} {w w' : Wd} {ρ : Env} {σ : L2.St} (e : EnvRep K w ρ σ) (g : Grow w w') : EnvRep K w' ρ σ :=
  ⟨e.len, fun i d h => let ⟨v, h1, h2⟩ := e.get i d h; ⟨v, h1, g.rep h2⟩⟩
theorem EnvRep.set {K : PySem.W.Frag} {w : Wd} {ρ : Env} {σ : L2.St} (e : EnvRep K w ρ σ) {i : Nat} {v : V} {d : D} (r : w.rep K v d) : EnvRep K w (ρ.set i (some d)) (σ.set i (some v)) := by
  refine ⟨by simp [e.len], fun j x h => ?_⟩
  by_cases hj : i = j
  · subst hj
    by_cases hl : i < ρ.length
    · rw [List.getElem?_set_self hl] at h
      cases h
      exact ⟨v, List.getElem?_set_self (e.len ▸ hl), r⟩
    · rw [List.getElem?_eq_none (by simpa using hl)] at h; cases h
  · rw [List.getElem?_set_ne hj] at h
    rw [List.getElem?_set_ne hj]
    exact e.get j x h

section
variable (K : PySem.W.Frag) (mg : Str → Option Value) (W : WX)
def tM (f : Env → M D) : TE := fun σ H Q => ∃ w ρ, w.H = H ∧ Fits K w ∧ EnvRep K w ρ σ ∧ Holds K mg W σ w (f ρ w.ω) fun d w' => ∀ v, w'.rep K v d → Q v w'.H
def tMT (f : Env → M Bool) : TT := fun σ H Q => ∃ w ρ, w.H = H ∧ Fits K w ∧ EnvRep K w ρ σ ∧ Holds K mg W σ w (f ρ w.ω) fun b w' => Q b w'.H
def tMA (f : Env → M (List D)) : TA := fun σ H Q => ∃ w ρ, w.H = H ∧ Fits K w ∧ EnvRep K w ρ σ ∧ Holds K mg W σ w (f ρ w.ω) fun ds w' => ∀ vs, w'.reps K vs ds → Q vs w'.H
end
def ME (X : Cx) (W : WX) (e : Expr) (f : Env → M D) : Prop := PE X e (tM X.K X.mg W f)
def MT (X : Cx) (W : WX) (e : Expr) (f : Env → M Bool) : Prop := PT X e (tMT X.K X.mg W f)
def MW (X : Cx) (W : WX) (e : Expr) (f : Env → M Bool) : Prop := PW X e (tMT X.K X.mg W f)
def MA (X : Cx) (W : WX) (es : List Expr) (f : Env → M (List D)) : Prop := PA X es (tMA X.K X.mg W f)
theorem PE.sub {X : Cx} {e : Expr} {t t' : TE} (h : PE X e t) (i : ∀ σ H Q, t' σ H Q → t σ H Q) : PE X e t' := ⟨fun pins s σ H Q I hw => h.run pins s σ H Q I (i σ H Q hw)⟩
theorem PT.sub {X : Cx} {e : Expr} {t t' : TT} (h : PT X e t) (i : ∀ σ H Q, t' σ H Q → t σ H Q) : PT X e t' := ⟨fun pins s σ H Q I hw => h.run pins s σ H Q I (i σ H Q hw)⟩
theorem PW.sub {X : Cx} {e : Expr} {t t' : TT} (h : PW X e t) (i : ∀ σ H Q, t' σ H Q → t σ H Q) : PW X e t' := ⟨fun whole pins s σ H Q I hw => h.run whole pins s σ H Q I (i σ H Q hw)⟩
theorem PA.sub {X : Cx} {e : List Expr} {t t' : TA} (h : PA X e t) (i : ∀ σ H Q, t' σ H Q → t σ H Q) : PA X e t' := ⟨fun pos pins s σ H Q I hw => h.run pos pins s σ H Q I (i σ H Q hw)⟩
theorem PS.sub {X : Cx} {e : Stmt} {t t' : TS} (h : PS X e t) (i : ∀ D σ H, t' D σ H → t D σ H) : PS X e t' := ⟨fun pins s σ H D I hw => h.run pins s σ H D I (i D σ H hw)⟩
theorem PSs.sub {X : Cx} {e : List Stmt} {t t' : TS} (h : PSs X e t) (i : ∀ D σ H, t' D σ H → t D σ H) : PSs X e t' := ⟨fun pins s σ H D I hw => h.run pins s σ H D I (i D σ H hw)⟩
theorem PG.sub {X : Cx} {e : Expr} {t t' : TG} (h : PG X e t) (i : ∀ v σ H Q, t' v σ H Q → t v σ H Q) : PG X e t' := ⟨fun pins s σ H v u Q I r hw => h.run pins s σ H v u Q I r (i v σ H Q hw)⟩
theorem PI.sub {X : Cx} {tg e : Expr} {t t' : TI} (h : PI X tg e t) (i : ∀ σ H Q, t' σ H Q → t σ H Q) : PI X tg e t' := ⟨fun pins s σ H Q I hw => h.run pins s σ H Q I (i σ H Q hw)⟩

/-! ### names, constants -/
def eV (i : Nat) : Env → M D := fun ρ => match ρ[i]? with
  | some (some d) => M.ret d
  | _ => M.stuck
def eC (d : D) : Env → M D := fun _ => M.ret d
section
variable {X : Cx} {W : WX}
theorem me_v (i : Nat) {x : Str} {pos : Pos} (hN : X.N[i]? = some x := by rfl) (hv : Vis X.env.scope x := by first | exact Or.inl rfl | exact Or.inr (Or.inl rfl) | exact Or.inr (Or.inr rfl)) (hd : (x == ("__debug__" : Str)) = false := by decide)
    (hcd : (x == ("__classdict__" : Str)) = false := by decide) : ME X W (.Name x pos) (eV i) := by
  refine PE.sub (pv i hN hv hd hcd) ?_
  rintro σ H Q ⟨w, ρ, rfl, f, E, h⟩
  unfold eV at h
  cases q : ρ[i]? with
  | none => rw [q] at h; exact h.no
  | some o => cases o with
    | none => rw [q] at h; exact h.no
    | some d =>
      rw [q] at h
      obtain ⟨v, h1, h2⟩ := E.get i d q
      exact ⟨v, h1, (Holds.here f h) v h2⟩
theorem me_c {e : Expr} {v : V} {d : D} (he : PE X e (tC v)) (r : ∀ K S μ H, Rep K S μ H v d) : ME X W e (eC d) := by
  refine PE.sub he ?_
  rintro σ H Q ⟨w, ρ, rfl, f, E, h⟩
  exact (Holds.here f h) v (r _ _ _ _)
theorem me_int {i j pos} : ME X W (.Constant (.int i) j pos) (eC (.int i)) := me_c pe_int fun _ _ _ _ => .int i
theorem me_bl {i j pos} : ME X W (.Constant (.bool i) j pos) (eC (.bl i)) := me_c pe_bl fun _ _ _ _ => .bl i
theorem me_non {j pos} : ME X W (.Constant .none j pos) (eC .non) := me_c pe_non fun _ _ _ _ => .non
theorem me_str {i j pos} (h : i.length ≤ sizeLine := by decide +kernel) (h' : PyData.strOk i = true := by decide +kernel) : ME X W (.Constant (.str i) j pos) (eC (.str i)) := me_c pe_str fun _ _ _ _ => .str i h h'
/-- a module's constant, a def or class as a value -/
theorem me_gint {x : Str} {i : Int} {t : Tok} {pos : Pos} (hg : Gl X x) (hm : X.mg x = some (.int i t)) (hd : (x == ("__debug__" : Str)) = false := by decide) : ME X W (.Name x pos) (eC (.int i)) := me_c (pe_glob (v := .int i) hg hm ⟨t, rfl⟩ hd) fun _ _ _ _ => .int i
theorem me_gstr {x i : Str} {t : Tok} {pos : Pos} (hg : Gl X x) (hm : X.mg x = some (.str i t)) (hd : (x == ("__debug__" : Str)) = false := by decide) (h : i.length ≤ sizeLine := by decide +kernel) (h' : PyData.strOk i = true := by decide +kernel) : ME X W (.Name x pos) (eC (.str i)) := me_c (pe_glob (v := .str i) hg hm ⟨t, rfl⟩ hd) fun _ _ _ _ => .str i h h'
theorem me_gref {x : Str} {a : Addr} {pos : Pos} (hg : Gl X x) (hm : X.mg x = some (.ref a)) (hd : (x == ("__debug__" : Str)) = false := by decide) : ME X W (.Name x pos) (eC (.ref a)) := me_c (pe_glob (v := .ref a) hg hm rfl hd) fun _ _ _ _ => .ref a
end
end Mi
namespace Mi
open PySem PySem.Spec PyProof.Rows L2

/-! ### new objects -/
def Wd.lay (w : Wd) (p : Addr) (o : HO) : Wd := { w with S := fun a => w.S a ∨ a = p, H := upd w.H p o }
section
variable {K : PySem.W.Frag} {mg : Str → Option Value} {W : WX} {σ : L2.St} {w w' : Wd} {p : Addr} {o : HO} {Q : VK}
theorem lay_grow (hp : w.H p = none) : Grow w (w.lay p o) :=
  ⟨fun _ h => .inl h, fun a h => h.elim (fun z => .inl z) fun z => .inr (.inl (by rw [z]; exact hp)), List.prefix_refl _, fun _ h => .inl h, fun a u h _ => by
    show upd w.H p o a = some u
    rw [upd_ne (ne_of_none h hp)]; exact h⟩
theorem CellOk.mono {a : Addr} {c : Cell} (h : CellOk K w a c) (e : w'.H a = w.H a) (r : ∀ vs ds, w.reps K vs ds → w'.reps K vs ds) : CellOk K w' a c := by
  cases c with
  | dead => trivial
  | lst xs => obtain ⟨vs, h1, h2, h3⟩ := h; exact ⟨vs, e.trans h1, h2, r _ _ h3⟩
  | dic ks xs => obtain ⟨vs, h1, h2, h3, h4⟩ := h; exact ⟨vs, e.trans h1, h2, h3, r _ _ h4⟩
  | ins C fs => exact h.elim
theorem lay_fits (F : Fits K w) (hp : w.H p = none) : Fits K (w.lay p o) := by
  refine ⟨F.len, F.nd, fun a h => ?_, fun a h => ?_, fun n a c h1 h2 => ?_⟩
  · show upd w.H p o a ≠ none
    by_cases e : a = p
    · rw [e, upd_same]; exact fun z => nomatch z
    · rw [upd_ne e]; exact h.elim (F.dom a) fun z => absurd z e
  · show upd w.H p o a ≠ none
    by_cases e : a = p
    · rw [e, upd_same]; exact fun z => nomatch z
    · rw [upd_ne e]; exact F.domμ a h
  · have hne : a ≠ p := fun e => F.domμ a (List.mem_of_getElem? h1) (by rw [e]; exact hp)
    rcases F.live n a c h1 h2 with h | ⟨h, h'⟩
    · exact .inl h
    · refine .inr ⟨fun z => z.elim h hne, h'.mono (upd_ne hne) fun vs ds r => (lay_grow hp).reps r⟩
abbrev Ans (K : PySem.W.Frag) (mg : Str → Option Value) (W : WX) (σ : L2.St) (w : Wd) (m : M D) (Q : VK) : Prop := Holds K mg W σ w (m w.ω) fun d w' => ∀ v, w'.rep K v d → Q v w'.H
theorem Ans.val {v : V} {d : D} (F : Fits K w) (h : Ans K mg W σ w (M.ret d) Q) (r : w.rep K v d) : Q v w.H := (Holds.here F h) v r
theorem Ans.lst {vs : List V} {ds : List D} (F : Fits K w) (h : Ans K mg W σ w (M.ret (.lst ds)) Q) (r : w.reps K vs ds) (hl : vs.length ≤ sizeLine) : ∀ p, w.H p = none → Q (.ref p) (upd w.H p (.lst vs)) := fun p hp =>
  h (w.lay p (.lst vs)) (lay_grow hp) (lay_fits F hp) rfl (.ref p) (.lst (.inr rfl) upd_same hl ((lay_grow hp).reps r))
theorem Ans.tup {vs : List V} {ds : List D} (F : Fits K w) (h : Ans K mg W σ w (M.ret (.tup ds)) Q) (r : w.reps K vs ds) (hl : vs.length ≤ sizeLine) : ∀ p, w.H p = none → Q (.ref p) (upd w.H p (.tup vs)) := fun p hp =>
  h (w.lay p (.tup vs)) (lay_grow hp) (lay_fits F hp) rfl (.ref p) (.tup (.inr rfl) upd_same hl ((lay_grow hp).reps r))
end

/-! ### operators -/
def Op2 (X : Cx) (r : R2) (o : D → D → M D) : Prop := ∀ (W : WX) (σ : L2.St) (w : Wd) (x y : V) (d e : D) (Q : VK), Fits X.K w → w.rep X.K x d → w.rep X.K y e → Ans X.K X.mg W σ w (o d e) Q → r x y w.H Q
def Op1 (X : Cx) (r : V → Hp → VK → Prop) (o : D → M D) : Prop := ∀ (W : WX) (σ : L2.St) (w : Wd) (x : V) (d : D) (Q : VK), Fits X.K w → w.rep X.K x d → Ans X.K X.mg W σ w (o d) Q → r x w.H Q
def OpN (X : Cx) (r : List V → Hp → VK → Prop) (o : List D → M D) : Prop := ∀ (W : WX) (σ : L2.St) (w : Wd) (xs : List V) (ds : List D) (Q : VK), Fits X.K w → w.reps X.K xs ds → Ans X.K X.mg W σ w (o ds) Q → r xs w.H Q
@[simp] def e2 (o : D → D → M D) (f g : Env → M D) : Env → M D := fun ρ => (f ρ).bind fun d => (g ρ).bind fun e => o d e
@[simp] def e1 (o : D → M D) (f : Env → M D) : Env → M D := fun ρ => (f ρ).bind o
@[simp] def eN (o : List D → M D) (f : Env → M (List D)) : Env → M D := fun ρ => (f ρ).bind o
section
variable {X : Cx} {W : WX} {a b : Expr} {f g : Env → M D}
theorem sub2 {r : R2} {o : D → D → M D} (h2 : Op2 X r o) : ∀ σ H Q, tM X.K X.mg W (e2 o f g) σ H Q → tOp r (tM X.K X.mg W f) (tM X.K X.mg W g) σ H Q := by
  rintro σ H Q ⟨w, ρ, rfl, F, E, h⟩
  refine ⟨w, ρ, rfl, F, E, Holds.thn h fun d w1 g1 F1 h1 x rx => ?_⟩
  refine ⟨w1, ρ, rfl, F1, E.grow g1, Holds.thn h1 fun e w2 g2 F2 h3 y ry => ?_⟩
  exact h2 W σ w2 x y d e Q F2 (g2.rep rx) ry h3
theorem me_bin {op : Operator} {r : R2} {o : D → D → M D} {pos : Pos} (ho : OpR X (binaryOp op) r) (h2 : Op2 X r o) (ha : ME X W a f) (hb : ME X W b g) : ME X W (.BinOp a op b pos) (e2 o f g) := PE.sub (pe_op ho ha hb) (sub2 h2)
theorem me_cmp {op : CmpOp} {r : R2} {o : D → D → M D} {pos : Pos} (ho : OpR X (compareOp op) r) (h2 : Op2 X r o) (ha : ME X W a f) (hb : ME X W b g) (hm : behindInMarks op b = false) : ME X W (.Compare a [op] [b] pos) (e2 o f g) := PE.sub (pe_cmpR ho ha hb hm) (sub2 h2)
theorem me_un {op : UnaryOp} {r : V → Hp → VK → Prop} {o : D → M D} {pos : Pos} (ho : UnR X (unaryOp op) r) (h2 : Op1 X r o) (ha : ME X W a f) : ME X W (.UnaryOp op a pos) (e1 o f) := by
  refine PE.sub (pe_un ho ha) ?_
  rintro σ H Q ⟨w, ρ, rfl, F, E, h⟩
  exact ⟨w, ρ, rfl, F, E, Holds.thn h fun d w1 g1 F1 h1 x rx => h2 W σ w1 x d Q F1 rx h1⟩

/-! arithmetic -/
@[simp] def oSub : D → D → M D
  | .int i, .int j => M.ret (.int (i - j))
  | _, _ => M.stuck
@[simp] def oAdd : D → D → M D
  | .int i, .int j => M.ret (.int (i + j))
  | .str x, .str y => if x.length + y.length ≤ sizeLine then M.ret (.str (x ++ y)) else M.stuck
  | .lst xs, .lst ys => if xs.length + ys.length ≤ sizeLine then M.ret (.lst (xs ++ ys)) else M.stuck
  | .tup xs, .tup ys => if xs.length + ys.length ≤ sizeLine then M.ret (.tup (xs ++ ys)) else M.stuck
  | _, _ => M.stuck
def small (i : Int) : Bool := decide (-(2 ^ 64) < i) && decide (i < 2 ^ 64)
@[simp] def oMul : D → D → M D
  | .int i, .int j => if small i || small j then M.ret (.int (i * j)) else M.stuck
  | .lst xs, .int k => if 0 ≤ k ∧ k < 2 ^ 63 ∧ xs.length * k.toNat ≤ sizeLine then M.ret (.lst (List.replicate k.toNat xs).flatten) else M.stuck
  | .tup xs, .int k => if xs ≠ [] ∧ 2 ≤ k ∧ k ≤ 1000 ∧ xs.length ≤ 1000 then M.ret (.tup (List.replicate k.toNat xs).flatten) else M.stuck
  | _, _ => M.stuck
@[simp] def oMod : D → D → M D
  | .int i, .int j => if 0 < j then M.ret (.int (i % j)) else M.stuck
  | _, _ => M.stuck
@[simp] def oDiv : D → D → M D
  | .int i, .int j => if 0 < j ∧ j < 1073741824 then M.ret (.int (i / j)) else M.stuck
  | _, _ => M.stuck
@[simp] def oPow : D → D → M D
  | .int i, .int j => if 0 ≤ j ∧ j ≤ 1000000 ∧ i.natAbs < 2 ^ 64 then M.ret (.int (i ^ j.toNat)) else M.stuck
  | _, _ => M.stuck
@[simp] def oNeg : D → M D
  | .int i => M.ret (.int (-i))
  | _ => M.stuck
theorem Holds.ite {K : PySem.W.Frag} {mg : Str → Option Value} {W : WX} {σ : L2.St} {w : Wd} {α : Type} {c : Prop} [Decidable c] {m : M α} {P : α → Wd → Prop} (h : Holds K mg W σ w ((if c then m else M.stuck) w.ω) P) : c ∧ Holds K mg W σ w (m w.ω) P := by
  by_cases hc : c
  · rw [if_pos hc] at h; exact ⟨hc, h⟩
  · rw [if_neg hc] at h; exact h.no
theorem op2_sub : Op2 X (rI0 fun i j => .int (i - j)) oSub := by
  intro W σ w x y d e Q F rx ry h
  cases rx with
  | int i => cases ry with
    | int j => exact ⟨i, j, rfl, rfl, Ans.val F h (.int _)⟩
    | _ => exact h.no
  | _ => exact h.no
theorem strOk_append {x y : Str} (h : PyData.strOk x = true) (h' : PyData.strOk y = true) : PyData.strOk (x ++ y) = true := by
  unfold PyData.strOk at *
  show ((x.cps ++ y.cps).all _) = true
  rw [Array.all_append, h, h']; rfl
theorem str_len_append (x y : Str) : (x ++ y).length = x.length + y.length := by
  show (x.cps ++ y.cps).size = _
  rw [Array.size_append]; rfl
def rAddA (K : PySem.W.Frag) : R2 := fun x y H Q => rI0 (fun i j => .int (i + j)) x y H Q ∨ (∃ i j, x = .str i ∧ y = .str j ∧ i.length + j.length ≤ sizeLine ∧ Q (.str (i ++ j)) H) ∨ rCat x y H Q ∨ rCatA K x y H Q
theorem op_addA : OpR X (binaryOp .Add) (rAddA X.K) := OpR.or op_add (OpR.or op_add_str (OpR.or op_cat op_catA))
theorem op2_add : Op2 X (rAddA X.K) oAdd := by
  intro W σ w x y d e Q F rx ry h
  cases rx with
  | int i => cases ry with
    | int j => exact .inl ⟨i, j, rfl, rfl, Ans.val F h (.int _)⟩
    | _ => exact h.no
  | str x hx hx' => cases ry with
    | str y hy hy' =>
      obtain ⟨c, h⟩ := Holds.ite h
      exact .inr (.inl ⟨x, y, rfl, rfl, c, Ans.val F h (.str _ (by rw [str_len_append]; exact c) (strOk_append hx' hy'))⟩)
    | _ => exact h.no
  | lst s1 e1 l1 r1 => cases ry with
    | lst s2 e2 l2 r2 =>
      obtain ⟨c, h⟩ := Holds.ite h
      have c' := c
      rw [← r1.length, ← r2.length] at c'
      exact .inr (.inr (.inl ⟨_, _, _, _, rfl, rfl, e1, e2, c', Ans.lst F h (r1.append r2) (by rw [List.length_append]; exact c')⟩))
    | _ => exact h.no
  | tup s1 e1 l1 r1 => cases ry with
    | tup s2 e2 l2 r2 =>
      obtain ⟨c, h⟩ := Holds.ite h
      have c' := c
      rw [← r1.length, ← r2.length] at c'
      refine .inr (.inr (.inr ⟨_, _, _, _, rfl, rfl, .of e1, .of e2, c', fun z => ?_, fun z z' => ?_, fun _ _ => Ans.tup F h (r1.append r2) (by rw [List.length_append]; exact c')⟩))
      · subst z; cases r1
        exact Ans.val F h (.tup s2 e2 l2 (by simpa using r2))
      · subst z'; cases r2
        exact Ans.val F h (.tup s1 e1 l1 (by simpa using r1))
    | _ => exact h.no
  | _ => exact h.no
theorem Reps.rep {K : PySem.W.Frag} {S : Addr → Prop} {μ : List Addr} {H : Hp} {vs : List V} {ds : List D} (h : Reps K S μ H vs ds) : ∀ n, Reps K S μ H (List.replicate n vs).flatten (List.replicate n ds).flatten
  | 0 => .nil
  | n + 1 => by
    rw [List.replicate_succ, List.replicate_succ, List.flatten_cons, List.flatten_cons]
    exact h.append (h.rep n)
theorem flat_len {α : Type} (n : Nat) (xs : List α) : (List.replicate n xs).flatten.length = n * xs.length := by
  induction n with
  | zero => simp
  | succ n ih => rw [List.replicate_succ, List.flatten_cons, List.length_append, ih, Nat.succ_mul]; omega
def rMulA (K : PySem.W.Frag) : R2 := fun x y H Q => rI CMul (fun i j => .int (i * j)) x y H Q ∨ rRep x y H Q ∨ rRepT K x y H Q
theorem op_mulA : OpR X (binaryOp .Mult) (rMulA X.K) := OpR.or op_mul (OpR.or op_rep op_repT)
theorem small_iff {i : Int} : small i = true ↔ -(2 ^ 64) < i ∧ i < 2 ^ 64 := by unfold small; simp
theorem op2_mul : Op2 X (rMulA X.K) oMul := by
  intro W σ w x y d e Q F rx ry h
  cases rx with
  | int i => cases ry with
    | int j =>
      obtain ⟨c, h⟩ := Holds.ite h
      rw [Bool.or_eq_true, small_iff, small_iff] at c
      exact .inl ⟨i, j, rfl, rfl, c, Ans.val F h (.int _)⟩
    | _ => exact h.no
  | lst s1 e1 l1 r1 => cases ry with
    | int k =>
      obtain ⟨⟨c1, c2, c3⟩, h⟩ := Holds.ite h
      rw [← r1.length] at c3
      exact .inr (.inl ⟨_, k, _, rfl, rfl, e1, by omega, c2, c3, Ans.lst F h (r1.rep _) (by rw [flat_len, Nat.mul_comm]; exact c3)⟩)
    | _ => exact h.no
  | tup s1 e1 l1 r1 => cases ry with
    | int k =>
      obtain ⟨⟨c1, c2, c3, c4⟩, h⟩ := Holds.ite h
      have hl := r1.length
      rw [← hl] at c4
      refine .inr (.inr ⟨_, k, _, rfl, rfl, .of e1, fun z => c1 (List.length_eq_zero_iff.mp (by rw [← hl, z]; rfl)), c2, c3, c4, Ans.tup F h (r1.rep _) ?_⟩)
      rw [flat_len]
      refine Nat.le_trans (Nat.mul_le_mul (show k.toNat ≤ 1000 by omega) c4) (by decide)
    | _ => exact h.no
  | _ => exact h.no
theorem op2_mod : Op2 X (rI (fun _ j => 0 < j) fun i j => .int (i % j)) oMod := by
  intro W σ w x y d e Q F rx ry h
  cases rx with
  | int i => cases ry with
    | int j =>
      obtain ⟨c, h⟩ := Holds.ite h
      exact ⟨i, j, rfl, rfl, c, Ans.val F h (.int _)⟩
    | _ => exact h.no
  | _ => exact h.no
theorem op2_div : Op2 X (rI CDiv fun i j => .int (i / j)) oDiv := by
  intro W σ w x y d e Q F rx ry h
  cases rx with
  | int i => cases ry with
    | int j =>
      obtain ⟨c, h⟩ := Holds.ite h
      exact ⟨i, j, rfl, rfl, c, Ans.val F h (.int _)⟩
    | _ => exact h.no
  | _ => exact h.no
theorem op2_pow : Op2 X (rI CPow fun i j => .int (i ^ j.toNat)) oPow := by
  intro W σ w x y d e Q F rx ry h
  cases rx with
  | int i => cases ry with
    | int j =>
      obtain ⟨c, h⟩ := Holds.ite h
      exact ⟨i, j, rfl, rfl, c, Ans.val F h (.int _)⟩
    | _ => exact h.no
  | _ => exact h.no
theorem op1_neg : Op1 X (rU fun i => .int (-i)) oNeg := by
  intro W σ w x d Q F rx h
  cases rx with
  | int i => exact ⟨i, rfl, Ans.val F h (.int _)⟩
  | _ => exact h.no
variable {pos : Pos}
theorem me_add (ha : ME X W a f) (hb : ME X W b g) : ME X W (.BinOp a .Add b pos) (e2 oAdd f g) := me_bin op_addA op2_add ha hb
theorem me_sub (ha : ME X W a f) (hb : ME X W b g) : ME X W (.BinOp a .Sub b pos) (e2 oSub f g) := me_bin op_sub op2_sub ha hb
theorem me_mul (ha : ME X W a f) (hb : ME X W b g) : ME X W (.BinOp a .Mult b pos) (e2 oMul f g) := me_bin op_mulA op2_mul ha hb
theorem me_mod (ha : ME X W a f) (hb : ME X W b g) : ME X W (.BinOp a .Mod b pos) (e2 oMod f g) := me_bin op_mod op2_mod ha hb
theorem me_div (ha : ME X W a f) (hb : ME X W b g) : ME X W (.BinOp a .FloorDiv b pos) (e2 oDiv f g) := me_bin op_fdiv op2_div ha hb
theorem me_pow (ha : ME X W a f) (hb : ME X W b g) : ME X W (.BinOp a .Pow b pos) (e2 oPow f g) := me_bin op_pow op2_pow ha hb
theorem me_neg (ha : ME X W a f) : ME X W (.UnaryOp .USub a pos) (e1 oNeg f) := me_un un_neg op1_neg ha

/-! comparisons -/
mutual
def toP : D → Option PyData
  | .non => some .none
  | .bl b => some (.bool b)
  | .int i => some (.int i)
  | .str x => some (.str x)
  | .lst xs => match toPs xs with
    | some ps => some (.list ps)
    | none => none
  | .tup xs => match toPs xs with
    | some ps => some (.tuple ps)
    | none => none
  | .scr ns => some (.list (ns.map .int))
  | _ => none
def toPs : List D → Option (List PyData)
  | [] => some []
  | x :: xs => match toP x, toPs xs with
    | some p, some ps => some (p :: ps)
    | _, _ => none
end
theorem dp_ints {K : PySem.W.Frag} {H : Hp} : ∀ ns : List Int, DpAll K H (ns.map V.int) (ns.map PyData.int)
  | [] => .nil
  | n :: ns => .cons (.int n) (dp_ints ns)
mutual
theorem Rep.dp {K : PySem.W.Frag} {S : Addr → Prop} {μ : List Addr} {H : Hp} : ∀ {v : V} {d : D} {p : PyData}, Rep K S μ H v d → toP d = some p → Dp K H v p
  | _, _, _, .non, e => by cases e; exact .non
  | _, _, _, .bl b, e => by cases e; exact .bl b
  | _, _, _, .int b, e => by cases e; exact .int b
  | _, _, _, .str b _ _, e => by cases e; exact .str b
  | _, _, _, .lst (ds := ds) _ h _ r, e => by
    unfold toP at e
    cases q : toPs ds with
    | none => rw [q] at e; cases e
    | some ps => rw [q] at e; cases e; exact .lst (.of h) (Reps.dp r q)
  | _, _, _, .tup (ds := ds) _ h _ r, e => by
    unfold toP at e
    cases q : toPs ds with
    | none => rw [q] at e; cases e
    | some ps => rw [q] at e; cases e; exact .tup (.of h) (Reps.dp r q)
  | _, _, _, .scr (ns := ns) _ h, e => by
    unfold toP at e
    cases e
    exact .lst h (dp_ints ns)
  | _, _, _, .dic .., e => by unfold toP at e; cases e
  | _, _, _, .cell .., e => by unfold toP at e; cases e
  | _, _, _, .ref .., e => by unfold toP at e; cases e
  | _, _, _, .ty .., e => by unfold toP at e; cases e
theorem Reps.dp {K : PySem.W.Frag} {S : Addr → Prop} {μ : List Addr} {H : Hp} : ∀ {v : List V} {d : List D} {p : List PyData}, Reps K S μ H v d → toPs d = some p → DpAll K H v p
  | _, _, _, .nil, e => by unfold toPs at e; cases e; exact .nil
  | _, _, _, .cons (d := d) (ds := ds) h t, e => by
    unfold toPs at e
    cases q : toP d with
    | none => rw [q] at e; cases e
    | some p => cases q' : toPs ds with
      | none => rw [q, q'] at e; cases e
      | some ps => rw [q, q'] at e; cases e; exact .cons (Rep.dp h q) (Reps.dp t q')
end

def pyEq (d e : D) : Option Bool := match toP d, toP e with
  | some p, some q => if SeqAt.shaped p = true ∧ SeqAt.shaped q = true then some (PyData.eqv p q) else none
  | _, _ => none
@[simp] def oEq (d e : D) : M D := match pyEq d e with
  | some b => M.ret (.bl b)
  | none => M.stuck
@[simp] def oNe (d e : D) : M D := match pyEq d e with
  | some b => M.ret (.bl (!b))
  | none => M.stuck
theorem pyEq_some {d e : D} {b : Bool} (h : pyEq d e = some b) : ∃ p q, toP d = some p ∧ toP e = some q ∧ SeqAt.shaped p = true ∧ SeqAt.shaped q = true ∧ b = PyData.eqv p q := by
  unfold pyEq at h
  cases q1 : toP d with
  | none => rw [q1] at h; cases h
  | some p => cases q2 : toP e with
    | none => rw [q1, q2] at h; cases h
    | some q =>
      rw [q1, q2] at h
      dsimp only at h
      by_cases c : SeqAt.shaped p = true ∧ SeqAt.shaped q = true
      · rw [if_pos c] at h; cases h; exact ⟨p, q, rfl, rfl, c.1, c.2, rfl⟩
      · rw [if_neg c] at h; cases h
theorem op2_eq : Op2 X (rEqD X.K) oEq := by
  intro W σ w x y d e Q F rx ry h
  unfold oEq at h
  cases q : pyEq d e with
  | none => rw [q] at h; exact h.no
  | some b =>
    rw [q] at h
    obtain ⟨p, p', h1, h2, h3, h4, rfl⟩ := pyEq_some q
    exact ⟨p, p', rx.dp h1, ry.dp h2, h3, h4, Ans.val F h (.bl _)⟩
theorem op2_ne : Op2 X (rNeD X.K) oNe := by
  intro W σ w x y d e Q F rx ry h
  unfold oNe at h
  cases q : pyEq d e with
  | none => rw [q] at h; exact h.no
  | some b =>
    rw [q] at h
    obtain ⟨p, p', h1, h2, h3, h4, rfl⟩ := pyEq_some q
    exact ⟨p, p', rx.dp h1, ry.dp h2, h3, h4, Ans.val F h (.bl _)⟩
@[simp] def oCmp (c : Int → Int → Bool) (s : List Nat → List Nat → Bool) : D → D → M D
  | .int i, .int j => M.ret (.bl (c i j))
  | .str x, .str y => M.ret (.bl (s x.cps.toList y.cps.toList))
  | _, _ => M.stuck
@[simp] def oLt : D → D → M D := oCmp (fun i j => decide (i < j)) (fun x y => decide (x < y))
@[simp] def oLe : D → D → M D := oCmp (fun i j => decide (i ≤ j)) (fun x y => !decide (y < x))
@[simp] def oGt : D → D → M D := oCmp (fun i j => decide (j < i)) (fun x y => decide (y < x))
@[simp] def oGe : D → D → M D := oCmp (fun i j => decide (j ≤ i)) (fun x y => !decide (x < y))
def rCmp (c : Int → Int → Bool) (s : List Nat → List Nat → Bool) : R2 := fun x y H Q => rI0 (fun i j => .bl (c i j)) x y H Q ∨ (∃ i j, x = .str i ∧ y = .str j ∧ Q (.bl (s i.cps.toList j.cps.toList)) H)
theorem op2_cmp {c : Int → Int → Bool} {s : List Nat → List Nat → Bool} : Op2 X (rCmp c s) (oCmp c s) := by
  intro W σ w x y d e Q F rx ry h
  cases rx with
  | int i => cases ry with
    | int j => exact .inl ⟨i, j, rfl, rfl, Ans.val F h (.bl _)⟩
    | _ => exact h.no
  | str x => cases ry with
    | str y => exact .inr ⟨x, y, rfl, rfl, Ans.val F h (.bl _)⟩
    | _ => exact h.no
  | _ => exact h.no
theorem op_ltA : OpR X (compareOp .Lt) (rCmp (fun i j => decide (i < j)) (fun x y => decide (x < y))) := OpR.or op_lt op_lt_str
theorem op_leA : OpR X (compareOp .LtE) (rCmp (fun i j => decide (i ≤ j)) (fun x y => !decide (y < x))) := OpR.or op_le op_le_str
theorem op_gtA : OpR X (compareOp .Gt) (rCmp (fun i j => decide (j < i)) (fun x y => decide (y < x))) := OpR.or op_gt op_gt_str
theorem op_geA : OpR X (compareOp .GtE) (rCmp (fun i j => decide (j ≤ i)) (fun x y => !decide (x < y))) := OpR.or op_ge op_ge_str
@[simp] def isNon : D → Bool
  | .non => true
  | _ => false
@[simp] def oIsN (d e : D) : M D := match e with
  | .non => M.ret (.bl (isNon d))
  | _ => M.stuck
@[simp] def oNotN (d e : D) : M D := match e with
  | .non => M.ret (.bl (!isNon d))
  | _ => M.stuck
theorem Rep.isNon {K : PySem.W.Frag} {S : Addr → Prop} {μ : List Addr} {H : Hp} {v : V} {d : D} (h : Rep K S μ H v d) : decide (v = .non) = isNon d := by
  cases h <;> first | rfl | exact decide_eq_false (fun z => nomatch z)
theorem op2_isN : Op2 X (fun x y H Q => y = .non ∧ Q (.bl (decide (x = .non))) H) oIsN := by
  intro W σ w x y d e Q F rx ry h
  cases ry with
  | non => rw [rx.isNon]; exact ⟨rfl, Ans.val F h (.bl _)⟩
  | _ => exact h.no
theorem op2_notN : Op2 X (fun x y H Q => y = .non ∧ Q (.bl (!decide (x = .non))) H) oNotN := by
  intro W σ w x y d e Q F rx ry h
  cases ry with
  | non => rw [rx.isNon]; exact ⟨rfl, Ans.val F h (.bl _)⟩
  | _ => exact h.no
/-- in, not in a list, a tuple -/
def anyEq (d : D) (xs : List D) : Option Bool := match toP d, toPs xs with
  | some p, some ps => if SeqAt.shaped p = true ∧ SeqAt.shaped (.list ps) = true then some (ps.any fun z => PyData.eqv z p) else none
  | _, _ => none
theorem anyEq_some {d : D} {xs : List D} {b : Bool} (h : anyEq d xs = some b) : ∃ p ps, toP d = some p ∧ toPs xs = some ps ∧ SeqAt.shaped p = true ∧ SeqAt.shaped (.list ps) = true ∧ b = ps.any fun z => PyData.eqv z p := by
  unfold anyEq at h
  cases q1 : toP d with
  | none => rw [q1] at h; cases h
  | some p => cases q2 : toPs xs with
    | none => rw [q1, q2] at h; cases h
    | some q =>
      rw [q1, q2] at h
      dsimp only at h
      by_cases c : SeqAt.shaped p = true ∧ SeqAt.shaped (.list q) = true
      · rw [if_pos c] at h; cases h; exact ⟨p, q, rfl, rfl, c.1, c.2, rfl⟩
      · rw [if_neg c] at h; cases h

/-! tests -/
@[simp] def asB : D → M Bool
  | .bl b => M.ret b
  | _ => M.stuck
@[simp] def tst (f : Env → M D) : Env → M Bool := fun ρ => (f ρ).bind asB
theorem asB_ok {K : PySem.W.Frag} {mg : Str → Option Value} {σ : L2.St} {w : Wd} {d : D} {x : V} {Q : Bool → Hp → Prop} (F : Fits K w) (h : Holds K mg W σ w (asB d w.ω) fun b w' => Q b w'.H) (r : w.rep K x d) : ∃ c, x = .bl c ∧ Q c w.H := by
  cases r with
  | bl b => exact ⟨b, rfl, Holds.here F h⟩
  | _ => exact h.no
theorem sub_tst : ∀ σ H Q, tMT X.K X.mg W (tst f) σ H Q → tM X.K X.mg W f σ H fun x H1 => ∃ c, x = .bl c ∧ Q c H1 := by
  rintro σ H Q ⟨w, ρ, rfl, F, E, h⟩
  exact ⟨w, ρ, rfl, F, E, Holds.thn h fun d w1 g1 F1 h1 x rx => asB_ok F1 h1 rx⟩
theorem mt_val (h : ME X W a f) (he : ∀ whole, isTrue a X.env whole = (do let v ← whole; standAt a.pos; holding [v] (truthy v)) := by intro _; rfl) : MT X W a (tst f) := PT.sub (pt_val h he) sub_tst
theorem mt_cmp {op : CmpOp} {r : R2} {o : D → D → M D} (ho : OpR X (compareOp op) r) (h2 : Op2 X r o) (ha : ME X W a f) (hb : ME X W b g) (hm : behindInMarks op b = false) : MT X W (.Compare a [op] [b] pos) (tst (e2 o f g)) :=
  PT.sub (pt_cmpR ho ha hb hm) fun σ H Q h => sub2 h2 _ _ _ (sub_tst σ H Q h)
@[simp] def bAnd (f g : Env → M Bool) : Env → M Bool := fun ρ => (f ρ).bind fun b => if b = true then g ρ else M.ret false
@[simp] def bOr (f g : Env → M Bool) : Env → M Bool := fun ρ => (f ρ).bind fun b => if b = true then M.ret true else g ρ
@[simp] def bNot (f : Env → M Bool) : Env → M Bool := fun ρ => (f ρ).bind fun b => M.ret (!b)
variable {u v : Env → M Bool} {rest : List Expr}
theorem mt_not (ha : MT X W a u) : MT X W (.UnaryOp .Not a pos) (bNot u) := by
  refine PT.sub (pt_not ha) ?_
  rintro σ H Q ⟨w, ρ, rfl, F, E, h⟩
  exact ⟨w, ρ, rfl, F, E, Holds.thn h fun b w1 g1 F1 h1 => Holds.here F1 h1⟩
theorem mw_and1 (ha : MT X W a u) : MW X W (.BoolOp .And [a] pos) u := pw_and1 ha
theorem mw_or1 (ha : MT X W a u) : MW X W (.BoolOp .Or [a] pos) u := pw_or1 ha
theorem mw_and (ha : MT X W a u) (hb : MW X W (.BoolOp .And (b :: rest) pos) v) : MW X W (.BoolOp .And (a :: b :: rest) pos) (bAnd u v) := by
  refine PW.sub (pw_and ha hb) ?_
  rintro σ H Q ⟨w, ρ, rfl, F, E, h⟩
  refine ⟨w, ρ, rfl, F, E, Holds.thn h fun b w1 g1 F1 h1 => ?_⟩
  cases b with
  | true => rw [if_pos rfl] at h1 ⊢; exact ⟨w1, ρ, rfl, F1, E.grow g1, h1⟩
  | false => rw [if_neg Bool.false_ne_true] at h1 ⊢; exact Holds.here F1 h1
theorem mw_or (ha : MT X W a u) (hb : MW X W (.BoolOp .Or (b :: rest) pos) v) : MW X W (.BoolOp .Or (a :: b :: rest) pos) (bOr u v) := by
  refine PW.sub (pw_or ha hb) ?_
  rintro σ H Q ⟨w, ρ, rfl, F, E, h⟩
  refine ⟨w, ρ, rfl, F, E, Holds.thn h fun b w1 g1 F1 h1 => ?_⟩
  cases b with
  | true => rw [if_pos rfl] at h1 ⊢; exact Holds.here F1 h1
  | false => rw [if_neg Bool.false_ne_true] at h1 ⊢; exact ⟨w1, ρ, rfl, F1, E.grow g1, h1⟩
theorem MW.mt {X : Cx} {W : WX} {e : Expr} {f : Env → M Bool} (h : MW X W e f) : MT X W e f := PW.pt h
@[simp] def vAnd (f g : Env → M D) : Env → M D := fun ρ => (f ρ).bind fun d => (asB d).bind fun b => if b = true then g ρ else M.ret (.bl false)
@[simp] def vOr (f g : Env → M D) : Env → M D := fun ρ => (f ρ).bind fun d => (asB d).bind fun b => if b = true then M.ret (.bl true) else g ρ
@[simp] def vNot (f : Env → M D) : Env → M D := fun ρ => (f ρ).bind fun d => (asB d).bind fun b => M.ret (.bl (!b))
theorem asB_thn {K : PySem.W.Frag} {mg : Str → Option Value} {σ : L2.St} {w : Wd} {d : D} {x : V} {k : Bool → M D} {P : D → Wd → Prop} (F : Fits K w) (h : Holds K mg W σ w ((asB d).bind k w.ω) P) (r : w.rep K x d) : ∃ c, x = .bl c ∧ Holds K mg W σ w (k c w.ω) P := by
  cases r with
  | bl b => exact ⟨b, rfl, h⟩
  | _ => exact Holds.no (α := D) h
theorem me_one {op : BoolOp} (h : ME X W a f) : ME X W (.BoolOp op [a] pos) f := pe_one h
theorem me_and (ha : ME X W a f) (hb : ME X W (.BoolOp .And (b :: rest) pos) g) : ME X W (.BoolOp .And (a :: b :: rest) pos) (vAnd f g) := by
  refine PE.sub (pe_and ha hb) ?_
  rintro σ H Q ⟨w, ρ, rfl, F, E, h⟩
  refine ⟨w, ρ, rfl, F, E, Holds.thn h fun d w1 g1 F1 h1 x rx => ?_⟩
  obtain ⟨c, rfl, h2⟩ := asB_thn F1 h1 rx
  refine ⟨c, rfl, ?_⟩
  cases c with
  | true => rw [if_pos rfl] at h2 ⊢; exact ⟨w1, ρ, rfl, F1, E.grow g1, h2⟩
  | false => rw [if_neg Bool.false_ne_true] at h2 ⊢; exact Ans.val F1 h2 (.bl _)
theorem me_or (ha : ME X W a f) (hb : ME X W (.BoolOp .Or (b :: rest) pos) g) : ME X W (.BoolOp .Or (a :: b :: rest) pos) (vOr f g) := by
  refine PE.sub (pe_or ha hb) ?_
  rintro σ H Q ⟨w, ρ, rfl, F, E, h⟩
  refine ⟨w, ρ, rfl, F, E, Holds.thn h fun d w1 g1 F1 h1 x rx => ?_⟩
  obtain ⟨c, rfl, h2⟩ := asB_thn F1 h1 rx
  refine ⟨c, rfl, ?_⟩
  cases c with
  | true => rw [if_pos rfl] at h2 ⊢; exact Ans.val F1 h2 (.bl _)
  | false => rw [if_neg Bool.false_ne_true] at h2 ⊢; exact ⟨w1, ρ, rfl, F1, E.grow g1, h2⟩
theorem me_not (ha : ME X W a f) : ME X W (.UnaryOp .Not a pos) (vNot f) := by
  refine PE.sub (pe_not ha) ?_
  rintro σ H Q ⟨w, ρ, rfl, F, E, h⟩
  refine ⟨w, ρ, rfl, F, E, Holds.thn h fun d w1 g1 F1 h1 x rx => ?_⟩
  obtain ⟨c, rfl, h2⟩ := asB_thn F1 h1 rx
  exact ⟨c, rfl, Ans.val F1 h2 (.bl _)⟩
@[simp] def eIf (c : Env → M Bool) (f g : Env → M D) : Env → M D := fun ρ => (c ρ).bind fun b => if b = true then f ρ else g ρ
theorem me_if {c : Expr} (hc : MT X W c u) (ha : ME X W a f) (hb : ME X W b g) : ME X W (.IfExp c a b pos) (eIf u f g) := by
  refine PE.sub (pe_ifExp hc ha hb) ?_
  rintro σ H Q ⟨w, ρ, rfl, F, E, h⟩
  refine ⟨w, ρ, rfl, F, E, Holds.thn h fun b w1 g1 F1 h1 => ?_⟩
  cases b with
  | true => rw [if_pos rfl] at h1 ⊢; exact ⟨w1, ρ, rfl, F1, E.grow g1, h1⟩
  | false => rw [if_neg Bool.false_ne_true] at h1 ⊢; exact ⟨w1, ρ, rfl, F1, E.grow g1, h1⟩
/-- a op b op' c -/
@[simp] def eChain (o o' : D → D → M D) (f g h : Env → M D) : Env → M D := fun ρ => (f ρ).bind fun d => (g ρ).bind fun e => (o d e).bind fun z => (asB z).bind fun b => if b = true then (h ρ).bind fun z' => o' e z' else M.ret (.bl false)

/-! arguments, displays -/
@[simp] def aNil : Env → M (List D) := fun _ => M.ret []
@[simp] def aCons (f : Env → M D) (r : Env → M (List D)) : Env → M (List D) := fun ρ => (f ρ).bind fun d => (r ρ).bind fun ds => M.ret (d :: ds)
theorem ma_nil : MA X W [] aNil := by
  refine PA.sub pa_nil ?_
  rintro σ H Q ⟨w, ρ, rfl, F, E, h⟩
  exact Holds.here F h [] .nil
variable {es : List Expr} {fs : Env → M (List D)}
theorem ma_cons (ha : ME X W a f) (hr : MA X W es fs) (hs : starEach (a :: es) X.env = (false, eval a X.env) :: starEach es X.env := by rfl) : MA X W (a :: es) (aCons f fs) := by
  refine PA.sub (pa_cons ha hr hs) ?_
  rintro σ H Q ⟨w, ρ, rfl, F, E, h⟩
  refine ⟨w, ρ, rfl, F, E, Holds.thn h fun d w1 g1 F1 h1 x rx => ?_⟩
  refine ⟨w1, ρ, rfl, F1, E.grow g1, Holds.thn h1 fun ds w2 g2 F2 h2 xs rs => ?_⟩
  exact Holds.here F2 h2 (x :: xs) (.cons (g2.rep rx) rs)
@[simp] def eTup (fs : Env → M (List D)) : Env → M D := eN (fun ds => if ds.length ≤ 1000 then M.ret (.tup ds) else M.stuck) fs
@[simp] def eLst (fs : Env → M (List D)) : Env → M D := eN (fun ds => if ds.length ≤ 1000 then M.ret (.lst ds) else M.stuck) fs
theorem sz1000 {n : Nat} (h : n ≤ 1000) : n ≤ sizeLine := Nat.le_trans h (by decide)
theorem me_tup {k : Nat} (h : MA X W es fs) : ME X W (.Tuple es k pos) (eTup fs) := by
  refine PE.sub (pe_tup h) ?_
  rintro σ H Q ⟨w, ρ, rfl, F, E, h⟩
  refine ⟨w, ρ, rfl, F, E, Holds.thn h fun ds w1 g1 F1 h1 xs rs => ?_⟩
  obtain ⟨c, h1⟩ := Holds.ite h1
  have c' : xs.length ≤ sizeLine := sz1000 (by rw [rs.length]; exact c)
  exact ⟨c', Ans.tup F1 h1 rs c'⟩
theorem me_lst (h : MA X W es fs) : ME X W (.List es pos) (eLst fs) := by
  refine PE.sub (pe_lst h) ?_
  rintro σ H Q ⟨w, ρ, rfl, F, E, h⟩
  refine ⟨w, ρ, rfl, F, E, Holds.thn h fun ds w1 g1 F1 h1 xs rs => ?_⟩
  obtain ⟨c, h1⟩ := Holds.ite h1
  have c' : xs.length ≤ sizeLine := sz1000 (by rw [rs.length]; exact c)
  exact ⟨c', Ans.lst F1 h1 rs c'⟩
theorem me_callB {id : String} {r : List V → Hp → VK → Prop} {o : List D → M D} {x : Str} {p : Pos} (hc : CallR X (.builtin id) r) (h2 : OpN X r o) (hg : Gl X x) (hm : X.mg x = none) (hv : bootBuiltins x = some (.builtin id)) (ha : MA X W (a :: es) fs)
    (hn : x ≠ "__name__" := by decide) (hdb : (x == ("__debug__" : Str)) = false := by decide) (he : starEach (a :: es) X.env = (false, eval a X.env) :: starEach es X.env := by rfl) (hpl : (backTo pos (starEach es X.env)).any (·.1) = false := by rfl) : ME X W (.Call (.Name x p) (a :: es) [] pos) (eN o fs) := by
  refine PE.sub (pe_callB hc hg hm hv ha hn hdb he hpl) ?_
  rintro σ H Q ⟨w, ρ, rfl, F, E, h⟩
  exact ⟨w, ρ, rfl, F, E, Holds.thn h fun ds w1 g1 F1 h1 xs rs => h2 W σ w1 xs ds Q F1 rs h1⟩
theorem me_callTy {T : String} {r : List V → Hp → VK → Prop} {o : List D → M D} {x : Str} {p : Pos} (hc : CallR X (.type T) r) (h2 : OpN X r o) (hg : Gl X x) (hm : X.mg x = none) (hv : bootBuiltins x = some (.type T)) (ha : MA X W (a :: es) fs)
    (hn : x ≠ "__name__" := by decide) (hdb : (x == ("__debug__" : Str)) = false := by decide) (he : starEach (a :: es) X.env = (false, eval a X.env) :: starEach es X.env := by rfl) (hpl : (backTo pos (starEach es X.env)).any (·.1) = false := by rfl) : ME X W (.Call (.Name x p) (a :: es) [] pos) (eN o fs) := by
  refine PE.sub (pe_callTy hc hg hm hv ha hn hdb he hpl) ?_
  rintro σ H Q ⟨w, ρ, rfl, F, E, h⟩
  exact ⟨w, ρ, rfl, F, E, Holds.thn h fun ds w1 g1 F1 h1 xs rs => h2 W σ w1 xs ds Q F1 rs h1⟩
end
end Mi
namespace Mi
open PySem PySem.Spec PyProof.Rows L2

section
variable {X : Cx} {W : WX} {a b c : Expr} {f g h : Env → M D} {pos : Pos}
theorem sub_chain {r r' : R2} {o o' : D → D → M D} (h2 : Op2 X r o) (h2' : Op2 X r' o') : ∀ σ H Q, tM X.K X.mg W (eChain o o' f g h) σ H Q → tChain r r' (tM X.K X.mg W f) (tM X.K X.mg W g) (tM X.K X.mg W h) σ H Q := by
  rintro σ H Q ⟨w, ρ, rfl, F, E, q⟩
  refine ⟨w, ρ, rfl, F, E, Holds.thn q fun d w1 g1 F1 q1 x rx => ?_⟩
  refine ⟨w1, ρ, rfl, F1, E.grow g1, Holds.thn q1 fun e w2 g2 F2 q2 y ry => ?_⟩
  refine h2 W σ w2 x y d e _ F2 (g2.rep rx) ry (Holds.thn q2 fun z w3 g3 F3 q3 v rv => ?_)
  obtain ⟨k, rfl, q4⟩ := asB_thn F3 q3 rv
  refine ⟨k, rfl, ?_⟩
  cases k with
  | true =>
    rw [if_pos rfl] at q4 ⊢
    refine ⟨w3, ρ, rfl, F3, (E.grow g1).grow (g2.trans g3), Holds.thn q4 fun z' w4 g4 F4 q5 v' rv' => ?_⟩
    exact h2' W σ w4 y v' e z' Q F4 ((g3.trans g4).rep ry) rv' q5
  | false => rw [if_neg Bool.false_ne_true] at q4 ⊢; exact Ans.val F3 q4 (.bl _)
theorem me_chain {op op' : CmpOp} {r r' : R2} {o o' : D → D → M D} (ho : OpR X (compareOp op) r) (ho' : OpR X (compareOp op') r') (h2 : Op2 X r o) (h2' : Op2 X r' o') (ha : ME X W a f) (hb : ME X W b g) (hc : ME X W c h)
    (hm : lastMarks [op, op'] [b, c] = false := by with_unfolding_all rfl) : ME X W (.Compare a [op, op'] [b, c] pos) (eChain o o' f g h) := PE.sub (pe_chain ho ho' ha hb hc hm) (sub_chain h2 h2')
theorem mt_chain {op op' : CmpOp} {r r' : R2} {o o' : D → D → M D} (ho : OpR X (compareOp op) r) (ho' : OpR X (compareOp op') r') (h2 : Op2 X r o) (h2' : Op2 X r' o') (ha : ME X W a f) (hb : ME X W b g) (hc : ME X W c h)
    (hm : lastMarks [op, op'] [b, c] = false := by with_unfolding_all rfl) : MT X W (.Compare a [op, op'] [b, c] pos) (tst (eChain o o' f g h)) :=
  PT.sub (pt_chain ho ho' ha hb hc hm) fun σ H Q q => sub_chain h2 h2' _ _ _ (sub_tst σ H Q q)
end

/-! ### statements -/
inductive Out where
  | next (ρ : Env) (ω : List Cell) | ret (d : D) (ω : List Cell) | brk (ρ : Env) (ω : List Cell) | cont (ρ : Env) (ω : List Cell)
  | exc (c : Str) (ρ : Env) (ω : List Cell) | stuck
abbrev SM := Env → List Cell → Out
section
variable (K : PySem.W.Frag) (mg : Str → Option Value) (W : WX)
def HoldsS (w : Wd) (r : Out) (D : Ends) : Prop := match r with
  | .next ρ' ω' => ∀ w' σ', Grow w w' → Fits K w' → w'.ω = ω' → EnvRep K w' ρ' σ' → D.nx σ' w'.H
  | .ret d ω' => ∀ w' v, Grow w w' → Fits K w' → w'.ω = ω' → w'.rep K v d → D.rt v w'.H
  | .brk ρ' ω' => ∀ w' σ', Grow w w' → Fits K w' → w'.ω = ω' → EnvRep K w' ρ' σ' → D.bk σ' w'.H
  | .cont ρ' ω' => ∀ w' σ', Grow w w' → Fits K w' → w'.ω = ω' → EnvRep K w' ρ' σ' → D.ct σ' w'.H
  | .exc c ρ' ω' => ∀ w' σ' u, Grow w w' → Fits K w' → w'.ω = ω' → EnvRep K w' ρ' σ' → mg c = some u → W u none σ' w'.H
  | .stuck => False
def tMS (f : SM) : TS := fun D σ H => ∃ w ρ, w.H = H ∧ Fits K w ∧ EnvRep K w ρ σ ∧ HoldsS K mg W w (f ρ w.ω) D
end
def MS (X : Cx) (W : WX) (st : Stmt) (f : SM) : Prop := PS X st (tMS X.K X.mg W f)
def MSs (X : Cx) (W : WX) (st : List Stmt) (f : SM) : Prop := PSs X st (tMS X.K X.mg W f)
section
variable {K : PySem.W.Frag} {mg : Str → Option Value} {W : WX}
theorem HoldsS.grow {w w1 : Wd} {r : Out} {D : Ends} (g : Grow w w1) (h : HoldsS K mg W w r D) : HoldsS K mg W w1 r D := by
  cases r with
  | next ρ ω => exact fun w' σ' g' f e x => h w' σ' (g.trans g') f e x
  | ret ρ ω => exact fun w' σ' g' f e x => h w' σ' (g.trans g') f e x
  | brk ρ ω => exact fun w' σ' g' f e x => h w' σ' (g.trans g') f e x
  | cont ρ ω => exact fun w' σ' g' f e x => h w' σ' (g.trans g') f e x
  | exc c ρ ω => exact fun w' σ' u g' f e x m => h w' σ' u (g.trans g') f e x m
  | stuck => exact h
theorem HoldsS.no {w : Wd} {D : Ends} {R : Prop} (h : HoldsS K mg W w .stuck D) : R := h.elim
theorem HoldsS.next' {w : Wd} {ρ : Env} {σ : L2.St} {D : Ends} (F : Fits K w) (E : EnvRep K w ρ σ) (h : HoldsS K mg W w (.next ρ w.ω) D) : D.nx σ w.H := h w σ (Grow.refl w) F rfl E
theorem HoldsS.ret' {w : Wd} {d : D} {v : V} {D : Ends} (F : Fits K w) (E : w.rep K v d) (h : HoldsS K mg W w (.ret d w.ω) D) : D.rt v w.H := h w v (Grow.refl w) F rfl E
/-- first a value, then a statement -/
def thenS {α : Type} (m : Env → M α) (k : α → SM) : SM := fun ρ ω => match m ρ ω with
  | .ok a ω1 => k a ρ ω1
  | .raise c ω1 => .exc c ρ ω1
  | .stuck => .stuck
theorem HoldsS.thn {α : Type} {w : Wd} {ρ : Env} {σ : L2.St} {m : Env → M α} {k : α → SM} {D : Ends} {P : α → Wd → Prop} (E : EnvRep K w ρ σ) (h : HoldsS K mg W w (thenS m k ρ w.ω) D)
    (hp : ∀ a w1, Grow w w1 → Fits K w1 → EnvRep K w1 ρ σ → HoldsS K mg W w1 (k a ρ w1.ω) D → P a w1) : Holds K mg W σ w (m ρ w.ω) P := by
  unfold thenS at h
  cases q : m ρ w.ω with
  | ok a ω =>
    rw [q] at h
    intro w1 g1 f1 e1
    subst e1
    exact hp a w1 g1 f1 (E.grow g1) (h.grow g1)
  | raise c ω => rw [q] at h; exact fun w' u g' f e m => h w' σ u g' f e (E.grow g') m
  | stuck => rw [q] at h; exact h
end

section
variable {X : Cx} {W : WX} {a b : Expr} {f g : Env → M D} {u : Env → M Bool} {pos : Pos} {s t : SM} {st : Stmt} {sts sts' : List Stmt}
@[simp] def sNext : SM := fun ρ ω => .next ρ ω
@[simp] def sBrk : SM := fun ρ ω => .brk ρ ω
@[simp] def sCont : SM := fun ρ ω => .cont ρ ω
def sSeq (s t : SM) : SM := fun ρ ω => match s ρ ω with
  | .next ρ' ω' => t ρ' ω'
  | o => o
@[simp] def sSet (i : Nat) (f : Env → M D) : SM := thenS f fun d ρ ω => .next (ρ.set i (some d)) ω
@[simp] def sRet (f : Env → M D) : SM := thenS f fun d _ ω => .ret d ω
@[simp] def sRetN : SM := fun _ ω => .ret .non ω
@[simp] def sExpr (f : Env → M D) : SM := thenS f fun _ ρ ω => .next ρ ω
@[simp] def sIf (u : Env → M Bool) (s t : SM) : SM := thenS u fun b => if b = true then s else t
@[simp] def sRaise (c : Str) : SM := fun ρ ω => .exc c ρ ω
theorem mss_nil : MSs X W [] sNext := by
  refine PSs.sub pss_nil ?_
  rintro D σ H ⟨w, ρ, rfl, F, E, q⟩
  exact q.next' F E
theorem ms_pass : MS X W (.Pass pos) sNext := by
  refine PS.sub ps_pass ?_
  rintro D σ H ⟨w, ρ, rfl, F, E, q⟩
  exact q.next' F E
theorem ms_brk : MS X W (.Break pos) sBrk := by
  refine PS.sub ps_break ?_
  rintro D σ H ⟨w, ρ, rfl, F, E, q⟩
  exact q w σ (Grow.refl w) F rfl E
theorem ms_cont : MS X W (.Continue pos) sCont := by
  refine PS.sub ps_continue ?_
  rintro D σ H ⟨w, ρ, rfl, F, E, q⟩
  exact q w σ (Grow.refl w) F rfl E
theorem sub_seq : ∀ D σ H, tMS X.K X.mg W (sSeq s t) D σ H → tSeq (tMS X.K X.mg W s) (tMS X.K X.mg W t) D σ H := by
  rintro D σ H ⟨w, ρ, rfl, F, E, q⟩
  refine ⟨w, ρ, rfl, F, E, ?_⟩
  unfold sSeq at q
  cases z : s ρ w.ω with
  | next ρ' ω' =>
    rw [z] at q
    intro w' σ' g' F' e' E'
    subst e'
    exact ⟨w', ρ', rfl, F', E', q.grow g'⟩
  | ret d ω => rw [z] at q; exact q
  | brk d ω => rw [z] at q; exact q
  | cont d ω => rw [z] at q; exact q
  | exc c d ω => rw [z] at q; exact q
  | stuck => rw [z] at q; exact q
theorem mss_cons (h1 : MS X W st s) (h2 : MSs X W sts t) : MSs X W (st :: sts) (sSeq s t) := PSs.sub (pss_cons h1 h2) sub_seq
theorem mss_one (h1 : MS X W st s) : MSs X W [st] s := pss_one h1
theorem ms_ret (h1 : ME X W a f) : MS X W (.Return (some a) pos) (sRet f) := by
  refine PS.sub (ps_ret h1) ?_
  rintro D σ H ⟨w, ρ, rfl, F, E, q⟩
  exact ⟨w, ρ, rfl, F, E, HoldsS.thn E q fun d w1 g1 F1 E1 q1 v rv => q1.ret' F1 rv⟩
theorem ms_retN : MS X W (.Return none pos) sRetN := by
  refine PS.sub ps_retN ?_
  rintro D σ H ⟨w, ρ, rfl, F, E, q⟩
  exact q.ret' F .non
theorem ms_expr (h1 : ME X W a f) (hs : swapsWith a none pos.line X.env = pure false := by rfl) : MS X W (.Expr a pos) (sExpr f) := by
  refine PS.sub (ps_expr h1 hs) ?_
  rintro D σ H ⟨w, ρ, rfl, F, E, q⟩
  exact ⟨w, ρ, rfl, F, E, HoldsS.thn E q fun d w1 g1 F1 E1 q1 v rv => q1.next' F1 E1⟩
theorem ms_if {st1 st2 : List Stmt} (hc : MT X W a u) (ha : MSs X W st1 s) (hb : MSs X W st2 t) : MS X W (.If a st1 st2 pos) (sIf u s t) := by
  refine PS.sub (ps_if hc ha hb) ?_
  rintro D σ H ⟨w, ρ, rfl, F, E, q⟩
  refine ⟨w, ρ, rfl, F, E, HoldsS.thn E q fun b w1 g1 F1 E1 q1 => ?_⟩
  cases b with
  | true => rw [if_pos rfl] at q1 ⊢; exact ⟨w1, ρ, rfl, F1, E1, q1⟩
  | false => rw [if_neg Bool.false_ne_true] at q1 ⊢; exact ⟨w1, ρ, rfl, F1, E1, q1⟩
theorem ms_set {i : Nat} {x : Str} {pos' : Pos} (hN : X.N.Nodup) (hi : X.N[i]? = some x) (hx : Loc X.env.scope x) (he : ME X W a f) (hs : swapsWith a (some (.Name x pos')) pos.line X.env = pure false := by rfl) (hf : X.fn x = true ∨ X.env.scope.names.lookup x = some .local := by first | exact .inl rfl | exact .inr rfl | assumption) :
    MS X W (.Assign [.Name x pos'] a pos) (sSet i f) := by
  refine PS.sub (ps_set hN hi hx he hs hf) ?_
  rintro D σ H ⟨w, ρ, rfl, F, E, q⟩
  exact ⟨w, ρ, rfl, F, E, HoldsS.thn E q fun d w1 g1 F1 E1 q1 v rv => q1.next' F1 (E1.set rv)⟩
theorem ms_raise {C : Addr} {x m : Str} {j : Nat} {p p2 pos' : Pos} {B newId initId : String} {bmB : List Value} (hcalm : X.calm = true) (tk : Takes X W) (Fb : ExcBaseFacts B newId initId bmB) (q : PySem.W.excIn X.K C bmB newId = true) (gC : X.mg x = some (.ref C)) (kC : PySem.W.keepIn X.K (.ref C) = true) (r : Raises X (.ref C)) (hg : Gl X x)
    (hdb : (x == ("__debug__" : Str)) = false := by decide) : MS X W (.Raise (some (.Call (.Name x p) [.Constant (.str m) j p2] [] pos')) none pos) (sRaise x) := by
  refine PS.sub (ps_raise hcalm tk (pmk_own Fb q gC kC r hg hdb)) ?_
  rintro D σ H ⟨w, ρ, rfl, F, E, q⟩
  exact q w σ (.ref C) (Grow.refl w) F rfl E gC

/-! targets: vs the slots that are stored -/
theorem wipe_in {σ : L2.St} {i : Nat} : ∀ {vs : List Nat}, i ∈ vs → (wipe σ vs)[i]? = if i < σ.length then some none else none
  | [], h => by cases h
  | v :: vs, h => by
    unfold wipe
    by_cases e : v = i
    · subst e
      rw [List.getElem?_set]
      simp [wipe_length]
    · rw [List.getElem?_set_ne e]
      exact wipe_in (List.mem_of_ne_of_mem (fun z => e z.symm) h)
theorem wipe_not {σ : L2.St} {i : Nat} : ∀ {vs : List Nat}, i ∉ vs → (wipe σ vs)[i]? = σ[i]?
  | [], _ => rfl
  | v :: vs, h => by
    unfold wipe
    rw [List.getElem?_set_ne (fun e => h (by simp [e]))]
    exact wipe_not fun z => h (List.mem_cons_of_mem _ z)
theorem wipe_eq {σ σ' : L2.St} {vs : List Nat} (hl : σ'.length = σ.length) (h : ∀ i, i ∉ vs → σ'[i]? = σ[i]?) : wipe σ' vs = wipe σ vs := by
  apply List.ext_getElem?
  intro i
  by_cases hi : i ∈ vs
  · rw [wipe_in hi, wipe_in hi, hl]
  · rw [wipe_not hi, wipe_not hi]; exact h i hi
theorem wipe_set {σ : L2.St} {vs : List Nat} {i : Nat} {o : Option V} (hi : i ∈ vs) : wipe (σ.set i o) vs = wipe σ vs :=
  wipe_eq (by simp) fun j hj => List.getElem?_set_ne fun e => hj (by rw [← e]; exact hi)
theorem wipe_wipe {σ : L2.St} {vs : List Nat} : wipe (wipe σ vs) vs = wipe σ vs := wipe_eq (wipe_length σ vs) fun _ hj => wipe_not hj
def tMG (K : PySem.W.Frag) (vs : List Nat) (g : D → Env → Option Env) : TG := fun v σ H Q => ∃ w ρ d ρ', w.H = H ∧ Fits K w ∧ EnvRep K w ρ σ ∧ w.rep K v d ∧ g d ρ = some ρ' ∧ ∀ σ', EnvRep K w ρ' σ' → wipe σ' vs = wipe σ vs → Q σ' H
def MG (X : Cx) (vs : List Nat) (tg : Expr) (g : D → Env → Option Env) : Prop := PG X tg (tMG X.K vs g)
@[simp] def gN (i : Nat) : D → Env → Option Env := fun d ρ => some (ρ.set i (some d))
theorem mg_name {vs : List Nat} {i : Nat} {x : Str} (hN : X.N.Nodup) (hi : X.N[i]? = some x) (hx : Loc X.env.scope x) (hv : i ∈ vs := by decide) (hf : X.fn x = true ∨ X.env.scope.names.lookup x = some .local := by first | exact .inl rfl | exact .inr rfl | assumption) : MG X vs (.Name x pos) (gN i) := by
  refine PG.sub (pg_name hN hi hx hf) ?_
  rintro v σ H Q ⟨w, ρ, d, ρ', rfl, F, E, r, e, q⟩
  cases e
  exact q _ (E.set r) (wipe_set hv)
def tMGs (K : PySem.W.Frag) (vs : List Nat) (g : List D → Env → Option Env) : TGs := fun us σ H Q => ∃ w ρ ds ρ', w.H = H ∧ Fits K w ∧ EnvRep K w ρ σ ∧ w.reps K us ds ∧ g ds ρ = some ρ' ∧ ∀ σ', EnvRep K w ρ' σ' → wipe σ' vs = wipe σ vs → Q σ' H
def MGs (X : Cx) (vs : List Nat) (tg : List Expr) (g : List D → Env → Option Env) : Prop := PGs X tg (tMGs X.K vs g)
@[simp] def gsNil : List D → Env → Option Env := fun ds ρ => match ds with
  | [] => some ρ
  | _ => none
@[simp] def gsCons (g : D → Env → Option Env) (gs : List D → Env → Option Env) : List D → Env → Option Env := fun ds ρ => match ds with
  | d :: ds => match g d ρ with
    | some ρ' => gs ds ρ'
    | none => none
  | [] => none
theorem mgs_nil {vs : List Nat} : MGs X vs [] gsNil := by
  refine ⟨fun pins s σ H ws us Q I rr h => pgs_nil.run pins s σ H ws us Q I rr ?_⟩
  obtain ⟨w, ρ, ds, ρ', rfl, F, E, r, e, q⟩ := h
  cases r with
  | nil => cases e; exact ⟨rfl, q _ E rfl⟩
  | cons _ _ => cases e
theorem mgs_cons {vs : List Nat} {es : List Expr} {g1 : D → Env → Option Env} {gs : List D → Env → Option Env} (h1 : MG X vs a g1) (h2 : MGs X vs es gs)
    (hs : (assignEach (a :: es) X.env).map (·.2) = assign a X.env :: (assignEach es X.env).map (·.2) := by rfl) : MGs X vs (a :: es) (gsCons g1 gs) := by
  refine ⟨fun pins s σ H ws us Q I rr h => (pgs_cons h1 h2 hs).run pins s σ H ws us Q I rr ?_⟩
  obtain ⟨w, ρ, ds, ρ', rfl, F, E, r, e, q⟩ := h
  cases r with
  | nil => cases e
  | @cons v ws d ds r rs =>
    dsimp only [gsCons] at e
    cases z : g1 d ρ with
    | none => rw [z] at e; cases e
    | some ρ1 =>
      rw [z] at e
      exact ⟨_, _, rfl, w, ρ, d, ρ1, rfl, F, E, r, z, fun σ1 E1 e1 => ⟨w, ρ1, ds, ρ', rfl, F, E1, rs, e, fun σ2 E2 e2 => q σ2 E2 (e2.trans e1)⟩⟩
/-- (a, b, ..) = a tuple -/
@[simp] def gTp (n : Nat) (gs : List D → Env → Option Env) : D → Env → Option Env := fun d ρ => match d with
  | .tup ds => if ds.length = n then gs ds ρ else none
  | _ => none
theorem mg_tup {vs : List Nat} {es : List Expr} {k : Nat} {gs : List D → Env → Option Env} {n : Nat} (hc : X.calm = true) (h : MGs X vs es gs)
    (hn : (assignEach es X.env).length = n := by rfl) (hst : (assignEach es X.env).findIdx? (·.1) = none := by rfl) : MG X vs (.Tuple es k pos) (gTp n gs) := by
  refine PG.sub (pg_tup hc h hn hst) ?_
  rintro v σ H Q ⟨w, ρ, d, ρ', rfl, F, E, r, e, q⟩
  cases r with
  | @tup a us ds h1 h2 h3 h4 =>
    dsimp only [gTp] at e
    by_cases c : ds.length = n
    · rw [if_pos c] at e
      exact ⟨a, us, rfl, .of h2, h4.length.trans c, w, ρ, ds, ρ', rfl, F, E, h4, e, q⟩
    · rw [if_neg c] at e; cases e
  | _ => cases e
def sAsg (g : D → Env → Option Env) (f : Env → M D) : SM := thenS f fun d ρ ω => match g d ρ with
  | some ρ' => .next ρ' ω
  | none => .stuck
theorem ms_asg {vs : List Nat} {tg : Expr} {g : D → Env → Option Env} (he : ME X W a f) (hg : MG X vs tg g) (hs : swapsWithSole [tg] a pos.line X.env = pure false := by rfl) (hw : swappedStores [tg] a X.env = pure none := by rfl)
    (h1 : (assignEach [tg] X.env).map (·.2) = [assign tg X.env] := by rfl) : MS X W (.Assign [tg] a pos) (sAsg g f) := by
  refine PS.sub (ps_asg he hg hs hw h1) ?_
  rintro D σ H ⟨w, ρ, rfl, F, E, q⟩
  refine ⟨w, ρ, rfl, F, E, HoldsS.thn E q fun d w1 g1 F1 E1 q1 v rv => ?_⟩
  cases z : g d ρ with
  | none => rw [z] at q1; exact q1.no
  | some ρ' =>
    rw [z] at q1
    exact ⟨w1, ρ, d, ρ', rfl, F1, E1, rv, z, fun σ' E' _ => q1.next' F1 E'⟩

/-! iterations -/
structure Covers (K : PySem.W.Frag) (w : Wd) (J : It) (ds : List D) : Prop where
  go : ∀ w', Grow w w' → Fits K w' → ∀ i, i < ds.length → J.go i w'.H
  yld : ∀ w', Grow w w' → Fits K w' → ∀ (i : Nat) (d : D) (x : V) (H' : Hp), ds[i]? = some d → J.yld i w'.H x H' → ∃ w'', Grow w' w'' ∧ Fits K w'' ∧ w''.ω = w'.ω ∧ w''.H = H' ∧ w''.rep K x d
  stop : ∀ w', Grow w w' → Fits K w' → ∀ i, ds.length ≤ i → J.stop i w'.H
def tMI (K : PySem.W.Frag) (mg : Str → Option Value) (W : WX) (f : Env → M (List D)) : TI := fun σ H R => ∃ w ρ, w.H = H ∧ Fits K w ∧ EnvRep K w ρ σ ∧ Holds K mg W σ w (f ρ w.ω) fun ds w' => ∀ J, Covers K w' J ds → R J w'.H
def MI (X : Cx) (W : WX) (tg iter : Expr) (f : Env → M (List D)) : Prop := PI X tg iter (tMI X.K X.mg W f)
def loopS (g : D → Env → Option Env) (s : SM) : List D → SM
  | [], ρ, ω => .next ρ ω
  | d :: ds, ρ, ω => match g d ρ with
    | none => .stuck
    | some ρ1 => match s ρ1 ω with
      | .next ρ2 ω2 => loopS g s ds ρ2 ω2
      | .cont ρ2 ω2 => loopS g s ds ρ2 ω2
      | .brk ρ2 ω2 => .next ρ2 ω2
      | o => o
def sFor (fi : Env → M (List D)) (g : D → Env → Option Env) (s : SM) : SM := thenS fi fun ds => loopS g s ds
theorem ms_for {vs : List Nat} {tg iter : Expr} {body : List Stmt} {fi : Env → M (List D)} {g : D → Env → Option Env} (hp : PassesOwn (model X.prog X.w) X.A X.env X.xe) (hc : X.calm = true) (hi : MI X W tg iter fi) (hg : MG X vs tg g) (hb : MSs X W body s)
    (hs : ∀ x, foldedSetIterable iter X.env x = pure x := by intro _; rfl) : MS X W (.For tg iter body [] pos) (sFor fi g s) := by
  refine PS.sub (ps_for hp hc hi hg hb hs) ?_
  rintro D σ H ⟨w, ρ, rfl, F, E, q⟩
  refine ⟨w, ρ, rfl, F, E, HoldsS.thn E q fun ds w1 g1 F1 E1 q1 J C => ?_⟩
  refine ⟨fun i m σ H => m = ds.length - i ∧ i ≤ ds.length ∧ ∃ w' ρ', w'.H = H ∧ Grow w1 w' ∧ Fits X.K w' ∧ EnvRep X.K w' ρ' σ ∧ HoldsS X.K X.mg W w' (loopS g s (ds.drop i) ρ' w'.ω) D, ⟨ds.length, by simp, Nat.zero_le _, w1, ρ, rfl, Grow.refl _, F1, E1, q1⟩, ?_⟩
  rintro i m σ H ⟨rfl, hi, w', ρ', rfl, g', F', E', q'⟩
  by_cases hlt : i < ds.length
  · refine .inr ⟨C.go w' g' F' i hlt, fun σ' H' => ∃ w2 ρ2, w2.H = H' ∧ Grow w1 w2 ∧ Fits X.K w2 ∧ EnvRep X.K w2 ρ2 σ' ∧ HoldsS X.K X.mg W w2 (loopS g s (ds.drop (i + 1)) ρ2 w2.ω) D, ?_, ?_⟩
    · rintro σ' H' ⟨w2, ρ2, h1, h2, h3, h4, h5⟩
      exact ⟨ds.length - (i + 1), by omega, rfl, hlt, w2, ρ2, h1, h2, h3, h4, h5⟩
    · intro x H' y
      have e : ds[i]? = some ds[i] := List.getElem?_eq_getElem hlt
      obtain ⟨w2, g2, F2, eω, rfl, r2⟩ := C.yld w' g' F' i _ x H' e y
      rw [List.drop_eq_getElem_cons hlt] at q'
      unfold loopS at q'
      cases z : g ds[i] ρ' with
      | none => rw [z] at q'; exact q'.no
      | some ρ1 =>
        rw [z] at q'
        refine ⟨w2, ρ', ds[i], ρ1, rfl, F2, E'.grow g2, r2, z, fun σ2 E2 _ => ⟨w2, ρ1, rfl, F2, E2, ?_⟩⟩
        dsimp only at q'
        rw [eω]
        cases z2 : s ρ1 w'.ω with
        | next ρ2 ω2 =>
          rw [z2] at q'
          intro w3 σ3 g3 F3 e3 E3
          subst e3
          exact ⟨w3, ρ2, rfl, (g'.trans g2).trans g3, F3, E3, q'.grow (g2.trans g3)⟩
        | cont ρ2 ω2 =>
          rw [z2] at q'
          intro w3 σ3 g3 F3 e3 E3
          subst e3
          exact ⟨w3, ρ2, rfl, (g'.trans g2).trans g3, F3, E3, q'.grow (g2.trans g3)⟩
        | brk ρ2 ω2 => rw [z2] at q'; exact fun w3 σ3 g3 F3 e3 E3 => q' w3 σ3 (g2.trans g3) F3 e3 E3
        | ret d ω => rw [z2] at q'; exact fun w3 v g3 F3 e3 r3 => q' w3 v (g2.trans g3) F3 e3 r3
        | exc c d ω => rw [z2] at q'; exact fun w3 σ3 u g3 F3 e3 E3 m => q' w3 σ3 u (g2.trans g3) F3 e3 E3 m
        | stuck => rw [z2] at q'; exact q'
  · have e : i = ds.length := by omega
    subst e
    rw [List.drop_length] at q'
    exact .inl ⟨C.stop w' g' F' _ (Nat.le_refl _), q'.next' F' E'⟩
/-- while, so many turns at most -/
def whileS (u : Env → M Bool) (s : SM) : Nat → SM
  | 0 => fun _ _ => .stuck
  | n + 1 => thenS u fun b => if b = true then fun ρ ω => match s ρ ω with
      | .next ρ2 ω2 => whileS u s n ρ2 ω2
      | .cont ρ2 ω2 => whileS u s n ρ2 ω2
      | .brk ρ2 ω2 => .next ρ2 ω2
      | o => o
    else sNext
theorem ms_while (n : Nat) {body : List Stmt} (hp : PassesOwn (model X.prog X.w) X.A X.env X.xe) (hc : MT X W a u) (hb : MSs X W body s) : MS X W (.While a body [] pos) (whileS u s n) := by
  refine PS.sub (ps_while hp hc hb) ?_
  rintro D σ H ⟨w, ρ, rfl, F, E, q⟩
  refine ⟨fun m σ H => ∃ w ρ, w.H = H ∧ Fits X.K w ∧ EnvRep X.K w ρ σ ∧ HoldsS X.K X.mg W w (whileS u s m ρ w.ω) D, ⟨n, w, ρ, rfl, F, E, q⟩, ?_⟩
  rintro m σ H ⟨w, ρ, rfl, F, E, q⟩
  cases m with
  | zero => exact q.no
  | succ m =>
    refine ⟨w, ρ, rfl, F, E, HoldsS.thn E q fun b w1 g1 F1 E1 q1 => ?_⟩
    cases b with
    | false => rw [if_neg Bool.false_ne_true] at q1 ⊢; exact q1.next' F1 E1
    | true =>
      rw [if_pos rfl] at q1 ⊢
      refine ⟨fun σ' H' => ∃ w ρ, w.H = H' ∧ Fits X.K w ∧ EnvRep X.K w ρ σ' ∧ HoldsS X.K X.mg W w (whileS u s m ρ w.ω) D, fun σ' H' h' => ⟨m, Nat.lt_succ_self m, h'⟩, w1, ρ, rfl, F1, E1, ?_⟩
      cases z2 : s ρ w1.ω with
      | next ρ2 ω2 =>
        rw [z2] at q1
        intro w3 σ3 g3 F3 e3 E3
        subst e3
        exact ⟨w3, ρ2, rfl, F3, E3, q1.grow g3⟩
      | cont ρ2 ω2 =>
        rw [z2] at q1
        intro w3 σ3 g3 F3 e3 E3
        subst e3
        exact ⟨w3, ρ2, rfl, F3, E3, q1.grow g3⟩
      | brk ρ2 ω2 => rw [z2] at q1; exact q1
      | ret d ω => rw [z2] at q1; exact q1
      | exc c d ω => rw [z2] at q1; exact q1
      | stuck => rw [z2] at q1; exact q1
end
end Mi
namespace Mi
open PySem PySem.Spec PyProof.Rows L2
section
variable {X : Cx} {W : WX} {a b tg : Expr} {f g : Env → M D} {pos p : Pos}
/-! ### what is walked -/
@[simp] def asSeq : D → M (List D)
  | .lst ds => M.ret ds
  | .tup ds => M.ret ds
  | .str x => M.ret (x.cps.toList.map fun c => .str ⟨#[c]⟩)
  | _ => M.stuck
@[simp] def iSeq (f : Env → M D) : Env → M (List D) := fun ρ => (f ρ).bind asSeq
theorem cov_lst {K : PySem.W.Frag} {w : Wd} {a : Addr} {vs : List V} {ds : List D} (hS : w.S a) (e : w.H a = some (.lst vs)) (r : w.reps K vs ds) : Covers K w (Itl K a) ds := by
  have at' : ∀ w', Grow w w' → w'.H a = some (.lst vs) := fun w' g => g.fr a _ e (.inl hS)
  refine ⟨fun w' g F i hi => ?_, fun w' g F i d x H' hd y => ?_, fun w' g F i hi => ⟨vs, .of (at' w' g), by rw [r.length]; exact hi⟩⟩
  · have : i < vs.length := by rw [r.length]; exact hi
    exact ⟨vs, vs[i], .of (at' w' g), List.getElem?_eq_getElem this⟩
  · obtain ⟨rfl, h⟩ := y
    obtain ⟨v, h1, h2⟩ := (g.reps r).get hd
    have e2 := h vs (.of (at' w' g))
    rw [h1] at e2; cases e2
    exact ⟨w', Grow.refl _, F, rfl, rfl, h2⟩
theorem cov_tup {K : PySem.W.Frag} {w : Wd} {a : Addr} {vs : List V} {ds : List D} (hS : w.S a) (e : w.H a = some (.tup vs)) (r : w.reps K vs ds) : Covers K w (Itt K a) ds := by
  have at' : ∀ w', Grow w w' → w'.H a = some (.tup vs) := fun w' g => g.fr a _ e (.inl hS)
  refine ⟨fun w' g F i hi => ?_, fun w' g F i d x H' hd y => ?_, fun w' g F i hi => ⟨vs, .of (at' w' g), by rw [r.length]; exact hi⟩⟩
  · have : i < vs.length := by rw [r.length]; exact hi
    exact ⟨vs, vs[i], .of (at' w' g), List.getElem?_eq_getElem this⟩
  · obtain ⟨rfl, h⟩ := y
    obtain ⟨v, h1, h2⟩ := (g.reps r).get hd
    have e2 := h vs (.of (at' w' g))
    rw [h1] at e2; cases e2
    exact ⟨w', Grow.refl _, F, rfl, rfl, h2⟩
theorem cov_range {K : PySem.W.Frag} {w : Wd} {lo : Int} {n : Nat} : Covers K w (Itr lo n) ((List.range n).map fun (i : Nat) => D.int (lo + (i : Int))) := by
  refine ⟨fun w' g F i hi => ?_, fun w' g F i d x H' hd y => ?_, fun w' g F i hi => ?_⟩
  · show i < n; simpa using hi
  · obtain ⟨rfl, rfl⟩ := y
    rw [List.getElem?_map] at hd
    have hi : i < n := by
      rcases Nat.lt_or_ge i n with h | h
      · exact h
      · rw [List.getElem?_eq_none (by simpa using h)] at hd; cases hd
    rw [List.getElem?_eq_getElem (by simpa using hi)] at hd
    simp only [List.getElem_range, Option.map_some, Option.some.injEq] at hd
    subst hd
    exact ⟨w', Grow.refl _, F, rfl, rfl, .int _⟩
  · show n ≤ i; simpa using hi
theorem str_one {x : Str} {i c : Nat} (h : PyData.strOk x = true) (e : x.cps[i]? = some c) : PyData.strOk ⟨#[c]⟩ = true := by
  unfold PyData.strOk at *
  rw [Array.all_eq_true'] at h
  have hm : c ∈ x.cps := Array.mem_of_getElem? e
  have := h c hm
  simpa using this
theorem cov_str {K : PySem.W.Frag} {w : Wd} {x : Str} (hx : PyData.strOk x = true) : Covers K w (Its x) (x.cps.toList.map fun c => D.str ⟨#[c]⟩) := by
  refine ⟨fun w' g F i hi => ?_, fun w' g F i d y H' hd z => ?_, fun w' g F i hi => ?_⟩
  · show i < x.cps.size; simpa using hi
  · obtain ⟨rfl, c, hc, rfl⟩ := z
    rw [List.getElem?_map, Array.getElem?_toList, hc] at hd
    cases hd
    exact ⟨w', Grow.refl _, F, rfl, rfl, .str _ (by show 1 ≤ sizeLine; decide) (str_one hx hc)⟩
  · show x.cps.size ≤ i; simpa using hi
theorem mi_seq (ha : ME X W a f) : MI X W tg a (iSeq f) := by
  refine ⟨fun pins s σ H R I h => ?_⟩
  obtain ⟨w, ρ, rfl, F, E, q⟩ := h
  have key : ∀ (t : TI), PI X tg a t → t σ w.H R → wpAny (model X.prog X.w) X.A (eval a X.env) (fun v s1 => wpAny (model X.prog X.w) X.A (pyIter v) (PIE X pins σ tg R) X.xe s1) X.xe s := fun t ht hh => ht.run pins s σ w.H R I hh
  have q' := q
  unfold iSeq M.bind at q'
  cases z : f ρ w.ω with
  | ok d ω =>
    rw [z] at q'
    dsimp only at q'
    cases d with
    | lst ds =>
      refine key _ (pi_list ha) ⟨w, ρ, rfl, F, E, ?_⟩
      rw [z]
      rintro w1 g1 F1 rfl v (_ | _ | _ | _ | @⟨c, vs, _, h1, h2, h3, h4⟩)
      exact ⟨c, rfl, ⟨vs, .of h2⟩, (q'.grow g1) w1 (Grow.refl _) F1 rfl _ (cov_lst h1 h2 h4)⟩
    | tup ds =>
      refine key _ (pi_tup ha) ⟨w, ρ, rfl, F, E, ?_⟩
      rw [z]
      intro w1 g1 F1 e1 v r
      subst e1
      cases r with
      | @tup c vs _ h1 h2 h3 h4 => exact ⟨c, rfl, ⟨vs, .of h2⟩, (q'.grow g1) w1 (Grow.refl _) F1 rfl _ (cov_tup h1 h2 h4)⟩
    | str x =>
      refine key _ (pi_str ha) ⟨w, ρ, rfl, F, E, ?_⟩
      rw [z]
      intro w1 g1 F1 e1 v r
      subst e1
      cases r with
      | str _ h1 h2 => exact ⟨x, rfl, (q'.grow g1) w1 (Grow.refl _) F1 rfl _ (cov_str h2)⟩
    | _ => exact Holds.no (α := List D) q'
  | raise c ω =>
    rw [z] at q'
    refine key _ (pi_list ha) ⟨w, ρ, rfl, F, E, ?_⟩
    rw [z]; exact q'
  | stuck => rw [z] at q'; exact q'.elim
variable {es : List Expr} {fs : Env → M (List D)}
def big62 (n : Int) : Bool := decide (-(2 ^ 62) ≤ n) && decide (n < 2 ^ 62)
theorem big62_iff {n : Int} : big62 n = true ↔ -(2 ^ 62) ≤ n ∧ n < 2 ^ 62 := by unfold big62; simp
def rangeD (lo : Int) (n : Nat) : List D := (List.range n).map fun (i : Nat) => D.int (lo + (i : Int))
@[simp] def one {β : Type} (o : D → M β) : List D → M β
  | [d] => o d
  | _ => M.stuck
@[simp] def two {β : Type} (o : D → D → M β) : List D → M β
  | [d, e] => o d e
  | _ => M.stuck
theorem one_thn {β : Type} {K : PySem.W.Frag} {mg : Str → Option Value} {σ : L2.St} {w : Wd} {o : D → M β} {ds : List D} {vs : List V} {P : β → Wd → Prop} {R : Prop} (h : Holds K mg W σ w (one o ds w.ω) P) (r : w.reps K vs ds)
    (k : ∀ v d, vs = [v] → w.rep K v d → Holds K mg W σ w (o d w.ω) P → R) : R := by
  cases r with
  | nil => exact h.no
  | cons r rs => cases rs with
    | nil => exact k _ _ rfl r h
    | cons _ _ => exact h.no
theorem two_thn {β : Type} {K : PySem.W.Frag} {mg : Str → Option Value} {σ : L2.St} {w : Wd} {o : D → D → M β} {ds : List D} {vs : List V} {P : β → Wd → Prop} {R : Prop} (h : Holds K mg W σ w (two o ds w.ω) P) (r : w.reps K vs ds)
    (k : ∀ v u d e, vs = [v, u] → w.rep K v d → w.rep K u e → Holds K mg W σ w (o d e w.ω) P → R) : R := by
  cases r with
  | nil => exact h.no
  | cons r rs => cases rs with
    | nil => exact h.no
    | cons r' rs => cases rs with
      | nil => exact k _ _ _ _ rfl r r' h
      | cons _ _ => exact h.no
theorem opN_one {r : List V → Hp → VK → Prop} {o : D → M D} (h : Op1 X (fun x H Q => r [x] H Q) o) : OpN X r (one o) := by
  intro W σ w xs ds Q F rs q
  exact one_thn q rs fun v d e r' q' => by subst e; exact h W σ w v d Q F r' q'
theorem opN_two {r : List V → Hp → VK → Prop} {o : D → D → M D} (h : Op2 X (fun x y H Q => r [x, y] H Q) o) : OpN X r (two o) := by
  intro W σ w xs ds Q F rs q
  exact two_thn q rs fun v u d e e' r1 r2 q' => by subst e'; exact h W σ w v u d e Q F r1 r2 q'
@[simp] def asRange1 : D → M (List D)
  | .int n => if big62 n = true then M.ret (rangeD 0 n.toNat) else M.stuck
  | _ => M.stuck
@[simp] def asRange2 : D → D → M (List D)
  | .int i, .int j => if big62 i = true ∧ big62 j = true then M.ret (rangeD i (j - i).toNat) else M.stuck
  | _, _ => M.stuck
@[simp] def iRange1 (fs : Env → M (List D)) : Env → M (List D) := fun ρ => (fs ρ).bind (one asRange1)
@[simp] def iRange2 (fs : Env → M (List D)) : Env → M (List D) := fun ρ => (fs ρ).bind (two asRange2)
theorem mi_range1 (hg : Gl X "range") (hm : X.mg "range" = none) (ha : MA X W [a] fs) (hs : starEach [a] X.env = [(false, eval a X.env)] := by rfl) : MI X W tg (.Call (.Name "range" p) [a] [] pos) (iRange1 fs) := by
  refine PI.sub (pi_range1 hg hm ha hs) ?_
  rintro σ H R ⟨w, ρ, rfl, F, E, q⟩
  refine ⟨w, ρ, rfl, F, E, Holds.thn q fun ds w1 g1 F1 q1 vs rs => one_thn q1 rs fun v d ev r q2 => ?_⟩
  subst ev
  cases r with
  | int n =>
    obtain ⟨c, q1⟩ := Holds.ite q2
    rw [big62_iff] at c
    exact ⟨n, rfl, c.1, c.2, Holds.here F1 q1 _ cov_range⟩
  | _ => exact q2.no
theorem mi_range2 (hg : Gl X "range") (hm : X.mg "range" = none) (ha : MA X W [a, b] fs) (hs : starEach [a, b] X.env = [(false, eval a X.env), (false, eval b X.env)] := by rfl) (hs2 : starEach [b] X.env = [(false, eval b X.env)] := by rfl) : MI X W tg (.Call (.Name "range" p) [a, b] [] pos) (iRange2 fs) := by
  refine PI.sub (pi_range2 hg hm ha hs hs2) ?_
  rintro σ H R ⟨w, ρ, rfl, F, E, q⟩
  refine ⟨w, ρ, rfl, F, E, Holds.thn q fun ds w1 g1 F1 q1 vs rs => two_thn q1 rs fun v v' d d' ev r r' q2 => ?_⟩
  subst ev
  cases r with
  | int n => cases r' with
    | int m =>
      obtain ⟨c, q1⟩ := Holds.ite q2
      rw [big62_iff, big62_iff] at c
      exact ⟨n, m, rfl, ⟨c.1.1, c.1.2, c.2.1, c.2.2⟩, Holds.here F1 q1 _ cov_range⟩
    | _ => exact q2.no
  | _ => exact q2.no
/-- zip of two lists, of two tuples; enumerate of a list -/
def zipD : List D → List D → List D
  | x :: xs, y :: ys => .tup [x, y] :: zipD xs ys
  | _, _ => []
theorem zipD_get : ∀ (xs ys : List D) (i : Nat) (d : D), (zipD xs ys)[i]? = some d → ∃ x y, xs[i]? = some x ∧ ys[i]? = some y ∧ d = .tup [x, y]
  | [], _, _, _, h => by simp [zipD] at h
  | _ :: _, [], _, _, h => by simp [zipD] at h
  | x :: xs, y :: ys, 0, d, h => by simp [zipD] at h; subst h; exact ⟨x, y, rfl, rfl, rfl⟩
  | x :: xs, y :: ys, i + 1, d, h => by
    simp only [zipD, List.getElem?_cons_succ] at h
    simpa using zipD_get xs ys i d h
theorem zipD_len : ∀ (xs ys : List D), (zipD xs ys).length = min xs.length ys.length
  | [], _ => by simp [zipD]
  | _ :: _, [] => by simp [zipD]
  | x :: xs, y :: ys => by simp [zipD, zipD_len xs ys]
theorem pair_new {K : PySem.W.Frag} {w : Wd} {T : Addr} {x y : V} {d e : D} (F : Fits K w) (h : w.H T = none) (r1 : w.rep K x d) (r2 : w.rep K y e) : ∃ w'', Grow w w'' ∧ Fits K w'' ∧ w''.ω = w.ω ∧ w''.H = upd w.H T (.tup [x, y]) ∧ w''.rep K (.ref T) (.tup [d, e]) :=
  ⟨w.lay T (.tup [x, y]), lay_grow h, lay_fits F h, rfl, rfl, .tup (.inr rfl) upd_same (by show 2 ≤ sizeLine; decide) (.cons ((lay_grow h).rep r1) (.cons ((lay_grow h).rep r2) .nil))⟩
theorem cov_zip {K : PySem.W.Frag} {w : Wd} {a b : Addr} {vs us : List V} {ds es : List D} (hS : w.S a) (e : w.H a = some (.lst vs)) (r : w.reps K vs ds) (hS' : w.S b) (e' : w.H b = some (.lst us)) (r' : w.reps K us es) : Covers K w (Itz K a b) (zipD ds es) := by
  have at' : ∀ w', Grow w w' → w'.H a = some (.lst vs) := fun w' g => g.fr a _ e (.inl hS)
  have at2 : ∀ w', Grow w w' → w'.H b = some (.lst us) := fun w' g => g.fr b _ e' (.inl hS')
  have l1 := r.length
  have l2 := r'.length
  refine ⟨fun w' g F i hi => ?_, fun w' g F i d x H' hd y => ?_, fun w' g F i hi => ⟨vs, us, .of (at' w' g), .of (at2 w' g), ?_⟩⟩
  · rw [zipD_len] at hi
    exact ⟨vs, us, vs[i], us[i], .of (at' w' g), .of (at2 w' g), List.getElem?_eq_getElem _, List.getElem?_eq_getElem _⟩
  · obtain ⟨T, x, y, rfl, hT, rfl, h1, h2⟩ := y
    obtain ⟨d1, d2, z1, z2, rfl⟩ := zipD_get _ _ _ _ hd
    obtain ⟨v, u1, u2⟩ := (g.reps r).get z1
    obtain ⟨v', u3, u4⟩ := (g.reps r').get z2
    have e1 := h1 vs (.of (at' w' g))
    have e2 := h2 us (.of (at2 w' g))
    rw [u1] at e1; cases e1
    rw [u3] at e2; cases e2
    exact pair_new F hT u2 u4
  · rw [zipD_len] at hi; omega
theorem cov_zipT {K : PySem.W.Frag} {w : Wd} {a b : Addr} {vs us : List V} {ds es : List D} (hS : w.S a) (e : w.H a = some (.tup vs)) (r : w.reps K vs ds) (hS' : w.S b) (e' : w.H b = some (.tup us)) (r' : w.reps K us es) : Covers K w (RZ.ItzT K a b) (zipD ds es) := by
  have at' : ∀ w', Grow w w' → w'.H a = some (.tup vs) := fun w' g => g.fr a _ e (.inl hS)
  have at2 : ∀ w', Grow w w' → w'.H b = some (.tup us) := fun w' g => g.fr b _ e' (.inl hS')
  have l1 := r.length
  have l2 := r'.length
  refine ⟨fun w' g F i hi => ?_, fun w' g F i d x H' hd y => ?_, fun w' g F i hi => ⟨vs, us, .of (at' w' g), .of (at2 w' g), ?_⟩⟩
  · rw [zipD_len] at hi
    exact ⟨vs, us, vs[i], us[i], .of (at' w' g), .of (at2 w' g), List.getElem?_eq_getElem _, List.getElem?_eq_getElem _⟩
  · obtain ⟨T, x, y, rfl, hT, rfl, h1, h2⟩ := y
    obtain ⟨d1, d2, z1, z2, rfl⟩ := zipD_get _ _ _ _ hd
    obtain ⟨v, u1, u2⟩ := (g.reps r).get z1
    obtain ⟨v', u3, u4⟩ := (g.reps r').get z2
    have e1 := h1 vs (.of (at' w' g))
    have e2 := h2 us (.of (at2 w' g))
    rw [u1] at e1; cases e1
    rw [u3] at e2; cases e2
    exact pair_new F hT u2 u4
  · rw [zipD_len] at hi; omega
@[simp] def asZip : D → D → M (List D)
  | .lst xs, .lst ys => M.ret (zipD xs ys)
  | .tup xs, .tup ys => M.ret (zipD xs ys)
  | _, _ => M.stuck
@[simp] def iZip (fs : Env → M (List D)) : Env → M (List D) := fun ρ => (fs ρ).bind (two asZip)
theorem mi_zip {elts : List Expr} {kk : Nat} {tpos : Pos} (hg : Gl X "zip") (hm : X.mg "zip" = none) (ha : MA X W [a, b] fs)
    (hs : starEach [a, b] X.env = (false, eval a X.env) :: starEach [b] X.env := by rfl) (hpl : (backTo pos (starEach [b] X.env)).any (·.1) = false := by rfl) :
    MI X W (.Tuple elts kk tpos) (.Call (.Name "zip" p) [a, b] [] pos) (iZip fs) := by
  refine PI.sub (RZ.pi_zipA hg hm ha hs hpl) ?_
  rintro σ H R ⟨w, ρ, rfl, F, E, q⟩
  refine ⟨w, ρ, rfl, F, E, Holds.thn q fun ds w1 g1 F1 q1 vs rs => two_thn q1 rs fun v v' d d' ev r r' q2 => ?_⟩
  subst ev
  cases r with
  | lst h1 h2 h3 h4 => cases r' with
    | lst k1 k2 k3 k4 => exact ⟨_, _, _, _, rfl, .inl ⟨.of h2, .of k2, Holds.here F1 q2 _ (cov_zip h1 h2 h4 k1 k2 k4)⟩⟩
    | _ => exact q2.no
  | tup h1 h2 h3 h4 => cases r' with
    | tup k1 k2 k3 k4 => exact ⟨_, _, _, _, rfl, .inr ⟨.of h2, .of k2, Holds.here F1 q2 _ (cov_zipT h1 h2 h4 k1 k2 k4)⟩⟩
    | _ => exact q2.no
  | _ => exact q2.no
def enumD (n : Nat) : List D → List D
  | [] => []
  | x :: xs => .tup [.int (n : Int), x] :: enumD (n + 1) xs
theorem enumD_get : ∀ (xs : List D) (n i : Nat) (d : D), (enumD n xs)[i]? = some d → ∃ x, xs[i]? = some x ∧ d = .tup [.int ((n + i : Nat) : Int), x]
  | [], _, _, _, h => by simp [enumD] at h
  | x :: xs, n, 0, d, h => by simp [enumD] at h; subst h; exact ⟨x, rfl, rfl⟩
  | x :: xs, n, i + 1, d, h => by
    simp only [enumD, List.getElem?_cons_succ] at h
    obtain ⟨y, h1, h2⟩ := enumD_get xs (n + 1) i d h
    exact ⟨y, by simpa using h1, by rw [h2]; congr 4; omega⟩
theorem enumD_len : ∀ (xs : List D) (n : Nat), (enumD n xs).length = xs.length
  | [], _ => rfl
  | x :: xs, n => by simp [enumD, enumD_len xs (n + 1)]
theorem cov_enum {K : PySem.W.Frag} {w : Wd} {a : Addr} {vs : List V} {ds : List D} (hS : w.S a) (e : w.H a = some (.lst vs)) (r : w.reps K vs ds) : Covers K w (Ite K a) (enumD 0 ds) := by
  have at' : ∀ w', Grow w w' → w'.H a = some (.lst vs) := fun w' g => g.fr a _ e (.inl hS)
  have l1 := r.length
  refine ⟨fun w' g F i hi => ?_, fun w' g F i d x H' hd y => ?_, fun w' g F i hi => ⟨vs, .of (at' w' g), ?_⟩⟩
  · rw [enumD_len] at hi
    exact ⟨vs, vs[i], .of (at' w' g), List.getElem?_eq_getElem _⟩
  · obtain ⟨T, x, rfl, hT, rfl, h1⟩ := y
    obtain ⟨d1, z1, rfl⟩ := enumD_get _ _ _ _ hd
    obtain ⟨v, u1, u2⟩ := (g.reps r).get z1
    have e1 := h1 vs (.of (at' w' g))
    rw [u1] at e1; cases e1
    rw [Nat.zero_add]
    exact pair_new F hT (.int _) u2
  · rw [enumD_len] at hi; omega
@[simp] def asEnum : D → M (List D)
  | .lst xs => M.ret (enumD 0 xs)
  | _ => M.stuck
@[simp] def iEnum (fs : Env → M (List D)) : Env → M (List D) := fun ρ => (fs ρ).bind (one asEnum)
theorem mi_enum {elts : List Expr} {kk : Nat} {tpos : Pos} (hg : Gl X "enumerate") (hm : X.mg "enumerate" = none) (ha : MA X W [a] fs) (hs : starEach [a] X.env = [(false, eval a X.env)] := by rfl) :
    MI X W (.Tuple elts kk tpos) (.Call (.Name "enumerate" p) [a] [] pos) (iEnum fs) := by
  refine PI.sub (pi_enum hg hm ha hs) ?_
  rintro σ H R ⟨w, ρ, rfl, F, E, q⟩
  refine ⟨w, ρ, rfl, F, E, Holds.thn q fun ds w1 g1 F1 q1 vs rs => one_thn q1 rs fun v d ev r q2 => ?_⟩
  subst ev
  cases r with
  | lst h1 h2 h3 h4 => exact ⟨_, _, rfl, .of h2, Holds.here F1 q2 _ (cov_enum h1 h2 h4)⟩
  | _ => exact q2.no

/-! ### list comprehensions -/
def wipeE (ρ : Env) : List Nat → Env
  | [] => ρ
  | v :: vs => (wipeE ρ vs).set v none
theorem EnvRep.setNone {K : PySem.W.Frag} {w : Wd} {ρ : Env} {σ : L2.St} (e : EnvRep K w ρ σ) (i : Nat) : EnvRep K w (ρ.set i none) (σ.set i none) := by
  refine ⟨by simp [e.len], fun j x h => ?_⟩
  by_cases hj : i = j
  · subst hj
    by_cases hl : i < ρ.length
    · rw [List.getElem?_set_self hl] at h; cases h
    · rw [List.getElem?_eq_none (by simpa using hl)] at h; cases h
  · rw [List.getElem?_set_ne hj] at h
    rw [List.getElem?_set_ne hj]
    exact e.get j x h
theorem EnvRep.wipe {K : PySem.W.Frag} {w : Wd} {ρ : Env} {σ : L2.St} (e : EnvRep K w ρ σ) : ∀ vs, EnvRep K w (wipeE ρ vs) (wipe σ vs)
  | [] => e
  | v :: vs => (e.wipe vs).setNone v

def MTs (X : Cx) (W : WX) (ifs : List Expr) (f : Env → M Bool) : Prop := PTs X ifs (tMT X.K X.mg W f)
@[simp] def bYes : Env → M Bool := fun _ => M.ret true
theorem mts_nil : MTs X W [] bYes := by
  refine ⟨fun pins s σ H Q I h => pts_nil.run pins s σ H Q I ?_⟩
  obtain ⟨w, ρ, rfl, F, E, q⟩ := h
  exact Holds.here F q
theorem mts_one {u : Env → M Bool} (h : MT X W a u) : MTs X W [a] u := pts_one h
/-- no exception leaves a comprehension -/
def WF : WX := fun _ _ _ _ => False
def compM (g : D → Env → Option Env) (t : Env → M Bool) (e : Env → M D) (ρ : Env) : List D → M (List D)
  | [], ω => .ok [] ω
  | d :: ds, ω => match g d ρ with
    | none => .stuck
    | some ρ1 => match t ρ1 ω with
      | .ok true ω1 => match e ρ1 ω1 with
        | .ok y ω2 => match compM g t e ρ ds ω2 with
          | .ok ys ω3 => .ok (y :: ys) ω3
          | _ => .stuck
        | _ => .stuck
      | .ok false ω1 => compM g t e ρ ds ω1
      | _ => .stuck
def eLc (fi : Env → M (List D)) (vs : List Nat) (g : D → Env → Option Env) (t : Env → M Bool) (e : Env → M D) : Env → M D := fun ρ => (fi ρ).bind fun ds => if ds.length ≤ 1000000 then (compM g t e (wipeE ρ vs) ds).bind fun ys => M.ret (.lst ys) else M.stuck
/-- what is laid beside the world: not shared, not a cell -/
theorem side_grow {K : PySem.W.Frag} {w w' : Wd} {p : Addr} {o : HO} (g : Grow w w') (hp : w.H p = none) : Grow w { w' with H := upd w'.H p o } :=
  ⟨g.S, g.S', g.μ, g.μ', fun a u h k => by
    show upd w'.H p o a = some u
    rw [upd_ne (ne_of_none h hp)]; exact g.fr a u h k⟩
theorem ne_side {S : Addr → Prop} {p a : Addr} (hp : ¬ S p) (ha : S a) : a ≠ p := fun e => hp (e ▸ ha)
theorem side_reps {K : PySem.W.Frag} {w : Wd} {p : Addr} {o : HO} (hS : ¬ w.S p) {vs : List V} {ds : List D} (r : w.reps K vs ds) : Reps K w.S w.μ (upd w.H p o) vs ds :=
  Reps.mono (fun _ h => h) (fun _ _ h => h) (fun a u hs h => by rw [upd_ne (ne_side hS hs)]; exact h) r
theorem side_rep {K : PySem.W.Frag} {w : Wd} {p : Addr} {o : HO} (hS : ¬ w.S p) {v : V} {d : D} (r : w.rep K v d) : Rep K w.S w.μ (upd w.H p o) v d :=
  Rep.mono (fun _ h => h) (fun _ _ h => h) (fun a u hs h => by rw [upd_ne (ne_side hS hs)]; exact h) r
theorem side_fits {K : PySem.W.Frag} {w : Wd} {p : Addr} {o : HO} (F : Fits K w) (hS : ¬ w.S p) (hm : p ∉ w.μ) : Fits K { w with H := upd w.H p o } := by
  refine ⟨F.len, F.nd, fun a h => ?_, fun a h => ?_, fun n a c h1 h2 => ?_⟩
  · show upd w.H p o a ≠ none
    rw [upd_ne (ne_side hS h)]; exact F.dom a h
  · show upd w.H p o a ≠ none
    rw [upd_ne (ne_side (S := (· ∈ w.μ)) hm h)]; exact F.domμ a h
  · rcases F.live n a c h1 h2 with h | ⟨h, h'⟩
    · exact .inl h
    · exact .inr ⟨h, h'.mono (upd_ne fun e => hm (e ▸ List.mem_of_getElem? h1)) fun vs ds r => side_reps hS r⟩
theorem side_env {K : PySem.W.Frag} {w : Wd} {p : Addr} {o : HO} {ρ : Env} {σ : L2.St} (hS : ¬ w.S p) (E : EnvRep K w ρ σ) : EnvRep K { w with H := upd w.H p o } ρ σ :=
  ⟨E.len, fun i d h => let ⟨v, h1, h2⟩ := E.get i d h; ⟨v, h1, side_rep hS h2⟩⟩
theorem compM_cons (g : D → Env → Option Env) (t : Env → M Bool) (e : Env → M D) (ρ : Env) (d : D) (ds : List D) (ω : List Cell) : compM g t e ρ (d :: ds) ω = (match g d ρ with
    | none => .stuck
    | some ρ1 => match t ρ1 ω with
      | .ok true ω1 => match e ρ1 ω1 with
        | .ok y ω2 => match compM g t e ρ ds ω2 with
          | .ok ys ω3 => .ok (y :: ys) ω3
          | _ => .stuck
        | _ => .stuck
      | .ok false ω1 => compM g t e ρ ds ω1
      | _ => .stuck) := rfl
theorem compM_raise {g : D → Env → Option Env} {t : Env → M Bool} {e : Env → M D} {ρ : Env} : ∀ {ds : List D} {ω ω' : List Cell} {c : Str}, compM g t e ρ ds ω = .raise c ω' → False
  | [], ω, ω', c, h => by cases h
  | d :: ds, ω, ω', c, h => by
    rw [compM_cons] at h
    cases zg : g d ρ with
    | none => rw [zg] at h; cases h
    | some ρ1 =>
      rw [zg] at h
      dsimp only at h
      cases zt : t ρ1 ω with
      | ok b ω1 =>
        rw [zt] at h
        cases b with
        | false => exact compM_raise h
        | true =>
          dsimp only at h
          cases ze : e ρ1 ω1 with
          | ok y ω2 =>
            rw [ze] at h
            dsimp only at h
            cases zr : compM g t e ρ ds ω2 with
            | ok ys ω3 => rw [zr] at h; cases h
            | raise c ω3 => rw [zr] at h; cases h
            | stuck => rw [zr] at h; cases h
          | raise c ω2 => rw [ze] at h; cases h
          | stuck => rw [ze] at h; cases h
      | raise c ω1 => rw [zt] at h; cases h
      | stuck => rw [zt] at h; cases h
/-- what is left to come of a comprehension, its list so far at Dl -/
structure LcAt (K : PySem.W.Frag) (mg : Str → Option Value) (W : WX) (σ : L2.St) (Q : VK) (w1 : Wd) (Dl : Addr) (ρ : Env) (g : D → Env → Option Env) (t : Env → M Bool) (e : Env → M D) (i : Nat) (ds : List D) (w : Wd) (acc : List V) (yacc : List D) : Prop where
  gr : Grow w1 w
  fits : Fits K w
  at_ : w.H Dl = some (.lst acc)
  nS : ¬ w.S Dl
  nm : Dl ∉ w.μ
  reps : w.reps K acc yacc
  le : acc.length ≤ i
  rest : ∃ ys ω', compM g t e ρ ds w.ω = .ok ys ω' ∧ ∀ w', Grow w1 w' → Fits K w' → w'.ω = ω' → ∀ v, w'.rep K v (.lst (yacc ++ ys)) → Q v w'.H
theorem sub_lc {fi : Env → M (List D)} {vs : List Nat} {g : D → Env → Option Env} {t : Env → M Bool} {e : Env → M D} : ∀ σ H Q, tM X.K X.mg W (eLc fi vs g t e) σ H Q → tLc (tMI X.K X.mg W fi) (tMG X.K vs g) (tMT X.K X.mg WF t) (tM X.K X.mg WF e) vs σ H Q := by
  rintro σ H Q ⟨w, ρ, rfl, F, E, q⟩
  refine ⟨w, ρ, rfl, F, E, Holds.thn q fun ds w1 g1 F1 q1 J C Dl hD => ?_⟩
  obtain ⟨hz, q1⟩ := Holds.ite q1
  have E1 := (E.grow g1).wipe vs
  have h0 : ∃ ys ω', compM g t e (wipeE ρ vs) ds w1.ω = .ok ys ω' ∧ ∀ w', Grow w1 w' → Fits X.K w' → w'.ω = ω' → ∀ v, w'.rep X.K v (.lst ys) → Q v w'.H := by
    cases z : compM g t e (wipeE ρ vs) ds w1.ω with
    | ok ys ω' =>
      refine ⟨ys, ω', rfl, fun w' g' F' e' v r => ?_⟩
      unfold M.bind at q1
      rw [z] at q1
      exact q1 w' g' F' e' v r
    | raise c ω' => exfalso; exact compM_raise z
    | stuck => unfold M.bind at q1; rw [z] at q1; exact q1.elim
  obtain ⟨ys0, ω0, hc0, hq0⟩ := h0
  have nS : ¬ w1.S Dl := fun h => F1.dom Dl h hD
  have nm : Dl ∉ w1.μ := fun h => F1.domμ Dl h hD
  refine ⟨fun i m H => m = ds.length - i ∧ i ≤ ds.length ∧ ∃ w' acc yacc, w'.H = H ∧ LcAt X.K X.mg W σ Q w1 Dl (wipeE ρ vs) g t e i (ds.drop i) w' acc yacc, ⟨ds.length, by simp, Nat.zero_le _, { w1 with H := upd w1.H Dl (.lst []) }, [], [], rfl, ?_⟩, ?_⟩
  · exact ⟨side_grow (K := X.K) (Grow.refl w1) hD, side_fits F1 nS nm, upd_same, nS, nm, .nil, Nat.zero_le _, ys0, ω0, hc0, hq0⟩
  rintro i m H ⟨rfl, hi, w', acc, yacc, rfl, L⟩
  by_cases hlt : i < ds.length
  · have hget : ds[i]? = some ds[i] := List.getElem?_eq_getElem hlt
    refine .inr ⟨C.go w' L.gr L.fits i hlt, fun H' => ∃ w' acc yacc, w'.H = H' ∧ LcAt X.K X.mg W σ Q w1 Dl (wipeE ρ vs) g t e (i + 1) (ds.drop (i + 1)) w' acc yacc, ?_, ?_⟩
    · rintro H' ⟨w2, acc2, yacc2, h1, h2⟩
      exact ⟨ds.length - (i + 1), by omega, rfl, hlt, w2, acc2, yacc2, h1, h2⟩
    · intro x H' y
      obtain ⟨w2, g2, F2, eω, rfl, r2⟩ := C.yld w' L.gr L.fits i _ x H' hget y
      obtain ⟨ys, ω', hc, hq⟩ := L.rest
      rw [List.drop_eq_getElem_cons hlt, compM_cons] at hc
      have Dat : ∀ {w3 : Wd}, Grow w' w3 → w3.H Dl = some (.lst acc) := fun g3 => g3.fr Dl _ L.at_ (.inr L.nm)
      have DnS : ∀ {w3 : Wd}, Grow w' w3 → ¬ w3.S Dl := fun g3 h => by
        rcases g3.S' Dl h with h | h | h
        · exact L.nS h
        · rw [L.at_] at h; cases h
        · exact L.nm h
      have Dnm : ∀ {w3 : Wd}, Grow w' w3 → Dl ∉ w3.μ := fun g3 h => by
        rcases g3.μ' Dl h with h | h
        · exact L.nm h
        · rw [L.at_] at h; cases h
      cases zg : g ds[i] (wipeE ρ vs) with
      | none => rw [zg] at hc; cases hc
      | some ρ1 =>
        rw [zg] at hc
        dsimp only at hc
        have Ew : EnvRep X.K w2 (wipeE ρ vs) (wipe σ vs) := (E1.grow L.gr).grow g2
        refine ⟨w2, wipeE ρ vs, ds[i], ρ1, rfl, F2, Ew, r2, zg, fun σ2 E2 e2 => ⟨e2.trans wipe_wipe, w2, ρ1, rfl, F2, E2, ?_⟩⟩
        rw [eω]
        cases zt : t ρ1 w'.ω with
        | ok b ω1 =>
          rw [zt] at hc
          intro w3 g3 F3 e3
          subst e3
          have G3 := g2.trans g3
          cases b with
          | false =>
            rw [if_neg Bool.false_ne_true]
            exact ⟨w3, acc, yacc, rfl, L.gr.trans G3, F3, Dat G3, DnS G3, Dnm G3, G3.reps L.reps, Nat.le_succ_of_le L.le, ys, ω', hc, hq⟩
          | true =>
            rw [if_pos rfl]
            dsimp only at hc
            refine ⟨w3, ρ1, rfl, F3, E2.grow g3, ?_⟩
            cases ze : e ρ1 w3.ω with
            | ok y ω2 =>
              rw [ze] at hc
              dsimp only at hc
              intro w4 g4 F4 e4 v rv
              subst e4
              have G4 := G3.trans g4
              refine ⟨acc, Dat G4, Nat.lt_of_le_of_lt L.le (Nat.lt_of_lt_of_le hlt (Nat.le_trans hz (by decide))), { w4 with H := upd w4.H Dl (.lst (acc ++ [v])) }, acc ++ [v], yacc ++ [y], rfl, ?_⟩
              cases zr : compM g t e (wipeE ρ vs) (ds.drop (i + 1)) w4.ω with
              | ok ys2 ω3 =>
                rw [zr] at hc
                cases hc
                have dS : ¬ w4.S Dl := DnS G4
                have dm : Dl ∉ w4.μ := Dnm G4
                refine ⟨side_grow (K := X.K) (L.gr.trans G4) hD, side_fits F4 dS dm, upd_same, dS, dm, ?_, ?_, ys2, ω', zr, fun w5 g5 F5 e5 v5 r5 => hq w5 g5 F5 e5 v5 ?_⟩
                · exact side_reps dS ((G4.reps L.reps).append (.cons rv .nil))
                · rw [List.length_append]; exact Nat.succ_le_succ L.le
                · rw [List.append_assoc] at r5; exact r5
              | raise c ω3 => rw [zr] at hc; cases hc
              | stuck => rw [zr] at hc; cases hc
            | raise c ω2 => rw [ze] at hc; cases hc
            | stuck => rw [ze] at hc; cases hc
        | raise c ω1 => rw [zt] at hc; cases hc
        | stuck => rw [zt] at hc; cases hc
  · have ei : i = ds.length := by omega
    subst ei
    obtain ⟨ys, ω', hc, hq⟩ := L.rest
    rw [List.drop_length] at hc
    cases hc
    refine .inl ⟨C.stop w' L.gr L.fits _ (Nat.le_refl _), ?_⟩
    let wf : Wd := { w' with S := fun a => w'.S a ∨ a = Dl }
    have gf : Grow w1 wf := ⟨fun a h => .inl (L.gr.S a h), fun a h => h.elim (fun z => L.gr.S' a z) fun z => .inr (.inl (by rw [z]; exact hD)), L.gr.μ, L.gr.μ', L.gr.fr⟩
    have rf : ∀ vs ds, w'.reps X.K vs ds → wf.reps X.K vs ds := fun vs ds r => Reps.mono (fun _ h => .inl h) (fun _ _ h => h) (fun _ _ _ h => h) r
    have ff : Fits X.K wf := ⟨L.fits.len, L.fits.nd, fun a h => h.elim (L.fits.dom a) (fun z => by show w'.H a ≠ none; rw [z, L.at_]; exact fun z => nomatch z), L.fits.domμ, fun n a c h1 h2 => by
      rcases L.fits.live n a c h1 h2 with h | ⟨h, h'⟩
      · exact .inl h
      · exact .inr ⟨fun z => z.elim h fun e => L.nm (e ▸ List.mem_of_getElem? h1), h'.mono rfl rf⟩⟩
    refine hq wf gf ff rfl (.ref Dl) ?_
    rw [List.append_nil]
    exact .lst (.inr rfl) L.at_ (Nat.le_trans L.le (Nat.le_trans hz (by decide))) (rf _ _ L.reps)
theorem me_lc {elt iter : Expr} {ifs : List Expr} {scope : Scope} {own : List (Str × Nat)} {fi : Env → M (List D)} {gt : D → Env → Option Env} {t : Env → M Bool} {e : Env → M D} (hc : X.calm = true) (hN : X.N.Nodup) (hi : MI X W tg iter fi) (ok : BlkOk X.N X.env.scope scope own)
    (hg : ∀ (s : Shared) (H : Hp) (C : Addr) (cl : List (Str × Addr)) (fp : List Addr), MG (X.blk s H scope (compEnvC scope cl C X.env) fp) (own.map (·.2)) tg gt)
    (ht : ∀ (s : Shared) (H : Hp) (C : Addr) (cl : List (Str × Addr)) (fp : List Addr), MTs (X.blk s H scope (compEnvC scope cl C X.env) fp) WF ifs t)
    (he : ∀ (s : Shared) (H : Hp) (C : Addr) (cl : List (Str × Addr)) (fp : List Addr), ME (X.blk s H scope (compEnvC scope cl C X.env) fp) WF elt e) (hs : ∀ x, foldedSetIterable iter X.env x = pure x := by intro _; rfl) :
    ME X W (.ListComp elt [⟨tg, iter, ifs, 0⟩] scope pos) (eLc fi (own.map (·.2)) gt t e) := PE.sub (pe_lc (g := tMG X.K (own.map fun q : Str × Nat => q.2) gt) (tt := tMT X.K X.mg WF t) (te := tM X.K X.mg WF e) hc hN hi ok hg ht he hs) sub_lc
theorem ms_setLc {i : Nat} {y : Str} {py : Pos} {elt iter : Expr} {ifs : List Expr} {scope : Scope} {own : List (Str × Nat)} {spos : Pos} {fi : Env → M (List D)} {gt : D → Env → Option Env} {t : Env → M Bool} {e : Env → M D} (hc : X.calm = true) (hN : X.N.Nodup) (hy : X.N[i]? = some y) (hyl : X.env.scope.names.lookup y = some .local)
    (hsw : swapsWith (.ListComp elt [⟨tg, iter, ifs, 0⟩] scope pos) (some (.Name y py)) spos.line X.env = pure true) (hi : MI X W tg iter fi) (ok : BlkOk X.N X.env.scope scope own)
    (hg : ∀ (s : Shared) (H : Hp) (C : Addr) (cl : List (Str × Addr)) (fp : List Addr), MG (X.blk s H scope (compEnvC scope cl C X.env) fp) (own.map (·.2)) tg gt)
    (ht : ∀ (s : Shared) (H : Hp) (C : Addr) (cl : List (Str × Addr)) (fp : List Addr), MTs (X.blk s H scope (compEnvC scope cl C X.env) fp) WF ifs t)
    (he : ∀ (s : Shared) (H : Hp) (C : Addr) (cl : List (Str × Addr)) (fp : List Addr), ME (X.blk s H scope (compEnvC scope cl C X.env) fp) WF elt e) (hs : ∀ x, foldedSetIterable iter X.env x = pure x := by intro _; rfl) :
    MS X W (.Assign [.Name y py] (.ListComp elt [⟨tg, iter, ifs, 0⟩] scope pos) spos) (sSet i (eLc fi (own.map (·.2)) gt t e)) := by
  refine PS.sub (ps_setLc (g := tMG X.K (own.map fun q : Str × Nat => q.2) gt) (tt := tMT X.K X.mg WF t) (te := tM X.K X.mg WF e) hc hN hy hyl hsw hi ok hg ht he hs) ?_
  rintro D σ H ⟨w, ρ, rfl, F, E, q⟩
  refine sub_lc _ _ _ ⟨w, ρ, rfl, F, E, HoldsS.thn E q fun d w1 g1 F1 E1 q1 v rv => q1.next' F1 (E1.set rv)⟩
end
end Mi
namespace Mi
open PySem PySem.Spec PyProof.Rows L2

/-! ### no cells within -/
mutual
@[simp] def clean : D → Bool
  | .lst xs => cleanL xs
  | .tup xs => cleanL xs
  | .dic _ xs => cleanL xs
  | .set xs => cleanL xs
  | .cell _ => false
  | _ => true
@[simp] def cleanL : List D → Bool
  | [] => true
  | x :: xs => clean x && cleanL xs
end
section
variable {K : PySem.W.Frag} {S : Addr → Prop} {μ μ' : List Addr} {H : Hp}
mutual
theorem Rep.uncell : ∀ {v : V} {d : D}, Rep K S μ H v d → clean d = true → Rep K S μ' H v d
  | _, _, .non, _ => .non
  | _, _, .bl b, _ => .bl b
  | _, _, .int b, _ => .int b
  | _, _, .str b h h', _ => .str b h h'
  | _, _, .lst h1 h2 h3 h4, c => .lst h1 h2 h3 (Reps.uncell h4 (by unfold clean at c; exact c))
  | _, _, .tup h1 h2 h3 h4, c => .tup h1 h2 h3 (Reps.uncell h4 (by unfold clean at c; exact c))
  | _, _, .dic h1 h2 h3 h4, c => .dic h1 h2 h3 (Reps.uncell h4 (by unfold clean at c; exact c))
  | _, _, .cell _, c => by unfold clean at c; cases c
  | _, _, .ref a, _ => .ref a
  | _, _, .ty a, _ => .ty a
  | _, _, .scr h1 h2, _ => .scr h1 h2
theorem Reps.uncell : ∀ {v : List V} {d : List D}, Reps K S μ H v d → cleanL d = true → Reps K S μ' H v d
  | _, _, .nil, _ => .nil
  | _, _, .cons h t, c => by
    unfold cleanL at c
    rw [Bool.and_eq_true] at c
    exact .cons (Rep.uncell h c.1) (Reps.uncell t c.2)
end
end
/-! ### pure defs -/
inductive PR where
  | ok (d : D) | raise (c : Str) | stuck
def fnOf (p n : Nat) (s : SM) (ds : List D) : PR := match s (ds.map some ++ List.replicate (n - p) none) [] with
  | .ret d _ => if clean d = true then .ok d else .stuck
  | .next _ _ => .ok .non
  | .exc c _ _ => .raise c
  | _ => .stuck
def W0 (S : Addr → Prop) (H : Hp) : Wd := ⟨S, [], [], H⟩
def spF (K : PySem.W.Frag) (mg : Str → Option Value) (n : Nat) (F : List D → PR) : Sp := fun vs H Q E => ∃ S ds, vs.length = n ∧ (∀ a, S a → H a ≠ none) ∧ Reps K S [] H vs ds ∧ match F ds with
  | .ok d => ∀ v S' H', Grow (W0 S H) (W0 S' H') → (∀ a, S' a → H' a ≠ none) → Rep K S' [] H' v d → Q v H'
  | .raise c => ∀ u S' H', Grow (W0 S H) (W0 S' H') → (∀ a, S' a → H' a ≠ none) → mg c = some u → E u none H'
  | .stuck => False
theorem w0_fits {K : PySem.W.Frag} {S : Addr → Prop} {H : Hp} (h : ∀ a, S a → H a ≠ none) : Fits K (W0 S H) := ⟨rfl, List.nodup_nil, h, (fun _ z => nomatch z), fun n a c z => by cases n <;> cases z⟩
theorem w0_grow {S : Addr → Prop} {H : Hp} {w : Wd} (g : Grow (W0 S H) w) : Grow (W0 S H) (W0 w.S w.H) :=
  ⟨g.S, g.S', List.prefix_refl _, fun _ h => .inl h, g.fr⟩
section
variable {P : Program} {w : World} {K : PySem.W.Frag} {mg : Str → Option Value} {base : Heap}
theorem start_rep {K : PySem.W.Frag} {wd : Wd} {N : List Str} {vs : List V} {ds : List D} (r : wd.reps K vs ds) : EnvRep K wd (ds.map some ++ List.replicate (N.length - vs.length) none) (start N vs) := by
  refine ⟨?_, fun i d h => ?_⟩
  · unfold L2.start
    simp [r.length]
  · unfold L2.start
    by_cases hi : i < ds.length
    · rw [List.getElem?_append_left (by simpa using hi), List.getElem?_map, List.getElem?_eq_getElem hi] at h
      simp only [Option.map_some, Option.some.injEq] at h
      subst h
      obtain ⟨v, h1, h2⟩ := r.get (List.getElem?_eq_getElem hi)
      refine ⟨v, ?_, h2⟩
      rw [List.getElem?_append_left (by simpa [r.length] using hi), List.getElem?_map, h1]
      rfl
    · rw [List.getElem?_append_right (by simpa using hi)] at h
      rw [List.getElem?_replicate] at h
      split at h <;> cases h
theorem fn_ok {x qual : Str} {st : Stmt} {f : Addr} {fd : FuncData} {N ps : List Str} {k : Nat} {body : SM} (F : Fun K x qual st f fd) (S : FnScope N ps (defScope st))
    (hb : ∀ (cdv : Value) (A : Around) (outer : List PySem.Env) (s : Shared) (H : Hp) (E : XK), Room k (A.deeper (envOfC qual (defScope st) s.heap.objs.size f cdv)) → MSs (cxOf (L2.CX P w) P w K mg base N qual (defScope st) f cdv A outer s H E) (fun cls d _ H => E cls d H) (defBody st) body) :
    FnOk P w K mg base (L2.CX P w) (k + 1) f fd ps (spF K mg ps.length (fnOf ps.length N.length body)) := by
  refine Fun.okX F S (fun vs H Q E h => ?_) (fun cdv A outer s H vs Q E hr h => ⟨_, hb cdv A outer s H E hr, ?_⟩)
  · obtain ⟨S, ds, h, _⟩ := h; exact h
  · obtain ⟨S, ds, hl, hd, r, q⟩ := h
    refine ⟨W0 S H, ds.map some ++ List.replicate (N.length - ps.length) none, rfl, w0_fits hd, hl ▸ start_rep r, ?_⟩
    unfold fnOf at q
    show HoldsS K mg _ (W0 S H) (body _ []) _
    cases z : body (ds.map some ++ List.replicate (N.length - ps.length) none) [] with
    | ret d ω =>
      rw [z] at q
      dsimp only at q
      by_cases c : clean d = true
      · rw [if_pos c] at q
        exact fun w' v g F' e rv => q v w'.S w'.H (w0_grow g) F'.dom (Rep.uncell rv c)
      · rw [if_neg c] at q; exact q.elim
    | next ρ ω =>
      rw [z] at q
      exact fun w' σ' g F' e rv => q .non w'.S w'.H (w0_grow g) F'.dom .non
    | exc c ρ ω =>
      rw [z] at q
      exact fun w' σ' u g F' e rv m => q u w'.S w'.H (w0_grow g) F'.dom m
    | brk ρ ω => rw [z] at q; exact q.elim
    | cont ρ ω => rw [z] at q; exact q.elim
    | stuck => rw [z] at q; exact q.elim
end
def callP (n : Nat) (F : List D → PR) (ds : List D) : M D := fun ω => if ds.length = n ∧ cleanL ds = true then (match F ds with
    | .ok d => .ok d ω
    | .raise c => .raise c ω
    | .stuck => .stuck) else .stuck
/-- behind a pure call: the world goes on -/
theorem call_world {K : PySem.W.Frag} {w : Wd} {S' : Addr → Prop} {H' : Hp} (F : Fits K w) (g : Grow (W0 w.S w.H) (W0 S' H')) (hd : ∀ a, S' a → H' a ≠ none) : Grow w ⟨S', w.μ, w.ω, H'⟩ ∧ Fits K ⟨S', w.μ, w.ω, H'⟩ := by
  have keep : ∀ a o, w.H a = some o → H' a = some o := fun a o h => g.fr a o h (.inr (fun z => nomatch z))
  have gw : Grow w ⟨S', w.μ, w.ω, H'⟩ := by
    refine ⟨g.S, fun a h => ?_, List.prefix_refl _, fun _ h => .inl h, fun a o h _ => keep a o h⟩
    rcases g.S' a h with h | h | h
    · exact .inl h
    · exact .inr (.inl h)
    · exact nomatch h
  refine ⟨gw, F.len, F.nd, hd, fun a h => ?_, fun n a c h1 h2 => ?_⟩
  · cases q : w.H a with
    | none => exact absurd q (F.domμ a h)
    | some o => show H' a ≠ none; rw [keep a o q]; exact fun z => nomatch z
  · have ha : w.H a ≠ none := F.domμ a (List.mem_of_getElem? h1)
    rcases F.live n a c h1 h2 with h | ⟨h, h'⟩
    · exact .inl h
    · refine .inr ⟨fun z => ?_, h'.mono ?_ fun vs ds r => gw.reps r⟩
      · rcases g.S' a z with q | q | q
        · exact h q
        · exact ha q
        · exact nomatch q
      · cases q : w.H a with
        | none => exact absurd q ha
        | some o => exact keep a o q
section
variable {X : Cx} {W : WX} {a b : Expr} {es : List Expr} {fs : Env → M (List D)} {f g : Env → M D} {pos p : Pos}
theorem me_call {k : Nat} {fa : Addr} {fd : FuncData} {ps : List Str} {Fn : List D → PR} {x : Str} (G : FnOk X.prog X.w X.K X.mg X.base (L2.CX X.prog X.w) k fa fd ps (spF X.K X.mg ps.length Fn)) (hr : Room k X.A) (hg : Gl X x) (hm : X.mg x = some (.ref fa)) (hk : PySem.W.keepIn X.K (.ref fa) = true)
    (hb : Binds X.K fd ps []) (tk : Takes X W) (ha : MA X W (a :: es) fs) (hdb : (x == ("__debug__" : Str)) = false := by decide) (he : starEach (a :: es) X.env = (false, eval a X.env) :: starEach es X.env := by rfl) (hpl : (backTo pos (starEach es X.env)).any (·.1) = false := by rfl) :
    ME X W (.Call (.Name x p) (a :: es) [] pos) (eN (callP ps.length Fn) fs) := by
  refine PE.sub (pe_callS G hr hg hm hk hb (fun σ => passAt tk σ) ha hdb he hpl) ?_
  rintro σ H Q ⟨w, ρ, rfl, F, E, h⟩
  refine ⟨w, ρ, rfl, F, E, Holds.thn h fun ds w1 g1 F1 h1 xs rs => ?_⟩
  unfold callP at h1
  by_cases c : ds.length = ps.length ∧ cleanL ds = true
  · rw [if_pos c] at h1
    refine ⟨w1.S, ds, rs.length.trans c.1, F1.dom, Reps.uncell rs c.2, ?_⟩
    cases z : Fn ds with
    | ok d =>
      rw [z] at h1
      intro v S' H' gg hd rv
      obtain ⟨g2, F2⟩ := call_world F1 gg hd
      exact h1 _ g2 F2 rfl v (Rep.mono (fun _ h => h) (fun n a h => by simp at h) (fun _ _ _ h => h) rv)
    | raise c =>
      rw [z] at h1
      intro u S' H' gg hd m
      obtain ⟨g2, F2⟩ := call_world F1 gg hd
      exact h1 _ u g2 F2 rfl m
    | stuck => rw [z] at h1; exact h1.elim
  · rw [if_neg c] at h1; exact h1.elim
end
end Mi
namespace Mi
open PySem PySem.Spec PyProof.Rows L2

/-! ### reading a cell's content -/
inductive Shal (K : PySem.W.Frag) (w : Wd) : V → D → Prop
  | of {v : V} {d : D} : w.rep K v d → Shal K w v d
  | lst {a : Addr} {vs : List V} {ds : List D} : w.H a = some (.lst vs) → vs.length ≤ sizeLine → w.reps K vs ds → Shal K w (.ref a) (.lst ds)
  | dic {a : Addr} {kvs : List (Key × V)} {ds : List D} : w.H a = some (.dK kvs) → kvs.length ≤ sizeLine → w.reps K (kvs.map (·.2)) ds → Shal K w (.ref a) (.dic (kvs.map (·.1)) ds)
def drf (d : D) : M D := fun ω => match d with
  | .cell n => match ω[n]? with
    | some (.lst xs) => .ok (.lst xs) ω
    | some (.dic ks xs) => .ok (.dic ks xs) ω
    | _ => .stuck
  | d => .ok d ω
section
variable {X : Cx} {W : WX} {a b : Expr} {es : List Expr} {fs : Env → M (List D)} {f g : Env → M D} {pos p : Pos}
theorem drf_thn {α : Type} {K : PySem.W.Frag} {mg : Str → Option Value} {σ : L2.St} {w : Wd} {d : D} {v : V} {k : D → M α} {P : α → Wd → Prop} {R : Prop} (F : Fits K w) (h : Holds K mg W σ w ((drf d).bind k w.ω) P) (r : w.rep K v d)
    (hk : ∀ d', Shal K w v d' → Holds K mg W σ w (k d' w.ω) P → R) : R := by
  unfold drf M.bind at h
  cases r with
  | @cell n a hn =>
    dsimp only at h
    cases z : w.ω[n]? with
    | none => rw [z] at h; exact h.elim
    | some c =>
      rw [z] at h
      rcases F.live n a c hn z with e | ⟨_, ok⟩
      · subst e; exact h.elim
      · cases c with
        | dead => exact h.elim
        | lst xs => obtain ⟨vs, h1, h2, h3⟩ := ok; exact hk _ (.lst h1 h2 h3) h
        | dic ks xs => obtain ⟨kvs, h1, h2, rfl, h3⟩ := ok; exact hk _ (.dic h1 h2 h3) h
        | ins C fs => exact h.elim
  | non => exact hk _ (.of .non) h
  | bl x => exact hk _ (.of (.bl x)) h
  | int x => exact hk _ (.of (.int x)) h
  | str x q q' => exact hk _ (.of (.str x q q')) h
  | lst q1 q2 q3 q4 => exact hk _ (.of (.lst q1 q2 q3 q4)) h
  | tup q1 q2 q3 q4 => exact hk _ (.of (.tup q1 q2 q3 q4)) h
  | dic q1 q2 q3 q4 => exact hk _ (.of (.dic q1 q2 q3 q4)) h
  | ref x => exact hk _ (.of (.ref x)) h
  | ty x => exact hk _ (.of (.ty x)) h
  | scr q1 q2 => exact hk _ (.of (.scr q1 q2)) h
@[simp] def d2 (o : D → D → M D) : D → D → M D := fun d e => (drf d).bind fun d' => (drf e).bind fun e' => o d' e'
@[simp] def d1 (o : D → M D) : D → M D := fun d => (drf d).bind o
theorem op2_drf {r : R2} {o : D → D → M D} (h : ∀ (W : WX) (σ : L2.St) (w : Wd) (x y : V) (d e : D) (Q : VK), Fits X.K w → Shal X.K w x d → Shal X.K w y e → Ans X.K X.mg W σ w (o d e) Q → r x y w.H Q) : Op2 X r (d2 o) := by
  intro W σ w x y d e Q F rx ry q
  exact drf_thn F q rx fun d' sx q' => drf_thn F q' ry fun e' sy q'' => h W σ w x y d' e' Q F sx sy q''
theorem op1_drf {r : V → Hp → VK → Prop} {o : D → M D} (h : ∀ (W : WX) (σ : L2.St) (w : Wd) (x : V) (d : D) (Q : VK), Fits X.K w → Shal X.K w x d → Ans X.K X.mg W σ w (o d) Q → r x w.H Q) : Op1 X r (d1 o) := by
  intro W σ w x d Q F rx q
  exact drf_thn F q rx fun d' sx q' => h W σ w x d' Q F sx q'
theorem Shal.dp {K : PySem.W.Frag} {w : Wd} {v : V} {d : D} {p : PyData} (s : Shal K w v d) (e : toP d = some p) : Dp K w.H v p := by
  cases s with
  | of r => exact r.dp e
  | @lst a vs ds h1 h2 h3 =>
    unfold toP at e
    cases q : toPs ds with
    | none => rw [q] at e; cases e
    | some ps => rw [q] at e; cases e; exact .lst (.of h1) (h3.dp q)
  | dic _ _ _ => unfold toP at e; cases e
theorem op2_eqC : Op2 X (rEqD X.K) (d2 oEq) := op2_drf fun W σ w x y d e Q F sx sy h => by
  unfold oEq at h
  cases q : pyEq d e with
  | none => rw [q] at h; exact h.no
  | some b =>
    rw [q] at h
    obtain ⟨p, p', h1, h2, h3, h4, rfl⟩ := pyEq_some q
    exact ⟨p, p', sx.dp h1, sy.dp h2, h3, h4, Ans.val F h (.bl _)⟩
theorem op2_neC : Op2 X (rNeD X.K) (d2 oNe) := op2_drf fun W σ w x y d e Q F sx sy h => by
  unfold oNe at h
  cases q : pyEq d e with
  | none => rw [q] at h; exact h.no
  | some b =>
    rw [q] at h
    obtain ⟨p, p', h1, h2, h3, h4, rfl⟩ := pyEq_some q
    exact ⟨p, p', sx.dp h1, sy.dp h2, h3, h4, Ans.val F h (.bl _)⟩
theorem me_eq {k : Nat} (hr : Room k X.A) (ha : ME X W a f) (hb : ME X W b g) : ME X W (.Compare a [.Eq] [b] pos) (e2 (d2 oEq) f g) := me_cmp (op_eqD hr.units) op2_eqC ha hb (nomark _)
theorem me_ne {k : Nat} (hr : Room k X.A) (ha : ME X W a f) (hb : ME X W b g) : ME X W (.Compare a [.NotEq] [b] pos) (e2 (d2 oNe) f g) := me_cmp (op_neD hr.units) op2_neC ha hb (nomark _)
theorem me_lt (ha : ME X W a f) (hb : ME X W b g) : ME X W (.Compare a [.Lt] [b] pos) (e2 oLt f g) := me_cmp op_ltA op2_cmp ha hb (nomark _)
theorem me_le (ha : ME X W a f) (hb : ME X W b g) : ME X W (.Compare a [.LtE] [b] pos) (e2 oLe f g) := me_cmp op_leA op2_cmp ha hb (nomark _)
theorem me_gt (ha : ME X W a f) (hb : ME X W b g) : ME X W (.Compare a [.Gt] [b] pos) (e2 oGt f g) := me_cmp op_gtA op2_cmp ha hb (nomark _)
theorem me_ge (ha : ME X W a f) (hb : ME X W b g) : ME X W (.Compare a [.GtE] [b] pos) (e2 oGe f g) := me_cmp op_geA op2_cmp ha hb (nomark _)
theorem me_isN (ha : ME X W a f) (hb : ME X W b g) : ME X W (.Compare a [.Is] [b] pos) (e2 oIsN f g) := me_cmp op_isN op2_isN ha hb (nomark _)
theorem me_notN (ha : ME X W a f) (hb : ME X W b g) : ME X W (.Compare a [.IsNot] [b] pos) (e2 oNotN f g) := me_cmp op_notN op2_notN ha hb (nomark _)
theorem mt_eq {k : Nat} (hr : Room k X.A) (ha : ME X W a f) (hb : ME X W b g) : MT X W (.Compare a [.Eq] [b] pos) (tst (e2 (d2 oEq) f g)) := mt_cmp (op_eqD hr.units) op2_eqC ha hb (nomark _)
theorem mt_ne {k : Nat} (hr : Room k X.A) (ha : ME X W a f) (hb : ME X W b g) : MT X W (.Compare a [.NotEq] [b] pos) (tst (e2 (d2 oNe) f g)) := mt_cmp (op_neD hr.units) op2_neC ha hb (nomark _)
theorem mt_lt (ha : ME X W a f) (hb : ME X W b g) : MT X W (.Compare a [.Lt] [b] pos) (tst (e2 oLt f g)) := mt_cmp op_ltA op2_cmp ha hb (nomark _)
theorem mt_le (ha : ME X W a f) (hb : ME X W b g) : MT X W (.Compare a [.LtE] [b] pos) (tst (e2 oLe f g)) := mt_cmp op_leA op2_cmp ha hb (nomark _)
theorem mt_gt (ha : ME X W a f) (hb : ME X W b g) : MT X W (.Compare a [.Gt] [b] pos) (tst (e2 oGt f g)) := mt_cmp op_gtA op2_cmp ha hb (nomark _)
theorem mt_ge (ha : ME X W a f) (hb : ME X W b g) : MT X W (.Compare a [.GtE] [b] pos) (tst (e2 oGe f g)) := mt_cmp op_geA op2_cmp ha hb (nomark _)
theorem mt_isN (ha : ME X W a f) (hb : ME X W b g) : MT X W (.Compare a [.Is] [b] pos) (tst (e2 oIsN f g)) := mt_cmp op_isN op2_isN ha hb (nomark _)
theorem mt_notN (ha : ME X W a f) (hb : ME X W b g) : MT X W (.Compare a [.IsNot] [b] pos) (tst (e2 oNotN f g)) := mt_cmp op_notN op2_notN ha hb (nomark _)
theorem me_lele {c : Expr} {h : Env → M D} (ha : ME X W a f) (hb : ME X W b g) (hc : ME X W c h) (hm : lastMarks [.LtE, .LtE] [b, c] = false := by with_unfolding_all rfl) : ME X W (.Compare a [.LtE, .LtE] [b, c] pos) (eChain oLe oLe f g h) := me_chain op_leA op_leA op2_cmp op2_cmp ha hb hc hm
theorem mt_lele {c : Expr} {h : Env → M D} (ha : ME X W a f) (hb : ME X W b g) (hc : ME X W c h) (hm : lastMarks [.LtE, .LtE] [b, c] = false := by with_unfolding_all rfl) : MT X W (.Compare a [.LtE, .LtE] [b, c] pos) (tst (eChain oLe oLe f g h)) := mt_chain op_leA op_leA op2_cmp op2_cmp ha hb hc hm

/-! in, not in -/
def rInA (K : PySem.W.Frag) (neg : Bool) : R2 := fun x y H Q => ∃ d ds, Dp K H x d ∧ (Dp K H y (.list ds) ∨ Dp K H y (.tuple ds)) ∧ SeqAt.shaped d = true ∧ SeqAt.shaped (.list ds) = true ∧ Q (.bl (neg ^^ ds.any fun z => PyData.eqv z d)) H
theorem canLay_tup {ds : List PyData} (h : SeqAt.shaped (.list ds) = true) : (PyData.tuple ds).canLay0 = true := by
  have h' := SeqAt.canLay_of_shaped h
  unfold PyData.canLay0 at *
  exact h'
theorem op_inA (hu : X.A.units + 65 < cLine) : OpR X (compareOp .In) (rInA X.K false) := by
  intro pins s σ H x y v u Q I rx ry h
  obtain ⟨d, ds, hd, he, sd, se, q⟩ := h
  rw [Bool.false_xor] at q
  obtain ⟨as, r1⟩ := Dp.reads I d x v hd rx
  rcases he with he | he
  · obtain ⟨bs, r2⟩ := Dp.reads I (.list ds) y u he ry
    exact SeqAt.in_list_reads r2 r1 (SeqAt.canLay_of_shaped se) (SeqAt.canLay_of_shaped sd) (room_in_shaped sd hu) ⟨.bl _, H, I, rfl, q⟩
  · obtain ⟨bs, r2⟩ := Dp.reads I (.tuple ds) y u he ry
    exact SeqAt.in_tuple_reads r2 r1 (canLay_tup se) (SeqAt.canLay_of_shaped sd) (room_in_shaped sd hu) ⟨.bl _, H, I, rfl, q⟩
theorem op_notInA (hu : X.A.units + 65 < cLine) : OpR X (compareOp .NotIn) (rInA X.K true) := by
  intro pins s σ H x y v u Q I rx ry h
  obtain ⟨d, ds, hd, he, sd, se, q⟩ := h
  rw [Bool.true_xor] at q
  obtain ⟨as, r1⟩ := Dp.reads I d x v hd rx
  rcases he with he | he
  · obtain ⟨bs, r2⟩ := Dp.reads I (.list ds) y u he ry
    exact SeqAt.notIn_list_reads r2 r1 (SeqAt.canLay_of_shaped se) (SeqAt.canLay_of_shaped sd) (room_in_shaped sd hu) ⟨.bl _, H, I, rfl, q⟩
  · obtain ⟨bs, r2⟩ := Dp.reads I (.tuple ds) y u he ry
    exact SeqAt.notIn_tuple_reads r2 r1 (canLay_tup se) (SeqAt.canLay_of_shaped sd) (room_in_shaped sd hu) ⟨.bl _, H, I, rfl, q⟩
@[simp] def oIn (neg : Bool) (d e : D) : M D := match e with
  | .lst xs => match anyEq d xs with
    | some b => M.ret (.bl (neg ^^ b))
    | none => M.stuck
  | .tup xs => match anyEq d xs with
    | some b => M.ret (.bl (neg ^^ b))
    | none => M.stuck
  | _ => M.stuck
theorem Shal.dpL {K : PySem.W.Frag} {w : Wd} {v : V} {xs : List D} {ps : List PyData} (s : Shal K w v (.lst xs)) (e : toPs xs = some ps) : Dp K w.H v (.list ps) := s.dp (by unfold toP; rw [e])
theorem Shal.dpT {K : PySem.W.Frag} {w : Wd} {v : V} {xs : List D} {ps : List PyData} (s : Shal K w v (.tup xs)) (e : toPs xs = some ps) : Dp K w.H v (.tuple ps) := s.dp (by unfold toP; rw [e])
theorem op2_in {neg : Bool} : Op2 X (rInA X.K neg) (d2 (oIn neg)) := op2_drf fun W σ w x y d e Q F sx sy h => by
  unfold oIn at h
  cases e with
  | lst xs =>
    dsimp only at h
    cases q : anyEq d xs with
    | none => rw [q] at h; exact h.no
    | some b =>
      rw [q] at h
      obtain ⟨p, ps, h1, h2, h3, h4, rfl⟩ := anyEq_some q
      exact ⟨p, ps, sx.dp h1, .inl (sy.dpL h2), h3, h4, Ans.val F h (.bl _)⟩
  | tup xs =>
    dsimp only at h
    cases q : anyEq d xs with
    | none => rw [q] at h; exact h.no
    | some b =>
      rw [q] at h
      obtain ⟨p, ps, h1, h2, h3, h4, rfl⟩ := anyEq_some q
      exact ⟨p, ps, sx.dp h1, .inr (sy.dpT h2), h3, h4, Ans.val F h (.bl _)⟩
  | _ => exact h.no
theorem room65 {k : Nat} {A : Around} (r : Room k A) : A.units + 65 < cLine := by have := r.un; omega
theorem me_in {k : Nat} (hr : Room k X.A) (ha : ME X W a f) (hb : ME X W b g) (hm : behindInMarks .In b = false := by rfl) : ME X W (.Compare a [.In] [b] pos) (e2 (d2 (oIn false)) f g) := me_cmp (op_inA (room65 hr)) op2_in ha hb hm
theorem me_notIn {k : Nat} (hr : Room k X.A) (ha : ME X W a f) (hb : ME X W b g) (hm : behindInMarks .NotIn b = false := by rfl) : ME X W (.Compare a [.NotIn] [b] pos) (e2 (d2 (oIn true)) f g) := me_cmp (op_notInA (room65 hr)) op2_in ha hb hm
theorem mt_in {k : Nat} (hr : Room k X.A) (ha : ME X W a f) (hb : ME X W b g) (hm : behindInMarks .In b = false := by rfl) : MT X W (.Compare a [.In] [b] pos) (tst (e2 (d2 (oIn false)) f g)) := mt_cmp (op_inA (room65 hr)) op2_in ha hb hm
theorem mt_notIn {k : Nat} (hr : Room k X.A) (ha : ME X W a f) (hb : ME X W b g) (hm : behindInMarks .NotIn b = false := by rfl) : MT X W (.Compare a [.NotIn] [b] pos) (tst (e2 (d2 (oIn true)) f g)) := mt_cmp (op_notInA (room65 hr)) op2_in ha hb hm

/-! len, indices, slices -/
@[simp] def oLen : D → M D
  | .lst xs => M.ret (.int (xs.length : Nat))
  | .tup xs => M.ret (.int (xs.length : Nat))
  | .scr xs => M.ret (.int (xs.length : Nat))
  | .str x => M.ret (.int (x.length : Nat))
  | _ => M.stuck
theorem op1_len : Op1 X (fun x H Q => ∃ y n, [x] = [y] ∧ LenV X.K y H n ∧ Q (.int n) H) (d1 oLen) := op1_drf fun W σ w x d Q F sx h => by
  cases sx with
  | lst h1 h2 h3 => refine ⟨_, _, rfl, .inl ⟨_, .of h1, rfl⟩, ?_⟩; rw [h3.length]; exact Ans.val F h (.int _)
  | dic _ _ _ => exact h.no
  | of r => cases r with
    | str y hy hy' => exact ⟨_, _, rfl, ⟨hy, rfl⟩, Ans.val F h (.int _)⟩
    | lst _ h1 h2 h3 => refine ⟨_, _, rfl, .inl ⟨_, .of h1, rfl⟩, ?_⟩; rw [h3.length]; exact Ans.val F h (.int _)
    | tup _ h1 h2 h3 => refine ⟨_, _, rfl, .inr ⟨_, .of h1, rfl⟩, ?_⟩; rw [h3.length]; exact Ans.val F h (.int _)
    | scr _ h1 => refine ⟨_, _, rfl, .inl ⟨_, h1, rfl⟩, ?_⟩; rw [List.length_map]; exact Ans.val F h (.int _)
    | _ => exact h.no
theorem me_len (hg : Gl X "len") (hm : X.mg "len" = none) (ha : MA X W [a] fs) (he : starEach [a] X.env = (false, eval a X.env) :: starEach [] X.env := by rfl) (hpl : (backTo pos (starEach [] X.env)).any (·.1) = false := by rfl) : ME X W (.Call (.Name "len" p) [a] [] pos) (eN (one (d1 oLen)) fs) := me_callB call_len (opN_one op1_len) hg hm PySem.boot_len ha (by decide) (by decide) he hpl
theorem reps_atI {K : PySem.W.Frag} {S : Addr → Prop} {μ : List Addr} {H : Hp} {vs : List V} {ds : List D} {i : Int} {d : D} (r : Reps K S μ H vs ds) (h : atI ds i = some d) : ∃ v, atI vs i = some v ∧ Rep K S μ H v d := by
  unfold atI at *
  rw [r.length]
  cases q : ixN ds.length i with
  | none => rw [q] at h; cases h
  | some j => rw [q] at h; exact r.get h
def oAt {α : Type} (xs : List α) (i : Int) (k : α → D) : M D := match atI xs i with
  | some d => M.ret (k d)
  | none => M.stuck
@[simp] def oIx : D → D → M D
  | .lst xs, .int i => oAt xs i id
  | .tup xs, .int i => oAt xs i id
  | .scr ns, .int i => oAt ns i D.int
  | .str x, .int i => oAt x.cps.toList i fun c => .str ⟨#[c]⟩
  | _, _ => M.stuck
theorem oAt_thn {α : Type} {K : PySem.W.Frag} {mg : Str → Option Value} {σ : L2.St} {w : Wd} {xs : List α} {i : Int} {k : α → D} {Q : VK} (h : Ans K mg W σ w (oAt xs i k) Q) : ∃ d, atI xs i = some d ∧ Ans K mg W σ w (M.ret (k d)) Q := by
  unfold oAt at h
  cases q : atI xs i with
  | none => rw [q] at h; exact h.no
  | some d => rw [q] at h; exact ⟨d, rfl, h⟩
theorem atI_map {α β : Type} (g : α → β) (xs : List α) (i : Int) : atI (xs.map g) i = (atI xs i).map g := by
  unfold atI
  rw [List.length_map]
  cases ixN xs.length i with
  | none => rfl
  | some j => simp
theorem atI_mem {α : Type} {xs : List α} {i : Int} {d : α} (h : atI xs i = some d) : ∃ j : Nat, xs[j]? = some d := by
  unfold atI at h
  cases q : ixN xs.length i with
  | none => rw [q] at h; cases h
  | some j => rw [q] at h; exact ⟨j, h⟩
theorem op2_ix : Op2 X (rIx X.K) (d2 oIx) := op2_drf fun W σ w x y d e Q F sx sy h => by
  have hi : ∀ {i : Int}, Shal X.K w y (.int i) → y = .int i := fun s => by cases s with | of r => cases r; rfl
  cases e with
  | int i =>
    have ey := hi sy
    subst ey
    cases sx with
    | lst h1 h2 h3 =>
      obtain ⟨d, e1, h⟩ := oAt_thn h
      obtain ⟨v, e2, r⟩ := reps_atI h3 e1
      exact .inl ⟨_, _, i, v, rfl, rfl, .of h1, e2, Ans.val F h r⟩
    | dic _ _ _ => exact h.no
    | of r => cases r with
      | lst _ h1 h2 h3 =>
        obtain ⟨d, e1, h⟩ := oAt_thn h
        obtain ⟨v, e2, r⟩ := reps_atI h3 e1
        exact .inl ⟨_, _, i, v, rfl, rfl, .of h1, e2, Ans.val F h r⟩
      | tup _ h1 h2 h3 =>
        obtain ⟨d, e1, h⟩ := oAt_thn h
        obtain ⟨v, e2, r⟩ := reps_atI h3 e1
        exact .inr (.inl ⟨_, _, i, v, rfl, rfl, .of h1, e2, Ans.val F h r⟩)
      | scr _ h1 =>
        obtain ⟨d, e1, h⟩ := oAt_thn h
        refine .inl ⟨_, _, i, .int d, rfl, rfl, h1, ?_, Ans.val F h (.int d)⟩
        rw [atI_map, e1]; rfl
      | str z hz hz' =>
        obtain ⟨c, e1, h⟩ := oAt_thn h
        obtain ⟨j, hj⟩ := atI_mem e1
        refine .inr (.inr ⟨z, i, c, rfl, rfl, hz, e1, Ans.val F h (.str _ (by show 1 ≤ sizeLine; decide) (str_one hz' (by rw [← Array.getElem?_toList]; exact hj)))⟩)
      | _ => exact h.no
  | _ => cases sx with
    | of r => cases r <;> exact h.no
    | _ => exact h.no
theorem me_ix (ha : ME X W a f) (hb : ME X W b g) (hs : PlainIx b := by intro _ _; rfl) : ME X W (.Subscript a b pos) (e2 (d2 oIx) f g) := PE.sub (pe_ix ix_seq ha hb hs) (sub2 op2_ix)
end
end Mi
namespace Mi
open PySem PySem.Spec PyProof.Rows L2
section
variable {X : Cx} {W : WX} {a b : Expr} {es : List Expr} {fs : Env → M (List D)} {f g : Env → M D} {pos p : Pos}
/-! ### built-ins -/
@[simp] def oAbs : D → M D
  | .int i => M.ret (.int (if i < 0 then -i else i))
  | _ => M.stuck
theorem op1_abs : Op1 X (fun x H Q => ∃ i, [x] = [V.int i] ∧ Q (.int (if i < 0 then -i else i)) H) oAbs := by
  intro W σ w x d Q F rx h
  cases rx with
  | int i => exact ⟨i, rfl, Ans.val F h (.int _)⟩
  | _ => exact h.no
theorem boot_abs' : bootBuiltins "abs" = some (.builtin "abs") := by decide +kernel
theorem boot_sum' : bootBuiltins "sum" = some (.builtin "sum") := by decide +kernel
theorem boot_all' : bootBuiltins "all" = some (.builtin "all") := by decide +kernel
theorem boot_max' : bootBuiltins "max" = some (.builtin "max") := by decide +kernel
theorem boot_min' : bootBuiltins "min" = some (.builtin "min") := by decide +kernel
theorem boot_isi' : bootBuiltins "isinstance" = some (.builtin "isinstance") := by decide +kernel
theorem boot_list' : bootBuiltins "list" = some (.type "list") := by decide +kernel
theorem boot_tuple' : bootBuiltins "tuple" = some (.type "tuple") := by decide +kernel
theorem boot_ty : ∀ t : Ty, bootBuiltins (Str.ofString t.name) = some (.type t.name) := by intro t; cases t <;> decide +kernel
theorem me_abs (hg : Gl X "abs") (hm : X.mg "abs" = none) (ha : MA X W [a] fs) (he : starEach [a] X.env = (false, eval a X.env) :: starEach [] X.env := by rfl) (hpl : (backTo pos (starEach [] X.env)).any (·.1) = false := by rfl) : ME X W (.Call (.Name "abs" p) [a] [] pos) (eN (one oAbs) fs) := me_callB call_abs (opN_one op1_abs) hg hm boot_abs' ha (by decide) (by decide) he hpl
@[simp] def oMax2 : D → D → M D
  | .int i, .int j => M.ret (.int (if j > i then j else i))
  | _, _ => M.stuck
@[simp] def oMin2 : D → D → M D
  | .int i, .int j => M.ret (.int (if j < i then j else i))
  | _, _ => M.stuck
theorem op2_max2 : Op2 X (fun x y H Q => ∃ i j, [x, y] = [V.int i, V.int j] ∧ Q (.int (if j > i then j else i)) H) oMax2 := by
  intro W σ w x y d e Q F rx ry h
  cases rx with
  | int i => cases ry with
    | int j => exact ⟨i, j, rfl, Ans.val F h (.int _)⟩
    | _ => exact h.no
  | _ => exact h.no
theorem op2_min2 : Op2 X (fun x y H Q => ∃ i j, [x, y] = [V.int i, V.int j] ∧ Q (.int (if j < i then j else i)) H) oMin2 := by
  intro W σ w x y d e Q F rx ry h
  cases rx with
  | int i => cases ry with
    | int j => exact ⟨i, j, rfl, Ans.val F h (.int _)⟩
    | _ => exact h.no
  | _ => exact h.no
theorem me_max2 (hc : X.calm = true) (hg : Gl X "max") (hm : X.mg "max" = none) (ha : MA X W [a, b] fs) (he : starEach [a, b] X.env = (false, eval a X.env) :: starEach [b] X.env := by rfl) (hpl : (backTo pos (starEach [b] X.env)).any (·.1) = false := by rfl) : ME X W (.Call (.Name "max" p) [a, b] [] pos) (eN (two oMax2) fs) := me_callB (call_max2 hc) (opN_two op2_max2) hg hm boot_max' ha (by decide) (by decide) he hpl
theorem me_min2 (hc : X.calm = true) (hg : Gl X "min") (hm : X.mg "min" = none) (ha : MA X W [a, b] fs) (he : starEach [a, b] X.env = (false, eval a X.env) :: starEach [b] X.env := by rfl) (hpl : (backTo pos (starEach [b] X.env)).any (·.1) = false := by rfl) : ME X W (.Call (.Name "min" p) [a, b] [] pos) (eN (two oMin2) fs) := me_callB (call_min2 hc) (opN_two op2_min2) hg hm boot_min' ha (by decide) (by decide) he hpl
def ints? : List D → Option (List Int)
  | [] => some []
  | .int i :: ds => match ints? ds with
    | some is => some (i :: is)
    | none => none
  | _ => none
def bools? : List D → Option (List Bool)
  | [] => some []
  | .bl i :: ds => match bools? ds with
    | some is => some (i :: is)
    | none => none
  | _ => none
theorem ints_reps {K : PySem.W.Frag} {S : Addr → Prop} {μ : List Addr} {H : Hp} : ∀ {vs : List V} {ds : List D} {ns : List Int}, Reps K S μ H vs ds → ints? ds = some ns → vs = ns.map V.int
  | _, _, _, .nil, e => by cases e; rfl
  | _, _, _, .cons (d := d) (ds := ds) h t, e => by
    cases h with
    | int i =>
      unfold ints? at e
      cases q : ints? ds with
      | none => rw [q] at e; cases e
      | some is => rw [q] at e; cases e; rw [ints_reps t q]; rfl
    | _ => unfold ints? at e; cases e
theorem bools_reps {K : PySem.W.Frag} {S : Addr → Prop} {μ : List Addr} {H : Hp} : ∀ {vs : List V} {ds : List D} {ns : List Bool}, Reps K S μ H vs ds → bools? ds = some ns → vs = ns.map V.bl
  | _, _, _, .nil, e => by cases e; rfl
  | _, _, _, .cons (d := d) (ds := ds) h t, e => by
    cases h with
    | bl i =>
      unfold bools? at e
      cases q : bools? ds with
      | none => rw [q] at e; cases e
      | some is => rw [q] at e; cases e; rw [bools_reps t q]; rfl
    | _ => unfold bools? at e; cases e
@[simp] def oSum : D → M D
  | .lst xs => match ints? xs with
    | some ns => M.ret (.int ns.sum)
    | none => M.stuck
  | _ => M.stuck
@[simp] def oAll : D → M D
  | .lst xs => match bools? xs with
    | some ns => M.ret (.bl (ns.all id))
    | none => M.stuck
  | _ => M.stuck
theorem op1_sum : Op1 X (fun x H Q => rSum X.K [x] H Q) (d1 oSum) := op1_drf fun W σ w x d Q F sx h => by
  have key : ∀ {a : Addr} {vs : List V} {ds : List D}, w.H a = some (.lst vs) → w.reps X.K vs ds → Ans X.K X.mg W σ w (oSum (.lst ds)) Q → rSum X.K [.ref a] w.H Q := fun {a vs ds} h1 h2 h3 => by
    dsimp only [oSum] at h3
    cases q : ints? ds with
    | none => rw [q] at h3; exact h3.no
    | some ns =>
      rw [q] at h3
      have e := ints_reps h2 q
      subst e
      exact ⟨a, ns, rfl, .of h1, Ans.val F h3 (.int _)⟩
  cases sx with
  | lst h1 h2 h3 => exact key h1 h3 h
  | dic _ _ _ => exact h.no
  | of r => cases r with
    | lst _ h1 _ h3 => exact key h1 h3 h
    | _ => exact h.no
theorem op1_all : Op1 X (fun x H Q => rAll X.K [x] H Q) (d1 oAll) := op1_drf fun W σ w x d Q F sx h => by
  have key : ∀ {a : Addr} {vs : List V} {ds : List D}, w.H a = some (.lst vs) → w.reps X.K vs ds → Ans X.K X.mg W σ w (oAll (.lst ds)) Q → rAll X.K [.ref a] w.H Q := fun {a vs ds} h1 h2 h3 => by
    dsimp only [oAll] at h3
    cases q : bools? ds with
    | none => rw [q] at h3; exact h3.no
    | some ns =>
      rw [q] at h3
      have e := bools_reps h2 q
      subst e
      exact ⟨a, ns, rfl, .of h1, Ans.val F h3 (.bl _)⟩
  cases sx with
  | lst h1 h2 h3 => exact key h1 h3 h
  | dic _ _ _ => exact h.no
  | of r => cases r with
    | lst _ h1 _ h3 => exact key h1 h3 h
    | _ => exact h.no
theorem me_sum (hc : X.calm = true) (hg : Gl X "sum") (hm : X.mg "sum" = none) (ha : MA X W [a] fs) (he : starEach [a] X.env = (false, eval a X.env) :: starEach [] X.env := by rfl) (hpl : (backTo pos (starEach [] X.env)).any (·.1) = false := by rfl) : ME X W (.Call (.Name "sum" p) [a] [] pos) (eN (one (d1 oSum)) fs) := me_callB (cr_sum hc) (opN_one op1_sum) hg hm boot_sum' ha (by decide) (by decide) he hpl
theorem me_all (hc : X.calm = true) (hg : Gl X "all") (hm : X.mg "all" = none) (ha : MA X W [a] fs) (he : starEach [a] X.env = (false, eval a X.env) :: starEach [] X.env := by rfl) (hpl : (backTo pos (starEach [] X.env)).any (·.1) = false := by rfl) : ME X W (.Call (.Name "all" p) [a] [] pos) (eN (one (d1 oAll)) fs) := me_callB (cr_all hc) (opN_one op1_all) hg hm boot_all' ha (by decide) (by decide) he hpl
/-! isinstance -/
theorem me_ty {x : Str} (t : Ty) (hx : x = Str.ofString t.name) (hg : Gl X x) (hm : X.mg x = none) (hn : x ≠ "__name__" := by decide) (hd : (x == ("__debug__" : Str)) = false := by decide) : ME X W (.Name x pos) (eC (.ty t)) :=
  me_c (pe_bltn (v := .ty t.name) hg hm (hx ▸ boot_ty t) rfl hn hd) fun _ _ _ _ => .ty t
@[simp] def isTy : D → Ty → Option Bool
  | .int _, t => some (match t with | .int => true | _ => false)
  | .bl _, t => some (match t with | .int => true | .bool => true | _ => false)
  | .str _, t => some (match t with | .str => true | _ => false)
  | .lst _, t => some (match t with | .list => true | _ => false)
  | .scr _, t => some (match t with | .list => true | _ => false)
  | .tup _, t => some (match t with | .tuple => true | _ => false)
  | .dic _ _, t => some (match t with | .dict => true | _ => false)
  | .non, _ => some false
  | _, _ => none
theorem kitTab : kitB "NoneType" "int" = some false := by decide +kernel
theorem isTy_kit {K : PySem.W.Frag} {w : Wd} {v : V} {d : D} {t : Ty} {b : Bool} (s : Shal K w v d) (h : isTy d t = some b) : ∃ u, TyX K w.H v u ∧ PySem.W.kitOne K u (.type t.name) = some b := by
  have hs : ∀ {a : Addr} {ns : List Int}, SqL K w.H a (ns.map V.int) → TyX K w.H (.ref a) (.type "list") := fun {a ns} q => by
    rcases q with (q | ⟨o, q⟩) | ⟨o, its, n, q1, q2, _⟩
    · exact .base (.lst q)
    · exact .base (.frz q)
    · exact .kList q1 q2
  cases s with
  | lst h1 _ _ => exact ⟨_, .base (.lst h1), kit_ty (by cases t <;> cases h <;> decide +kernel)⟩
  | dic h1 _ _ => exact ⟨_, .base (.dK h1), kit_ty (by cases t <;> cases h <;> decide +kernel)⟩
  | of r => cases r with
    | int i => exact ⟨_, .base (.int i), kit_ty (by cases t <;> cases h <;> decide +kernel)⟩
    | bl i => exact ⟨_, .base (.bl i), kit_ty (by cases t <;> cases h <;> decide +kernel)⟩
    | str i => exact ⟨_, .base (.str i), kit_ty (by cases t <;> cases h <;> decide +kernel)⟩
    | non => exact ⟨_, .base .non, kit_ty (by cases t <;> cases h <;> decide +kernel)⟩
    | lst _ h1 _ _ => exact ⟨_, .base (.lst h1), kit_ty (by cases t <;> cases h <;> decide +kernel)⟩
    | tup _ h1 _ _ => exact ⟨_, .base (.tup h1), kit_ty (by cases t <;> cases h <;> decide +kernel)⟩
    | dic _ h1 _ _ => exact ⟨_, .base (.dK h1), kit_ty (by cases t <;> cases h <;> decide +kernel)⟩
    | scr _ h1 => exact ⟨_, hs h1, kit_ty (by cases t <;> cases h <;> decide +kernel)⟩
    | _ => cases h
@[simp] def tys? : List D → Option (List Ty)
  | [] => some []
  | .ty i :: ds => match tys? ds with
    | some is => some (i :: is)
    | none => none
  | _ => none
@[simp] def isTys0 (d : D) : List Ty → Option Bool
  | [] => some false
  | t :: ts => match isTy d t with
    | some true => some true
    | some false => isTys0 d ts
    | none => none
@[simp] def isTys (d : D) : List Ty → Option Bool
  | [] => none
  | ts => isTys0 d ts
@[simp] def oIsi (d e : D) : M D := match e with
  | .ty t => match isTy d t with
    | some b => M.ret (.bl b)
    | none => M.stuck
  | .tup cs => match tys? cs with
    | some ts => match isTys d ts with
      | some b => M.ret (.bl b)
      | none => M.stuck
    | none => M.stuck
  | _ => M.stuck
theorem tys_reps {K : PySem.W.Frag} {S : Addr → Prop} {μ : List Addr} {H : Hp} : ∀ {vs : List V} {ds : List D} {ns : List Ty}, Reps K S μ H vs ds → tys? ds = some ns → vs = ns.map (fun t => V.ty t.name)
  | _, _, _, .nil, e => by cases e; rfl
  | _, _, _, .cons (d := d) (ds := ds) h t, e => by
    cases h with
    | ty i =>
      unfold tys? at e
      cases q : tys? ds with
      | none => rw [q] at e; cases e
      | some is => rw [q] at e; cases e; rw [tys_reps t q]; rfl
    | _ => unfold tys? at e; cases e
theorem cls_all : ∀ ts : List Ty, Paired ClsV (ts.map fun t => V.ty t.name) (ts.map fun t => Value.type t.name)
  | [] => .nil
  | t :: ts => .cons (.ty t.name) (cls_all ts)
theorem isTys_kit {K : PySem.W.Frag} {w : Wd} {v : V} {d : D} (s : Shal K w v d) : ∀ {ts : List Ty} {b : Bool}, isTys d ts = some b → ∃ u, TyX K w.H v u ∧ PySem.W.kitAny K u (ts.map fun t => .type t.name) = some b := by
  intro ts b h
  -- the type is the same for all
  have ty : ∀ t b, isTy d t = some b → ∃ u, TyX K w.H v u ∧ ∀ t' b', isTy d t' = some b' → PySem.W.kitOne K u (.type t'.name) = some b' := by
    intro t b h
    have hs : ∀ {a : Addr} {ns : List Int}, SqL K w.H a (ns.map V.int) → TyX K w.H (.ref a) (.type "list") := fun {a ns} q => by
      rcases q with (q | ⟨o, q⟩) | ⟨o, its, n, q1, q2, _⟩
      · exact .base (.lst q)
      · exact .base (.frz q)
      · exact .kList q1 q2
    cases s with
    | lst h1 _ _ => exact ⟨_, .base (.lst h1), fun t' b' h' => kit_ty (by cases t' <;> cases h' <;> decide +kernel)⟩
    | dic h1 _ _ => exact ⟨_, .base (.dK h1), fun t' b' h' => kit_ty (by cases t' <;> cases h' <;> decide +kernel)⟩
    | of r => cases r with
      | int i => exact ⟨_, .base (.int i), fun t' b' h' => kit_ty (by cases t' <;> cases h' <;> decide +kernel)⟩
      | bl i => exact ⟨_, .base (.bl i), fun t' b' h' => kit_ty (by cases t' <;> cases h' <;> decide +kernel)⟩
      | str i => exact ⟨_, .base (.str i), fun t' b' h' => kit_ty (by cases t' <;> cases h' <;> decide +kernel)⟩
      | non => exact ⟨_, .base .non, fun t' b' h' => kit_ty (by cases t' <;> cases h' <;> decide +kernel)⟩
      | lst _ h1 _ _ => exact ⟨_, .base (.lst h1), fun t' b' h' => kit_ty (by cases t' <;> cases h' <;> decide +kernel)⟩
      | tup _ h1 _ _ => exact ⟨_, .base (.tup h1), fun t' b' h' => kit_ty (by cases t' <;> cases h' <;> decide +kernel)⟩
      | dic _ h1 _ _ => exact ⟨_, .base (.dK h1), fun t' b' h' => kit_ty (by cases t' <;> cases h' <;> decide +kernel)⟩
      | scr _ h1 => exact ⟨_, hs h1, fun t' b' h' => kit_ty (by cases t' <;> cases h' <;> decide +kernel)⟩
      | _ => cases h
  have go : ∀ (u : Value), (∀ t' b', isTy d t' = some b' → PySem.W.kitOne K u (.type t'.name) = some b') → ∀ (ts : List Ty) (b : Bool), isTys0 d ts = some b → PySem.W.kitAny K u (ts.map fun t => .type t.name) = some b := by
    intro u hu ts
    induction ts with
    | nil => intro b h; cases h; exact kitAny_nil
    | cons t ts ih =>
      intro b h
      unfold isTys0 at h
      cases q : isTy d t with
      | none => rw [q] at h; cases h
      | some b0 =>
        rw [q] at h
        cases b0 with
        | true => cases h; exact kitAny_cons (hu t _ q) (fun z => nomatch z) (fun _ => rfl)
        | false => exact kitAny_cons (hu t _ q) (fun _ => ih b h) (fun z => nomatch z)
  cases ts with
  | nil => cases h
  | cons t ts =>
    have : ∃ b0, isTy d t = some b0 := by
      have h : isTys0 d (t :: ts) = some b := h
      unfold isTys0 at h
      cases q : isTy d t with
      | none => rw [q] at h; cases h
      | some b0 => exact ⟨b0, rfl⟩
    obtain ⟨b0, hb⟩ := this
    obtain ⟨u, h1, h2⟩ := ty _ _ hb
    exact ⟨u, h1, go u h2 (t :: ts) b h⟩
theorem opN_isi : OpN X (fun xs H Q => rIsi X.K xs H Q ∨ rIsiT X.K xs H Q) (two fun d e => (drf d).bind fun d' => oIsi d' e) := opN_two fun W σ w x y d e Q F rx ry h => drf_thn F h rx fun d' sx h' => by
  unfold oIsi at h'
  cases ry with
  | ty t =>
    dsimp only at h'
    cases q : isTy d' t with
    | none => rw [q] at h'; exact h'.no
    | some b =>
      rw [q] at h'
      obtain ⟨u, h1, h2⟩ := isTy_kit sx q
      exact .inl ⟨x, _, u, _, b, rfl, .ty _, h1, h2, Ans.val F h' (.bl _)⟩
  | @tup c vs ds _ h1 _ h3 =>
    dsimp only at h'
    cases q : tys? ds with
    | none => rw [q] at h'; exact h'.no
    | some ts =>
      rw [q] at h'
      dsimp only at h'
      cases q2 : isTys d' ts with
      | none => rw [q2] at h'; exact h'.no
      | some b =>
        rw [q2] at h'
        have e := tys_reps h3 q
        subst e
        obtain ⟨u, k1, k2⟩ := isTys_kit sx q2
        exact .inr ⟨x, c, _, u, _, b, rfl, h1, cls_all ts, k1, k2, Ans.val F h' (.bl _)⟩
  | _ => exact h'.no
theorem call_isiA : CallR X (.builtin "isinstance") (fun xs H Q => rIsi X.K xs H Q ∨ rIsiT X.K xs H Q) := by
  intro pins s σ H xs us Q I rs h
  rcases h with h | h
  · exact call_isi pins s σ H xs us Q I rs h
  · exact call_isiT pins s σ H xs us Q I rs h
theorem me_isi (hg : Gl X "isinstance") (hm : X.mg "isinstance" = none) (ha : MA X W [a, b] fs) (he : starEach [a, b] X.env = (false, eval a X.env) :: starEach [b] X.env := by rfl) (hpl : (backTo pos (starEach [b] X.env)).any (·.1) = false := by rfl) : ME X W (.Call (.Name "isinstance" p) [a, b] [] pos) (eN (two fun d e => (drf d).bind fun d' => oIsi d' e) fs) := me_callB call_isiA opN_isi hg hm boot_isi' ha (by decide) (by decide) he hpl
/-! list(..), tuple(..) -/
@[simp] def oList : D → M D
  | .lst xs => M.ret (.lst xs)
  | .tup xs => M.ret (.lst xs)
  | _ => M.stuck
@[simp] def oTuple : D → M D
  | .lst xs => M.ret (.tup xs)
  | .tup xs => M.ret (.tup xs)
  | _ => M.stuck
theorem op1_list : Op1 X (fun x H Q => ∃ p ys, [x] = [V.ref p] ∧ (SqL X.K H p ys ∨ SqT X.K H p ys) ∧ ∀ l, H l = none → Q (.ref l) (upd H l (.lst ys))) (d1 oList) := op1_drf fun W σ w x d Q F sx h => by
  cases sx with
  | lst h1 h2 h3 => exact ⟨_, _, rfl, .inl (.of h1), Ans.lst F h h3 h2⟩
  | dic _ _ _ => exact h.no
  | of r => cases r with
    | lst _ h1 h2 h3 => exact ⟨_, _, rfl, .inl (.of h1), Ans.lst F h h3 h2⟩
    | tup _ h1 h2 h3 => exact ⟨_, _, rfl, .inr (.of h1), Ans.lst F h h3 h2⟩
    | _ => exact h.no
theorem op1_tuple : Op1 X (fun x H Q => ∃ p ys, [x] = [V.ref p] ∧ ((SqL X.K H p ys ∧ ∀ l, H l = none → Q (.ref l) (upd H l (.tup ys))) ∨ (SqT X.K H p ys ∧ Q (.ref p) H))) (d1 oTuple) := op1_drf fun W σ w x d Q F sx h => by
  cases sx with
  | lst h1 h2 h3 => exact ⟨_, _, rfl, .inl ⟨.of h1, Ans.tup F h h3 h2⟩⟩
  | dic _ _ _ => exact h.no
  | of r => cases r with
    | lst _ h1 h2 h3 => exact ⟨_, _, rfl, .inl ⟨.of h1, Ans.tup F h h3 h2⟩⟩
    | tup h0 h1 h2 h3 => exact ⟨_, _, rfl, .inr ⟨.of h1, Ans.val F h (.tup h0 h1 h2 h3)⟩⟩
    | _ => exact h.no
theorem me_list (hg : Gl X "list") (hm : X.mg "list" = none) (ha : MA X W [a] fs) (he : starEach [a] X.env = (false, eval a X.env) :: starEach [] X.env := by rfl) (hpl : (backTo pos (starEach [] X.env)).any (·.1) = false := by rfl) : ME X W (.Call (.Name "list" p) [a] [] pos) (eN (one (d1 oList)) fs) := me_callTy call_list_of (opN_one op1_list) hg hm boot_list' ha (by decide) (by decide) he hpl
theorem me_tuple (hg : Gl X "tuple") (hm : X.mg "tuple" = none) (ha : MA X W [a] fs) (he : starEach [a] X.env = (false, eval a X.env) :: starEach [] X.env := by rfl) (hpl : (backTo pos (starEach [] X.env)).any (·.1) = false := by rfl) : ME X W (.Call (.Name "tuple" p) [a] [] pos) (eN (one (d1 oTuple)) fs) := me_callTy call_tuple_of (opN_one op1_tuple) hg hm boot_tuple' ha (by decide) (by decide) he hpl

/-! ### cells -/
def newCell (c : Cell) : M D := fun ω => .ok (.cell ω.length) (ω ++ [c])
def Wd.alloc (w : Wd) (p : Addr) (o : HO) (c : Cell) : Wd := ⟨w.S, w.μ ++ [p], w.ω ++ [c], upd w.H p o⟩
theorem alloc_grow {w : Wd} {p : Addr} {o : HO} {c : Cell} (hp : w.H p = none) : Grow w (w.alloc p o c) :=
  ⟨fun _ h => h, fun _ h => .inl h, ⟨[p], rfl⟩, fun a h => by
    rcases List.mem_append.mp h with h | h
    · exact .inl h
    · have e : a = p := by simpa using h
      exact .inr (e ▸ hp), fun a u h _ => by
    show upd w.H p o a = some u
    rw [upd_ne (ne_of_none h hp)]; exact h⟩
theorem alloc_fits {K : PySem.W.Frag} {w : Wd} {p : Addr} {o : HO} {c : Cell} (F : Fits K w) (hp : w.H p = none) (ok : CellOk K (w.alloc p o c) p c) : Fits K (w.alloc p o c) := by
  have np : p ∉ w.μ := fun h => F.domμ p h hp
  have nS : ¬ w.S p := fun h => F.dom p h hp
  refine ⟨by simp [Wd.alloc, F.len], ?_, fun a h => ?_, fun a h => ?_, fun n a c' h1 h2 => ?_⟩
  · show (w.μ ++ [p]).Nodup
    rw [List.nodup_append]
    exact ⟨F.nd, by simp, fun a ha b hb e => np (by rw [← (by simpa using hb : b = p), ← e]; exact ha)⟩
  · show upd w.H p o a ≠ none
    rw [upd_ne (ne_side nS h)]; exact F.dom a h
  · show upd w.H p o a ≠ none
    by_cases e : a = p
    · rw [e, upd_same]; exact fun z => nomatch z
    · rw [upd_ne e]
      rcases List.mem_append.mp h with h | h
      · exact F.domμ a h
      · exact absurd (by simpa using h) e
  · have h1' : (w.μ ++ [p])[n]? = some a := h1
    have h2' : (w.ω ++ [c])[n]? = some c' := h2
    by_cases hn : n < w.μ.length
    · rw [List.getElem?_append_left hn] at h1'
      rw [List.getElem?_append_left (F.len ▸ hn)] at h2'
      have hne : a ≠ p := fun e => np (e ▸ List.mem_of_getElem? h1')
      rcases F.live n a c' h1' h2' with h | ⟨h, h'⟩
      · exact .inl h
      · exact .inr ⟨h, h'.mono (upd_ne hne) fun vs ds r => (alloc_grow hp).reps r⟩
    · have hn' : n = w.μ.length := by
        have := (List.getElem?_eq_some_iff.mp h1').1
        simp at this; omega
      subst hn'
      rw [List.getElem?_append_right (Nat.le_refl _), Nat.sub_self] at h1'
      rw [F.len, List.getElem?_append_right (Nat.le_refl _), Nat.sub_self] at h2'
      cases h1'; cases h2'
      exact .inr ⟨nS, ok⟩
theorem Ans.cell {K : PySem.W.Frag} {mg : Str → Option Value} {σ : L2.St} {w : Wd} {Q : VK} {vs : List V} {ds : List D} (F : Fits K w) (h : Ans K mg W σ w (newCell (.lst ds)) Q) (r : w.reps K vs ds) (hl : vs.length ≤ sizeLine) : ∀ p, w.H p = none → Q (.ref p) (upd w.H p (.lst vs)) := fun p hp => by
  refine h (w.alloc p (.lst vs) (.lst ds)) (alloc_grow hp) (alloc_fits F hp ⟨vs, upd_same, hl, (alloc_grow hp).reps r⟩) rfl (.ref p) (.cell ?_)
  show (w.μ ++ [p])[w.ω.length]? = some p
  rw [← F.len, List.getElem?_append_right (Nat.le_refl _), Nat.sub_self]; rfl
/-- a written list as a cell -/
@[simp] def eLstC (fs : Env → M (List D)) : Env → M D := eN (fun ds => if ds.length ≤ 1000 then newCell (.lst ds) else M.stuck) fs
theorem me_lstC (h : MA X W es fs) : ME X W (.List es pos) (eLstC fs) := by
  refine PE.sub (pe_lst h) ?_
  rintro σ H Q ⟨w, ρ, rfl, F, E, h⟩
  refine ⟨w, ρ, rfl, F, E, Holds.thn h fun ds w1 g1 F1 h1 xs rs => ?_⟩
  obtain ⟨c, h1⟩ := Holds.ite h1
  have c' : xs.length ≤ sizeLine := sz1000 (by rw [rs.length]; exact c)
  exact ⟨c', Ans.cell F1 h1 rs c'⟩
/-- a cell's content changed -/
def Wd.put (w : Wd) (n : Nat) (a : Addr) (o : HO) (c : Cell) : Wd := ⟨w.S, w.μ, w.ω.set n c, upd w.H a o⟩
theorem put_all {K : PySem.W.Frag} {w : Wd} {n : Nat} {a : Addr} {o : HO} {c : Cell} (F : Fits K w) (hn : w.μ[n]? = some a) (nS : ¬ w.S a) (ok : CellOk K (w.put n a o c) a c) : Grow w (w.put n a o c) ∧ Fits K (w.put n a o c) := by
  have gr : Grow w (w.put n a o c) := ⟨fun _ h => h, fun _ h => .inl h, List.prefix_refl _, fun _ h => .inl h, fun b u h k => by
    have hne : b ≠ a := fun e => by
      subst e
      rcases k with k | k
      · exact nS k
      · exact k (List.mem_of_getElem? hn)
    show upd w.H a o b = some u
    rw [upd_ne hne]; exact h⟩
  refine ⟨gr, by simp [Wd.put, F.len], F.nd, fun b h => ?_, fun b h => ?_, fun m b c' h1 h2 => ?_⟩
  · show upd w.H a o b ≠ none
    rw [upd_ne (ne_side nS h)]; exact F.dom b h
  · show upd w.H a o b ≠ none
    by_cases e : b = a
    · rw [e, upd_same]; exact fun z => nomatch z
    · rw [upd_ne e]; exact F.domμ b h
  · have h1' : w.μ[m]? = some b := h1
    have h2' : (w.ω.set n c)[m]? = some c' := h2
    by_cases hm : n = m
    · subst hm
      rw [hn] at h1'; cases h1'
      have hl : n < w.ω.length := F.len ▸ (List.getElem?_eq_some_iff.mp hn).1
      rw [List.getElem?_set_self hl] at h2'; cases h2'
      exact .inr ⟨nS, ok⟩
    · rw [List.getElem?_set_ne hm] at h2'
      have hne : b ≠ a := fun e => by
        subst e
        exact hm ((List.getElem?_inj (List.getElem?_eq_some_iff.mp hn).1 F.nd).mp (hn.trans h1'.symm))
      rcases F.live m b c' h1' h2' with h | ⟨h, h'⟩
      · exact .inl h
      · exact .inr ⟨h, h'.mono (upd_ne hne) fun vs ds r => gr.reps r⟩
theorem cell_live {K : PySem.W.Frag} {w : Wd} {n : Nat} {a : Addr} {xs : List D} (F : Fits K w) (hn : w.μ[n]? = some a) (h : w.ω[n]? = some (.lst xs)) : ¬ w.S a ∧ ∃ vs, w.H a = some (.lst vs) ∧ vs.length ≤ sizeLine ∧ w.reps K vs xs := by
  rcases F.live n a _ hn h with e | e
  · cases e
  · exact e
/-! ### methods of built-in types -/
def eBM (chk : D → List Cell → Bool) (o : D → List D → M D) (f : Env → M D) (fs : Env → M (List D)) : Env → M D := fun ρ => (f ρ).bind fun d ω => if chk d ω = true then ((fs ρ).bind fun ds => o d ds) ω else .stuck
def OpM (X : Cx) (r : V → List V → Hp → VK → Prop) (o : D → List D → M D) : Prop := ∀ (W : WX) (σ : L2.St) (w : Wd) (x : V) (d : D) (xs : List V) (ds : List D) (Q : VK), Fits X.K w → w.rep X.K x d → w.reps X.K xs ds → Ans X.K X.mg W σ w (o d ds) Q → r x xs w.H Q
def ChkT (X : Cx) (T : String) (chk : D → List Cell → Bool) : Prop := ∀ (w : Wd) (x : V) (d : D), Fits X.K w → w.rep X.K x d → chk d w.ω = true → tyV X.K T x w.H
theorem me_bm {T id : String} {name : Str} {r : V → List V → Hp → VK → Prop} {chk : D → List Cell → Bool} {o : D → List D → M D} {apos : Pos} (pa : PlainAttrs T) (slot : Slot T name id) (hty : typeOf (.builtin id) = pure (.type "method_descriptor")) (hm : MtR X id r) (ho : OpM X r o) (hc : ChkT X T chk)
    (ha : ME X W a f) (hb : MA X W (b :: es) fs) (hbase : attributeBase a name X.env (eval a X.env) = eval a X.env := by rfl)
    (hfew : ((backTo pos (starEach (b :: es) X.env)).all (fun x => !x.1) && (backToKw pos (keywordEach [] X.env)).all (fun x => x.1.isSome)
      && decide ((b :: es).length + ([] : List Keyword).length + (if ([] : List Keyword).isEmpty then 0 else 1) < 30)) = true := by rfl)
    (hline : (apos.endLine == pos.line) = true := by rfl) (hs : starEach (b :: es) X.env = (false, eval b X.env) :: starEach es X.env := by rfl) (hplain : (backTo pos (starEach es X.env)).any (·.1) = false := by rfl) :
    ME X W (.Call (.Attribute a name apos) (b :: es) [] pos) (eBM chk o f fs) := by
  refine PE.sub (pe_bm pa slot hty hm ha hb hbase hfew hline hs hplain) ?_
  rintro σ H Q ⟨w, ρ, rfl, F, E, h⟩
  refine ⟨w, ρ, rfl, F, E, Holds.thn h fun d w1 g1 F1 h1 x rx => ?_⟩
  by_cases c : chk d w1.ω = true
  · rw [if_pos c] at h1
    refine ⟨hc w1 x d F1 rx c, w1, ρ, rfl, F1, E.grow g1, Holds.thn h1 fun ds w2 g2 F2 h2 xs rs => ?_⟩
    exact ho W σ w2 x d xs ds Q F2 (g2.rep rx) rs h2
  · rw [if_neg c] at h1; exact h1.elim
theorem me_bm0 {T id : String} {name : Str} {r : V → List V → Hp → VK → Prop} {chk : D → List Cell → Bool} {o : D → List D → M D} {apos : Pos} (pa : PlainAttrs T) (slot : Slot T name id) (hty : typeOf (.builtin id) = pure (.type "method_descriptor")) (hm : MtR X id r) (ho : OpM X r o) (hc : ChkT X T chk)
    (ha : ME X W a f) (hbase : attributeBase a name X.env (eval a X.env) = eval a X.env := by rfl) (hline : (apos.endLine == pos.line) = true := by rfl) :
    ME X W (.Call (.Attribute a name apos) [] [] pos) (eBM chk o f aNil) := by
  refine PE.sub (pe_bm0 pa slot hty hm ha hbase hline) ?_
  rintro σ H Q ⟨w, ρ, rfl, F, E, h⟩
  refine ⟨w, ρ, rfl, F, E, Holds.thn h fun d w1 g1 F1 h1 x rx => ?_⟩
  by_cases c : chk d w1.ω = true
  · rw [if_pos c] at h1
    exact ⟨hc w1 x d F1 rx c, ho W σ w1 x d [] [] Q F1 rx .nil h1⟩
  · rw [if_neg c] at h1; exact h1.elim
def chkL (d : D) (ω : List Cell) : Bool := match d with
  | .lst _ => true
  | .cell n => match ω[n]? with
    | some (.lst _) => true
    | _ => false
  | _ => false
def chkS (d : D) (_ : List Cell) : Bool := match d with
  | .str _ => true
  | _ => false
theorem chkL_ok : ChkT X "list" chkL := fun w x d F r c => by
  cases r with
  | lst _ h1 _ _ => exact .inl ⟨rfl, _, .of h1⟩
  | @cell n a hn =>
    dsimp only [chkL] at c
    cases z : w.ω[n]? with
    | none => rw [z] at c; cases c
    | some cc =>
      rw [z] at c
      cases cc with
      | lst xs =>
        obtain ⟨_, vs, h1, _⟩ := cell_live F hn z
        exact .inl ⟨rfl, _, .of h1⟩
      | _ => cases c
  | _ => cases c
theorem chkS_ok : ChkT X "str" chkS := fun w x d F r c => by
  cases r with
  | str y _ _ => exact (rfl : ("str" : String) = "str")
  | _ => cases c
/-- a list's cell changed: the new content, the answer -/
def upL (k : List D → List D → Option (List D × D)) (d : D) (ds : List D) : M D := fun ω => match d with
  | .cell n => match ω[n]? with
    | some (.lst xs) => match k xs ds with
      | some (ys, z) => .ok z (ω.set n (.lst ys))
      | none => .stuck
    | _ => .stuck
  | _ => .stuck
theorem upL_thn {K : PySem.W.Frag} {mg : Str → Option Value} {σ : L2.St} {w : Wd} {x : V} {d : D} {ds : List D} {k : List D → List D → Option (List D × D)} {P : D → Wd → Prop} {R : Prop} (F : Fits K w) (r : w.rep K x d) (h : Holds K mg W σ w (upL k d ds w.ω) P)
    (hk : ∀ (a : Addr) (vs : List V) (xs ys : List D) (z : D), x = .ref a → w.H a = some (.lst vs) → vs.length ≤ sizeLine → w.reps K vs xs → k xs ds = some (ys, z) →
      (∀ vs', vs'.length ≤ sizeLine → w.reps K vs' ys → ∃ w', Grow w w' ∧ w'.H = upd w.H a (.lst vs') ∧ P z w') → R) : R := by
  unfold upL at h
  cases r with
  | @cell n a hn =>
    dsimp only at h
    cases z : w.ω[n]? with
    | none => rw [z] at h; exact h.elim
    | some c =>
      rw [z] at h
      cases c with
      | lst xs =>
        dsimp only at h
        obtain ⟨nS, vs, h1, h2, h3⟩ := cell_live F hn z
        cases q : k xs ds with
        | none => rw [q] at h; exact h.elim
        | some yz =>
          rw [q] at h
          refine hk a vs xs yz.1 yz.2 rfl h1 h2 h3 q fun vs' hl hr => ?_
          have gr0 : Grow w (w.put n a (.lst vs') (.lst yz.1)) := ⟨fun _ h => h, fun _ h => .inl h, List.prefix_refl _, fun _ h => .inl h, fun b u h k => by
            have hne : b ≠ a := fun e => by
              subst e
              rcases k with k | k
              · exact nS k
              · exact k (List.mem_of_getElem? hn)
            show upd w.H a (.lst vs') b = some u
            rw [upd_ne hne]; exact h⟩
          obtain ⟨g1, F1⟩ := put_all F hn nS (o := .lst vs') (c := .lst yz.1) ⟨vs', upd_same, hl, gr0.reps hr⟩
          exact ⟨_, g1, rfl, h _ g1 F1 rfl⟩
      | _ => exact h.elim
  | _ => exact h.elim
def kAppend (xs ds : List D) : Option (List D × D) := match ds with
  | [d] => if xs.length < 1000000 then some (xs ++ [d], .non) else none
  | _ => none
theorem big6 {n : Nat} (h : n < 1000000) : n < sizeLine := Nat.lt_of_lt_of_le h (by decide)
theorem opM_append : OpM X rAppend (upL kAppend) := fun W σ w x d xs ds Q F rx rs h => upL_thn F rx h fun a vs ys zs z e h1 h2 h3 hk hw => by
  subst e
  cases rs with
  | nil => cases hk
  | cons r rs => cases rs with
    | cons _ _ => cases hk
    | nil =>
      dsimp only [kAppend] at hk
      by_cases c : ys.length < 1000000
      · rw [if_pos c] at hk
        cases hk
        have c' : vs.length < 1000000 := by rw [h3.length]; exact c
        obtain ⟨w', g', e', q⟩ := hw (vs ++ [_]) (by rw [List.length_append]; exact big6 c') (h3.append (.cons r .nil))
        refine ⟨a, vs, _, rfl, rfl, h1, big6 c', ?_⟩
        rw [← e']
        exact q .non .non
      · rw [if_neg c] at hk; cases hk
end
end Mi
namespace Mi
open PySem PySem.Spec PyProof.Rows L2
section
variable {X : Cx} {W : WX} {a b c : Expr} {es : List Expr} {fs : Env → M (List D)} {f g : Env → M D} {pos p : Pos}
theorem takesWF : Takes X WF := fun _ _ x => by
  obtain ⟨_, _, _, _, _, _, _, _, _, _, _, _, _, _, _, _, z⟩ := x
  exact z.elim
/-- a cell is changed no more -/
def frzD (d : D) : M D := fun ω => match d with
  | .cell n => match ω[n]? with
    | some (.lst xs) => .ok (.lst xs) (ω.set n .dead)
    | some (.dic ks xs) => .ok (.dic ks xs) (ω.set n .dead)
    | _ => .stuck
  | d => .ok d ω
@[simp] def frz (f : Env → M D) : Env → M D := fun ρ => (f ρ).bind frzD
theorem frz_world {K : PySem.W.Frag} {w : Wd} {n : Nat} {a : Addr} (F : Fits K w) (hn : w.μ[n]? = some a) : Grow w ⟨fun x => w.S x ∨ x = a, w.μ, w.ω.set n .dead, w.H⟩ ∧ Fits K ⟨fun x => w.S x ∨ x = a, w.μ, w.ω.set n .dead, w.H⟩ := by
  have ha : a ∈ w.μ := List.mem_of_getElem? hn
  have gr : Grow w ⟨fun x => w.S x ∨ x = a, w.μ, w.ω.set n .dead, w.H⟩ := ⟨fun _ h => .inl h, fun x h => h.elim .inl fun z => .inr (.inr (z ▸ ha)), List.prefix_refl _, fun _ h => .inl h, fun _ _ h _ => h⟩
  refine ⟨gr, by simp [F.len], F.nd, fun x h => h.elim (F.dom x) fun z => z ▸ F.domμ a ha, F.domμ, fun m x c h1 h2 => ?_⟩
  have h1' : w.μ[m]? = some x := h1
  have h2' : (w.ω.set n .dead)[m]? = some c := h2
  by_cases hm : n = m
  · subst hm
    have hl : n < w.ω.length := F.len ▸ (List.getElem?_eq_some_iff.mp hn).1
    rw [List.getElem?_set_self hl] at h2'; cases h2'
    exact .inl rfl
  · rw [List.getElem?_set_ne hm] at h2'
    have hne : x ≠ a := fun e => by
      subst e
      exact hm ((List.getElem?_inj (List.getElem?_eq_some_iff.mp hn).1 F.nd).mp (hn.trans h1'.symm))
    rcases F.live m x c h1' h2' with h | ⟨h, h'⟩
    · exact .inl h
    · exact .inr ⟨fun z => z.elim h hne, h'.mono rfl fun vs ds r => gr.reps r⟩
theorem me_frz (ha : ME X W a f) : ME X W a (frz f) := by
  refine PE.sub ha ?_
  rintro σ H Q ⟨w, ρ, rfl, F, E, h⟩
  refine ⟨w, ρ, rfl, F, E, Holds.thn h fun d w1 g1 F1 h1 x rx => ?_⟩
  unfold frzD at h1
  cases rx with
  | @cell n a hn =>
    dsimp only at h1
    cases z : w1.ω[n]? with
    | none => rw [z] at h1; exact h1.elim
    | some cc =>
      rw [z] at h1
      obtain ⟨g2, F2⟩ := frz_world F1 hn
      rcases F1.live n a cc hn z with e | ⟨nS, ok⟩
      · subst e; exact h1.elim
      · cases cc with
        | dead => exact h1.elim
        | lst xs =>
          obtain ⟨vs, k1, k2, k3⟩ := ok
          exact h1 _ g2 F2 rfl _ (.lst (.inr rfl) k1 k2 (g2.reps k3))
        | dic ks xs =>
          obtain ⟨kvs, k1, k2, rfl, k3⟩ := ok
          exact h1 _ g2 F2 rfl _ (.dic (.inr rfl) k1 k2 (g2.reps k3))
        | ins C fs => exact ok.elim
  | non => exact h1 w1 (Grow.refl _) F1 rfl _ .non
  | bl y => exact h1 w1 (Grow.refl _) F1 rfl _ (.bl y)
  | int y => exact h1 w1 (Grow.refl _) F1 rfl _ (.int y)
  | str y q q' => exact h1 w1 (Grow.refl _) F1 rfl _ (.str y q q')
  | lst q1 q2 q3 q4 => exact h1 w1 (Grow.refl _) F1 rfl _ (.lst q1 q2 q3 q4)
  | tup q1 q2 q3 q4 => exact h1 w1 (Grow.refl _) F1 rfl _ (.tup q1 q2 q3 q4)
  | dic q1 q2 q3 q4 => exact h1 w1 (Grow.refl _) F1 rfl _ (.dic q1 q2 q3 q4)
  | ref y => exact h1 w1 (Grow.refl _) F1 rfl _ (.ref y)
  | ty y => exact h1 w1 (Grow.refl _) F1 rfl _ (.ty y)
  | scr q1 q2 => exact h1 w1 (Grow.refl _) F1 rfl _ (.scr q1 q2)
/-- a, b = x, y -/
@[simp] def sPar (is : List Nat) (fs : Env → M (List D)) : SM := thenS fs fun ds ρ ω => if ds.length = is.length then .next ((is.zip ds).foldl (fun r p => r.set p.1 (some p.2)) ρ) ω else .stuck
theorem ms_par2 {i j : Nat} {x y : Str} {px py pt : Pos} {kt k2 pt2} (hc : X.calm = true) (hN : X.N.Nodup) (hi : X.N[i]? = some x) (hj : X.N[j]? = some y) (hij : i ≠ j)
    (hx : X.env.scope.names.lookup x = some .local) (hy : X.env.scope.names.lookup y = some .local) (ha : MA X W [a, b] fs)
    (hw : swappedStores [.Tuple [.Name x px, .Name y py] kt pt] (.Tuple [a, b] k2 pt2) X.env = pure (some [x, y]))
    (hs : swapsWithSole [.Tuple [.Name x px, .Name y py] kt pt] (.Tuple [a, b] k2 pt2) pos.line X.env = pure false := by rfl) :
    MS X W (.Assign [.Tuple [.Name x px, .Name y py] kt pt] (.Tuple [a, b] k2 pt2) pos) (sPar [i, j] fs) := by
  refine PS.sub (ps_par hc hN hi hj hij hx hy ha hw hs) ?_
  rintro D σ H ⟨w, ρ, rfl, F, E, q⟩
  refine ⟨w, ρ, rfl, F, E, HoldsS.thn E q fun ds w1 g1 F1 E1 q1 vs rs => ?_⟩
  by_cases hl : ds.length = [i, j].length
  · rw [if_pos hl] at q1
    match ds, vs, rs, hl with
    | [d, e], _, .cons r1 (.cons r2 .nil), _ => exact ⟨_, _, rfl, q1.next' F1 ((E1.set r1).set r2)⟩
  · rw [if_neg hl] at q1; exact q1.no
theorem ms_par3 {i j l : Nat} {x y z : Str} {px py pz pt : Pos} {kt k2 pt2} (hc : X.calm = true) (hN : X.N.Nodup) (hi : X.N[i]? = some x) (hj : X.N[j]? = some y) (hl : X.N[l]? = some z) (hij : i ≠ j) (hil : i ≠ l) (hjl : j ≠ l)
    (hx : X.env.scope.names.lookup x = some .local) (hy : X.env.scope.names.lookup y = some .local) (hz : X.env.scope.names.lookup z = some .local) (ha : MA X W [a, b, c] fs)
    (hw : swappedStores [.Tuple [.Name x px, .Name y py, .Name z pz] kt pt] (.Tuple [a, b, c] k2 pt2) X.env = pure (some [x, y, z]))
    (hs : swapsWithSole [.Tuple [.Name x px, .Name y py, .Name z pz] kt pt] (.Tuple [a, b, c] k2 pt2) pos.line X.env = pure false := by rfl) :
    MS X W (.Assign [.Tuple [.Name x px, .Name y py, .Name z pz] kt pt] (.Tuple [a, b, c] k2 pt2) pos) (sPar [i, j, l] fs) := by
  refine PS.sub (ps_par3 hc hN hi hj hl hij hil hjl hx hy hz ha hw hs) ?_
  rintro D σ H ⟨w, ρ, rfl, F, E, q⟩
  refine ⟨w, ρ, rfl, F, E, HoldsS.thn E q fun ds w1 g1 F1 E1 q1 vs rs => ?_⟩
  by_cases hl : ds.length = [i, j, l].length
  · rw [if_pos hl] at q1
    match ds, vs, rs, hl with
    | [d, e, k], _, .cons r1 (.cons r2 (.cons r3 .nil)), _ => exact ⟨_, _, _, rfl, q1.next' F1 (((E1.set r1).set r2).set r3)⟩
  · rw [if_neg hl] at q1; exact q1.no
/-- (a, b, ..) = a list -/
@[simp] def gLs (n : Nat) (gs : List D → Env → Option Env) : D → Env → Option Env := fun d ρ => match d with
  | .lst ds => if ds.length = n then gs ds ρ else none
  | _ => none
theorem mg_lst {vs : List Nat} {es : List Expr} {k : Nat} {gs : List D → Env → Option Env} {n : Nat} (hc : X.calm = true) (h : MGs X vs es gs)
    (hn : (assignEach es X.env).length = n := by rfl) (hst : (assignEach es X.env).findIdx? (·.1) = none := by rfl) : MG X vs (.Tuple es k pos) (gLs n gs) := by
  refine PG.sub (pg_unl hc h hn hst) ?_
  rintro v σ H Q ⟨w, ρ, d, ρ', rfl, F, E, r, e, q⟩
  cases r with
  | @lst a us ds h1 h2 h3 h4 =>
    dsimp only [gLs] at e
    by_cases c : ds.length = n
    · rw [if_pos c] at e
      exact ⟨a, us, rfl, .of h2, h4.length.trans c, w, ρ, ds, ρ', rfl, F, E, h4, e, q⟩
    · rw [if_neg c] at e; cases e
  | _ => cases e
theorem me_append {apos : Pos} (ha : ME X W a f) (hb : MA X W [b] fs) (hbase : attributeBase a "append" X.env (eval a X.env) = eval a X.env := by rfl)
    (hfew : ((backTo pos (starEach [b] X.env)).all (fun x => !x.1) && (backToKw pos (keywordEach [] X.env)).all (fun x => x.1.isSome)
      && decide ([b].length + ([] : List Keyword).length + (if ([] : List Keyword).isEmpty then 0 else 1) < 30)) = true := by rfl)
    (hline : (apos.endLine == pos.line) = true := by rfl) (hs : starEach [b] X.env = (false, eval b X.env) :: starEach [] X.env := by rfl) (hplain : (backTo pos (starEach [] X.env)).any (·.1) = false := by rfl) :
    ME X W (.Call (.Attribute a "append" apos) [b] [] pos) (eBM chkL (upL kAppend) f fs) := me_bm PySem.F.plainAttrs_list PySem.F.slot_list_append PySem.F.type_list_append mt_append opM_append chkL_ok ha hb hbase hfew hline hs hplain
end
section
variable {P : Program} {w : World} {K : PySem.W.Frag} {mg : Str → Option Value} {base : Heap}
theorem fn_ok' {x qual : Str} {st : Stmt} {f : Addr} {fd : FuncData} {N ps : List Str} {k : Nat} {body : SM} (F : Fun K x qual st f fd) (S : FnScope N ps (defScope st))
    (hb : ∀ (cdv : Value) (A : Around) (outer : List PySem.Env) (s : Shared) (H : Hp) (E : XK), Room k (A.deeper (envOfC qual (defScope st) s.heap.objs.size f cdv)) →
      Takes (cxOf (L2.CX P w) P w K mg base N qual (defScope st) f cdv A outer s H E) (fun cls d _ H => E cls d H) →
      PassesOwn (model P w) (A.deeper (envOfC qual (defScope st) s.heap.objs.size f cdv)) (envOfC qual (defScope st) s.heap.objs.size f cdv) (cxOf (L2.CX P w) P w K mg base N qual (defScope st) f cdv A outer s H E).xe →
      MSs (cxOf (L2.CX P w) P w K mg base N qual (defScope st) f cdv A outer s H E) (fun cls d _ H => E cls d H) (defBody st) body) :
    FnOk P w K mg base (L2.CX P w) (k + 1) f fd ps (spF K mg ps.length (fnOf ps.length N.length body)) :=
  fn_ok F S fun cdv A outer s H E hr => hb cdv A outer s H E hr (takes_of rfl rfl rfl rfl) (passes_of (X := cxOf (L2.CX P w) P w K mg base N qual (defScope st) f cdv A outer s H E) rfl)
/-- the law's promise -/
def spLaw (K : PySem.W.Frag) : Sp := fun vs H Q _ => ∃ (a : Addr) (ns : List Int), vs = [.ref a] ∧ SqL K H a (ns.map V.int) ∧ ns.length ≤ 63 ∧ ∀ H', Q (.bl true) H'
theorem law_ok {f : Addr} {fd : FuncData} {x : Str} {k : Nat} {F : List D → PR} (G : FnOk P w K mg base (L2.CX P w) k f fd [x] (spF K mg 1 F)) (h : ∀ ns : List Int, ns.length ≤ 63 → F [.scr ns] = .ok (.bl true)) : FnOk P w K mg base (L2.CX P w) k f fd [x] (spLaw K) := by
  refine G.imp (fun vs H Q E q => ?_)
  · obtain ⟨a, ns, rfl, hS, hl, hq⟩ := q
    refine ⟨fun b => b = a ∧ H a ≠ none, [.scr ns], rfl, fun b hb => hb.1 ▸ hb.2, .cons (.scr ?_ hS) .nil, ?_⟩
    · rcases hS with hS | hS
      · refine .inl ⟨rfl, ?_⟩
        rcases hS with z | ⟨o, z⟩
        · rw [z]; exact fun z => nomatch z
        · rw [z]; exact fun z => nomatch z
      · exact .inr fun H' => .inr hS
    · rw [h ns hl]
      intro v S' H' _ _ rv
      cases rv
      exact hq H'
theorem cx_false {H : Hp} {s : Shared} {e : Value} {s' : Shared} (h : L2.CX P w [] H s (fun _ _ _ => False) e s') : False := by
  obtain ⟨_, _, _, _, _, _, _, _, _, _, _, _, z⟩ := h
  exact z
end
end Mi
namespace Mi
open PySem PySem.Spec PyProof.Rows L2
/-! ### evaluation by rewriting -/
section
variable {α β : Type}
@[simp] theorem bind_ret (a : α) (k : α → M β) : M.bind (M.ret a) k = k a := rfl
@[simp] theorem bind_stuck (k : α → M β) : M.bind (M.stuck : M α) k = M.stuck := rfl
@[simp] theorem bind_raise (c : Str) (k : α → M β) : M.bind (M.raise c : M α) k = M.raise c := rfl
@[simp] theorem bind_bind {γ : Type} (m : M α) (f : α → M β) (k : β → M γ) : M.bind (M.bind m f) k = M.bind m (fun a => M.bind (f a) k) := by
  funext ω
  unfold M.bind
  cases m ω <;> rfl
@[simp] theorem bind_ite (c : Prop) [Decidable c] (x y : M α) (k : α → M β) : M.bind (if c then x else y) k = if c then M.bind x k else M.bind y k := by
  split <;> rfl
def runS (m : M α) (k : α → List Cell → Out) (ρ : Env) (ω : List Cell) : Out := match m ω with
  | .ok a ω1 => k a ω1
  | .raise c ω1 => .exc c ρ ω1
  | .stuck => .stuck
@[simp] theorem runS_ret (a : α) (k : α → List Cell → Out) (ρ : Env) (ω : List Cell) : runS (M.ret a) k ρ ω = k a ω := rfl
@[simp] theorem runS_stuck (k : α → List Cell → Out) (ρ : Env) (ω : List Cell) : runS (M.stuck) k ρ ω = .stuck := rfl
@[simp] theorem runS_raise (c : Str) (k : α → List Cell → Out) (ρ : Env) (ω : List Cell) : runS (M.raise c) k ρ ω = .exc c ρ ω := rfl
@[simp] theorem runS_bind (m : M α) (f : α → M β) (k : β → List Cell → Out) (ρ : Env) (ω : List Cell) : runS (M.bind m f) k ρ ω = runS m (fun a => runS (f a) k ρ) ρ ω := by
  unfold runS M.bind
  cases m ω <;> rfl
@[simp] theorem runS_ite (c : Prop) [Decidable c] (x y : M α) (k : α → List Cell → Out) (ρ : Env) (ω : List Cell) : runS (if c then x else y) k ρ ω = if c then runS x k ρ ω else runS y k ρ ω := by
  split <;> rfl
@[simp] theorem thenS_run (m : Env → M α) (k : α → SM) (ρ : Env) (ω : List Cell) : thenS m k ρ ω = runS (m ρ) (fun a => k a ρ) ρ ω := rfl
end
def andThen (o : Out) (t : SM) : Out := match o with
  | .next ρ ω => t ρ ω
  | o => o
@[simp] theorem ite_SM (c : Prop) [Decidable c] (s t : SM) (ρ : Env) (ω : List Cell) : (if c then s else t) ρ ω = if c then s ρ ω else t ρ ω := by split <;> rfl
@[simp] theorem sSeq_then (s t : SM) (ρ : Env) (ω : List Cell) : sSeq s t ρ ω = andThen (s ρ ω) t := rfl
@[simp] theorem then_next (ρ : Env) (ω : List Cell) (t : SM) : andThen (.next ρ ω) t = t ρ ω := rfl
@[simp] theorem then_ret (d : D) (ω : List Cell) (t : SM) : andThen (.ret d ω) t = .ret d ω := rfl
@[simp] theorem then_exc (c : Str) (ρ : Env) (ω : List Cell) (t : SM) : andThen (.exc c ρ ω) t = .exc c ρ ω := rfl
@[simp] theorem then_brk (ρ : Env) (ω : List Cell) (t : SM) : andThen (.brk ρ ω) t = .brk ρ ω := rfl
@[simp] theorem then_cont (ρ : Env) (ω : List Cell) (t : SM) : andThen (.cont ρ ω) t = .cont ρ ω := rfl
@[simp] theorem then_stuck (t : SM) : andThen .stuck t = .stuck := rfl
@[simp] theorem then_ite (c : Prop) [Decidable c] (x y : Out) (t : SM) : andThen (if c then x else y) t = if c then andThen x t else andThen y t := by
  split <;> rfl
def outP (o : Out) : PR := match o with
  | .ret d _ => if clean d = true then .ok d else .stuck
  | .next _ _ => .ok .non
  | .exc c _ _ => .raise c
  | _ => .stuck
@[simp] theorem fnOf_out (p n : Nat) (s : SM) (ds : List D) : fnOf p n s ds = outP (s (ds.map some ++ List.replicate (n - p) none) []) := rfl
@[simp] theorem outP_ret (d : D) (ω : List Cell) : outP (.ret d ω) = if clean d = true then .ok d else .stuck := rfl
@[simp] theorem outP_next (ρ : Env) (ω : List Cell) : outP (.next ρ ω) = .ok .non := rfl
@[simp] theorem outP_exc (c : Str) (ρ : Env) (ω : List Cell) : outP (.exc c ρ ω) = .raise c := rfl
@[simp] theorem outP_ite (c : Prop) [Decidable c] (x y : Out) : outP (if c then x else y) = if c then outP x else outP y := by
  split <;> rfl
def ofPR (r : PR) : M D := match r with
  | .ok d => M.ret d
  | .raise c => M.raise c
  | .stuck => M.stuck
@[simp] theorem callP_of (n : Nat) (F : List D → PR) (ds : List D) : callP n F ds = if ds.length = n ∧ cleanL ds = true then ofPR (F ds) else M.stuck := by
  funext ω
  unfold callP
  split
  · cases F ds <;> rfl
  · rfl
@[simp] theorem ofPR_ok (d : D) : ofPR (.ok d) = M.ret d := rfl
@[simp] theorem ofPR_raise (c : Str) : ofPR (.raise c) = M.raise c := rfl
@[simp] theorem eV_0 (d : D) (ρ : Env) : eV 0 (some d :: ρ) = M.ret d := rfl
@[simp] theorem eV_s (n : Nat) (o : Option D) (ρ : Env) : eV (n + 1) (o :: ρ) = eV n ρ := rfl
@[simp] theorem eC_ (d : D) (ρ : Env) : eC d ρ = M.ret d := rfl
@[simp] theorem drf_int (i : Int) : drf (.int i) = M.ret (.int i) := rfl
@[simp] theorem drf_lst (i : List D) : drf (.lst i) = M.ret (.lst i) := rfl
@[simp] theorem drf_tup (i : List D) : drf (.tup i) = M.ret (.tup i) := rfl
@[simp] theorem drf_str (i : Str) : drf (.str i) = M.ret (.str i) := rfl
@[simp] theorem drf_scr (i : List Int) : drf (.scr i) = M.ret (.scr i) := rfl
@[simp] theorem drf_non : drf .non = M.ret .non := rfl
@[simp] theorem drf_bl (b : Bool) : drf (.bl b) = M.ret (.bl b) := rfl
@[simp] theorem drf_dic (ks : List Key) (b : List D) : drf (.dic ks b) = M.ret (.dic ks b) := rfl
def rdC (o : Option Cell) (k : D → Out) : Out := match o with
  | some (.lst xs) => k (.lst xs)
  | some (.dic ks xs) => k (.dic ks xs)
  | _ => .stuck
@[simp] theorem runS_drf (n : Nat) (k : D → List Cell → Out) (ρ : Env) (ω : List Cell) : runS (drf (.cell n)) k ρ ω = rdC ω[n]? (fun d => k d ω) := by
  unfold runS drf rdC
  dsimp only
  cases ω[n]? with
  | none => rfl
  | some c => cases c <;> rfl
@[simp] theorem rdC_lst (xs : List D) (k : D → Out) : rdC (some (.lst xs)) k = k (.lst xs) := rfl
@[simp] theorem runS_new (c : Cell) (k : D → List Cell → Out) (ρ : Env) (ω : List Cell) : runS (newCell c) k ρ ω = k (.cell ω.length) (ω ++ [c]) := rfl
@[simp] theorem frzD_int (i : Int) : frzD (.int i) = M.ret (.int i) := rfl
@[simp] theorem frzD_lst (i : List D) : frzD (.lst i) = M.ret (.lst i) := rfl
@[simp] theorem frzD_tup (i : List D) : frzD (.tup i) = M.ret (.tup i) := rfl
@[simp] theorem runS_frz (n : Nat) (k : D → List Cell → Out) (ρ : Env) (ω : List Cell) : runS (frzD (.cell n)) k ρ ω = rdC ω[n]? (fun d => k d (ω.set n .dead)) := by
  unfold runS frzD rdC
  dsimp only
  cases ω[n]? with
  | none => rfl
  | some c => cases c <;> rfl
def upC (o : Option Cell) (k : List D → Out) : Out := match o with
  | some (.lst xs) => k xs
  | _ => .stuck
def opC (o : Option (List D × D)) (k : List D → D → Out) : Out := match o with
  | some (ys, z) => k ys z
  | none => .stuck
@[simp] theorem runS_upL (f : List D → List D → Option (List D × D)) (n : Nat) (ds : List D) (k : D → List Cell → Out) (ρ : Env) (ω : List Cell) : runS (upL f (.cell n) ds) k ρ ω = upC ω[n]? fun xs => opC (f xs ds) fun ys z => k z (ω.set n (.lst ys)) := by
  unfold runS upL upC opC
  dsimp only
  cases ω[n]? with
  | none => rfl
  | some c => cases c with
    | lst xs => dsimp only; cases f xs ds <;> rfl
    | _ => rfl
@[simp] theorem upC_lst (xs : List D) (k : List D → Out) : upC (some (.lst xs)) k = k xs := rfl
@[simp] theorem opC_some (ys : List D) (z : D) (k : List D → D → Out) : opC (some (ys, z)) k = k ys z := rfl
theorem kAppend_ (xs : List D) (d : D) (h : xs.length < 1000000) : kAppend xs [d] = some (xs ++ [d], .non) := if_pos h
/-- the receiver is looked at, then the arguments -/
@[simp] theorem eBM_run (chk : D → List Cell → Bool) (o : D → List D → M D) (f : Env → M D) (fs : Env → M (List D)) (ρ : Env) (k : D → List Cell → Out) (ρ' : Env) (ω : List Cell) : runS (eBM chk o f fs ρ) k ρ' ω = runS (f ρ) (fun d ω1 => if chk d ω1 = true then runS (fs ρ) (fun ds => runS (o d ds) k ρ') ρ' ω1 else .stuck) ρ' ω := by
  unfold eBM
  rw [runS_bind]
  congr 1
  funext d ω1
  by_cases c : chk d ω1 = true
  · rw [if_pos c, ← runS_bind]
    unfold runS
    dsimp only
    rw [if_pos c]
  · rw [if_neg c]
    unfold runS
    dsimp only
    rw [if_neg c]
@[simp] theorem chkL_lst (xs : List D) (ω : List Cell) : chkL (.lst xs) ω = true := rfl
def isL (o : Option Cell) : Bool := match o with
  | some (.lst _) => true
  | _ => false
@[simp] theorem chkL_cell (n : Nat) (ω : List Cell) : chkL (.cell n) ω = isL ω[n]? := rfl
@[simp] theorem isL_lst (xs : List D) : isL (some (.lst xs)) = true := rfl
def asgO (o : Option Env) (ω : List Cell) : Out := match o with
  | some ρ' => .next ρ' ω
  | none => .stuck
@[simp] theorem sAsg_run (g : D → Env → Option Env) (f : Env → M D) (ρ : Env) (ω : List Cell) : sAsg g f ρ ω = runS (f ρ) (fun d ω1 => asgO (g d ρ) ω1) ρ ω := rfl
@[simp] theorem asgO_some (ρ : Env) (ω : List Cell) : asgO (some ρ) ω = .next ρ ω := rfl
@[simp] theorem pyEq_int (i j : Int) : pyEq (.int i) (.int j) = some (decide (i = j)) := by
  unfold pyEq toP
  dsimp only
  rw [if_pos ⟨rfl, rfl⟩]
  rfl
@[simp] theorem loop_nil (g : D → Env → Option Env) (s : SM) (ρ : Env) (ω : List Cell) : loopS g s [] ρ ω = .next ρ ω := rfl
@[simp] theorem rangeD_len (lo : Int) (n : Nat) : (rangeD lo n).length = n := by simp [rangeD]
/-- a loop's invariant: all turns go on -/
theorem loop_inv {g : D → Env → Option Env} {s : SM} (Inv : Env → List Cell → Prop) : ∀ (ds : List D) (ρ : Env) (ω : List Cell), (∀ d ∈ ds, ∀ ρ ω, Inv ρ ω → ∃ ρ1 ρ2 ω2, g d ρ = some ρ1 ∧ s ρ1 ω = .next ρ2 ω2 ∧ Inv ρ2 ω2) → Inv ρ ω → ∃ ρ' ω', loopS g s ds ρ ω = .next ρ' ω' ∧ Inv ρ' ω'
  | [], ρ, ω, _, h => ⟨ρ, ω, rfl, h⟩
  | d :: ds, ρ, ω, hs, h => by
    obtain ⟨ρ1, ρ2, ω2, e1, e2, h2⟩ := hs d List.mem_cons_self ρ ω h
    obtain ⟨ρ', ω', e3, h3⟩ := loop_inv Inv ds ρ2 ω2 (fun x hx => hs x (List.mem_cons_of_mem _ hx)) h2
    refine ⟨ρ', ω', ?_, h3⟩
    unfold loopS
    rw [e1]
    dsimp only
    rw [e2]
    exact e3
/-- a loop that carries a state: st d is what a turn makes of it -/
theorem loop_fold {τ : Type} {g : D → Env → Option Env} {s : SM} (At : τ → Env → List Cell → Prop) (st : τ → D → τ) : ∀ (ds : List D) (t : τ) (ρ : Env) (ω : List Cell), (∀ d ∈ ds, ∀ t ρ ω, At t ρ ω → ∃ ρ1 ρ2 ω2, g d ρ = some ρ1 ∧ s ρ1 ω = .next ρ2 ω2 ∧ At (st t d) ρ2 ω2) → At t ρ ω → ∃ ρ' ω', loopS g s ds ρ ω = .next ρ' ω' ∧ At (ds.foldl st t) ρ' ω'
  | [], t, ρ, ω, _, h => ⟨ρ, ω, rfl, h⟩
  | d :: ds, t, ρ, ω, hs, h => by
    obtain ⟨ρ1, ρ2, ω2, e1, e2, h2⟩ := hs d List.mem_cons_self t ρ ω h
    obtain ⟨ρ', ω', e3, h3⟩ := loop_fold At st ds (st t d) ρ2 ω2 (fun x hx => hs x (List.mem_cons_of_mem _ hx)) h2
    refine ⟨ρ', ω', ?_, h3⟩
    unfold loopS
    rw [e1]
    dsimp only
    rw [e2]
    exact e3
/-- a comprehension without a test, its element a value -/
theorem compM_map {g : D → Env → Option Env} {e : Env → M D} {ρ : Env} (h : D → D) : ∀ (ds : List D), (∀ d ∈ ds, ∃ ρ1, g d ρ = some ρ1 ∧ e ρ1 = M.ret (h d)) → compM g bYes e ρ ds = M.ret (ds.map h)
  | [], _ => rfl
  | d :: ds, hs => by
    obtain ⟨ρ1, e1, e2⟩ := hs d List.mem_cons_self
    have ih := compM_map h ds fun x hx => hs x (List.mem_cons_of_mem _ hx)
    funext ω
    rw [compM_cons, e1]
    dsimp only [bYes, M.ret]
    rw [e2]
    dsimp only [M.ret]
    rw [ih]
    rfl
/-- .. with a test -/
theorem compM_filter {g : D → Env → Option Env} {t : Env → M Bool} {e : Env → M D} {ρ : Env} (p : D → Bool) (h : D → D) : ∀ (ds : List D), (∀ d ∈ ds, ∃ ρ1, g d ρ = some ρ1 ∧ t ρ1 = M.ret (p d) ∧ (p d = true → e ρ1 = M.ret (h d))) → compM g t e ρ ds = M.ret ((ds.filter p).map h)
  | [], _ => rfl
  | d :: ds, hs => by
    obtain ⟨ρ1, e1, e2, e3⟩ := hs d List.mem_cons_self
    have ih := compM_filter p h ds fun x hx => hs x (List.mem_cons_of_mem _ hx)
    funext ω
    rw [compM_cons, e1]
    dsimp only
    rw [e2]
    dsimp only [M.ret]
    cases hp : p d with
    | false =>
      rw [List.filter_cons_of_neg (by rw [hp]; exact Bool.false_ne_true)]
      dsimp only
      rw [ih]
      rfl
    | true =>
      rw [List.filter_cons_of_pos hp]
      dsimp only
      rw [e3 hp]
      dsimp only [M.ret]
      rw [ih]
      rfl
end Mi
namespace Mi
open PySem PySem.Spec PyProof.Rows L2
/-- a type of Lean whose values are Python data (no truths) -/
class Da (α : Type) where
  toD : α → D
  py : α → PyData
  dep : Nat
  ok : ∀ a, toP (toD a) = some (py a)
  lay : ∀ a, (py a).canLay0 = true
  le : ∀ a, (py a).depth ≤ dep
  inj : ∀ a b, PyData.eqv (py a) (py b) = true ↔ a = b
  cl : ∀ a, clean (toD a) = true
open Da (toD)
section
variable {α β γ : Type} [Da α] [Da β] [Da γ]
instance : Da Int := ⟨.int, .int, 0, fun _ => rfl, fun _ => rfl, fun _ => Nat.le_refl _, fun a b => by simp [PyData.eqv], fun _ => rfl⟩
theorem toPs_map (xs : List α) : toPs (xs.map toD) = some (xs.map Da.py) := by
  induction xs with
  | nil => rfl
  | cons x xs ih => rw [List.map_cons]; unfold toPs; rw [Da.ok, ih]; rfl
theorem layAll_map (xs : List α) : PyData.canLayAll0 (xs.map Da.py) = true := by
  induction xs with
  | nil => rfl
  | cons x xs ih => rw [List.map_cons]; unfold PyData.canLayAll0; rw [Da.lay, ih]; rfl
theorem depAll_map (xs : List α) : PyData.depthAll (xs.map Da.py) ≤ Da.dep α := by
  induction xs with
  | nil => exact Nat.zero_le _
  | cons x xs ih => rw [List.map_cons]; unfold PyData.depthAll; exact Nat.max_le.mpr ⟨Da.le x, ih⟩
theorem eqvAll_map (xs ys : List α) : PyData.eqvAll (xs.map Da.py) (ys.map Da.py) = true ↔ xs = ys := by
  induction xs generalizing ys with
  | nil => cases ys with
    | nil => simp [PyData.eqvAll]
    | cons y ys => simp [PyData.eqvAll]
  | cons x xs ih => cases ys with
    | nil => simp [PyData.eqvAll]
    | cons y ys => rw [List.map_cons, List.map_cons]; unfold PyData.eqvAll; rw [Bool.and_eq_true, Da.inj, ih, List.cons.injEq]
theorem cleanL_map (xs : List α) : cleanL (xs.map toD) = true := by
  induction xs with
  | nil => rfl
  | cons x xs ih => rw [List.map_cons]; unfold cleanL; rw [Da.cl, ih]; rfl
instance : Da (List α) where
  toD xs := .lst (xs.map toD)
  py xs := .list (xs.map Da.py)
  dep := Da.dep α + 1
  ok xs := by unfold toP; rw [toPs_map]
  lay xs := by unfold PyData.canLay0; exact layAll_map xs
  le xs := by unfold PyData.depth; exact Nat.succ_le_succ (depAll_map xs)
  inj a b := by unfold PyData.eqv; exact eqvAll_map a b
  cl xs := by unfold clean; exact cleanL_map xs
/-- a tuple of like things -/
structure Tu (α : Type) where
  l : List α
  deriving DecidableEq
instance : Da (Tu α) where
  toD xs := .tup (xs.l.map toD)
  py xs := .tuple (xs.l.map Da.py)
  dep := Da.dep α + 1
  ok xs := by unfold toP; rw [toPs_map]
  lay xs := by unfold PyData.canLay0; exact layAll_map xs.l
  le xs := by unfold PyData.depth; exact Nat.succ_le_succ (depAll_map xs.l)
  inj a b := by unfold PyData.eqv; rw [eqvAll_map]; cases a; cases b; simp
  cl xs := by unfold clean; exact cleanL_map xs.l
instance : Da (α × β) where
  toD p := .tup [toD p.1, toD p.2]
  py p := .tuple [Da.py p.1, Da.py p.2]
  dep := max (Da.dep α) (Da.dep β) + 1
  ok p := by simp [toP, toPs, Da.ok]
  lay p := by simp [PyData.canLay0, PyData.canLayAll0, Da.lay]
  le p := by
    have h1 := Da.le p.1
    have h2 := Da.le p.2
    simp only [PyData.depth, PyData.depthAll]
    omega
  inj a b := by simp [PyData.eqv, PyData.eqvAll, Da.inj, Prod.ext_iff]
  cl p := by simp [clean, cleanL, Da.cl]
theorem toD_int (i : Int) : (toD i : D) = .int i := rfl
theorem toD_list (xs : List α) : (toD xs : D) = .lst (xs.map toD) := rfl
theorem toD_tu (xs : Tu α) : (toD xs : D) = .tup (xs.l.map toD) := rfl
theorem toD_pair (p : α × β) : (toD p : D) = .tup [toD p.1, toD p.2] := rfl
theorem shaped_da (h : Da.dep α ≤ 64) (a : α) : SeqAt.shaped (Da.py a) = true := by
  unfold SeqAt.shaped
  rw [Da.lay, Bool.true_and, decide_eq_true_eq]
  exact Nat.le_trans (Da.le a) h
theorem pyEq_da [DecidableEq α] (h : Da.dep α ≤ 64) (a b : α) : pyEq (toD a) (toD b) = some (decide (a = b)) := by
  unfold pyEq
  rw [Da.ok, Da.ok]
  dsimp only
  rw [if_pos ⟨shaped_da h a, shaped_da h b⟩]
  congr 1
  rw [Bool.eq_iff_iff, Da.inj, decide_eq_true_eq]
theorem anyEq_da [DecidableEq α] (h : Da.dep α + 1 ≤ 64) (a : α) (xs : List α) : anyEq (toD a) (xs.map toD) = some (decide (a ∈ xs)) := by
  unfold anyEq
  rw [Da.ok, toPs_map]
  dsimp only
  rw [if_pos ⟨shaped_da (by omega) a, shaped_da (α := List α) h xs⟩]
  congr 1
  rw [Bool.eq_iff_iff, List.any_eq_true, decide_eq_true_eq]
  constructor
  · rintro ⟨z, hz, e⟩
    obtain ⟨y, hy, rfl⟩ := List.mem_map.mp hz
    rw [Da.inj] at e
    exact e ▸ hy
  · intro hm
    exact ⟨Da.py a, List.mem_map.mpr ⟨a, hm, rfl⟩, (Da.inj a a).mpr rfl⟩
theorem ints_map (xs : List Int) : ints? (xs.map toD) = some xs := by
  induction xs with
  | nil => rfl
  | cons x xs ih => rw [List.map_cons, toD_int]; unfold ints?; rw [ih]
end
end Mi
namespace Lw
open PySem PySem.Spec PyProof.Rows L2 Mi
def topS (i : Nat) : Stmt := PySem.Challenge.pw_shelfround_k83_whole_steps_held.main.body.getD i (.Pass ⟨0, 0, 0, 0⟩)
abbrev s__law_cell : Stmt := topS 16
abbrev N__law_cell : List Str := ["script", "k"]
theorem sc__law_cell : FnScope N__law_cell ["script", "k"] (defScope s__law_cell) := ⟨rfl, rfl, rfl, by decide +kernel, rfl, by decide +kernel, by decide +kernel⟩
abbrev s__law_pick : Stmt := topS 17
abbrev N__law_pick : List Str := ["script", "k", "many", "drawn"]
theorem sc__law_pick : FnScope N__law_pick ["script", "k", "many"] (defScope s__law_pick) := ⟨rfl, rfl, rfl, by decide +kernel, rfl, by decide +kernel, by decide +kernel⟩
abbrev s_is_whole : Stmt := topS 6
abbrev N_is_whole : List Str := ["thing", "low", "high"]
theorem sc_is_whole : FnScope N_is_whole ["thing", "low", "high"] (defScope s_is_whole) := ⟨rfl, rfl, rfl, by decide +kernel, rfl, by decide +kernel, by decide +kernel⟩
abbrev s_look_round : Stmt := topS 7
abbrev N_look_round : List Str := ["many"]
theorem sc_look_round : FnScope N_look_round ["many"] (defScope s_look_round) := ⟨rfl, rfl, rfl, by decide +kernel, rfl, by decide +kernel, by decide +kernel⟩
abbrev s_look_shelf : Stmt := topS 8
abbrev N_look_shelf : List Str := ["many", "shelf"]
theorem sc_look_shelf : FnScope N_look_shelf ["many", "shelf"] (defScope s_look_shelf) := ⟨rfl, rfl, rfl, by decide +kernel, rfl, by decide +kernel, by decide +kernel⟩
abbrev s_reached : Stmt := topS 14
abbrev N_reached : List Str := ["many", "start", "row", "made", "here", "one"]
theorem sc_reached : FnScope N_reached ["many", "start", "row"] (defScope s_reached) := ⟨rfl, rfl, rfl, by decide +kernel, rfl, by decide +kernel, by decide +kernel⟩
abbrev s_look_all : Stmt := topS 11
abbrev N_look_all : List Str := ["many", "one", "other"]
theorem sc_look_all : FnScope N_look_all ["many", "one", "other"] (defScope s_look_all) := ⟨rfl, rfl, rfl, by decide +kernel, rfl, by decide +kernel, by decide +kernel⟩
abbrev s_steps_to : Stmt := topS 9
abbrev N_steps_to : List Str := ["many", "one", "other", "on"]
theorem sc_steps_to : FnScope N_steps_to ["many", "one", "other"] (defScope s_steps_to) := ⟨rfl, rfl, rfl, by decide +kernel, rfl, by decide +kernel, by decide +kernel⟩
abbrev s_steps : Stmt := topS 12
abbrev N_steps : List Str := ["many", "one", "other"]
theorem sc_steps : FnScope N_steps ["many", "one", "other"] (defScope s_steps) := ⟨rfl, rfl, rfl, by decide +kernel, rfl, by decide +kernel, by decide +kernel⟩
abbrev s_far : Stmt := topS 10
abbrev N_far : List Str := ["many", "one", "other"]
theorem sc_far : FnScope N_far ["many", "one", "other"] (defScope s_far) := ⟨rfl, rfl, rfl, by decide +kernel, rfl, by decide +kernel, by decide +kernel⟩
abbrev s_turns : Stmt := topS 13
abbrev N_turns : List Str := ["many", "one", "other"]
theorem sc_turns : FnScope N_turns ["many", "one", "other"] (defScope s_turns) := ⟨rfl, rfl, rfl, by decide +kernel, rfl, by decide +kernel, by decide +kernel⟩
abbrev s_law : Stmt := topS 18
abbrev N_law : List Str := ["script", "many", "k", "one", "other", "third", "by", "wide", "j"]
theorem sc_law : FnScope N_law ["script"] (defScope s_law) := ⟨rfl, rfl, rfl, by decide +kernel, rfl, by decide +kernel, by decide +kernel⟩
def b__law_cell : SM := (sSeq (sIf (tst (e2 oLt (eV 1) (eN (one (d1 oLen)) (aCons (eV 0) aNil)))) (sRet (e2 (d2 oIx) (eV 0) (eV 1))) sNext) (sSeq (sIf (tst (e2 (d2 oEq) (eV 0) (eLst aNil))) (sRet (eC (.int 0))) sNext) (sRet (e2 oAdd (e2 oMul (e2 (d2 oIx) (eV 0) (e2 oMod (eV 1) (eN (one (d1 oLen)) (aCons (eV 0) aNil)))) (eC (.int 31))) (eV 1)))))
def F__law_cell : List D → PR := fnOf 2 2 b__law_cell
def b__law_pick : SM := (sSeq (sSet 3 (e2 oMod (e2 oMul (e2 oAdd (eN (callP 2 F__law_cell) (aCons (eV 0) (aCons (eV 1) aNil))) (e2 oMul (eC (.int 6151)) (e2 oAdd (eV 1) (eC (.int 1))))) (eC (.int 40692))) (eC (.int 2147483399)))) (sRet (e2 oMod (e2 oMod (e2 oAdd (e2 oMul (eV 3) (eV 3)) (e2 oDiv (eV 3) (eC (.int 31)))) (eC (.int 2147483629))) (eV 2))))
def F__law_pick : List D → PR := fnOf 3 4 b__law_pick
def b_is_whole : SM := (sRet (vAnd (eN (two fun d e => (drf d).bind fun d' => oIsi d' e) (aCons (eV 0) (aCons (eC (.ty .int)) aNil))) (vAnd (vNot (eN (two fun d e => (drf d).bind fun d' => oIsi d' e) (aCons (eV 0) (aCons (eC (.ty .bool)) aNil)))) (eChain oLe oLe (eV 1) (eV 0) (eV 2)))))
def F_is_whole : List D → PR := fnOf 3 3 b_is_whole
def b_look_round : SM := (sIf (bNot (tst (eN (callP 3 F_is_whole) (aCons (eV 0) (aCons (eC (.int 3)) (aCons (eC (.int 16)) aNil)))))) (sRaise "NoRound") sNext)
def F_look_round : List D → PR := fnOf 1 1 b_look_round
def b_look_shelf : SM := (sIf (bNot (tst (eN (callP 3 F_is_whole) (aCons (eV 1) (aCons (eC (.int 0)) (aCons (e2 oSub (eV 0) (eC (.int 1))) aNil)))))) (sRaise "NoShelf") sNext)
def F_look_shelf : List D → PR := fnOf 2 2 b_look_shelf
def lb1_reached : SM := (sSeq (sSet 4 (e2 oMod (e2 oAdd (eV 4) (eV 5)) (eV 0))) (sExpr (eBM chkL (upL kAppend) (eV 3) (aCons (eV 4) aNil))))
def b_reached : SM := (sSeq (sExpr (eN (callP 1 F_look_round) (aCons (eV 0) aNil))) (sSeq (sExpr (eN (callP 2 F_look_shelf) (aCons (eV 0) (aCons (eV 1) aNil)))) (sSeq (sSet 3 (eLstC aNil)) (sSeq (sSet 4 (eV 1)) (sSeq (sFor (iSeq (eV 2)) (gN 5) lb1_reached) (sRet (frz (eV 3))))))))
def F_reached : List D → PR := fnOf 3 6 b_reached
def b_look_all : SM := (sSeq (sExpr (eN (callP 1 F_look_round) (aCons (eV 0) aNil))) (sSeq (sExpr (eN (callP 2 F_look_shelf) (aCons (eV 0) (aCons (eV 1) aNil)))) (sExpr (eN (callP 2 F_look_shelf) (aCons (eV 0) (aCons (eV 2) aNil))))))
def F_look_all : List D → PR := fnOf 3 3 b_look_all
def b_steps_to : SM := (sSeq (sSet 3 (e2 oMod (e2 oSub (eV 2) (eV 1)) (eV 0))) (sRet (eIf (tst (e2 oLe (e2 oMul (eC (.int 2)) (eV 3)) (eV 0))) (eV 3) (e2 oSub (eV 3) (eV 0)))))
def F_steps_to : List D → PR := fnOf 3 4 b_steps_to
def b_steps : SM := (sSeq (sExpr (eN (callP 3 F_look_all) (aCons (eV 0) (aCons (eV 1) (aCons (eV 2) aNil))))) (sRet (eN (callP 3 F_steps_to) (aCons (eV 0) (aCons (eV 1) (aCons (eV 2) aNil))))))
def F_steps : List D → PR := fnOf 3 3 b_steps
def b_far : SM := (sRet (eN (one oAbs) (aCons (eN (callP 3 F_steps_to) (aCons (eV 0) (aCons (eV 1) (aCons (eV 2) aNil)))) aNil)))
def F_far : List D → PR := fnOf 3 3 b_far
def b_turns : SM := (sSeq (sExpr (eN (callP 3 F_look_all) (aCons (eV 0) (aCons (eV 1) (aCons (eV 2) aNil))))) (sRet (eN (callP 3 F_far) (aCons (eV 0) (aCons (eV 1) (aCons (eV 2) aNil))))))
def F_turns : List D → PR := fnOf 3 3 b_turns
def ce1_law : Mi.Env → M D := (eN (callP 3 F__law_pick) (aCons (eV 0) (aCons (e2 oAdd (e2 oAdd (eC (.int 10)) (e2 oMul (eC (.int 3)) (eV 2))) (eV 8)) (aCons (eV 1) aNil))))
def lb1_law : SM := (sSeq (sAsg (gLs 3 (gsCons (gN 3) (gsCons (gN 4) (gsCons (gN 5) gsNil)))) (eLc (iRange1 (aCons (eC (.int 3)) aNil)) [8] (gN 8) bYes ce1_law)) (sSeq (sPar [6, 7] (aCons (eN (callP 3 F_steps) (aCons (eV 1) (aCons (eV 3) (aCons (eV 4) aNil)))) (aCons (eN (callP 3 F_turns) (aCons (eV 1) (aCons (eV 3) (aCons (eV 4) aNil)))) aNil))) (sSeq (sIf (bOr (tst (e2 (d2 oNe) (eN (callP 3 F_reached) (aCons (eV 1) (aCons (eV 3) (aCons (eLst (aCons (eV 6) aNil)) aNil)))) (eLst (aCons (eV 4) aNil)))) (bOr (tst (e2 (d2 oNe) (eN (one oAbs) (aCons (eV 6) aNil)) (eV 7))) (bOr (tst (e2 (d2 oNe) (eN (callP 3 F_turns) (aCons (eV 1) (aCons (eV 4) (aCons (eV 3) aNil)))) (eV 7))) (tst (e2 oGt (e2 oMul (eC (.int 2)) (eV 7)) (eV 1)))))) (sRet (eC (.bl false))) sNext) (sSeq (sIf (bOr (tst (e2 oGt (eV 7) (e2 oAdd (eN (callP 3 F_turns) (aCons (eV 1) (aCons (eV 3) (aCons (eV 5) aNil)))) (eN (callP 3 F_turns) (aCons (eV 1) (aCons (eV 5) (aCons (eV 4) aNil))))))) (tst (e2 (d2 oNe) (e2 (d2 oEq) (eV 7) (eC (.int 0))) (e2 (d2 oEq) (eV 3) (eV 4))))) (sRet (eC (.bl false))) sNext) (sSeq (sIf (bOr (tst (e2 (d2 oNe) (eN (callP 3 F_turns) (aCons (eV 1) (aCons (e2 oMod (e1 oNeg (eV 3)) (eV 1)) (aCons (e2 oMod (e1 oNeg (eV 4)) (eV 1)) aNil)))) (eV 7))) (tst (e2 (d2 (oIn true)) (eN (callP 3 F_steps) (aCons (eV 1) (aCons (eV 4) (aCons (eV 3) aNil)))) (eTup (aCons (eV 6) (aCons (e1 oNeg (eV 6)) aNil)))))) (sRet (eC (.bl false))) sNext) (sSeq (sIf (bAnd (tst (e2 (d2 oEq) (e2 oMul (eC (.int 2)) (eV 7)) (eV 1))) (tst (e2 oLt (eV 6) (eC (.int 0))))) (sRet (eC (.bl false))) sNext) (sIf (tst (e2 (d2 oNe) (eN (callP 3 F_reached) (aCons (eV 1) (aCons (eV 3) (aCons (eTup (aCons (eV 6) (aCons (e1 oNeg (eV 6)) (aCons (eV 1) (aCons (e1 oNeg (eV 1)) aNil))))) aNil)))) (eLst (aCons (eV 4) (aCons (eV 3) (aCons (eV 3) (aCons (eV 3) aNil))))))) (sRet (eC (.bl false))) sNext)))))))
def b_law : SM := (sSeq (sSet 1 (e2 oAdd (eC (.int 3)) (eN (callP 3 F__law_pick) (aCons (eV 0) (aCons (eC (.int 0)) (aCons (eC (.int 14)) aNil)))))) (sSeq (sFor (iRange1 (aCons (eC (.int 6)) aNil)) (gN 2) lb1_law) (sRet (e2 (d2 oEq) (eN (callP 3 F_reached) (aCons (eV 1) (aCons (eC (.int 0)) (aCons (eTup aNil) aNil)))) (eLst aNil)))))
def F_law : List D → PR := fnOf 1 9 b_law
structure Tx (K : PySem.W.Frag) (mg : Str → Option Value) where
  f__law_cell : Addr
  fd__law_cell : FuncData
  F__law_cell : Fun K "_law_cell" "_law_cell" s__law_cell f__law_cell fd__law_cell
  m__law_cell : mg "_law_cell" = some (.ref f__law_cell)
  f__law_pick : Addr
  fd__law_pick : FuncData
  F__law_pick : Fun K "_law_pick" "_law_pick" s__law_pick f__law_pick fd__law_pick
  m__law_pick : mg "_law_pick" = some (.ref f__law_pick)
  f_is_whole : Addr
  fd_is_whole : FuncData
  F_is_whole : Fun K "is_whole" "is_whole" s_is_whole f_is_whole fd_is_whole
  m_is_whole : mg "is_whole" = some (.ref f_is_whole)
  f_look_round : Addr
  fd_look_round : FuncData
  F_look_round : Fun K "look_round" "look_round" s_look_round f_look_round fd_look_round
  m_look_round : mg "look_round" = some (.ref f_look_round)
  f_look_shelf : Addr
  fd_look_shelf : FuncData
  F_look_shelf : Fun K "look_shelf" "look_shelf" s_look_shelf f_look_shelf fd_look_shelf
  m_look_shelf : mg "look_shelf" = some (.ref f_look_shelf)
  f_reached : Addr
  fd_reached : FuncData
  F_reached : Fun K "reached" "reached" s_reached f_reached fd_reached
  m_reached : mg "reached" = some (.ref f_reached)
  f_look_all : Addr
  fd_look_all : FuncData
  F_look_all : Fun K "look_all" "look_all" s_look_all f_look_all fd_look_all
  m_look_all : mg "look_all" = some (.ref f_look_all)
  f_steps_to : Addr
  fd_steps_to : FuncData
  F_steps_to : Fun K "steps_to" "steps_to" s_steps_to f_steps_to fd_steps_to
  m_steps_to : mg "steps_to" = some (.ref f_steps_to)
  f_steps : Addr
  fd_steps : FuncData
  F_steps : Fun K "steps" "steps" s_steps f_steps fd_steps
  m_steps : mg "steps" = some (.ref f_steps)
  f_far : Addr
  fd_far : FuncData
  F_far : Fun K "far" "far" s_far f_far fd_far
  m_far : mg "far" = some (.ref f_far)
  f_turns : Addr
  fd_turns : FuncData
  F_turns : Fun K "turns" "turns" s_turns f_turns fd_turns
  m_turns : mg "turns" = some (.ref f_turns)
  f_law : Addr
  fd_law : FuncData
  F_law : Fun K "law" "law" s_law f_law fd_law
  m_law : mg "law" = some (.ref f_law)
  z_abs : mg "abs" = none
  z_bool : mg "bool" = none
  z_int : mg "int" = none
  z_isinstance : mg "isinstance" = none
  z_len : mg "len" = none
  z_range : mg "range" = none
  tk_MOST : Tok
  c_MOST : mg "MOST" = some (.int 16 tk_MOST)
  C_NoRound : Addr
  g_NoRound : mg "NoRound" = some (.ref C_NoRound)
  x_NoRound : PySem.W.excIn K C_NoRound [.type "ValueError", .type "Exception", .type "BaseException", .type "object"] "ValueError.__new__" = true
  k_NoRound : PySem.W.keepIn K (.ref C_NoRound) = true
  b_NoRound : PySem.W.subIn K (.ref C_NoRound) (.type "BaseException") = some true
  t_NoRound : PySem.W.typeIn K (.ref C_NoRound) = some (.type "type")
  C_NoShelf : Addr
  g_NoShelf : mg "NoShelf" = some (.ref C_NoShelf)
  x_NoShelf : PySem.W.excIn K C_NoShelf [.type "ValueError", .type "Exception", .type "BaseException", .type "object"] "ValueError.__new__" = true
  k_NoShelf : PySem.W.keepIn K (.ref C_NoShelf) = true
  b_NoShelf : PySem.W.subIn K (.ref C_NoShelf) (.type "BaseException") = some true
  t_NoShelf : PySem.W.typeIn K (.ref C_NoShelf) = some (.type "type")
section
variable {P : Program} {w : World} {K : PySem.W.Frag} {mg : Str → Option Value} {base : Heap}
theorem bi__law_cell (T : Tx K mg) : Binds K T.fd__law_cell ["script", "k"] [] := T.F__law_cell.binds (ps := ["script", "k"]) fun _ _ _ _ _ _ us hl => match us, hl with | [_, _], _ => rfl
theorem ok__law_cell (T : Tx K mg) : FnOk P w K mg base (L2.CX P w) (0 + 1) T.f__law_cell T.fd__law_cell ["script", "k"] (spF K mg 2 F__law_cell) :=
  fn_ok' (k := 0) T.F__law_cell sc__law_cell fun cdv A outer s H E hr tk po => (mss_cons (ms_if (mt_lt (me_v 1) (me_len (by rfl) T.z_len (ma_cons (me_v 0) ma_nil))) (mss_one (ms_ret (me_ix (me_v 0) (me_v 1)))) mss_nil) (mss_cons (ms_if (mt_eq hr (me_v 0) (me_lst ma_nil)) (mss_one (ms_ret me_int)) mss_nil) (mss_one (ms_ret (me_add (me_mul (me_ix (me_v 0) (me_mod (me_v 1) (me_len (by rfl) T.z_len (ma_cons (me_v 0) ma_nil)))) me_int) (me_v 1))))))
theorem bi__law_pick (T : Tx K mg) : Binds K T.fd__law_pick ["script", "k", "many"] [] := T.F__law_pick.binds (ps := ["script", "k", "many"]) fun _ _ _ _ _ _ us hl => match us, hl with | [_, _, _], _ => rfl
theorem ok__law_pick (T : Tx K mg) : FnOk P w K mg base (L2.CX P w) (1 + 1) T.f__law_pick T.fd__law_pick ["script", "k", "many"] (spF K mg 3 F__law_pick) :=
  fn_ok' (k := 1) T.F__law_pick sc__law_pick fun cdv A outer s H E hr tk po => (mss_cons (ms_set (i := 3) sc__law_pick.nd rfl (Or.inl rfl) (me_mod (me_mul (me_add (me_call (ps := ["script", "k"]) (ok__law_cell T) (hr.mono (by decide)) (by rfl) T.m__law_cell T.F__law_cell.kp (bi__law_cell T) tk (ma_cons (me_v 0) (ma_cons (me_v 1) ma_nil))) (me_mul me_int (me_add (me_v 1) me_int))) me_int) me_int)) (mss_one (ms_ret (me_mod (me_mod (me_add (me_mul (me_v 3) (me_v 3)) (me_div (me_v 3) me_int)) me_int) (me_v 2)))))
theorem bi_is_whole (T : Tx K mg) : Binds K T.fd_is_whole ["thing", "low", "high"] [] := T.F_is_whole.binds (ps := ["thing", "low", "high"]) fun _ _ _ _ _ _ us hl => match us, hl with | [_, _, _], _ => rfl
theorem ok_is_whole (T : Tx K mg) : FnOk P w K mg base (L2.CX P w) (0 + 1) T.f_is_whole T.fd_is_whole ["thing", "low", "high"] (spF K mg 3 F_is_whole) :=
  fn_ok' (k := 0) T.F_is_whole sc_is_whole fun cdv A outer s H E hr tk po => (mss_one (ms_ret (me_and (me_isi (by rfl) T.z_isinstance (ma_cons (me_v 0) (ma_cons (me_ty .int rfl (by rfl) T.z_int) ma_nil))) (me_and (me_not (me_isi (by rfl) T.z_isinstance (ma_cons (me_v 0) (ma_cons (me_ty .bool rfl (by rfl) T.z_bool) ma_nil)))) (me_one (me_lele (me_v 1) (me_v 0) (me_v 2)))))))
theorem bi_look_round (T : Tx K mg) : Binds K T.fd_look_round ["many"] [] := T.F_look_round.binds (ps := ["many"]) fun _ _ _ _ _ _ us hl => match us, hl with | [_], _ => rfl
theorem ok_look_round (T : Tx K mg) : FnOk P w K mg base (L2.CX P w) (1 + 1) T.f_look_round T.fd_look_round ["many"] (spF K mg 1 F_look_round) :=
  fn_ok' (k := 1) T.F_look_round sc_look_round fun cdv A outer s H E hr tk po => (mss_one (ms_if (mt_not (mt_val (me_call (ps := ["thing", "low", "high"]) (ok_is_whole T) (hr.mono (by decide)) (by rfl) T.m_is_whole T.F_is_whole.kp (bi_is_whole T) tk (ma_cons (me_v 0) (ma_cons me_int (ma_cons (me_gint (by rfl) T.c_MOST) ma_nil)))))) (mss_one (ms_raise (by rfl) tk PySem.F.excBase_ValueError T.x_NoRound T.g_NoRound T.k_NoRound (raises_own T.b_NoRound T.t_NoRound) (by rfl))) mss_nil))
theorem bi_look_shelf (T : Tx K mg) : Binds K T.fd_look_shelf ["many", "shelf"] [] := T.F_look_shelf.binds (ps := ["many", "shelf"]) fun _ _ _ _ _ _ us hl => match us, hl with | [_, _], _ => rfl
theorem ok_look_shelf (T : Tx K mg) : FnOk P w K mg base (L2.CX P w) (1 + 1) T.f_look_shelf T.fd_look_shelf ["many", "shelf"] (spF K mg 2 F_look_shelf) :=
  fn_ok' (k := 1) T.F_look_shelf sc_look_shelf fun cdv A outer s H E hr tk po => (mss_one (ms_if (mt_not (mt_val (me_call (ps := ["thing", "low", "high"]) (ok_is_whole T) (hr.mono (by decide)) (by rfl) T.m_is_whole T.F_is_whole.kp (bi_is_whole T) tk (ma_cons (me_v 1) (ma_cons me_int (ma_cons (me_sub (me_v 0) me_int) ma_nil)))))) (mss_one (ms_raise (by rfl) tk PySem.F.excBase_ValueError T.x_NoShelf T.g_NoShelf T.k_NoShelf (raises_own T.b_NoShelf T.t_NoShelf) (by rfl))) mss_nil))
theorem bi_reached (T : Tx K mg) : Binds K T.fd_reached ["many", "start", "row"] [] := T.F_reached.binds (ps := ["many", "start", "row"]) fun _ _ _ _ _ _ us hl => match us, hl with | [_, _, _], _ => rfl
theorem ok_reached (T : Tx K mg) : FnOk P w K mg base (L2.CX P w) (2 + 1) T.f_reached T.fd_reached ["many", "start", "row"] (spF K mg 3 F_reached) :=
  fn_ok' (k := 2) T.F_reached sc_reached fun cdv A outer s H E hr tk po => (mss_cons (ms_expr (me_call (ps := ["many"]) (ok_look_round T) (hr.mono (by decide)) (by rfl) T.m_look_round T.F_look_round.kp (bi_look_round T) tk (ma_cons (me_v 0) ma_nil))) (mss_cons (ms_expr (me_call (ps := ["many", "shelf"]) (ok_look_shelf T) (hr.mono (by decide)) (by rfl) T.m_look_shelf T.F_look_shelf.kp (bi_look_shelf T) tk (ma_cons (me_v 0) (ma_cons (me_v 1) ma_nil)))) (mss_cons (ms_set (i := 3) sc_reached.nd rfl (Or.inl rfl) (me_lstC ma_nil)) (mss_cons (ms_set (i := 4) sc_reached.nd rfl (Or.inl rfl) (me_v 1)) (mss_cons (ms_for (vs := [5]) po (by rfl) (mi_seq (me_v 2)) (mg_name (i := 5) sc_reached.nd rfl (Or.inl rfl)) (mss_cons (ms_set (i := 4) sc_reached.nd rfl (Or.inl rfl) (me_mod (me_add (me_v 4) (me_v 5)) (me_v 0))) (mss_one (ms_expr (me_append (me_v 3) (ma_cons (me_v 4) ma_nil)))))) (mss_one (ms_ret (me_frz (me_v 3)))))))))
theorem bi_look_all (T : Tx K mg) : Binds K T.fd_look_all ["many", "one", "other"] [] := T.F_look_all.binds (ps := ["many", "one", "other"]) fun _ _ _ _ _ _ us hl => match us, hl with | [_, _, _], _ => rfl
theorem ok_look_all (T : Tx K mg) : FnOk P w K mg base (L2.CX P w) (2 + 1) T.f_look_all T.fd_look_all ["many", "one", "other"] (spF K mg 3 F_look_all) :=
  fn_ok' (k := 2) T.F_look_all sc_look_all fun cdv A outer s H E hr tk po => (mss_cons (ms_expr (me_call (ps := ["many"]) (ok_look_round T) (hr.mono (by decide)) (by rfl) T.m_look_round T.F_look_round.kp (bi_look_round T) tk (ma_cons (me_v 0) ma_nil))) (mss_cons (ms_expr (me_call (ps := ["many", "shelf"]) (ok_look_shelf T) (hr.mono (by decide)) (by rfl) T.m_look_shelf T.F_look_shelf.kp (bi_look_shelf T) tk (ma_cons (me_v 0) (ma_cons (me_v 1) ma_nil)))) (mss_one (ms_expr (me_call (ps := ["many", "shelf"]) (ok_look_shelf T) (hr.mono (by decide)) (by rfl) T.m_look_shelf T.F_look_shelf.kp (bi_look_shelf T) tk (ma_cons (me_v 0) (ma_cons (me_v 2) ma_nil)))))))
theorem bi_steps_to (T : Tx K mg) : Binds K T.fd_steps_to ["many", "one", "other"] [] := T.F_steps_to.binds (ps := ["many", "one", "other"]) fun _ _ _ _ _ _ us hl => match us, hl with | [_, _, _], _ => rfl
theorem ok_steps_to (T : Tx K mg) : FnOk P w K mg base (L2.CX P w) (0 + 1) T.f_steps_to T.fd_steps_to ["many", "one", "other"] (spF K mg 3 F_steps_to) :=
  fn_ok' (k := 0) T.F_steps_to sc_steps_to fun cdv A outer s H E hr tk po => (mss_cons (ms_set (i := 3) sc_steps_to.nd rfl (Or.inl rfl) (me_mod (me_sub (me_v 2) (me_v 1)) (me_v 0))) (mss_one (ms_ret (me_if (mt_le (me_mul me_int (me_v 3)) (me_v 0)) (me_v 3) (me_sub (me_v 3) (me_v 0))))))
theorem bi_steps (T : Tx K mg) : Binds K T.fd_steps ["many", "one", "other"] [] := T.F_steps.binds (ps := ["many", "one", "other"]) fun _ _ _ _ _ _ us hl => match us, hl with | [_, _, _], _ => rfl
theorem ok_steps (T : Tx K mg) : FnOk P w K mg base (L2.CX P w) (3 + 1) T.f_steps T.fd_steps ["many", "one", "other"] (spF K mg 3 F_steps) :=
  fn_ok' (k := 3) T.F_steps sc_steps fun cdv A outer s H E hr tk po => (mss_cons (ms_expr (me_call (ps := ["many", "one", "other"]) (ok_look_all T) (hr.mono (by decide)) (by rfl) T.m_look_all T.F_look_all.kp (bi_look_all T) tk (ma_cons (me_v 0) (ma_cons (me_v 1) (ma_cons (me_v 2) ma_nil))))) (mss_one (ms_ret (me_call (ps := ["many", "one", "other"]) (ok_steps_to T) (hr.mono (by decide)) (by rfl) T.m_steps_to T.F_steps_to.kp (bi_steps_to T) tk (ma_cons (me_v 0) (ma_cons (me_v 1) (ma_cons (me_v 2) ma_nil)))))))
theorem bi_far (T : Tx K mg) : Binds K T.fd_far ["many", "one", "other"] [] := T.F_far.binds (ps := ["many", "one", "other"]) fun _ _ _ _ _ _ us hl => match us, hl with | [_, _, _], _ => rfl
theorem ok_far (T : Tx K mg) : FnOk P w K mg base (L2.CX P w) (1 + 1) T.f_far T.fd_far ["many", "one", "other"] (spF K mg 3 F_far) :=
  fn_ok' (k := 1) T.F_far sc_far fun cdv A outer s H E hr tk po => (mss_one (ms_ret (me_abs (by rfl) T.z_abs (ma_cons (me_call (ps := ["many", "one", "other"]) (ok_steps_to T) (hr.mono (by decide)) (by rfl) T.m_steps_to T.F_steps_to.kp (bi_steps_to T) tk (ma_cons (me_v 0) (ma_cons (me_v 1) (ma_cons (me_v 2) ma_nil)))) ma_nil))))
theorem bi_turns (T : Tx K mg) : Binds K T.fd_turns ["many", "one", "other"] [] := T.F_turns.binds (ps := ["many", "one", "other"]) fun _ _ _ _ _ _ us hl => match us, hl with | [_, _, _], _ => rfl
theorem ok_turns (T : Tx K mg) : FnOk P w K mg base (L2.CX P w) (3 + 1) T.f_turns T.fd_turns ["many", "one", "other"] (spF K mg 3 F_turns) :=
  fn_ok' (k := 3) T.F_turns sc_turns fun cdv A outer s H E hr tk po => (mss_cons (ms_expr (me_call (ps := ["many", "one", "other"]) (ok_look_all T) (hr.mono (by decide)) (by rfl) T.m_look_all T.F_look_all.kp (bi_look_all T) tk (ma_cons (me_v 0) (ma_cons (me_v 1) (ma_cons (me_v 2) ma_nil))))) (mss_one (ms_ret (me_call (ps := ["many", "one", "other"]) (ok_far T) (hr.mono (by decide)) (by rfl) T.m_far T.F_far.kp (bi_far T) tk (ma_cons (me_v 0) (ma_cons (me_v 1) (ma_cons (me_v 2) ma_nil)))))))
theorem bi_law (T : Tx K mg) : Binds K T.fd_law ["script"] [] := T.F_law.binds (ps := ["script"]) fun _ _ _ _ _ _ us hl => match us, hl with | [_], _ => rfl
theorem ok_law (T : Tx K mg) : FnOk P w K mg base (L2.CX P w) (4 + 1) T.f_law T.fd_law ["script"] (spF K mg 1 F_law) :=
  fn_ok' (k := 4) T.F_law sc_law fun cdv A outer s H E hr tk po => (mss_cons (ms_set (i := 1) sc_law.nd rfl (Or.inr rfl) (me_add me_int (me_call (ps := ["script", "k", "many"]) (ok__law_pick T) (hr.mono (by decide)) (by rfl) T.m__law_pick T.F__law_pick.kp (bi__law_pick T) tk (ma_cons (me_v 0) (ma_cons me_int (ma_cons me_int ma_nil)))))) (mss_cons (ms_for (vs := [2]) po (by rfl) (mi_range1 (by rfl) T.z_range (ma_cons me_int ma_nil)) (mg_name (i := 2) sc_law.nd rfl (Or.inr rfl)) (mss_cons (ms_asg (vs := [3, 4, 5]) (me_lc (own := [("j", 8)]) (by rfl) sc_law.nd (mi_range1 (by rfl) T.z_range (ma_cons me_int ma_nil)) (blkOk_by (N := N_law) (sc := (defScope s_law)) (own := [("j", 8)]) (by decide +kernel)) (fun _ _ _ _ _ => (mg_name (i := 8) sc_law.nd rfl (Or.inl rfl))) (fun _ _ _ _ _ => mts_nil) (fun _ _ _ _ _ => (me_call (ps := ["script", "k", "many"]) (ok__law_pick T) (hr.mono (by decide)) (by rfl) T.m__law_pick T.F__law_pick.kp (bi__law_pick T) takesWF (ma_cons (me_v 0) (ma_cons (me_add (me_add me_int (me_mul me_int (me_v 2))) (me_v 8)) (ma_cons (me_v 1) ma_nil)))))) (mg_lst (by rfl) (mgs_cons (mg_name (i := 3) sc_law.nd rfl (Or.inl rfl)) (mgs_cons (mg_name (i := 4) sc_law.nd rfl (Or.inl rfl)) (mgs_cons (mg_name (i := 5) sc_law.nd rfl (Or.inl rfl)) mgs_nil))))) (mss_cons (ms_par2 (i := 6) (j := 7) (by rfl) sc_law.nd rfl rfl (by decide) rfl rfl (ma_cons (me_call (ps := ["many", "one", "other"]) (ok_steps T) (hr.mono (by decide)) (by rfl) T.m_steps T.F_steps.kp (bi_steps T) tk (ma_cons (me_v 1) (ma_cons (me_v 3) (ma_cons (me_v 4) ma_nil)))) (ma_cons (me_call (ps := ["many", "one", "other"]) (ok_turns T) (hr.mono (by decide)) (by rfl) T.m_turns T.F_turns.kp (bi_turns T) tk (ma_cons (me_v 1) (ma_cons (me_v 3) (ma_cons (me_v 4) ma_nil)))) ma_nil)) (by rfl)) (mss_cons (ms_if (MW.mt (mw_or (mt_ne hr (me_call (ps := ["many", "start", "row"]) (ok_reached T) (hr.mono (by decide)) (by rfl) T.m_reached T.F_reached.kp (bi_reached T) tk (ma_cons (me_v 1) (ma_cons (me_v 3) (ma_cons (me_lst (ma_cons (me_v 6) ma_nil)) ma_nil)))) (me_lst (ma_cons (me_v 4) ma_nil))) (mw_or (mt_ne hr (me_abs (by rfl) T.z_abs (ma_cons (me_v 6) ma_nil)) (me_v 7)) (mw_or (mt_ne hr (me_call (ps := ["many", "one", "other"]) (ok_turns T) (hr.mono (by decide)) (by rfl) T.m_turns T.F_turns.kp (bi_turns T) tk (ma_cons (me_v 1) (ma_cons (me_v 4) (ma_cons (me_v 3) ma_nil)))) (me_v 7)) (mw_or1 (mt_gt (me_mul me_int (me_v 7)) (me_v 1))))))) (mss_one (ms_ret me_bl)) mss_nil) (mss_cons (ms_if (MW.mt (mw_or (mt_gt (me_v 7) (me_add (me_call (ps := ["many", "one", "other"]) (ok_turns T) (hr.mono (by decide)) (by rfl) T.m_turns T.F_turns.kp (bi_turns T) tk (ma_cons (me_v 1) (ma_cons (me_v 3) (ma_cons (me_v 5) ma_nil)))) (me_call (ps := ["many", "one", "other"]) (ok_turns T) (hr.mono (by decide)) (by rfl) T.m_turns T.F_turns.kp (bi_turns T) tk (ma_cons (me_v 1) (ma_cons (me_v 5) (ma_cons (me_v 4) ma_nil)))))) (mw_or1 (mt_ne hr (me_eq hr (me_v 7) me_int) (me_eq hr (me_v 3) (me_v 4)))))) (mss_one (ms_ret me_bl)) mss_nil) (mss_cons (ms_if (MW.mt (mw_or (mt_ne hr (me_call (ps := ["many", "one", "other"]) (ok_turns T) (hr.mono (by decide)) (by rfl) T.m_turns T.F_turns.kp (bi_turns T) tk (ma_cons (me_v 1) (ma_cons (me_mod (me_neg (me_v 3)) (me_v 1)) (ma_cons (me_mod (me_neg (me_v 4)) (me_v 1)) ma_nil)))) (me_v 7)) (mw_or1 (mt_notIn hr (me_call (ps := ["many", "one", "other"]) (ok_steps T) (hr.mono (by decide)) (by rfl) T.m_steps T.F_steps.kp (bi_steps T) tk (ma_cons (me_v 1) (ma_cons (me_v 4) (ma_cons (me_v 3) ma_nil)))) (me_tup (ma_cons (me_v 6) (ma_cons (me_neg (me_v 6)) ma_nil))))))) (mss_one (ms_ret me_bl)) mss_nil) (mss_cons (ms_if (MW.mt (mw_and (mt_eq hr (me_mul me_int (me_v 7)) (me_v 1)) (mw_and1 (mt_lt (me_v 6) me_int)))) (mss_one (ms_ret me_bl)) mss_nil) (mss_one (ms_if (mt_ne hr (me_call (ps := ["many", "start", "row"]) (ok_reached T) (hr.mono (by decide)) (by rfl) T.m_reached T.F_reached.kp (bi_reached T) tk (ma_cons (me_v 1) (ma_cons (me_v 3) (ma_cons (me_tup (ma_cons (me_v 6) (ma_cons (me_neg (me_v 6)) (ma_cons (me_v 1) (ma_cons (me_neg (me_v 1)) ma_nil))))) ma_nil)))) (me_lst (ma_cons (me_v 4) (ma_cons (me_v 3) (ma_cons (me_v 3) (ma_cons (me_v 3) ma_nil)))))) (mss_one (ms_ret me_bl)) mss_nil))))))))) (mss_one (ms_ret (me_eq hr (me_call (ps := ["many", "start", "row"]) (ok_reached T) (hr.mono (by decide)) (by rfl) T.m_reached T.F_reached.kp (bi_reached T) tk (ma_cons (me_v 1) (ma_cons me_int (ma_cons (me_tup ma_nil) ma_nil)))) (me_lst ma_nil))))))
end
end Lw
namespace Lw
open PySem PySem.Spec PyProof.Rows L2 Mi
open Mi.Da (toD)
theorem F_is_whole_int (x lo hi : Int) : F_is_whole [.int x, .int lo, .int hi] = .ok (.bl (decide (lo ≤ x) && decide (x ≤ hi))) := by
  unfold F_is_whole b_is_whole
  simp
  by_cases h : lo ≤ x <;> simp [h]
def stepsTo (m a b : Int) : Int := if 2 * ((b - a) % m) ≤ m then (b - a) % m else (b - a) % m - m
@[simp] theorem small2 : small 2 = true := by decide
theorem F_steps_to_int (m a b : Int) (hm : 0 < m) : F_steps_to [.int m, .int a, .int b] = .ok (.int (stepsTo m a b)) := by
  unfold F_steps_to b_steps_to stepsTo
  simp [hm]
  split <;> simp [*]
theorem F_look_round_ok (m : Int) (h : 3 ≤ m ∧ m ≤ 16) : F_look_round [.int m] = .ok .non := by
  unfold F_look_round b_look_round
  simp [F_is_whole_int, h]
theorem F_look_shelf_ok (m a : Int) (h : 0 ≤ a ∧ a < m) : F_look_shelf [.int m, .int a] = .ok .non := by
  unfold F_look_shelf b_look_shelf
  have : a ≤ m - 1 := by omega
  simp [F_is_whole_int, h, this]
theorem F_look_all_ok (m a b : Int) (h : 3 ≤ m ∧ m ≤ 16) (ha : 0 ≤ a ∧ a < m) (hb : 0 ≤ b ∧ b < m) : F_look_all [.int m, .int a, .int b] = .ok .non := by
  unfold F_look_all b_look_all
  simp [F_look_round_ok, F_look_shelf_ok, h, ha, hb]
theorem F_steps_ok (m a b : Int) (h : 3 ≤ m ∧ m ≤ 16) (ha : 0 ≤ a ∧ a < m) (hb : 0 ≤ b ∧ b < m) : F_steps [.int m, .int a, .int b] = .ok (.int (stepsTo m a b)) := by
  unfold F_steps b_steps
  simp [F_look_all_ok, F_steps_to_int, h, ha, hb, show 0 < m by omega]
def far (m a b : Int) : Int := if stepsTo m a b < 0 then - stepsTo m a b else stepsTo m a b
theorem F_far_int (m a b : Int) (hm : 0 < m) : F_far [.int m, .int a, .int b] = .ok (.int (far m a b)) := by
  unfold F_far b_far
  simp [F_steps_to_int, hm, far]
theorem F_turns_ok (m a b : Int) (h : 3 ≤ m ∧ m ≤ 16) (ha : 0 ≤ a ∧ a < m) (hb : 0 ≤ b ∧ b < m) : F_turns [.int m, .int a, .int b] = .ok (.int (far m a b)) := by
  unfold F_turns b_turns
  simp [F_look_all_ok, F_far_int, h, ha, hb, show 0 < m by omega]
def reach (m : Int) : Int → List Int → List Int
  | _, [] => []
  | a, x :: xs => ((a + x) % m) :: reach m ((a + x) % m) xs
theorem reach_loop (m st : Int) (row : D) (hm : 0 < m) : ∀ (xs : List Int) (h : Int) (l : List Int) (o : Option D), l.length + xs.length < 1000000 → ∃ a b, loopS (gN 5) lb1_reached (xs.map D.int) [some (.int m), some (.int st), some row, some (.cell 0), some (.int h), o] [.lst (l.map D.int)] = .next [some (.int m), some (.int st), some row, some (.cell 0), a, b] [.lst ((l ++ reach m h xs).map D.int)]
  | [], h, l, o, hl => ⟨some (.int h), o, by simp [reach]⟩
  | x :: xs, h, l, o, hl => by
    have ih := reach_loop m st row hm xs ((h + x) % m) (l ++ [(h + x) % m]) (some (.int x)) (by simp at *; omega)
    obtain ⟨a, b, e⟩ := ih
    refine ⟨a, b, ?_⟩
    have hl' : (l.map D.int).length < 1000000 := by simp at *; omega
    have e1 : lb1_reached [some (.int m), some (.int st), some row, some (.cell 0), some (.int h), some (.int x)] [.lst (l.map D.int)] = .next [some (.int m), some (.int st), some row, some (.cell 0), some (.int ((h + x) % m)), some (.int x)] [.lst ((l ++ [(h + x) % m]).map D.int)] := by
      unfold lb1_reached
      simp [hm, kAppend_ _ _ hl']
    simp [loopS, e1]
    simp [reach] at e ⊢
    exact e
theorem clean_ints (xs : List Int) : cleanL (xs.map D.int) = true := cleanL_map (α := Int) xs
theorem F_reached_ok (m a : Int) (xs : List Int) (h : 3 ≤ m ∧ m ≤ 16) (ha : 0 ≤ a ∧ a < m) (hl : xs.length < 1000000) : F_reached [.int m, .int a, .lst (xs.map D.int)] = .ok (.lst ((reach m a xs).map D.int)) := by
  obtain ⟨x, y, e⟩ := reach_loop m a (.lst (xs.map D.int)) (by omega) xs a [] none (by simpa using hl)
  simp at e
  unfold F_reached b_reached
  simp [F_look_round_ok, F_look_shelf_ok, h, ha, sFor, e, clean_ints]
theorem F_reached_okT (m a : Int) (xs : List Int) (h : 3 ≤ m ∧ m ≤ 16) (ha : 0 ≤ a ∧ a < m) (hl : xs.length < 1000000) : F_reached [.int m, .int a, .tup (xs.map D.int)] = .ok (.lst ((reach m a xs).map D.int)) := by
  obtain ⟨x, y, e⟩ := reach_loop m a (.tup (xs.map D.int)) (by omega) xs a [] none (by simpa using hl)
  simp at e
  unfold F_reached b_reached
  simp [F_look_round_ok, F_look_shelf_ok, h, ha, sFor, e, clean_ints]
/-- the cells of the script, the draws -/
def cellN (ns : List Int) (k : Int) : Int := if k < ns.length then ns.getD k.toNat 0 else if ns = [] then 0 else ns.getD (k % ns.length).toNat 0 * 31 + k
def pick (ns : List Int) (k m : Int) : Int := let d := (cellN ns k + 6151 * (k + 1)) * 40692 % 2147483399; (d * d + d / 31) % 2147483629 % m
theorem pick_lo (ns : List Int) (k : Int) {m : Int} (h : 0 < m) : 0 ≤ pick ns k m := Int.emod_nonneg _ (by omega)
theorem pick_hi (ns : List Int) (k : Int) {m : Int} (h : 0 < m) : pick ns k m < m := Int.emod_lt_of_pos _ h
theorem atI_getD (ns : List Int) (k : Int) (h0 : 0 ≤ k) (h1 : k < ns.length) : atI ns k = some (ns.getD k.toNat 0) := by
  unfold atI ixN
  rw [if_pos h0, if_pos h1]
  show ns[k.toNat]? = _
  have : k.toNat < ns.length := by omega
  rw [List.getElem?_eq_getElem this, List.getD_eq_getElem?_getD, List.getElem?_eq_getElem this]; rfl
theorem pyEq_scr (ns : List Int) : pyEq (.scr ns) (.lst []) = some (decide (ns = [])) := by
  have h : pyEq (.scr ns) (.lst []) = pyEq (toD ns) (toD ([] : List Int)) := by
    unfold pyEq
    rw [Da.ok, Da.ok]
    rfl
  rw [h, pyEq_da (by decide)]
@[simp] theorem small31 : small 31 = true := by decide
@[simp] theorem small40692 : small 40692 = true := by decide
@[simp] theorem small6151 : small 6151 = true := by decide
theorem F_cell_ok (ns : List Int) (k : Int) (hk : 0 ≤ k) : F__law_cell [.scr ns, .int k] = .ok (.int (cellN ns k)) := by
  unfold F__law_cell b__law_cell cellN
  simp
  by_cases h : k < ns.length
  · simp [h, oAt, atI_getD ns k hk h]
  · by_cases h2 : ns = []
    · subst h2
      have h' : ¬ k < 0 := by omega
      simp [h', pyEq_scr]
    · have hp : 0 < ns.length := List.length_pos_iff.mpr h2
      have h3 := atI_getD ns (k % ns.length) (Int.emod_nonneg _ (by omega)) (Int.emod_lt_of_pos _ (by omega))
      have hp' : (0 : Int) < ns.length := by omega
      simp [h, pyEq_scr, h2, oAt, hp, h3]
theorem F_pick_ok (ns : List Int) (k m : Int) (hk : 0 ≤ k) (hm : 0 < m) : F__law_pick [.scr ns, .int k, .int m] = .ok (.int (pick ns k m)) := by
  unfold F__law_pick b__law_pick pick
  have hd : small ((cellN ns k + 6151 * (k + 1)) * 40692 % 2147483399) = true := by
    rw [small_iff]
    have h1 := Int.emod_nonneg ((cellN ns k + 6151 * (k + 1)) * 40692) (show (2147483399 : Int) ≠ 0 by decide)
    have h2 := Int.emod_lt_of_pos ((cellN ns k + 6151 * (k + 1)) * 40692) (show (0 : Int) < 2147483399 by decide)
    omega
  simp [F_cell_ok ns k hk, hd, hm]
end Lw
namespace Lw
open PySem PySem.Spec PyProof.Rows L2 Mi
open Mi.Da (toD)
theorem emod_of {x m b : Int} (k : Int) (h : x = b + m * k) (h0 : 0 ≤ b) (h1 : b < m) : x % m = b := by
  rw [h, Int.add_mul_emod_self_left, Int.emod_eq_of_lt h0 h1]
theorem sub_emod {m a b : Int} (ha : 0 ≤ a ∧ a < m) (hb : 0 ≤ b ∧ b < m) : (b - a) % m = if a ≤ b then b - a else b - a + m := by
  by_cases h : a ≤ b
  · rw [if_pos h]; exact Int.emod_eq_of_lt (by omega) (by omega)
  · rw [if_neg h]; exact emod_of (-1) (by omega) (by omega) (by omega)
theorem neg_emod {m a : Int} (ha : 0 ≤ a ∧ a < m) : (-a) % m = if a = 0 then 0 else m - a := by
  by_cases h : a = 0
  · rw [if_pos h, h]; simp
  · rw [if_neg h]; exact emod_of (-1) (by omega) (by omega) (by omega)
theorem stepsTo_lin {m a b : Int} (ha : 0 ≤ a ∧ a < m) (hb : 0 ≤ b ∧ b < m) : stepsTo m a b = if a ≤ b then (if 2 * (b - a) ≤ m then b - a else b - a - m) else (if 2 * (b - a + m) ≤ m then b - a + m else b - a) := by
  unfold stepsTo
  rw [sub_emod ha hb]
  split
  · rfl
  · split <;> omega
section
variable {m a b c : Int}
theorem step_to (h : 3 ≤ m ∧ m ≤ 16) (ha : 0 ≤ a ∧ a < m) (hb : 0 ≤ b ∧ b < m) : (a + stepsTo m a b) % m = b := by
  rw [stepsTo_lin ha hb]
  split
  · split
    · exact emod_of 0 (by omega) hb.1 hb.2
    · exact emod_of (-1) (by omega) hb.1 hb.2
  · split
    · exact emod_of 1 (by omega) hb.1 hb.2
    · exact emod_of 0 (by omega) hb.1 hb.2
theorem step_back (h : 3 ≤ m ∧ m ≤ 16) (ha : 0 ≤ a ∧ a < m) (hb : 0 ≤ b ∧ b < m) : (b + - stepsTo m a b) % m = a := by
  rw [stepsTo_lin ha hb]
  split
  · split
    · exact emod_of 0 (by omega) ha.1 ha.2
    · exact emod_of 1 (by omega) ha.1 ha.2
  · split
    · exact emod_of (-1) (by omega) ha.1 ha.2
    · exact emod_of 0 (by omega) ha.1 ha.2
theorem far_sym (ha : 0 ≤ a ∧ a < m) (hb : 0 ≤ b ∧ b < m) : far m b a = far m a b := by
  unfold far
  rw [stepsTo_lin ha hb, stepsTo_lin hb ha]
  repeat' split
  all_goals omega
theorem far_half (ha : 0 ≤ a ∧ a < m) (hb : 0 ≤ b ∧ b < m) : 2 * far m a b ≤ m := by
  unfold far
  rw [stepsTo_lin ha hb]
  repeat' split
  all_goals omega
theorem far_min (ha : 0 ≤ a ∧ a < m) (hb : 0 ≤ b ∧ b < m) : far m a b = min (if a ≤ b then b - a else a - b) (m - (if a ≤ b then b - a else a - b)) := by
  unfold far
  rw [stepsTo_lin ha hb]
  repeat' split
  all_goals omega
theorem far_tri (ha : 0 ≤ a ∧ a < m) (hb : 0 ≤ b ∧ b < m) (hc : 0 ≤ c ∧ c < m) : far m a b ≤ far m a c + far m c b := by
  rw [far_min ha hb, far_min ha hc, far_min hc hb]
  repeat' split
  all_goals omega
theorem far_zero (ha : 0 ≤ a ∧ a < m) (hb : 0 ≤ b ∧ b < m) : far m a b = 0 ↔ a = b := by
  rw [far_min ha hb]
  split <;> omega
theorem far_neg (hm : 0 < m) (ha : 0 ≤ a ∧ a < m) (hb : 0 ≤ b ∧ b < m) : far m ((-a) % m) ((-b) % m) = far m a b := by
  have e1 := neg_emod ha
  have e2 := neg_emod hb
  rw [far_min ⟨Int.emod_nonneg _ (by omega), Int.emod_lt_of_pos _ hm⟩ ⟨Int.emod_nonneg _ (by omega), Int.emod_lt_of_pos _ hm⟩, far_min ha hb, e1, e2]
  repeat' split
  all_goals omega
theorem step_sym (ha : 0 ≤ a ∧ a < m) (hb : 0 ≤ b ∧ b < m) : stepsTo m b a = stepsTo m a b ∨ stepsTo m b a = - stepsTo m a b := by
  rw [stepsTo_lin ha hb, stepsTo_lin hb ha]
  repeat' split
  all_goals omega
theorem step_on (ha : 0 ≤ a ∧ a < m) (hb : 0 ≤ b ∧ b < m) (h : 2 * far m a b = m) : ¬ stepsTo m a b < 0 := by
  unfold far at h
  rw [stepsTo_lin ha hb] at *
  repeat' split at h
  all_goals (try split)
  all_goals (try split)
  all_goals omega
end
theorem pyEq_bl (a b : Bool) : pyEq (.bl a) (.bl b) = some (a == b) := by
  cases a <;> cases b <;> rfl
theorem pyEq_ints (xs ys : List Int) : pyEq (.lst (xs.map D.int)) (.lst (ys.map D.int)) = some (decide (xs = ys)) := pyEq_da (α := List Int) (by decide) xs ys
theorem pyEq_i0 : pyEq (.lst []) (.lst []) = some true := by decide +kernel
theorem pyEq_i1 (a b : Int) : pyEq (.lst [.int a]) (.lst [.int b]) = some (decide (a = b)) := by
  rw [show ([.int a] : List D) = [a].map D.int from rfl, show ([.int b] : List D) = [b].map D.int from rfl, pyEq_ints]; simp
theorem pyEq_i4 (a b c d a' b' c' d' : Int) : pyEq (.lst [.int a, .int b, .int c, .int d]) (.lst [.int a', .int b', .int c', .int d']) = some (decide (a = a' ∧ b = b' ∧ c = c' ∧ d = d')) := by
  rw [show ([.int a, .int b, .int c, .int d] : List D) = [a, b, c, d].map D.int from rfl, show ([.int a', .int b', .int c', .int d'] : List D) = [a', b', c', d'].map D.int from rfl, pyEq_ints]; simp
theorem anyEq_i2 (x a b : Int) : anyEq (.int x) [.int a, .int b] = some (decide (x = a ∨ x = b)) := by
  rw [show ([.int a, .int b] : List D) = [a, b].map toD from rfl, show (D.int x) = toD x from rfl, anyEq_da (by decide)]; simp
theorem law_body (ns : List Int) (m k : Int) (h : 3 ≤ m ∧ m ≤ 16) (hk : 0 ≤ k) (o3 o4 o5 o6 o7 o8 : Option D) :
    ∃ p3 p4 p5 p6 p7 p8, lb1_law [some (.scr ns), some (.int m), some (.int k), o3, o4, o5, o6, o7, o8] [] = .next [some (.scr ns), some (.int m), some (.int k), p3, p4, p5, p6, p7, p8] [] := by
  have hm : 0 < m := by omega
  have b0 : 0 ≤ pick ns (10 + 3 * k + 0) m ∧ pick ns (10 + 3 * k + 0) m < m := ⟨pick_lo _ _ hm, pick_hi _ _ hm⟩
  have b1 : 0 ≤ pick ns (10 + 3 * k + 1) m ∧ pick ns (10 + 3 * k + 1) m < m := ⟨pick_lo _ _ hm, pick_hi _ _ hm⟩
  have b2 : 0 ≤ pick ns (10 + 3 * k + 2) m ∧ pick ns (10 + 3 * k + 2) m < m := ⟨pick_lo _ _ hm, pick_hi _ _ hm⟩
  have hc : compM (gN 8) bYes ce1_law [some (.scr ns), some (.int m), some (.int k), o3, o4, o5, o6, o7, none] (rangeD 0 3) = M.ret [.int (pick ns (10 + 3 * k + 0) m), .int (pick ns (10 + 3 * k + 1) m), .int (pick ns (10 + 3 * k + 2) m)] := by
    have e := compM_map (g := gN 8) (e := ce1_law) (ρ := [some (.scr ns), some (.int m), some (.int k), o3, o4, o5, o6, o7, none]) (fun d => match d with | .int j => .int (pick ns (10 + 3 * k + j) m) | d => d) (rangeD 0 3) ?_
    · rw [e]; simp [rangeD, List.range_succ]
    · intro d hd
      simp only [rangeD, List.mem_map, List.mem_range] at hd
      obtain ⟨i, hi, rfl⟩ := hd
      have hs : small 3 = true := by decide
      refine ⟨_, rfl, ?_⟩
      unfold ce1_law
      simp [hs, F_pick_ok ns _ m (show 0 ≤ 10 + 3 * k + (i : Int) by omega) hm]
  generalize pick ns (10 + 3 * k + 0) m = a at *
  generalize pick ns (10 + 3 * k + 1) m = b at *
  generalize pick ns (10 + 3 * k + 2) m = c at *
  refine ⟨some (.int a), some (.int b), some (.int c), some (.int (stepsTo m a b)), some (.int (far m a b)), o8, ?_⟩
  have hna : 0 ≤ -a % m ∧ -a % m < m := ⟨Int.emod_nonneg _ (by omega), Int.emod_lt_of_pos _ hm⟩
  have hnb : 0 ≤ -b % m ∧ -b % m < m := ⟨Int.emod_nonneg _ (by omega), Int.emod_lt_of_pos _ hm⟩
  have r1 := F_reached_ok m a [stepsTo m a b] h b0 (by simp)
  have r4 := F_reached_okT m a [stepsTo m a b, -stepsTo m a b, m, -m] h b0 (by simp)
  have s1 := step_to h b0 b1
  have s2 := step_back h b0 b1
  have s3 : (a + m) % m = a := emod_of 1 (by omega) b0.1 b0.2
  have s4 : (a + -m) % m = a := emod_of (-1) (by omega) b0.1 b0.2
  simp [reach, s1, s2, s3, s4] at r1 r4
  have hab : (if stepsTo m a b < 0 then -stepsTo m a b else stepsTo m a b) = far m a b := rfl
  have t1 := far_sym b0 b1
  have t2 := far_half b0 b1
  have t3 := far_tri b0 b1 b2
  have t4 := far_zero b0 b1
  have t5 := far_neg hm b0 b1
  have t6 := step_sym b0 b1
  have t7 := step_on b0 b1
  unfold lb1_law
  simp [eLc, wipeE, hc, big62, F_steps_ok, F_turns_ok, h, b0, b1, b2, hna, hnb, hm, r1, r4, pyEq_i1, pyEq_i4, pyEq_bl, anyEq_i2, hab, t1, t5]
  rw [if_neg (show ¬ m < 2 * far m a b by omega), if_neg (show ¬ far m a c + far m c b < far m a b by omega), if_pos t4, if_neg (show ¬ (¬stepsTo m b a = stepsTo m a b ∧ ¬stepsTo m b a = -stepsTo m a b) by omega)]
  by_cases hh : 2 * far m a b = m
  · rw [if_pos hh, if_neg (t7 hh)]
  · rw [if_neg hh]
theorem law_true : ∀ ns : List Int, ns.length ≤ 63 → F_law [.scr ns] = .ok (.bl true) := by
  intro ns _
  have h0 : 0 ≤ pick ns 0 14 := pick_lo ns 0 (by decide)
  have h1 : pick ns 0 14 < 14 := pick_hi ns 0 (by decide)
  have hm : 3 ≤ 3 + pick ns 0 14 ∧ 3 + pick ns 0 14 ≤ 16 := by omega
  have hl := loop_inv (g := gN 2) (s := lb1_law) (fun ρ ω => ω = [] ∧ ∃ o2 o3 o4 o5 o6 o7 o8, ρ = [some (.scr ns), some (.int (3 + pick ns 0 14)), o2, o3, o4, o5, o6, o7, o8]) (rangeD 0 6) [some (.scr ns), some (.int (3 + pick ns 0 14)), none, none, none, none, none, none, none] [] ?_ ⟨rfl, _, _, _, _, _, _, _, rfl⟩
  · obtain ⟨ρ', ω', e, rfl, o2, o3, o4, o5, o6, o7, o8, rfl⟩ := hl
    have r0 := F_reached_okT (3 + pick ns 0 14) 0 [] hm (by omega) (by decide)
    simp [reach] at r0
    unfold F_law b_law
    simp [sFor, F_pick_ok ns 0 14 (by decide) (by decide), big62, e, r0, pyEq_i0]
  · rintro d hd ρ ω ⟨rfl, o2, o3, o4, o5, o6, o7, o8, rfl⟩
    simp only [rangeD, List.mem_map, List.mem_range] at hd
    obtain ⟨i, hi, rfl⟩ := hd
    obtain ⟨p3, p4, p5, p6, p7, p8, e⟩ := law_body ns (3 + pick ns 0 14) (0 + (i : Int)) hm (by omega) o3 o4 o5 o6 o7 o8
    exact ⟨_, _, _, rfl, e, rfl, _, _, _, _, _, _, _, rfl⟩
end Lw
namespace Lw
open PySem PySem.Spec PyProof.Rows L2 Mi
theorem all_mk {l : PySem.W.OpenLaw} {w : World} {K : PySem.W.Frag} {h : Heap} {mg : Str → Option Value} {fa : Addr} (X : K.In h) (G : h.Ns mainGlobals mg) (hfa : mg "law" = some (.ref fa))
    {f__law_cell : Addr} {oc__law_cell kV__law_cell dc__law_cell pm__law_cell cd__law_cell ct__law_cell : Value} {od__law_cell an__law_cell : Option Addr} {sl__law_cell : Array (Option Value)}
    {f__law_pick : Addr} {oc__law_pick kV__law_pick dc__law_pick pm__law_pick cd__law_pick ct__law_pick : Value} {od__law_pick an__law_pick : Option Addr} {sl__law_pick : Array (Option Value)}
    {f_is_whole : Addr} {oc_is_whole kV_is_whole dc_is_whole pm_is_whole cd_is_whole ct_is_whole : Value} {od_is_whole an_is_whole : Option Addr} {sl_is_whole : Array (Option Value)}
    {f_look_round : Addr} {oc_look_round kV_look_round dc_look_round pm_look_round cd_look_round ct_look_round : Value} {od_look_round an_look_round : Option Addr} {sl_look_round : Array (Option Value)}
    {f_look_shelf : Addr} {oc_look_shelf kV_look_shelf dc_look_shelf pm_look_shelf cd_look_shelf ct_look_shelf : Value} {od_look_shelf an_look_shelf : Option Addr} {sl_look_shelf : Array (Option Value)}
    {f_reached : Addr} {oc_reached kV_reached dc_reached pm_reached cd_reached ct_reached : Value} {od_reached an_reached : Option Addr} {sl_reached : Array (Option Value)}
    {f_look_all : Addr} {oc_look_all kV_look_all dc_look_all pm_look_all cd_look_all ct_look_all : Value} {od_look_all an_look_all : Option Addr} {sl_look_all : Array (Option Value)}
    {f_steps_to : Addr} {oc_steps_to kV_steps_to dc_steps_to pm_steps_to cd_steps_to ct_steps_to : Value} {od_steps_to an_steps_to : Option Addr} {sl_steps_to : Array (Option Value)}
    {f_steps : Addr} {oc_steps kV_steps dc_steps pm_steps cd_steps ct_steps : Value} {od_steps an_steps : Option Addr} {sl_steps : Array (Option Value)}
    {f_far : Addr} {oc_far kV_far dc_far pm_far cd_far ct_far : Value} {od_far an_far : Option Addr} {sl_far : Array (Option Value)}
    {f_turns : Addr} {oc_turns kV_turns dc_turns pm_turns cd_turns ct_turns : Value} {od_turns an_turns : Option Addr} {sl_turns : Array (Option Value)}
    {f_law : Addr} {oc_law kV_law dc_law pm_law cd_law ct_law : Value} {od_law an_law : Option Addr} {sl_law : Array (Option Value)}
    {tk_MOST : Tok}
    {C_NoRound : Addr}
    {C_NoShelf : Addr}
    (a__law_cell : PySem.W.nsIn K mainGlobals "_law_cell" = some (some (.ref f__law_cell)))
    (l__law_cell : K.lookup f__law_cell = some ⟨oc__law_cell, od__law_cell, .func (PySem.W.fnOf "_law_cell" "_law_cell" (defArgs s__law_cell) (defBody s__law_cell) (defScope s__law_cell) .none kV__law_cell dc__law_cell pm__law_cell an__law_cell cd__law_cell ct__law_cell), sl__law_cell⟩)
    (cc__law_cell : PySem.W.codeIn K cd__law_cell "_law_cell" = true)
    (kk__law_cell : PySem.W.keepIn K (.ref f__law_cell) = true)
    (a__law_pick : PySem.W.nsIn K mainGlobals "_law_pick" = some (some (.ref f__law_pick)))
    (l__law_pick : K.lookup f__law_pick = some ⟨oc__law_pick, od__law_pick, .func (PySem.W.fnOf "_law_pick" "_law_pick" (defArgs s__law_pick) (defBody s__law_pick) (defScope s__law_pick) .none kV__law_pick dc__law_pick pm__law_pick an__law_pick cd__law_pick ct__law_pick), sl__law_pick⟩)
    (cc__law_pick : PySem.W.codeIn K cd__law_pick "_law_pick" = true)
    (kk__law_pick : PySem.W.keepIn K (.ref f__law_pick) = true)
    (a_is_whole : PySem.W.nsIn K mainGlobals "is_whole" = some (some (.ref f_is_whole)))
    (l_is_whole : K.lookup f_is_whole = some ⟨oc_is_whole, od_is_whole, .func (PySem.W.fnOf "is_whole" "is_whole" (defArgs s_is_whole) (defBody s_is_whole) (defScope s_is_whole) .none kV_is_whole dc_is_whole pm_is_whole an_is_whole cd_is_whole ct_is_whole), sl_is_whole⟩)
    (cc_is_whole : PySem.W.codeIn K cd_is_whole "is_whole" = true)
    (kk_is_whole : PySem.W.keepIn K (.ref f_is_whole) = true)
    (a_look_round : PySem.W.nsIn K mainGlobals "look_round" = some (some (.ref f_look_round)))
    (l_look_round : K.lookup f_look_round = some ⟨oc_look_round, od_look_round, .func (PySem.W.fnOf "look_round" "look_round" (defArgs s_look_round) (defBody s_look_round) (defScope s_look_round) .none kV_look_round dc_look_round pm_look_round an_look_round cd_look_round ct_look_round), sl_look_round⟩)
    (cc_look_round : PySem.W.codeIn K cd_look_round "look_round" = true)
    (kk_look_round : PySem.W.keepIn K (.ref f_look_round) = true)
    (a_look_shelf : PySem.W.nsIn K mainGlobals "look_shelf" = some (some (.ref f_look_shelf)))
    (l_look_shelf : K.lookup f_look_shelf = some ⟨oc_look_shelf, od_look_shelf, .func (PySem.W.fnOf "look_shelf" "look_shelf" (defArgs s_look_shelf) (defBody s_look_shelf) (defScope s_look_shelf) .none kV_look_shelf dc_look_shelf pm_look_shelf an_look_shelf cd_look_shelf ct_look_shelf), sl_look_shelf⟩)
    (cc_look_shelf : PySem.W.codeIn K cd_look_shelf "look_shelf" = true)
    (kk_look_shelf : PySem.W.keepIn K (.ref f_look_shelf) = true)
    (a_reached : PySem.W.nsIn K mainGlobals "reached" = some (some (.ref f_reached)))
    (l_reached : K.lookup f_reached = some ⟨oc_reached, od_reached, .func (PySem.W.fnOf "reached" "reached" (defArgs s_reached) (defBody s_reached) (defScope s_reached) .none kV_reached dc_reached pm_reached an_reached cd_reached ct_reached), sl_reached⟩)
    (cc_reached : PySem.W.codeIn K cd_reached "reached" = true)
    (kk_reached : PySem.W.keepIn K (.ref f_reached) = true)
    (a_look_all : PySem.W.nsIn K mainGlobals "look_all" = some (some (.ref f_look_all)))
    (l_look_all : K.lookup f_look_all = some ⟨oc_look_all, od_look_all, .func (PySem.W.fnOf "look_all" "look_all" (defArgs s_look_all) (defBody s_look_all) (defScope s_look_all) .none kV_look_all dc_look_all pm_look_all an_look_all cd_look_all ct_look_all), sl_look_all⟩)
    (cc_look_all : PySem.W.codeIn K cd_look_all "look_all" = true)
    (kk_look_all : PySem.W.keepIn K (.ref f_look_all) = true)
    (a_steps_to : PySem.W.nsIn K mainGlobals "steps_to" = some (some (.ref f_steps_to)))
    (l_steps_to : K.lookup f_steps_to = some ⟨oc_steps_to, od_steps_to, .func (PySem.W.fnOf "steps_to" "steps_to" (defArgs s_steps_to) (defBody s_steps_to) (defScope s_steps_to) .none kV_steps_to dc_steps_to pm_steps_to an_steps_to cd_steps_to ct_steps_to), sl_steps_to⟩)
    (cc_steps_to : PySem.W.codeIn K cd_steps_to "steps_to" = true)
    (kk_steps_to : PySem.W.keepIn K (.ref f_steps_to) = true)
    (a_steps : PySem.W.nsIn K mainGlobals "steps" = some (some (.ref f_steps)))
    (l_steps : K.lookup f_steps = some ⟨oc_steps, od_steps, .func (PySem.W.fnOf "steps" "steps" (defArgs s_steps) (defBody s_steps) (defScope s_steps) .none kV_steps dc_steps pm_steps an_steps cd_steps ct_steps), sl_steps⟩)
    (cc_steps : PySem.W.codeIn K cd_steps "steps" = true)
    (kk_steps : PySem.W.keepIn K (.ref f_steps) = true)
    (a_far : PySem.W.nsIn K mainGlobals "far" = some (some (.ref f_far)))
    (l_far : K.lookup f_far = some ⟨oc_far, od_far, .func (PySem.W.fnOf "far" "far" (defArgs s_far) (defBody s_far) (defScope s_far) .none kV_far dc_far pm_far an_far cd_far ct_far), sl_far⟩)
    (cc_far : PySem.W.codeIn K cd_far "far" = true)
    (kk_far : PySem.W.keepIn K (.ref f_far) = true)
    (a_turns : PySem.W.nsIn K mainGlobals "turns" = some (some (.ref f_turns)))
    (l_turns : K.lookup f_turns = some ⟨oc_turns, od_turns, .func (PySem.W.fnOf "turns" "turns" (defArgs s_turns) (defBody s_turns) (defScope s_turns) .none kV_turns dc_turns pm_turns an_turns cd_turns ct_turns), sl_turns⟩)
    (cc_turns : PySem.W.codeIn K cd_turns "turns" = true)
    (kk_turns : PySem.W.keepIn K (.ref f_turns) = true)
    (a_law : PySem.W.nsIn K mainGlobals "law" = some (some (.ref f_law)))
    (l_law : K.lookup f_law = some ⟨oc_law, od_law, .func (PySem.W.fnOf "law" "law" (defArgs s_law) (defBody s_law) (defScope s_law) .none kV_law dc_law pm_law an_law cd_law ct_law), sl_law⟩)
    (cc_law : PySem.W.codeIn K cd_law "law" = true)
    (kk_law : PySem.W.keepIn K (.ref f_law) = true)
    (z_abs : PySem.W.nsIn K mainGlobals "abs" = some none)
    (z_bool : PySem.W.nsIn K mainGlobals "bool" = some none)
    (z_int : PySem.W.nsIn K mainGlobals "int" = some none)
    (z_isinstance : PySem.W.nsIn K mainGlobals "isinstance" = some none)
    (z_len : PySem.W.nsIn K mainGlobals "len" = some none)
    (z_range : PySem.W.nsIn K mainGlobals "range" = some none)
    (c_MOST : PySem.W.nsIn K mainGlobals "MOST" = some (some (.int 16 tk_MOST)))
    (g_NoRound : PySem.W.nsIn K mainGlobals "NoRound" = some (some (.ref C_NoRound)))
    (x_NoRound : PySem.W.excIn K C_NoRound [.type "ValueError", .type "Exception", .type "BaseException", .type "object"] "ValueError.__new__" = true)
    (k_NoRound : PySem.W.keepIn K (.ref C_NoRound) = true)
    (b_NoRound : PySem.W.subIn K (.ref C_NoRound) (.type "BaseException") = some true)
    (t_NoRound : PySem.W.typeIn K (.ref C_NoRound) = some (.type "type"))
    (g_NoShelf : PySem.W.nsIn K mainGlobals "NoShelf" = some (some (.ref C_NoShelf)))
    (x_NoShelf : PySem.W.excIn K C_NoShelf [.type "ValueError", .type "Exception", .type "BaseException", .type "object"] "ValueError.__new__" = true)
    (k_NoShelf : PySem.W.keepIn K (.ref C_NoShelf) = true)
    (b_NoShelf : PySem.W.subIn K (.ref C_NoShelf) (.type "BaseException") = some true)
    (t_NoShelf : PySem.W.typeIn K (.ref C_NoShelf) = some (.type "type"))
    : ∃ fd : FuncData, (∀ (s : Shared) (v : Value), BindsTo s fd ⟨[v], []⟩ [("script", v)]) ∧ ∀ base : Heap, K.In base → base.Ns mainGlobals mg → FnOk l.prog w K mg base (L2.CX l.prog w) 5 fa fd ["script"] (spLaw K) := by
  have e := hfa.symm.trans (PySem.W.mg_of X G a_law)
  cases e
  let T : Tx K mg := { f__law_cell := f__law_cell, fd__law_cell := _, F__law_cell := fun_mk (st := s__law_cell) l__law_cell cc__law_cell kk__law_cell, m__law_cell := PySem.W.mg_of X G a__law_cell, f__law_pick := f__law_pick, fd__law_pick := _, F__law_pick := fun_mk (st := s__law_pick) l__law_pick cc__law_pick kk__law_pick, m__law_pick := PySem.W.mg_of X G a__law_pick, f_is_whole := f_is_whole, fd_is_whole := _, F_is_whole := fun_mk (st := s_is_whole) l_is_whole cc_is_whole kk_is_whole, m_is_whole := PySem.W.mg_of X G a_is_whole, f_look_round := f_look_round, fd_look_round := _, F_look_round := fun_mk (st := s_look_round) l_look_round cc_look_round kk_look_round, m_look_round := PySem.W.mg_of X G a_look_round, f_look_shelf := f_look_shelf, fd_look_shelf := _, F_look_shelf := fun_mk (st := s_look_shelf) l_look_shelf cc_look_shelf kk_look_shelf, m_look_shelf := PySem.W.mg_of X G a_look_shelf, f_reached := f_reached, fd_reached := _, F_reached := fun_mk (st := s_reached) l_reached cc_reached kk_reached, m_reached := PySem.W.mg_of X G a_reached, f_look_all := f_look_all, fd_look_all := _, F_look_all := fun_mk (st := s_look_all) l_look_all cc_look_all kk_look_all, m_look_all := PySem.W.mg_of X G a_look_all, f_steps_to := f_steps_to, fd_steps_to := _, F_steps_to := fun_mk (st := s_steps_to) l_steps_to cc_steps_to kk_steps_to, m_steps_to := PySem.W.mg_of X G a_steps_to, f_steps := f_steps, fd_steps := _, F_steps := fun_mk (st := s_steps) l_steps cc_steps kk_steps, m_steps := PySem.W.mg_of X G a_steps, f_far := f_far, fd_far := _, F_far := fun_mk (st := s_far) l_far cc_far kk_far, m_far := PySem.W.mg_of X G a_far, f_turns := f_turns, fd_turns := _, F_turns := fun_mk (st := s_turns) l_turns cc_turns kk_turns, m_turns := PySem.W.mg_of X G a_turns, f_law := fa, fd_law := _, F_law := fun_mk (st := s_law) l_law cc_law kk_law, m_law := PySem.W.mg_of X G a_law, z_abs := PySem.W.mg_none_of X G z_abs, z_bool := PySem.W.mg_none_of X G z_bool, z_int := PySem.W.mg_none_of X G z_int, z_isinstance := PySem.W.mg_none_of X G z_isinstance, z_len := PySem.W.mg_none_of X G z_len, z_range := PySem.W.mg_none_of X G z_range, tk_MOST := tk_MOST, c_MOST := PySem.W.mg_of X G c_MOST, C_NoRound := C_NoRound, g_NoRound := PySem.W.mg_of X G g_NoRound, x_NoRound := x_NoRound, k_NoRound := k_NoRound, b_NoRound := b_NoRound, t_NoRound := t_NoRound, C_NoShelf := C_NoShelf, g_NoShelf := PySem.W.mg_of X G g_NoShelf, x_NoShelf := x_NoShelf, k_NoShelf := k_NoShelf, b_NoShelf := b_NoShelf, t_NoShelf := t_NoShelf }
  exact ⟨_, fun s v => .of_eq rfl, fun base _ _ => law_ok (ok_law T) law_true⟩
end Lw
open PySem PySem.W PyProof.Rows
set_option maxHeartbeats 0 in
theorem PySem.Challenge.cw_shelfround_k83_whole_steps_held_holds : PySem.Challenge.rw_shelfround_k83_whole_steps_held.Holds := by
  w_on; o_law; k_head; (case hw => w_witness2)
  k_fill
  refine L2.walk_of (l := PySem.Challenge.rw_shelfround_k83_whole_steps_held) (n := 63) (k := 5) (x := "script") (CX := fun w => L2.CX (PySem.Challenge.rw_shelfround_k83_whole_steps_held).prog w) (sp := fun w => Mi.spLaw _) rfl (by decide) rfl ⟨rfl, by decide, by decide⟩ (fun w h Y => PySem.W.kIn_of Y) ?F (fun _ _ a ns hl _ hS => ⟨a, ns, rfl, hS, hl, fun _ => rfl⟩) (fun _ _ _ _ _ h => Mi.cx_false h)
  case F =>
    intro w mg fa h KX G hmg
    refine' Lw.all_mk KX G hmg ?a__law_cell ?l__law_cell ?cc__law_cell ?kk__law_cell ?a__law_pick ?l__law_pick ?cc__law_pick ?kk__law_pick ?a_is_whole ?l_is_whole ?cc_is_whole ?kk_is_whole ?a_look_round ?l_look_round ?cc_look_round ?kk_look_round ?a_look_shelf ?l_look_shelf ?cc_look_shelf ?kk_look_shelf ?a_reached ?l_reached ?cc_reached ?kk_reached ?a_look_all ?l_look_all ?cc_look_all ?kk_look_all ?a_steps_to ?l_steps_to ?cc_steps_to ?kk_steps_to ?a_steps ?l_steps ?cc_steps ?kk_steps ?a_far ?l_far ?cc_far ?kk_far ?a_turns ?l_turns ?cc_turns ?kk_turns ?a_law ?l_law ?cc_law ?kk_law ?z_abs ?z_bool ?z_int ?z_isinstance ?z_len ?z_range ?c_MOST ?g_NoRound ?x_NoRound ?k_NoRound ?b_NoRound ?t_NoRound ?g_NoShelf ?x_NoShelf ?k_NoShelf ?b_NoShelf ?t_NoShelf
    (case a__law_cell => k_is)
    (case l__law_cell => k_is)
    (case cc__law_cell => k_is)
    (case kk__law_cell => k_is)
    (case a__law_pick => k_is)
    (case l__law_pick => k_is)
    (case cc__law_pick => k_is)
    (case kk__law_pick => k_is)
    (case a_is_whole => k_is)
    (case l_is_whole => k_is)
    (case cc_is_whole => k_is)
    (case kk_is_whole => k_is)
    (case a_look_round => k_is)
    (case l_look_round => k_is)
    (case cc_look_round => k_is)
    (case kk_look_round => k_is)
    (case a_look_shelf => k_is)
    (case l_look_shelf => k_is)
    (case cc_look_shelf => k_is)
    (case kk_look_shelf => k_is)
    (case a_reached => k_is)
    (case l_reached => k_is)
    (case cc_reached => k_is)
    (case kk_reached => k_is)
    (case a_look_all => k_is)
    (case l_look_all => k_is)
    (case cc_look_all => k_is)
    (case kk_look_all => k_is)
    (case a_steps_to => k_is)
    (case l_steps_to => k_is)
    (case cc_steps_to => k_is)
    (case kk_steps_to => k_is)
    (case a_steps => k_is)
    (case l_steps => k_is)
    (case cc_steps => k_is)
    (case kk_steps => k_is)
    (case a_far => k_is)
    (case l_far => k_is)
    (case cc_far => k_is)
    (case kk_far => k_is)
    (case a_turns => k_is)
    (case l_turns => k_is)
    (case cc_turns => k_is)
    (case kk_turns => k_is)
    (case a_law => k_is)
    (case l_law => k_is)
    (case cc_law => k_is)
    (case kk_law => k_is)
    (case z_abs => k_is)
    (case z_bool => k_is)
    (case z_int => k_is)
    (case z_isinstance => k_is)
    (case z_len => k_is)
    (case z_range => k_is)
    (case c_MOST => k_is)
    (case g_NoRound => k_is)
    (case x_NoRound => k_exc)
    (case k_NoRound => k_is)
    (case b_NoRound => k_is)
    (case t_NoRound => k_is)
    (case g_NoShelf => k_is)
    (case x_NoShelf => k_exc)
    (case k_NoShelf => k_is)
    (case b_NoShelf => k_is)
    (case t_NoShelf => k_is)
